import PyProof.Rows.All
import HandS.ForMost
import KE.SortData
import HandS.Flow
import HandS.Deep
import HandS.TupAny
import HandS.IsInst
import HandS.Style
import PyProof.TupleOfStr
import HandS.Zip
import HandS.NoneIn
import KE.GoesEnum
import HandS.Defaults
import HandS.Exc
import HandS.WordsExc
import HandS.ExcOwn
import HandS.Star
import HandS.DictComp
import KE.DataFind
import KE.KDictList
import HandS.Conv
import HandS.TupSets
import HandS.SetTxt0
import HandS.ExcIs
import HandS.HeadHook1
import HandS.TryMany
import HandS.EndBits
import HandS.Head0
import HandS.Head1
import HandS.Head2
import HandS.HeadEnd
import HandS.HeadHook2
import HandS.HeadHook4
import PySem.Challenge.RW_reportalike_k04_one_order_for_all_varian
set_option Elab.async false
set_option linter.all false
set_option autoImplicit false
set_option maxRecDepth 100000
/-! Ra: a small evaluator over plain data. -/
namespace Ra
open PySem

/-- a value of the evaluator: data; a list that is new; a cell (a list that may be changed) -/
inductive Val where
  | d (x : PyData) | fr (xs : List PyData) | mr (k : Nat) | dv (kvs : List (PyData × PyData))
structure Cell where
  fz : Bool
  xs : List PyData
abbrev Mem := List Cell
structure Exn where
  cls : Nat
  vals : List PyData
inductive Res (α : Type) where
  | ok (a : α) (m : Mem) | exc (x : Exn) (m : Mem) | fail
def Res.bind {α β : Type} (r : Res α) (f : α → Mem → Res β) : Res β :=
  match r with
  | .ok a m => f a m
  | .exc x m => .exc x m
  | .fail => .fail
@[simp] theorem Res.bind_ok {α β : Type} (a : α) (m : Mem) (f : α → Mem → Res β) : (Res.ok a m).bind f = f a m := rfl
@[simp] theorem Res.bind_fail {α β : Type} (f : α → Mem → Res β) : (Res.fail : Res α).bind f = .fail := rfl
@[simp] theorem Res.bind_exc {α β : Type} (x : Exn) (m : Mem) (f : α → Mem → Res β) : (Res.exc x m : Res α).bind f = .exc x m := rfl
/-- an exception where none is served -/
def Res.noX {α : Type} (r : Res α) : Res α := match r with
  | .ok a m => .ok a m
  | .exc _ _ => .fail
  | .fail => .fail
@[simp] theorem Res.noX_ok {α : Type} (a : α) (m : Mem) : (Res.ok a m).noX = .ok a m := rfl
@[simp] theorem Res.noX_fail {α : Type} : (Res.fail : Res α).noX = .fail := rfl
@[simp] theorem Res.noX_exc {α : Type} (x : Exn) (m : Mem) : (Res.exc x m : Res α).noX = .fail := rfl
/-- the cells from n on go -/
def Res.cutX {α : Type} (n : Nat) (r : Res α) : Res α := match r with
  | .ok a m => .ok a m
  | .exc x m => .exc x (m.take n)
  | .fail => .fail
@[simp] theorem Res.cutX_ok {α : Type} (n : Nat) (a : α) (m : Mem) : (Res.ok a m).cutX n = .ok a m := rfl
@[simp] theorem Res.cutX_fail {α : Type} (n : Nat) : (Res.fail : Res α).cutX n = .fail := rfl
@[simp] theorem Res.cutX_exc {α : Type} (n : Nat) (x : Exn) (m : Mem) : (Res.exc x m : Res α).cutX n = .exc x (m.take n) := rfl
def optR {α : Type} (o : Option α) (m : Mem) : Res α :=
  match o with
  | some a => .ok a m
  | none => .fail
@[simp] theorem optR_some {α : Type} (a : α) (m : Mem) : optR (some a) m = .ok a m := rfl
@[simp] theorem optR_none {α : Type} (m : Mem) : optR (none : Option α) m = .fail := rfl

def Val.nf : Val → Val
  | .fr xs => .d (.list xs)
  | v => v
/-- read a value -/
def rd (m : Mem) : Val → Option PyData
  | .d x => some x
  | .fr xs => some (.list xs)
  | .mr k => (m[k]?).map fun c => .list c.xs
  | .dv _ => none
/-- put a value into a container: a cell is fixed -/
def frz (v : Val) (m : Mem) : Res PyData :=
  match v with
  | .d x => .ok x m
  | .fr xs => .ok (.list xs) m
  | .mr k => match m[k]? with
    | some c => .ok (.list c.xs) (m.set k { c with fz := true })
    | none => .fail
  | .dv _ => .fail
/-- a new list becomes a cell -/
def mkCell (v : Val) (m : Mem) : Res Val :=
  match v with
  | .fr xs => .ok (.mr m.length) (m ++ [⟨false, xs⟩])
  | .d x => .ok (.d x) m
  | .mr k => .ok (.mr k) m
  | .dv kvs => .ok (.dv kvs) m

inductive Bop where
  | add | sub | mul | fdiv | mod | pow
  deriving DecidableEq
inductive Cop where
  | eq | ne | lt | le | gt | ge | isin | notin
  deriving DecidableEq
inductive Cls where
  | int | bool | str | list | tuple | dict
  deriving DecidableEq
inductive Bi where
  | len | abs | int | list | tuple | sorted | sortedset | lenset | all | any | min2 | max2
  deriving DecidableEq
/-- what is walked -/
inductive Sk where
  | seq | range | range2 | zip | enum
  deriving DecidableEq
inductive Tg where
  | nm (i : Nat) | tp (ts : List Tg)

/-- 2 ^ 24 -/
def lim : Nat := 16777216
/-- the texts that are served -/
def sOk (x : Str) : Bool := PyData.strOk x && decide (x.length ≤ lim)
def small64 (i : Int) : Bool := decide (-18446744073709551616 < i) && decide (i < 18446744073709551616)

def addD : PyData → PyData → Option Val
  | .int i, .int j => some (.d (.int (i + j)))
  | .str x, .str y => if x.length + y.length ≤ lim then some (.d (.str (x ++ y))) else none
  | .list xs, .list ys => if xs.length + ys.length ≤ lim then some (.fr (xs ++ ys)) else none
  | .tuple xs, .tuple ys => if xs.length + ys.length ≤ lim then some (.d (.tuple (xs ++ ys))) else none
  | _, _ => none
def subD : PyData → PyData → Option Val
  | .int i, .int j => some (.d (.int (i - j)))
  | _, _ => none
def mulD : PyData → PyData → Option Val
  | .int i, .int j => if (small64 i || small64 j) = true then some (.d (.int (i * j))) else none
  | .list xs, .int k => if 0 ≤ k ∧ k < 1000000 ∧ xs.length * k.toNat ≤ lim then some (.fr (List.replicate k.toNat xs).flatten) else none
  | _, _ => none
def fdivD : PyData → PyData → Option Val
  | .int i, .int j => if j ≠ 0 ∧ j.natAbs < 1073741824 then some (.d (.int (i.fdiv j))) else none
  | _, _ => none
def modD : PyData → PyData → Option Val
  | .int i, .int j => if j ≠ 0 then some (.d (.int (i.fmod j))) else none
  | _, _ => none
def powD : PyData → PyData → Option Val
  | .int i, .int j => if 0 ≤ j ∧ j ≤ 1000 ∧ i.natAbs < 18446744073709551616 then some (.d (.int (i ^ j.toNat))) else none
  | _, _ => none
def bop : Bop → PyData → PyData → Option Val
  | .add => addD
  | .sub => subD
  | .mul => mulD
  | .fdiv => fdivD
  | .mod => modD
  | .pow => powD

def deep (x y : PyData) : Bool := decide (min x.depth y.depth ≤ 64)
def strLt (x y : Str) : Bool := decide (x.cps.toList < y.cps.toList)
def strLe (x y : Str) : Bool := decide (x.cps.toList ≤ y.cps.toList)
def inStr (x y : Str) : Bool := !(Builtin.Str.occurrences y x 0 y.length 1).isEmpty
/-- x in ys -/
def inAll (x : PyData) (ys : List PyData) : Option Bool := if x.depth ≤ 64 then some (ys.any fun y => PyData.eqv y x) else none
def ltD : PyData → PyData → Option Bool
  | .int i, .int j => some (decide (i < j))
  | .str i, .str j => some (strLt i j)
  | .tuple xs, .tuple ys => if (PySem.W.alike (.tuple xs) (.tuple ys) && deep (.tuple xs) (.tuple ys)) = true then some (PySem.W.dataLt (.tuple xs) (.tuple ys)) else none
  | _, _ => none
def leD : PyData → PyData → Option Bool
  | .int i, .int j => some (decide (i ≤ j))
  | .str i, .str j => some (!strLt j i)
  | _, _ => none
def gtD : PyData → PyData → Option Bool
  | .int i, .int j => some (decide (j < i))
  | _, _ => none
def geD : PyData → PyData → Option Bool
  | .int i, .int j => some (decide (j ≤ i))
  | _, _ => none
def inD : PyData → PyData → Option Bool
  | .str x, .str y => some (inStr x y)
  | x, .list ys => inAll x ys
  | x, .tuple ys => inAll x ys
  | _, _ => none
def cmp : Cop → PyData → PyData → Option Bool
  | .eq, x, y => if deep x y = true then some (PyData.eqv x y) else none
  | .ne, x, y => if deep x y = true then some (!PyData.eqv x y) else none
  | .lt, x, y => ltD x y
  | .le, x, y => leD x y
  | .gt, x, y => gtD x y
  | .ge, x, y => geD x y
  | .isin, x, y => inD x y
  | .notin, x, y => (inD x y).map (!·)

def isNone : PyData → Bool
  | .none => true
  | _ => false
def truth : PyData → Option Bool
  | .none => some false
  | .bool b => some b
  | .int i => some (i != 0)
  | .str s => some (s.length != 0)
  | .list xs => some (!xs.isEmpty)
  | .tuple xs => some (!xs.isEmpty)
  | .dict _ => none

def isi : PyData → Cls → Bool
  | .bool _, .bool => true
  | .bool _, .int => true
  | .int _, .int => true
  | .str _, .str => true
  | .list _, .list => true
  | .tuple _, .tuple => true
  | _, _ => false

def one (c : Nat) : PyData := .str ⟨#[c]⟩
def signs (s : Str) : List PyData := s.cps.toList.map one
/-- the items of a sequence -/
def items : PyData → Option (List PyData)
  | .list xs => some xs
  | .tuple xs => some xs
  | .str s => some (signs s)
  | _ => none
def idx (x : PyData) (i : PyData) : Option PyData :=
  match x, i with
  | .list xs, .int i => L2.atI xs i
  | .tuple xs, .int i => L2.atI xs i
  | .str s, .int i => (L2.atI s.cps.toList i).map one
  | _, _ => none
def cut {α : Type} (xs : List α) (lo hi : Option Int) : List α :=
  (xs.drop (HT.sIx xs.length 0 lo)).take (HT.sIx xs.length xs.length hi - HT.sIx xs.length 0 lo)
def cutS (z : Str) (lo hi : Option Int) : Str := ⟨(cut z.cps.toList lo hi).toArray⟩
def slc (x : PyData) (lo hi : Option Int) : Option Val :=
  match x with
  | .list xs => some (.fr (cut xs lo hi))
  | .tuple xs => some (.d (.tuple (cut xs lo hi)))
  | .str z => if sOk (cutS z lo hi) = true then some (.d (.str (cutS z lo hi))) else none
  | _ => none
def revd : PyData → Option Val
  | .list xs => some (.fr xs.reverse)
  | .tuple xs => some (.d (.tuple xs.reverse))
  | _ => none

def bools : List PyData → Option (List Bool)
  | [] => some []
  | .bool b :: r => (bools r).map (b :: ·)
  | _ => none
/-! order of data -/
/-- x is put behind all that are not greater -/
def ins (x : PyData) : List PyData → List PyData
  | [] => [x]
  | y :: ys => if PySem.W.dataLt x y = true then x :: y :: ys else y :: ins x ys
def isort : List PyData → List PyData → List PyData
  | acc, [] => acc
  | acc, x :: xs => isort (ins x acc) xs
def allAlike (xs : List PyData) : Bool := xs.all fun x => xs.all fun y => PySem.W.alike x y
def isTupC : PyData → Bool
  | .tuple (_ :: _) => true
  | _ => false
def isPlainC : PyData → Bool
  | .int _ => true
  | .str _ => true
  | _ => false
def isTup : PyData → Bool
  | .tuple _ => true
  | _ => false
/-- tuples, the first of them empty -/
def tup0 : List PyData → Bool
  | .tuple [] :: r => r.all isTup
  | _ => false
def sortable (xs : List PyData) : Bool := xs.all isTupC || xs.all isPlainC || tup0 xs
def sortD (xs : List PyData) : Option (List PyData) := if (allAlike xs && sortable xs && decide (PyData.depthAll xs ≤ 64)) = true then some (isort [] xs) else none
def dedup : List PyData → List PyData → List PyData
  | acc, [] => acc.reverse
  | acc, x :: xs => if acc.any (fun y => PyData.eqv y x) then dedup acc xs else dedup (x :: acc) xs
def allStr : List PyData → Bool
  | [] => true
  | .str _ :: r => allStr r
  | _ => false
def lenD : List PyData → Option Val
  | [.list xs] => some (.d (.int xs.length))
  | [.tuple xs] => some (.d (.int xs.length))
  | [.str s] => some (.d (.int s.length))
  | _ => none
def absD : List PyData → Option Val
  | [.int i] => some (.d (.int (if i < 0 then -i else i)))
  | _ => none
def intD : List PyData → Option Val
  | [.int i] => some (.d (.int i))
  | [.bool b] => some (.d (.int (if b then 1 else 0)))
  | _ => none
def listD : List PyData → Option Val
  | [x] => (items x).map .fr
  | _ => none
def tupleD : List PyData → Option Val
  | [x] => (items x).map fun xs => .d (.tuple xs)
  | _ => none
def sortedD : List PyData → Option Val
  | [.list xs] => (sortD xs).map .fr
  | [.tuple xs] => (sortD xs).map .fr
  | _ => none
def sortedsetD : List PyData → Option Val
  | [.list xs] => if allStr xs = true ∧ xs.length < 4000 then (sortD (dedup [] xs)).map .fr else none
  | [.tuple xs] => if allStr xs = true ∧ xs.length < 4000 then (sortD (dedup [] xs)).map .fr else none
  | _ => none
def lensetD : List PyData → Option Val
  | [.list xs] => if allStr xs = true ∧ xs.length < 4000 then some (.d (.int (dedup [] xs).length)) else none
  | [.tuple xs] => if allStr xs = true ∧ xs.length < 4000 then some (.d (.int (dedup [] xs).length)) else none
  | _ => none
def allD : List PyData → Option Val
  | [.list xs] => (bools xs).map fun bs => .d (.bool (bs.all id))
  | _ => none
def anyD : List PyData → Option Val
  | [.list xs] => (bools xs).map fun bs => .d (.bool (bs.any id))
  | _ => none
def min2D : List PyData → Option Val
  | [.int i, .int j] => some (.d (.int (if j < i then j else i)))
  | _ => none
def max2D : List PyData → Option Val
  | [.int i, .int j] => some (.d (.int (if i < j then j else i)))
  | _ => none
def bi : Bi → List PyData → Option Val
  | .len => lenD
  | .abs => absD
  | .int => intD
  | .list => listD
  | .tuple => tupleD
  | .sorted => sortedD
  | .sortedset => sortedsetD
  | .lenset => lensetD
  | .all => allD
  | .any => anyD
  | .min2 => min2D
  | .max2 => max2D

inductive E where
  | bad
  | var (i : Nat)
  | cst (c : PyData)
  | glo (c : PyData)
  | tup (es : List E)
  | lst (es : List E)
  | call (f : Nat) (es : List E)
  | callk (f : Nat) (is : List Nat) (es : List E)
  | callc (f : Nat) (es : List E)
  | cell (e : E)
  | op (o : Bop) (a b : E)
  | neg (a : E)
  | cmp (o : Cop) (a b : E)
  | chain (o o' : Cop) (a b c : E)
  | isN (a : E)
  | isnN (a : E)
  | band (es : List E)
  | bor (es : List E)
  | not (a : E)
  | ite (c a b : E)
  | idx (a i : E)
  | sl (a : E)
  | slL (a lo : E)
  | slU (a hi : E)
  | slLU (a lo hi : E)
  | rev (a : E)
  | bi (b : Bi) (es : List E)
  | isi (a : E) (cs : List Cls)
  | pop (i : Nat) (e : E)
  | tupS (bs : List Bool) (es : List E)
  | lstS (bs : List Bool) (es : List E)
  | dc (own : List Nat) (t : Tg) (k : Sk) (src : List E) (tests : List E) (ke ve : E)
  | dmk (e : E)
  | dget (d k x : E)
  | dat (d k : E)
  | din (neg : Bool) (k d : E)
  | lidx (i : Nat) (e : E)
  | lc (own : List Nat) (t : Tg) (k : Sk) (src : List E) (tests : List E) (elt : E)
  | lc2 (own own1 : List Nat) (t : Tg) (k : Sk) (src : List E) (tests : List E) (t1 : Tg) (k1 : Sk) (src1 : List E) (tests1 : List E) (elt : E)

abbrev Env := List (Option Val)
def getV (env : Env) (i : Nat) : Option Val := (env[i]?).getD none
def setV (env : Env) (i : Nat) (v : Val) : Env := env.set i (some v)
def wipe (env : Env) : List Nat → Env
  | [] => env
  | i :: r => (wipe env r).set i none
/-! assignment to a target -/
mutual
def asg : Tg → PyData → Env → Option Env
  | .nm i, x, env => if i < env.length then some (setV env i (.d x)) else none
  | .tp ts, x, env => match x with
    | .tuple xs => asgs ts xs env
    | .list xs => asgs ts xs env
    | _ => none
def asgs : List Tg → List PyData → Env → Option Env
  | [], [], env => some env
  | t :: ts, x :: xs, env => match asg t x env with
    | some env' => asgs ts xs env'
    | none => none
  | _, _, _ => none
end
def zipD : List PyData → List PyData → List PyData
  | x :: xs, y :: ys => .tuple [x, y] :: zipD xs ys
  | _, _ => []
def enumD : Nat → List PyData → List PyData
  | _, [] => []
  | i, x :: xs => .tuple [.int i, x] :: enumD (i + 1) xs
def rangeD (lo : Int) : Nat → List PyData
  | 0 => []
  | n + 1 => .int lo :: rangeD (lo + 1) n
/-- the cells that a walk leans on -/
def guards : List Val → List Nat
  | [] => []
  | .mr k :: r => k :: guards r
  | _ :: r => guards r
def lookAll (m : Mem) : List Val → Option (List PyData)
  | [] => some []
  | v :: r => match rd m v, lookAll m r with
    | some x, some xs => some (x :: xs)
    | _, _ => none
def walk (k : Sk) (xs : List PyData) : Option (List PyData) :=
  match k, xs with
  | .seq, [x] => items x
  | .range, [.int n] => if n ≤ 1000000 ∧ -1000000 ≤ n then some (rangeD 0 n.toNat) else none
  | .range2, [.int a, .int b] => if a ≤ 1000000 ∧ -1000000 ≤ a ∧ b ≤ 1000000 ∧ -1000000 ≤ b then some (rangeD a (b - a).toNat) else none
  | .zip, [.list xs, .list ys] => some (zipD xs ys)
  | .zip, [.tuple xs, .tuple ys] => some (zipD xs ys)
  | .enum, [.list xs] => some (enumD 0 xs)
  | .enum, [.tuple xs] => some (enumD 0 xs)
  | _, _ => none
/-! equality of data -/
mutual
def beqD : PyData → PyData → Bool
  | .none, .none => true
  | .bool a, .bool b => a == b
  | .int i, .int j => i == j
  | .str x, .str y => x == y
  | .list xs, .list ys => beqDs xs ys
  | .tuple xs, .tuple ys => beqDs xs ys
  | .dict xs, .dict ys => beqPs xs ys
  | _, _ => false
def beqDs : List PyData → List PyData → Bool
  | [], [] => true
  | x :: xs, y :: ys => beqD x y && beqDs xs ys
  | _, _ => false
def beqPs : List (PyData × PyData) → List (PyData × PyData) → Bool
  | [], [] => true
  | (x, u) :: xs, (y, v) :: ys => beqD x y && beqD u v && beqPs xs ys
  | _, _ => false
end
/-- the cells that are walked stay as they were -/
def same : List Nat → Mem → Mem → Bool
  | [], _, _ => true
  | k :: r, m, m' => (match m[k]?, m'[k]? with
      | some c, some c' => beqDs c.xs c'.xs
      | _, _ => false) && same r m m'

/-! expressions -/
abbrev Call := Nat → List Val → Mem → Res Val
abbrev EV := Env → Mem → Res Val
abbrev ET := Env → Mem → Res Bool
/-- an expression as a value, as a test -/
structure P where
  v : EV
  t : ET
def rdR (m : Mem) (v : Val) : Res PyData := optR (rd m v) m
def truR (v : Val) (m : Mem) : Res Bool := (rdR m v).bind fun x m1 => optR (truth x) m1
def ofV (v : EV) : P := ⟨v, fun env m => (v env m).bind truR⟩
def boolR (b : Bool) (m : Mem) : Res Val := .ok (.d (.bool b)) m

/-- the items of a container -/
def cItems : List P → Env → Mem → Res (List PyData)
  | [], _, m => .ok [] m
  | e :: es, env, m => (e.v env m).bind fun v m1 => (frz v m1).bind fun x m2 => (cItems es env m2).bind fun xs m3 => .ok (x :: xs) m3
/-- arguments -/
def cArgs : List P → Env → Mem → Res (List Val)
  | [], _, m => .ok [] m
  | e :: es, env, m => (e.v env m).bind fun v m1 => (cArgs es env m1).bind fun vs m2 => .ok (v.nf :: vs) m2
def cTup (es : List P) : EV := fun env m => (cItems es env m).bind fun xs m1 => .ok (.d (.tuple xs)) m1
def cLst (es : List P) : EV := fun env m => (cItems es env m).bind fun xs m1 => .ok (.fr xs) m1
def seqI : PyData → Option (List PyData)
  | .list xs => some xs
  | .tuple xs => some xs
  | _ => none
/-- .. some of them starred -/
def cItemsS : List Bool → List P → Env → Mem → Res (List PyData)
  | [], [], _, m => .ok [] m
  | false :: bs, e :: es, env, m => (e.v env m).bind fun v m1 => (frz v m1).bind fun x m2 => (cItemsS bs es env m2).bind fun xs m3 => .ok (x :: xs) m3
  | true :: bs, e :: es, env, m => (e.v env m).bind fun v m1 => (rdR m1 v.nf).bind fun x m2 => (optR (seqI x) m2).bind fun ys m3 => (cItemsS bs es env m3).bind fun xs m4 => .ok (ys ++ xs) m4
  | _, _, _, _ => .fail
def cTupS (bs : List Bool) (es : List P) : EV := fun env m => (cItemsS bs es env m).bind fun xs m1 => if xs.length ≤ lim then .ok (.d (.tuple xs)) m1 else .fail
def cLstS (bs : List Bool) (es : List P) : EV := fun env m => (cItemsS bs es env m).bind fun xs m1 => if xs.length ≤ lim then .ok (.fr xs) m1 else .fail
/-! dicts: keys are texts and numbers -/
def keyB : PyData → Bool
  | .int _ => true
  | .str _ => true
  | _ => false
def dLook : List (PyData × PyData) → PyData → Option PyData
  | [], _ => none
  | (k, v) :: r, x => if beqD k x = true then some v else dLook r x
def dPut (kvs : List (PyData × PyData)) (k v : PyData) : List (PyData × PyData) :=
  if (kvs.any fun p => beqD p.1 k) = true then kvs.map (fun p => if beqD p.1 k = true then (p.1, v) else p) else kvs ++ [(k, v)]
/-- some of a list, by their places -/
def pick {α : Type} (is : List Nat) (l : List α) : List α := is.filterMap fun i => l[i]?
def cCallK (call : Call) (f : Nat) (is : List Nat) (es : List P) : EV := fun env m => (cArgs es env m).bind fun vs m1 => call f (pick is vs) m1
def cCall (call : Call) (f : Nat) (es : List P) : EV := fun env m => (cArgs es env m).bind fun vs m1 => call f vs m1
/-- behind a def: its own cells go -/
def leave (n : Nat) (v : Val) (m : Mem) : Res Val := match v with
  | .mr k => if k < n then .ok (.mr k) (m.take n) else (match m[k]? with
    | some c => .ok (if c.fz = true then .d (.list c.xs) else .fr c.xs) (m.take n)
    | none => .fail)
  | v => .ok v (m.take n)
def cCallC (call : Call) (f : Nat) (es : List P) : EV := fun env m => (cArgs es env m).bind fun vs m1 => (call f vs m1).bind fun v m2 => leave m.length v m2
def cCell (e : P) : EV := fun env m => (e.v env m).bind mkCell
/-- one operand, by what it reads -/
def c1 (a : P) (f : PyData → Mem → Res Val) : EV := fun env m => (a.v env m).bind fun va m1 => (rdR m1 va.nf).bind f
/-- two operands, read when both are there -/
def c2 (a b : P) (f : PyData → PyData → Mem → Res Val) : EV := fun env m => (a.v env m).bind fun va m1 => (b.v env m1).bind fun vb m2 =>
  (rdR m2 va.nf).bind fun x m3 => (rdR m3 vb.nf).bind fun y m4 => f x y m4
def intR (x : PyData) (m : Mem) : Res Int := match x with
  | .int i => .ok i m
  | _ => .fail
def cSl3 (a b c : P) : EV := fun env m => (a.v env m).bind fun va m1 => (b.v env m1).bind fun vb m2 => (rdR m2 vb.nf).bind fun y m3 => (intR y m3).bind fun l m4 =>
  (c.v env m4).bind fun vc m5 => (rdR m5 va.nf).bind fun x m6 => (rdR m6 vc.nf).bind fun z m7 => (intR z m7).bind fun h m8 => optR (slc x (some l) (some h)) m8
def cmpR (o : Cop) (x y : PyData) (m : Mem) : Res Val := (optR (cmp o x y) m).bind boolR
def cChain (o o' : Cop) (a b c : P) : EV := fun env m => (a.v env m).bind fun va m1 => (b.v env m1).bind fun vb m2 =>
  (rdR m2 va.nf).bind fun x m3 => (rdR m3 vb.nf).bind fun y m4 => (optR (cmp o x y) m4).bind fun t m5 =>
    if t = true then (c.v env m5).bind fun vc m6 => (rdR m6 vb.nf).bind fun y' m7 => (rdR m7 vc.nf).bind fun z m8 => cmpR o' y' z m8
    else boolR false m5
def cAnd : List P → EV
  | [], _, _ => .fail
  | [e], env, m => e.v env m
  | e :: e' :: es, env, m => (e.v env m).bind fun v m1 => (truR v m1).bind fun t m2 => if t = true then cAnd (e' :: es) env m2 else .ok v m2
def cOr : List P → EV
  | [], _, _ => .fail
  | [e], env, m => e.v env m
  | e :: e' :: es, env, m => (e.v env m).bind fun v m1 => (truR v m1).bind fun t m2 => if t = true then .ok v m2 else cOr (e' :: es) env m2
def tAnd : List P → ET
  | [], _, _ => .fail
  | [e], env, m => e.t env m
  | e :: e' :: es, env, m => (e.t env m).bind fun t m1 => if t = true then tAnd (e' :: es) env m1 else .ok false m1
def tOr : List P → ET
  | [], _, _ => .fail
  | [e], env, m => e.t env m
  | e :: e' :: es, env, m => (e.t env m).bind fun t m1 => if t = true then .ok true m1 else tOr (e' :: es) env m1
/-- all tests of a clause -/
def tAll : List P → ET
  | [], _, m => .ok true m
  | e :: es, env, m => (e.t env m).bind fun t m1 => if t = true then tAll es env m1 else .ok false m1
def cPop (i : Nat) (e : P) : EV := fun env m => match getV env i with
  | some (.mr k) => (e.v env m).bind fun ve m1 => (rdR m1 ve.nf).bind fun j m2 => match j, m2[k]? with
    | .int j, some c => if c.fz = false ∧ 0 ≤ j ∧ j < c.xs.length then
        match c.xs[j.toNat]? with
        | some y => .ok (.d y) (m2.set k ⟨false, c.xs.eraseIdx j.toNat⟩)
        | none => .fail
      else .fail
    | _, _ => .fail
  | _ => .fail
/-- a list comprehension over its items -/
def lcLoop (t : Tg) (tests : List P) (elt : P) (gs : List Nat) (env : Env) : List PyData → Mem → Res (List PyData)
  | [], m => .ok [] m
  | x :: xs, m => match asg t x env with
    | none => .fail
    | some env' => (tAll tests env' m).bind fun b m1 =>
      if b = true then (elt.v env' m1).bind fun v m2 => (frz v m2).bind fun y m3 =>
        if same gs m m3 = true then (lcLoop t tests elt gs env xs m3).bind fun ys m4 => .ok (y :: ys) m4 else .fail
      else if same gs m m1 = true then lcLoop t tests elt gs env xs m1 else .fail
/-- what is walked: its items, the cells that it leans on -/
def srcR (k : Sk) (src : List P) (env : Env) (m : Mem) : Res (List PyData × List Nat) :=
  (cArgs src env m).bind fun vs m1 => (optR (lookAll m1 vs) m1).bind fun xs m2 => (optR (walk k xs) m2).bind fun is m3 => .ok (is, guards vs) m3
def cLc (own : List Nat) (t : Tg) (k : Sk) (src tests : List P) (elt : P) : EV := fun env m =>
  (srcR k src env m).bind fun p m1 => (lcLoop t tests elt p.2 (wipe env own) p.1 m1).bind fun ys m2 => .ok (.fr ys) m2
/-- two clauses -/
def lc2Loop (t : Tg) (tests : List P) (inner : Nat → Env → Mem → Res (List PyData)) (gs : List Nat) (env : Env) : Nat → List PyData → Mem → Res (List PyData)
  | _, [], m => .ok [] m
  | n, x :: xs, m => match asg t x env with
    | none => .fail
    | some env' => (tAll tests env' m).bind fun b m1 =>
      if b = true then (inner n env' m1).bind fun ys m3 =>
        if same gs m m3 = true then (lc2Loop t tests inner gs env (n + ys.length) xs m3).bind fun zs m4 => .ok (ys ++ zs) m4 else .fail
      else if same gs m m1 = true then lc2Loop t tests inner gs env n xs m1 else .fail
def lcIn (own1 : List Nat) (t1 : Tg) (k1 : Sk) (src1 tests1 : List P) (elt : P) (n : Nat) (env : Env) (m : Mem) : Res (List PyData) :=
  (srcR k1 src1 env m).bind fun p m1 => if n + p.1.length ≤ lim then lcLoop t1 tests1 elt p.2 (wipe env own1) p.1 m1 else .fail
def cLc2 (own own1 : List Nat) (t : Tg) (k : Sk) (src tests : List P) (t1 : Tg) (k1 : Sk) (src1 tests1 : List P) (elt : P) : EV := fun env m =>
  (srcR k src env m).bind fun p m1 => (lc2Loop t tests (lcIn own1 t1 k1 src1 tests1 elt) p.2 (wipe env own) 0 p.1 m1).bind fun ys m2 => .ok (.fr ys) m2
/-- a dict comprehension over its items -/
def dcLoop (t : Tg) (tests : List P) (ke ve : P) (gs : List Nat) (env : Env) : List PyData → List (PyData × PyData) → Mem → Res (List (PyData × PyData))
  | [], acc, m => .ok acc m
  | x :: xs, acc, m => match asg t x env with
    | none => .fail
    | some env' => (tAll tests env' m).bind fun b m1 =>
      if b = true then (ke.v env' m1).bind fun vk m2 => (frz vk m2).bind fun y m3 => (ve.v env' m3).bind fun vv m4 => (frz vv m4).bind fun z m5 =>
        if keyB y = true ∧ same gs m m5 = true then dcLoop t tests ke ve gs env xs (dPut acc y z) m5 else .fail
      else if same gs m m1 = true then dcLoop t tests ke ve gs env xs acc m1 else .fail
def cDc (own : List Nat) (t : Tg) (k : Sk) (src tests : List P) (ke ve : P) : EV := fun env m =>
  (srcR k src env m).bind fun p m1 => (dcLoop t tests ke ve p.2 (wipe env own) p.1 [] m1).bind fun ys m2 => .ok (.dv ys) m2
/-- dict(pairs) -/
def pairsD : List PyData → List (PyData × PyData) → Option (List (PyData × PyData))
  | [], acc => some acc
  | .tuple [k, v] :: r, acc => if keyB k = true then pairsD r (dPut acc k v) else none
  | _, _ => none
def cDmk (e : P) : EV := fun env m => (e.v env m).bind fun v m1 => (rdR m1 v.nf).bind fun x m2 => match x with
  | .list xs => (optR (pairsD xs []) m2).bind fun kvs m3 => .ok (.dv kvs) m3
  | _ => .fail
def dictR (v : Val) (m : Mem) : Res (List (PyData × PyData)) := match v with
  | .dv kvs => .ok kvs m
  | _ => .fail
def keyR (x : PyData) (m : Mem) : Res PyData := if keyB x = true then .ok x m else .fail
def cDget (d k x : P) : EV := fun env m => (d.v env m).bind fun vd m1 => (dictR vd m1).bind fun kvs m2 => (k.v env m2).bind fun vk m3 => (x.v env m3).bind fun vx m4 =>
  (rdR m4 vk.nf).bind fun y m5 => (keyR y m5).bind fun y m6 => (frz vx m6).bind fun z m7 => .ok (.d ((dLook kvs y).getD z)) m7
def cDat (d k : P) : EV := fun env m => (d.v env m).bind fun vd m1 => (dictR vd m1).bind fun kvs m2 => (k.v env m2).bind fun vk m3 => (rdR m3 vk.nf).bind fun y m4 => (keyR y m4).bind fun y m5 => (optR (dLook kvs y) m5).bind fun z m6 => .ok (.d z) m6
def cDin (neg : Bool) (k d : P) : EV := fun env m => (k.v env m).bind fun vk m1 => (d.v env m1).bind fun vd m2 => (rdR m2 vk.nf).bind fun y m3 => (keyR y m3).bind fun y m4 => (dictR vd m4).bind fun kvs m5 => boolR (xor neg (dLook kvs y).isSome) m5
/-- the first place -/
def lFind (x : PyData) : Nat → List PyData → Option Nat
  | _, [] => none
  | i, y :: r => if PyData.eqv y x = true then some i else lFind x (i + 1) r
def cLidx (i : Nat) (e : P) : EV := fun env m => match getV env i with
  | some (.mr k) => (e.v env m).bind fun ve m1 => (rdR m1 ve.nf).bind fun y m2 => match m2[k]? with
    | some c => if y.depth ≤ 64 ∧ (PyData.list c.xs).depth ≤ 64 then (optR (lFind y 0 c.xs) m2).bind fun j m3 => .ok (.d (.int j)) m3 else .fail
    | none => .fail
  | _ => .fail
def cBi (b : Bi) (es : List P) : EV := fun env m => (cArgs es env m).bind fun vs m1 => (optR (lookAll m1 vs) m1).bind fun xs m2 => optR (bi b xs) m2
section
variable (call : Call)
mutual
def sem : E → P
  | .bad => ofV fun _ _ => .fail
  | .var i => ofV fun env m => optR (getV env i) m
  | .cst c => ofV fun _ m => .ok (.d c) m
  | .glo c => ofV fun _ m => .ok (.d c) m
  | .tup es => ofV (cTup (sems es))
  | .lst es => ofV (cLst (sems es))
  | .call f es => ofV (cCall call f (sems es))
  | .callk f is es => ofV (cCallK call f is (sems es))
  | .callc f es => ofV (cCallC call f (sems es))
  | .cell e => ⟨cCell (sem e), fun _ _ => .fail⟩
  | .op o a b => ofV (c2 (sem a) (sem b) fun x y m => optR (bop o x y) m)
  | .neg a => ofV (c1 (sem a) fun x m => match x with
      | .int i => .ok (.d (.int (-i))) m
      | _ => .fail)
  | .cmp o a b => ofV (c2 (sem a) (sem b) (cmpR o))
  | .chain o o' a b c => ofV (cChain o o' (sem a) (sem b) (sem c))
  | .isN a => ofV (c1 (sem a) fun x m => boolR (isNone x) m)
  | .isnN a => ofV (c1 (sem a) fun x m => boolR (!isNone x) m)
  | .band es => ⟨cAnd (sems es), tAnd (sems es)⟩
  | .bor es => ⟨cOr (sems es), tOr (sems es)⟩
  | .not a => ⟨fun env m => ((sem a).v env m).bind fun v m1 => (truR v m1).bind fun t m2 => boolR (!t) m2, fun env m => ((sem a).t env m).bind fun t m1 => .ok (!t) m1⟩
  | .ite c a b => ⟨fun env m => ((sem c).t env m).bind fun t m1 => if t = true then (sem a).v env m1 else (sem b).v env m1,
      fun env m => ((sem c).t env m).bind fun t m1 => if t = true then (sem a).t env m1 else (sem b).t env m1⟩
  | .idx a i => ofV (c2 (sem a) (sem i) fun x y m => (optR (idx x y) m).bind fun z m1 => .ok (.d z) m1)
  | .sl a => ofV (c1 (sem a) fun x m => optR (slc x none none) m)
  | .slL a lo => ofV (c2 (sem a) (sem lo) fun x l m => match l with
      | .int l => optR (slc x (some l) none) m
      | _ => .fail)
  | .slU a hi => ofV (c2 (sem a) (sem hi) fun x h m => match h with
      | .int h => optR (slc x none (some h)) m
      | _ => .fail)
  | .slLU a lo hi => ofV (cSl3 (sem a) (sem lo) (sem hi))
  | .rev a => ofV (c1 (sem a) fun x m => optR (revd x) m)
  | .bi b es => ofV (cBi b (sems es))
  | .isi a cs => ofV (c1 (sem a) fun x m => boolR (cs.any (isi x)) m)
  | .pop i e => ofV (cPop i (sem e))
  | .lc own t k src tests elt => ofV (cLc own t k (sems src) (sems tests) (sem elt))
  | .lc2 own own1 t k src tests t1 k1 src1 tests1 elt => ofV (cLc2 own own1 t k (sems src) (sems tests) t1 k1 (sems src1) (sems tests1) (sem elt))
  | .tupS bs es => ofV (cTupS bs (sems es))
  | .lstS bs es => ofV (cLstS bs (sems es))
  | .dc own t k src tests ke ve => ⟨cDc own t k (sems src) (sems tests) (sem ke) (sem ve), fun _ _ => .fail⟩
  | .dmk e => ⟨cDmk (sem e), fun _ _ => .fail⟩
  | .dget d k x => ofV (cDget (sem d) (sem k) (sem x))
  | .dat d k => ofV (cDat (sem d) (sem k))
  | .din neg k d => ofV (cDin neg (sem k) (sem d))
  | .lidx i e => ofV (cLidx i (sem e))
def sems : List E → List P
  | [] => []
  | e :: es => sem e :: sems es
end
end

/-! statements -/
/-- what a clause puts into its list: a constant, isinstance(error, T) -/
inductive HI where
  | cst (c : PyData) | isi (T : String) (b : Bool)
/-- except C as n: i = [..] -/
structure Hd where
  n : Nat
  cls : Nat
  nm : Nat
  dst : Nat
  items : List HI
/-- a statement's call, which may raise -/
inductive XE where
  | call (f : Nat) (es : List E) | ite (c : E) (a b : XE)
/-- the body of a try -/
inductive TB where
  | set (i : Nat) (cell : Bool) (e : XE)
  | iff (c : E) (a b : TB)
inductive S where
  | bad
  | setx (i : Nat) (cell : Bool) (e : XE)
  | exprx (e : XE)
  | retx (e : XE)
  | raise (c : Nat)
  | tryx (b : TB) (hs : List Hd)
  | expr (e : E)
  | set (i : Nat) (cell : Bool) (e : E)
  | setT (t : Tg) (e : E)
  | par (is : List (Nat × Bool)) (es : List E)
  | app (i : Nat) (e : E)
  | rem (i : Nat) (e : E)
  | ext (i : Nat) (e : E)
  | put (i : Nat) (j e : E)
  | put2 (i1 : Nat) (j1 : E) (i2 : Nat) (j2 : E) (es : List E)
  | ret (e : E)
  | retN
  | iff (c : E) (a b : List S)
  | for (t : Tg) (k : Sk) (src : List E) (body : List S)
  | while (c : E) (body : List S)
  | pass
  | brk
  | cnt
inductive Flow where
  | next (env : Env) | ret (v : Val) | brk (env : Env) | cnt (env : Env)
abbrev EX := Env → Mem → Res Flow
def xNext : EX := fun env m => .ok (.next env) m
def xSeq (a b : EX) : EX := fun env m => (a env m).bind fun f m1 => match f with
  | .next env' => b env' m1
  | f => .ok f m1
/-- the value that a name gets -/
def stored (cell : Bool) (v : Val) (m : Mem) : Res Val := if cell = true then mkCell v m else .ok v.nf m
def setIn (env : Env) (i : Nat) (v : Val) (m : Mem) : Res Flow := if i < env.length then .ok (.next (setV env i v)) m else .fail
def xSet (i : Nat) (cell : Bool) (e : P) : EX := fun env m => (e.v env m).noX.bind fun v m1 => (stored cell v m1).bind fun v' m2 => setIn env i v' m2
def xSetT (t : Tg) (e : P) : EX := fun env m => (e.v env m).noX.bind fun v m1 => match v.nf with
  | .d x => (match asg t x env with
    | some env' => .ok (.next env') m1
    | none => .fail)
  | _ => .fail
def parV : List (Nat × Bool) → List P → Env → Mem → Res (List Val)
  | [], [], _, m => .ok [] m
  | (_, c) :: is, e :: es, env, m => (e.v env m).bind fun v m1 => (stored c v m1).bind fun v' m2 => (parV is es env m2).bind fun vs m3 => .ok (v' :: vs) m3
  | _, _, _, _ => .fail
def setAll : List (Nat × Bool) → List Val → Env → Mem → Res Flow
  | [], [], env, m => .ok (.next env) m
  | (i, _) :: is, v :: vs, env, m => if i < env.length then setAll is vs (setV env i v) m else .fail
  | _, _, _, _ => .fail
def xPar (is : List (Nat × Bool)) (es : List P) : EX := fun env m => (parV is es env m).noX.bind fun vs m1 => setAll is vs env m1
/-- a change of the cell of a name -/
def upCell (env : Env) (i : Nat) (f : List PyData → Option (List PyData)) (m : Mem) : Res Flow := match getV env i with
  | some (.mr k) => match m[k]? with
    | some c => if c.fz = false then (match f c.xs with
        | some ys => .ok (.next env) (m.set k ⟨false, ys⟩)
        | none => .fail) else .fail
    | none => .fail
  | _ => .fail
/-- the name holds a cell -/
def onCell (env : Env) (i : Nat) (r : Res Flow) : Res Flow := match getV env i with
  | some (.mr _) => r
  | _ => .fail
def xApp (i : Nat) (e : P) : EX := fun env m => onCell env i ((e.v env m).noX.bind fun v m1 => (frz v m1).bind fun x m2 => upCell env i (fun xs => if xs.length < lim then some (xs ++ [x]) else none) m2)
def remD (x : PyData) (xs : List PyData) : Option (List PyData) := if x.depth ≤ 64 ∧ (PyData.list xs).depth ≤ 64 then (lFind x 0 xs).map fun j => xs.eraseIdx j else none
def xRem (i : Nat) (e : P) : EX := fun env m => onCell env i ((e.v env m).noX.bind fun v m1 => (rdR m1 v.nf).bind fun x m2 => upCell env i (remD x) m2)
def extD (x : PyData) (xs : List PyData) : Option (List PyData) := match x with
  | .list ys => if xs.length + ys.length ≤ lim then some (xs ++ ys) else none
  | _ => none
def xExt (i : Nat) (e : P) : EX := fun env m => onCell env i ((e.v env m).noX.bind fun v m1 => (rdR m1 v.nf).bind fun x m2 => upCell env i (extD x) m2)
def putD (y x : PyData) (xs : List PyData) : Option (List PyData) := match y with
  | .int n => (L2.ixN xs.length n).map fun k => xs.set k x
  | _ => none
def xPut (i : Nat) (j e : P) : EX := fun env m => (e.v env m).noX.bind fun v m1 => (frz v m1).bind fun x m2 => onCell env i ((j.v env m2).noX.bind fun vj m3 => (rdR m3 vj.nf).bind fun y m4 => upCell env i (putD y x) m4)
def putX (i : Nat) (j : P) (x : PyData) : EX := fun env m => onCell env i ((j.v env m).noX.bind fun vj m3 => (rdR m3 vj.nf).bind fun y m4 => upCell env i (putD y x) m4)
def xPut2 (i1 : Nat) (j1 : P) (i2 : Nat) (j2 : P) (es : List P) : EX := fun env m => (cItems es env m).noX.bind fun xs m1 => match xs with
  | [x, y] => (putX i1 j1 x env m1).bind fun _ m2 => putX i2 j2 y env m2
  | _ => .fail
def xRet (e : P) : EX := fun env m => (e.v env m).noX.bind fun v m1 => .ok (.ret v) m1
def xIf (c : P) (a b : EX) : EX := fun env m => (c.t env m).noX.bind fun t m1 => if t = true then a env m1 else b env m1
def forLoop (t : Tg) (body : EX) (gs : List Nat) : List PyData → EX
  | [], env, m => .ok (.next env) m
  | x :: xs, env, m => match asg t x env with
    | none => .fail
    | some env' => (body env' m).bind fun f m1 => match f with
      | .next e2 => if same gs m m1 = true then forLoop t body gs xs e2 m1 else .fail
      | .cnt e2 => if same gs m m1 = true then forLoop t body gs xs e2 m1 else .fail
      | .brk e2 => .ok (.next e2) m1
      | .ret v => .ok (.ret v) m1
def xFor (t : Tg) (k : Sk) (src : List P) (body : EX) : EX := fun env m => (srcR k src env m).noX.bind fun p m1 => forLoop t body p.2 p.1 env m1
def whileLoop (c : P) (body : EX) : Nat → EX
  | 0, _, _ => .fail
  | n + 1, env, m => (c.t env m).noX.bind fun b m1 => if b = true then (body env m1).bind fun f m2 => (match f with
      | .next e2 => whileLoop c body n e2 m2
      | .cnt e2 => whileLoop c body n e2 m2
      | .brk e2 => .ok (.next e2) m2
      | .ret v => .ok (.ret v) m2)
    else .ok (.next env) m1
section
variable (call : Call)
/-- the value of a statement's call, which may raise -/
def xv : XE → EV
  | .call f es => fun env m => (cArgs (sems call es) env m).noX.bind fun vs m1 => call f vs m1
  | .ite c a b => fun env m => ((sem call c).t env m).noX.bind fun t m1 => if t = true then xv a env m1 else xv b env m1
def xSetV (i : Nat) (cell : Bool) (v : EV) : EX := fun env m => (v env m).bind fun v m1 => (stored cell v m1).bind fun v' m2 => setIn env i v' m2
def HI.val : HI → PyData
  | .cst c => c
  | .isi _ b => .bool b
def tbX : TB → EX
  | .set i c e => xSetV i c (xv call e)
  | .iff c a b => fun env m => ((sem call c).t env m).noX.bind fun t m1 => if t = true then tbX a env m1 else tbX b env m1
/-- the clauses -/
def hdsX : List Hd → Exn → Env → Mem → Res Flow
  | [], x, _, m => .exc x m
  | h :: r, x, env, m => if ¬ x.cls < h.n then .fail else if x.cls = h.cls then (if h.nm < env.length ∧ h.dst < env.length then .ok (.next ((setV (env.set h.nm none) h.dst (.d (.list (h.items.map HI.val)))).set h.nm none)) m else .fail) else hdsX r x env m
def xTry (b : EX) (hs : List Hd) : EX := fun env m => match b env m with
  | .ok f m1 => .ok f m1
  | .exc x m1 => hdsX hs x env m1
  | .fail => .fail
end
section
variable (call : Call) (wf : Nat)
mutual
def exS : S → EX
  | .bad => fun _ _ => .fail
  | .expr e => fun env m => ((sem call e).v env m).noX.bind fun _ m1 => .ok (.next env) m1
  | .setx i c e => xSetV i c (xv call e)
  | .exprx e => fun env m => (xv call e env m).bind fun _ m1 => .ok (.next env) m1
  | .retx e => fun env m => (xv call e env m).bind fun v m1 => .ok (.ret v) m1
  | .raise c => fun _ m => .exc ⟨c, []⟩ m
  | .tryx b hs => xTry (tbX call b) hs
  | .set i c e => xSet i c (sem call e)
  | .setT t e => xSetT t (sem call e)
  | .par is es => xPar is (sems call es)
  | .app i e => xApp i (sem call e)
  | .rem i e => xRem i (sem call e)
  | .ext i e => xExt i (sem call e)
  | .put i j e => xPut i (sem call j) (sem call e)
  | .put2 i1 j1 i2 j2 es => xPut2 i1 (sem call j1) i2 (sem call j2) (sems call es)
  | .ret e => xRet (sem call e)
  | .retN => fun _ m => .ok (.ret (.d .none)) m
  | .iff c a b => xIf (sem call c) (exB a) (exB b)
  | .for t k src body => xFor t k (sems call src) (exB body)
  | .while c body => whileLoop (sem call c) (exB body) wf
  | .pass => xNext
  | .brk => fun env m => .ok (.brk env) m
  | .cnt => fun env m => .ok (.cnt env) m
def exB : List S → EX
  | [] => xNext
  | s :: r => xSeq (exS s) (exB r)
end
end
/-- a def: how many names it has, how many of them are parameters, its body -/
structure Fn where
  n : Nat
  ps : Nat
  body : List S
def run (T : List Fn) (wf : Nat) : Nat → Call
  | 0, _, _, _ => .fail
  | n + 1, f, vs, m => match T[f]? with
    | none => .fail
    | some F => if vs.length = F.ps ∧ F.ps ≤ F.n then
        ((exB (run T wf n) wf F.body (vs.map some ++ List.replicate (F.n - F.ps) none) m).cutX m.length).bind fun fl m1 => (match fl with
          | .ret v => leave m.length v m1
          | .next _ => .ok (.d .none) (m1.take m.length)
          | _ => .fail)
      else .fail
end Ra


set_option Elab.async false
set_option linter.all false
set_option autoImplicit false
set_option maxRecDepth 100000
/-! the evaluator's data in the layer's heap -/
namespace Ra
open PySem PySem.Spec PyProof.Rows L2

/-- a list that is fixed: in F, or locked -/
def Rl (F : Addr → Prop) (H : Hp) (a : Addr) (xs : List V) : Prop := (F a ∧ H a = some (.lst xs)) ∨ ∃ o, H a = some (.frz o (.lst xs))
theorem Rl.rd {F : Addr → Prop} {H : Hp} {a : Addr} {xs : List V} (h : Rl F H a xs) : Rd H a (.lst xs) := by
  rcases h with ⟨_, h⟩ | h
  · exact .inl h
  · exact .inr h
mutual
inductive Rp (K : PySem.W.Frag) (F : Addr → Prop) (H : Hp) : V → PyData → Prop
  | non : Rp K F H .non .none
  | bl (b : Bool) : Rp K F H (.bl b) (.bool b)
  | int (i : Int) : Rp K F H (.int i) (.int i)
  | str (x : Str) : sOk x = true → Rp K F H (.str x) (.str x)
  | lst {a : Addr} {xs : List V} {ds : List PyData} : Rl F H a xs → RpAll K F H xs ds → Rp K F H (.ref a) (.list ds)
  | tup {a : Addr} {xs : List V} {ds : List PyData} : SqT K H a xs → RpAll K F H xs ds → Rp K F H (.ref a) (.tuple ds)
inductive RpAll (K : PySem.W.Frag) (F : Addr → Prop) (H : Hp) : List V → List PyData → Prop
  | nil : RpAll K F H [] []
  | cons {v : V} {vs : List V} {d : PyData} {ds : List PyData} : Rp K F H v d → RpAll K F H vs ds → RpAll K F H (v :: vs) (d :: ds)
end
def keyD : Key → PyData
  | .inl n => .int n
  | .inr z => .str z
/-- a dict's rows -/
inductive RpK (K : PySem.W.Frag) (F : Addr → Prop) (H : Hp) : List (Key × V) → List (PyData × PyData) → Prop
  | nil : RpK K F H [] []
  | cons {k : Key} {v : V} {ks : List (Key × V)} {d : PyData} {ds : List (PyData × PyData)} : Rp K F H v d → RpK K F H ks ds → RpK K F H ((k, v) :: ks) ((keyD k, d) :: ds)
/-- what is fixed, where the cells stand -/
structure G where
  F : Addr → Prop
  ad : List Addr
  /-- what others hold: left alone -/
  pr : Addr → Prop
structure Ext (g : G) (H : Hp) (g' : G) (H' : Hp) : Prop where
  sub : ∀ a, g.F a → g'.F a
  fix : ∀ a, g.F a → H' a = H a
  tup : ∀ a xs, H a = some (.tup xs) → H' a = some (.tup xs)
  frz : ∀ a o u, H a = some (.frz o u) → H' a = some (.frz o u)
  ads : ∃ more, g'.ad = g.ad ++ more
  pre : g'.pr = g.pr
  keep : ∀ a, g.pr a → H' a = H a
structure SimM (K : PySem.W.Frag) (m : Mem) (g : G) (H : Hp) : Prop where
  fs : ∀ a, g.F a → ∃ o, H a = some o
  len : g.ad.length = m.length
  nd : g.ad.Nodup
  cell : ∀ (k : Nat) (c : Cell) (a : Addr), m[k]? = some c → g.ad[k]? = some a → ∃ vs, H a = some (.lst vs) ∧ RpAll K g.F H vs c.xs ∧ (c.fz = true → g.F a) ∧ (c.fz = false → ¬ g.F a)
  sz : ∀ a xs, (H a = some (.lst xs) ∨ H a = some (.tup xs) ∨ (∃ o, H a = some (.frz o (.lst xs))) ∨ ∃ o, H a = some (.frz o (.tup xs))) → xs.length ≤ sizeLine
  prs : ∀ a, g.pr a → ∃ o, H a = some o
  prF : ∀ a, g.pr a → ¬ g.F a
  prA : ∀ a, g.pr a → a ∉ g.ad
def RpV (K : PySem.W.Frag) (g : G) (H : Hp) (x : V) : Val → Prop
  | .d d => Rp K g.F H x d
  | .fr xs => ∃ a vs, x = .ref a ∧ H a = some (.lst vs) ∧ RpAll K g.F H vs xs ∧ ¬ g.F a ∧ a ∉ g.ad ∧ ¬ g.pr a
  | .mr k => ∃ a, x = .ref a ∧ g.ad[k]? = some a
  | .dv kvs => ∃ a ks, x = .ref a ∧ g.F a ∧ H a = some (.dK ks) ∧ RpK K g.F H ks kvs
/-- readable now -/
def Rr (K : PySem.W.Frag) (F : Addr → Prop) (H : Hp) (x : V) : PyData → Prop
  | .list ds => ∃ a xs, x = .ref a ∧ Rd H a (.lst xs) ∧ RpAll K F H xs ds
  | d => Rp K F H x d

section
variable {K : PySem.W.Frag} {F F' : Addr → Prop} {H H' H2 : Hp} {g g' g2 : G} {m m' : Mem} {x : V} {d : PyData} {v : Val}
theorem Ext.refl (g : G) (H : Hp) : Ext g H g H := ⟨fun _ h => h, fun _ _ => rfl, fun _ _ h => h, fun _ _ _ h => h, ⟨[], by simp⟩, rfl, fun _ _ => rfl⟩
theorem Ext.trans (a : Ext g H g' H') (b : Ext g' H' g2 H2) : Ext g H g2 H2 :=
  ⟨fun c h => b.sub c (a.sub c h), fun c h => (b.fix c (a.sub c h)).trans (a.fix c h), fun c xs h => b.tup c xs (a.tup c xs h), fun c o u h => b.frz c o u (a.frz c o u h), by
    obtain ⟨p, e⟩ := a.ads
    obtain ⟨q, e'⟩ := b.ads
    exact ⟨p ++ q, by rw [e', e, List.append_assoc]⟩, b.pre.trans a.pre, fun c h => (b.keep c (by rw [a.pre]; exact h)).trans (a.keep c h)⟩
theorem Ext.at (e : Ext g H g' H') {k : Nat} {a : Addr} (h : g.ad[k]? = some a) : g'.ad[k]? = some a := by
  obtain ⟨p, q⟩ := e.ads
  rw [q, List.getElem?_append_left (by
    have := (List.getElem?_eq_some_iff.mp h).1
    exact this)]
  exact h
theorem SqT.ext {a : Addr} {xs : List V} (e : Ext g H g' H') (h : SqT K H a xs) : SqT K H' a xs := by
  rcases h with (h | ⟨o, h⟩) | h
  · exact .inl (.inl (e.tup _ _ h))
  · exact .inl (.inr ⟨o, e.frz _ _ _ h⟩)
  · exact .inr h
theorem Rl.ext {a : Addr} {xs : List V} (e : Ext g H g' H') (h : Rl g.F H a xs) : Rl g'.F H' a xs := by
  rcases h with ⟨f, h⟩ | ⟨o, h⟩
  · exact .inl ⟨e.sub _ f, (e.fix _ f).trans h⟩
  · exact .inr ⟨o, e.frz _ _ _ h⟩
mutual
theorem Rp.ext (e : Ext g H g' H') : ∀ (d : PyData) {x : V}, Rp K g.F H x d → Rp K g'.F H' x d
  | .none, _, h => by cases h; exact .non
  | .bool b, _, h => by cases h; exact .bl b
  | .int i, _, h => by cases h; exact .int i
  | .str s, _, h => by
    cases h with
    | str _ h => exact .str s h
  | .list ds, _, h => by
    cases h with
    | lst a b => exact .lst (Rl.ext e a) (RpAll.ext e ds b)
  | .tuple ds, _, h => by
    cases h with
    | tup a b => exact .tup (SqT.ext e a) (RpAll.ext e ds b)
  | .dict _, _, h => by cases h
theorem RpAll.ext (e : Ext g H g' H') : ∀ (ds : List PyData) {xs : List V}, RpAll K g.F H xs ds → RpAll K g'.F H' xs ds
  | [], _, h => by cases h; exact .nil
  | d :: ds, _, h => by
    cases h with
    | cons a b => exact .cons (Rp.ext e d a) (RpAll.ext e ds b)
end
theorem RpK.ext (e : Ext g H g' H') : ∀ {ks : List (Key × V)} {ds : List (PyData × PyData)}, RpK K g.F H ks ds → RpK K g'.F H' ks ds
  | _, _, .nil => .nil
  | _, _, .cons a b => .cons (Rp.ext e _ a) (RpK.ext e b)
theorem RpV.ext (e : Ext g H g' H') (hf : ∀ xs, v ≠ .fr xs) (h : RpV K g H x v) : RpV K g' H' x v := by
  cases v with
  | d d => exact Rp.ext e d h
  | fr xs => exact absurd rfl (hf xs)
  | mr k =>
    obtain ⟨a, rfl, q⟩ := h
    exact ⟨a, rfl, e.at q⟩
  | dv kvs =>
    obtain ⟨a, ks, rfl, q, r, t⟩ := h
    exact ⟨a, ks, rfl, e.sub a q, (e.fix a q).trans r, RpK.ext e t⟩
theorem Rp.rr (h : Rp K F H x d) : Rr K F H x d := by
  cases h with
  | lst a b => exact ⟨_, _, rfl, a.rd, b⟩
  | non => exact .non
  | bl b => exact .bl b
  | int i => exact .int i
  | str i h => exact .str i h
  | tup a b => exact .tup a b
theorem RpAll.length : ∀ {xs : List V} {ds : List PyData}, RpAll K F H xs ds → xs.length = ds.length
  | _, _, .nil => rfl
  | _, _, .cons _ t => by rw [List.length_cons, List.length_cons, RpAll.length t]
theorem RpAll.get : ∀ {xs : List V} {ds : List PyData} {i : Nat} {d : PyData}, RpAll K F H xs ds → ds[i]? = some d → ∃ x, xs[i]? = some x ∧ Rp K F H x d
  | _, _, _, _, .nil, e => by simp at e
  | _, _, 0, _, .cons r _, e => by
    simp at e; subst e
    exact ⟨_, rfl, r⟩
  | _, _, i + 1, d, .cons _ t, e => by
    obtain ⟨u, h1, h2⟩ := RpAll.get (i := i) (d := d) t (by simpa using e)
    exact ⟨u, by simpa using h1, h2⟩
theorem RpAll.get' : ∀ {xs : List V} {ds : List PyData} {i : Nat} {x : V}, RpAll K F H xs ds → xs[i]? = some x → ∃ d, ds[i]? = some d ∧ Rp K F H x d
  | _, _, _, _, .nil, e => by simp at e
  | _, _, 0, _, .cons r _, e => by
    simp at e; subst e
    exact ⟨_, rfl, r⟩
  | _, _, i + 1, d, .cons _ t, e => by
    obtain ⟨u, h1, h2⟩ := RpAll.get' (i := i) t (by simpa using e)
    exact ⟨u, by simpa using h1, h2⟩
theorem RpAll.append : ∀ {xs ys : List V} {ds es : List PyData}, RpAll K F H xs ds → RpAll K F H ys es → RpAll K F H (xs ++ ys) (ds ++ es)
  | _, _, _, _, .nil, s => s
  | _, _, _, _, .cons r t, s => .cons r (RpAll.append t s)
theorem RpAll.drop : ∀ {xs : List V} {ds : List PyData} (n : Nat), RpAll K F H xs ds → RpAll K F H (xs.drop n) (ds.drop n)
  | _, _, 0, r => r
  | _, _, _ + 1, .nil => .nil
  | _, _, n + 1, .cons _ t => RpAll.drop n t
theorem RpAll.take : ∀ {xs : List V} {ds : List PyData} (n : Nat), RpAll K F H xs ds → RpAll K F H (xs.take n) (ds.take n)
  | _, _, 0, r => .nil
  | _, _, _ + 1, .nil => .nil
  | _, _, n + 1, .cons a t => .cons a (RpAll.take n t)
theorem RpAll.rev {xs : List V} {ds : List PyData} (h : RpAll K F H xs ds) : RpAll K F H xs.reverse ds.reverse := by
  have aux : ∀ {xs ys : List V} {ds es : List PyData}, RpAll K F H xs ds → RpAll K F H ys es → RpAll K F H (xs.reverseAux ys) (ds.reverseAux es) := by
    intro xs
    induction xs with
    | nil => intro ys ds es h s; cases h; exact s
    | cons x r ih =>
      intro ys ds es h s
      cases h with
      | cons a t =>
        have z := ih t (RpAll.cons a s)
        exact z
  exact aux h .nil
theorem RpAll.set : ∀ {xs : List V} {ds : List PyData} {x : V} {d : PyData} (n : Nat), RpAll K F H xs ds → Rp K F H x d → RpAll K F H (xs.set n x) (ds.set n d)
  | _, _, _, _, _, .nil, _ => .nil
  | _, _, _, _, 0, .cons _ t, r => .cons r t
  | _, _, _, _, n + 1, .cons a t, r => .cons a (RpAll.set n t r)
theorem RpAll.erase : ∀ {xs : List V} {ds : List PyData} (n : Nat), RpAll K F H xs ds → RpAll K F H (xs.eraseIdx n) (ds.eraseIdx n)
  | _, _, _, .nil => .nil
  | _, _, 0, .cons _ t => t
  | _, _, n + 1, .cons a t => .cons a (RpAll.erase n t)
theorem RpAll.rep {xs : List V} {ds : List PyData} (h : RpAll K F H xs ds) : ∀ n, RpAll K F H (List.replicate n xs).flatten (List.replicate n ds).flatten
  | 0 => .nil
  | n + 1 => by
    rw [List.replicate_succ, List.flatten_cons, List.replicate_succ, List.flatten_cons]
    exact h.append (RpAll.rep h n)
/-- what may be read of a cell or of data -/
theorem SimM.read (S : SimM K m g H) (hf : ∀ xs, v ≠ .fr xs) (h : RpV K g H x v) (e : rd m v = some d) : Rr K g.F H x d := by
  cases v with
  | d y =>
    have e' : y = d := Option.some.inj e
    subst e'
    exact Rp.rr h
  | fr xs => exact absurd rfl (hf xs)
  | mr k =>
    obtain ⟨a, rfl, q⟩ := h
    cases hm : m[k]? with
    | none => simp [rd, hm] at e
    | some c =>
      simp only [rd, hm, Option.map_some, Option.some.injEq] at e
      subst e
      obtain ⟨vs, h1, h2, _⟩ := S.cell k c a hm q
      exact ⟨a, vs, rfl, .inl h1, h2⟩
  | dv kvs => cases e
theorem nf_ne (v : Val) : ∀ xs, v.nf ≠ .fr xs := by
  intro xs; cases v <;> simp [Val.nf]
theorem nf_of (h : ∀ xs, v ≠ .fr xs) : v.nf = v := by
  cases v with
  | fr xs => exact absurd rfl (h xs)
  | d _ => rfl
  | mr _ => rfl
  | dv _ => rfl
/-- a new list is fixed -/
theorem SimM.fix (S : SimM K m g H) {a : Addr} {o : HO} (ha : H a = some o) (hn : a ∉ g.ad) (hp : ¬ g.pr a) :
    SimM K m ⟨fun b => b = a ∨ g.F b, g.ad, g.pr⟩ H ∧ Ext g H ⟨fun b => b = a ∨ g.F b, g.ad, g.pr⟩ H := by
  have e : Ext g H ⟨fun b => b = a ∨ g.F b, g.ad, g.pr⟩ H := ⟨fun _ h => .inr h, fun _ _ => rfl, fun _ _ h => h, fun _ _ _ h => h, ⟨[], by simp⟩, rfl, fun _ _ => rfl⟩
  refine ⟨⟨fun b h => ?_, S.len, S.nd, fun k c b h1 h2 => ?_, S.sz, S.prs, fun b h w => ?_, S.prA⟩, e⟩
  · rcases h with rfl | h
    · exact ⟨_, ha⟩
    · exact S.fs b h
  · obtain ⟨ws, p, q, r, t⟩ := S.cell k c b h1 h2
    refine ⟨ws, p, RpAll.ext e _ q, fun z => .inr (r z), fun z w => ?_⟩
    rcases w with rfl | w
    · exact hn (List.mem_of_getElem? h2)
    · exact t z w
  · rcases w with rfl | w
    · exact hp h
    · exact S.prF b h w
/-- any value, held from now on -/
theorem SimM.hold (S : SimM K m g H) (h : RpV K g H x v) : ∃ g', SimM K m g' H ∧ Ext g H g' H ∧ RpV K g' H x v.nf := by
  cases v with
  | d y => exact ⟨g, S, Ext.refl g H, h⟩
  | mr k => exact ⟨g, S, Ext.refl g H, h⟩
  | dv k => exact ⟨g, S, Ext.refl g H, h⟩
  | fr xs =>
    obtain ⟨a, vs, rfl, h1, h2, h3, h4, h5⟩ := h
    obtain ⟨S', e⟩ := S.fix h1 h4 h5
    exact ⟨_, S', e, Rp.lst (.inl ⟨.inl rfl, h1⟩) (RpAll.ext e _ h2)⟩
/-- a cell is fixed -/
theorem SimM.fixCell (S : SimM K m g H) {k : Nat} {c : Cell} {a : Addr} (hm : m[k]? = some c) (ha : g.ad[k]? = some a) :
    SimM K (m.set k { c with fz := true }) ⟨fun b => b = a ∨ g.F b, g.ad, g.pr⟩ H ∧ Ext g H ⟨fun b => b = a ∨ g.F b, g.ad, g.pr⟩ H ∧ Rp K (fun b => b = a ∨ g.F b) H (.ref a) (.list c.xs) := by
  have e : Ext g H ⟨fun b => b = a ∨ g.F b, g.ad, g.pr⟩ H := ⟨fun _ h => .inr h, fun _ _ => rfl, fun _ _ h => h, fun _ _ _ h => h, ⟨[], by simp⟩, rfl, fun _ _ => rfl⟩
  obtain ⟨vs, p, q, r, t⟩ := S.cell k c a hm ha
  have hk : k < m.length := (List.getElem?_eq_some_iff.mp hm).1
  refine ⟨⟨fun b h => ?_, by rw [List.length_set]; exact S.len, S.nd, fun j c' b h1 h2 => ?_, S.sz, S.prs, fun b h w => ?_, S.prA⟩, e, .lst (.inl ⟨.inl rfl, p⟩) (RpAll.ext e _ q)⟩
  · rcases h with rfl | h
    · exact ⟨_, p⟩
    · exact S.fs b h
  · by_cases hj : j = k
    · subst hj
      rw [List.getElem?_set_self hk] at h1
      cases h1
      rw [ha] at h2
      cases h2
      exact ⟨vs, p, RpAll.ext e _ q, fun _ => .inl rfl, fun z => by simp at z⟩
    · rw [List.getElem?_set_ne (Ne.symm hj)] at h1
      obtain ⟨ws, p', q', r', t'⟩ := S.cell j c' b h1 h2
      refine ⟨ws, p', RpAll.ext e _ q', fun z => .inr (r' z), fun z w => ?_⟩
      rcases w with rfl | w
      · have h3 : g.ad[j]? = g.ad[k]? := h2.trans ha.symm
        have hlt : j < g.ad.length := (List.getElem?_eq_some_iff.mp h2).1
        exact hj ((List.getElem?_inj hlt S.nd).mp h3)
      · exact t' z w
  · rcases w with rfl | w
    · exact S.prA b h (List.mem_of_getElem? ha)
    · exact S.prF b h w
/-- .. as what stands in a container -/
theorem SimM.frz (S : SimM K m g H) (h : RpV K g H x v) {m' : Mem} (e : frz v m = .ok d m') : ∃ g', SimM K m' g' H ∧ Ext g H g' H ∧ Rp K g'.F H x d := by
  cases v with
  | d y =>
    simp only [Ra.frz, Res.ok.injEq] at e
    obtain ⟨rfl, rfl⟩ := e
    exact ⟨g, S, Ext.refl g H, h⟩
  | fr xs =>
    simp only [Ra.frz, Res.ok.injEq] at e
    obtain ⟨rfl, rfl⟩ := e
    obtain ⟨g', S', e', h'⟩ := S.hold h
    exact ⟨g', S', e', h'⟩
  | mr k =>
    obtain ⟨a, rfl, q⟩ := h
    cases hm : m[k]? with
    | none => simp [Ra.frz, hm] at e
    | some c =>
      simp only [Ra.frz, hm, Res.ok.injEq] at e
      obtain ⟨rfl, rfl⟩ := e
      obtain ⟨S', e', r⟩ := S.fixCell hm q
      exact ⟨_, S', e', r⟩
  | dv k => simp [Ra.frz] at e
/-- a new list becomes a cell -/
theorem SimM.mkCell (S : SimM K m g H) (h : RpV K g H x v) {m' : Mem} {v' : Val} (e : mkCell v m = .ok v' m') : ∃ g', SimM K m' g' H ∧ Ext g H g' H ∧ RpV K g' H x v' ∧ ∀ xs, v' ≠ .fr xs := by
  cases v with
  | d y =>
    simp only [Ra.mkCell, Res.ok.injEq] at e
    obtain ⟨rfl, rfl⟩ := e
    exact ⟨g, S, Ext.refl g H, h, by simp⟩
  | mr y =>
    simp only [Ra.mkCell, Res.ok.injEq] at e
    obtain ⟨rfl, rfl⟩ := e
    exact ⟨g, S, Ext.refl g H, h, by simp⟩
  | dv y =>
    simp only [Ra.mkCell, Res.ok.injEq] at e
    obtain ⟨rfl, rfl⟩ := e
    exact ⟨g, S, Ext.refl g H, h, by simp⟩
  | fr xs =>
    simp only [Ra.mkCell, Res.ok.injEq] at e
    obtain ⟨rfl, rfl⟩ := e
    obtain ⟨a, vs, rfl, h1, h2, h3, h4, h5⟩ := h
    have e : Ext g H ⟨g.F, g.ad ++ [a], g.pr⟩ H := ⟨fun _ h => h, fun _ _ => rfl, fun _ _ h => h, fun _ _ _ h => h, ⟨[a], rfl⟩, rfl, fun _ _ => rfl⟩
    refine ⟨⟨g.F, g.ad ++ [a], g.pr⟩, ⟨S.fs, by simp [S.len], ?_, fun k c b q1 q2 => ?_, S.sz, S.prs, S.prF, fun b hb w => ?_⟩, e, ⟨a, rfl, by simp [S.len]⟩, by simp⟩
    · exact List.nodup_append.mpr ⟨S.nd, by simp, fun u hu w hw => by
        simp at hw; subst hw; rintro rfl; exact h4 hu⟩
    · by_cases hk : k < m.length
      · rw [List.getElem?_append_left hk] at q1
        rw [List.getElem?_append_left (by rw [S.len]; exact hk)] at q2
        exact S.cell k c b q1 q2
      · have hk' : m.length ≤ k := Nat.le_of_not_lt hk
        rw [List.getElem?_append_right hk'] at q1
        rw [List.getElem?_append_right (by rw [S.len]; exact hk')] at q2
        have k0 : k - m.length = 0 := by
          have := (List.getElem?_eq_some_iff.mp q1).1
          simp at this
          omega
        rw [k0] at q1
        rw [S.len, k0] at q2
        simp at q1 q2
        subst q1 q2
        exact ⟨vs, h1, h2, fun z => by simp at z, fun _ => h3⟩
    · rcases List.mem_append.mp w with w | w
      · exact S.prA b hb w
      · have w' : b = a := by simpa using w
        subst w'
        exact h5 hb
/-- a new object -/
theorem ext_new {p : Addr} {o : HO} (S : SimM K m g H) (hp : H p = none) : Ext g H g (upd H p o) :=
  ⟨fun _ h => h, fun a h => by
    obtain ⟨xs, q⟩ := S.fs a h
    rw [upd_ne (ne_of_none q hp)], fun a xs h => by rw [upd_ne (ne_of_none h hp)]; exact h, fun a ob u h => by rw [upd_ne (ne_of_none h hp)]; exact h, ⟨[], by simp⟩, rfl, fun a h => by
    obtain ⟨o', q⟩ := S.prs a h
    rw [upd_ne (ne_of_none q hp)]⟩
/-- the length of what an object holds -/
def szOk : HO → Prop
  | .lst xs => xs.length ≤ sizeLine
  | .tup xs => xs.length ≤ sizeLine
  | .frz _ (.lst xs) => xs.length ≤ sizeLine
  | .frz _ (.tup xs) => xs.length ≤ sizeLine
  | _ => True
theorem sim_new {p : Addr} {o : HO} (S : SimM K m g H) (hp : H p = none) (ho : szOk o) : SimM K m g (upd H p o) := by
  have e := ext_new (o := o) S hp
  refine ⟨fun a h => ?_, S.len, S.nd, fun k c a h1 h2 => ?_, fun a xs h => ?_, fun a h => ?_, S.prF, S.prA⟩
  · obtain ⟨xs, q⟩ := S.fs a h
    exact ⟨xs, (e.fix a h).trans q⟩
  · obtain ⟨vs, q, r, t, z⟩ := S.cell k c a h1 h2
    exact ⟨vs, by rw [upd_ne (ne_of_none q hp)]; exact q, RpAll.ext e _ r, t, z⟩
  · by_cases ha : a = p
    · subst ha
      rw [upd_same] at h
      rcases h with h | h | ⟨ob, h⟩ | ⟨ob, h⟩ <;> (cases h; exact ho)
    · rw [upd_ne ha] at h
      exact S.sz a xs h
  · obtain ⟨o', q⟩ := S.prs a h
    exact ⟨o', (e.keep a h).trans q⟩
theorem not_pr {p : Addr} (S : SimM K m g H) (hp : H p = none) : ¬ g.pr p := fun h => by
  obtain ⟨o, q⟩ := S.prs p h
  rw [hp] at q; cases q
theorem not_ad {p : Addr} (S : SimM K m g H) (hp : H p = none) : p ∉ g.ad := fun h => by
  obtain ⟨k, hk⟩ := List.getElem?_of_mem h
  have hlt : k < m.length := by
    rw [← S.len]
    exact (List.getElem?_eq_some_iff.mp hk).1
  obtain ⟨vs, q, _⟩ := S.cell k m[k] p (List.getElem?_eq_getElem hlt) hk
  rw [hp] at q; cases q
theorem not_F {p : Addr} (S : SimM K m g H) (hp : H p = none) : ¬ g.F p := fun h => by
  obtain ⟨xs, q⟩ := S.fs p h
  rw [hp] at q; cases q
/-- a new list, a new tuple -/
theorem new_list {p : Addr} {vs : List V} {ds : List PyData} (S : SimM K m g H) (hp : H p = none) (h : RpAll K g.F H vs ds) (hz : vs.length ≤ sizeLine) :
    SimM K m g (upd H p (.lst vs)) ∧ Ext g H g (upd H p (.lst vs)) ∧ RpV K g (upd H p (.lst vs)) (.ref p) (.fr ds) :=
  ⟨sim_new S hp hz, ext_new S hp, p, vs, rfl, upd_same, RpAll.ext (ext_new S hp) _ h, not_F S hp, not_ad S hp, not_pr S hp⟩
theorem new_tup {p : Addr} {vs : List V} {ds : List PyData} (S : SimM K m g H) (hp : H p = none) (h : RpAll K g.F H vs ds) (hz : vs.length ≤ sizeLine) :
    SimM K m g (upd H p (.tup vs)) ∧ Ext g H g (upd H p (.tup vs)) ∧ RpV K g (upd H p (.tup vs)) (.ref p) (.d (.tuple ds)) :=
  ⟨sim_new S hp hz, ext_new S hp, Rp.tup (.inl (.inl upd_same)) (RpAll.ext (ext_new S hp) _ h)⟩
/-- a cell is changed -/
theorem up_cell {k : Nat} {c : Cell} {a : Addr} {ws : List V} {ys : List PyData} (S : SimM K m g H) (hm : m[k]? = some c) (ha : g.ad[k]? = some a) (hf : c.fz = false) (h : RpAll K g.F H ws ys) (hz : ws.length ≤ sizeLine) :
    SimM K (m.set k ⟨false, ys⟩) g (upd H a (.lst ws)) ∧ Ext g H g (upd H a (.lst ws)) := by
  obtain ⟨vs, p, q, r, t⟩ := S.cell k c a hm ha
  have hk : k < m.length := (List.getElem?_eq_some_iff.mp hm).1
  have nF := t hf
  have e : Ext g H g (upd H a (.lst ws)) := ⟨fun _ h => h, fun b hb => by
    have z : b ≠ a := fun z => nF (by rw [← z]; exact hb)
    rw [upd_ne z], fun b xs hb => by
    rw [upd_ne (ne_of hb p (by intro z; cases z))]; exact hb, fun b o u hb => by rw [upd_ne (ne_of hb p (by intro z; cases z))]; exact hb, ⟨[], by simp⟩, rfl, fun b hb => by
    have z : b ≠ a := fun z => S.prA b hb (by rw [z]; exact List.mem_of_getElem? ha)
    rw [upd_ne z]⟩
  refine ⟨⟨fun b hb => ?_, by rw [List.length_set]; exact S.len, S.nd, fun j c' b h1 h2 => ?_, fun b xs hb => ?_, fun b hb => ?_, S.prF, S.prA⟩, e⟩
  · obtain ⟨xs, z⟩ := S.fs b hb
    exact ⟨xs, (e.fix b hb).trans z⟩
  · by_cases hj : j = k
    · subst hj
      rw [List.getElem?_set_self hk] at h1
      cases h1
      rw [ha] at h2
      cases h2
      exact ⟨ws, upd_same, RpAll.ext e _ h, fun z => by simp at z, fun _ => nF⟩
    · rw [List.getElem?_set_ne (Ne.symm hj)] at h1
      obtain ⟨us, p', q', r', t'⟩ := S.cell j c' b h1 h2
      have nb : b ≠ a := fun z => by
        subst z
        have hlt : j < g.ad.length := (List.getElem?_eq_some_iff.mp h2).1
        exact hj ((List.getElem?_inj hlt S.nd).mp (h2.trans ha.symm))
      exact ⟨us, by rw [upd_ne nb]; exact p', RpAll.ext e _ q', r', t'⟩
  · by_cases hb' : b = a
    · subst hb'
      rw [upd_same] at hb
      rcases hb with z | z | ⟨_, z⟩ | ⟨_, z⟩
      · cases z; exact hz
      · cases z
      · cases z
      · cases z
    · rw [upd_ne hb'] at hb
      exact S.sz b xs hb
  · obtain ⟨o', q'⟩ := S.prs b hb
    exact ⟨o', (e.keep b hb).trans q'⟩
/-- the cells from n on are forgotten -/
theorem SimM.take (S : SimM K m g H) (n : Nat) : SimM K (m.take n) ⟨g.F, g.ad.take n, g.pr⟩ H :=
  ⟨S.fs, by rw [List.length_take, List.length_take, S.len], S.nd.sublist (List.take_sublist _ _), fun k c a h1 h2 => (by
    rw [List.getElem?_take] at h1 h2
    split at h1
    · rename_i hk
      rw [if_pos hk] at h2
      exact S.cell k c a h1 h2
    · cases h1), S.sz, S.prs, S.prF, fun b hb w => S.prA b hb (List.mem_of_mem_take w)⟩
theorem SimM.leave (S : SimM K m g H) {n : Nat} (h : RpV K g H x v) {m' : Mem} {v' : Val} (e : leave n v m = .ok v' m') (hn : n ≤ m.length) : m' = m.take n ∧ RpV K ⟨g.F, g.ad.take n, g.pr⟩ H x v' := by
  cases v with
  | d y =>
    simp only [Ra.leave, Res.ok.injEq] at e
    obtain ⟨rfl, rfl⟩ := e
    exact ⟨rfl, h⟩
  | dv y =>
    simp only [Ra.leave, Res.ok.injEq] at e
    obtain ⟨rfl, rfl⟩ := e
    exact ⟨rfl, h⟩
  | fr xs =>
    simp only [Ra.leave, Res.ok.injEq] at e
    obtain ⟨rfl, rfl⟩ := e
    obtain ⟨a, vs, rfl, h1, h2, h3, h4, h5⟩ := h
    exact ⟨rfl, a, vs, rfl, h1, h2, h3, fun z => h4 (List.mem_of_mem_take z), h5⟩
  | mr k =>
    obtain ⟨a, rfl, q⟩ := h
    simp only [Ra.leave] at e
    split at e
    · rename_i hk
      simp only [Res.ok.injEq] at e
      obtain ⟨rfl, rfl⟩ := e
      exact ⟨rfl, a, rfl, by
        show (g.ad.take n)[k]? = some a
        rw [List.getElem?_take, if_pos hk]; exact q⟩
    · rename_i hk
      cases hm : m[k]? with
      | none => rw [hm] at e; simp at e
      | some c =>
        rw [hm] at e
        simp only [Res.ok.injEq] at e
        obtain ⟨rfl, rfl⟩ := e
        refine ⟨rfl, ?_⟩
        obtain ⟨vs, p, r, t, z⟩ := S.cell k c a hm q
        cases hc : c.fz with
        | true =>
          simp only [if_true]
          exact Rp.lst (.inl ⟨t hc, p⟩) r
        | false =>
          simp only [Bool.false_eq_true, if_false]
          refine ⟨a, vs, rfl, p, r, z hc, fun w => ?_, fun w => S.prA a w (List.mem_of_getElem? q)⟩
          obtain ⟨j, hj⟩ := List.getElem?_of_mem w
          have hj2 : (g.ad.take n)[j]? = some a := hj
          rw [List.getElem?_take] at hj2
          split at hj2
          · rename_i hjn
            have hlt : j < g.ad.length := (List.getElem?_eq_some_iff.mp hj2).1
            have := (List.getElem?_inj hlt S.nd).mp (hj2.trans q.symm)
            omega
          · cases hj2
end
end Ra


set_option Elab.async false
set_option linter.all false
set_option autoImplicit false
set_option maxRecDepth 100000
/-! readings by the evaluator -/
namespace Ra
open PySem PySem.Spec PyProof.Rows L2

def Rz (K : PySem.W.Frag) {α : Type} (r : Res α) (g : G) (H : Hp) (Q : α → Mem → G → Hp → Prop) : Prop :=
  match r with
  | .ok a m' => ∀ g' H', Ext g H g' H' → SimM K m' g' H' → Q a m' g' H'
  | .exc _ _ => False
  | .fail => False
section
variable {K : PySem.W.Frag} {α β : Type} {g g' : G} {H H' : Hp}
theorem Rz.ext {r : Res α} {Q : α → Mem → G → Hp → Prop} (e : Ext g H g' H') (h : Rz K r g H Q) : Rz K r g' H' Q := by
  cases r with
  | ok a m' => exact fun g2 H2 e2 => h g2 H2 (e.trans e2)
  | exc x m' => exact h
  | fail => exact h
theorem Rz.mono {r : Res α} {Q Q' : α → Mem → G → Hp → Prop} (h : Rz K r g H Q) (q : ∀ a m g' H', Ext g H g' H' → SimM K m g' H' → Q a m g' H' → Q' a m g' H') : Rz K r g H Q' := by
  cases r with
  | ok a m' => exact fun g2 H2 e2 s2 => q _ _ _ _ e2 s2 (h g2 H2 e2 s2)
  | exc x m' => exact h
  | fail => exact h
theorem Rz.bind {r : Res α} {f : α → Mem → Res β} {Q : β → Mem → G → Hp → Prop} (h : Rz K (r.bind f) g H Q) : Rz K r g H fun a m' g' H' => Rz K (f a m') g' H' Q := by
  cases r with
  | ok a m' => exact fun g2 H2 e2 s2 => Rz.ext e2 h
  | exc x m' => exact h
  | fail => exact h
theorem Rz.ok_now {a : α} {m : Mem} {Q : α → Mem → G → Hp → Prop} (h : Rz K (.ok a m) g H Q) (S : SimM K m g H) : Q a m g H := h g H (Ext.refl g H) S
theorem Rz.opt {o : Option α} {m : Mem} {Q : α → Mem → G → Hp → Prop} (h : Rz K (optR o m) g H Q) : ∃ a, o = some a ∧ Rz K (.ok a m) g H Q := by
  cases o with
  | none => exact h.elim
  | some a => exact ⟨a, rfl, h⟩
theorem Rz.rd {m : Mem} {v : Val} {Q : PyData → Mem → G → Hp → Prop} (h : Rz K (rdR m v) g H Q) : ∃ d, Ra.rd m v = some d ∧ Rz K (.ok d m) g H Q := Rz.opt h
theorem Rz.rdBind {m : Mem} {v : Val} {f : PyData → Mem → Res β} {Q : β → Mem → G → Hp → Prop} (h : Rz K ((rdR m v).bind f) g H Q) : ∃ d, Ra.rd m v = some d ∧ Rz K (f d m) g H Q := by
  unfold rdR optR at h
  cases e : Ra.rd m v with
  | none => rw [e] at h; exact h.elim
  | some d => rw [e] at h; exact ⟨d, rfl, h⟩
theorem Rz.optBind {o : Option α} {m : Mem} {f : α → Mem → Res β} {Q : β → Mem → G → Hp → Prop} (h : Rz K ((optR o m).bind f) g H Q) : ∃ d, o = some d ∧ Rz K (f d m) g H Q := by
  unfold optR at h
  cases o with
  | none => exact h.elim
  | some d => exact ⟨d, rfl, h⟩
end
/-! readings of what may raise -/
abbrev Zx := Exn → Mem → G → Hp → Prop
def Rx (K : PySem.W.Frag) (Z : Zx) {α : Type} (r : Res α) (g : G) (H : Hp) (Q : α → Mem → G → Hp → Prop) : Prop :=
  match r with
  | .ok a m' => ∀ g' H', Ext g H g' H' → SimM K m' g' H' → Q a m' g' H'
  | .exc x m' => ∀ g' H', Ext g H g' H' → SimM K m' g' H' → Z x m' g' H'
  | .fail => False
section
variable {K : PySem.W.Frag} {α β : Type} {g g' : G} {H H' : Hp} {Z Z' : Zx}
theorem Rx.ext {r : Res α} {Q : α → Mem → G → Hp → Prop} (e : Ext g H g' H') (h : Rx K Z r g H Q) : Rx K Z r g' H' Q := by
  cases r with
  | ok a m' => exact fun g2 H2 e2 => h g2 H2 (e.trans e2)
  | exc x m' => exact fun g2 H2 e2 => h g2 H2 (e.trans e2)
  | fail => exact h
theorem Rx.mono {r : Res α} {Q Q' : α → Mem → G → Hp → Prop} (h : Rx K Z r g H Q) (q : ∀ a m g' H', Ext g H g' H' → SimM K m g' H' → Q a m g' H' → Q' a m g' H') : Rx K Z r g H Q' := by
  cases r with
  | ok a m' => exact fun g2 H2 e2 s2 => q _ _ _ _ e2 s2 (h g2 H2 e2 s2)
  | exc x m' => exact h
  | fail => exact h
theorem Rx.monoZ {r : Res α} {Q Q' : α → Mem → G → Hp → Prop} (h : Rx K Z r g H Q) (q : ∀ a m g' H', Ext g H g' H' → SimM K m g' H' → Q a m g' H' → Q' a m g' H') (z : ∀ x m g' H', Ext g H g' H' → SimM K m g' H' → Z x m g' H' → Z' x m g' H') : Rx K Z' r g H Q' := by
  cases r with
  | ok a m' => exact fun g2 H2 e2 s2 => q _ _ _ _ e2 s2 (h g2 H2 e2 s2)
  | exc x m' => exact fun g2 H2 e2 s2 => z _ _ _ _ e2 s2 (h g2 H2 e2 s2)
  | fail => exact h
theorem Rx.bind {r : Res α} {f : α → Mem → Res β} {Q : β → Mem → G → Hp → Prop} (h : Rx K Z (r.bind f) g H Q) : Rx K Z r g H fun a m' g' H' => Rx K Z (f a m') g' H' Q := by
  cases r with
  | ok a m' => exact fun g2 H2 e2 s2 => Rx.ext e2 h
  | exc x m' => exact h
  | fail => exact h
/-- where no exception is served -/
theorem Rx.bindX {r : Res α} {f : α → Mem → Res β} {Q : β → Mem → G → Hp → Prop} (h : Rx K Z (r.noX.bind f) g H Q) : Rz K r g H fun a m' g' H' => Rx K Z (f a m') g' H' Q := by
  cases r with
  | ok a m' => exact fun g2 H2 e2 s2 => Rx.ext e2 h
  | exc x m' => exact h
  | fail => exact h
theorem Rx.ok_now {a : α} {m : Mem} {Q : α → Mem → G → Hp → Prop} (h : Rx K Z (.ok a m) g H Q) (S : SimM K m g H) : Q a m g H := h g H (Ext.refl g H) S
theorem Rx.rdBind {m : Mem} {v : Val} {f : PyData → Mem → Res β} {Q : β → Mem → G → Hp → Prop} (h : Rx K Z ((rdR m v).bind f) g H Q) : ∃ d, Ra.rd m v = some d ∧ Rx K Z (f d m) g H Q := by
  unfold rdR optR at h
  cases e : Ra.rd m v with
  | none => rw [e] at h; exact h.elim
  | some d => rw [e] at h; exact ⟨d, rfl, h⟩
theorem Rz.rx {r : Res α} {Q : α → Mem → G → Hp → Prop} (h : Rz K r g H Q) : Rx K Z r g H Q := by
  cases r with
  | ok a m' => exact h
  | exc x m' => exact h.elim
  | fail => exact h
theorem frz_nx {v : Val} {m : Mem} {x : Exn} {m' : Mem} : Ra.frz v m ≠ .exc x m' := by
  intro h
  cases v with
  | d _ => cases h
  | fr _ => cases h
  | mr k =>
    unfold Ra.frz at h
    cases hk : m[k]? with
    | none => simp [hk] at h
    | some c => simp [hk] at h
  | dv _ => cases h
theorem mkCell_nx {v : Val} {m : Mem} {x : Exn} {m' : Mem} : Ra.mkCell v m ≠ .exc x m' := by
  intro h
  cases v <;> cases h
theorem stored_nx {c : Bool} {v : Val} {m : Mem} {x : Exn} {m' : Mem} : Ra.stored c v m ≠ .exc x m' := by
  intro h
  unfold Ra.stored at h
  split at h
  · exact mkCell_nx h
  · cases h
end
/-- the names -/
structure Sg (K : PySem.W.Frag) (env : Env) (σ : L2.St) (g : G) (H : Hp) : Prop where
  len : env.length = σ.length
  at_ : ∀ i v, getV env i = some v → ∃ x, σ[i]? = some (some x) ∧ RpV K g H x v ∧ ∀ xs, v ≠ .fr xs
section
variable {K : PySem.W.Frag} {α β : Type} {g g' : G} {H H' : Hp} {env : Env} {σ : L2.St}
theorem Sg.ext (s : Sg K env σ g H) (e : Ext g H g' H') : Sg K env σ g' H' := ⟨s.len, fun i v h => by
  obtain ⟨x, h1, h2, h3⟩ := s.at_ i v h
  exact ⟨x, h1, h2.ext e h3, h3⟩⟩
theorem getV_set {i j : Nat} {v : Option Val} : getV (env.set i v) j = if i = j then (if i < env.length then v else none) else getV env j := by
  unfold getV
  rw [List.getElem?_set]
  by_cases h : i = j
  · subst h
    simp only [if_true]
    by_cases h2 : i < env.length
    · simp [h2]
    · simp [h2]
  · simp [h]
theorem Sg.set (s : Sg K env σ g H) {i : Nat} {v : Val} {x : V} (h : RpV K g H x v) (hf : ∀ xs, v ≠ .fr xs) (hi : i < env.length) : Sg K (setV env i v) (σ.set i (some x)) g H := by
  refine ⟨by simp [setV, s.len], fun j w q => ?_⟩
  unfold setV at q
  rw [getV_set] at q
  by_cases hj : i = j
  · subst hj
    rw [if_pos rfl, if_pos hi] at q
    cases q
    exact ⟨x, by rw [List.getElem?_set_self (by rw [← s.len]; exact hi)], h, hf⟩
  · rw [if_neg hj] at q
    obtain ⟨y, h1, h2, h3⟩ := s.at_ j w q
    exact ⟨y, by rw [List.getElem?_set_ne hj]; exact h1, h2, h3⟩
theorem Sg.wipe1 (s : Sg K env σ g H) (i : Nat) : Sg K (env.set i none) (σ.set i none) g H := by
  refine ⟨by simp [s.len], fun j w q => ?_⟩
  rw [getV_set] at q
  by_cases hj : i = j
  · subst hj
    rw [if_pos rfl] at q
    split at q <;> cases q
  · rw [if_neg hj] at q
    obtain ⟨y, h1, h2, h3⟩ := s.at_ j w q
    exact ⟨y, by rw [List.getElem?_set_ne hj]; exact h1, h2, h3⟩
theorem Sg.wipe (s : Sg K env σ g H) : ∀ vs : List Nat, Sg K (Ra.wipe env vs) (L2.wipe σ vs) g H
  | [] => s
  | v :: vs => (Sg.wipe s vs).wipe1 v
end
/-- readings -/
def tE (K : PySem.W.Frag) (p : EV) : TE := fun σ H Q => ∃ env m g, Sg K env σ g H ∧ SimM K m g H ∧ Rz K (p env m) g H fun v _ g' H' => ∀ x, RpV K g' H' x v → Q x H'
def tT (K : PySem.W.Frag) (p : ET) : TT := fun σ H Q => ∃ env m g, Sg K env σ g H ∧ SimM K m g H ∧ Rz K (p env m) g H fun b _ _ H' => Q b H'
inductive RpVs (K : PySem.W.Frag) (g : G) (H : Hp) : List V → List Val → Prop
  | nil : RpVs K g H [] []
  | cons {x : V} {xs : List V} {v : Val} {vs : List Val} : RpV K g H x v → (∀ ys, v ≠ .fr ys) → RpVs K g H xs vs → RpVs K g H (x :: xs) (v :: vs)
def tAr (K : PySem.W.Frag) (p : Env → Mem → Res (List Val)) : TA := fun σ H Q => ∃ env m g, Sg K env σ g H ∧ SimM K m g H ∧ Rz K (p env m) g H fun vs _ g' H' => ∀ xs, RpVs K g' H' xs vs → Q xs H'
def tIt (K : PySem.W.Frag) (p : Env → Mem → Res (List PyData)) : TA := fun σ H Q => ∃ env m g, Sg K env σ g H ∧ SimM K m g H ∧ Rz K (p env m) g H fun ds _ g' H' => ∀ xs, RpAll K g'.F H' xs ds → Q xs H'
section
variable {X : Cx} {e : Expr} {es : List Expr} {t t' : TE}
theorem PE.weak (h : PE X e t) (w : ∀ σ H Q, t' σ H Q → t σ H Q) : PE X e t' := ⟨fun pins s σ H Q I q => h.run pins s σ H Q I (w σ H Q q)⟩
theorem PT.weak {t t' : TT} (h : PT X e t) (w : ∀ σ H Q, t' σ H Q → t σ H Q) : PT X e t' := ⟨fun pins s σ H Q I q => h.run pins s σ H Q I (w σ H Q q)⟩
theorem PW.weak {t t' : TT} (h : PW X e t) (w : ∀ σ H Q, t' σ H Q → t σ H Q) : PW X e t' := ⟨fun wh pins s σ H Q I q => h.run wh pins s σ H Q I (w σ H Q q)⟩
theorem PA.weak {t t' : TA} (h : PA X es t) (w : ∀ σ H Q, t' σ H Q → t σ H Q) : PA X es t' := ⟨fun pos pins s σ H Q I q => h.run pos pins s σ H Q I (w σ H Q q)⟩
theorem PS.weak {st : Stmt} {t t' : TS} (h : PS X st t) (w : ∀ D σ H, t' D σ H → t D σ H) : PS X st t' := ⟨fun pins s σ H D I q => h.run pins s σ H D I (w D σ H q)⟩
theorem PSs.weak {st : List Stmt} {t t' : TS} (h : PSs X st t) (w : ∀ D σ H, t' D σ H → t D σ H) : PSs X st t' := ⟨fun pins s σ H D I q => h.run pins s σ H D I (w D σ H q)⟩
theorem PI.weak {tg it : Expr} {t t' : TI} (h : PI X tg it t) (w : ∀ σ H Q, t' σ H Q → t σ H Q) : PI X tg it t' := ⟨fun pins s σ H R I q => h.run pins s σ H R I (w σ H R q)⟩
theorem PI.or {tg it : Expr} {t t' : TI} (h : PI X tg it t) (h' : PI X tg it t') : PI X tg it (fun σ H R => t σ H R ∨ t' σ H R) := ⟨fun pins s σ H R I q => q.elim (h.run pins s σ H R I) (h'.run pins s σ H R I)⟩
theorem OpR.or {f : Value → Value → Sem Value} {r r' : R2} (h : OpR X f r) (h' : OpR X f r') : OpR X f (fun x y H Q => r x y H Q ∨ r' x y H Q) := fun pins s σ H x y v u Q I rx ry q => q.elim (h pins s σ H x y v u Q I rx ry) (h' pins s σ H x y v u Q I rx ry)
theorem OpR.weak {f : Value → Value → Sem Value} {r r' : R2} (h : OpR X f r) (w : ∀ x y H Q, r' x y H Q → r x y H Q) : OpR X f r' := fun pins s σ H x y v u Q I rx ry q => h pins s σ H x y v u Q I rx ry (w _ _ _ _ q)
theorem CallR.or {f : Value} {r r' : List V → Hp → VK → Prop} (h : CallR X f r) (h' : CallR X f r') : CallR X f (fun xs H Q => r xs H Q ∨ r' xs H Q) := fun pins s σ H xs us Q I rx q => q.elim (h pins s σ H xs us Q I rx) (h' pins s σ H xs us Q I rx)
theorem CallR.weak {f : Value} {r r' : List V → Hp → VK → Prop} (h : CallR X f r) (w : ∀ xs H Q, r' xs H Q → r xs H Q) : CallR X f r' := fun pins s σ H xs us Q I rx q => h pins s σ H xs us Q I rx (w _ _ _ q)
end
/-! the operators, by what they read -/
def rOp (K : PySem.W.Frag) (f : PyData → PyData → Mem → Res Val) : R2 := fun x y H Q => ∃ m g dx dy, SimM K m g H ∧ Rr K g.F H x dx ∧ Rr K g.F H y dy ∧ Rz K (f dx dy m) g H fun v _ g' H' => ∀ z, RpV K g' H' z v → Q z H'
/-- two operands -/
theorem c2_ok {K : PySem.W.Frag} {pa pb : P} {f : PyData → PyData → Mem → Res Val} {σ : L2.St} {H : Hp} {Q : VK} (h : tE K (c2 pa pb f) σ H Q) :
    tE K pa.v σ H fun x H1 => tE K pb.v σ H1 fun y H2 => rOp K f x y H2 Q := by
  obtain ⟨env, m, g, hs, hm, hz⟩ := h
  refine ⟨env, m, g, hs, hm, (Rz.bind hz).mono fun va m1 g1 H1 e1 s1 z1 x rx => ?_⟩
  obtain ⟨g1', s1', e1', rx'⟩ := s1.hold rx
  refine ⟨env, m1, g1', (hs.ext e1).ext e1', s1', (Rz.bind (z1.ext e1')).mono fun vb m2 g2 H2 e2 s2 z2 y ry => ?_⟩
  obtain ⟨g2', s2', e2', ry'⟩ := s2.hold ry
  obtain ⟨dx, hx, z3⟩ := Rz.rdBind (z2.ext e2')
  obtain ⟨dy, hy, z4⟩ := Rz.rdBind z3
  exact ⟨m2, g2', dx, dy, s2', s2'.read (nf_ne va) (RpV.ext (e2.trans e2') (nf_ne va) rx') hx, s2'.read (nf_ne vb) ry' hy, z4⟩
theorem pe_c2 {X : Cx} {a b : Expr} {op : Operator} {pos : Pos} {pa pb : P} {f : PyData → PyData → Mem → Res Val} (ha : PE X a (tE X.K pa.v)) (hb : PE X b (tE X.K pb.v)) (ho : OpR X (binaryOp op) (rOp X.K f)) :
    PE X (.BinOp a op b pos) (tE X.K (c2 pa pb f)) := PE.weak (pe_op ho ha hb) fun _ _ _ h => c2_ok h
theorem c1_ok {K : PySem.W.Frag} {pa : P} {f : PyData → Mem → Res Val} {σ : L2.St} {H : Hp} {Q : VK} (h : tE K (c1 pa f) σ H Q) :
    tE K pa.v σ H fun x H1 => ∃ m g dx, SimM K m g H1 ∧ Rr K g.F H1 x dx ∧ Rz K (f dx m) g H1 fun v _ g' H' => ∀ z, RpV K g' H' z v → Q z H' := by
  obtain ⟨env, m, g, hs, hm, hz⟩ := h
  refine ⟨env, m, g, hs, hm, (Rz.bind hz).mono fun va m1 g1 H1 e1 s1 z1 x rx => ?_⟩
  obtain ⟨g1', s1', e1', rx'⟩ := s1.hold rx
  obtain ⟨dx, hx, z3⟩ := Rz.rdBind (z1.ext e1')
  exact ⟨m1, g1', dx, s1', s1'.read (nf_ne va) rx' hx, z3⟩
end Ra


set_option Elab.async false
set_option linter.all false
set_option autoImplicit false
set_option maxRecDepth 100000
/-! the operators -/
namespace Ra
open PySem PySem.Spec PyProof.Rows L2
theorem lim_eq : lim = sizeLine := by rw [sizeLine_eq]; rfl
section
variable {K : PySem.W.Frag} {F : Addr → Prop} {H : Hp} {x : V}
theorem Rr.int {i : Int} (h : Rr K F H x (.int i)) : x = .int i := by cases h; rfl
theorem Rr.bool {b : Bool} (h : Rr K F H x (.bool b)) : x = .bl b := by cases h; rfl
theorem Rr.str {z : Str} (h : Rr K F H x (.str z)) : x = .str z := by cases h; rfl
theorem Rr.sok {z : Str} (h : Rr K F H x (.str z)) : sOk z = true := by
  cases h with
  | str _ h => exact h
theorem sok_len {z : Str} (h : sOk z = true) : z.length ≤ sizeLine := by
  rw [← lim_eq]; exact of_decide_eq_true (Bool.and_eq_true_iff.mp h).2
theorem Rr.none (h : Rr K F H x .none) : x = .non := by cases h; rfl
theorem Rr.tup {ds : List PyData} (h : Rr K F H x (.tuple ds)) : ∃ a xs, x = .ref a ∧ SqT K H a xs ∧ RpAll K F H xs ds := by
  cases h with
  | tup a b => exact ⟨_, _, rfl, a, b⟩
theorem Rr.lst {ds : List PyData} (h : Rr K F H x (.list ds)) : ∃ a xs, x = .ref a ∧ Rd H a (.lst xs) ∧ RpAll K F H xs ds := h
mutual
theorem Rp.dp : ∀ (d : PyData) {x : V}, Rp K F H x d → Dp K H x d
  | .none, _, h => by cases h; exact .non
  | .bool b, _, h => by cases h; exact .bl b
  | .int i, _, h => by cases h; exact .int i
  | .str s, _, h => by
    cases h with
    | str _ h => exact .str s
  | .list ds, _, h => by
    cases h with
    | lst a b => exact .lst (.inl a.rd) (RpAll.dp ds b)
  | .tuple ds, _, h => by
    cases h with
    | tup a b => exact .tup a (RpAll.dp ds b)
  | .dict _, _, h => by cases h
theorem RpAll.dp : ∀ (ds : List PyData) {xs : List V}, RpAll K F H xs ds → DpAll K H xs ds
  | [], _, h => by cases h; exact .nil
  | d :: ds, _, h => by
    cases h with
    | cons a b => exact .cons (Rp.dp d a) (RpAll.dp ds b)
end
mutual
theorem Rp.lay : ∀ (d : PyData) {x : V}, Rp K F H x d → d.canLay0 = true
  | .none, _, h => rfl
  | .bool b, _, h => rfl
  | .int i, _, h => rfl
  | .str s, _, h => by
    cases h with
    | str _ h => exact (Bool.and_eq_true_iff.mp h).1
  | .list ds, _, h => by
    cases h with
    | lst a b => exact RpAll.lay ds b
  | .tuple ds, _, h => by
    cases h with
    | tup a b => exact RpAll.lay ds b
  | .dict _, _, h => by cases h
theorem RpAll.lay : ∀ (ds : List PyData) {xs : List V}, RpAll K F H xs ds → PyData.canLayAll0 ds = true
  | [], _, h => rfl
  | d :: ds, _, h => by
    cases h with
    | cons a b =>
      have h1 := Rp.lay d a
      have h2 := RpAll.lay ds b
      simp [PyData.canLayAll0, h1, h2]
end
theorem Rr.dp {d : PyData} (h : Rr K F H x d) : Dp K H x d := by
  cases d with
  | list ds =>
    obtain ⟨a, xs, rfl, h1, h2⟩ := h
    exact .lst (.inl h1) (RpAll.dp _ h2)
  | none => exact Rp.dp _ h
  | bool b => exact Rp.dp _ h
  | int b => exact Rp.dp _ h
  | str b => exact Rp.dp _ h
  | tuple b => exact Rp.dp _ h
  | dict b => exact Rp.dp _ h
theorem Rr.lay {d : PyData} (h : Rr K F H x d) : d.canLay0 = true := by
  cases d with
  | list ds =>
    obtain ⟨a, xs, rfl, h1, h2⟩ := h
    exact RpAll.lay _ h2
  | none => exact Rp.lay _ h
  | bool b => exact Rp.lay _ h
  | int b => exact Rp.lay _ h
  | str b => exact Rp.lay _ h
  | tuple b => exact Rp.lay _ h
  | dict b => exact Rp.lay _ h
end
section
variable {X : Cx}
theorem lstR {pins : List (Addr × Obj)} {σ : L2.St} {H : Hp} {s : Shared} {l : Addr} {xs : List V} (I : Inv X pins σ H s) (hH : Rd H l (.lst xs)) :
    xs.length ≤ sizeLine ∧ ∃ (its : List Value) (n : Nat), Vals xs its ∧ xs.length = its.length ∧ s.heap.get? l = some { cls := .type "list", data := .seq its.toArray n } := by
  obtain ⟨z, its, n, r, e⟩ := hH.ok I.hok
  exact ⟨z, its, n, r, r.length, e⟩
/-- the answer is a value of data -/
abbrev Ans (K : PySem.W.Frag) (Q : VK) : Val → Mem → G → Hp → Prop := fun v _ g' H' => ∀ z, RpV K g' H' z v → Q z H'
theorem ans_d {K : PySem.W.Frag} {Q : VK} {m : Mem} {g : G} {H : Hp} {d : PyData} {x : V} (S : SimM K m g H) (h : Rz K (.ok (.d d) m) g H (Ans K Q)) (r : Rp K g.F H x d) : Q x H := Rz.ok_now h S x r
theorem ans_l {K : PySem.W.Frag} {Q : VK} {m : Mem} {g : G} {H : Hp} {ds : List PyData} {vs : List V} {p : Addr} (S : SimM K m g H) (h : Rz K (.ok (.fr ds) m) g H (Ans K Q)) (r : RpAll K g.F H vs ds) (hz : vs.length ≤ sizeLine) (hp : H p = none) :
    Q (.ref p) (upd H p (.lst vs)) := by
  obtain ⟨S', e, q⟩ := new_list S hp r hz
  exact h _ _ e S' _ q
theorem ans_t {K : PySem.W.Frag} {Q : VK} {m : Mem} {g : G} {H : Hp} {ds : List PyData} {vs : List V} {p : Addr} (S : SimM K m g H) (h : Rz K (.ok (.d (.tuple ds)) m) g H (Ans K Q)) (r : RpAll K g.F H vs ds) (hz : vs.length ≤ sizeLine) (hp : H p = none) :
    Q (.ref p) (upd H p (.tup vs)) := by
  obtain ⟨S', e, q⟩ := new_tup S hp r hz
  exact h _ _ e S' _ q
theorem sok_cat {x y : Str} (hx : sOk x = true) (hy : sOk y = true) (h : x.length + y.length ≤ lim) : sOk (x ++ y) = true := by
  obtain ⟨a, _⟩ := Bool.and_eq_true_iff.mp hx
  obtain ⟨b, _⟩ := Bool.and_eq_true_iff.mp hy
  refine Bool.and_eq_true_iff.mpr ⟨?_, decide_eq_true ?_⟩
  · show ((x.cps ++ y.cps).all (· < 0x110000)) = true
    rw [Array.all_append, Bool.and_eq_true_iff]
    exact ⟨a, b⟩
  · show (x.cps ++ y.cps).size ≤ lim
    rw [Array.size_append]; exact h
theorem or_add : OpR X (binaryOp .Add) (rOp X.K fun x y m => optR (bop .add x y) m) := by
  intro pins s σ H x y v u Q I rx ry h
  obtain ⟨m, g, dx, dy, S, hx, hy, hz⟩ := h
  obtain ⟨w, hw, hz⟩ := Rz.opt hz
  replace hw : addD dx dy = some w := hw
  unfold addD at hw
  split at hw
  · cases hw
    have e1 := hx.int; have e2 := hy.int; subst e1 e2
    exact op_add pins s σ H _ _ v u Q I rx ry ⟨_, _, rfl, rfl, ans_d S hz (.int _)⟩
  · split at hw
    · rename_i hl
      cases hw
      have e1 := hx.str; have e2 := hy.str; subst e1 e2
      exact op_add_str pins s σ H _ _ v u Q I rx ry ⟨_, _, rfl, rfl, by rw [← lim_eq]; exact hl, ans_d S hz (.str _ (sok_cat hx.sok hy.sok hl))⟩
    · cases hw
  · split at hw
    · rename_i hl
      cases hw
      obtain ⟨a, vs, rfl, h1, h2⟩ := hx.lst
      obtain ⟨b, ws, rfl, h3, h4⟩ := hy.lst
      cases rx
      cases ry
      obtain ⟨z, its, n, r, hl1, e⟩ := lstR I h1
      obtain ⟨z2, its2, n2, r2, hl2, e2⟩ := lstR I h3
      have hh : vs.length + ws.length ≤ sizeLine := by rw [← lim_eq, h2.length, h4.length]; exact hl
      refine PySem.P.add_list e e2 ?_ (by
        rw [List.size_toArray, List.size_toArray]
        omega)
      rw [show its.toArray ++ its2.toArray = (its ++ its2).toArray by simp]
      exact ⟨.ref _, _, I.lnew (t' := s.toks) (r.append r2) (by rw [List.length_append]; omega), rfl, ans_l S hz (h2.append h4) (by rw [List.length_append]; exact hh) I.fresh⟩
    · cases hw
  · split at hw
    · rename_i hl
      cases hw
      obtain ⟨a, vs, rfl, h1, h2⟩ := hx.tup
      obtain ⟨b, ws, rfl, h3, h4⟩ := hy.tup
      have hh : vs.length + ws.length ≤ sizeLine := by rw [← lim_eq, h2.length, h4.length]; exact hl
      refine op_catA pins s σ H _ _ v u Q I rx ry ⟨a, b, vs, ws, rfl, rfl, h1, h3, hh, fun e => ?_, fun _ e => ?_, fun _ _ p hp => ans_t S hz (h2.append h4) (by rw [List.length_append]; exact hh) hp⟩
      · subst e
        cases h2
        exact ans_d S hz (.tup h3 h4)
      · subst e
        cases h4
        rw [List.append_nil] at hz
        exact ans_d S hz (.tup h1 h2)
    · cases hw
  · cases hw
theorem or_sub : OpR X (binaryOp .Sub) (rOp X.K fun x y m => optR (bop .sub x y) m) := by
  intro pins s σ H x y v u Q I rx ry h
  obtain ⟨m, g, dx, dy, S, hx, hy, hz⟩ := h
  obtain ⟨w, hw, hz⟩ := Rz.opt hz
  replace hw : subD dx dy = some w := hw
  unfold subD at hw
  split at hw
  · cases hw
    have e1 := hx.int; have e2 := hy.int; subst e1 e2
    exact op_sub pins s σ H _ _ v u Q I rx ry ⟨_, _, rfl, rfl, ans_d S hz (.int _)⟩
  · cases hw
theorem rep_ok {pins : List (Addr × Obj)} {σ : L2.St} {H : Hp} {s : Shared} {l : Addr} {ws : List V} {j : Int} {tk : Tok} {Q : VK} (I : Inv X pins σ H s) (hw : Rd H l (.lst ws)) (j1 : -(2 ^ 63) ≤ j) (j2 : j < 2 ^ 63)
    (hj : ws.length * j.toNat ≤ sizeLine) (fin : ∀ p, H p = none → Q (.ref p) (upd H p (.lst (List.replicate j.toNat ws).flatten))) : wpAny (model X.prog X.w) X.A (binaryOp .Mult (.ref l) (.int j tk)) (EP X pins σ Q) X.xe s := by
  obtain ⟨zz, is, nn, rv, hlen0, eo⟩ := lstR I hw
  have b1 : is.toArray.size * j.toNat ≤ sizeLine := by
    rw [List.size_toArray, ← hlen0]
    exact hj
  have b2 : ¬ is.toArray.size * j.toNat > (2 ^ 63 - 1) / 8 := by
    have z : (sizeLine : Nat) ≤ (2 ^ 63 - 1) / 8 := by decide
    omega
  have b3 : ¬ (!Builtin.List.listFitsIndex j) = true := by
    rw [fitsIndex_both j1 j2]
    decide
  have b4 : ¬ Builtin.List.listTooLong (is.toArray.size * j.toNat) = true := by
    rw [notLongL b1]
    decide
  have made : List.foldl (fun a b => a ++ b) #[] (List.replicate (if is.toArray.isEmpty = true then 0 else j.toNat) is.toArray) = (List.replicate j.toNat is).flatten.toArray := by
    have all : ∀ n : Nat, List.foldl (fun a b => a ++ b) #[] (List.replicate n is.toArray) = (List.replicate n is).flatten.toArray := fun n => by
      have q := foldl_rep is n []
      rw [List.nil_append] at q
      exact q
    rw [all]
    cases is with
    | nil => simp
    | cons _ _ => rw [if_neg (by simp)]
  refine wpAny_binaryOp_repeat_ref (T := "list") (U := "int") (by decide) ⟨_, eo, rfl⟩ (fun s' => typeIs_int s' j tk) noFill_list_mul F.fills_int_mul F.slot_int_rmul repeat_list
    F.slot_int_index.lookup (call_meets F.slot_int_rmul (typeIs_int s j tk) F.entry_int_rmul (F.args_int_rmul_2 _ _) (int___rmul___int_list j tk l is.toArray nn) ⟨eo, rfl, ⟨_, eo, rfl⟩,
      call_meets F.slot_list_mul ⟨_, eo, rfl⟩ F.entry_list_mul (F.args_list_mul_2 _ _) (AutoListH.list___mul___list_int_3 l is.toArray nn j tk b3 b2 b4) ⟨eo, ?_⟩⟩)
  rw [made]
  exact ⟨.ref _, _, I.lnew (t' := s.toks) (rv.rep j.toNat) (by rw [PyProof.Rows.lm_len_rep_flat, Nat.mul_comm]; exact hj), rfl, fin _ I.fresh⟩
theorem small64_ok {i j : Int} (h : (small64 i || small64 j) = true) : CMul i j := by
  unfold small64 at h
  simp only [Bool.or_eq_true, Bool.and_eq_true, decide_eq_true_eq] at h
  exact h
theorem or_mul : OpR X (binaryOp .Mult) (rOp X.K fun x y m => optR (bop .mul x y) m) := by
  intro pins s σ H x y v u Q I rx ry h
  obtain ⟨m, g, dx, dy, S, hx, hy, hz⟩ := h
  obtain ⟨w, hw, hz⟩ := Rz.opt hz
  replace hw : mulD dx dy = some w := hw
  unfold mulD at hw
  split at hw
  · split at hw
    · rename_i hc
      cases hw
      have e1 := hx.int; have e2 := hy.int; subst e1 e2
      exact op_mul pins s σ H _ _ v u Q I rx ry ⟨_, _, rfl, rfl, small64_ok hc, ans_d S hz (.int _)⟩
    · cases hw
  · split at hw
    · rename_i k hc
      cases hw
      obtain ⟨c1, c2, c3⟩ := hc
      obtain ⟨a, vs, rfl, h1, h2⟩ := hx.lst
      have e2 := hy.int; subst e2
      cases rx
      obtain ⟨t, rfl⟩ := ry
      obtain ⟨z, its, n, r, hl, e⟩ := lstR I h1
      have hc3 : vs.length * k.toNat ≤ sizeLine := by rw [← lim_eq, h2.length]; exact c3
      exact rep_ok I h1 (by omega) (by omega) hc3 (fun p hp => ans_l S hz (h2.rep _) (by
        rw [List.length_flatten, List.map_replicate, List.sum_replicate_nat, Nat.mul_comm]; exact hc3) hp)
    · cases hw
  · cases hw
theorem or_fdiv : OpR X (binaryOp .FloorDiv) (rOp X.K fun x y m => optR (bop .fdiv x y) m) := by
  intro pins s σ H x y v u Q I rx ry h
  obtain ⟨m, g, dx, dy, S, hx, hy, hz⟩ := h
  obtain ⟨w, hw, hz⟩ := Rz.opt hz
  replace hw : fdivD dx dy = some w := hw
  unfold fdivD at hw
  split at hw
  · split at hw
    · rename_i hc
      cases hw
      have e1 := hx.int; have e2 := hy.int; subst e1 e2
      exact op_fdivN pins s σ H _ _ v u Q I rx ry ⟨_, _, rfl, rfl, hc, ans_d S hz (.int _)⟩
    · cases hw
  · cases hw
theorem or_mod : OpR X (binaryOp .Mod) (rOp X.K fun x y m => optR (bop .mod x y) m) := by
  intro pins s σ H x y v u Q I rx ry h
  obtain ⟨m, g, dx, dy, S, hx, hy, hz⟩ := h
  obtain ⟨w, hw, hz⟩ := Rz.opt hz
  replace hw : modD dx dy = some w := hw
  unfold modD at hw
  split at hw
  · split at hw
    · rename_i hc
      cases hw
      have e1 := hx.int; have e2 := hy.int; subst e1 e2
      exact op_modN pins s σ H _ _ v u Q I rx ry ⟨_, _, rfl, rfl, hc, ans_d S hz (.int _)⟩
    · cases hw
  · cases hw
theorem or_pow : OpR X (binaryOp .Pow) (rOp X.K fun x y m => optR (bop .pow x y) m) := by
  intro pins s σ H x y v u Q I rx ry h
  obtain ⟨m, g, dx, dy, S, hx, hy, hz⟩ := h
  obtain ⟨w, hw, hz⟩ := Rz.opt hz
  replace hw : powD dx dy = some w := hw
  unfold powD at hw
  split at hw
  · split at hw
    · rename_i hc
      cases hw
      have e1 := hx.int; have e2 := hy.int; subst e1 e2
      exact op_pow pins s σ H _ _ v u Q I rx ry ⟨_, _, rfl, rfl, ⟨hc.1, by omega, hc.2.2⟩, ans_d S hz (.int _)⟩
    · cases hw
  · cases hw
/-! comparisons -/
theorem or_cmp {op : CmpOp} {o : Cop} {r : R2} (h : OpR X (compareOp op) r) (w : ∀ m g dx dy x y H Q c, SimM X.K m g H → Rr X.K g.F H x dx → Rr X.K g.F H y dy → cmp o dx dy = some c → Q (.bl c) H → r x y H Q) : OpR X (compareOp op) (rOp X.K (cmpR o)) := by
  intro pins s σ H x y v u Q I rx ry q
  obtain ⟨m, g, dx, dy, S, hx, hy, hz⟩ := q
  obtain ⟨c, hc, hz⟩ := Rz.optBind hz
  exact h pins s σ H x y v u Q I rx ry (w m g dx dy x y H Q c S hx hy hc (ans_d S hz (.bl c)))
theorem or_lt (hu : X.A.units + 200 < cLine) : OpR X (compareOp .Lt) (rOp X.K (cmpR .lt)) := by
  intro pins s σ H x y v u Q I rx ry q
  obtain ⟨m, g, dx, dy, S, hx, hy, hz⟩ := q
  obtain ⟨c, hc, hz⟩ := Rz.optBind hz
  simp only [cmp] at hc
  unfold ltD at hc
  split at hc
  · cases hc
    have e1 := hx.int; have e2 := hy.int; subst e1 e2
    exact op_lt pins s σ H _ _ v u Q I rx ry ⟨_, _, rfl, rfl, ans_d S hz (.bl _)⟩
  · cases hc
    have e1 := hx.str; have e2 := hy.str; subst e1 e2
    exact op_lt_str pins s σ H _ _ v u Q I rx ry ⟨_, _, rfl, rfl, ans_d S hz (.bl _)⟩
  · split at hc
    · rename_i hd
      cases hc
      obtain ⟨as, r1⟩ := Dp.reads I _ x v hx.dp rx
      obtain ⟨bs, r2⟩ := Dp.reads I _ y u hy.dp ry
      obtain ⟨ha, hd'⟩ := Bool.and_eq_true_iff.mp hd
      have hd2 : min (PyData.depth (.tuple _)) (PyData.depth (.tuple _)) ≤ 64 := of_decide_eq_true hd'
      exact PySem.W.rcLt_alike _ _ X.A s v u as bs r1 r2 ha (by simp) (by omega) X.prog X.w X.xe _ ⟨.bl _, H, I, rfl, ans_d S hz (.bl _)⟩
    · cases hc
  · cases hc
theorem or_le : OpR X (compareOp .LtE) (rOp X.K (cmpR .le)) := by
  intro pins s σ H x y v u Q I rx ry q
  obtain ⟨m, g, dx, dy, S, hx, hy, hz⟩ := q
  obtain ⟨c, hc, hz⟩ := Rz.optBind hz
  simp only [cmp] at hc
  unfold leD at hc
  split at hc
  · cases hc
    have e1 := hx.int; have e2 := hy.int; subst e1 e2
    exact op_le pins s σ H _ _ v u Q I rx ry ⟨_, _, rfl, rfl, ans_d S hz (.bl _)⟩
  · cases hc
    have e1 := hx.str; have e2 := hy.str; subst e1 e2
    exact op_le_str pins s σ H _ _ v u Q I rx ry ⟨_, _, rfl, rfl, ans_d S hz (.bl _)⟩
  · cases hc
theorem or_gt : OpR X (compareOp .Gt) (rOp X.K (cmpR .gt)) := by
  refine or_cmp op_gt fun m g dx dy x y H Q c S hx hy hc q => ?_
  simp only [cmp] at hc
  unfold gtD at hc
  split at hc
  · cases hc
    have e1 := hx.int; have e2 := hy.int; subst e1 e2
    exact ⟨_, _, rfl, rfl, q⟩
  · cases hc
theorem or_ge : OpR X (compareOp .GtE) (rOp X.K (cmpR .ge)) := by
  refine or_cmp op_ge fun m g dx dy x y H Q c S hx hy hc q => ?_
  simp only [cmp] at hc
  unfold geD at hc
  split at hc
  · cases hc
    have e1 := hx.int; have e2 := hy.int; subst e1 e2
    exact ⟨_, _, rfl, rfl, q⟩
  · cases hc
theorem or_eq (hu : X.A.units + 200 < cLine) : OpR X (compareOp .Eq) (rOp X.K (cmpR .eq)) := by
  intro pins s σ H x y v u Q I rx ry q
  obtain ⟨m, g, dx, dy, S, hx, hy, hz⟩ := q
  obtain ⟨c, hc, hz⟩ := Rz.optBind hz
  simp only [cmp] at hc
  split at hc
  · rename_i hd
    cases hc
    obtain ⟨as, r1⟩ := Dp.reads I dx x v hx.dp rx
    obtain ⟨bs, r2⟩ := Dp.reads I dy y u hy.dp ry
    have hd' : min dx.depth dy.depth ≤ 64 := of_decide_eq_true hd
    exact SeqAt.compareEq_reads r1 r2 hx.lay hy.lay (by omega) ⟨.bl _, H, I, rfl, ans_d S hz (.bl _)⟩
  · cases hc
theorem or_ne (hu : X.A.units + 200 < cLine) : OpR X (compareOp .NotEq) (rOp X.K (cmpR .ne)) := by
  intro pins s σ H x y v u Q I rx ry q
  obtain ⟨m, g, dx, dy, S, hx, hy, hz⟩ := q
  obtain ⟨c, hc, hz⟩ := Rz.optBind hz
  simp only [cmp] at hc
  split at hc
  · rename_i hd
    cases hc
    obtain ⟨as, r1⟩ := Dp.reads I dx x v hx.dp rx
    obtain ⟨bs, r2⟩ := Dp.reads I dy y u hy.dp ry
    have hd' : min dx.depth dy.depth ≤ 64 := of_decide_eq_true hd
    exact SeqAt.compareNe_reads r1 r2 hx.lay hy.lay (by omega) ⟨.bl _, H, I, rfl, ans_d S hz (.bl _)⟩
  · cases hc
theorem or_in (hu : X.A.units + 200 < cLine) : OpR X (compareOp .In) (rOp X.K (cmpR .isin)) := by
  intro pins s σ H x y v u Q I rx ry q
  obtain ⟨m, g, dx, dy, S, hx, hy, hz⟩ := q
  obtain ⟨c, hc, hz⟩ := Rz.optBind hz
  simp only [cmp] at hc
  unfold inD at hc
  split at hc
  · cases hc
    have e1 := hx.str; have e2 := hy.str; subst e1 e2
    exact op_in_str pins s σ H _ _ v u Q I rx ry ⟨_, _, rfl, rfl, ans_d S hz (.bl _)⟩
  · unfold inAll at hc
    split at hc
    · rename_i hd
      cases hc
      obtain ⟨as, r1⟩ := Dp.reads I _ x v hx.dp rx
      obtain ⟨bs, r2⟩ := Dp.reads I _ y u hy.dp ry
      exact SeqAt.in_list_reads r2 r1 hy.lay hx.lay (by omega) ⟨.bl _, H, I, rfl, ans_d S hz (.bl _)⟩
    · cases hc
  · unfold inAll at hc
    split at hc
    · rename_i hd
      cases hc
      obtain ⟨as, r1⟩ := Dp.reads I _ x v hx.dp rx
      obtain ⟨bs, r2⟩ := Dp.reads I _ y u hy.dp ry
      exact SeqAt.in_tuple_reads r2 r1 hy.lay hx.lay (by omega) ⟨.bl _, H, I, rfl, ans_d S hz (.bl _)⟩
    · cases hc
  · cases hc
theorem or_notin (hu : X.A.units + 200 < cLine) : OpR X (compareOp .NotIn) (rOp X.K (cmpR .notin)) := by
  intro pins s σ H x y v u Q I rx ry q
  obtain ⟨m, g, dx, dy, S, hx, hy, hz⟩ := q
  obtain ⟨c, hc, hz⟩ := Rz.optBind hz
  simp only [cmp, Option.map_eq_some_iff] at hc
  obtain ⟨c', hc, rfl⟩ := hc
  unfold inD at hc
  split at hc
  · cases hc
    have e1 := hx.str; have e2 := hy.str; subst e1 e2
    exact op_notin_str pins s σ H _ _ v u Q I rx ry ⟨_, _, rfl, rfl, ans_d S hz (.bl _)⟩
  · unfold inAll at hc
    split at hc
    · rename_i hd
      cases hc
      obtain ⟨as, r1⟩ := Dp.reads I _ x v hx.dp rx
      obtain ⟨bs, r2⟩ := Dp.reads I _ y u hy.dp ry
      exact SeqAt.notIn_list_reads r2 r1 hy.lay hx.lay (by omega) ⟨.bl _, H, I, rfl, ans_d S hz (.bl _)⟩
    · cases hc
  · unfold inAll at hc
    split at hc
    · rename_i hd
      cases hc
      obtain ⟨as, r1⟩ := Dp.reads I _ x v hx.dp rx
      obtain ⟨bs, r2⟩ := Dp.reads I _ y u hy.dp ry
      exact SeqAt.notIn_tuple_reads r2 r1 hy.lay hx.lay (by omega) ⟨.bl _, H, I, rfl, ans_d S hz (.bl _)⟩
    · cases hc
  · cases hc
end
end Ra


set_option Elab.async false
set_option linter.all false
set_option autoImplicit false
set_option maxRecDepth 100000
/-! expressions by the evaluator -/
namespace Ra
open PySem PySem.Spec PyProof.Rows L2
def notStar : Expr → Bool
  | .Starred _ _ => false
  | _ => true
theorem star1 {e : Expr} (h : notStar e = true) (es : List Expr) (env : PySem.Env) : starEach (e :: es) env = (false, eval e env) :: starEach es env := by
  cases e <;> first | rfl | (cases h; done)
theorem star_plain (env : PySem.Env) (pos : Pos) : ∀ (es : List Expr), es.all notStar = true → (backTo pos (starEach es env)).any (·.1) = false
  | [], _ => rfl
  | e :: es, h => by
    obtain ⟨h1, h2⟩ := Bool.and_eq_true_iff.mp (show (notStar e && es.all notStar) = true from h)
    rw [star1 h1]
    have ih := star_plain env pos es h2
    simp only [backTo, List.map_cons, List.any_cons] at ih ⊢
    simpa using ih
section
variable {X : Cx} {e : Expr} {es : List Expr} {p : P} {ps : List P} {pos : Pos}
theorem pa_items_nil : PA X [] (tIt X.K (cItems [])) := PA.weak pa_nil fun σ H Q ⟨env, m, g, hs, hm, hz⟩ => Rz.ok_now hz hm [] .nil
theorem pa_items_cons (ha : PE X e (tE X.K p.v)) (hr : PA X es (tIt X.K (cItems ps))) (ns : notStar e = true) : PA X (e :: es) (tIt X.K (cItems (p :: ps))) := by
  refine PA.weak (pa_cons ha hr (star1 ns _ _)) fun σ H Q ⟨env, m, g, hs, hm, hz⟩ => ?_
  refine ⟨env, m, g, hs, hm, (Rz.bind hz).mono fun v m1 g1 H1 e1 s1 z1 x rx => ?_⟩
  cases hf : frz v m1 with
  | fail => rw [hf] at z1; exact z1.elim
  | exc a b => rw [hf] at z1; exact z1.elim
  | ok d m2 =>
    rw [hf, Res.bind_ok] at z1
    obtain ⟨g2, s2, e2, r2⟩ := s1.frz rx hf
    refine ⟨env, m2, g2, (hs.ext e1).ext e2, s2, (Rz.bind (z1.ext e2)).mono fun ds m3 g3 H3 e3 s3 z3 xs rxs => ?_⟩
    exact Rz.ok_now z3 s3 (x :: xs) (.cons (Rp.ext e3 _ r2) rxs)
theorem pa_args_nil : PA X [] (tAr X.K (cArgs [])) := PA.weak pa_nil fun σ H Q ⟨env, m, g, hs, hm, hz⟩ => Rz.ok_now hz hm [] .nil
theorem pa_args_cons (ha : PE X e (tE X.K p.v)) (hr : PA X es (tAr X.K (cArgs ps))) (ns : notStar e = true) : PA X (e :: es) (tAr X.K (cArgs (p :: ps))) := by
  refine PA.weak (pa_cons ha hr (star1 ns _ _)) fun σ H Q ⟨env, m, g, hs, hm, hz⟩ => ?_
  refine ⟨env, m, g, hs, hm, (Rz.bind hz).mono fun v m1 g1 H1 e1 s1 z1 x rx => ?_⟩
  obtain ⟨g2, s2, e2, r2⟩ := s1.hold rx
  refine ⟨env, m1, g2, (hs.ext e1).ext e2, s2, (Rz.bind (z1.ext e2)).mono fun vs m3 g3 H3 e3 s3 z3 xs rxs => ?_⟩
  exact Rz.ok_now z3 s3 (x :: xs) (.cons (r2.ext e3 (nf_ne v)) (nf_ne v) rxs)
/-- the display of so many items is within the line -/
theorem items_len : ∀ (ps : List P) {env : Env} {m : Mem} {ds : List PyData} {m' : Mem}, cItems ps env m = .ok ds m' → ds.length = ps.length
  | [], env, m, ds, m', h => by
    simp only [cItems, Res.ok.injEq] at h
    rw [← h.1]; rfl
  | p :: ps, env, m, ds, m', h => by
    simp only [cItems] at h
    cases h1 : p.v env m with
    | fail => rw [h1] at h; simp at h
    | exc a b => rw [h1] at h; simp at h
    | ok v m1 =>
      rw [h1] at h; simp only [Res.bind_ok] at h
      cases h2 : frz v m1 with
      | fail => rw [h2] at h; simp at h
      | exc a b => rw [h2] at h; simp at h
      | ok d m2 =>
        rw [h2] at h; simp only [Res.bind_ok] at h
        cases h3 : cItems ps env m2 with
        | fail => rw [h3] at h; simp at h
        | exc a b => rw [h3] at h; simp at h
        | ok ds' m3 =>
          rw [h3] at h; simp only [Res.bind_ok, Res.ok.injEq] at h
          rw [← h.1, List.length_cons, items_len ps h3, List.length_cons]
theorem tup_ok {σ : L2.St} {H : Hp} {Q : VK} (hl : ps.length ≤ 1000) (h : tE X.K (cTup ps) σ H Q) : tTup (tIt X.K (cItems ps)) σ H Q := by
  obtain ⟨env, m, g, hs, hm, hz⟩ := h
  have hz' := Rz.bind hz
  refine ⟨env, m, g, hs, hm, ?_⟩
  cases h1 : cItems ps env m with
  | fail => rw [h1] at hz'; exact hz'.elim
  | exc a b => rw [h1] at hz'; exact hz'.elim
  | ok ds m1 =>
    rw [h1] at hz'
    intro g1 H1 e1 s1 xs rxs
    have hlen : xs.length ≤ sizeLine := by
      rw [rxs.length, items_len ps h1, sizeLine_eq]; omega
    exact ⟨hlen, fun q hq => ans_t s1 (hz' g1 H1 e1 s1) rxs hlen hq⟩
theorem lst_ok {σ : L2.St} {H : Hp} {Q : VK} (hl : ps.length ≤ 1000) (h : tE X.K (cLst ps) σ H Q) : tLst (tIt X.K (cItems ps)) σ H Q := by
  obtain ⟨env, m, g, hs, hm, hz⟩ := h
  have hz' := Rz.bind hz
  refine ⟨env, m, g, hs, hm, ?_⟩
  cases h1 : cItems ps env m with
  | fail => rw [h1] at hz'; exact hz'.elim
  | exc a b => rw [h1] at hz'; exact hz'.elim
  | ok ds m1 =>
    rw [h1] at hz'
    intro g1 H1 e1 s1 xs rxs
    have hlen : xs.length ≤ sizeLine := by
      rw [rxs.length, items_len ps h1, sizeLine_eq]; omega
    exact ⟨hlen, fun q hq => ans_l s1 (hz' g1 H1 e1 s1) rxs hlen hq⟩
theorem pe_tupR {k : Nat} (h : PA X es (tIt X.K (cItems ps))) (hl : ps.length ≤ 1000) : PE X (.Tuple es k pos) (tE X.K (cTup ps)) := PE.weak (pe_tup h) fun _ _ _ q => tup_ok hl q
theorem pe_lstR (h : PA X es (tIt X.K (cItems ps))) (hl : ps.length ≤ 1000) : PE X (.List es pos) (tE X.K (cLst ps)) := PE.weak (pe_lst h) fun _ _ _ q => lst_ok hl q
/-! truth -/
theorem tru_of {K : PySem.W.Frag} {F : Addr → Prop} {H : Hp} {x : V} {d : PyData} {b : Bool} (h : Rr K F H x d) (e : truth d = some b) : TruV K x H b := by
  cases d with
  | none => rw [h.none]; exact (Option.some.inj e).symm
  | bool c => rw [h.bool]; exact (Option.some.inj e).symm
  | int i => rw [h.int]; exact (Option.some.inj e).symm
  | str z =>
    have hz := sok_len h.sok
    rw [h.str]
    have hi : (z.length != 0) = ((z.length : Int) != 0) := by cases z.length <;> rfl
    exact ⟨hz, by rw [← hi]; exact (Option.some.inj e).symm⟩
  | list xs =>
    obtain ⟨a, vs, rfl, h1, h2⟩ := h.lst
    have hl := h2.length
    refine .inl ⟨vs, .inl h1, ?_⟩
    rw [← Option.some.inj e]
    cases vs <;> cases xs <;> simp_all
  | tuple xs =>
    obtain ⟨a, vs, rfl, h1, h2⟩ := h.tup
    have hl := h2.length
    refine .inr (.inl ⟨vs, h1, ?_⟩)
    rw [← Option.some.inj e]
    cases vs <;> cases xs <;> simp_all
  | dict _ => cases e
theorem truR_ok {K : PySem.W.Frag} {m : Mem} {g : G} {H : Hp} {x : V} {v : Val} {β : Type} {f : Bool → Mem → Res β} {Q : β → Mem → G → Hp → Prop} (S : SimM K m g H) (h : RpV K g H x v) (hz : Rz K ((truR v m).bind f) g H Q) :
    ∃ b, TruV K x H b ∧ Rz K (f b m) g H Q := by
  obtain ⟨g', s', e', r'⟩ := S.hold h
  unfold truR at hz
  cases h1 : rd m v with
  | none => rw [rdR, h1] at hz; exact hz.elim
  | some d =>
    rw [rdR, h1] at hz
    simp only [optR_some, Res.bind_ok] at hz
    obtain ⟨b, hb, hz⟩ := Rz.optBind hz
    have h2 : rd m v.nf = some d := by
      cases v <;> exact h1
    exact ⟨b, tru_of (s'.read (nf_ne v) r' h2) hb, hz⟩
/-- a plain expression as a test -/
theorem pt_R (ha : PE X e (tE X.K p.v)) (he : ∀ whole, isTrue e X.env whole = (do let v ← whole; standAt e.pos; holding [v] (truthy v))) (hp : p.t = (ofV p.v).t) : PT X e (tT X.K p.t) := by
  refine PT.weak (pt_truth ha he) fun σ H Q ⟨env, m, g, hs, hm, hz⟩ => ?_
  rw [hp] at hz
  refine ⟨env, m, g, hs, hm, (Rz.bind hz).mono fun v m1 g1 H1 e1 s1 z1 x rx => ?_⟩
  have z2 : Rz X.K ((truR v m1).bind fun b m2 => .ok b m2) g1 H1 fun b _ _ H' => Q b H' := by
    have : (truR v m1).bind (fun b m2 => Res.ok b m2) = truR v m1 := by
      cases truR v m1 <;> rfl
    rw [this]; exact z1
  obtain ⟨b, hb, z3⟩ := truR_ok s1 rx z2
  exact ⟨b, hb, Rz.ok_now z3 s1⟩
/-! and, or, not, if -/
theorem pe_andR1 (ha : PE X e (tE X.K p.v)) : PE X (.BoolOp .And [e] pos) (tE X.K (cAnd [p])) := pe_one ha
theorem pe_orR1 (ha : PE X e (tE X.K p.v)) : PE X (.BoolOp .Or [e] pos) (tE X.K (cOr [p])) := pe_one ha
theorem pe_andR {e' : Expr} {p' : P} (ha : PE X e (tE X.K p.v)) (hb : PE X (.BoolOp .And (e' :: es) pos) (tE X.K (cAnd (p' :: ps)))) : PE X (.BoolOp .And (e :: e' :: es) pos) (tE X.K (cAnd (p :: p' :: ps))) := by
  refine PE.weak (pe_andT ha hb) fun σ H Q ⟨env, m, g, hs, hm, hz⟩ => ?_
  refine ⟨env, m, g, hs, hm, (Rz.bind hz).mono fun v m1 g1 H1 e1 s1 z1 x rx => ?_⟩
  obtain ⟨b, hb, z2⟩ := truR_ok s1 rx z1
  refine ⟨b, hb, ?_⟩
  cases b with
  | true => exact ⟨env, m1, g1, hs.ext e1, s1, z2⟩
  | false => exact Rz.ok_now z2 s1 x rx
theorem pe_orR {e' : Expr} {p' : P} (ha : PE X e (tE X.K p.v)) (hb : PE X (.BoolOp .Or (e' :: es) pos) (tE X.K (cOr (p' :: ps)))) : PE X (.BoolOp .Or (e :: e' :: es) pos) (tE X.K (cOr (p :: p' :: ps))) := by
  refine PE.weak (pe_orT ha hb) fun σ H Q ⟨env, m, g, hs, hm, hz⟩ => ?_
  refine ⟨env, m, g, hs, hm, (Rz.bind hz).mono fun v m1 g1 H1 e1 s1 z1 x rx => ?_⟩
  obtain ⟨b, hb, z2⟩ := truR_ok s1 rx z1
  refine ⟨b, hb, ?_⟩
  cases b with
  | true => exact Rz.ok_now z2 s1 x rx
  | false => exact ⟨env, m1, g1, hs.ext e1, s1, z2⟩
theorem pw_andR1 (ha : PT X e (tT X.K p.t)) : PW X (.BoolOp .And [e] pos) (tT X.K (tAnd [p])) := pw_and1 ha
theorem pw_orR1 (ha : PT X e (tT X.K p.t)) : PW X (.BoolOp .Or [e] pos) (tT X.K (tOr [p])) := pw_or1 ha
theorem pw_andR {e' : Expr} {p' : P} (ha : PT X e (tT X.K p.t)) (hb : PW X (.BoolOp .And (e' :: es) pos) (tT X.K (tAnd (p' :: ps)))) : PW X (.BoolOp .And (e :: e' :: es) pos) (tT X.K (tAnd (p :: p' :: ps))) := by
  refine PW.weak (pw_and ha hb) fun σ H Q ⟨env, m, g, hs, hm, hz⟩ => ?_
  refine ⟨env, m, g, hs, hm, (Rz.bind hz).mono fun b m1 g1 H1 e1 s1 z1 => ?_⟩
  cases b with
  | true => exact ⟨env, m1, g1, hs.ext e1, s1, z1⟩
  | false => exact Rz.ok_now z1 s1
theorem pw_orR {e' : Expr} {p' : P} (ha : PT X e (tT X.K p.t)) (hb : PW X (.BoolOp .Or (e' :: es) pos) (tT X.K (tOr (p' :: ps)))) : PW X (.BoolOp .Or (e :: e' :: es) pos) (tT X.K (tOr (p :: p' :: ps))) := by
  refine PW.weak (pw_or ha hb) fun σ H Q ⟨env, m, g, hs, hm, hz⟩ => ?_
  refine ⟨env, m, g, hs, hm, (Rz.bind hz).mono fun b m1 g1 H1 e1 s1 z1 => ?_⟩
  cases b with
  | true => exact Rz.ok_now z1 s1
  | false => exact ⟨env, m1, g1, hs.ext e1, s1, z1⟩
theorem pe_notR (ha : PE X e (tE X.K p.v)) : PE X (.UnaryOp .Not e pos) (tE X.K fun env m => (p.v env m).bind fun v m1 => (truR v m1).bind fun t m2 => boolR (!t) m2) := by
  refine PE.weak (pe_notT ha) fun σ H Q ⟨env, m, g, hs, hm, hz⟩ => ?_
  refine ⟨env, m, g, hs, hm, (Rz.bind hz).mono fun v m1 g1 H1 e1 s1 z1 x rx => ?_⟩
  obtain ⟨b, hb, z2⟩ := truR_ok s1 rx z1
  exact ⟨b, hb, ans_d s1 z2 (.bl _)⟩
theorem pt_notR (ha : PT X e (tT X.K p.t)) : PT X (.UnaryOp .Not e pos) (tT X.K fun env m => (p.t env m).bind fun t m1 => .ok (!t) m1) := by
  refine PT.weak (pt_not ha) fun σ H Q ⟨env, m, g, hs, hm, hz⟩ => ?_
  exact ⟨env, m, g, hs, hm, (Rz.bind hz).mono fun b m1 g1 H1 e1 s1 z1 => Rz.ok_now z1 s1⟩
theorem pe_iteR {c a b : Expr} {pc pa pb : P} (hc : PT X c (tT X.K pc.t)) (ha : PE X a (tE X.K pa.v)) (hb : PE X b (tE X.K pb.v)) :
    PE X (.IfExp c a b pos) (tE X.K fun env m => (pc.t env m).bind fun t m1 => if t = true then pa.v env m1 else pb.v env m1) := by
  refine PE.weak (pe_ifExp hc ha hb) fun σ H Q ⟨env, m, g, hs, hm, hz⟩ => ?_
  refine ⟨env, m, g, hs, hm, (Rz.bind hz).mono fun b m1 g1 H1 e1 s1 z1 => ?_⟩
  cases b with
  | true => exact ⟨env, m1, g1, hs.ext e1, s1, z1⟩
  | false => exact ⟨env, m1, g1, hs.ext e1, s1, z1⟩
/-- comparisons -/
theorem pe_cmpE {a b : Expr} {op : CmpOp} {o : Cop} {pa pb : P} (ho : OpR X (compareOp op) (rOp X.K (cmpR o))) (hm : behindInMarks op b = false) (ha : PE X a (tE X.K pa.v)) (hb : PE X b (tE X.K pb.v)) :
    PE X (.Compare a [op] [b] pos) (tE X.K (c2 pa pb (cmpR o))) := PE.weak (pe_cmpR ho ha hb hm) fun _ _ _ h => c2_ok h
theorem c2_bool {K : PySem.W.Frag} {pa pb : P} {o : Cop} {σ : L2.St} {H : Hp} {Q : Bool → Hp → Prop} (h : tT K (ofV (c2 pa pb (cmpR o))).t σ H Q) :
    tE K (c2 pa pb (cmpR o)) σ H fun x H' => ∃ k, x = .bl k ∧ Q k H' := by
  obtain ⟨env, m, g, hs, hm, hz⟩ := h
  refine ⟨env, m, g, hs, hm, ?_⟩
  have key : ∀ r : Res Val, (∃ (q : Res Bool), r = q.bind boolR) → Rz K (r.bind truR) g H (fun b _ _ H' => Q b H') → Rz K r g H fun v _ g' H' => ∀ x, RpV K g' H' x v → ∃ k, x = .bl k ∧ Q k H' := by
    rintro _ ⟨q, rfl⟩ z
    cases q with
    | fail => exact z.elim
    | exc a b => exact z.elim
    | ok c m1 =>
      intro g1 H1 e1 s1 x rx
      cases rx
      exact ⟨c, rfl, z g1 H1 e1 s1⟩
  refine key _ ?_ hz
  unfold c2
  cases pa.v env m with
  | fail => exact ⟨.fail, rfl⟩
  | exc a b => exact ⟨.exc a b, rfl⟩
  | ok va m1 =>
    simp only [Res.bind_ok]
    cases pb.v env m1 with
    | fail => exact ⟨.fail, rfl⟩
    | exc a b => exact ⟨.exc a b, rfl⟩
    | ok vb m2 =>
      simp only [Res.bind_ok, rdR]
      cases rd m2 va.nf with
      | none => exact ⟨.fail, rfl⟩
      | some x =>
        simp only [optR_some, Res.bind_ok]
        cases rd m2 vb.nf with
        | none => exact ⟨.fail, rfl⟩
        | some y => exact ⟨_, rfl⟩
theorem pt_cmpE {a b : Expr} {op : CmpOp} {o : Cop} {pa pb : P} (ho : OpR X (compareOp op) (rOp X.K (cmpR o))) (hm : behindInMarks op b = false) (ha : PE X a (tE X.K pa.v)) (hb : PE X b (tE X.K pb.v)) :
    PT X (.Compare a [op] [b] pos) (tT X.K (ofV (c2 pa pb (cmpR o))).t) :=
  PT.weak (pt_cmpR ho ha hb hm) fun _ _ _ h => c2_ok (c2_bool h)
end
end Ra


set_option Elab.async false
set_option linter.all false
set_option autoImplicit false
set_option maxRecDepth 100000
/-! expressions by the evaluator: subscripts, calls -/
namespace Ra
open PySem PySem.Spec PyProof.Rows L2
section
variable {X : Cx} {e : Expr} {es : List Expr} {p : P} {ps : List P} {pos : Pos}
theorem pe_badR (e : Expr) : PE X e (tE X.K fun _ _ => .fail) := ⟨fun pins s σ H Q I ⟨env, m, g, hs, hm, hz⟩ => hz.elim⟩
theorem pe_varR {i : Nat} {x : Str} (hN : X.N[i]? = some x) (hv : Vis X.env.scope x) (hd : (x == ("__debug__" : Str)) = false) (hcd : (x == ("__classdict__" : Str)) = false) : PE X (.Name x pos) (tE X.K fun env m => optR (getV env i) m) := by
  refine PE.weak (pe_var hN hv hd hcd) fun σ H Q ⟨env, m, g, hs, hm, hz⟩ => ?_
  obtain ⟨v, hv', hz⟩ := Rz.opt hz
  obtain ⟨y, h1, h2, h3⟩ := hs.at_ i v hv'
  exact ⟨y, h1, Rz.ok_now hz hm y h2⟩
theorem cst_ok {v : V} {d : PyData} (h : ∀ F H, Rp X.K F H v d) (he : PE X e (tC v)) : PE X e (tE X.K fun _ m => .ok (.d d) m) :=
  PE.weak he fun σ H Q ⟨env, m, g, hs, hm, hz⟩ => Rz.ok_now hz hm v (h _ _)
/-- a value that holds no list -/
def flatD : PyData → Option V
  | .none => some .non
  | .bool b => some (.bl b)
  | .int i => some (.int i)
  | .str s => if sOk s = true then some (.str s) else none
  | _ => none
theorem flat_rp {K : PySem.W.Frag} {d : PyData} {v : V} (h : flatD d = some v) (F : Addr → Prop) (H : Hp) : Rp K F H v d := by
  cases d with
  | none => cases h; exact .non
  | bool b => cases h; exact .bl b
  | int i => cases h; exact .int i
  | str s =>
    simp only [flatD] at h
    split at h
    · rename_i hs
      cases h; exact .str s hs
    · cases h
  | list _ => cases h
  | tuple _ => cases h
  | dict _ => cases h
/-! chains -/
theorem chain_ok {K : PySem.W.Frag} {pa pb pc : P} {o o' : Cop} {σ : L2.St} {H : Hp} {Q : VK} (h : tE K (cChain o o' pa pb pc) σ H Q) :
    tChain (rOp K (cmpR o)) (rOp K (cmpR o')) (tE K pa.v) (tE K pb.v) (tE K pc.v) σ H Q := by
  obtain ⟨env, m, g, hs, hm, hz⟩ := h
  refine ⟨env, m, g, hs, hm, (Rz.bind hz).mono fun va m1 g1 H1 e1 s1 z1 x rx => ?_⟩
  obtain ⟨g1', s1', e1', rx'⟩ := s1.hold rx
  refine ⟨env, m1, g1', (hs.ext e1).ext e1', s1', (Rz.bind (z1.ext e1')).mono fun vb m2 g2 H2 e2 s2 z2 y ry => ?_⟩
  obtain ⟨g2', s2', e2', ry'⟩ := s2.hold ry
  obtain ⟨dx, hx, z3⟩ := Rz.rdBind (z2.ext e2')
  obtain ⟨dy, hy, z4⟩ := Rz.rdBind z3
  obtain ⟨t, ht, z5⟩ := Rz.optBind z4
  have hs2 : Sg K env σ g2' H2 := (((hs.ext e1).ext e1').ext e2).ext e2'
  refine ⟨m2, g2', dx, dy, s2', s2'.read (nf_ne va) (RpV.ext (e2.trans e2') (nf_ne va) rx') hx, s2'.read (nf_ne vb) ry' hy, ?_⟩
  unfold cmpR
  rw [ht]
  intro g3 H3 e3 s3 z rz
  cases rz
  refine ⟨t, rfl, ?_⟩
  cases t with
  | false => exact ans_d s3 (z5.ext e3) (.bl false)
  | true =>
    simp only [if_true] at z5 ⊢
    refine ⟨env, m2, g3, hs2.ext e3, s3, (Rz.bind (z5.ext e3)).mono fun vc m6 g6 H6 e6 s6 z6 w rw_ => ?_⟩
    obtain ⟨g7, s7, e7, rw7⟩ := s6.hold rw_
    obtain ⟨dy', hy', z7⟩ := Rz.rdBind (z6.ext e7)
    obtain ⟨dz, hz', z8⟩ := Rz.rdBind z7
    exact ⟨m6, g7, dy', dz, s7, s7.read (nf_ne vb) (RpV.ext ((e3.trans e6).trans e7) (nf_ne vb) ry') hy', s7.read (nf_ne vc) rw7 hz', z8⟩
theorem pe_chainE {a b c : Expr} {op op' : CmpOp} {o o' : Cop} {pa pb pc : P} (ho : OpR X (compareOp op) (rOp X.K (cmpR o))) (ho' : OpR X (compareOp op') (rOp X.K (cmpR o'))) (hm : lastMarks [op, op'] [b, c] = false)
    (ha : PE X a (tE X.K pa.v)) (hb : PE X b (tE X.K pb.v)) (hc : PE X c (tE X.K pc.v)) : PE X (.Compare a [op, op'] [b, c] pos) (tE X.K (cChain o o' pa pb pc)) :=
  PE.weak (pe_chain ho ho' ha hb hc hm) fun _ _ _ h => chain_ok h
/-! is None, minus -/
theorem none_iff {K : PySem.W.Frag} {F : Addr → Prop} {H : Hp} {x : V} {d : PyData} (h : Rr K F H x d) : isNone d = decide (x = .non) := by
  cases d with
  | none => rw [h.none]; rfl
  | bool b => rw [h.bool]; rfl
  | int b => rw [h.int]; rfl
  | str b => rw [h.str]; rfl
  | list b => obtain ⟨a, xs, rfl, _⟩ := h.lst; rfl
  | tuple b => obtain ⟨a, xs, rfl, _⟩ := h.tup; rfl
  | dict b => cases h
theorem pe_isNR {a : Expr} {k : Nat} {q : Pos} (ha : PE X a (tE X.K p.v)) : PE X (.Compare a [.Is] [.Constant .none k q] pos) (tE X.K (c1 p fun x m => boolR (isNone x) m)) := by
  refine PE.weak (pe_cmpR op_isN ha pe_non (nomark _)) fun σ H Q h => ?_
  obtain ⟨env, m, g, hs, hm, hz⟩ := c1_ok h
  refine ⟨env, m, g, hs, hm, hz.mono fun v m1 g1 H1 e1 s1 z1 x rx => ⟨rfl, ?_⟩⟩
  obtain ⟨m2, g2, d, s2, r2, z2⟩ := z1 x rx
  rw [← none_iff r2]
  exact ans_d s2 z2 (.bl _)
theorem pe_isnNR {a : Expr} {k : Nat} {q : Pos} (ha : PE X a (tE X.K p.v)) : PE X (.Compare a [.IsNot] [.Constant .none k q] pos) (tE X.K (c1 p fun x m => boolR (!isNone x) m)) := by
  refine PE.weak (pe_cmpR op_notN ha pe_non (nomark _)) fun σ H Q h => ?_
  obtain ⟨env, m, g, hs, hm, hz⟩ := c1_ok h
  refine ⟨env, m, g, hs, hm, hz.mono fun v m1 g1 H1 e1 s1 z1 x rx => ⟨rfl, ?_⟩⟩
  obtain ⟨m2, g2, d, s2, r2, z2⟩ := z1 x rx
  rw [← none_iff r2]
  exact ans_d s2 z2 (.bl _)
theorem pe_negR {a : Expr} (ha : PE X a (tE X.K p.v)) : PE X (.UnaryOp .USub a pos) (tE X.K (c1 p fun x m => match x with
      | .int i => .ok (.d (.int (-i))) m
      | _ => .fail)) := by
  refine PE.weak (pe_un un_neg ha) fun σ H Q h => ?_
  obtain ⟨env, m, g, hs, hm, hz⟩ := c1_ok h
  refine ⟨env, m, g, hs, hm, hz.mono fun v m1 g1 H1 e1 s1 z1 x rx => ?_⟩
  obtain ⟨m2, g2, d, s2, r2, z2⟩ := z1 x rx
  cases d with
  | int i => exact ⟨i, r2.int, ans_d s2 z2 (.int _)⟩
  | none => exact z2.elim
  | bool _ => exact z2.elim
  | str _ => exact z2.elim
  | list _ => exact z2.elim
  | tuple _ => exact z2.elim
  | dict _ => exact z2.elim
/-! subscripts -/
theorem RpAll.atI {K : PySem.W.Frag} {F : Addr → Prop} {H : Hp} {xs : List V} {ds : List PyData} {i : Int} {d : PyData} (h : RpAll K F H xs ds) (e : L2.atI ds i = some d) : ∃ x, L2.atI xs i = some x ∧ Rp K F H x d := by
  unfold L2.atI at e ⊢
  rw [h.length]
  cases hj : ixN ds.length i with
  | none => rw [hj] at e; cases e
  | some j =>
    rw [hj] at e
    exact h.get e
theorem sok_one {z : Str} {c : Nat} (h : sOk z = true) (hc : c ∈ z.cps.toList) : sOk ⟨#[c]⟩ = true := by
  obtain ⟨a, _⟩ := Bool.and_eq_true_iff.mp h
  refine Bool.and_eq_true_iff.mpr ⟨?_, rfl⟩
  have := (Array.all_eq_true'.mp a) c (by simpa using hc)
  show (#[c].all (· < 0x110000)) = true
  simpa using this
theorem atI_mem {α : Type} {xs : List α} {i : Int} {c : α} (h : L2.atI xs i = some c) : c ∈ xs := by
  unfold L2.atI at h
  cases hj : ixN xs.length i with
  | none => rw [hj] at h; cases h
  | some j =>
    rw [hj] at h
    exact List.mem_of_getElem? h
theorem ix_R : IxR X (rOp X.K fun x y m => (optR (idx x y) m).bind fun z m1 => .ok (.d z) m1) := by
  intro value slice pins s σ H x y v u Q I rx ry h hs
  refine ix_seq value slice pins s σ H x y v u Q I rx ry ?_ hs
  obtain ⟨m, g, dx, dy, S, hx, hy, hz0⟩ := h
  obtain ⟨w, hw, hz⟩ := Rz.optBind hz0
  clear hz0
  unfold idx at hw
  split at hw
  · obtain ⟨a, vs, rfl, h1, h2⟩ := hx.lst
    obtain ⟨z, e1, e2⟩ := h2.atI hw
    exact .inl ⟨a, vs, _, z, rfl, hy.int, .inl h1, e1, ans_d S hz e2⟩
  · obtain ⟨a, vs, rfl, h1, h2⟩ := hx.tup
    obtain ⟨z, e1, e2⟩ := h2.atI hw
    exact .inr (.inl ⟨a, vs, _, z, rfl, hy.int, h1, e1, ans_d S hz e2⟩)
  · rename_i zs i
    obtain ⟨c, e1, e2⟩ := Option.map_eq_some_iff.mp hw
    subst e2
    exact .inr (.inr ⟨zs, i, c, hx.str, hy.int, sok_len hx.sok, e1, ans_d S hz (.str _ (sok_one hx.sok (atI_mem e1)))⟩)
  · cases hw
def notSlice : Expr → Bool
  | .Slice _ _ _ _ => false
  | _ => true
theorem plain_ix {b : Expr} (h : notSlice b = true) : PlainIx b := fun o i => by
  cases b <;> first | rfl | (cases h; done)
theorem pe_idxR {a b : Expr} {pa pb : P} (ha : PE X a (tE X.K pa.v)) (hb : PE X b (tE X.K pb.v)) (h : notSlice b = true) : PE X (.Subscript a b pos) (tE X.K (c2 pa pb fun x y m => (optR (idx x y) m).bind fun z m1 => .ok (.d z) m1)) :=
  PE.weak (pe_ix ix_R ha hb (plain_ix h)) fun _ _ _ q => c2_ok q
theorem RpAll.cut {K : PySem.W.Frag} {F : Addr → Prop} {H : Hp} {xs : List V} {ds : List PyData} (h : RpAll K F H xs ds) (lo hi : Option Int) : RpAll K F H (cutV xs lo hi) (cut ds lo hi) := by
  unfold cutV Ra.cut
  rw [h.length]
  exact (h.drop _).take _
theorem cut_whole {α : Type} {xs : List α} {lo hi : Option Int} (h : HT.sIx xs.length 0 lo = 0 ∧ HT.sIx xs.length xs.length hi = xs.length) : cut xs lo hi = xs := by
  unfold cut
  rw [h.1, h.2, List.drop_zero, Nat.sub_zero, List.take_length]
theorem sl_R : SlR X (fun x lo hi H Q => ∃ m g dx, SimM X.K m g H ∧ Rr X.K g.F H x dx ∧ Rz X.K (optR (slc dx lo hi) m) g H (Ans X.K Q)) := by
  intro pins s σ H x v vl vu lo hi sl Q I rx hs pl pu h
  obtain ⟨m, g, dx, S, hx, hz⟩ := h
  obtain ⟨w, hw, hz⟩ := Rz.opt hz
  unfold slc at hw
  split at hw
  · cases hw
    obtain ⟨a, vs, rfl, h1, h2⟩ := hx.lst
    obtain ⟨hl, _⟩ := lstR I h1
    exact sl_list pins s σ H _ v vl vu lo hi sl Q I rx hs pl pu ⟨a, vs, rfl, .inl h1, fun q hq => ans_l S hz (h2.cut lo hi) (Nat.le_trans (cutV_length vs lo hi) hl) hq⟩
  · cases hw
    obtain ⟨a, vs, rfl, h1, h2⟩ := hx.tup
    obtain ⟨its, _, _, hl⟩ := I.tuple h1
    refine sl_tupA pins s σ H _ v vl vu lo hi sl Q I rx hs pl pu ⟨a, vs, rfl, h1, fun hw => ?_, fun _ q hq => ans_t S hz (h2.cut lo hi) (Nat.le_trans (cutV_length vs lo hi) hl) hq⟩
    rw [h2.length] at hw
    rw [cut_whole hw] at hz
    exact ans_d S hz (.tup h1 h2)
  · split at hw
    · rename_i hok
      cases hw
      have hl := sok_len hx.sok
      have e := hx.str
      subst e
      exact sl_str pins s σ H _ v vl vu lo hi sl Q I rx hs pl pu ⟨_, rfl, hl, ans_d S hz (.str _ hok)⟩
    · cases hw
  · cases hw
theorem pe_slR {a : Expr} {q : Pos} (ha : PE X a (tE X.K p.v)) : PE X (.Subscript a (.Slice none none none q) pos) (tE X.K (c1 p fun x m => optR (slc x none none) m)) := by
  refine PE.weak (pe_slice sl_R ha po_none po_none) fun σ H Q h => ?_
  exact c1_ok h
theorem pe_slLR {a b : Expr} {pa pb : P} {q : Pos} (ha : PE X a (tE X.K pa.v)) (hb : PE X b (tE X.K pb.v)) : PE X (.Subscript a (.Slice (some b) none none q) pos) (tE X.K (c2 pa pb fun x l m => match l with
      | .int l => optR (slc x (some l) none) m
      | _ => .fail)) := by
  refine PE.weak (pe_slice sl_R ha (po_some hb) po_none) fun σ H Q h => ?_
  obtain ⟨env, m, g, hs, hm, hz⟩ := c2_ok h
  refine ⟨env, m, g, hs, hm, hz.mono fun v m1 g1 H1 e1 s1 z1 x rx => ?_⟩
  obtain ⟨env2, m2, g2, hs2, hm2, hz2⟩ := z1 x rx
  refine ⟨env2, m2, g2, hs2, hm2, hz2.mono fun v3 m3 g3 H3 e3 s3 z3 y ry => ?_⟩
  obtain ⟨m4, g4, dx, dy, s4, rx4, ry4, z4⟩ := z3 y ry
  cases dy with
  | int i => exact ⟨i, ry4.int, m4, g4, dx, s4, rx4, z4⟩
  | none => exact z4.elim
  | bool _ => exact z4.elim
  | str _ => exact z4.elim
  | list _ => exact z4.elim
  | tuple _ => exact z4.elim
  | dict _ => exact z4.elim
theorem pe_slUR {a b : Expr} {pa pb : P} {q : Pos} (ha : PE X a (tE X.K pa.v)) (hb : PE X b (tE X.K pb.v)) : PE X (.Subscript a (.Slice none (some b) none q) pos) (tE X.K (c2 pa pb fun x h m => match h with
      | .int h => optR (slc x none (some h)) m
      | _ => .fail)) := by
  refine PE.weak (pe_slice sl_R ha po_none (po_some hb)) fun σ H Q h => ?_
  obtain ⟨env, m, g, hs, hm, hz⟩ := c2_ok h
  refine ⟨env, m, g, hs, hm, hz.mono fun v m1 g1 H1 e1 s1 z1 x rx => ?_⟩
  obtain ⟨env2, m2, g2, hs2, hm2, hz2⟩ := z1 x rx
  refine ⟨env2, m2, g2, hs2, hm2, hz2.mono fun v3 m3 g3 H3 e3 s3 z3 y ry => ?_⟩
  obtain ⟨m4, g4, dx, dy, s4, rx4, ry4, z4⟩ := z3 y ry
  cases dy with
  | int i => exact ⟨i, ry4.int, m4, g4, dx, s4, rx4, z4⟩
  | none => exact z4.elim
  | bool _ => exact z4.elim
  | str _ => exact z4.elim
  | list _ => exact z4.elim
  | tuple _ => exact z4.elim
  | dict _ => exact z4.elim
theorem intBind {K : PySem.W.Frag} {β : Type} {g : G} {H : Hp} {x : PyData} {m : Mem} {f : Int → Mem → Res β} {Q : β → Mem → G → Hp → Prop} (h : Rz K ((intR x m).bind f) g H Q) : ∃ i, x = .int i ∧ Rz K (f i m) g H Q := by
  cases x with
  | int i => exact ⟨i, rfl, h⟩
  | none => exact h.elim
  | bool _ => exact h.elim
  | str _ => exact h.elim
  | list _ => exact h.elim
  | tuple _ => exact h.elim
  | dict _ => exact h.elim
theorem pe_slLUR {a b c : Expr} {pa pb pc : P} {q : Pos} (ha : PE X a (tE X.K pa.v)) (hb : PE X b (tE X.K pb.v)) (hc : PE X c (tE X.K pc.v)) : PE X (.Subscript a (.Slice (some b) (some c) none q) pos) (tE X.K (cSl3 pa pb pc)) := by
  refine PE.weak (pe_slice sl_R ha (po_some hb) (po_some hc)) fun σ H Q h => ?_
  obtain ⟨env, m, g, hs, hm, hz⟩ := h
  refine ⟨env, m, g, hs, hm, (Rz.bind hz).mono fun va m1 g1 H1 e1 s1 z1 x rx => ?_⟩
  obtain ⟨g1', s1', e1', rx'⟩ := s1.hold rx
  refine ⟨env, m1, g1', (hs.ext e1).ext e1', s1', (Rz.bind (z1.ext e1')).mono fun vb m2 g2 H2 e2 s2 z2 y ry => ?_⟩
  obtain ⟨g2', s2', e2', ry'⟩ := s2.hold ry
  obtain ⟨dy, hy, z3⟩ := Rz.rdBind (z2.ext e2')
  obtain ⟨l, rfl, z4⟩ := intBind z3
  have ey := (s2'.read (nf_ne vb) ry' hy).int
  refine ⟨l, ey, env, m2, g2', (((hs.ext e1).ext e1').ext e2).ext e2', s2', (Rz.bind z4).mono fun vc m3 g3 H3 e3 s3 z5 z rz => ?_⟩
  obtain ⟨g3', s3', e3', rz'⟩ := s3.hold rz
  obtain ⟨dx, hx, z6⟩ := Rz.rdBind (z5.ext e3')
  obtain ⟨dz, hz', z7⟩ := Rz.rdBind z6
  obtain ⟨h, rfl, z8⟩ := intBind z7
  exact ⟨h, (s3'.read (nf_ne vc) rz' hz').int, m3, g3', dx, s3', s3'.read (nf_ne va) (RpV.ext ((e2.trans e2').trans (e3.trans e3')) (nf_ne va) rx') hx, z8⟩
/-- a value that is True or False, as a test -/
theorem val_bool {K : PySem.W.Frag} {v : EV} {σ : L2.St} {H : Hp} {Q : Bool → Hp → Prop} (hv : ∀ env m, ∃ q : Res Bool, v env m = q.bind boolR) (h : tT K (ofV v).t σ H Q) : tE K v σ H fun x H' => ∃ k, x = .bl k ∧ Q k H' := by
  obtain ⟨env, m, g, hs, hm, hz⟩ := h
  refine ⟨env, m, g, hs, hm, ?_⟩
  obtain ⟨q, hq⟩ := hv env m
  have hz' : Rz K ((v env m).bind truR) g H fun b _ _ H' => Q b H' := hz
  rw [hq] at hz' ⊢
  cases q with
  | fail => exact hz'.elim
  | exc a b => exact hz'.elim
  | ok c m1 =>
    intro g1 H1 e1 s1 x rx
    cases rx
    exact ⟨c, rfl, hz' g1 H1 e1 s1⟩
theorem c1_bool {K : PySem.W.Frag} {pa : P} {f : PyData → Bool} {σ : L2.St} {H : Hp} {Q : Bool → Hp → Prop} (h : tT K (ofV (c1 pa fun x m => boolR (f x) m)).t σ H Q) : tE K (c1 pa fun x m => boolR (f x) m) σ H fun x H' => ∃ k, x = .bl k ∧ Q k H' := by
  refine val_bool (fun env m => ?_) h
  unfold c1
  cases pa.v env m with
  | fail => exact ⟨.fail, rfl⟩
  | exc a b => exact ⟨.exc a b, rfl⟩
  | ok va m1 =>
    simp only [Res.bind_ok, rdR]
    cases rd m1 va.nf with
    | none => exact ⟨.fail, rfl⟩
    | some x => exact ⟨.ok (f x) m1, rfl⟩
theorem chain_bool {K : PySem.W.Frag} {pa pb pc : P} {o o' : Cop} {σ : L2.St} {H : Hp} {Q : Bool → Hp → Prop} (h : tT K (ofV (cChain o o' pa pb pc)).t σ H Q) : tE K (cChain o o' pa pb pc) σ H fun x H' => ∃ k, x = .bl k ∧ Q k H' := by
  refine val_bool (fun env m => ?_) h
  unfold cChain
  cases pa.v env m with
  | fail => exact ⟨.fail, rfl⟩
  | exc a b => exact ⟨.exc a b, rfl⟩
  | ok va m1 =>
    simp only [Res.bind_ok]
    cases pb.v env m1 with
    | fail => exact ⟨.fail, rfl⟩
    | exc a b => exact ⟨.exc a b, rfl⟩
    | ok vb m2 =>
      simp only [Res.bind_ok, rdR]
      cases rd m2 va.nf with
      | none => exact ⟨.fail, rfl⟩
      | some x =>
        simp only [optR_some, Res.bind_ok]
        cases rd m2 vb.nf with
        | none => exact ⟨.fail, rfl⟩
        | some y =>
          simp only [optR_some, Res.bind_ok]
          cases cmp o x y with
          | none => exact ⟨.fail, rfl⟩
          | some t =>
            simp only [optR_some, Res.bind_ok]
            cases t with
            | false => exact ⟨.ok false m2, rfl⟩
            | true =>
              simp only [if_true]
              cases pc.v env m2 with
              | fail => exact ⟨.fail, rfl⟩
              | exc a b => exact ⟨.exc a b, rfl⟩
              | ok vc m6 =>
                simp only [Res.bind_ok]
                cases rd m6 vb.nf with
                | none => exact ⟨.fail, rfl⟩
                | some y' =>
                  simp only [optR_some, Res.bind_ok]
                  cases rd m6 vc.nf with
                  | none => exact ⟨.fail, rfl⟩
                  | some z => exact ⟨_, rfl⟩
/-! calls of built-ins -/
inductive RrAll (K : PySem.W.Frag) (F : Addr → Prop) (H : Hp) : List V → List PyData → Prop
  | nil : RrAll K F H [] []
  | cons {x : V} {xs : List V} {d : PyData} {ds : List PyData} : Rr K F H x d → RrAll K F H xs ds → RrAll K F H (x :: xs) (d :: ds)
theorem look_ok {K : PySem.W.Frag} {m : Mem} {g : G} {H : Hp} (S : SimM K m g H) : ∀ {xs : List V} {vs : List Val} {ds : List PyData}, RpVs K g H xs vs → lookAll m vs = some ds → RrAll K g.F H xs ds
  | _, _, _, .nil, e => by
    cases e; exact .nil
  | _, _, ds, .cons (v := v) (vs := vs) r hf t, e => by
    unfold lookAll at e
    cases h1 : rd m v with
    | none => rw [h1] at e; cases e
    | some d =>
      cases h2 : lookAll m vs with
      | none => rw [h1, h2] at e; cases e
      | some ds' =>
        rw [h1, h2] at e
        cases e
        exact .cons (S.read hf r h1) (look_ok S t h2)
def rBi (K : PySem.W.Frag) (f : List PyData → Option Val) : List V → Hp → VK → Prop := fun xs H Q => ∃ m g ds, SimM K m g H ∧ RrAll K g.F H xs ds ∧ Rz K (optR (f ds) m) g H (Ans K Q)
theorem bi_ok {K : PySem.W.Frag} {b : Bi} {σ : L2.St} {H : Hp} {Q : VK} (h : tE K (cBi b ps) σ H Q) : tCB (rBi K (bi b)) (tAr K (cArgs ps)) σ H Q := by
  obtain ⟨env, m, g, hs, hm, hz⟩ := h
  refine ⟨env, m, g, hs, hm, (Rz.bind hz).mono fun vs m1 g1 H1 e1 s1 z1 xs rxs => ?_⟩
  obtain ⟨ds, hd, z2⟩ := Rz.optBind z1
  exact ⟨m1, g1, ds, s1, look_ok s1 rxs hd, z2⟩
theorem pe_biB {b : Bi} {id : String} {x : Str} {q : Pos} (hc : CallR X (.builtin id) (rBi X.K (bi b))) (hg : Gl X x) (hm : X.mg x = none) (hv : bootBuiltins x = some (.builtin id)) (hn : x ≠ "__name__") (hdb : (x == ("__debug__" : Str)) = false)
    (ha : PA X (e :: es) (tAr X.K (cArgs ps))) (h1 : notStar e = true) (h2 : es.all notStar = true) : PE X (.Call (.Name x q) (e :: es) [] pos) (tE X.K (cBi b ps)) :=
  PE.weak (pe_callB hc hg hm hv ha hn hdb (star1 h1 _ _) (star_plain _ _ _ h2)) fun _ _ _ h => bi_ok h
theorem pe_biT {b : Bi} {T : String} {x : Str} {q : Pos} (hc : CallR X (.type T) (rBi X.K (bi b))) (hg : Gl X x) (hm : X.mg x = none) (hv : bootBuiltins x = some (.type T)) (hn : x ≠ "__name__") (hdb : (x == ("__debug__" : Str)) = false)
    (ha : PA X (e :: es) (tAr X.K (cArgs ps))) (h1 : notStar e = true) (h2 : es.all notStar = true) : PE X (.Call (.Name x q) (e :: es) [] pos) (tE X.K (cBi b ps)) :=
  PE.weak (pe_callTy hc hg hm hv ha hn hdb (star1 h1 _ _) (star_plain _ _ _ h2)) fun _ _ _ h => bi_ok h
end
end Ra


set_option Elab.async false
set_option linter.all false
set_option autoImplicit false
set_option maxRecDepth 100000
/-! built-ins by the evaluator -/
namespace Ra
open PySem PySem.Spec PyProof.Rows L2
section
variable {X : Cx}
theorem RrAll.one {K : PySem.W.Frag} {F : Addr → Prop} {H : Hp} {xs : List V} {d : PyData} (h : RrAll K F H xs [d]) : ∃ x, xs = [x] ∧ Rr K F H x d := by
  cases h with
  | cons r t => cases t; exact ⟨_, rfl, r⟩
theorem RrAll.two {K : PySem.W.Frag} {F : Addr → Prop} {H : Hp} {xs : List V} {d d' : PyData} (h : RrAll K F H xs [d, d']) : ∃ x y, xs = [x, y] ∧ Rr K F H x d ∧ Rr K F H y d' := by
  cases h with
  | cons r t =>
    obtain ⟨y, rfl, q⟩ := t.one
    exact ⟨_, y, rfl, r, q⟩
theorem cr_len : CallR X (.builtin "len") (rBi X.K (bi .len)) := by
  refine CallR.weak call_len fun xs H Q ⟨m, g, ds, S, hx, hz0⟩ => ?_
  obtain ⟨w, hw, hz⟩ := Rz.opt hz0
  clear hz0
  replace hw : lenD ds = some w := hw
  unfold lenD at hw
  split at hw
  · cases hw
    obtain ⟨x, rfl, h⟩ := hx.one
    obtain ⟨a, vs, rfl, h1, h2⟩ := h.lst
    exact ⟨_, _, rfl, .inl ⟨vs, .inl h1, h2.length.symm⟩, ans_d S hz (.int _)⟩
  · cases hw
    obtain ⟨x, rfl, h⟩ := hx.one
    obtain ⟨a, vs, rfl, h1, h2⟩ := h.tup
    exact ⟨_, _, rfl, .inr ⟨vs, h1, h2.length.symm⟩, ans_d S hz (.int _)⟩
  · cases hw
    obtain ⟨x, rfl, h⟩ := hx.one
    have hl := sok_len h.sok
    have e := h.str
    subst e
    exact ⟨_, _, rfl, ⟨hl, rfl⟩, ans_d S hz (.int _)⟩
  · cases hw
theorem cr_abs : CallR X (.builtin "abs") (rBi X.K (bi .abs)) := by
  refine CallR.weak call_abs fun xs H Q ⟨m, g, ds, S, hx, hz0⟩ => ?_
  obtain ⟨w, hw, hz⟩ := Rz.opt hz0
  clear hz0
  replace hw : absD ds = some w := hw
  unfold absD at hw
  split at hw
  · cases hw
    obtain ⟨x, rfl, h⟩ := hx.one
    have e := h.int
    subst e
    exact ⟨_, rfl, ans_d S hz (.int _)⟩
  · cases hw
theorem cr_int : CallR X (.type "int") (rBi X.K (bi .int)) := by
  refine CallR.weak call_int1 fun xs H Q ⟨m, g, ds, S, hx, hz0⟩ => ?_
  obtain ⟨w, hw, hz⟩ := Rz.opt hz0
  clear hz0
  replace hw : intD ds = some w := hw
  unfold intD at hw
  split at hw
  · cases hw
    obtain ⟨x, rfl, h⟩ := hx.one
    have e := h.int
    subst e
    exact .inl ⟨_, rfl, ans_d S hz (.int _)⟩
  · cases hw
    obtain ⟨x, rfl, h⟩ := hx.one
    have e := h.bool
    subst e
    exact .inr ⟨_, rfl, ans_d S hz (.int _)⟩
  · cases hw
theorem cr_min2 (hc : X.calm = true) : CallR X (.builtin "min") (rBi X.K (bi .min2)) := by
  refine CallR.weak (call_min2 hc) fun xs H Q ⟨m, g, ds, S, hx, hz0⟩ => ?_
  obtain ⟨w, hw, hz⟩ := Rz.opt hz0
  clear hz0
  replace hw : min2D ds = some w := hw
  unfold min2D at hw
  split at hw
  · cases hw
    obtain ⟨x, y, rfl, h, h'⟩ := hx.two
    have e := h.int
    have e' := h'.int
    subst e e'
    exact ⟨_, _, rfl, ans_d S hz (.int _)⟩
  · cases hw
theorem cr_max2 (hc : X.calm = true) : CallR X (.builtin "max") (rBi X.K (bi .max2)) := by
  refine CallR.weak (call_max2 hc) fun xs H Q ⟨m, g, ds, S, hx, hz0⟩ => ?_
  obtain ⟨w, hw, hz⟩ := Rz.opt hz0
  clear hz0
  replace hw : max2D ds = some w := hw
  unfold max2D at hw
  split at hw
  · cases hw
    obtain ⟨x, y, rfl, h, h'⟩ := hx.two
    have e := h.int
    have e' := h'.int
    subst e e'
    exact ⟨_, _, rfl, ans_d S hz (.int _)⟩
  · cases hw
theorem bools_ok {K : PySem.W.Frag} {F : Addr → Prop} {H : Hp} : ∀ {ds : List PyData} {xs : List V} {bs : List Bool}, RpAll K F H xs ds → bools ds = some bs → xs = bs.map V.bl
  | [], _, bs, h, e => by
    cases h; cases e; rfl
  | d :: ds, _, bs, h, e => by
    cases h with
    | cons r t =>
      cases r with
      | bl b =>
        simp only [bools] at e
        obtain ⟨bs', e1, e2⟩ := Option.map_eq_some_iff.mp e
        subst e2
        rw [bools_ok t e1]; rfl
      | non => cases e
      | int _ => cases e
      | str _ _ => cases e
      | lst _ _ => cases e
      | tup _ _ => cases e
theorem crAll (hc : X.calm = true) : CallR X (.builtin "all") (rBi X.K (bi .all)) := by
  refine CallR.weak (cr_all hc) fun xs H Q ⟨m, g, ds, S, hx, hz0⟩ => ?_
  obtain ⟨w, hw, hz⟩ := Rz.opt hz0
  clear hz0
  replace hw : allD ds = some w := hw
  unfold allD at hw
  split at hw
  · obtain ⟨bs, hb, e⟩ := Option.map_eq_some_iff.mp hw
    subst e
    obtain ⟨x, rfl, h⟩ := hx.one
    obtain ⟨a, vs, rfl, h1, h2⟩ := h.lst
    have e := bools_ok h2 hb
    subst e
    exact ⟨a, bs, rfl, .inl h1, ans_d S hz (.bl _)⟩
  · cases hw
theorem crAny (hc : X.calm = true) : CallR X (.builtin "any") (rBi X.K (bi .any)) := by
  refine CallR.weak (cr_any hc) fun xs H Q ⟨m, g, ds, S, hx, hz0⟩ => ?_
  obtain ⟨w, hw, hz⟩ := Rz.opt hz0
  clear hz0
  replace hw : anyD ds = some w := hw
  unfold anyD at hw
  split at hw
  · obtain ⟨bs, hb, e⟩ := Option.map_eq_some_iff.mp hw
    subst e
    obtain ⟨x, rfl, h⟩ := hx.one
    obtain ⟨a, vs, rfl, h1, h2⟩ := h.lst
    have e := bools_ok h2 hb
    subst e
    exact ⟨a, bs, rfl, .inl h1, ans_d S hz (.bl _)⟩
  · cases hw
end
end Ra


set_option Elab.async false
set_option linter.all false
set_option autoImplicit false
set_option maxRecDepth 100000
/-! sorted: tuples of which the first is empty -/
namespace Ra
open PySem PySem.Calls PyProof.Rows PySem.W PySem.SeqAt
section
variable {prog : Program} {w : World} {A : Around} {E : Value → Shared → Prop} {s : Shared}
theorem call_tuple_lt {Q : Value → Shared → Prop} {l b : Addr} {items items2 : Array Value} {e r : Nat → Bool} (hl : s.heap.IsTuple l items) (hb : s.heap.IsTuple b items2)
    (he : ∀ j (h1 : j < items.size) (h2 : j < items2.size), EqAt A.in1 s items[j] items2[j] (e j)) (hr : ∀ j (h1 : j < items.size) (h2 : j < items2.size), e j = false → RcLt A.in1 s items[j] items2[j] (r j))
    (h : Q (.bool (firstLt e r (decide (items.size < items2.size)) (List.range (min items.size items2.size)))) s) : wpAny (model prog w) A (call (.builtin "tuple.__lt__") [.ref l, .ref b]) Q E s := by
  obtain ⟨⟨cls, dd, data, sl⟩, ho, hc, n, hd⟩ := id hl
  obtain ⟨⟨cls2, dd2, data2, sl2⟩, ho2, hc2, n2, hd2⟩ := id hb
  simp only at hc hd hc2 hd2
  subst hc hd hc2 hd2
  exact call_meets F.slot_tuple_lt ⟨_, ho, rfl⟩ F.entry_tuple_lt (F.args_tuple_lt_2 _ _) (tuple_ltAt l b items items2 n n2 dd dd2 sl sl2 e r) ⟨ho, ho2, he, hr, h⟩
theorem oneLt_tup {xs ys : List PyData} {a b : Value} {as bs : List Addr} {Q : Bool → Shared → Prop} (ra : Reads s.heap a (.tuple xs) as) (rb : Reads s.heap b (.tuple ys) bs) (h : alike (.tuple xs) (.tuple ys) = true)
    (hu : A.units + min (PyData.tuple xs).depth (PyData.tuple ys).depth < cLine) (hq : Q (dataLt (.tuple xs) (.tuple ys)) s) : wpAny (model prog w) A (oneLt' true a b) Q E s := by
  have hal : alikeAll xs ys = true := by simpa [alike] using h
  cases ra with
  | @tuple l o vs n _ as₁ h1 h2 h3 h4 =>
    cases rb with
    | @tuple l' o' vs' n' _ bs₁ k1 k2 k3 k4 =>
      have n1 : vs.size = xs.length := by simpa using ReadsAll.length _ _ _ h4
      have n2 : vs'.size = ys.length := by simpa using ReadsAll.length _ _ _ k4
      rw [dataLt_tuple, ← firstLt_toks xs ys hal, ← n1, ← n2] at hq
      rw [oneLt'_eq]
      simp only [if_true]
      refine wpAny_bind (wpAny_cRoomFor (room_here hu) ?_)
      refine wpAny_bind (wpAny_callSpecialIfBound?_slot (T := "tuple") ⟨_, h1, h2⟩ F.slot_tuple_lt (call_tuple_lt (e := pairEq xs ys) (r := fun j => dataLt (xs.getD j .none) (ys.getD j .none)) ⟨_, h1, h2, _, h3⟩ ⟨_, k1, k2, _, k3⟩ (fun j j1 j2 => ?_) (fun j j1 j2 hj => ?_) ?_))
      · have := eqAt_alikeAll xs ys A.in1 s vs.toList vs'.toList _ _ h4 k4 hal (room_in hu) j (by simpa using j1) (by simpa using j2)
        simpa using this
      · have := rcLt_alikeAll xs ys A.in1 s vs.toList vs'.toList _ _ h4 k4 hal (room_in hu) j (by simpa using j1) (by simpa using j2) hj
        simpa using this
      · exact wpAny_truthy_bool hq
end
section
variable {M : Model} {A : Around} {E : Value → Shared → Prop} {s : Shared}
theorem firsts_any : ∀ (vs : List Value) {Q : List (Option Value) → Shared → Prop}, (∀ v ∈ vs, ∃ a o xs n, v = .ref a ∧ s.heap.get? a = some o ∧ o.cls = .type "tuple" ∧ o.data = .seq xs n) → (∀ fs : List (Option Value), fs.length = vs.length → Q fs s) → wpAny M A (vs.mapM firstOfTuple') Q E s
  | [], _, _, h => by rw [List.mapM_nil]; exact wpAny_pure (h [] rfl)
  | v :: vs, Q, t, h => by
    obtain ⟨a, o, xs, n, rfl, ho, hc, hd⟩ := t _ List.mem_cons_self
    rw [List.mapM_cons]
    refine wpAny_bind ?_
    rw [kas_first_eq]
    refine wpAny_bind (Looks.here (show Looks M s.heap (typeOf (.ref a)) o.cls from (Looks.ld ho).andThen .now) ?_)
    rw [hc, if_neg (by first | decide | simp)]
    refine wpAny_bind (listItems_at ho hd (wpAny_pure ?_))
    exact wpAny_bind (firsts_any vs (Q := fun bs s' => wpAny M A (pure (xs[0]? :: bs)) Q E s') (fun v hv => t v (List.mem_cons_of_mem _ hv)) fun fs hf => wpAny_pure (h _ (by simp [hf])))
theorem kind_tup0 {v : Value} {vs : List Value} {Q : SortKind → Shared → Prop} (h0 : ∃ a o n, v = .ref a ∧ s.heap.get? a = some o ∧ o.cls = .type "tuple" ∧ o.data = .seq #[] n) (ht : ∀ v ∈ vs, ∃ a o xs n, v = .ref a ∧ s.heap.get? a = some o ∧ o.cls = .type "tuple" ∧ o.data = .seq xs n) (h : Q oneType' s) :
    wpAny M A (keyKind' (v :: vs).toArray) Q E s := by
  have hT : ∀ u ∈ v :: vs, Looks M s.heap (typeOf u) (Value.type "tuple") := by
    intro u hu
    rcases List.mem_cons.mp hu with rfl | hu
    · obtain ⟨a, o, n, rfl, ho, hc, hd⟩ := h0
      exact hc ▸ (show Looks M s.heap (typeOf (.ref a)) o.cls from (Looks.ld ho).andThen .now)
    · obtain ⟨a, o, xs, n, rfl, ho, hc, hd⟩ := ht u hu
      exact hc ▸ (show Looks M s.heap (typeOf (.ref a)) o.cls from (Looks.ld ho).andThen .now)
  obtain ⟨a, o, n, rfl, ho, hc, hd⟩ := h0
  rw [kat_kind_eq, List.mapM_toArray, map_eq_pure_bind]
  refine wpAny_bind (wpAny_bind ?_)
  rw [List.mapM_cons]
  refine wpAny_bind ?_
  rw [kas_first_eq]
  refine wpAny_bind (Looks.here (show Looks M s.heap (typeOf (.ref a)) o.cls from (Looks.ld ho).andThen .now) ?_)
  rw [hc, if_neg (by first | decide | simp)]
  refine wpAny_bind (listItems_at ho hd (wpAny_pure ?_))
  refine wpAny_bind (firsts_any vs ht fun fs hf => wpAny_pure ?_)
  refine wpAny_pure ?_
  rw [if_neg (by simp), if_neg (by simp)]
  rw [oneTypeOnly'_eq, List.mapM_toArray, map_eq_pure_bind]
  refine wpAny_bind (wpAny_bind (wpAny_bind (kas_mapM (r := Value.type "tuple") _ (fun v hv Q' hq => (hT v hv).here hq) (wpAny_pure ?_))))
  have hall : ((List.map (fun _ => Value.type "tuple") (Value.ref a :: vs)).toArray.all fun x => x == Value.type "tuple") = true := by
    simp only [List.all_toArray, List.all_map, List.all_eq_true]
    intro _ _
    exact beq_self_eq_true _
  have h0 : (List.map (fun _ => Value.type "tuple") (Value.ref a :: vs)).toArray[0]? = some (Value.type "tuple") := by simp
  rw [h0]
  simp only [hall, if_true]
  exact wpAny_pure (wpAny_pure h)
end
section
variable {prog : Program} {w : World} {A : Around} {E : Value → Shared → Prop} {s : Shared}
theorem tup_obj {h : Heap} {v : Value} {xs : List PyData} {as : List Addr} (r : Reads h v (.tuple xs) as) : ∃ a o us n, v = .ref a ∧ h.get? a = some o ∧ o.cls = .type "tuple" ∧ o.data = .seq us n := by
  cases r with
  | tuple h1 h2 h3 h4 => exact ⟨_, _, _, _, rfl, h1, h2, h3⟩
theorem sorts_tup0 {vs : List Value} {ds : List PyData} (e : EachIs (fun v d => ∃ as, Reads s.heap v d as) vs (.tuple [] :: ds)) (hal : AllAlike (.tuple [] :: ds)) (ht : ∀ d ∈ ds, ∃ xs, d = .tuple xs) (hu : ∀ d, d ∈ .tuple [] :: ds → A.units + d.depth < cLine) : SortsAt prog w A s (dataKind s.heap (.tuple [] :: ds)) vs := by
  have ht' : ∀ d ∈ .tuple [] :: ds, ∃ xs, d = .tuple xs := fun d hd => by
    rcases List.mem_cons.mp hd with rfl | hd
    · exact ⟨[], rfl⟩
    · exact ht d hd
  refine ⟨fun v hv => ?_, oneType', ?_, fun h2 E Q hq => ?_⟩
  · obtain ⟨d, hd, as, r⟩ := e.left v hv
    exact ⟨_, dataKind_some hal hd r⟩
  · intro E x y a b Q ha hb hq
    obtain ⟨d, as, hd, ra, rfl⟩ := dataKind_inv ha
    obtain ⟨d', as', hd', rb, rfl⟩ := dataKind_inv hb
    have hdd := hal d hd d' hd'
    have hr : A.units + min d.depth d'.depth < cLine := Nat.lt_of_le_of_lt (Nat.add_le_add_left (Nat.min_le_left _ _) _) (hu d hd)
    obtain ⟨xs, rfl⟩ := ht' d hd
    obtain ⟨ys, rfl⟩ := ht' d' hd'
    rw [keyLt'_oneType]
    exact oneLt_tup ra rb hdd hr hq
  · cases e with
    | cons r t =>
      obtain ⟨as, r⟩ := r
      refine kind_tup0 ?_ (fun v hv => ?_) hq
      · cases r with
        | @tuple a o us n _ _ h1 h2' h3 h4 =>
          have : us = #[] := by
            have := ReadsAll.length _ _ _ h4
            exact Array.eq_empty_of_size_eq_zero (by simpa using this)
          subst this
          exact ⟨_, _, _, rfl, h1, h2', h3⟩
      · obtain ⟨d, hd, as, r⟩ := t.left v hv
        obtain ⟨xs, rfl⟩ := ht d hd
        exact tup_obj r
/-- a list or a tuple -/
def SqAt (h : Heap) (l : Addr) (vs : Array Value) : Prop := ∃ o, h.get? l = some o ∧ (o.cls = .type "list" ∨ o.cls = .type "tuple") ∧ ∃ n, o.data = .seq vs n
theorem collect_sq {l : Addr} {vs : List Value} {Q : List Value → Shared → Prop} (hl : SqAt s.heap l vs.toArray)
    (h : Q vs { s with heap := (s.heap.push (seqObj "list" #[] 0)).update s.heap.objs.size (Obj.mapSeq (· ++ vs.toArray)) }) (hsz : vs.length ≤ sizeLine) :
    wpAny (model prog w) A (collect (.ref l)) Q E s := by
  obtain ⟨o, ho, hc, n, hd⟩ := hl
  unfold collect
  refine wpAny_bind (wpAny_runValue (codeAny_builtin entry_proto_collect' ?_))
  show wpAny _ _ (do again (.builtin "list.__iadd__" ⟨[← newList [], .ref l], []⟩)) _ _ s
  refine wpAny_bind (wpAny_newList (wpAny_pure ⟨Code.quiet_builtin _ (by decide +kernel), codeAny_builtin entry_list_iadd' ?_⟩))
  show wpAny _ _ (Builtin.List.listExtendWith (.ref s.heap.objs.size) (.ref l) (.ref s.heap.objs.size)) _ _ { s with heap := s.heap.push (seqObj "list" #[] 0) }
  unfold Builtin.List.listExtendWith
  have ho' : (s.heap.push (seqObj "list" #[] 0)).get? l = some o := Heap.get?_push_of_some _ ho
  rcases hc with hc | hc
  · refine wpAny_bind (wpAny_typeOf (T := "list") ⟨o, ho', hc⟩ ?_)
    have ht : (Value.type "list" == Value.type "list") = true := by rfl
    rw [if_pos (by rw [ht]; simp)]
    refine wpAny_bind (listItems_at ho' hd ?_)
    refine wpAny_bind (listItems_at (xs := #[]) (n := 0) (Heap.get?_push_size _ rfl) rfl ?_)
    rw [if_neg (by simp)]
    refine wpAny_bind (listUpdate_at (xs := #[]) (n := 0) (Heap.get?_push_size _ rfl) rfl ?_ (Nat.zero_le _) (by show (#[] ++ vs.toArray).size ≤ sizeLine + 1; simp only [Array.size_append, List.size_toArray, List.length_nil]; omega))
    refine wpAny_pure ?_
    show wpAny (model prog w) A (do
      let o ← load s.heap.objs.size
      match o.data with
      | .seq xs _ => pure xs.toList
      | _ => unsupported "internal:collect") Q E { s with heap := (s.heap.push (seqObj "list" #[] 0)).update s.heap.objs.size (Obj.mapSeq (· ++ vs.toArray)) }
    refine wpAny_bind (wpAny_load (get?_update_seq (Heap.get?_push_size _ rfl) _) ?_)
    show wpAny _ _ (pure ((#[] : Array Value) ++ vs.toArray).toList) Q E _
    rw [show ((#[] : Array Value) ++ vs.toArray).toList = vs by simp]
    exact wpAny_pure h
  · refine wpAny_bind (wpAny_typeOf (T := "tuple") ⟨o, ho', hc⟩ ?_)
    have ht : (Value.type "tuple" == Value.type "tuple") = true := by rfl
    rw [if_pos (by rw [ht]; simp)]
    refine wpAny_bind (listItems_at ho' hd ?_)
    refine wpAny_bind (listItems_at (xs := #[]) (n := 0) (Heap.get?_push_size _ rfl) rfl ?_)
    rw [if_neg (by simp)]
    refine wpAny_bind (listUpdate_at (xs := #[]) (n := 0) (Heap.get?_push_size _ rfl) rfl ?_ (Nat.zero_le _) (by show (#[] ++ vs.toArray).size ≤ sizeLine + 1; simp only [Array.size_append, List.size_toArray, List.length_nil]; omega))
    refine wpAny_pure ?_
    show wpAny (model prog w) A (do
      let o ← load s.heap.objs.size
      match o.data with
      | .seq xs _ => pure xs.toList
      | _ => unsupported "internal:collect") Q E { s with heap := (s.heap.push (seqObj "list" #[] 0)).update s.heap.objs.size (Obj.mapSeq (· ++ vs.toArray)) }
    refine wpAny_bind (wpAny_load (get?_update_seq (Heap.get?_push_size _ rfl) _) ?_)
    show wpAny _ _ (pure ((#[] : Array Value) ++ vs.toArray).toList) Q E _
    rw [show ((#[] : Array Value) ++ vs.toArray).toList = vs by simp]
    exact wpAny_pure h
theorem sorted_sq {κ : PyProof.Rows.KeyKind} {l : Addr} {vs : List Value} {Q : Value → Shared → Prop} (hl : SqAt s.heap l vs.toArray) (S : SortsAt prog w A.in1.in1 { s with heap := sortingHeap (copyHeap s.heap vs) (s.heap.objs.size + 1) vs } κ vs) (hL : vs.length ≤ sizeLine)
    (h : Q (.ref (s.heap.objs.size + 1)) { s with heap := sortedAll s.heap vs (sortVals κ false vs vs).toArray }) : wpAny (model prog w) A (call (.builtin "sorted") [.ref l]) Q E s := by
  refine call_function_entry_kw kind_sorted plain_sorted entry_sorted (args_sorted1 _) ?_
  unfold Builtin.«sorted»
  refine wpAny_bind (m := checkCount "sorted" 1 1 _) (wpAny_pure ?_)
  refine wpAny_bind (collect_sq hl ?_ hL)
  refine wpAny_bind (wpAny_newList ?_ hL)
  have hsz : ((s.heap.push (seqObj "list" #[] 0)).update s.heap.objs.size (Obj.mapSeq (· ++ vs.toArray))).objs.size = s.heap.objs.size + 1 := by
    rw [Heap.size_update, size_push']
  show wpAny _ _ _ _ _ { s with heap := copyHeap s.heap vs }
  rw [hsz]
  refine wpAny_bind (wpAny_holding (wpAny_call_entry_kw slot_list_sort ⟨_, copyHeap_at s.heap vs, rfl⟩ entry_list_sort ?body (args_list_sort _)))
  case body =>
    show wpAny (model prog w) A.in1.in1 (Builtin.«list.sort» ⟨[.ref (s.heap.objs.size + 1)], []⟩) _ _ _
    refine wpAny_mono (list_sort_vals (s := { s with heap := copyHeap s.heap vs }) (copyHeap_at s.heap vs) S hL (P := fun f s' => f = .done (.ret .none) ∧ Q (.ref (s.heap.objs.size + 1)) s') ⟨rfl, h⟩) (fun f s' hf => ?_) fun _ _ e => e
    obtain ⟨rfl, hq⟩ := hf
    exact ⟨_, rfl, wpAny_pure ⟨_, rfl, hq⟩⟩
theorem sorted_sqd {R : Value → PyData → Prop} {vs : List Value} {bs : List PyData} {l : Addr} {Q : Value → Shared → Prop} (hl : SqAt s.heap l vs.toArray) (e : EachIs R vs bs) (er : EachIs (fun v b => ∃ as, Reads s.heap v b as) vs bs) (hal : AllAlike bs)
    (hk : Sortable bs ∨ ∃ r, bs = .tuple [] :: r ∧ ∀ d ∈ r, ∃ xs, d = .tuple xs) (hL : bs.length ≤ sizeLine)
    (hu : ∀ b, b ∈ bs → A.units + 2 + b.depth < cLine) (h : ∀ out, out.length = bs.length → EachIs R out (bs.mergeSort (dataLe false id)) → Q (.ref (s.heap.objs.size + 1)) { s with heap := sortedAll s.heap vs (List.toArray out) }) :
    wpAny (model prog w) A (call (.builtin "sorted") [.ref l]) Q E s := by
  have er' : EachIs (fun v b => ∃ as, Reads (sortingHeap (copyHeap s.heap vs) (s.heap.objs.size + 1) vs) v b as) vs bs := er.mono fun _ _ ⟨as, r⟩ => ⟨as, PyProof.Rows.Reads.keeps (fun _ _ => sorting_copy_old) r⟩
  have hal' : AllAlike (bs.map id) := by rw [List.map_id]; exact hal
  have hs := sortVals_data (enc := id) false e er' hal'
  rw [List.map_id] at hs
  refine sorted_sq hl (κ := dataKind (sortingHeap (copyHeap s.heap vs) (s.heap.objs.size + 1) vs) bs) ?_ (by rw [e.length]; exact hL) (h _ (by rw [sortVals_length false rfl]; exact e.length) hs)
  rcases hk with hk | ⟨r, rfl, hk⟩
  · exact SortsAt.data (s := { s with heap := sortingHeap (copyHeap s.heap vs) (s.heap.objs.size + 1) vs }) er' hal hk hu
  · exact sorts_tup0 (s := { s with heap := sortingHeap (copyHeap s.heap vs) (s.heap.objs.size + 1) vs }) er' hal hk hu
end
end Ra


set_option Elab.async false
set_option linter.all false
set_option autoImplicit false
set_option maxRecDepth 100000
/-! sorted -/
namespace Ra
open PySem PySem.Spec PyProof.Rows L2
abbrev dle : PyData → PyData → Bool := PySem.W.dataLe false id
theorem dle_eq (a b : PyData) : dle a b = !PySem.W.dataLt b a := rfl
theorem dle_total : PySem.W.TotalLe dle := PySem.W.sortLe_total _ _ _
theorem ins_mem (x y : PyData) : ∀ l, y ∈ ins x l ↔ y = x ∨ y ∈ l
  | [] => by simp [ins]
  | z :: l => by
    unfold ins
    split
    · simp
    · simp only [List.mem_cons, ins_mem x y l]
      constructor
      · rintro (h | h | h)
        · exact .inr (.inl h)
        · exact .inl h
        · exact .inr (.inr h)
      · rintro (h | h | h)
        · exact .inr (.inl h)
        · exact .inl h
        · exact .inr (.inr h)
theorem ins_sorted (x : PyData) : ∀ l : List PyData, l.Pairwise (fun a b => dle a b = true) → (ins x l).Pairwise (fun a b => dle a b = true)
  | [], _ => by simp [ins]
  | z :: l, h => by
    obtain ⟨h1, h2⟩ := List.pairwise_cons.mp h
    unfold ins
    split
    · rename_i hlt
      have hxz : dle x z = true := by
        rcases dle_total.total x z with q | q
        · exact q
        · rw [dle_eq, hlt] at q; cases q
      refine List.pairwise_cons.mpr ⟨fun y hy => ?_, h⟩
      rcases List.mem_cons.mp hy with rfl | hy
      · exact hxz
      · exact dle_total.trans _ _ _ hxz (h1 y hy)
    · rename_i hlt
      refine List.pairwise_cons.mpr ⟨fun y hy => ?_, ins_sorted x l h2⟩
      rcases (ins_mem x y l).mp hy with rfl | hy
      · rw [dle_eq]; simpa using hlt
      · exact h1 y hy
theorem rank_not {c x y z : PyData} (hx : PySem.W.sameRank dle c x = true) (hlt : PySem.W.dataLt x y = true) (hyz : dle y z = true) : PySem.W.sameRank dle c z = false := by
  cases h : PySem.W.sameRank dle c z with
  | false => rfl
  | true =>
    unfold PySem.W.sameRank at hx h
    simp only [Bool.and_eq_true] at hx h
    have : dle y x = true := dle_total.trans _ _ _ hyz (dle_total.trans _ _ _ h.2 hx.1)
    rw [dle_eq, hlt] at this
    cases this
theorem ins_filter (x c : PyData) : ∀ l : List PyData, l.Pairwise (fun a b => dle a b = true) → (ins x l).filter (PySem.W.sameRank dle c) = l.filter (PySem.W.sameRank dle c) ++ [x].filter (PySem.W.sameRank dle c)
  | [], _ => by simp [ins]
  | z :: l, h => by
    obtain ⟨h1, h2⟩ := List.pairwise_cons.mp h
    unfold ins
    split
    · rename_i hlt
      cases hx : PySem.W.sameRank dle c x with
      | false => simp [hx]
      | true =>
        have hz : PySem.W.sameRank dle c z = false := rank_not hx hlt (by
          rcases dle_total.total z z with q | q <;> exact q)
        have hl : l.filter (PySem.W.sameRank dle c) = [] := List.filter_eq_nil_iff.mpr fun y hy => by
          rw [rank_not hx hlt (h1 y hy)]; simp
        simp [hx, hz, hl]
    · cases hz : PySem.W.sameRank dle c z with
      | false => rw [List.filter_cons_of_neg (by rw [hz]; simp), List.filter_cons_of_neg (by rw [hz]; simp)]; exact ins_filter x c l h2
      | true => rw [List.filter_cons_of_pos hz, List.filter_cons_of_pos hz, ins_filter x c l h2]; rfl
theorem isort_sorted : ∀ (l acc : List PyData), acc.Pairwise (fun a b => dle a b = true) → (isort acc l).Pairwise (fun a b => dle a b = true)
  | [], _, h => h
  | x :: l, acc, h => isort_sorted l _ (ins_sorted x acc h)
theorem isort_filter (c : PyData) : ∀ (l acc : List PyData), acc.Pairwise (fun a b => dle a b = true) → (isort acc l).filter (PySem.W.sameRank dle c) = acc.filter (PySem.W.sameRank dle c) ++ l.filter (PySem.W.sameRank dle c)
  | [], acc, _ => by simp [isort]
  | x :: l, acc, h => by
    rw [isort, isort_filter c l _ (ins_sorted x acc h), ins_filter x c acc h, List.append_assoc, ← List.filter_append]
    rfl
theorem isort_eq (l : List PyData) : isort [] l = l.mergeSort dle :=
  PySem.W.sort_unique dle_total (isort_sorted l [] List.Pairwise.nil) fun c => by
    rw [isort_filter c l [] List.Pairwise.nil]; rfl
theorem isort_length : ∀ (l acc : List PyData), (isort acc l).length = acc.length + l.length
  | [], acc => by simp [isort]
  | x :: l, acc => by
    have h : ∀ a : List PyData, (ins x a).length = a.length + 1 := by
      intro a
      induction a with
      | nil => rfl
      | cons y a ih =>
        unfold ins
        split
        · simp
        · simp [ih]
    rw [isort, isort_length l, h, List.length_cons]; omega
section
variable {X : Cx} {K : PySem.W.Frag} {F : Addr → Prop} {H : Hp}
theorem each_of {R : Value → PyData → Prop} : ∀ {xs : List V} {us : List Value} {ds : List PyData}, Vals xs us → RpAll K F H xs ds → (∀ x u d, RelV x u → Rp K F H x d → R u d) → PySem.W.EachIs R us ds
  | _, _, _, .nil, .nil, _ => .nil
  | _, _, _, .cons r t, .cons a b, f => .cons (f _ _ _ r a) (each_of t b f)
theorem of_each : ∀ {us : List Value} {ds : List PyData}, PySem.W.EachIs (fun u d => ∃ x, RelV x u ∧ Rp K F H x d) us ds → ∃ xs, Vals xs us ∧ RpAll K F H xs ds
  | _, _, .nil => ⟨[], .nil, .nil⟩
  | _, _, .cons ⟨x, r, a⟩ t => by
    obtain ⟨xs, h1, h2⟩ := of_each t
    exact ⟨x :: xs, .cons r h1, .cons a h2⟩
theorem sortable_ok {ds : List PyData} (h : (ds.all isTupC || ds.all isPlainC) = true) : PySem.W.Sortable ds := by
  rcases Bool.or_eq_true_iff.mp h with h | h
  · refine .inl fun d hd => ?_
    have := List.all_eq_true.mp h d hd
    unfold isTupC at this
    split at this
    · exact ⟨_, _, rfl⟩
    · cases this
  · refine .inr fun d hd => ?_
    have := List.all_eq_true.mp h d hd
    unfold isPlainC at this
    split at this
    · exact ⟨by simp, by simp⟩
    · exact ⟨by simp, by simp⟩
    · cases this
theorem alike_ok {ds : List PyData} (h : allAlike ds = true) : PySem.W.AllAlike ds := fun d hd d' hd' => List.all_eq_true.mp (List.all_eq_true.mp h d hd) d' hd'
theorem depth_le : ∀ {ds : List PyData} {d : PyData}, d ∈ ds → d.depth ≤ PyData.depthAll ds
  | e :: ds, d, h => by
    simp only [PyData.depthAll]
    rcases List.mem_cons.mp h with rfl | h
    · exact Nat.le_max_left _ _
    · exact Nat.le_trans (depth_le h) (Nat.le_max_right _ _)
theorem sorted_any {prog : Program} {w : World} {A : Around} {E : Value → Shared → Prop} {s : Shared} {R : Value → PyData → Prop} {vs : List Value} {bs : List PyData} {l : Addr} {Q : Value → Shared → Prop} (hl : SqAt s.heap l vs.toArray) (e : PySem.W.EachIs R vs bs) (er : PySem.W.EachIs (fun v b => ∃ as, Reads s.heap v b as) vs bs) (hal : PySem.W.AllAlike bs) (hk : sortable bs = true) (hL : bs.length ≤ sizeLine)
    (hu : ∀ b, b ∈ bs → A.units + 2 + b.depth < cLine) (h : ∀ out, out.length = bs.length → PySem.W.EachIs R out (bs.mergeSort (PySem.W.dataLe false id)) → Q (.ref (s.heap.objs.size + 1)) { s with heap := sortedAll s.heap vs (List.toArray out) }) :
    wpAny (model prog w) A (call (.builtin "sorted") [.ref l]) Q E s := by
  refine sorted_sqd hl e er hal ?_ hL hu h
  unfold sortable at hk
  rcases Bool.or_eq_true_iff.mp hk with hk | hk
  · exact .inl (sortable_ok hk)
  · unfold tup0 at hk
    split at hk
    · exact .inr ⟨_, rfl, fun d hd => by
        have := List.all_eq_true.mp hk d hd
        unfold isTup at this
        split at this
        · exact ⟨_, rfl⟩
        · cases this⟩
    · cases hk
theorem cr_sorted' (hu : X.A.units + 200 < cLine) : CallR X (.builtin "sorted") (rBi X.K (bi .sorted)) := by
  intro pins s σ H vs us Q I r h
  obtain ⟨m, g, ds, S, hx, hz0⟩ := h
  obtain ⟨w, hw, hz⟩ := Rz.opt hz0
  clear hz0
  replace hw : sortedD ds = some w := hw
  have key : ∃ (xs : List PyData) (a : Addr) (ws : List V) (its : List Value), vs = [.ref a] ∧ RpAll X.K g.F H ws xs ∧ Vals ws its ∧ SqAt s.heap a its.toArray ∧ ws.length ≤ sizeLine ∧ (sortD xs).map Val.fr = some w := by
    unfold sortedD at hw
    split at hw
    · obtain ⟨x, rfl, h⟩ := hx.one
      obtain ⟨a, ws, rfl, h1, h2⟩ := h.lst
      obtain ⟨its, rv, hl, hlen⟩ := I.list (.inl h1)
      obtain ⟨o, ho, hc, n, hd⟩ := hl.isList
      exact ⟨_, a, ws, its, rfl, h2, rv, ⟨o, ho, .inl hc, n, hd⟩, hlen, hw⟩
    · obtain ⟨x, rfl, h⟩ := hx.one
      obtain ⟨a, ws, rfl, h1, h2⟩ := h.tup
      obtain ⟨its, rv, hl, hlen⟩ := I.tuple h1
      obtain ⟨o, ho, hc, n, hd⟩ := hl
      exact ⟨_, a, ws, its, rfl, h2, rv, ⟨o, ho, .inr hc, n, hd⟩, hlen, hw⟩
    · cases hw
  obtain ⟨xs, a, ws, its, rfl, h2, rv, hl, hlen, hw⟩ := key
  obtain ⟨ys, hy, e⟩ := Option.map_eq_some_iff.mp hw
  subst e
  unfold sortD at hy
  split at hy
  · rename_i hc
    cases hy
    obtain ⟨hc1, hc3⟩ := Bool.and_eq_true_iff.mp hc
    obtain ⟨hal, hso⟩ := Bool.and_eq_true_iff.mp hc1
    have hdp : PyData.depthAll xs ≤ 64 := of_decide_eq_true hc3
    rw [Vals.ref1 r]
    refine sorted_any (R := fun u d => ∃ x, RelV x u ∧ Rp X.K g.F H x d) (bs := xs) hl (each_of rv h2 fun x u d a b => ⟨x, a, b⟩)
      (each_of rv h2 fun x u d a b => Dp.reads I d x u (Rp.dp d b) a) (alike_ok hal) hso (by rw [← h2.length]; exact hlen) (fun b hb => by
        have := depth_le hb
        show X.A.units + 2 + b.depth < cLine
        omega) fun out ho he => ?_
    rw [← isort_eq] at he
    obtain ⟨zs, z1, z2⟩ := of_each he
    obtain ⟨ep, he'⟩ := PyProof.Rows.sortedAll_at s.heap its (List.toArray out)
    have hzl : zs.length ≤ sizeLine := by rw [z1.length, ho, ← h2.length]; exact hlen
    refine ⟨.ref _, upd H (s.heap.objs.size + 1) (.lst zs), I.laid (t' := s.toks) (fun _ _ => PyProof.Rows.sortedAll_old) (Nat.le_succ _) ⟨hzl, out, ep, z1, ?_⟩, rfl, ans_l S hz z2 hzl (I.hok.fresh (Nat.le_succ _))⟩
    exact he'
  · cases hy
end
end Ra


set_option Elab.async false
set_option linter.all false
set_option autoImplicit false
set_option maxRecDepth 100000
/-! targets, walks, comprehensions, loops -/
namespace Ra
open PySem PySem.Spec PyProof.Rows L2
/-! targets -/
mutual
def slots : Tg → List Nat
  | .nm i => [i]
  | .tp ts => slotsAll ts
def slotsAll : List Tg → List Nat
  | [] => []
  | t :: ts => slots t ++ slotsAll ts
end
theorem wipe_set {σ : L2.St} {i : Nat} {v : Option V} : ∀ {vs : List Nat}, i ∈ vs → L2.wipe (σ.set i v) vs = L2.wipe σ vs
  | w :: vs, h => by
    have comm : ∀ {vs : List Nat}, i ∉ vs → L2.wipe (σ.set i v) vs = (L2.wipe σ vs).set i v := by
      intro vs
      induction vs with
      | nil => intro _; rfl
      | cons u r ih =>
        intro hn
        show (L2.wipe (σ.set i v) r).set u none = ((L2.wipe σ r).set u none).set i v
        rw [ih (fun z => hn (List.mem_cons_of_mem _ z)), List.set_comm _ _ (fun z => hn (by rw [z]; exact List.mem_cons_self))]
    by_cases hv : i ∈ vs
    · show (L2.wipe (σ.set i v) vs).set w none = (L2.wipe σ vs).set w none
      rw [wipe_set hv]
    · have hw : i = w := by
        rcases List.mem_cons.mp h with z | z
        · exact z
        · exact absurd z hv
      subst hw
      show (L2.wipe (σ.set i v) vs).set i none = (L2.wipe σ vs).set i none
      rw [comm hv, List.set_set]
def gT (K : PySem.W.Frag) (t : Tg) : TG := fun x σ H Q => ∃ env g d env', Sg K env σ g H ∧ Rp K g.F H x d ∧ asg t d env = some env' ∧
  ∀ σ', Sg K env' σ' g H → (∀ vs, (∀ i ∈ slots t, i ∈ vs) → L2.wipe σ' vs = L2.wipe σ vs) → Q σ' H
def gTs (K : PySem.W.Frag) (ts : List Tg) : TGs := fun xs σ H Q => ∃ env g ds env', Sg K env σ g H ∧ RpAll K g.F H xs ds ∧ asgs ts ds env = some env' ∧
  ∀ σ', Sg K env' σ' g H → (∀ vs, (∀ i ∈ slotsAll ts, i ∈ vs) → L2.wipe σ' vs = L2.wipe σ vs) → Q σ' H
section
variable {X : Cx} {e : Expr} {es : List Expr} {pos : Pos}
theorem PG.weak {t t' : TG} (h : PG X e t) (w : ∀ x σ H Q, t' x σ H Q → t x σ H Q) : PG X e t' := ⟨fun pins s σ H v u Q I r q => h.run pins s σ H v u Q I r (w v σ H Q q)⟩
theorem PG.or {t t' : TG} (h : PG X e t) (h' : PG X e t') : PG X e (fun x σ H Q => t x σ H Q ∨ t' x σ H Q) := ⟨fun pins s σ H v u Q I r q => q.elim (h.run pins s σ H v u Q I r) (h'.run pins s σ H v u Q I r)⟩
theorem PGs.weak {t t' : TGs} (h : PGs X es t) (w : ∀ x σ H Q, t' x σ H Q → t x σ H Q) : PGs X es t' := ⟨fun pins s σ H v u Q I r q => h.run pins s σ H v u Q I r (w v σ H Q q)⟩
theorem pg_nameR {i : Nat} {x : Str} (hN : X.N.Nodup) (hi : X.N[i]? = some x) (hx : Loc X.env.scope x) (hf : X.fn x = true ∨ X.env.scope.names.lookup x = some .local) : PG X (.Name x pos) (gT X.K (.nm i)) := by
  refine PG.weak (pg_name hN hi hx hf) fun v σ H Q ⟨env, g, d, env', hs, hr, ha, q⟩ => ?_
  simp only [asg] at ha
  split at ha
  · rename_i hlt
    cases ha
    exact q _ (hs.set (v := .d d) hr (by simp) hlt) fun vs hv => wipe_set (hv i (by simp [slots]))
  · cases ha
theorem pgs_nilR : PGs X [] (gTs X.K []) := PGs.weak pgs_nil fun v σ H Q ⟨env, g, ds, env', hs, hr, ha, q⟩ => by
  cases ds with
  | nil =>
    cases hr
    cases ha
    exact ⟨rfl, q σ hs fun _ _ => rfl⟩
  | cons _ _ => cases ha
theorem assign_plain {e : Expr} (h : notStar e = true) (es : List Expr) (env : PySem.Env) : assignEach (e :: es) env = (false, assign e env) :: assignEach es env := by
  cases e <;> first | rfl | (cases h; done)
theorem pgs_consR {t : Tg} {ts : List Tg} (h1 : PG X e (gT X.K t)) (h2 : PGs X es (gTs X.K ts)) (ns : notStar e = true) : PGs X (e :: es) (gTs X.K (t :: ts)) := by
  refine PGs.weak (pgs_cons h1 h2 (by rw [assign_plain ns]; rfl)) fun v σ H Q ⟨env, g, ds, env', hs, hr, ha, q⟩ => ?_
  cases ds with
  | nil => cases ha
  | cons d ds =>
    simp only [asgs] at ha
    cases hr with
    | cons r rr =>
      cases h3 : asg t d env with
      | none => rw [h3] at ha; cases ha
      | some env1 =>
        rw [h3] at ha
        refine ⟨_, _, rfl, env, g, d, env1, hs, r, h3, fun σ1 hs1 w1 => ?_⟩
        refine ⟨env1, g, ds, env', hs1, rr, ha, fun σ2 hs2 w2 => q σ2 hs2 fun vs hv => ?_⟩
        rw [w2 vs fun i hi => hv i (by simp [slotsAll, hi]), w1 vs fun i hi => hv i (by simp [slotsAll, hi])]
theorem assign_len : ∀ (es : List Expr) (env : PySem.Env), es.all notStar = true → (assignEach es env).length = es.length ∧ (assignEach es env).findIdx? (·.1) = none
  | [], _, _ => ⟨rfl, rfl⟩
  | e :: es, env, h => by
    obtain ⟨h1, h2⟩ := Bool.and_eq_true_iff.mp (show (notStar e && es.all notStar) = true from h)
    obtain ⟨a, b⟩ := assign_len es env h2
    rw [assign_plain h1]
    exact ⟨by simp [a], by simp [List.findIdx?_cons, b]⟩
theorem asgs_len : ∀ (ts : List Tg) (ds : List PyData) (env env' : Env), asgs ts ds env = some env' → ds.length = ts.length
  | [], [], _, _, _ => rfl
  | [], _ :: _, _, _, h => by cases h
  | _ :: _, [], _, _, h => by cases h
  | t :: ts, d :: ds, env, env', h => by
    simp only [asgs] at h
    split at h
    · rw [List.length_cons, List.length_cons, asgs_len ts ds _ _ h]
    · cases h
theorem pg_tupR {ts : List Tg} {k : Nat} (hc : X.calm = true) (h : PGs X es (gTs X.K ts)) (ns : es.all notStar = true) (hl : es.length = ts.length) : PG X (.Tuple es k pos) (gT X.K (.tp ts)) := by
  obtain ⟨a, b⟩ := assign_len es X.env ns
  refine PG.weak (PG.or (pg_tup (n := es.length) hc h a b) (pg_unl (n := es.length) hc h a b)) fun v σ H Q ⟨env, g, d, env', hs, hr, ha, q⟩ => ?_
  simp only [asg] at ha
  split at ha
  · obtain ⟨p, xs, rfl, h1, h2⟩ := (Rp.rr hr).tup
    exact .inl ⟨p, xs, rfl, h1, by rw [h2.length, asgs_len _ _ _ _ ha, hl], env, g, _, env', hs, h2, ha, q⟩
  · obtain ⟨p, xs, rfl, h1, h2⟩ := (Rp.rr hr).lst
    exact .inr ⟨p, xs, rfl, .inl h1, by rw [h2.length, asgs_len _ _ _ _ ha, hl], env, g, _, env', hs, h2, ha, q⟩
  · cases ha
end
/-! what is walked -/
/-- D is left alone -/
def G.hold (g : G) (D : Addr) : G := ⟨g.F, g.ad, fun b => b = D ∨ g.pr b⟩
/-- .. and no more -/
def G.back (g : G) (pr : Addr → Prop) : G := ⟨g.F, g.ad, pr⟩
def nop : Addr → Prop := fun _ => False
theorem Ext.toBack {g0 g : G} {H0 H : Hp} (e : Ext g0 H0 g H) : Ext (g0.back nop) H0 (g.back nop) H := ⟨e.sub, e.fix, e.tup, e.frz, e.ads, rfl, fun _ h => h.elim⟩
structure WalkOk (K : PySem.W.Frag) (J : It) (is : List PyData) (gs : List Nat) (m0 : Mem) (g0 : G) (H0 : Hp) : Prop where
  len : is.length ≤ sizeLine
  go : ∀ (i : Nat) (m : Mem) (g : G) (H : Hp), Ext (g0.back nop) H0 (g.back nop) H → SimM K m g H → same gs m0 m = true → i < is.length → J.go i H
  yld : ∀ (i : Nat) (m : Mem) (g : G) (H : Hp) (x : V) (H' : Hp) (d : PyData), Ext (g0.back nop) H0 (g.back nop) H → SimM K m g H → same gs m0 m = true → is[i]? = some d → J.yld i H x H' → SimM K m g H' ∧ Ext g H g H' ∧ Rp K g.F H' x d
  stop : ∀ (i : Nat) (m : Mem) (g : G) (H : Hp), Ext (g0.back nop) H0 (g.back nop) H → SimM K m g H → same gs m0 m = true → is.length ≤ i → J.stop i H
mutual
theorem beq_ok : ∀ (x y : PyData), beqD x y = true → x = y
  | .none, y, h => by cases y <;> first | rfl | (simp [beqD] at h; done)
  | .bool a, y, h => by
    cases y <;> simp [beqD] at h
    rw [h]
  | .int a, y, h => by
    cases y <;> simp [beqD] at h
    rw [h]
  | .str a, y, h => by
    cases y <;> simp [beqD] at h
    rw [h]
  | .list a, y, h => by
    cases y <;> simp [beqD] at h
    rw [beqs_ok a _ h]
  | .tuple a, y, h => by
    cases y <;> simp [beqD] at h
    rw [beqs_ok a _ h]
  | .dict a, y, h => by
    cases y <;> simp [beqD] at h
    rw [beqp_ok a _ h]
theorem beqs_ok : ∀ (x y : List PyData), beqDs x y = true → x = y
  | [], y, h => by cases y <;> first | rfl | (simp [beqDs] at h; done)
  | x :: xs, y, h => by
    cases y with
    | nil => simp [beqDs] at h
    | cons y ys =>
      simp [beqDs] at h
      rw [beq_ok x y h.1, beqs_ok xs ys h.2]
theorem beqp_ok : ∀ (x y : List (PyData × PyData)), beqPs x y = true → x = y
  | [], y, h => by cases y <;> first | rfl | (simp [beqPs] at h; done)
  | (x, u) :: xs, y, h => by
    cases y with
    | nil => simp [beqPs] at h
    | cons y ys =>
      obtain ⟨y, v⟩ := y
      simp [beqPs] at h
      rw [beq_ok x y h.1.1, beq_ok u v h.1.2, beqp_ok xs ys h.2]
end
mutual
theorem beq_refl : ∀ x : PyData, beqD x x = true
  | .none => rfl
  | .bool a => by simp [beqD]
  | .int a => by simp [beqD]
  | .str a => by simp [beqD]
  | .list a => beqs_refl a
  | .tuple a => beqs_refl a
  | .dict a => beqp_refl a
theorem beqs_refl : ∀ x : List PyData, beqDs x x = true
  | [] => rfl
  | x :: xs => by
    simp [beqDs, beq_refl x, beqs_refl xs]
theorem beqp_refl : ∀ x : List (PyData × PyData), beqPs x x = true
  | [] => rfl
  | (x, u) :: xs => by
    simp [beqPs, beq_refl x, beq_refl u, beqp_refl xs]
end
theorem same_at : ∀ {gs : List Nat} {m m' : Mem} {k : Nat}, same gs m m' = true → k ∈ gs → ∃ c c', m[k]? = some c ∧ m'[k]? = some c' ∧ c'.xs = c.xs
  | j :: gs, m, m', k, h, hk => by
    obtain ⟨h1, h2⟩ := Bool.and_eq_true_iff.mp (show ((match m[j]?, m'[j]? with | some c, some c' => beqDs c.xs c'.xs | _, _ => false) && same gs m m') = true from h)
    rcases List.mem_cons.mp hk with rfl | hk
    · split at h1
      · rename_i c c' e1 e2
        exact ⟨c, c', e1, e2, (beqs_ok _ _ h1).symm⟩
      · cases h1
    · exact same_at h2 hk
theorem same_of : ∀ {gs : List Nat} {m m' : Mem}, (∀ k ∈ gs, ∃ c c', m[k]? = some c ∧ m'[k]? = some c' ∧ c'.xs = c.xs) → same gs m m' = true
  | [], _, _, _ => rfl
  | j :: gs, m, m', h => by
    obtain ⟨c, c', e1, e2, e3⟩ := h j List.mem_cons_self
    have ih := same_of (gs := gs) (m := m) (m' := m') fun k hk => h k (List.mem_cons_of_mem _ hk)
    show ((match m[j]?, m'[j]? with | some c, some c' => beqDs c.xs c'.xs | _, _ => false) && same gs m m') = true
    rw [e1, e2, ih]
    show (beqDs c.xs c'.xs && true) = true
    rw [e3, beqs_refl]; rfl
theorem same_trans {gs : List Nat} {m m1 m2 : Mem} (a : same gs m m1 = true) (b : same gs m1 m2 = true) : same gs m m2 = true := same_of fun k hk => by
  obtain ⟨c, c1, e1, e2, e3⟩ := same_at a hk
  obtain ⟨c1', c2, f1, f2, f3⟩ := same_at b hk
  rw [e2] at f1; cases f1
  exact ⟨c, c2, e1, f2, f3.trans e3⟩
theorem same_refl {gs : List Nat} {m : Mem} (h : ∀ k ∈ gs, ∃ c, m[k]? = some c) : same gs m m = true := same_of fun k hk => by
  obtain ⟨c, e⟩ := h k hk
  exact ⟨c, c, e, e, rfl⟩
end Ra


set_option Elab.async false
set_option linter.all false
set_option autoImplicit false
set_option maxRecDepth 100000
/-! walks of the evaluator's sources; comprehensions -/
namespace Ra
open PySem PySem.Spec PyProof.Rows L2
section
variable {X : Cx} {K : PySem.W.Frag}
def iS (K : PySem.W.Frag) (p : Env → Mem → Res (List PyData × List Nat)) : TI := fun σ H R => ∃ env m g, Sg K env σ g H ∧ SimM K m g H ∧
  Rz K (p env m) g H fun q m' g' H' => ∀ J, WalkOk K J q.1 q.2 m' g' H' → same q.2 m' m' = true → R J H'
/-- a value that is walked: data, or a cell that stays -/
def SrcL (K : PySem.W.Frag) (a : Addr) (ds : List PyData) (gs : List Nat) (m0 : Mem) (g0 : G) (H0 : Hp) : Prop :=
  ∀ (m : Mem) (g : G) (H : Hp), Ext (g0.back nop) H0 (g.back nop) H → SimM K m g H → same gs m0 m = true → ∃ xs, Rd H a (.lst xs) ∧ RpAll K g.F H xs ds
theorem src_list {m : Mem} {g : G} {H : Hp} {x : V} {v : Val} {ds : List PyData} (S : SimM K m g H) (hf : ∀ xs, v ≠ .fr xs) (h : RpV K g H x v) (e : rd m v = some (.list ds)) :
    ∃ a, x = .ref a ∧ SrcL K a ds (guards [v]) m g H ∧ same (guards [v]) m m = true := by
  cases v with
  | d y =>
    have e' : y = .list ds := Option.some.inj e
    subst e'
    cases h with
    | lst a b => exact ⟨_, rfl, fun m1 g1 H1 e1 s1 _ => ⟨_, (Rl.ext e1 a).rd, RpAll.ext e1 _ b⟩, rfl⟩
  | fr xs => exact absurd rfl (hf xs)
  | mr k =>
    obtain ⟨a, rfl, q⟩ := h
    cases hm : m[k]? with
    | none => simp [rd, hm] at e
    | some c =>
      simp only [rd, hm, Option.map_some, Option.some.injEq, PyData.list.injEq] at e
      refine ⟨a, rfl, fun m1 g1 H1 e1 s1 sm => ?_, same_refl fun k' hk' => ?_⟩
      · obtain ⟨c0, c1, f1, f2, f3⟩ := same_at sm (k := k) (by simp [guards])
        rw [hm] at f1; cases f1
        obtain ⟨vs, h1, h2, _⟩ := s1.cell k c1 a f2 (e1.at q)
        rw [f3, e] at h2
        exact ⟨vs, .inl h1, h2⟩
      · simp [guards] at hk'
        subst hk'
        exact ⟨c, hm⟩
  | dv _ => cases e
theorem src_tup {m : Mem} {g : G} {H : Hp} {x : V} {v : Val} {ds : List PyData} (hf : ∀ xs, v ≠ .fr xs) (h : RpV K g H x v) (e : rd m v = some (.tuple ds)) :
    ∃ a xs, x = .ref a ∧ SqT K H a xs ∧ RpAll K g.F H xs ds ∧ guards [v] = [] := by
  cases v with
  | d y =>
    have e' : y = .tuple ds := Option.some.inj e
    subst e'
    cases h with
    | tup a b => exact ⟨_, _, rfl, a, b, rfl⟩
  | fr xs => exact absurd rfl (hf xs)
  | dv _ => cases e
  | mr k =>
    cases hm : m[k]? with
    | none => simp [rd, hm] at e
    | some c => simp [rd, hm] at e
theorem src_str {m : Mem} {g : G} {H : Hp} {x : V} {v : Val} {z : Str} (hf : ∀ xs, v ≠ .fr xs) (h : RpV K g H x v) (e : rd m v = some (.str z)) :
    x = .str z ∧ sOk z = true ∧ guards [v] = [] := by
  cases v with
  | d y =>
    have e' : y = .str z := Option.some.inj e
    subst e'
    cases h with
    | str _ b => exact ⟨rfl, b, rfl⟩
  | fr xs => exact absurd rfl (hf xs)
  | dv _ => cases e
  | mr k =>
    cases hm : m[k]? with
    | none => simp [rd, hm] at e
    | some c => simp [rd, hm] at e
theorem rd_len {m : Mem} {g : G} {H : Hp} {a : Addr} {xs : List V} (S : SimM K m g H) (h : Rd H a (.lst xs)) : xs.length ≤ sizeLine := by
  rcases h with h | ⟨o, h⟩
  · exact S.sz a xs (.inl h)
  · exact S.sz a xs (.inr (.inr (.inl ⟨o, h⟩)))
theorem sq_len {m : Mem} {g : G} {H : Hp} {a : Addr} {xs : List V} (S : SimM K m g H) (h : SqT K H a xs) : xs.length ≤ sizeLine := by
  rcases h with (h | ⟨o, h⟩) | ⟨o, its, n, _, _, _, h1, h2⟩
  · exact S.sz a xs (.inr (.inl h))
  · exact S.sz a xs (.inr (.inr (.inr ⟨o, h⟩)))
  · rw [h2.length]; simpa using h1
theorem walk_list {a : Addr} {ds : List PyData} {gs : List Nat} {m : Mem} {g : G} {H : Hp} (S : SimM K m g H) (h : SrcL K a ds gs m g H) (hr : same gs m m = true) : WalkOk K (Itl K a) ds gs m g H where
  len := by
    obtain ⟨xs, h1, h2⟩ := h m g H (Ext.refl _ H) S hr
    rw [← h2.length]; exact rd_len S h1
  go := fun i m1 g1 H1 e1 s1 sm hi => by
    obtain ⟨xs, h1, h2⟩ := h m1 g1 H1 e1 s1 sm
    obtain ⟨x, hx, _⟩ := h2.get (List.getElem?_eq_getElem hi)
    exact ⟨xs, x, .inl h1, hx⟩
  yld := fun i m1 g1 H1 x H' d e1 s1 sm hd hy => by
    obtain ⟨rfl, hy⟩ := hy
    obtain ⟨xs, h1, h2⟩ := h m1 g1 _ e1 s1 sm
    obtain ⟨y, hx, hr⟩ := h2.get hd
    have := hy xs (.inl h1)
    rw [hx] at this; cases this
    exact ⟨s1, Ext.refl _ _, hr⟩
  stop := fun i m1 g1 H1 e1 s1 sm hi => by
    obtain ⟨xs, h1, h2⟩ := h m1 g1 H1 e1 s1 sm
    exact ⟨xs, .inl h1, by rw [h2.length]; exact hi⟩
theorem walk_tup {a : Addr} {xs : List V} {ds : List PyData} {m : Mem} {g : G} {H : Hp} (S : SimM K m g H) (h : SqT K H a xs) (h2 : RpAll K g.F H xs ds) : WalkOk K (Itt K a) ds [] m g H where
  len := by rw [← h2.length]; exact sq_len S h
  go := fun i m1 g1 H1 e1 s1 sm hi => by
    obtain ⟨x, hx, _⟩ := h2.get (List.getElem?_eq_getElem hi)
    exact ⟨xs, x, SqT.ext e1 h, hx⟩
  yld := fun i m1 g1 H1 x H' d e1 s1 sm hd hy => by
    obtain ⟨rfl, hy⟩ := hy
    obtain ⟨y, hx, hr⟩ := h2.get hd
    have := hy xs (SqT.ext e1 h)
    rw [hx] at this; cases this
    exact ⟨s1, Ext.refl _ _, Rp.ext e1 _ hr⟩
  stop := fun i m1 g1 H1 e1 s1 sm hi => ⟨xs, SqT.ext e1 h, by rw [h2.length]; exact hi⟩
theorem walk_str {z : Str} {m : Mem} {g : G} {H : Hp} (hz : sOk z = true) : WalkOk K (Its z) (signs z) [] m g H where
  len := by
    have := sok_len hz
    unfold signs
    rw [List.length_map, Array.length_toList]; exact this
  go := fun i m1 g1 H1 e1 s1 sm hi => by
    show i < z.cps.size
    unfold signs at hi
    rw [List.length_map, Array.length_toList] at hi; exact hi
  yld := fun i m1 g1 H1 x H' d e1 s1 sm hd hy => by
    obtain ⟨rfl, c, hc, rfl⟩ := hy
    unfold signs at hd
    rw [List.getElem?_map, Array.getElem?_toList, hc] at hd
    simp at hd
    subst hd
    refine ⟨s1, Ext.refl _ _, .str _ (sok_one hz ?_)⟩
    exact List.mem_of_getElem? (by rw [Array.getElem?_toList]; exact hc)
  stop := fun i m1 g1 H1 e1 s1 sm hi => by
    show z.cps.size ≤ i
    unfold signs at hi
    rw [List.length_map, Array.length_toList] at hi; exact hi
theorem rangeD_len (lo : Int) : ∀ n, (rangeD lo n).length = n := by
  intro n
  induction n generalizing lo with
  | zero => rfl
  | succ n ih => simp [rangeD, ih]
theorem rangeD_get : ∀ (n : Nat) (lo : Int) (i : Nat), i < n → (rangeD lo n)[i]? = some (.int (lo + i))
  | 0, _, _, h => absurd h (Nat.not_lt_zero _)
  | n + 1, lo, 0, _ => by simp [rangeD]
  | n + 1, lo, i + 1, h => by
    simp only [rangeD, List.getElem?_cons_succ]
    rw [rangeD_get n (lo + 1) i (by omega)]
    congr 2
    push_cast
    omega
theorem walk_range {lo : Int} {n : Nat} {m : Mem} {g : G} {H : Hp} (hn : n ≤ sizeLine) : WalkOk K (Itr lo n) (rangeD lo n) [] m g H where
  len := by rw [rangeD_len]; exact hn
  go := fun i m1 g1 H1 e1 s1 sm hi => by
    rw [rangeD_len] at hi; exact hi
  yld := fun i m1 g1 H1 x H' d e1 s1 sm hd hy => by
    obtain ⟨rfl, rfl⟩ := hy
    have hi : i < n := by
      have := (List.getElem?_eq_some_iff.mp hd).1
      rw [rangeD_len] at this; exact this
    rw [rangeD_get n lo i hi] at hd
    cases hd
    exact ⟨s1, Ext.refl _ _, .int _⟩
  stop := fun i m1 g1 H1 e1 s1 sm hi => by
    rw [rangeD_len] at hi; exact hi
theorem zipD_get : ∀ (xs ys : List PyData) (i : Nat) (d : PyData), (zipD xs ys)[i]? = some d → ∃ x y, xs[i]? = some x ∧ ys[i]? = some y ∧ d = .tuple [x, y]
  | [], _, _, _, h => by simp [zipD] at h
  | _ :: _, [], _, _, h => by simp [zipD] at h
  | x :: xs, y :: ys, 0, d, h => by
    simp [zipD] at h
    exact ⟨x, y, rfl, rfl, h.symm⟩
  | x :: xs, y :: ys, i + 1, d, h => by
    simp only [zipD, List.getElem?_cons_succ] at h
    obtain ⟨a, b, h1, h2, h3⟩ := zipD_get xs ys i d h
    exact ⟨a, b, by simpa using h1, by simpa using h2, h3⟩
theorem zipD_len : ∀ (xs ys : List PyData), (zipD xs ys).length = min xs.length ys.length
  | [], ys => by simp [zipD]
  | _ :: _, [] => by simp [zipD]
  | x :: xs, y :: ys => by
    simp only [zipD, List.length_cons, zipD_len xs ys]; omega
theorem same_app {gs gs' : List Nat} {m m' : Mem} (h : same (gs ++ gs') m m' = true) : same gs m m' = true ∧ same gs' m m' = true :=
  ⟨same_of fun k hk => same_at h (List.mem_append_left _ hk), same_of fun k hk => same_at h (List.mem_append_right _ hk)⟩
theorem walk_zip {a b : Addr} {ds es : List PyData} {gs gs' : List Nat} {m : Mem} {g : G} {H : Hp} (S : SimM K m g H) (h : SrcL K a ds gs m g H) (h' : SrcL K b es gs' m g H) (hr : same (gs ++ gs') m m = true) :
    WalkOk K (Itz K a b) (zipD ds es) (gs ++ gs') m g H where
  len := by
    obtain ⟨xs, h1, h2⟩ := h m g H (Ext.refl _ H) S (same_app hr).1
    have := rd_len S h1
    rw [h2.length] at this
    rw [zipD_len]; omega
  go := fun i m1 g1 H1 e1 s1 sm hi => by
    obtain ⟨xs, h1, h2⟩ := h m1 g1 H1 e1 s1 (same_app sm).1
    obtain ⟨ys, h3, h4⟩ := h' m1 g1 H1 e1 s1 (same_app sm).2
    rw [zipD_len] at hi
    obtain ⟨x, hx, _⟩ := h2.get (List.getElem?_eq_getElem (show i < ds.length by omega))
    obtain ⟨y, hy, _⟩ := h4.get (List.getElem?_eq_getElem (show i < es.length by omega))
    exact ⟨xs, ys, x, y, .inl h1, .inl h3, hx, hy⟩
  yld := fun i m1 g1 H1 x H' d e1 s1 sm hd hy => by
    obtain ⟨T, x1, y1, rfl, nT, rfl, f1, f2⟩ := hy
    obtain ⟨xs, h1, h2⟩ := h m1 g1 H1 e1 s1 (same_app sm).1
    obtain ⟨ys, h3, h4⟩ := h' m1 g1 H1 e1 s1 (same_app sm).2
    obtain ⟨dx, dy, k1, k2, rfl⟩ := zipD_get ds es i d hd
    obtain ⟨x, hx, rx⟩ := h2.get k1
    obtain ⟨y, hy, ry⟩ := h4.get k2
    have q1 := f1 xs (.inl h1)
    have q2 := f2 ys (.inl h3)
    rw [hx] at q1; cases q1
    rw [hy] at q2; cases q2
    obtain ⟨a1, a2, a3⟩ := new_tup s1 nT (.cons rx (.cons ry .nil)) (by rw [sizeLine_eq]; show 2 ≤ 16777216; decide)
    exact ⟨a1, a2, a3⟩
  stop := fun i m1 g1 H1 e1 s1 sm hi => by
    obtain ⟨xs, h1, h2⟩ := h m1 g1 H1 e1 s1 (same_app sm).1
    obtain ⟨ys, h3, h4⟩ := h' m1 g1 H1 e1 s1 (same_app sm).2
    rw [zipD_len] at hi
    exact ⟨xs, ys, .inl h1, .inl h3, by rw [h2.length, h4.length]; omega⟩
theorem walk_zipT {a b : Addr} {xs ys : List V} {ds es : List PyData} {m : Mem} {g : G} {H : Hp} (S : SimM K m g H) (h : SqT K H a xs) (h2 : RpAll K g.F H xs ds) (h' : SqT K H b ys) (h4 : RpAll K g.F H ys es) :
    WalkOk K (RZ.ItzT K a b) (zipD ds es) [] m g H where
  len := by
    have := sq_len S h
    rw [h2.length] at this
    rw [zipD_len]; omega
  go := fun i m1 g1 H1 e1 s1 sm hi => by
    rw [zipD_len] at hi
    obtain ⟨x, hx, _⟩ := h2.get (List.getElem?_eq_getElem (show i < ds.length by omega))
    obtain ⟨y, hy, _⟩ := h4.get (List.getElem?_eq_getElem (show i < es.length by omega))
    exact ⟨xs, ys, x, y, SqT.ext e1 h, SqT.ext e1 h', hx, hy⟩
  yld := fun i m1 g1 H1 x H' d e1 s1 sm hd hy => by
    obtain ⟨T, x1, y1, rfl, nT, rfl, f1, f2⟩ := hy
    obtain ⟨dx, dy, k1, k2, rfl⟩ := zipD_get ds es i d hd
    obtain ⟨x, hx, rx⟩ := h2.get k1
    obtain ⟨y, hy, ry⟩ := h4.get k2
    have q1 := f1 xs (SqT.ext e1 h)
    have q2 := f2 ys (SqT.ext e1 h')
    rw [hx] at q1; cases q1
    rw [hy] at q2; cases q2
    obtain ⟨a1, a2, a3⟩ := new_tup s1 nT (.cons (Rp.ext e1 _ rx) (.cons (Rp.ext e1 _ ry) .nil)) (by rw [sizeLine_eq]; show 2 ≤ 16777216; decide)
    exact ⟨a1, a2, a3⟩
  stop := fun i m1 g1 H1 e1 s1 sm hi => by
    rw [zipD_len] at hi
    exact ⟨xs, ys, SqT.ext e1 h, SqT.ext e1 h', by rw [h2.length, h4.length]; omega⟩
theorem enumD_get : ∀ (n : Nat) (xs : List PyData) (i : Nat) (d : PyData), (enumD n xs)[i]? = some d → ∃ x, xs[i]? = some x ∧ d = .tuple [.int ((n + i : Nat) : Int), x]
  | _, [], _, _, h => by simp [enumD] at h
  | n, x :: xs, 0, d, h => by
    simp [enumD] at h
    exact ⟨x, rfl, by rw [← h]; simp⟩
  | n, x :: xs, i + 1, d, h => by
    simp only [enumD, List.getElem?_cons_succ] at h
    obtain ⟨a, h1, h3⟩ := enumD_get (n + 1) xs i d h
    exact ⟨a, by simpa using h1, by rw [h3]; congr 3; omega⟩
theorem enumD_len : ∀ (n : Nat) (xs : List PyData), (enumD n xs).length = xs.length
  | _, [] => rfl
  | n, x :: xs => by simp [enumD, enumD_len (n + 1) xs]
theorem walk_enum {a : Addr} {ds : List PyData} {gs : List Nat} {m : Mem} {g : G} {H : Hp} (S : SimM K m g H) (h : SrcL K a ds gs m g H) (hr : same gs m m = true) : WalkOk K (Ite K a) (enumD 0 ds) gs m g H where
  len := by
    obtain ⟨xs, h1, h2⟩ := h m g H (Ext.refl _ H) S hr
    rw [enumD_len, ← h2.length]; exact rd_len S h1
  go := fun i m1 g1 H1 e1 s1 sm hi => by
    obtain ⟨xs, h1, h2⟩ := h m1 g1 H1 e1 s1 sm
    rw [enumD_len] at hi
    obtain ⟨x, hx, _⟩ := h2.get (List.getElem?_eq_getElem hi)
    exact ⟨xs, x, .inl h1, hx⟩
  yld := fun i m1 g1 H1 x H' d e1 s1 sm hd hy => by
    obtain ⟨T, x1, rfl, nT, rfl, f1⟩ := hy
    obtain ⟨xs, h1, h2⟩ := h m1 g1 H1 e1 s1 sm
    obtain ⟨dx, k1, rfl⟩ := enumD_get 0 ds i d hd
    obtain ⟨x, hx, rx⟩ := h2.get k1
    have q1 := f1 xs (.inl h1)
    rw [hx] at q1; cases q1
    rw [Nat.zero_add]
    obtain ⟨a1, a2, a3⟩ := new_tup s1 nT (.cons (.int _) (.cons rx .nil)) (by rw [sizeLine_eq]; show 2 ≤ 16777216; decide)
    exact ⟨a1, a2, a3⟩
  stop := fun i m1 g1 H1 e1 s1 sm hi => by
    obtain ⟨xs, h1, h2⟩ := h m1 g1 H1 e1 s1 sm
    rw [enumD_len] at hi
    exact ⟨xs, .inl h1, by rw [h2.length]; exact hi⟩
end
end Ra


set_option Elab.async false
set_option linter.all false
set_option autoImplicit false
set_option maxRecDepth 100000
/-! enumerate(a tuple) -/
namespace Ra
open PySem PySem.Spec PyProof.Rows L2
section
variable {prog : Program} {w : World} {A : Around} {E : Value → Shared → Prop} {s : Shared}
set_option maxHeartbeats 1000000 in
theorem en_new {v : Value} {o : Obj} {HH : Heap → Prop} (B : Begins v o HH) :
    Meets (Builtin.«enumerate.__new__» ⟨[.type "enumerate", v], []⟩) (fun _ R s => HH s.heap ∧
      R (.ok (.ret (.ref (s.heap.push o).objs.size))) { s with heap := (s.heap.push o).push { cls := .type "enumerate", data := .fields #[.none, .bool false, .ref s.heap.objs.size, rawInt 0, .none, .none] } }) :=
  .of_wp fun prog w A R s h => by
    obtain ⟨hp, gg, dd, tk, os⟩ := s
    obtain ⟨k1, k2⟩ := h
    have hsub := sub_enumerate
    have go : ∀ {A' : Around} {E : Value → Shared → Prop} {Q : Value → Shared → Prop}, Q (.ref hp.objs.size) ⟨hp.push o, gg, dd, tk, os⟩ → wpAny (model prog w) A' (pyIter v) Q E ⟨hp, gg, dd, tk, os⟩ := fun q => B.iter _ _ _ _ _ _ k1 q
    wp_walk using go
    refine wpAny_stack_any fun st => wpAny_pure ?_
    split
    · rename_i c _ _ _ _ _
      by_cases hc : (c == Value.type "enumerate") = true
      · rw [hc]
        wp_walk using go
        exact ⟨_, rfl, k2⟩
      · rw [Bool.eq_false_iff.mpr hc]
        wp_walk using go
        exact ⟨_, rfl, k2⟩
    · wp_walk using go
      exact ⟨_, rfl, k2⟩
theorem en_call {l : Addr} {items : Array Value} {Q : Value → Shared → Prop} (hL : s.heap.IsTuple l items)
    (h : ∀ h', IsEnum h' (s.heap.objs.size + 1) s.heap.objs.size 0 .none → h'.IsTupleIter s.heap.objs.size l 0 → (∀ b o, s.heap.get? b = some o → h'.get? b = some o) → Q (.ref (s.heap.objs.size + 1)) { s with heap := h' }) :
    wpAny (model prog w) A (call (.type "enumerate") [.ref l]) Q E s := by
  refine callType_new F.called_enumerate (by decide) (F.typeCall_enumerate_1 _) (F.newCall_enumerate_1 _) (fun obj => F.args_object_init_2 obj _) F.entry_enumerate_new (en_new (begins_tuple l items)) ⟨hL, ?_⟩
  generalize hO : ({ cls := .type "tuple_iterator", data := .fields #[.ref l, .int 0 0] } : Obj) = oi
  have hz : (s.heap.push oi).objs.size = s.heap.objs.size + 1 := Heap.size_push ..
  show _ ∧ _
  rw [hz]
  generalize hP : ({ cls := .type "enumerate", data := .fields #[.none, .bool false, .ref s.heap.objs.size, rawInt 0, .none, .none] } : Obj) = oe
  have fO : oi.isFreed = false := by rw [← hO]; rfl
  have fP : oe.isFreed = false := by rw [← hP]; rfl
  have he : ((s.heap.push oi).push oe).get? (s.heap.objs.size + 1) = some oe := by
    have := Heap.get?_push_size (s.heap.push oi) (o := oe) fP
    rwa [hz] at this
  have hi : ((s.heap.push oi).push oe).get? s.heap.objs.size = some oi := Heap.get?_push_of_some _ (Heap.get?_push_size _ fO)
  refine ⟨⟨oe, he, by rw [← hP]⟩, h _ (by rw [← hP] at he ⊢; exact he) ⟨oi, hi, by rw [← hO], by rw [← hO]; rfl⟩ fun b o x => Heap.get?_push_of_some _ (Heap.get?_push_of_some _ x)⟩
theorem en_end {e it l : Addr} {i : Nat} {k : Int} {items : Array Value} {old : Value} {Q : Option Value → Shared → Prop} (hh : A.handled = none) (he : IsEnum s.heap e it k old) (hit : s.heap.IsTupleIter it l i) (hl : s.heap.IsTuple l items) (hle : items.size ≤ i)
    (hQ : ∀ h', Heap.ExtBut it s.heap h' → Q none { s with heap := h' }) : wpAny (model prog w) A (pyNext (.ref e)) Q E s := by
  have hT : s.TypeIs (.ref e) "enumerate" := ⟨_, he, rfl⟩
  unfold pyNext
  refine wpAny_bind (wpAny_attempt (wpAny_callSpecial?_slot (name := Str.ofString "__next__") hT F.slot_enumerate_next (wpAny_call_entry F.slot_enumerate_next hT F.entry_enumerate_next ?_ (F.args_enumerate_next_1 _))))
  show wpAny _ _ (field (.ref e) 2 >>= _) _ _ _
  refine wpAny_bind (wpAny_field he rfl (x := .ref it) rfl (wpAny_bind (wpAny_nextOf_tuple_end (A := A.in1) hh hit hl (Array.getElem?_eq_none hle) fun h' x he' hx' => ?_)))
  obtain ⟨o, ho, hc⟩ := hx'
  exact wpAny_bind (wpAny_isInstance (T := "StopIteration") (b := true) ⟨o, ho, hc⟩ isSubtype_stop (wpAny_pure (hQ _ he')))
end
/-- the tuple at a as it stands at each turn, the items in new pairs -/
def ItE (K : PySem.W.Frag) (a : Addr) : It :=
  ⟨fun i H => ∃ xs x, SqT K H a xs ∧ xs[i]? = some x,
    fun i H v H' => ∃ T x, v = .ref T ∧ H T = none ∧ H' = upd H T (.tup [.int (i : Nat), x]) ∧ ∀ xs, SqT K H a xs → xs[i]? = some x,
    fun i H => ∃ xs, SqT K H a xs ∧ xs.length ≤ i⟩
theorem en_turn {P : Program} {w : World} {K : PySem.W.Frag} {elts : List Expr} {kk : Nat} {tpos : Pos} (a e it : Addr) :
    Turn P w K (.Tuple elts kk tpos) (ItE K a) [e, it] e (fun i h => (∃ old, IsEnum h e it ((i : Nat) : Int) old) ∧ h.IsTupleIter it a i ∧ e ≠ it ∧ a ≠ it ∧ a ≠ e) where
  mem := by simp
  obj := fun i h st b hb => by
    obtain ⟨⟨old, he⟩, ⟨o, ho, hc, hd⟩, _⟩ := st
    simp only [List.mem_cons, List.not_mem_nil, or_false] at hb
    rcases hb with rfl | rfl
    · exact ⟨_, he, fun v q => nomatch q⟩
    · exact ⟨o, ho, fun v q => by rw [hd] at q; cases q⟩
  keep := fun i h h' st k => by
    obtain ⟨⟨old, he⟩, hi, hne⟩ := st
    exact ⟨⟨old, k e (by simp) _ he⟩, hi.at fun o q => k it (by simp) o q, hne⟩
  item := by
    intro X hP hw hK hc i pins s σ H E I hf st hg
    subst hP hw hK
    obtain ⟨⟨old, he⟩, hit, n1, n2, n3⟩ := st
    obtain ⟨xs, x, hq, hx⟩ := hg
    obtain ⟨its, rv, p, hz⟩ := I.tuple hq
    have ht : s.heap.IsTuple a its.toArray := p
    obtain ⟨u, hu, ru⟩ := rv.get hx
    have hel : e < s.heap.objs.size := Heap.lt_size he
    have hil : it < s.heap.objs.size := by obtain ⟨_, q, _⟩ := hit; exact Heap.lt_size q
    have hlt : i < its.toArray.size := by
      have := (List.getElem?_eq_some_iff.mp hu).1
      simpa using this
    have hD := Draws.tuple (prog := X.prog) (w := X.w) (A := X.A.in1) (I.ok.hd hc) it a n2 its.toArray
    refine wpAny_pyNext_enum_itemD hD he ⟨hit, ht⟩ hlt n1 (by
      simp only [List.mem_cons, List.not_mem_nil, or_false]
      rintro (z | z)
      · exact n1 z
      · exact n3 z.symm) fun y h' tk hy ho hst hT hsz hk => ?_
    have ey : y = u := by
      have q : its.toArray[i]? = some y := hy
      rw [List.getElem?_toArray, hu] at q
      exact (Option.some.inj q).symm
    subst ey
    refine ⟨_, rfl, wpAny_letOwnedTupleGo_enum (s := { s with heap := h', toks := tk + 1 }) ho fun h'' he' sb => ?_⟩
    have hT2 : h''.get? s.heap.objs.size = some { cls := .type "tuple", data := .seq #[.int i tk, y] } := (sb.2 _ (Nat.ne_of_gt hel)).trans hT
    have new : ObjOk X.prog X.w (upd H s.heap.objs.size (.tup [.int (i : Nat), x])) h'' s.heap.objs.size (.tup [.int (i : Nat), x]) :=
      ⟨by show 2 ≤ sizeLine; decide, [.int i tk, y], .cons ⟨_, rfl⟩ (.cons ru .nil), ⟨_, hT2, rfl, _, rfl⟩⟩
    have keep : ∀ b ob, b ∉ [e, it] → s.heap.get? b = some ob → h''.get? b = some ob := fun b ob hb q => by
      simp only [List.mem_cons, List.not_mem_nil, or_false, not_or] at hb
      exact (sb.2 b hb.1).trans (hk b ob hb.1 hb.2 q)
    have J := I.turnedNew (t' := tk + 1) (ch := [e, it]) keep hf (Nat.le_refl _) new
    refine ⟨.ref s.heap.objs.size, _, J, rfl, ⟨_, x, rfl, I.hok.fresh (Nat.le_refl _), rfl, fun ys hy => by rw [I.tuple_inj hy hq]; exact hx⟩, ⟨⟨y, ?_⟩, hst.1.at fun o q => (sb.2 it (Ne.symm n1)).trans q, n1, n2, n3⟩, fun b hb => ?_⟩
    · have e1 : ((i + 1 : Nat) : Int) = (i : Int) + 1 := by omega
      rw [e1]; exact he'
    · have hb' : b < s.heap.objs.size := by
        simp only [List.mem_cons, List.not_mem_nil, or_false] at hb
        rcases hb with rfl | rfl <;> assumption
      rw [upd_ne (Nat.ne_of_lt hb')]
      exact (hf b hb).1
  done := by
    intro X hP hw hK hc i pins s σ H E I hf st hg
    subst hP hw hK
    obtain ⟨⟨old, he⟩, hit, n1, n2, n3⟩ := st
    obtain ⟨xs, hq, hx⟩ := hg
    obtain ⟨its, rv, p, hz⟩ := I.tuple hq
    have ht : s.heap.IsTuple a its.toArray := p
    obtain ⟨f0, f1, f2, f3, f4, f5⟩ := hf it (by simp)
    have hle : its.toArray.size ≤ i := by
      have := rv.length
      simp only [List.size_toArray]
      omega
    exact en_end (I.ok.hd hc) he hit ht hle fun h' eb => ⟨rfl, I.turned (t' := s.toks) (fun b o hb q => eb b o hb q) f0 f1 f3 f4 f5⟩
  self := fun A i s Q E st h => by
    obtain ⟨⟨_, he⟩, _⟩ := st
    exact wpAny_pyIter_enum he h
theorem walk_enT {K : PySem.W.Frag} {a : Addr} {xs : List V} {ds : List PyData} {m : Mem} {g : G} {H : Hp} (S : SimM K m g H) (h : SqT K H a xs) (hr : RpAll K g.F H xs ds) : WalkOk K (ItE K a) (enumD 0 ds) [] m g H where
  len := by rw [enumD_len, ← hr.length]; exact sq_len S h
  go := fun i m1 g1 H1 e1 s1 sm hi => by
    rw [enumD_len] at hi
    obtain ⟨x, hx, _⟩ := hr.get (List.getElem?_eq_getElem hi)
    exact ⟨xs, x, SqT.ext e1 h, hx⟩
  yld := fun i m1 g1 H1 x H' d e1 s1 sm hd hy => by
    obtain ⟨T, x1, rfl, nT, rfl, f1⟩ := hy
    obtain ⟨dx, k1, rfl⟩ := enumD_get 0 ds i d hd
    obtain ⟨x, hx, rx⟩ := (RpAll.ext e1 _ hr).get k1
    have q1 := f1 xs (SqT.ext e1 h)
    rw [hx] at q1; cases q1
    rw [Nat.zero_add]
    obtain ⟨a1, a2, a3⟩ := new_tup s1 nT (.cons (.int _) (.cons rx .nil)) (by rw [sizeLine_eq]; show 2 ≤ 16777216; decide)
    exact ⟨a1, a2, a3⟩
  stop := fun i m1 g1 H1 e1 s1 sm hi => by
    rw [enumD_len] at hi
    exact ⟨xs, SqT.ext e1 h, by rw [hr.length]; exact hi⟩
def iEnT (K : PySem.W.Frag) (ta : TA) : TI := fun σ H R => ta σ H fun vs H1 => ∃ a xs, vs = [.ref a] ∧ SqT K H1 a xs ∧ R (ItE K a) H1
theorem pi_enT {X : Cx} {e : Expr} {ta : TA} {p pos tpos : Pos} {elts : List Expr} {kk : Nat} (hg : Gl X "enumerate") (hm : X.mg "enumerate" = none) (ha : PA X [e] ta) (hs : starEach [e] X.env = [(false, eval e X.env)]) :
    PI X (.Tuple elts kk tpos) (.Call (.Name "enumerate" p) [e] [] pos) (iEnT X.K ta) := by
  refine ⟨fun pins s σ H R I h => ?_⟩
  refine Call_ (ld_blt I hg hm boot_enumerate (PyProof.Rows.callWith_type1 (thn (ha.run pos pins s σ H _ I h) fun us s1 ⟨vs, H1, I1, r1, q1⟩ => ?_) hs rfl))
  obtain ⟨a, xs, rfl, hq, q⟩ := q1
  rw [Vals.ref1 r1]
  obtain ⟨its, rv, p', hz⟩ := I1.tuple hq
  have ht : s1.heap.IsTuple a its.toArray := p'
  have hlt : a < s1.heap.objs.size := by
    obtain ⟨o, ho, _⟩ := ht
    exact Heap.lt_size ho
  refine en_call ht fun h' he hit hk => wpAny_pyIter_enum he ?_
  have I2 : Inv X pins σ H1 { s1 with heap := h' } := I1.kept (t' := s1.toks) hk
  refine ⟨s1.heap.objs.size + 1, [s1.heap.objs.size + 1, s1.heap.objs.size], _, _, H1, rfl, I2, en_turn a (s1.heap.objs.size + 1) s1.heap.objs.size, ⟨⟨.none, he⟩, hit, Nat.succ_ne_self _, Nat.ne_of_lt hlt, Nat.ne_of_lt (Nat.lt_succ_of_lt hlt)⟩, fun b hb => ?_, q⟩
  have hle : s1.heap.objs.size ≤ b := by
    simp only [List.mem_cons, List.not_mem_nil, or_false] at hb
    rcases hb with rfl | rfl
    · exact Nat.le_succ _
    · exact Nat.le_refl _
  exact I1.fpOk hle (I1.hok.fresh hle)
end Ra


set_option Elab.async false
set_option linter.all false
set_option autoImplicit false
set_option maxRecDepth 100000
/-! what is walked, as an expression; comprehensions; loops -/
namespace Ra
open PySem PySem.Spec PyProof.Rows L2
section
variable {X : Cx} {tg e : Expr} {es : List Expr} {p : P} {ps : List P} {pos : Pos}
theorem srcR_one {K : PySem.W.Frag} {k : Sk} {env : Env} {m : Mem} {g : G} {H : Hp} {Q : (List PyData × List Nat) → Mem → G → Hp → Prop} (h : Rz K (srcR k [p] env m) g H Q) :
    Rz K (p.v env m) g H fun v m1 g1 H1 => ∃ x is, rd m1 v.nf = some x ∧ walk k [x] = some is ∧ Rz K (.ok (is, guards [v.nf]) m1) g1 H1 Q := by
  unfold srcR at h
  simp only [cArgs] at h
  cases hv : p.v env m with
  | fail => rw [hv] at h; exact h.elim
  | exc a b => rw [hv] at h; exact h.elim
  | ok v m1 =>
    rw [hv] at h
    simp only [Res.bind_ok] at h
    intro g1 H1 e1 s1
    obtain ⟨xs, hx, h2⟩ := Rz.optBind (h.ext e1)
    obtain ⟨is, hi, h3⟩ := Rz.optBind h2
    clear h h2
    simp only [lookAll] at hx
    cases hr : rd m1 v.nf with
    | none => rw [hr] at hx; cases hx
    | some x =>
      rw [hr] at hx
      cases hx
      exact ⟨x, is, rfl, hi, h3⟩
theorem pi_seqR (ha : PE X e (tE X.K p.v)) : PI X tg e (iS X.K (srcR .seq [p])) := by
  refine PI.weak (PI.or (pi_list ha) (PI.or (pi_tup ha) (pi_str ha))) fun σ H R ⟨env, m, g, hs, hm, hz⟩ => ?_
  have hz' := srcR_one hz
  cases hv : p.v env m with
  | fail => rw [hv] at hz'; exact hz'.elim
  | exc a b => rw [hv] at hz'; exact hz'.elim
  | ok v m1 =>
    rw [hv] at hz'
    by_cases hd : ∃ x, rd m1 v.nf = some x
    · obtain ⟨d, hd⟩ := hd
      cases d with
      | list ds =>
        refine .inl ⟨env, m, g, hs, hm, ?_⟩
        rw [hv]
        intro g1 H1 e1 s1 x rx
        obtain ⟨y, is, h1, h2, h3⟩ := hz' g1 H1 e1 s1
        rw [hd] at h1; cases h1
        cases h2
        obtain ⟨g2, s2, e2, r2⟩ := s1.hold rx
        obtain ⟨a, rfl, h4, h5⟩ := src_list s2 (nf_ne v) r2 hd
        obtain ⟨xs, h6, _⟩ := h4 m1 g2 H1 (Ext.refl _ _) s2 h5
        exact ⟨a, rfl, ⟨xs, .inl h6⟩, Rz.ok_now (h3.ext e2) s2 _ (walk_list s2 h4 h5) h5⟩
      | tuple ds =>
        refine .inr (.inl ⟨env, m, g, hs, hm, ?_⟩)
        rw [hv]
        intro g1 H1 e1 s1 x rx
        obtain ⟨y, is, h1, h2, h3⟩ := hz' g1 H1 e1 s1
        rw [hd] at h1; cases h1
        cases h2
        obtain ⟨g2, s2, e2, r2⟩ := s1.hold rx
        obtain ⟨a, xs, rfl, h4, h5, h6⟩ := src_tup (nf_ne v) r2 hd
        rw [h6] at h3
        exact ⟨a, rfl, ⟨xs, h4⟩, Rz.ok_now (h3.ext e2) s2 _ (walk_tup s2 h4 h5) rfl⟩
      | str z =>
        refine .inr (.inr ⟨env, m, g, hs, hm, ?_⟩)
        rw [hv]
        intro g1 H1 e1 s1 x rx
        obtain ⟨y, is, h1, h2, h3⟩ := hz' g1 H1 e1 s1
        rw [hd] at h1; cases h1
        cases h2
        obtain ⟨g2, s2, e2, r2⟩ := s1.hold rx
        obtain ⟨rfl, h5, h6⟩ := src_str (nf_ne v) r2 hd
        rw [h6] at h3
        exact ⟨z, rfl, Rz.ok_now (h3.ext e2) s2 _ (walk_str h5) rfl⟩
      | none | bool _ | int _ | dict _ =>
        refine .inl ⟨env, m, g, hs, hm, ?_⟩
        rw [hv]
        intro g1 H1 e1 s1 x rx
        obtain ⟨y, is, h1, h2, h3⟩ := hz' g1 H1 e1 s1
        rw [hd] at h1; cases h1
        cases h2
    · refine .inl ⟨env, m, g, hs, hm, ?_⟩
      rw [hv]
      intro g1 H1 e1 s1 x rx
      obtain ⟨y, is, h1, _⟩ := hz' g1 H1 e1 s1
      exact absurd ⟨y, h1⟩ hd
theorem guards_d {m : Mem} {i : Int} {v : Val} (h : rd m v = some (.int i)) (hf : ∀ xs, v ≠ .fr xs) : guards [v] = [] := by
  cases v with
  | d _ => rfl
  | fr xs => exact absurd rfl (hf xs)
  | dv _ => cases h
  | mr k =>
    cases hm : m[k]? with
    | none => simp [rd, hm] at h
    | some c => simp [rd, hm] at h
theorem pi_rangeR {q : Pos} (hg : Gl X "range") (hm : X.mg "range" = none) (ha : PE X e (tE X.K p.v)) (ns : notStar e = true) : PI X tg (.Call (.Name "range" q) [e] [] pos) (iS X.K (srcR .range [p])) := by
  refine PI.weak (pi_range1 hg hm (pa_cons ha pa_nil (star1 ns _ _)) (by rw [star1 ns]; rfl)) fun σ H R ⟨env, m, g, hs, hm, hz⟩ => ?_
  refine ⟨env, m, g, hs, hm, (srcR_one hz).mono fun v m1 g1 H1 e1 s1 ⟨d, is, h1, h2, h3⟩ x rx => ?_⟩
  obtain ⟨g2, s2, e2, r2⟩ := s1.hold rx
  unfold walk at h2
  split at h2 <;> first | contradiction | skip
  rename_i n heq1 heq2
  have hd : d = .int n := by simpa using heq2
  subst hd
  split at h2
  · rename_i hb
    cases h2
    have ex := (s2.read (nf_ne v) r2 h1).int
    subst ex
    rw [guards_d h1 (nf_ne v)] at h3
    refine ⟨n, rfl, by omega, by omega, Rz.ok_now (h3.ext e2) s2 _ (walk_range ?_) rfl⟩
    rw [sizeLine_eq]; omega
  · cases h2
theorem cArgs_two {K : PySem.W.Frag} {p p' : P} {env : Env} {m : Mem} {g : G} {H : Hp} {k : Sk} {Q : (List PyData × List Nat) → Mem → G → Hp → Prop} (h : Rz K (srcR k [p, p'] env m) g H Q) :
    Rz K (cArgs [p, p'] env m) g H fun vs m1 g1 H1 => ∃ v v' x y is, vs = [v, v'] ∧ rd m1 v = some x ∧ rd m1 v' = some y ∧ walk k [x, y] = some is ∧ Rz K (.ok (is, guards [v, v']) m1) g1 H1 Q := by
  unfold srcR at h
  cases hv : cArgs [p, p'] env m with
  | fail => rw [hv] at h; exact h.elim
  | exc a b => rw [hv] at h; exact h.elim
  | ok vs m1 =>
    rw [hv] at h
    simp only [Res.bind_ok] at h
    intro g1 H1 e1 s1
    obtain ⟨xs, hx, h2⟩ := Rz.optBind (h.ext e1)
    obtain ⟨is, hi, h3⟩ := Rz.optBind h2
    clear h h2
    have hvs : ∃ v v', vs = [v, v'] := by
      simp only [cArgs] at hv
      cases h1 : p.v env m with
      | fail => rw [h1] at hv; simp at hv
      | exc a b => rw [h1] at hv; simp at hv
      | ok a b =>
        rw [h1] at hv; simp only [Res.bind_ok] at hv
        cases h2 : p'.v env b with
        | fail => rw [h2] at hv; simp at hv
        | exc a b => rw [h2] at hv; simp at hv
        | ok c d =>
          rw [h2] at hv; simp only [Res.bind_ok, Res.ok.injEq] at hv
          exact ⟨_, _, hv.1.symm⟩
    obtain ⟨v, v', rfl⟩ := hvs
    simp only [lookAll] at hx
    cases hr : rd m1 v with
    | none => rw [hr] at hx; simp at hx
    | some x =>
      cases hr' : rd m1 v' with
      | none => rw [hr, hr'] at hx; simp at hx
      | some y =>
        rw [hr, hr'] at hx
        simp at hx
        subst hx
        exact ⟨v, v', x, y, is, rfl, hr, hr', hi, h3⟩
theorem guards_app (v v' : Val) : guards [v, v'] = guards [v] ++ guards [v'] := by
  cases v <;> rfl
theorem pi_zipR {e' : Expr} {p' : P} {q tpos : Pos} {elts : List Expr} {kk : Nat} (hg : Gl X "zip") (hm : X.mg "zip" = none) (ha : PE X e (tE X.K p.v)) (hb : PE X e' (tE X.K p'.v)) (ns : notStar e = true) (ns' : notStar e' = true) :
    PI X (.Tuple elts kk tpos) (.Call (.Name "zip" q) [e, e'] [] pos) (iS X.K (srcR .zip [p, p'])) := by
  refine PI.weak (RZ.pi_zipA hg hm (pa_args_cons ha (pa_args_cons hb pa_args_nil ns') ns) (star1 ns _ _) (star_plain _ _ _ (by simp [ns']))) fun σ H R ⟨env, m, g, hs, hm, hz⟩ => ?_
  refine ⟨env, m, g, hs, hm, (cArgs_two hz).mono fun vs m1 g1 H1 e1 s1 hq xs rxs => ?_⟩
  obtain ⟨v, v', x, y, is, rfl, h1, h2, h3, h4⟩ := hq
  cases rxs with
  | cons r hf t =>
    cases t with
    | cons r' hf' t' =>
      cases t'
      unfold walk at h3
      split at h3 <;> first | contradiction | skip
      · rename_i ds es heq1 heq2
        obtain ⟨rfl, rfl⟩ : x = .list ds ∧ y = .list es := by simpa using heq2
        cases h3
        obtain ⟨a, rfl, k1, k2⟩ := src_list s1 hf r h1
        obtain ⟨b, rfl, k3, k4⟩ := src_list s1 hf' r' h2
        have hr : same (guards [v] ++ guards [v']) m1 m1 = true := same_of fun k hk => by
          rcases List.mem_append.mp hk with hk | hk
          · exact same_at k2 hk
          · exact same_at k4 hk
        obtain ⟨xs, k5, _⟩ := k1 m1 g1 H1 (Ext.refl _ _) s1 k2
        obtain ⟨ys, k6, _⟩ := k3 m1 g1 H1 (Ext.refl _ _) s1 k4
        rw [guards_app] at h4
        exact ⟨a, b, xs, ys, rfl, .inl ⟨.inl k5, .inl k6, Rz.ok_now h4 s1 _ (walk_zip s1 k1 k3 hr) hr⟩⟩
      · rename_i ds es heq1 heq2
        obtain ⟨rfl, rfl⟩ : x = .tuple ds ∧ y = .tuple es := by simpa using heq2
        cases h3
        obtain ⟨a, xs, rfl, k1, k2, k3⟩ := src_tup hf r h1
        obtain ⟨b, ys, rfl, k4, k5, k6⟩ := src_tup hf' r' h2
        rw [guards_app, k3, k6] at h4
        exact ⟨a, b, xs, ys, rfl, .inr ⟨k1, k4, Rz.ok_now h4 s1 _ (walk_zipT s1 k1 k2 k4 k5) rfl⟩⟩
theorem pi_enumR {q tpos : Pos} {elts : List Expr} {kk : Nat} (hg : Gl X "enumerate") (hm : X.mg "enumerate" = none) (ha : PE X e (tE X.K p.v)) (ns : notStar e = true) :
    PI X (.Tuple elts kk tpos) (.Call (.Name "enumerate" q) [e] [] pos) (iS X.K (srcR .enum [p])) := by
  have hst : starEach [e] X.env = [(false, eval e X.env)] := by rw [star1 ns]; rfl
  refine PI.weak (PI.or (pi_enum hg hm (pa_cons ha pa_nil (star1 ns _ _)) hst) (pi_enT hg hm (pa_cons ha pa_nil (star1 ns _ _)) hst)) fun σ H R ⟨env, m, g, hs, hm, hz⟩ => ?_
  have hz' := srcR_one hz
  cases hv : p.v env m with
  | fail => rw [hv] at hz'; exact hz'.elim
  | exc a b => rw [hv] at hz'; exact hz'.elim
  | ok v m1 =>
    rw [hv] at hz'
    by_cases hd : ∃ ds, rd m1 v.nf = some (.tuple ds)
    · obtain ⟨ds, hd⟩ := hd
      refine .inr ⟨env, m, g, hs, hm, ?_⟩
      rw [hv]
      intro g1 H1 e1 s1 x rx
      obtain ⟨y, is, h1, h2, h3⟩ := hz' g1 H1 e1 s1
      rw [hd] at h1
      cases h1
      obtain rfl : enumD 0 ds = is := Option.some.inj h2
      obtain ⟨g2, s2, e2, r2⟩ := s1.hold rx
      obtain ⟨a, xs, rfl, h4, h5, h6⟩ := src_tup (nf_ne v) r2 hd
      rw [h6] at h3
      exact ⟨a, xs, rfl, h4, Rz.ok_now (h3.ext e2) s2 _ (walk_enT s2 h4 h5) rfl⟩
    · refine .inl ⟨env, m, g, hs, hm, ?_⟩
      rw [hv]
      intro g1 H1 e1 s1 x rx
      obtain ⟨d, is, h1, h2, h3⟩ := hz' g1 H1 e1 s1
      obtain ⟨g2, s2, e2, r2⟩ := s1.hold rx
      unfold walk at h2
      split at h2 <;> first | contradiction | skip
      · rename_i ds heq1 heq2
        obtain rfl : d = .list ds := by simpa using heq2
        cases h2
        obtain ⟨a, rfl, k1, k2⟩ := src_list s2 (nf_ne v) r2 h1
        obtain ⟨xs, k5, _⟩ := k1 m1 g2 H1 (Ext.refl _ _) s2 k2
        exact ⟨a, xs, rfl, .inl k5, Rz.ok_now (h3.ext e2) s2 _ (walk_enum s2 k1 k2) k2⟩
      · rename_i ds heq1 heq2
        obtain rfl : d = .tuple ds := by simpa using heq2
        exact absurd ⟨ds, h1⟩ hd
end
end Ra


set_option Elab.async false
set_option linter.all false
set_option autoImplicit false
set_option maxRecDepth 100000
/-! comprehensions and loops -/
namespace Ra
open PySem PySem.Spec PyProof.Rows L2
section
variable {K : PySem.W.Frag} {m m' : Mem} {g g' : G} {H H' : Hp} {D : Addr} {acc : List V}
theorem prot {o : HO} (S : SimM K m g H) (hD : H D = some o) (nF : ¬ g.F D) (nA : D ∉ g.ad) : SimM K m (g.hold D) H :=
  ⟨S.fs, S.len, S.nd, S.cell, S.sz, fun a h => by
    rcases h with rfl | h
    · exact ⟨_, hD⟩
    · exact S.prs a h, fun a h => by
    rcases h with rfl | h
    · exact nF
    · exact S.prF a h, fun a h => by
    rcases h with rfl | h
    · exact nA
    · exact S.prA a h⟩
theorem unprot (S : SimM K m' g' H') (e : Ext (g.hold D) H g' H') : SimM K m' (g'.back g.pr) H' ∧ Ext g H (g'.back g.pr) H' ∧ H' D = H D ∧ ¬ g'.F D ∧ D ∉ g'.ad := by
  have hp : ∀ a, g.pr a → g'.pr a := fun a h => by rw [e.pre]; exact .inr h
  have hD : g'.pr D := by rw [e.pre]; exact .inl rfl
  exact ⟨⟨S.fs, S.len, S.nd, S.cell, S.sz, fun a h => S.prs a (hp a h), fun a h => S.prF a (hp a h), fun a h => S.prA a (hp a h)⟩,
    ⟨e.sub, e.fix, e.tup, e.frz, e.ads, rfl, fun a h => e.keep a (.inr h)⟩, e.keep D (.inl rfl), S.prF D hD, S.prA D hD⟩
theorem up_own {ws : List V} (S : SimM K m g H) (hD : H D = some (.lst acc)) (nF : ¬ g.F D) (nA : D ∉ g.ad) (nP : ¬ g.pr D) (hz : ws.length ≤ sizeLine) : SimM K m g (upd H D (.lst ws)) ∧ Ext g H g (upd H D (.lst ws)) := by
  have e : Ext g H g (upd H D (.lst ws)) := ⟨fun _ h => h, fun b hb => by
    have z : b ≠ D := fun z => nF (by rw [← z]; exact hb)
    rw [upd_ne z], fun b xs hb => by rw [upd_ne (ne_of hb hD (by intro z; cases z))]; exact hb, fun b o u hb => by rw [upd_ne (ne_of hb hD (by intro z; cases z))]; exact hb, ⟨[], by simp⟩, rfl, fun b hb => by
    have z : b ≠ D := fun z => nP (by rw [← z]; exact hb)
    rw [upd_ne z]⟩
  refine ⟨⟨fun b hb => ?_, S.len, S.nd, fun k c b h1 h2 => ?_, fun b xs hb => ?_, fun b hb => ?_, S.prF, S.prA⟩, e⟩
  · obtain ⟨xs, z⟩ := S.fs b hb
    exact ⟨xs, (e.fix b hb).trans z⟩
  · obtain ⟨us, p', q', r', t'⟩ := S.cell k c b h1 h2
    have nb : b ≠ D := fun z => nA (by rw [← z]; exact List.mem_of_getElem? h2)
    exact ⟨us, by rw [upd_ne nb]; exact p', RpAll.ext e _ q', r', t'⟩
  · by_cases hb' : b = D
    · subst hb'
      rw [upd_same] at hb
      rcases hb with z | z | ⟨_, z⟩ | ⟨_, z⟩
      · cases z; exact hz
      · cases z
      · cases z
      · cases z
    · rw [upd_ne hb'] at hb
      exact S.sz b xs hb
  · obtain ⟨o', q'⟩ := S.prs b hb
    exact ⟨o', (e.keep b hb).trans q'⟩
theorem Sg.pr {env : Env} {σ : L2.St} {F : Addr → Prop} {ad : List Addr} {pr pr' : Addr → Prop} (s : Sg K env σ ⟨F, ad, pr⟩ H) : Sg K env σ ⟨F, ad, pr'⟩ H := ⟨s.len, fun i v h => by
  obtain ⟨x, h1, h2, h3⟩ := s.at_ i v h
  refine ⟨x, h1, ?_, h3⟩
  cases v with
  | d _ => exact h2
  | fr xs => exact absurd rfl (h3 xs)
  | dv _ => exact h2
  | mr _ => exact h2⟩
end
theorem wipe_get (σ : L2.St) (i : Nat) : ∀ vs : List Nat, (L2.wipe σ vs)[i]? = if i ∈ vs then (σ[i]?).map (fun _ => none) else σ[i]?
  | [] => by simp [L2.wipe]
  | v :: vs => by
    show ((L2.wipe σ vs).set v none)[i]? = _
    rw [List.getElem?_set]
    by_cases h : v = i
    · subst h
      rw [if_pos rfl, wipe_length]
      by_cases h2 : v < σ.length
      · simp [h2]
      · simp [h2]
    · rw [if_neg h, wipe_get σ i vs]
      have : (i ∈ v :: vs) ↔ i ∈ vs := by
        simp [Ne.symm h]
      simp [this]
theorem wipe_wipe (σ : L2.St) (vs : List Nat) : L2.wipe (L2.wipe σ vs) vs = L2.wipe σ vs := by
  apply List.ext_getElem?
  intro i
  rw [wipe_get, wipe_get]
  by_cases h : i ∈ vs
  · rw [if_pos h, if_pos h, Option.map_map]; rfl
  · rw [if_neg h]
section
variable {X : Cx} {K : PySem.W.Frag}
/-- the loop of a comprehension, behind its source -/
theorem lc_loop {t : Tg} {ps : List P} {elt : P} {own : List Nat} {J : It} {is : List PyData} {gs : List Nat} {env : Env} {m0 : Mem} {g0 : G} {H0 : Hp} {σ : L2.St} {Q : VK} (hs : Sg K env σ g0 H0) (S0 : SimM K m0 g0 H0)
    (W : WalkOk K J is gs m0 g0 H0) (hr : same gs m0 m0 = true) (hsl : ∀ i ∈ slots t, i ∈ own) (hz : Rz K ((lcLoop t ps elt gs (wipe env own) is m0).bind fun ys m2 => .ok (.fr ys) m2) g0 H0 (Ans K Q)) :
    ∀ D, H0 D = none → ∃ W : Nat → Nat → Hp → Prop, (∃ m, W 0 m (upd H0 D (.lst []))) ∧ ∀ i m H, W i m H → (J.stop i H ∧ Q (.ref D) H) ∨ (J.go i H ∧ ∃ Nx : Hp → Prop, (∀ H', Nx H' → ∃ m', m' < m ∧ W (i + 1) m' H') ∧
      ∀ x H', J.yld i H x H' → gT K t x (L2.wipe σ own) H' fun σ2 H2 => L2.wipe σ2 own = L2.wipe σ own ∧ tT K (tAll ps) σ2 H2 fun b H3 =>
        if b = true then tE K elt.v σ2 H3 fun y H4 => ∃ acc, H4 D = some (.lst acc) ∧ acc.length < sizeLine ∧ Nx (upd H4 D (.lst (acc ++ [y]))) else Nx H3) := by
  intro D hD
  refine ⟨fun i n H => ∃ (m : Mem) (g : G) (acc : List V) (ys : List PyData), i + n = is.length ∧ Ext g0 H0 g H ∧ SimM K m g H ∧ same gs m0 m = true ∧ H D = some (.lst acc) ∧ RpAll K g.F H acc ys ∧ ¬ g.F D ∧ D ∉ g.ad ∧ ¬ g.pr D ∧ acc.length ≤ i ∧
      Rz K (lcLoop t ps elt gs (wipe env own) (is.drop i) m) g H fun zs m' g' H' => ∀ x, RpV K g' H' x (.fr (ys ++ zs)) → Q x H', ⟨is.length, m0, g0, [], [], ?_⟩, fun i n H hW => ?_⟩
  · have e1 := ext_new (o := .lst []) S0 hD
    refine ⟨by omega, e1, sim_new S0 hD (Nat.zero_le _), hr, upd_same, .nil, not_F S0 hD, not_ad S0 hD, not_pr S0 hD, Nat.le_refl _, ?_⟩
    rw [List.drop_zero]
    exact ((Rz.bind hz).mono fun ys m2 g2 H2 e2 s2 z2 => Rz.ok_now z2 s2).ext e1
  · obtain ⟨m, g, acc, ys, hn, e, S, sm, hA, hR, nF, nA, nP, hl, hZ⟩ := hW
    by_cases hi : i < is.length
    · have hdi : is[i]? = some is[i] := List.getElem?_eq_getElem hi
      have hdrop : is.drop i = is[i] :: is.drop (i + 1) := List.drop_eq_getElem_cons hi
      rw [hdrop] at hZ
      simp only [lcLoop] at hZ
      refine .inr ⟨W.go i m g H e.toBack S sm hi, fun H' => ∃ (m : Mem) (g : G) (acc : List V) (ys : List PyData), Ext g0 H0 g H' ∧ SimM K m g H' ∧ same gs m0 m = true ∧ H' D = some (.lst acc) ∧ RpAll K g.F H' acc ys ∧ ¬ g.F D ∧ D ∉ g.ad ∧ ¬ g.pr D ∧ acc.length ≤ i + 1 ∧
        Rz K (lcLoop t ps elt gs (wipe env own) (is.drop (i + 1)) m) g H' fun zs m' g' H' => ∀ x, RpV K g' H' x (.fr (ys ++ zs)) → Q x H', fun H' hN => ?_, fun x H' hy => ?_⟩
      · obtain ⟨m', g', acc', ys', a1, a2, a3, a4, a5, a6, a7, a8, a9, a10⟩ := hN
        exact ⟨n - 1, by omega, m', g', acc', ys', by omega, a1, a2, a3, a4, a5, a6, a7, a8, a9, a10⟩
      · obtain ⟨S1, e1, r1⟩ := W.yld i m g H x H' is[i] e.toBack S sm hdi hy
        have hs1 : Sg K (wipe env own) (L2.wipe σ own) g H' := ((hs.ext e).ext e1).wipe own
        have hZ1 := hZ.ext e1
        cases ha : asg t is[i] (wipe env own) with
        | none => rw [ha] at hZ1; exact hZ1.elim
        | some env' =>
          rw [ha] at hZ1
          refine ⟨_, g, _, env', hs1, r1, ha, fun σ2 hs2 w2 => ⟨?_, ?_⟩⟩
          · rw [w2 own hsl]
            exact wipe_wipe σ own
          · have hA1 : H' D = some (.lst acc) := by
              have q := (W.yld i m (g.hold D) H x H' is[i] e.toBack (prot S hA nF nA) sm hdi hy).2.1.keep D (.inl rfl)
              exact q.trans hA
            have hR1 := RpAll.ext e1 _ hR
            have S2 := prot S1 hA1 nF nA
            have hz1 : Rz K ((tAll ps env' m).bind fun b m1 => if b = true then (elt.v env' m1).bind fun v m2 => (frz v m2).bind fun y m3 =>
                if same gs m m3 = true then (lcLoop t ps elt gs (wipe env own) (is.drop (i + 1)) m3).bind fun ys m4 => .ok (y :: ys) m4 else .fail
              else if same gs m m1 = true then lcLoop t ps elt gs (wipe env own) (is.drop (i + 1)) m1 else .fail) g H' fun zs m' g' H' => ∀ x, RpV K g' H' x (.fr (ys ++ zs)) → Q x H' := hZ1
            have hz00 := hz1
            refine ⟨env', m, g.hold D, Sg.pr hs2, S2, ?_⟩
            cases ht : tAll ps env' m with
            | fail => rw [ht] at hz1; exact hz1.elim
            | exc a b => rw [ht] at hz1; exact hz1.elim
            | ok b m1 =>
              rw [ht, Res.bind_ok] at hz1
              intro g2 H2 e2 s2
              obtain ⟨s2', e2', hD2, nF2, nA2⟩ := unprot s2 e2
              have hA2 : H2 D = some (.lst acc) := hD2.trans hA1
              have hz2 := hz1.ext e2'
              cases b with
              | false =>
                simp only [Bool.false_eq_true, if_false] at hz2 ⊢
                split at hz2
                · rename_i hsm
                  exact ⟨m1, _, acc, ys, (e.trans e1).trans e2', s2', same_trans sm hsm, hA2, RpAll.ext e2' _ hR1, nF2, nA2, nP, by omega, hz2⟩
                · exact hz2.elim
              | true =>
                simp only [if_true] at hz2 ⊢
                refine ⟨env', m1, g2, (Sg.pr hs2).ext e2, s2, ?_⟩
                cases hv : elt.v env' m1 with
                | fail => rw [hv] at hz2; exact hz2.elim
                | exc a b => rw [hv] at hz2; exact hz2.elim
                | ok v m2 =>
                  rw [hv, Res.bind_ok] at hz2
                  intro g3 H3 e3 s3 y ry
                  cases hf : frz v m2 with
                  | fail => rw [hf] at hz2; exact hz2.elim
                  | exc a b => rw [hf] at hz2; exact hz2.elim
                  | ok d m3 =>
                    rw [hf, Res.bind_ok] at hz2
                    obtain ⟨g4, s4, e4, r4⟩ := s3.frz ry hf
                    obtain ⟨s4', e4', hD4, nF4, nA4⟩ := unprot s4 ((e2.trans e3).trans e4)
                    have hA4 : H3 D = some (.lst acc) := hD4.trans hA1
                    split at hz2
                    · rename_i hsm
                      have hlt : acc.length < sizeLine := Nat.lt_of_le_of_lt hl (Nat.lt_of_lt_of_le hi W.len)
                      have r4' : Rp K (g4.back g.pr).F H3 y d := r4
                      have hR4 := RpAll.ext e4' _ hR1
                      have hz : (acc ++ [y]).length ≤ sizeLine := by simp; omega
                      obtain ⟨s5, e5⟩ := up_own (ws := acc ++ [y]) s4' hA4 nF4 nA4 nP hz
                      refine ⟨acc, hA4, hlt, m3, g4.back g.pr, acc ++ [y], ys ++ [d], ((e.trans e1).trans e4').trans e5, s5, same_trans sm hsm, upd_same, RpAll.ext e5 _ (hR4.append (.cons r4' .nil)), nF4, nA4, nP, by simp; omega, ?_⟩
                      have hz3 : Rz K ((lcLoop t ps elt gs (wipe env own) (is.drop (i + 1)) m3).bind fun ys m4 => .ok (d :: ys) m4) g H' fun zs m' g' H' => ∀ x, RpV K g' H' x (.fr (ys ++ zs)) → Q x H' := by
                        rw [ht, Res.bind_ok, if_pos rfl, hv, Res.bind_ok, hf, Res.bind_ok, if_pos hsm] at hz00
                        exact hz00
                      refine ((Rz.bind hz3).ext (e4'.trans e5)).mono fun zs m6 g6 H6 e6 s6 z6 x rx => ?_
                      have q := Rz.ok_now z6 s6 x
                      rw [List.append_assoc] at rx
                      exact q rx
                    · exact hz2.elim
    · have hlen : i = is.length := by omega
      subst hlen
      refine .inl ⟨W.stop _ m g H e.toBack S sm (Nat.le_refl _), ?_⟩
      rw [List.drop_length] at hZ
      simp only [lcLoop] at hZ
      have q := Rz.ok_now hZ S (.ref D)
      rw [List.append_nil] at q
      exact q ⟨D, acc, rfl, hA, hR, nF, nA, nP⟩
end
end Ra


set_option Elab.async false
set_option linter.all false
set_option autoImplicit false
set_option maxRecDepth 100000
/-! comprehensions of two clauses -/
namespace Ra
open PySem PySem.Spec PyProof.Rows L2
section
variable {X : Cx} {K : PySem.W.Frag}
/-- what stands at D, with what was there before -/
structure AtD (K : PySem.W.Frag) (D : Addr) (m : Mem) (g : G) (H : Hp) (acc : List V) (ys : List PyData) : Prop where
  sim : SimM K m g H
  at_ : H D = some (.lst acc)
  rp : RpAll K g.F H acc ys
  nF : ¬ g.F D
  nA : D ∉ g.ad
  nP : ¬ g.pr D
/-- the loop of a clause that puts items behind ys0 -/
theorem lc_gen {t : Tg} {ps : List P} {elt : P} {own : List Nat} {J : It} {is : List PyData} {gs : List Nat} {env : Env} {m0 : Mem} {g0 : G} {H0 : Hp} {σ : L2.St} {D : Addr} {acc0 : List V} {ys0 : List PyData} {Post : List PyData → Mem → G → Hp → Prop} {End : Hp → Prop}
    (hs : Sg K env σ g0 H0) (A0 : AtD K D m0 g0 H0 acc0 ys0) (W : WalkOk K J is gs m0 g0 H0) (hr : same gs m0 m0 = true) (hsl : ∀ i ∈ slots t, i ∈ own) (hB : acc0.length + is.length ≤ sizeLine)
    (hz : Rz K (lcLoop t ps elt gs (wipe env own) is m0) g0 H0 Post)
    (hE : ∀ m g H acc ys, Ext g0 H0 g H → AtD K D m g H acc (ys0 ++ ys) → Post ys m g H → End H) :
    ∃ W : Nat → Nat → Hp → Prop, (∃ m, W 0 m H0) ∧ ∀ i m H, W i m H → (J.stop i H ∧ End H) ∨ (J.go i H ∧ ∃ Nx : Hp → Prop, (∀ H', Nx H' → ∃ m', m' < m ∧ W (i + 1) m' H') ∧
      ∀ x H', J.yld i H x H' → gT K t x (L2.wipe σ own) H' fun σ2 H2 => L2.wipe σ2 own = L2.wipe σ own ∧ tT K (tAll ps) σ2 H2 fun b H3 =>
        if b = true then tE K elt.v σ2 H3 fun y H4 => ∃ acc, H4 D = some (.lst acc) ∧ acc.length < sizeLine ∧ Nx (upd H4 D (.lst (acc ++ [y]))) else Nx H3) := by
  refine ⟨fun i n H => ∃ (m : Mem) (g : G) (acc : List V) (ys : List PyData), i + n = is.length ∧ Ext g0 H0 g H ∧ AtD K D m g H acc (ys0 ++ ys) ∧ same gs m0 m = true ∧ acc.length ≤ acc0.length + i ∧ Rz K (lcLoop t ps elt gs (wipe env own) (is.drop i) m) g H fun zs => Post (ys ++ zs),
    ⟨is.length, m0, g0, acc0, [], Nat.zero_add _, Ext.refl _ _, by rw [List.append_nil]; exact A0, hr, Nat.le_refl _, by rw [List.drop_zero]; exact hz⟩, fun i n H hW => ?_⟩
  obtain ⟨m, g, acc, ys, hn, e, ⟨S, hA, hR, nF, nA, nP⟩, sm, hl, hZ⟩ := hW
  by_cases hi : i < is.length
  · have hdi : is[i]? = some is[i] := List.getElem?_eq_getElem hi
    rw [List.drop_eq_getElem_cons hi] at hZ
    simp only [lcLoop] at hZ
    refine .inr ⟨W.go i m g H e.toBack S sm hi, fun H' => ∃ (m : Mem) (g : G) (acc : List V) (ys : List PyData), Ext g0 H0 g H' ∧ AtD K D m g H' acc (ys0 ++ ys) ∧ same gs m0 m = true ∧ acc.length ≤ acc0.length + (i + 1) ∧ Rz K (lcLoop t ps elt gs (wipe env own) (is.drop (i + 1)) m) g H' fun zs => Post (ys ++ zs), fun H' hN => ?_, fun x H' hy => ?_⟩
    · obtain ⟨m', g', acc', ys', a1, a2, a3, a4, a5⟩ := hN
      exact ⟨n - 1, by omega, m', g', acc', ys', by omega, a1, a2, a3, a4, a5⟩
    · obtain ⟨S1, e1, r1⟩ := W.yld i m g H x H' is[i] e.toBack S sm hdi hy
      have hs1 : Sg K (wipe env own) (L2.wipe σ own) g H' := ((hs.ext e).ext e1).wipe own
      have hZ1 := hZ.ext e1
      cases ha : asg t is[i] (wipe env own) with
      | none => rw [ha] at hZ1; exact hZ1.elim
      | some env' =>
        rw [ha] at hZ1
        refine ⟨_, g, _, env', hs1, r1, ha, fun σ2 hs2 w2 => ⟨by rw [w2 own hsl]; exact wipe_wipe σ own, ?_⟩⟩
        have hA1 : H' D = some (.lst acc) := ((W.yld i m (g.hold D) H x H' is[i] e.toBack (prot S hA nF nA) sm hdi hy).2.1.keep D (.inl rfl)).trans hA
        have hR1 := RpAll.ext e1 _ hR
        have S2 := prot S1 hA1 nF nA
        dsimp only at hZ1
        have hz00 := hZ1
        refine ⟨env', m, g.hold D, Sg.pr hs2, S2, ?_⟩
        cases ht : tAll ps env' m with
        | fail => rw [ht] at hZ1; exact hZ1.elim
        | exc a b => rw [ht] at hZ1; exact hZ1.elim
        | ok b m1 =>
          rw [ht, Res.bind_ok] at hZ1
          intro g2 H2 e2 s2
          obtain ⟨s2', e2', hD2, nF2, nA2⟩ := unprot s2 e2
          have hA2 : H2 D = some (.lst acc) := hD2.trans hA1
          have hz2 := hZ1.ext e2'
          cases b with
          | false =>
            simp only [Bool.false_eq_true, if_false] at hz2 ⊢
            split at hz2
            · rename_i hsm
              exact ⟨m1, _, acc, ys, (e.trans e1).trans e2', ⟨s2', hA2, RpAll.ext e2' _ hR1, nF2, nA2, nP⟩, same_trans sm hsm, by omega, hz2⟩
            · exact hz2.elim
          | true =>
            simp only [if_true] at hz2 ⊢
            refine ⟨env', m1, g2, (Sg.pr hs2).ext e2, s2, ?_⟩
            cases hv : elt.v env' m1 with
            | fail => rw [hv] at hz2; exact hz2.elim
            | exc a b => rw [hv] at hz2; exact hz2.elim
            | ok v m2 =>
              rw [hv, Res.bind_ok] at hz2
              intro g3 H3 e3 s3 y ry
              cases hf : frz v m2 with
              | fail => rw [hf] at hz2; exact hz2.elim
              | exc a b => rw [hf] at hz2; exact hz2.elim
              | ok d m3 =>
                rw [hf, Res.bind_ok] at hz2
                obtain ⟨g4, s4, e4, r4⟩ := s3.frz ry hf
                obtain ⟨s4', e4', hD4, nF4, nA4⟩ := unprot s4 ((e2.trans e3).trans e4)
                have hA4 : H3 D = some (.lst acc) := hD4.trans hA1
                split at hz2
                · rename_i hsm
                  have r4' : Rp K (g4.back g.pr).F H3 y d := r4
                  have hz : (acc ++ [y]).length ≤ sizeLine := by simp; omega
                  obtain ⟨s5, e5⟩ := up_own (ws := acc ++ [y]) s4' hA4 nF4 nA4 nP hz
                  refine ⟨acc, hA4, by omega, m3, g4.back g.pr, acc ++ [y], ys ++ [d], ((e.trans e1).trans e4').trans e5, ⟨s5, upd_same, ?_, nF4, nA4, nP⟩, same_trans sm hsm, by simp; omega, ?_⟩
                  · rw [← List.append_assoc]
                    exact RpAll.ext e5 _ ((RpAll.ext e4' _ hR1).append (.cons r4' .nil))
                  · rw [ht, Res.bind_ok, if_pos rfl, hv, Res.bind_ok, hf, Res.bind_ok, if_pos hsm] at hz00
                    refine ((Rz.bind hz00).ext (e4'.trans e5)).mono fun zs m6 g6 H6 e6 s6 z6 => ?_
                    have q := Rz.ok_now z6 s6
                    rw [List.append_assoc]
                    exact q
                · exact hz2.elim
  · have hlen : i = is.length := by omega
    subst hlen
    refine .inl ⟨W.stop _ m g H e.toBack S sm (Nat.le_refl _), hE m g H acc ys e ⟨S, hA, hR, nF, nA, nP⟩ ?_⟩
    rw [List.drop_length] at hZ
    simp only [lcLoop] at hZ
    have q := Rz.ok_now hZ S
    rw [List.append_nil] at q
    exact q
theorem lc2_ok {own own1 : List Nat} {t t1 : Tg} {k k1 : Sk} {src tests src1 tests1 : List P} {elt : P} (hsl : ∀ i ∈ slots t, i ∈ own) (hsl1 : ∀ i ∈ slots t1, i ∈ own1) {σ : L2.St} {H : Hp} {Q : VK} (h : tE K (cLc2 own own1 t k src tests t1 k1 src1 tests1 elt) σ H Q) :
    tLc2 (iS K (srcR k src)) (gT K t) (tT K (tAll tests)) (iS K (srcR k1 src1)) (gT K t1) (tT K (tAll tests1)) (tE K elt.v) own own1 σ H Q := by
  obtain ⟨env, m, g, hs, hm, hz⟩ := h
  refine ⟨env, m, g, hs, hm, (Rz.bind hz).mono fun q m0 g0 H0 e0 S0 z0 J W hr => ?_⟩
  replace hs := hs.ext e0
  obtain ⟨is, gs⟩ := q
  dsimp only at z0 W hr
  intro D hD
  refine ⟨fun i n H => ∃ (m : Mem) (g : G) (acc : List V) (ys : List PyData), i + n = is.length ∧ Ext g0 H0 g H ∧ AtD K D m g H acc ys ∧ same gs m0 m = true ∧ Rz K (lc2Loop t tests (lcIn own1 t1 k1 src1 tests1 elt) gs (wipe env own) ys.length (is.drop i) m) g H fun zs m' g' H' => ∀ x, RpV K g' H' x (.fr (ys ++ zs)) → Q x H',
    ⟨is.length, m0, g0, [], [], Nat.zero_add _, ext_new S0 hD, ⟨sim_new S0 hD (Nat.zero_le _), upd_same, .nil, not_F S0 hD, not_ad S0 hD, not_pr S0 hD⟩, hr, ?_⟩, fun i n H hW => ?_⟩
  · rw [List.drop_zero]
    exact ((Rz.bind z0).mono fun ys m2 g2 H2 e2 s2 z2 => Rz.ok_now z2 s2).ext (ext_new S0 hD)
  · obtain ⟨m, g, acc, ys, hn, e, ⟨S, hA, hR, nF, nA, nP⟩, sm, hZ⟩ := hW
    by_cases hi : i < is.length
    · have hdi : is[i]? = some is[i] := List.getElem?_eq_getElem hi
      rw [List.drop_eq_getElem_cons hi] at hZ
      simp only [lc2Loop] at hZ
      refine .inr ⟨W.go i m g H e.toBack S sm hi, fun H' => ∃ (m : Mem) (g : G) (acc : List V) (ys : List PyData), Ext g0 H0 g H' ∧ AtD K D m g H' acc ys ∧ same gs m0 m = true ∧ Rz K (lc2Loop t tests (lcIn own1 t1 k1 src1 tests1 elt) gs (wipe env own) ys.length (is.drop (i + 1)) m) g H' fun zs m' g' H' => ∀ x, RpV K g' H' x (.fr (ys ++ zs)) → Q x H', fun H' hN => ?_, fun x H' hy => ?_⟩
      · obtain ⟨m', g', acc', ys', a1, a2, a3, a4⟩ := hN
        exact ⟨n - 1, by omega, m', g', acc', ys', by omega, a1, a2, a3, a4⟩
      · obtain ⟨S1, e1, r1⟩ := W.yld i m g H x H' is[i] e.toBack S sm hdi hy
        have hs1 : Sg K (wipe env own) (L2.wipe σ own) g H' := ((hs.ext e).ext e1).wipe own
        have hZ1 := hZ.ext e1
        cases ha : asg t is[i] (wipe env own) with
        | none => rw [ha] at hZ1; exact hZ1.elim
        | some env' =>
          rw [ha] at hZ1
          refine ⟨_, g, _, env', hs1, r1, ha, fun σ2 hs2 w2 => ⟨by rw [w2 own hsl]; exact wipe_wipe σ own, ?_⟩⟩
          have hA1 : H' D = some (.lst acc) := ((W.yld i m (g.hold D) H x H' is[i] e.toBack (prot S hA nF nA) sm hdi hy).2.1.keep D (.inl rfl)).trans hA
          have hR1 := RpAll.ext e1 _ hR
          have S2 := prot S1 hA1 nF nA
          dsimp only at hZ1
          refine ⟨env', m, g.hold D, Sg.pr hs2, S2, ?_⟩
          cases ht : tAll tests env' m with
          | fail => rw [ht] at hZ1; exact hZ1.elim
          | exc a b => rw [ht] at hZ1; exact hZ1.elim
          | ok b m1 =>
            rw [ht, Res.bind_ok] at hZ1
            intro g2 H2 e2 s2
            obtain ⟨s2', e2', hD2, nF2, nA2⟩ := unprot s2 e2
            have hA2 : H2 D = some (.lst acc) := hD2.trans hA1
            have hz2 := hZ1.ext e2'
            cases b with
            | false =>
              simp only [Bool.false_eq_true, if_false] at hz2 ⊢
              split at hz2
              · rename_i hsm
                exact ⟨m1, _, acc, ys, (e.trans e1).trans e2', ⟨s2', hA2, RpAll.ext e2' _ hR1, nF2, nA2, nP⟩, same_trans sm hsm, hz2⟩
              · exact hz2.elim
            | true =>
              simp only [if_true] at hz2 ⊢
              unfold lcIn at hz2
              have hz3 := Rz.bind (Rz.bind hz2)
              have s2p := prot s2' hA2 nF2 nA2
              refine ⟨env', m1, (g2.back g.pr).hold D, Sg.pr ((Sg.pr hs2).ext e2), s2p, ?_⟩
              cases hsr : srcR k1 src1 env' m1 with
              | fail => rw [hsr] at hz3; exact hz3.elim
              | exc a b => rw [hsr] at hz3; exact hz3.elim
              | ok q m2 =>
                rw [hsr] at hz3
                intro g3 H3 e3 s3 J1 W1 hr1
                obtain ⟨s3', e3', hD3, nF3, nA3⟩ := unprot s3 e3
                have hA3 : H3 D = some (.lst acc) := hD3.trans hA2
                obtain ⟨is1, gs1⟩ := q
                have hz4 := hz3 _ _ e3' s3'
                dsimp only at hz4 W1 hr1
                split at hz4
                · rename_i hlim
                  have hlen := hR.length
                  have W1' : WalkOk K J1 is1 gs1 m2 (g3.back (g2.back g.pr).pr) H3 := ⟨W1.len, W1.go, W1.yld, W1.stop⟩
                  have hs3 : Sg K env' σ2 (g2.back g.pr) H2 := Sg.pr ((Sg.pr hs2).ext e2)
                  refine lc_gen (Post := fun zs m3 g4 H4 => Rz K (if same gs m m3 = true then (lc2Loop t tests (lcIn own1 t1 k1 src1 tests1 elt) gs (wipe env own) (ys.length + zs.length) (is.drop (i + 1)) m3).bind fun us m4 => .ok (zs ++ us) m4 else .fail) g4 H4 fun zs m' g' H' => ∀ x, RpV K g' H' x (.fr (ys ++ zs)) → Q x H')
                    (hs3.ext e3') ⟨s3', hA3, RpAll.ext (e2'.trans e3') _ hR1, nF3, nA3, nP⟩ W1' hr1 hsl1 (by rw [hlen, sizeLine_eq]; exact hlim) ?_ fun m5 g5 H5 acc5 zs5 e5 A5 p5 => ?_
                  · exact hz4
                  · split at p5
                    · rename_i hsm
                      refine ⟨m5, g5, acc5, ys ++ zs5, (((e.trans e1).trans e2').trans e3').trans e5, A5, same_trans sm hsm, ?_⟩
                      rw [List.length_append]
                      refine (Rz.bind p5).mono fun us m6 g6 H6 e6 s6 z6 => ?_
                      have q := Rz.ok_now z6 s6
                      rw [List.append_assoc]
                      exact q
                    · exact p5.elim
                · exact hz4.elim
    · have hlen : i = is.length := by omega
      subst hlen
      refine .inl ⟨W.stop _ m g H e.toBack S sm (Nat.le_refl _), ?_⟩
      rw [List.drop_length] at hZ
      simp only [lc2Loop] at hZ
      have q := Rz.ok_now hZ S (.ref D)
      rw [List.append_nil] at q
      exact q ⟨D, acc, rfl, hA, hR, nF, nA, nP⟩
end
end Ra


set_option Elab.async false
set_option linter.all false
set_option autoImplicit false
set_option maxRecDepth 100000
/-! statements by the evaluator -/
namespace Ra
open PySem PySem.Spec PyProof.Rows L2
section
variable {X : Cx} {tg e : Expr} {es : List Expr} {p : P} {ps : List P} {pos : Pos} {Z : Zx}
/-! comprehensions as expressions -/
def notSet : Expr → Bool
  | .Set _ _ _ => false
  | _ => true
theorem not_folded {e : Expr} (h : notSet e = true) (env : PySem.Env) (x : Value) : foldedSetIterable e env x = pure x := by
  cases e <;> first | rfl | (cases h; done)
theorem pts_nilR : PTs X [] (tT X.K (tAll [])) := ⟨fun pins s σ H Q I ⟨env, m, g, hs, hm, hz⟩ => pts_nil.run pins s σ H Q I (Rz.ok_now hz hm)⟩
theorem pts_oneR (h : PT X e (tT X.K p.t)) : PTs X [e] (tT X.K (tAll [p])) := ⟨fun pins s σ H Q I ⟨env, m, g, hs, hm, hz⟩ => (pts_one h).run pins s σ H Q I ⟨env, m, g, hs, hm, (Rz.bind hz).mono fun b m1 g1 H1 e1 s1 z1 => by
  cases b with
  | true => exact Rz.ok_now z1 s1
  | false => exact Rz.ok_now z1 s1⟩⟩
theorem lc_ok {K : PySem.W.Frag} {own : List Nat} {t : Tg} {k : Sk} {src tests : List P} {elt : P} (hsl : ∀ i ∈ slots t, i ∈ own) {σ : L2.St} {H : Hp} {Q : VK} (h : tE K (cLc own t k src tests elt) σ H Q) :
    tLc (iS K (srcR k src)) (gT K t) (tT K (tAll tests)) (tE K elt.v) own σ H Q := by
  obtain ⟨env, m, g, hs, hm, hz⟩ := h
  refine ⟨env, m, g, hs, hm, (Rz.bind hz).mono fun q m1 g1 H1 e1 s1 z1 J hJ hr => ?_⟩
  exact lc_loop (hs.ext e1) s1 hJ hr hsl z1
theorem pe_lcR {elt iter : Expr} {ifs : List Expr} {scope : Scope} {own : List (Str × Nat)} {t : Tg} {k : Sk} {src tests : List P} {pe : P} (hc : X.calm = true) (hN : X.N.Nodup) (hi : PI X tg iter (iS X.K (srcR k src))) (ok : BlkOk X.N X.env.scope scope own)
    (hg : ∀ (s : Shared) (H : Hp) (C : Addr) (cl : List (Str × Addr)) (fp : List Addr), PG (X.blk s H scope (compEnvC scope cl C X.env) fp) tg (gT X.K t))
    (ht : ∀ (s : Shared) (H : Hp) (C : Addr) (cl : List (Str × Addr)) (fp : List Addr), PTs (X.blk s H scope (compEnvC scope cl C X.env) fp) ifs (tT X.K (tAll tests)))
    (he : ∀ (s : Shared) (H : Hp) (C : Addr) (cl : List (Str × Addr)) (fp : List Addr), PE (X.blk s H scope (compEnvC scope cl C X.env) fp) elt (tE X.K pe.v)) (hs : notSet iter = true) (hsl : ∀ i ∈ slots t, i ∈ own.map (·.2)) :
    PE X (.ListComp elt [⟨tg, iter, ifs, 0⟩] scope pos) (tE X.K (cLc (own.map (·.2)) t k src tests pe)) :=
  PE.weak (pe_lc hc hN hi ok hg ht he (not_folded hs _)) fun _ _ _ h => lc_ok hsl h
theorem pe_lc2R {elt iter tg1 iter1 : Expr} {ifs ifs1 : List Expr} {scope : Scope} {own : List (Str × Nat)} {own1 : List Nat} {t t1 : Tg} {k k1 : Sk} {src tests src1 tests1 : List P} {pe : P} (hc : X.calm = true) (hN : X.N.Nodup) (hi : PI X tg iter (iS X.K (srcR k src))) (ok : BlkOk X.N X.env.scope scope own) (hv : ∀ i ∈ own1, i ∈ own.map (·.2))
    (hg : ∀ (s : Shared) (H : Hp) (C : Addr) (cl : List (Str × Addr)) (fp : List Addr), PG (X.blk s H scope (compEnvC scope cl C X.env) fp) tg (gT X.K t))
    (ht : ∀ (s : Shared) (H : Hp) (C : Addr) (cl : List (Str × Addr)) (fp : List Addr), PTs (X.blk s H scope (compEnvC scope cl C X.env) fp) ifs (tT X.K (tAll tests)))
    (hi1 : ∀ (s : Shared) (H : Hp) (C : Addr) (cl : List (Str × Addr)) (fp : List Addr), PI (X.blk s H scope (compEnvC scope cl C X.env) fp) tg1 iter1 (iS X.K (srcR k1 src1)))
    (hg1 : ∀ (s : Shared) (H : Hp) (C : Addr) (cl : List (Str × Addr)) (fp : List Addr), PG (X.blk s H scope (compEnvC scope cl C X.env) fp) tg1 (gT X.K t1))
    (ht1 : ∀ (s : Shared) (H : Hp) (C : Addr) (cl : List (Str × Addr)) (fp : List Addr), PTs (X.blk s H scope (compEnvC scope cl C X.env) fp) ifs1 (tT X.K (tAll tests1)))
    (he : ∀ (s : Shared) (H : Hp) (C : Addr) (cl : List (Str × Addr)) (fp : List Addr), PE (X.blk s H scope (compEnvC scope cl C X.env) fp) elt (tE X.K pe.v)) (hs : notSet iter = true) (hs1 : notSet iter1 = true) (hsl : ∀ i ∈ slots t, i ∈ own.map (·.2)) (hsl1 : ∀ i ∈ slots t1, i ∈ own1) :
    PE X (.ListComp elt [⟨tg, iter, ifs, 0⟩, ⟨tg1, iter1, ifs1, 0⟩] scope pos) (tE X.K (cLc2 (own.map (·.2)) own1 t k src tests t1 k1 src1 tests1 pe)) :=
  PE.weak (pe_lc2 hc hN hi ok hv hg ht hi1 hg1 ht1 he (not_folded hs _) fun env x => not_folded hs1 env x) fun _ _ _ h => lc2_ok hsl hsl1 h
/-! statements -/
def FlowQ (K : PySem.W.Frag) (D : Ends) : Flow → Mem → G → Hp → Prop
  | .next env, _, g, H => ∀ σ, Sg K env σ g H → D.nx σ H
  | .ret v, _, g, H => ∀ x, RpV K g H x v → D.rt x H
  | .brk env, _, g, H => ∀ σ, Sg K env σ g H → D.bk σ H
  | .cnt env, _, g, H => ∀ σ, Sg K env σ g H → D.ct σ H
def tS (K : PySem.W.Frag) (Z : Zx) (x : EX) : TS := fun D σ H => ∃ env m g, Sg K env σ g H ∧ SimM K m g H ∧ Rx K Z (x env m) g H (FlowQ K D)
theorem ps_badR (st : Stmt) : PS X st (tS X.K Z fun _ _ => .fail) := ⟨fun pins s σ H D I ⟨env, m, g, hs, hm, hz⟩ => hz.elim⟩
theorem pss_nilR : PSs X [] (tS X.K Z xNext) := PSs.weak pss_nil fun D σ H ⟨env, m, g, hs, hm, hz⟩ => Rx.ok_now hz hm σ hs
theorem pss_consR {st : Stmt} {rest : List Stmt} {x y : EX} (h1 : PS X st (tS X.K Z x)) (h2 : PSs X rest (tS X.K Z y)) : PSs X (st :: rest) (tS X.K Z (xSeq x y)) := by
  refine PSs.weak (pss_cons h1 h2) fun D σ H ⟨env, m, g, hs, hm, hz⟩ => ?_
  refine ⟨env, m, g, hs, hm, (Rx.bind hz).mono fun f m1 g1 H1 e1 s1 z1 => ?_⟩
  cases f with
  | next env' => exact fun σ' hs' => ⟨env', m1, g1, hs', s1, z1⟩
  | ret v => exact Rx.ok_now (Z := Z) z1 s1
  | brk env' => exact Rx.ok_now (Z := Z) z1 s1
  | cnt env' => exact Rx.ok_now (Z := Z) z1 s1
theorem ps_passR : PS X (.Pass pos) (tS X.K Z xNext) := PS.weak ps_pass fun D σ H ⟨env, m, g, hs, hm, hz⟩ => Rx.ok_now hz hm σ hs
theorem ps_brkR : PS X (.Break pos) (tS X.K Z fun env m => .ok (.brk env) m) := PS.weak ps_break fun D σ H ⟨env, m, g, hs, hm, hz⟩ => Rx.ok_now hz hm σ hs
theorem ps_cntR : PS X (.Continue pos) (tS X.K Z fun env m => .ok (.cnt env) m) := PS.weak ps_continue fun D σ H ⟨env, m, g, hs, hm, hz⟩ => Rx.ok_now hz hm σ hs
theorem ps_retR (h : PE X e (tE X.K p.v)) : PS X (.Return (some e) pos) (tS X.K Z (xRet p)) := by
  refine PS.weak (ps_ret h) fun D σ H ⟨env, m, g, hs, hm, hz⟩ => ?_
  exact ⟨env, m, g, hs, hm, (Rx.bindX hz).mono fun v m1 g1 H1 e1 s1 z1 => Rx.ok_now z1 s1⟩
theorem ps_retNR : PS X (.Return none pos) (tS X.K Z fun _ m => .ok (.ret (.d .none)) m) := PS.weak ps_retN fun D σ H ⟨env, m, g, hs, hm, hz⟩ => Rx.ok_now hz hm .non .non
theorem ps_exprR (h : PE X e (tE X.K p.v)) (hs : swapsWith e none pos.line X.env = pure false) : PS X (.Expr e pos) (tS X.K Z fun env m => (p.v env m).noX.bind fun _ m1 => .ok (.next env) m1) := by
  refine PS.weak (ps_expr h hs) fun D σ H ⟨env, m, g, hs, hm, hz⟩ => ?_
  exact ⟨env, m, g, hs, hm, (Rx.bindX hz).mono fun v m1 g1 H1 e1 s1 z1 x rx => Rx.ok_now z1 s1 σ (hs.ext e1)⟩
theorem ps_ifR {c : Expr} {a b : List Stmt} {pc : P} {xa xb : EX} (hc : PT X c (tT X.K pc.t)) (ha : PSs X a (tS X.K Z xa)) (hb : PSs X b (tS X.K Z xb)) : PS X (.If c a b pos) (tS X.K Z (xIf pc xa xb)) := by
  refine PS.weak (ps_if hc ha hb) fun D σ H ⟨env, m, g, hs, hm, hz⟩ => ?_
  refine ⟨env, m, g, hs, hm, (Rx.bindX hz).mono fun t m1 g1 H1 e1 s1 z1 => ?_⟩
  cases t with
  | true => exact ⟨env, m1, g1, hs.ext e1, s1, z1⟩
  | false => exact ⟨env, m1, g1, hs.ext e1, s1, z1⟩
/-- the value that a name gets -/
theorem stored_ok {K : PySem.W.Frag} {c : Bool} {v v' : Val} {m m' : Mem} {g : G} {H : Hp} {x : V} (S : SimM K m g H) (h : RpV K g H x v) (e : stored c v m = .ok v' m') : ∃ g', SimM K m' g' H ∧ Ext g H g' H ∧ RpV K g' H x v' ∧ ∀ xs, v' ≠ .fr xs := by
  unfold stored at e
  split at e
  · exact S.mkCell h e
  · simp only [Res.ok.injEq] at e
    obtain ⟨rfl, rfl⟩ := e
    obtain ⟨g', s', e', r'⟩ := S.hold h
    exact ⟨g', s', e', r', nf_ne v⟩
theorem set_ok {K : PySem.W.Frag} {i : Nat} {c : Bool} {D : Ends} {σ : L2.St} {H : Hp} (h : tS K Z (xSet i c p) D σ H) : tE K p.v σ H fun x H1 => gName i x σ H1 D.nx := by
  obtain ⟨env, m, g, hs, hm, hz⟩ := h
  refine ⟨env, m, g, hs, hm, (Rx.bindX hz).mono fun v m1 g1 H1 e1 s1 z1 x rx => ?_⟩
  cases hst : stored c v m1 with
  | fail => rw [hst] at z1; exact z1.elim
  | exc a b => exact absurd hst stored_nx
  | ok v' m2 =>
    rw [hst, Res.bind_ok] at z1
    obtain ⟨g2, s2, e2, r2, nf2⟩ := stored_ok s1 rx hst
    unfold setIn at z1
    split at z1
    · rename_i hi
      exact Rx.ok_now (z1.ext e2) s2 _ (((hs.ext e1).ext e2).set r2 nf2 hi)
    · exact z1.elim
theorem ps_setR {i : Nat} {c : Bool} {x : Str} {pos' : Pos} (hN : X.N.Nodup) (hi : X.N[i]? = some x) (hx : Loc X.env.scope x) (hf : X.fn x = true ∨ X.env.scope.names.lookup x = some .local) (he : PE X e (tE X.K p.v)) (hs : swapsWith e (some (.Name x pos')) pos.line X.env = pure false) :
    PS X (.Assign [.Name x pos'] e pos) (tS X.K Z (xSet i c p)) := PS.weak (ps_set hN hi hx he hs hf) fun _ _ _ h => set_ok h
theorem ps_setLcR {i : Nat} {c : Bool} {y : Str} {py spos : Pos} {elt iter : Expr} {ifs : List Expr} {scope : Scope} {own : List (Str × Nat)} {t : Tg} {k : Sk} {src tests : List P} {pe : P} (hc : X.calm = true) (hN : X.N.Nodup) (hy : X.N[i]? = some y) (hyl : X.env.scope.names.lookup y = some .local)
    (hsw : swapsWith (.ListComp elt [⟨tg, iter, ifs, 0⟩] scope pos) (some (.Name y py)) spos.line X.env = pure true) (hi : PI X tg iter (iS X.K (srcR k src))) (ok : BlkOk X.N X.env.scope scope own)
    (hg : ∀ (s : Shared) (H : Hp) (C : Addr) (cl : List (Str × Addr)) (fp : List Addr), PG (X.blk s H scope (compEnvC scope cl C X.env) fp) tg (gT X.K t))
    (ht : ∀ (s : Shared) (H : Hp) (C : Addr) (cl : List (Str × Addr)) (fp : List Addr), PTs (X.blk s H scope (compEnvC scope cl C X.env) fp) ifs (tT X.K (tAll tests)))
    (he : ∀ (s : Shared) (H : Hp) (C : Addr) (cl : List (Str × Addr)) (fp : List Addr), PE (X.blk s H scope (compEnvC scope cl C X.env) fp) elt (tE X.K pe.v)) (hs : notSet iter = true) (hsl : ∀ i ∈ slots t, i ∈ own.map (·.2)) :
    PS X (.Assign [.Name y py] (.ListComp elt [⟨tg, iter, ifs, 0⟩] scope pos) spos) (tS X.K Z (xSet i c (ofV (cLc (own.map (·.2)) t k src tests pe)))) :=
  PS.weak (ps_setLc hc hN hy hyl hsw hi ok hg ht he (not_folded hs _)) fun _ _ _ h => lc_ok hsl (set_ok h)
theorem ps_setTR {us : List Tg} {k : Nat} {q : Pos} {ts : List Expr} (hg : PG X (.Tuple ts k q) (gT X.K (.tp us))) (he : PE X e (tE X.K p.v)) (hw : swappedStores [.Tuple ts k q] e X.env = pure none) (hs : swapsWithSole [.Tuple ts k q] e pos.line X.env = pure false) :
    PS X (.Assign [.Tuple ts k q] e pos) (tS X.K Z (xSetT (.tp us) p)) := by
  refine PS.weak (ps_asg he hg hs hw rfl) fun D σ H ⟨env, m, g, hs, hm, hz⟩ => ?_
  refine ⟨env, m, g, hs, hm, (Rx.bindX hz).mono fun v m1 g1 H1 e1 s1 z1 x rx => ?_⟩
  obtain ⟨g2, s2, e2, r2⟩ := s1.hold rx
  cases hv : v.nf with
  | fr xs => exact absurd hv (nf_ne v xs)
  | mr j => rw [hv] at z1; exact z1.elim
  | dv j => rw [hv] at z1; exact z1.elim
  | d y =>
    rw [hv] at z1 r2
    dsimp only at z1
    cases ha : asg (.tp us) y env with
    | none => rw [ha] at z1; exact z1.elim
    | some env' =>
      rw [ha] at z1
      exact ⟨env, g2, y, env', (hs.ext e1).ext e2, r2, ha, fun σ' hs' _ => Rx.ok_now (z1.ext e2) s2 σ' hs'⟩
/-! a, b = x, y -/
def tPv (K : PySem.W.Frag) (is : List (Nat × Bool)) (ps : List P) : TA := fun σ H Q => ∃ env m g, Sg K env σ g H ∧ SimM K m g H ∧ Rz K (parV is ps env m) g H fun vs _ g' H' => ∀ xs, RpVs K g' H' xs vs → Q xs H'
theorem pa_par_nil : PA X [] (tPv X.K [] []) := PA.weak pa_nil fun σ H Q ⟨env, m, g, hs, hm, hz⟩ => Rz.ok_now hz hm [] .nil
theorem pa_par_cons {i : Nat} {c : Bool} {is : List (Nat × Bool)} (ha : PE X e (tE X.K p.v)) (hr : PA X es (tPv X.K is ps)) (ns : notStar e = true) : PA X (e :: es) (tPv X.K ((i, c) :: is) (p :: ps)) := by
  refine PA.weak (pa_cons ha hr (star1 ns _ _)) fun σ H Q ⟨env, m, g, hs, hm, hz⟩ => ?_
  refine ⟨env, m, g, hs, hm, (Rz.bind hz).mono fun v m1 g1 H1 e1 s1 z1 x rx => ?_⟩
  cases hst : stored c v m1 with
  | fail => rw [hst] at z1; exact z1.elim
  | exc a b => rw [hst] at z1; exact z1.elim
  | ok v' m2 =>
    rw [hst, Res.bind_ok] at z1
    obtain ⟨g2, s2, e2, r2, nf2⟩ := stored_ok s1 rx hst
    refine ⟨env, m2, g2, (hs.ext e1).ext e2, s2, (Rz.bind (z1.ext e2)).mono fun vs m3 g3 H3 e3 s3 z3 xs rxs => ?_⟩
    exact Rz.ok_now z3 s3 (x :: xs) (.cons (r2.ext e3 nf2) nf2 rxs)
def setS : List (Nat × Bool) → List V → L2.St → L2.St
  | (i, _) :: is, x :: xs, σ => setS is xs (σ.set i (some x))
  | _, _, σ => σ
theorem setAll_ok {K : PySem.W.Frag} {m : Mem} {g : G} {H : Hp} {Q : Flow → Mem → G → Hp → Prop} : ∀ {is : List (Nat × Bool)} {vs : List Val} {xs : List V} {env : Env} {σ : L2.St}, Sg K env σ g H → RpVs K g H xs vs → Rx K Z (setAll is vs env m) g H Q →
    ∃ env', Sg K env' (setS is xs σ) g H ∧ Rx K Z (.ok (.next env') m) g H Q ∧ xs.length = is.length
  | [], _, _, env, σ, hs, .nil, hz => ⟨env, hs, hz, rfl⟩
  | [], _, _, env, σ, hs, .cons _ _ _, hz => hz.elim
  | _ :: _, _, _, env, σ, hs, .nil, hz => hz.elim
  | (i, c) :: is, _, _, env, σ, hs, .cons (v := v) (x := x) r hf t, hz => by
    unfold setAll at hz
    split at hz
    · rename_i hi
      obtain ⟨env', h1, h2, h3⟩ := setAll_ok (hs.set r hf hi) t hz
      exact ⟨env', h1, h2, by simp [h3]⟩
    · exact hz.elim
theorem par_ok {K : PySem.W.Frag} {is : List (Nat × Bool)} {D : Ends} {σ : L2.St} {H : Hp} (h : tS K Z (xPar is ps) D σ H) : tPv K is ps σ H fun xs H1 => xs.length = is.length ∧ D.nx (setS is xs σ) H1 := by
  obtain ⟨env, m, g, hs, hm, hz⟩ := h
  refine ⟨env, m, g, hs, hm, (Rx.bindX hz).mono fun vs m1 g1 H1 e1 s1 z1 xs rxs => ?_⟩
  obtain ⟨env', h1, h2, h3⟩ := setAll_ok (hs.ext e1) rxs z1
  exact ⟨h3, Rx.ok_now h2 s1 _ h1⟩
theorem ps_par2R {i j : Nat} {c c' : Bool} {x y : Str} {a b : Expr} {px py pt : Pos} {kt k2 : Nat} {pt2 : Pos} (hc : X.calm = true) (hN : X.N.Nodup) (hi : X.N[i]? = some x) (hj : X.N[j]? = some y) (hij : i ≠ j)
    (hx : X.env.scope.names.lookup x = some .local) (hy : X.env.scope.names.lookup y = some .local) (ha : PA X [a, b] (tPv X.K [(i, c), (j, c')] ps))
    (hw : swappedStores [.Tuple [.Name x px, .Name y py] kt pt] (.Tuple [a, b] k2 pt2) X.env = pure (some [x, y])) :
    PS X (.Assign [.Tuple [.Name x px, .Name y py] kt pt] (.Tuple [a, b] k2 pt2) pos) (tS X.K Z (xPar [(i, c), (j, c')] ps)) := by
  refine PS.weak (ps_par hc hN hi hj hij hx hy ha hw rfl) fun D σ H h => ?_
  obtain ⟨env, m, g, hs, hm, hz⟩ := par_ok h
  refine ⟨env, m, g, hs, hm, hz.mono fun vs m1 g1 H1 e1 s1 z1 xs rxs => ?_⟩
  obtain ⟨h1, h2⟩ := z1 xs rxs
  match xs, h1 with
  | [u, w], _ => exact ⟨u, w, rfl, h2⟩
/-- names, one after another -/
def gSets : List (Nat × Bool) → TGs
  | [] => gNil
  | (i, _) :: is => gCons (gName i) (gSets is)
theorem gSets_ok {H : Hp} {Q : L2.St → Hp → Prop} : ∀ {is : List (Nat × Bool)} {xs : List V} {σ : L2.St}, xs.length = is.length → Q (setS is xs σ) H → gSets is xs σ H Q
  | [], [], σ, _, q => ⟨rfl, q⟩
  | [], _ :: _, σ, h, _ => by simp at h
  | _ :: _, [], σ, h, _ => by simp at h
  | (i, c) :: is, x :: xs, σ, h, q => ⟨x, xs, rfl, gSets_ok (by simpa using h) q⟩
theorem ps_parNR {is : List (Nat × Bool)} {ts vs : List Expr} {k k2 : Nat} {q q2 : Pos} (hc : X.calm = true) (hg : PGs X ts (gSets is)) (ns : ts.all notStar = true) (hl : ts.length = is.length) (hv : vs.length ≤ 1000) (ha : PA X vs (tPv X.K is ps)) (hil : is.length ≤ 1000)
    (hw : swappedStores [.Tuple ts k q] (.Tuple vs k2 q2) X.env = pure none) : PS X (.Assign [.Tuple ts k q] (.Tuple vs k2 q2) pos) (tS X.K Z (xPar is ps)) := by
  obtain ⟨a, b⟩ := assign_len ts X.env ns
  refine PS.weak (ps_asg (pe_tup ha) (pg_tup (n := ts.length) hc hg a b) rfl hw rfl) fun D σ H h => ?_
  obtain ⟨env, m, g, hs, hm, hz⟩ := h
  refine ⟨env, m, g, hs, hm, (Rx.bindX hz).mono fun ws m1 g1 H1 e1 s1 z1 xs rxs => ?_⟩
  obtain ⟨env', h1, h2, h3⟩ := setAll_ok (hs.ext e1) rxs z1
  have hlen : xs.length ≤ sizeLine := by rw [h3, sizeLine_eq]; omega
  refine ⟨hlen, fun pp hp => ⟨pp, xs, rfl, .inl (.inl upd_same), by rw [h3, hl], gSets_ok h3 ?_⟩⟩
  have e2 := ext_new (o := .tup xs) s1 hp
  exact (h2.ext e2) _ _ (Ext.refl _ _) (sim_new s1 hp hlen) _ (h1.ext e2)
/-! cells -/
theorem cell_at {K : PySem.W.Frag} {env : Env} {σ : L2.St} {m : Mem} {g : G} {H : Hp} {i k : Nat} (hs : Sg K env σ g H) (S : SimM K m g H) (h : getV env i = some (.mr k)) : ∃ a, σ[i]? = some (some (.ref a)) ∧ g.ad[k]? = some a ∧ ∃ c vs, m[k]? = some c ∧ H a = some (.lst vs) ∧ RpAll K g.F H vs c.xs := by
  obtain ⟨x, h1, ⟨a, rfl, h2⟩, _⟩ := hs.at_ i _ h
  have hk : k < m.length := by
    rw [← S.len]
    exact (List.getElem?_eq_some_iff.mp h2).1
  obtain ⟨vs, h3, h4, _⟩ := S.cell k _ a (List.getElem?_eq_getElem hk) h2
  exact ⟨a, h1, h2, _, vs, List.getElem?_eq_getElem hk, h3, h4⟩
theorem upCell_ok {K : PySem.W.Frag} {env : Env} {σ : L2.St} {m : Mem} {g : G} {H : Hp} {i : Nat} {f : List PyData → Option (List PyData)} {Q : Flow → Mem → G → Hp → Prop} (hs : Sg K env σ g H) (S : SimM K m g H) (hz : Rx K Z (upCell env i f m) g H Q) :
    ∃ k a c vs ys, getV env i = some (.mr k) ∧ σ[i]? = some (some (.ref a)) ∧ g.ad[k]? = some a ∧ m[k]? = some c ∧ c.fz = false ∧ H a = some (.lst vs) ∧ RpAll K g.F H vs c.xs ∧ f c.xs = some ys ∧ Rx K Z (.ok (.next env) (m.set k ⟨false, ys⟩)) g H Q := by
  unfold upCell at hz
  cases h1 : getV env i with
  | none => rw [h1] at hz; exact hz.elim
  | some v =>
    rw [h1] at hz
    cases v with
    | d _ => exact hz.elim
    | fr _ => exact hz.elim
    | dv _ => exact hz.elim
    | mr k =>
      obtain ⟨a, h2, h3, c, vs, h4, h5, h6⟩ := cell_at hs S h1
      simp only [h4] at hz
      split at hz
      · rename_i hf
        cases h7 : f c.xs with
        | none => rw [h7] at hz; exact hz.elim
        | some ys =>
          rw [h7] at hz
          exact ⟨k, a, c, vs, ys, rfl, h2, h3, h4, hf, h5, h6, h7, hz⟩
      · exact hz.elim
theorem getV_some {i : Nat} {env : Env} {v : Val} (h : getV env i = some v) : i < env.length := by
  unfold getV at h
  cases h1 : env[i]? with
  | none => rw [h1] at h; cases h
  | some w => exact (List.getElem?_eq_some_iff.mp h1).1
theorem few_ok {cpos : Pos} (ns : notStar e = true) (env : PySem.Env) : ((backTo cpos (starEach [e] env)).all (fun x => !x.1) && (backToKw cpos (keywordEach [] env)).all (fun x => x.1.isSome) && decide ([e].length + ([] : List Keyword).length + (if ([] : List Keyword).isEmpty then 0 else 1) < 30)) = true := by
  rw [star1 ns]; rfl
theorem onCell_ok {K : PySem.W.Frag} {env : Env} {i : Nat} {r : Res Flow} {g : G} {H : Hp} {Q : Flow → Mem → G → Hp → Prop} (h : Rx K Z (onCell env i r) g H Q) : ∃ k, getV env i = some (.mr k) ∧ Rx K Z r g H Q := by
  unfold onCell at h
  cases h1 : getV env i with
  | none => rw [h1] at h; exact h.elim
  | some v =>
    rw [h1] at h
    cases v with
    | d _ => exact h.elim
    | fr _ => exact h.elim
    | dv _ => exact h.elim
    | mr k => exact ⟨k, rfl, h⟩
theorem ps_appR {i : Nat} {x : Str} {q apos cpos : Pos} (hN : X.N[i]? = some x) (hv : Vis X.env.scope x) (hd : (x == ("__debug__" : Str)) = false) (hcd : (x == ("__classdict__" : Str)) = false) (ha : PE X e (tE X.K p.v)) (ns : notStar e = true)
    (hl : (apos.endLine == cpos.line) = true) : PS X (.Expr (.Call (.Attribute (.Name x q) "append" apos) [e] [] cpos) pos) (tS X.K Z (xApp i p)) := by
  refine PS.weak (ps_expr (pe_bm PySem.F.plainAttrs_list PySem.F.slot_list_append PySem.F.type_list_append mt_append (pe_var hN hv hd hcd) (pa_cons ha pa_nil (star1 ns _ _)) rfl (few_ok ns _) hl (star1 ns _ _) rfl) rfl) fun D σ H ⟨env, m, g, hs, hm, hz⟩ => ?_
  obtain ⟨k, hk, hz⟩ := onCell_ok hz
  obtain ⟨a, h1, h2, c, vs, h3, h4, h5⟩ := cell_at hs hm hk
  refine ⟨.ref a, h1, .inl ⟨rfl, vs, .inl (.inl h4)⟩, env, m, g, hs, hm, (Rx.bindX hz).mono fun v m1 g1 H1 e1 s1 z1 y ry => ?_⟩
  cases hf : frz v m1 with
  | fail => rw [hf] at z1; exact z1.elim
  | exc a b => exact absurd hf frz_nx
  | ok d m2 =>
    rw [hf, Res.bind_ok] at z1
    obtain ⟨g2, s2, e2, r2⟩ := s1.frz ry hf
    have hs2 := (hs.ext e1).ext e2
    obtain ⟨k', a', c', vs', ys, k1, k2, k3, k4, k5, k6, k7, k8, k9⟩ := upCell_ok hs2 s2 (z1.ext e2)
    rw [h1] at k2
    cases k2
    split at k8
    · rename_i hlt
      cases k8
      have hlen : vs'.length < sizeLine := by rw [k7.length, ← lim_eq]; exact hlt
      obtain ⟨s3, e3⟩ := up_cell (ws := vs' ++ [y]) (ys := c'.xs ++ [d]) s2 k4 k3 k5 (k7.append (.cons r2 .nil)) (by simp; omega)
      exact ⟨a, vs', y, rfl, rfl, k6, hlen, k9 _ _ e3 s3 σ (hs2.ext e3)⟩
    · cases k8
theorem ps_extR {i : Nat} {x : Str} {q apos cpos : Pos} (hN : X.N[i]? = some x) (hv : Vis X.env.scope x) (hd : (x == ("__debug__" : Str)) = false) (hcd : (x == ("__classdict__" : Str)) = false) (ha : PE X e (tE X.K p.v)) (ns : notStar e = true)
    (hl : (apos.endLine == cpos.line) = true) (hnf : True) : PS X (.Expr (.Call (.Attribute (.Name x q) "extend" apos) [e] [] cpos) pos) (tS X.K Z fun _ _ => .fail) := ps_badR _
theorem ps_putR {i : Nat} {x : Str} {q tpos : Pos} {j : Expr} {pj : P} (hN : X.N[i]? = some x) (hv : Vis X.env.scope x) (hd : (x == ("__debug__" : Str)) = false) (hcd : (x == ("__classdict__" : Str)) = false) (ha : PE X e (tE X.K p.v)) (hj : PE X j (tE X.K pj.v)) (hsl : notSlice j = true)
    (hsw : swapsWithSole [.Subscript (.Name x q) j tpos] e pos.line X.env = pure false) (hw : swappedStores [.Subscript (.Name x q) j tpos] e X.env = pure none) :
    PS X (.Assign [.Subscript (.Name x q) j tpos] e pos) (tS X.K Z (xPut i pj p)) := by
  refine PS.weak (ps_asg ha (pg_sub (pe_var hN hv hd hcd) hj set_list (by intro v; cases j <;> first | rfl | (cases hsl; done))) hsw hw rfl) fun D σ H ⟨env, m, g, hs, hm, hz⟩ => ?_
  refine ⟨env, m, g, hs, hm, (Rx.bindX hz).mono fun v m1 g1 H1 e1 s1 z1 y ry => ?_⟩
  cases hf : frz v m1 with
  | fail => rw [hf] at z1; exact z1.elim
  | exc a b => exact absurd hf frz_nx
  | ok d m2 =>
    rw [hf, Res.bind_ok] at z1
    obtain ⟨g2, s2, e2, r2⟩ := s1.frz ry hf
    have hs2 := (hs.ext e1).ext e2
    obtain ⟨k, hk, z2⟩ := onCell_ok (z1.ext e2)
    obtain ⟨a, h1, h2, c, vs, h3, h4, h5⟩ := cell_at hs2 s2 hk
    refine ⟨.ref a, h1, env, m2, g2, hs2, s2, (Rx.bindX z2).mono fun vj m3 g3 H3 e3 s3 z3 w rw_ => ?_⟩
    obtain ⟨g4, s4, e4, r4⟩ := s3.hold rw_
    obtain ⟨dj, hdj, z4⟩ := Rx.rdBind (z3.ext e4)
    have rj := s4.read (nf_ne vj) r4 hdj
    have hs4 := (hs2.ext e3).ext e4
    obtain ⟨k', a', c', vs', ys, k1, k2, k3, k4, k5, k6, k7, k8, k9⟩ := upCell_ok hs4 s4 z4
    rw [h1] at k2
    cases k2
    unfold putD at k8
    split at k8
    · rename_i n
      obtain ⟨n', hn, e⟩ := Option.map_eq_some_iff.mp k8
      subst e
      have hz : (vs'.set n' y).length ≤ sizeLine := by rw [List.length_set]; exact s4.sz a vs' (.inl k6)
      obtain ⟨s5, e5⟩ := up_cell (ws := vs'.set n' y) (ys := c'.xs.set n' d) s4 k4 k3 k5 (k7.set n' (Rp.ext (e3.trans e4) _ r2)) hz
      exact ⟨a, vs', n, n', rfl, rj.int, k6, by rw [k7.length]; exact hn, k9 _ _ e5 s5 σ (hs4.ext e5)⟩
    · cases k8
theorem pe_popR {i : Nat} {x : Str} {q apos cpos : Pos} (hN : X.N[i]? = some x) (hv : Vis X.env.scope x) (hd : (x == ("__debug__" : Str)) = false) (hcd : (x == ("__classdict__" : Str)) = false) (ha : PE X e (tE X.K p.v)) (ns : notStar e = true)
    (hl : (apos.endLine == cpos.line) = true) : PE X (.Call (.Attribute (.Name x q) "pop" apos) [e] [] cpos) (tE X.K (cPop i p)) := by
  refine PE.weak (pe_bm PySem.F.plainAttrs_list PySem.F.slot_list_pop PySem.F.type_list_pop mt_popAt (pe_var hN hv hd hcd) (pa_cons ha pa_nil (star1 ns _ _)) rfl (few_ok ns _) hl (star1 ns _ _) rfl) fun σ H Q ⟨env, m, g, hs, hm, hz⟩ => ?_
  unfold cPop at hz
  cases hk : getV env i with
  | none => rw [hk] at hz; exact hz.elim
  | some vv =>
    rw [hk] at hz
    cases vv with
    | d _ => exact hz.elim
    | fr _ => exact hz.elim
    | dv _ => exact hz.elim
    | mr k =>
      obtain ⟨a, h1, h2, c, vs, h3, h4, h5⟩ := cell_at hs hm hk
      refine ⟨.ref a, h1, .inl ⟨rfl, vs, .inl (.inl h4)⟩, env, m, g, hs, hm, (Rz.bind hz).mono fun v m1 g1 H1 e1 s1 z1 y ry => ?_⟩
      obtain ⟨g2, s2, e2, r2⟩ := s1.hold ry
      obtain ⟨dj, hdj, z2⟩ := Rz.rdBind (z1.ext e2)
      have rj := s2.read (nf_ne v) r2 hdj
      have h2' : g2.ad[k]? = some a := e2.at (e1.at h2)
      cases dj with
      | int j =>
        have hkl : k < m1.length := by
          rw [← s2.len]
          exact (List.getElem?_eq_some_iff.mp h2').1
        have hm1 : m1[k]? = some m1[k] := List.getElem?_eq_getElem hkl
        generalize m1[k] = cc at hm1
        obtain ⟨ws, k1, k2, k3, k4⟩ := s2.cell k cc a hm1 h2'
        simp only [hm1] at z2
        split at z2
        · rename_i hc
          obtain ⟨c1, c2, c3⟩ := hc
          cases hg : cc.xs[j.toNat]? with
          | none => rw [hg] at z2; exact z2.elim
          | some d =>
            rw [hg] at z2
            obtain ⟨yy, hy, ry'⟩ := k2.get hg
            have hwl := s2.sz a ws (.inl k1)
            have hlen := k2.length
            obtain ⟨s3, e3⟩ := up_cell (ws := ws.eraseIdx j.toNat) (ys := cc.xs.eraseIdx j.toNat) s2 hm1 h2' c1 (k2.erase _) (Nat.le_trans (List.length_eraseIdx_le _ _) hwl)
            have hj : seqIndex? j ws.length = some j.toNat := (ixN_seq (show ixN ws.length j = some j.toNat by
              unfold ixN
              rw [if_pos c2, if_pos (by rw [hlen]; exact c3)])).1
            have hb : ws.length ≤ 16777216 := by rw [← sizeLine_eq]; exact hwl
            have hj2 : j < ws.length := by rw [hlen]; exact c3
            exact ⟨a, ws, j, j.toNat, yy, rfl, by rw [rj.int], k1, by omega, by omega, hj, hy, z2 _ _ e3 s3 yy (Rp.ext e3 _ ry')⟩
        · exact z2.elim
      | none => exact z2.elim
      | bool _ => exact z2.elim
      | str _ => exact z2.elim
      | list _ => exact z2.elim
      | tuple _ => exact z2.elim
      | dict _ => exact z2.elim
end
end Ra


set_option Elab.async false
set_option linter.all false
set_option autoImplicit false
set_option maxRecDepth 100000
/-! loops, calls, defs -/
namespace Ra
open PySem PySem.Spec PyProof.Rows L2
section
variable {X : Cx} {tg e : Expr} {es : List Expr} {p : P} {ps : List P} {pos : Pos} {Z : Zx}
theorem for_loop {K : PySem.W.Frag} {t : Tg} {body : EX} {J : It} {is : List PyData} {gs : List Nat} {env : Env} {m0 : Mem} {g0 : G} {H0 : Hp} {σ : L2.St} {D : Ends} (hs : Sg K env σ g0 H0) (S0 : SimM K m0 g0 H0)
    (W : WalkOk K J is gs m0 g0 H0) (hr : same gs m0 m0 = true) (hz : Rx K Z (forLoop t body gs is env m0) g0 H0 (FlowQ K D)) :
    ∃ W : Nat → Nat → L2.St → Hp → Prop, (∃ m, W 0 m σ H0) ∧ ∀ i m σ H, W i m σ H → (J.stop i H ∧ D.nx σ H) ∨ (J.go i H ∧ ∃ N : L2.St → Hp → Prop, (∀ σ' H', N σ' H' → ∃ m', m' < m ∧ W (i + 1) m' σ' H') ∧
      ∀ x H', J.yld i H x H' → gT K t x σ H' fun σ2 H2 => tS K Z body { D with nx := N, ct := N, bk := D.nx } σ2 H2) := by
  refine ⟨fun i n σ H => ∃ (env : Env) (m : Mem) (g : G), i + n = is.length ∧ Ext g0 H0 g H ∧ SimM K m g H ∧ same gs m0 m = true ∧ Sg K env σ g H ∧ Rx K Z (forLoop t body gs (is.drop i) env m) g H (FlowQ K D),
    ⟨is.length, env, m0, g0, by omega, Ext.refl _ _, S0, hr, hs, by rw [List.drop_zero]; exact hz⟩, fun i n σ H hW => ?_⟩
  obtain ⟨env, m, g, hn, e, S, sm, hs, hZ⟩ := hW
  by_cases hi : i < is.length
  · have hdi : is[i]? = some is[i] := List.getElem?_eq_getElem hi
    rw [List.drop_eq_getElem_cons hi] at hZ
    simp only [forLoop] at hZ
    refine .inr ⟨W.go i m g H e.toBack S sm hi, fun σ' H' => ∃ (env : Env) (m : Mem) (g : G), Ext g0 H0 g H' ∧ SimM K m g H' ∧ same gs m0 m = true ∧ Sg K env σ' g H' ∧ Rx K Z (forLoop t body gs (is.drop (i + 1)) env m) g H' (FlowQ K D), fun σ' H' hN => ?_, fun x H' hy => ?_⟩
    · obtain ⟨env', m', g', a1, a2, a3, a4, a5⟩ := hN
      exact ⟨n - 1, by omega, env', m', g', by omega, a1, a2, a3, a4, a5⟩
    · obtain ⟨S1, e1, r1⟩ := W.yld i m g H x H' is[i] e.toBack S sm hdi hy
      cases ha : asg t is[i] env with
      | none => rw [ha] at hZ; exact hZ.elim
      | some env' =>
        rw [ha] at hZ
        refine ⟨env, g, _, env', hs.ext e1, r1, ha, fun σ2 hs2 _ => ⟨env', m, g, hs2, S1, ?_⟩⟩
        refine (Rx.bind (hZ.ext e1)).mono fun f m2 g2 H2 e2 s2 z2 => ?_
        cases f with
        | next env2 =>
          intro σ3 hs3
          simp only at z2
          split at z2
          · rename_i hsm
            exact ⟨env2, m2, g2, (e.trans e1).trans e2, s2, same_trans sm hsm, hs3, z2⟩
          · exact z2.elim
        | cnt env2 =>
          intro σ3 hs3
          simp only at z2
          split at z2
          · rename_i hsm
            exact ⟨env2, m2, g2, (e.trans e1).trans e2, s2, same_trans sm hsm, hs3, z2⟩
          · exact z2.elim
        | brk env2 => exact Rx.ok_now (Z := Z) z2 s2
        | ret v => exact Rx.ok_now (Z := Z) z2 s2
  · have hlen : i = is.length := by omega
    subst hlen
    rw [List.drop_length] at hZ
    exact .inl ⟨W.stop _ m g H e.toBack S sm (Nat.le_refl _), Rx.ok_now hZ S σ hs⟩
theorem ps_forR {iter : Expr} {body : List Stmt} {t : Tg} {k : Sk} {x : EX} (hx : PassesOwn (model X.prog X.w) X.A X.env X.xe) (hc : X.calm = true) (hi : PI X tg iter (iS X.K (srcR k ps))) (hg : PG X tg (gT X.K t)) (hb : PSs X body (tS X.K Z x)) (hs : notSet iter = true) :
    PS X (.For tg iter body [] pos) (tS X.K Z (xFor t k ps x)) := by
  refine PS.weak (ps_for hx hc hi hg hb (not_folded hs _)) fun D σ H ⟨env, m, g, hs, hm, hz⟩ => ?_
  refine ⟨env, m, g, hs, hm, (Rx.bindX hz).mono fun q m1 g1 H1 e1 s1 z1 J hJ hr => ?_⟩
  exact for_loop (hs.ext e1) s1 hJ hr z1
theorem ps_whileR {c : Expr} {body : List Stmt} {x : EX} {n : Nat} (hx : PassesOwn (model X.prog X.w) X.A X.env X.xe) (hc : PT X c (tT X.K p.t)) (hb : PSs X body (tS X.K Z x)) : PS X (.While c body [] pos) (tS X.K Z (whileLoop p x n)) := by
  refine PS.weak (ps_while hx hc hb) fun D σ H ⟨env, m, g, hs, hm, hz⟩ => ?_
  refine ⟨fun n σ H => ∃ (env : Env) (m : Mem) (g : G), Sg X.K env σ g H ∧ SimM X.K m g H ∧ Rx X.K Z (whileLoop p x n env m) g H (FlowQ X.K D), ⟨n, env, m, g, hs, hm, hz⟩, fun n σ H hW => ?_⟩
  obtain ⟨env, m, g, hs, hm, hz⟩ := hW
  cases n with
  | zero => exact hz.elim
  | succ n =>
    simp only [whileLoop] at hz
    refine ⟨env, m, g, hs, hm, (Rx.bindX hz).mono fun b m1 g1 H1 e1 s1 z1 => ?_⟩
    cases b with
    | false => exact Rx.ok_now (Z := Z) z1 s1 σ (hs.ext e1)
    | true =>
      simp only [if_true] at z1 ⊢
      refine ⟨fun σ' H' => ∃ (env : Env) (m : Mem) (g : G), Sg X.K env σ' g H' ∧ SimM X.K m g H' ∧ Rx X.K Z (whileLoop p x n env m) g H' (FlowQ X.K D), fun σ' H' hN => ⟨n, Nat.lt_succ_self _, hN⟩, env, m1, g1, hs.ext e1, s1, ?_⟩
      refine (Rx.bind z1).mono fun f m2 g2 H2 e2 s2 z2 => ?_
      cases f with
      | next env2 => exact fun σ3 hs3 => ⟨env2, m2, g2, hs3, s2, z2⟩
      | cnt env2 => exact fun σ3 hs3 => ⟨env2, m2, g2, hs3, s2, z2⟩
      | brk env2 => exact Rx.ok_now (Z := Z) z2 s2
      | ret v => exact Rx.ok_now (Z := Z) z2 s2
/-! calls -/
theorem Rz.bind0 {K : PySem.W.Frag} {α β : Type} {g : G} {H : Hp} {r : Res α} {f : α → Mem → Res β} {Q : β → Mem → G → Hp → Prop} (h : Rz K (r.bind f) g H Q) : Rz K r g H fun a m' g' H' => Ext g H g' H' ∧ SimM K m' g' H' ∧ Rz K (f a m') g H Q := by
  cases r with
  | ok a m' => exact fun g2 H2 e2 s2 => ⟨e2, s2, h⟩
  | exc x m' => exact h
  | fail => exact h
/-- what is raised, at its class's value -/
def zE (cv : Nat → Value) (E : XK) : Zx := fun x _ _ H => E (cv x.cls) none H
def spOf (K : PySem.W.Frag) (cv : Nat → Value) (np : Nat) (c : List Val → Mem → Res Val) : Sp := fun vs H Q E => vs.length = np ∧ ∃ args m g, SimM K m g H ∧ RpVs K g H vs args ∧ Rx K (zE cv E) (c args m) g H (Ans K Q)
theorem RpVs.length {K : PySem.W.Frag} {g : G} {H : Hp} : ∀ {xs : List V} {vs : List Val}, RpVs K g H xs vs → xs.length = vs.length
  | _, _, .nil => rfl
  | _, _, .cons _ _ t => by rw [List.length_cons, List.length_cons, RpVs.length t]
theorem cArgs_len : ∀ (ps : List P) {env : Env} {m : Mem} {vs : List Val} {m' : Mem}, cArgs ps env m = .ok vs m' → vs.length = ps.length
  | [], env, m, ds, m', h => by
    simp only [cArgs, Res.ok.injEq] at h
    rw [← h.1]; rfl
  | p :: ps, env, m, ds, m', h => by
    simp only [cArgs] at h
    cases h1 : p.v env m with
    | fail => rw [h1] at h; simp at h
    | exc a b => rw [h1] at h; simp at h
    | ok v m1 =>
      rw [h1] at h; simp only [Res.bind_ok] at h
      cases h3 : cArgs ps env m1 with
      | fail => rw [h3] at h; simp at h
      | exc a b => rw [h3] at h; simp at h
      | ok ds' m3 =>
        rw [h3] at h; simp only [Res.bind_ok, Res.ok.injEq] at h
        rw [← h.1, List.length_cons, cArgs_len ps h3, List.length_cons]
theorem call_ok {K : PySem.W.Frag} {call : Call} {f : Nat} {cv : Nat → Value} {σ : L2.St} {H : Hp} {Q : VK} {E : XK} (h : tE K (cCall call f ps) σ H Q) : tCall (spOf K cv ps.length (call f)) [] E (tAr K (cArgs ps)) σ H Q := by
  obtain ⟨env, m, g, hs, hm, hz⟩ := h
  refine ⟨env, m, g, hs, hm, ?_⟩
  have hz' := Rz.bind hz
  cases h1 : cArgs ps env m with
  | fail => rw [h1] at hz'; exact hz'.elim
  | exc a b => rw [h1] at hz'; exact hz'.elim
  | ok vs m1 =>
    rw [h1] at hz'
    intro g1 H1 e1 s1 xs rxs
    rw [List.append_nil]
    exact ⟨by rw [rxs.length, cArgs_len ps h1], vs, m1, g1, s1, rxs, (hz' g1 H1 e1 s1).rx⟩
/-- the cells of a def go -/
theorem leave_ok {K : PySem.W.Frag} {m m2 : Mem} {g g2 : G} {H H2 : Hp} {v : Val} {x : V} {Q : Val → Mem → G → Hp → Prop} (S : SimM K m g H) (e : Ext g H g2 H2) (s2 : SimM K m2 g2 H2) (r : RpV K g2 H2 x v) (hz : Rz K (leave m.length v m2) g H Q) :
    ∃ v' m' g', Ext g H g' H2 ∧ SimM K m' g' H2 ∧ RpV K g' H2 x v' ∧ Q v' m' g' H2 := by
  cases hl : leave m.length v m2 with
  | fail => rw [hl] at hz; exact hz.elim
  | exc a b => rw [hl] at hz; exact hz.elim
  | ok v' m' =>
    rw [hl] at hz
    have hn : m.length ≤ m2.length := by
      obtain ⟨more, h⟩ := e.ads
      rw [← S.len, ← s2.len, h, List.length_append]; omega
    obtain ⟨rfl, r'⟩ := s2.leave r hl hn
    have e' : Ext g H ⟨g2.F, g2.ad.take m.length, g2.pr⟩ H2 := ⟨e.sub, e.fix, e.tup, e.frz, by
      obtain ⟨more, h⟩ := e.ads
      exact ⟨[], by rw [h, ← S.len]; simp⟩, e.pre, e.keep⟩
    exact ⟨v', _, _, e', s2.take _, r', hz _ _ e' (s2.take _)⟩
theorem callc_ok {K : PySem.W.Frag} {call : Call} {f : Nat} {cv : Nat → Value} {σ : L2.St} {H : Hp} {Q : VK} {E : XK} (h : tE K (cCallC call f ps) σ H Q) : tCall (spOf K cv ps.length (call f)) [] E (tAr K (cArgs ps)) σ H Q := by
  obtain ⟨env, m, g, hs, hm, hz⟩ := h
  refine ⟨env, m, g, hs, hm, ?_⟩
  have hz' := Rz.bind0 hz
  cases h1 : cArgs ps env m with
  | fail => rw [h1] at hz'; exact hz'.elim
  | exc a b => rw [h1] at hz'; exact hz'.elim
  | ok vs m1 =>
    rw [h1] at hz'
    intro g1 H1 e1 s1 xs rxs
    obtain ⟨_, _, z1⟩ := hz' g1 H1 e1 s1
    rw [List.append_nil]
    refine ⟨by rw [rxs.length, cArgs_len ps h1], vs, m1, g1, s1, rxs, ?_⟩
    cases h2 : call f vs m1 with
    | fail => rw [h2] at z1; exact z1.elim
    | exc a b => rw [h2] at z1; exact z1.elim
    | ok v m2 =>
      rw [h2] at z1
      show Rx K _ _ _ _ _
      intro g2 H2 e2 s2 x rx
      obtain ⟨v', m', g', k1, k2, k3, k4⟩ := leave_ok hm (e1.trans e2) s2 rx z1
      exact k4 x k3
theorem pe_cellR (h : PE X e (tE X.K p.v)) : PE X e (tE X.K (cCell p)) := by
  refine PE.weak h fun σ H Q ⟨env, m, g, hs, hm, hz⟩ => ?_
  refine ⟨env, m, g, hs, hm, (Rz.bind hz).mono fun v m1 g1 H1 e1 s1 z1 x rx => ?_⟩
  cases hc : mkCell v m1 with
  | fail => rw [hc] at z1; exact z1.elim
  | exc a b => rw [hc] at z1; exact z1.elim
  | ok v' m2 =>
    rw [hc] at z1
    obtain ⟨g2, s2, e2, r2, _⟩ := s1.mkCell rx hc
    exact z1 _ _ e2 s2 x r2
/-! a def -/
theorem start_ok {K : PySem.W.Frag} {g : G} {H : Hp} {N : List Str} : ∀ {xs : List V} {vs : List Val}, RpVs K g H xs vs → xs.length ≤ N.length → Sg K (vs.map some ++ List.replicate (N.length - vs.length) none) (L2.start N xs) g H := by
  intro xs vs h hl
  have hlen := h.length
  refine ⟨by unfold L2.start; simp [hlen], fun i v q => ?_⟩
  have key : ∀ {xs : List V} {vs : List Val} (r : RpVs K g H xs vs) (i : Nat) (v : Val), vs[i]? = some v → ∃ x, xs[i]? = some x ∧ RpV K g H x v ∧ ∀ ys, v ≠ .fr ys := by
    intro xs vs r
    induction r with
    | nil => intro i v h; simp at h
    | cons r hf t ih =>
      intro i v h
      cases i with
      | zero =>
        simp at h; subst h
        exact ⟨_, rfl, r, hf⟩
      | succ i =>
        simp at h
        obtain ⟨x, a, b, c⟩ := ih i v h
        exact ⟨x, by simpa using a, b, c⟩
  unfold getV at q
  by_cases hi : i < vs.length
  · rw [List.getElem?_append_left (by simpa using hi), List.getElem?_map, List.getElem?_eq_getElem hi] at q
    simp at q
    obtain ⟨x, a, b, c⟩ := key h i v (by rw [List.getElem?_eq_getElem hi, q])
    refine ⟨x, ?_, b, c⟩
    unfold L2.start
    rw [List.getElem?_append_left (by rw [List.length_map, hlen]; exact hi), List.getElem?_map, a]
    rfl
  · rw [List.getElem?_append_right (by simpa using hi), List.getElem?_replicate] at q
    split at q <;> cases q
theorem fn_zero {P : Program} {w : World} {K : PySem.W.Frag} {mg : Str → Option Value} {base : Heap} {CX : CXT} {f : Addr} {fd : FuncData} {ps : List Str} {T : List Fn} {wf i : Nat} {cv : Nat → Value} : FnOk P w K mg base CX 0 f fd ps (spOf K cv ps.length (run T wf 0 i)) :=
  ⟨fun vs H Q E h => h.1, fun A outer s H args us vs Q E hr he hb hv ⟨_, _, _, _, _, _, hz⟩ => hz.elim⟩
/-- what stands around a def's statements -/
structure Arnd (X : Cx) (W : WX) : Prop where
  po : PassesOwn (model X.prog X.w) X.A X.env X.xe
  tk : Takes X W
  hs : X.stack = X.env :: X.outer
  hf : X.env.frame = some X.env.locals
theorem take_ext {K : PySem.W.Frag} {m : Mem} {g g1 : G} {H H1 : Hp} (Sm : SimM K m g H) (e1 : Ext g H g1 H1) : Ext g H ⟨g1.F, g1.ad.take m.length, g1.pr⟩ H1 := ⟨e1.sub, e1.fix, e1.tup, e1.frz, by
  obtain ⟨more, h⟩ := e1.ads
  exact ⟨[], by rw [h, ← Sm.len]; simp⟩, e1.pre, e1.keep⟩
theorem fn_succ {P : Program} {w : World} {K : PySem.W.Frag} {mg : Str → Option Value} {base : Heap} {x qual : Str} {params : Arguments} {body : List Stmt} {scope : Scope} {kws : List (Str × V)} {f : Addr} {fd : FuncData} {N ps : List Str} {T : List Fn} {wf i n : Nat} {Fb : Fn} {cv : Nat → Value}
    (F : FunD K x qual params body scope [] kws f fd) (S : FnScope N ps scope) (hT : T[i]? = some Fb) (hn : Fb.n = N.length) (hps : Fb.ps = ps.length)
    (hb : ∀ (X : Cx) (E : XK), X.prog = P → X.w = w → X.K = K → X.mg = mg → X.base = base → X.env.scope = scope → X.N = N → X.calm = true → Arnd X (fun cls d _ H => E cls d H) → (∀ y, X.fn y = true) → Room n X.A → PSs X body (tS K (zE cv E) (exB (run T wf n) wf Fb.body))) :
    FnOk P w K mg base (L2.CX P w) (n + 1) f fd ps (spOf K cv ps.length (run T wf (n + 1) i)) := by
  refine F.ok S (fun vs H Q E h => h.1) (fun cdv A outer s H vs Q E hr h => ?_)
  obtain ⟨hl, args, m, g, Sm, rvs, hz⟩ := h
  refine ⟨tS K (zE cv E) (exB (run T wf n) wf Fb.body), ?_, ?_⟩
  · exact hb _ E rfl rfl rfl rfl rfl rfl rfl rfl ⟨passes_of rfl, takes_of rfl rfl rfl rfl, rfl, rfl⟩ (fun _ => rfl) hr
  · have hla := rvs.length
    simp only [run, hT] at hz
    split at hz
    · rename_i hc
      have hN : ps.length ≤ N.length := by rw [← hps, ← hn]; exact hc.2
      have hs : Sg K (args.map some ++ List.replicate (Fb.n - Fb.ps) none) (L2.start N vs) g H := by
        rw [hn, hps, ← hl, hla]
        exact start_ok rvs (by rw [hl]; exact hN)
      refine ⟨_, m, g, hs, Sm, ?_⟩
      cases hB : exB (run T wf n) wf Fb.body (args.map some ++ List.replicate (Fb.n - Fb.ps) none) m with
      | fail => rw [hB] at hz; exact hz.elim
      | exc y m1 =>
        rw [hB] at hz
        exact fun g1 H1 e1 s1 => hz _ _ (take_ext Sm e1) (s1.take _)
      | ok fl m1 =>
        rw [hB] at hz
        intro g1 H1 e1 s1
        cases fl with
        | ret v =>
          intro y ry
          have hz' : Rx K (zE cv E) (leave m.length v m1) g H (Ans K Q) := hz
          have hz2 : Rz K (leave m.length v m1) g H (Ans K Q) := by
            cases hv : leave m.length v m1 with
            | ok a b => rw [hv] at hz'; exact hz'
            | fail => rw [hv] at hz'; exact hz'
            | exc a b =>
              exfalso
              unfold leave at hv
              cases v with
              | d _ => cases hv
              | fr _ => cases hv
              | dv _ => cases hv
              | mr k =>
                simp only at hv
                split at hv
                · cases hv
                · split at hv <;> cases hv
          obtain ⟨v', m', g', k1, k2, k3, k4⟩ := leave_ok Sm e1 s1 ry hz2
          exact k4 y k3
        | next env' =>
          intro σ' _
          exact hz _ _ (take_ext Sm e1) (s1.take _) .non .non
        | brk env' => exact hz.elim
        | cnt env' => exact hz.elim
    · exact hz.elim
end
end Ra


set_option Elab.async false
set_option linter.all false
set_option autoImplicit false
set_option maxRecDepth 100000
/-! stars, dicts, the first place -/
namespace Ra
open PySem PySem.Spec PyProof.Rows L2
section
variable {X : Cx} {e : Expr} {es : List Expr} {p : P} {ps : List P} {pos : Pos}
/-! stars -/
theorem pa_sF {bs : List Bool} (ha : PE X e (tE X.K p.v)) (hr : PA X es (tIt X.K (cItemsS bs ps))) (ns : notStar e = true) : PA X (e :: es) (tIt X.K (cItemsS (false :: bs) (p :: ps))) := by
  refine PA.weak (pa_cons ha hr (star1 ns _ _)) fun σ H Q ⟨env, m, g, hs, hm, hz⟩ => ?_
  refine ⟨env, m, g, hs, hm, (Rz.bind hz).mono fun v m1 g1 H1 e1 s1 z1 x rx => ?_⟩
  cases hf : frz v m1 with
  | fail => rw [hf] at z1; exact z1.elim
  | exc a b => rw [hf] at z1; exact z1.elim
  | ok d m2 =>
    rw [hf, Res.bind_ok] at z1
    obtain ⟨g2, s2, e2, r2⟩ := s1.frz rx hf
    exact ⟨env, m2, g2, (hs.ext e1).ext e2, s2, (Rz.bind (z1.ext e2)).mono fun ds m3 g3 H3 e3 s3 z3 xs rxs => Rz.ok_now z3 s3 (x :: xs) (.cons (Rp.ext e3 _ r2) rxs)⟩
theorem pa_sT {bs : List Bool} {q : Pos} (ha : PE X e (tE X.K p.v)) (hr : PA X es (tIt X.K (cItemsS bs ps))) : PA X (.Starred e q :: es) (tIt X.K (cItemsS (true :: bs) (p :: ps))) := by
  refine PA.weak (StX.pa_star ha hr) fun σ H Q ⟨env, m, g, hs, hm, hz⟩ => ?_
  refine ⟨env, m, g, hs, hm, (Rz.bind hz).mono fun v m1 g1 H1 e1 s1 z1 x rx => ?_⟩
  obtain ⟨g2, s2, e2, r2⟩ := s1.hold rx
  obtain ⟨d, hd, z2⟩ := Rz.rdBind (z1.ext e2)
  obtain ⟨ys, hy, z3⟩ := Rz.optBind z2
  have rr := s2.read (nf_ne v) r2 hd
  have key : ∃ a xs, x = V.ref a ∧ (SqT X.K H1 a xs ∨ SqL X.K H1 a xs) ∧ RpAll X.K g2.F H1 xs ys := by
    cases d with
    | list ds =>
      cases hy
      obtain ⟨a, xs, rfl, h1, h2⟩ := rr.lst
      exact ⟨a, xs, rfl, .inr (.inl h1), h2⟩
    | tuple ds =>
      cases hy
      obtain ⟨a, xs, rfl, h1, h2⟩ := rr.tup
      exact ⟨a, xs, rfl, .inl h1, h2⟩
    | none | bool _ | int _ | str _ | dict _ => cases hy
  obtain ⟨a, xs, rfl, h1, h2⟩ := key
  exact ⟨a, xs, rfl, h1, env, m1, g2, (hs.ext e1).ext e2, s2, (Rz.bind z3).mono fun ds m3 g3 H3 e3 s3 z4 zs rzs => Rz.ok_now z4 s3 (xs ++ zs) ((RpAll.ext e3 _ h2).append rzs)⟩
theorem pa_sN : PA X [] (tIt X.K (cItemsS [] [])) := PA.weak pa_nil fun σ H Q ⟨env, m, g, hs, hm, hz⟩ => Rz.ok_now hz hm [] .nil
theorem pe_tupS {k : Nat} {bs : List Bool} (h : PA X es (tIt X.K (cItemsS bs ps))) : PE X (.Tuple es k pos) (tE X.K (cTupS bs ps)) := by
  refine PE.weak (pe_tup h) fun σ H Q ⟨env, m, g, hs, hm, hz⟩ => ?_
  refine ⟨env, m, g, hs, hm, (Rz.bind hz).mono fun ds m1 g1 H1 e1 s1 z1 xs rxs => ?_⟩
  split at z1
  · rename_i hl
    have hz : xs.length ≤ sizeLine := by rw [rxs.length, sizeLine_eq]; exact hl
    refine ⟨hz, fun t ht => ?_⟩
    obtain ⟨a1, a2, a3⟩ := new_tup s1 ht rxs hz
    exact Rz.ok_now (z1.ext a2) a1 _ a3
  · exact z1.elim
theorem pe_lstS {bs : List Bool} (h : PA X es (tIt X.K (cItemsS bs ps))) : PE X (.List es pos) (tE X.K (cLstS bs ps)) := by
  refine PE.weak (pe_lst h) fun σ H Q ⟨env, m, g, hs, hm, hz⟩ => ?_
  refine ⟨env, m, g, hs, hm, (Rz.bind hz).mono fun ds m1 g1 H1 e1 s1 z1 xs rxs => ?_⟩
  split at z1
  · rename_i hl
    have hz : xs.length ≤ sizeLine := by rw [rxs.length, sizeLine_eq]; exact hl
    refine ⟨hz, fun t ht => ?_⟩
    obtain ⟨a1, a2, a3⟩ := new_list s1 ht rxs hz
    exact Rz.ok_now (z1.ext a2) a1 _ a3
  · exact z1.elim
/-! dicts -/
theorem keyD_beq (j k : Key) : beqD (keyD j) (keyD k) = decide (j = k) := by
  cases j with
  | inl i =>
    cases k with
    | inl i' => show (i == i') = _; by_cases h : i = i' <;> simp [h]
    | inr z => simp [keyD, beqD]
  | inr z =>
    cases k with
    | inl i => simp [keyD, beqD]
    | inr z' => show (z == z') = _; by_cases h : z = z' <;> simp [h]
variable {K : PySem.W.Frag} {F : Addr → Prop} {H : Hp}
theorem RpK.len : ∀ {ks : List (Key × V)} {ds : List (PyData × PyData)}, RpK K F H ks ds → ks.length = ds.length
  | _, _, .nil => rfl
  | _, _, .cons _ t => by simp [t.len]
theorem RpK.look (k : Key) : ∀ {ks : List (Key × V)} {ds : List (PyData × PyData)}, RpK K F H ks ds → (valV ks k = none ∧ dLook ds (keyD k) = none) ∨ ∃ v d, valV ks k = some v ∧ dLook ds (keyD k) = some d ∧ Rp K F H v d
  | _, _, .nil => .inl ⟨rfl, rfl⟩
  | _, _, .cons (k := j) (v := v) (d := d) a t => by
    by_cases h : j = k
    · subst h
      exact .inr ⟨v, d, valV_pos rfl, by simp [dLook, keyD_beq], a⟩
    · have hb : beqD (keyD j) (keyD k) = false := by rw [keyD_beq]; exact decide_eq_false h
      rcases t.look k with ⟨q1, q2⟩ | ⟨v', d', q1, q2, q3⟩
      · exact .inl ⟨by rw [valV_neg h]; exact q1, by simp [dLook, hb, q2]⟩
      · exact .inr ⟨v', d', by rw [valV_neg h]; exact q1, by simp [dLook, hb, q2], q3⟩
theorem RpK.any (k : Key) : ∀ {ks : List (Key × V)} {ds : List (PyData × PyData)}, RpK K F H ks ds → (ds.any fun p => beqD p.1 (keyD k)) = ks.any fun kv => decide (kv.1 = k)
  | _, _, .nil => rfl
  | _, _, .cons a t => by simp only [List.any_cons, t.any k, keyD_beq]
theorem RpK.map {k : Key} {v : V} {d : PyData} (r : Rp K F H v d) : ∀ {ks : List (Key × V)} {ds : List (PyData × PyData)}, RpK K F H ks ds → RpK K F H (ks.map fun kv => if kv.1 = k then (kv.1, v) else kv) (ds.map fun p => if beqD p.1 (keyD k) = true then (p.1, d) else p)
  | _, _, .nil => .nil
  | _, _, .cons (k := j) a t => by
    by_cases h : j = k
    · simp only [List.map_cons, keyD_beq, h, decide_true, if_true]
      exact .cons r (t.map r)
    · simp only [List.map_cons, keyD_beq, h, decide_false, Bool.false_eq_true, if_false]
      exact .cons a (t.map r)
theorem RpK.snoc {k : Key} {v : V} {d : PyData} (r : Rp K F H v d) : ∀ {ks : List (Key × V)} {ds : List (PyData × PyData)}, RpK K F H ks ds → RpK K F H (ks ++ [(k, v)]) (ds ++ [(keyD k, d)])
  | _, _, .nil => .cons r .nil
  | _, _, .cons a t => .cons a (t.snoc r)
theorem RpK.put {k : Key} {v : V} {d : PyData} (r : Rp K F H v d) {ks : List (Key × V)} {ds : List (PyData × PyData)} (t : RpK K F H ks ds) : RpK K F H (putK ks k v) (dPut ds (keyD k) d) := by
  unfold putK dPut
  rw [t.any k]
  split
  · exact t.map r
  · exact t.snoc r
theorem put_len (k : Key) (v : V) (ks : List (Key × V)) : (putK ks k v).length ≤ ks.length + 1 := by
  unfold putK
  split
  · simp
  · simp
/-- a key among data -/
theorem key_of {x : V} {y : PyData} (h : Rr K F H x y) (hk : keyB y = true) : ∃ k : Key, x = kV k ∧ y = keyD k := by
  cases y with
  | int i => exact ⟨.inl i, h.int, rfl⟩
  | str z => exact ⟨.inr z, h.str, rfl⟩
  | none | bool _ | list _ | tuple _ | dict _ => cases hk
theorem up_dict {m : Mem} {g : G} {H : Hp} {D : Addr} {ks ks' : List (Key × V)} (S : SimM K m g H) (hD : H D = some (.dK ks)) (nF : ¬ g.F D) (nA : D ∉ g.ad) (nP : ¬ g.pr D) : SimM K m g (upd H D (.dK ks')) ∧ Ext g H g (upd H D (.dK ks')) := by
  have e : Ext g H g (upd H D (.dK ks')) := ⟨fun _ h => h, fun b hb => by
    have z : b ≠ D := fun z => nF (by rw [← z]; exact hb)
    rw [upd_ne z], fun b xs hb => by rw [upd_ne (ne_of hb hD (by intro z; cases z))]; exact hb, fun b o u hb => by rw [upd_ne (ne_of hb hD (by intro z; cases z))]; exact hb, ⟨[], by simp⟩, rfl, fun b hb => by
    have z : b ≠ D := fun z => nP (by rw [← z]; exact hb)
    rw [upd_ne z]⟩
  refine ⟨⟨fun b hb => ?_, S.len, S.nd, fun k c b h1 h2 => ?_, fun b xs hb => ?_, fun b hb => ?_, S.prF, S.prA⟩, e⟩
  · obtain ⟨xs, z⟩ := S.fs b hb
    exact ⟨xs, (e.fix b hb).trans z⟩
  · obtain ⟨us, p', q', r', t'⟩ := S.cell k c b h1 h2
    have nb : b ≠ D := fun z => nA (by rw [← z]; exact List.mem_of_getElem? h2)
    exact ⟨us, by rw [upd_ne nb]; exact p', RpAll.ext e _ q', r', t'⟩
  · by_cases hb' : b = D
    · subst hb'
      rw [upd_same] at hb
      rcases hb with z | z | ⟨_, z⟩ | ⟨_, z⟩ <;> cases z
    · rw [upd_ne hb'] at hb
      exact S.sz b xs hb
  · obtain ⟨o', q'⟩ := S.prs b hb
    exact ⟨o', (e.keep b hb).trans q'⟩
/-- a dict that is new, held from now on -/
theorem new_dv {m : Mem} {g : G} {H : Hp} {D : Addr} {ks : List (Key × V)} {ds : List (PyData × PyData)} (S : SimM K m g H) (hD : H D = some (.dK ks)) (nA : D ∉ g.ad) (nP : ¬ g.pr D) (r : RpK K g.F H ks ds) :
    ∃ g', SimM K m g' H ∧ Ext g H g' H ∧ RpV K g' H (.ref D) (.dv ds) := by
  obtain ⟨S', e⟩ := S.fix hD nA nP
  exact ⟨_, S', e, D, ks, rfl, .inl rfl, hD, RpK.ext e r⟩
theorem dictR_of {v : Val} {m : Mem} {g : G} {H : Hp} {α : Type} {f : List (PyData × PyData) → Mem → Res α} {Q : α → Mem → G → Hp → Prop} (h : Rz K ((dictR v m).bind f) g H Q) : ∃ kvs, v = .dv kvs ∧ Rz K (f kvs m) g H Q := by
  cases v with
  | dv kvs => exact ⟨kvs, rfl, h⟩
  | d _ => exact h.elim
  | fr _ => exact h.elim
  | mr _ => exact h.elim
theorem keyR_of {y : PyData} {m : Mem} {g : G} {H : Hp} {α : Type} {f : PyData → Mem → Res α} {Q : α → Mem → G → Hp → Prop} (h : Rz K ((keyR y m).bind f) g H Q) : keyB y = true ∧ Rz K (f y m) g H Q := by
  unfold keyR at h
  split at h
  · rename_i hk; exact ⟨hk, h⟩
  · exact h.elim
theorem pe_dgetR {o f : Expr} {apos cpos : Pos} {pd pk px : P} (hu : X.A.units + 1 < cLine) (ho : PE X o (tE X.K pd.v)) (he : PE X e (tE X.K pk.v)) (hf : PE X f (tE X.K px.v)) (m : M2 X o "get" apos e f cpos) :
    PE X (.Call (.Attribute o "get" apos) [e, f] [] cpos) (tE X.K (cDget pd pk px)) := by
  refine PE.weak (pe_dget2 hu ho he hf m) fun σ H Q ⟨env, m, g, hs, hm, hz⟩ => ?_
  refine ⟨env, m, g, hs, hm, (Rz.bind hz).mono fun vd m1 g1 H1 e1 s1 z1 x rx => ?_⟩
  obtain ⟨kvs, rfl, z1'⟩ := dictR_of z1
  have rx0 := rx
  obtain ⟨a, ks, rfl, q1, q2, q3⟩ := rx0
  refine ⟨a, rfl, .inl ⟨ks, .inl q2⟩, env, m1, g1, hs.ext e1, s1, (Rz.bind z1').mono fun vk m2 g2 H2 e2 s2 z2 y ry => ?_⟩
  obtain ⟨g3, s3, e3, r3⟩ := s2.hold ry
  refine ⟨env, m2, g3, ((hs.ext e1).ext e2).ext e3, s3, (Rz.bind (z2.ext e3)).mono fun vx m4 g4 H4 e4 s4 z4 z rz => ?_⟩
  obtain ⟨g5, s5, e5, r5⟩ := s4.hold rz
  obtain ⟨yd, hyd, z5⟩ := Rz.rdBind z4
  obtain ⟨hk, z6⟩ := keyR_of z5
  have rr := s4.read (nf_ne vk) (r3.ext e4 (nf_ne vk)) hyd
  obtain ⟨k, rfl, rfl⟩ := key_of rr hk
  cases hf : frz vx m4 with
  | fail => rw [hf] at z6; exact z6.elim
  | exc a b => rw [hf] at z6; exact z6.elim
  | ok zd m5 =>
    rw [hf, Res.bind_ok] at z6
    obtain ⟨g6, s6, e6, r6⟩ := s4.frz rz hf
    have eA := ((e2.trans e3).trans e4).trans e6
    have q2' : H4 a = some (.dK ks) := (eA.fix a q1).trans q2
    have q3' := RpK.ext eA q3
    refine ⟨valV ks k, .inl ⟨ks, k, .inl q2', rfl, rfl⟩, ?_⟩
    rcases q3'.look k with ⟨l1, l2⟩ | ⟨v, d, l1, l2, l3⟩
    · rw [l1]
      rw [l2] at z6
      exact Rz.ok_now (z6.ext e6) s6 z r6
    · rw [l1]
      rw [l2] at z6
      exact Rz.ok_now (z6.ext e6) s6 v l3
theorem pe_datR {o i : Expr} {pd pk : P} (hu : X.A.units + 1 < cLine) (ho : PE X o (tE X.K pd.v)) (he : PE X i (tE X.K pk.v)) (hn : NoSl i) : PE X (.Subscript o i pos) (tE X.K (cDat pd pk)) := by
  refine PE.weak (pe_dget hu ho he hn) fun σ H Q ⟨env, m, g, hs, hm, hz⟩ => ?_
  refine ⟨env, m, g, hs, hm, (Rz.bind hz).mono fun vd m1 g1 H1 e1 s1 z1 x rx => ?_⟩
  obtain ⟨kvs, rfl, z1'⟩ := dictR_of z1
  have rx0 := rx
  obtain ⟨a, ks, rfl, q1, q2, q3⟩ := rx0
  refine ⟨env, m1, g1, hs.ext e1, s1, (Rz.bind z1').mono fun vk m2 g2 H2 e2 s2 z2 y ry => ?_⟩
  obtain ⟨g3, s3, e3, r3⟩ := s2.hold ry
  obtain ⟨yd, hyd, z5⟩ := Rz.rdBind (z2.ext e3)
  obtain ⟨hk, z6⟩ := keyR_of z5
  obtain ⟨k, rfl, rfl⟩ := key_of (s3.read (nf_ne vk) r3 hyd) hk
  obtain ⟨d, hd, z7⟩ := Rz.optBind z6
  have eA := e2.trans e3
  rcases (RpK.ext eA q3).look k with ⟨l1, l2⟩ | ⟨v, d', l1, l2, l3⟩
  · rw [l2] at hd; cases hd
  · rw [l2] at hd
    cases hd
    exact ⟨a, v, rfl, .inl ⟨ks, k, .inl ((eA.fix a q1).trans q2), rfl, l1.symm⟩, Rz.ok_now z7 s3 v l3⟩
theorem din_ok {neg : Bool} {pk pd : P} {σ : L2.St} {H : Hp} {Q : VK} (h : tE X.K (cDin neg pk pd) σ H Q) : tE X.K pk.v σ H fun y H1 => tE X.K pd.v σ H1 fun x H2 => ∃ a o, x = .ref a ∧ DGet H2 a y o ∧ Q (.bl (xor neg o.isSome)) H2 := by
  obtain ⟨env, m, g, hs, hm, hz⟩ := h
  refine ⟨env, m, g, hs, hm, (Rz.bind hz).mono fun vk m1 g1 H1 e1 s1 z1 y ry => ?_⟩
  obtain ⟨g2, s2, e2, r2⟩ := s1.hold ry
  refine ⟨env, m1, g2, (hs.ext e1).ext e2, s2, (Rz.bind (z1.ext e2)).mono fun vd m3 g3 H3 e3 s3 z3 x rx => ?_⟩
  obtain ⟨yd, hyd, z5⟩ := Rz.rdBind z3
  obtain ⟨hk, z6⟩ := keyR_of z5
  obtain ⟨kvs, rfl, z7⟩ := dictR_of z6
  obtain ⟨k, rfl, rfl⟩ := key_of (s3.read (nf_ne vk) (r2.ext e3 (nf_ne vk)) hyd) hk
  obtain ⟨a, ks, rfl, q1, q2, q3⟩ := rx
  refine ⟨a, valV ks k, rfl, .inl ⟨ks, k, .inl q2, rfl, rfl⟩, ?_⟩
  have e : (valV ks k).isSome = (dLook kvs (keyD k)).isSome := by
    rcases q3.look k with ⟨l1, l2⟩ | ⟨v, d', l1, l2, l3⟩ <;> rw [l1, l2] <;> rfl
  rw [e]
  exact ans_d s3 z7 (.bl _)
theorem pe_dinR {i o : Expr} {pk pd : P} (hu : X.A.units + 1 < cLine) (hi : PE X i (tE X.K pk.v)) (ho : PE X o (tE X.K pd.v)) (hb : behindInMarks .In o = false) : PE X (.Compare i [.In] [o] pos) (tE X.K (cDin false pk pd)) :=
  PE.weak (pe_cmp (pc_din hu hi ho) hb) fun σ H Q h => by
    have q := din_ok h
    simp only [Bool.false_xor] at q
    exact q
theorem pe_dnotinR {i o : Expr} {pk pd : P} (hu : X.A.units + 1 < cLine) (hi : PE X i (tE X.K pk.v)) (ho : PE X o (tE X.K pd.v)) (hb : behindInMarks .NotIn o = false) : PE X (.Compare i [.NotIn] [o] pos) (tE X.K (cDin true pk pd)) :=
  PE.weak (pe_cmp (pc_dnotin hu hi ho) hb) fun σ H Q h => by
    have q := din_ok h
    simp only [Bool.true_xor] at q
    exact q
/-! dict(pairs) -/
theorem pairs_ok {m : Mem} {g : G} {H : Hp} (S : SimM K m g H) : ∀ {xs : List V} {ds : List PyData} {acc out : List (PyData × PyData)} {ka : List (Key × V)}, RpAll K g.F H xs ds → RpK K g.F H ka acc → pairsD ds acc = some out →
    ∃ (ps : List Addr) (kvs : List (Key × V)), xs = ps.map V.ref ∧ Paired (fun p (kv : Key × V) => SqT K H p [kV kv.1, kv.2]) ps kvs ∧ RpK K g.F H (mergeK ka kvs) out
  | _, [], acc, out, ka, .nil, r, h => by
    obtain rfl : acc = out := Option.some.inj h
    exact ⟨[], [], rfl, .nil, r⟩
  | _, d :: ds, acc, out, ka, .cons a t, r, h => by
    unfold pairsD at h
    split at h
    · cases (by assumption : d :: ds = [])
    · rename_i k v rest heq
      obtain ⟨rfl, rfl⟩ := List.cons.inj heq
      split at h
      · rename_i hk
        obtain ⟨p, ys, rfl, h1, h2⟩ := (Rp.rr a).tup
        cases h2 with
        | cons b1 b2 =>
          cases b2 with
          | cons c1 c2 =>
            cases c2
            obtain ⟨kk, rfl, rfl⟩ := key_of (Rp.rr b1) hk
            obtain ⟨ps, kvs, rfl, q1, q2⟩ := pairs_ok S t (r.put (k := kk) c1) h
            exact ⟨p :: ps, (kk, _) :: kvs, rfl, .cons h1 q1, q2⟩
      · cases h
    · cases h
theorem pe_dmkR {q : Pos} (hc : X.calm = true) (hg : Gl X "dict") (hm : X.mg "dict" = none) (ha : PE X e (tE X.K p.v)) (ns : notStar e = true) : PE X (.Call (.Name "dict" q) [e] [] pos) (tE X.K (cDmk p)) := by
  have b1 : bootBuiltins "dict" = some (.type "dict") := by decide +kernel
  refine PE.weak (pe_callTy (p := q) (pos := pos) (call_dictP hc) hg hm b1 (pa_cons ha pa_nil (star1 ns _ _)) (by decide) (by decide) (star1 ns _ _) (star_plain _ _ _ rfl)) fun σ H Q ⟨env, m, g, hs, hm', hz⟩ => ?_
  refine ⟨env, m, g, hs, hm', (Rz.bind hz).mono fun v m1 g1 H1 e1 s1 z1 x rx => ?_⟩
  obtain ⟨g2, s2, e2, r2⟩ := s1.hold rx
  obtain ⟨d, hd, z2⟩ := Rz.rdBind (z1.ext e2)
  have rr := s2.read (nf_ne v) r2 hd
  cases d with
  | list ds =>
    obtain ⟨kvs, hk, z3⟩ := Rz.optBind z2
    obtain ⟨a, xs, rfl, h1, h2⟩ := rr.lst
    obtain ⟨ps, ks, rfl, q1, q2⟩ := pairs_ok s2 h2 .nil hk
    refine ⟨a, ps, ks, rfl, .inl h1, q1, fun D hD => ?_⟩
    have s3 := sim_new (o := .dK (mergeK [] ks)) s2 hD trivial
    have e3 := ext_new (o := .dK (mergeK [] ks)) s2 hD
    obtain ⟨g4, s4, e4, r4⟩ := new_dv s3 upd_same (not_ad s2 hD) (not_pr s2 hD) (RpK.ext e3 q2)
    exact Rz.ok_now (z3.ext (e3.trans e4)) s4 _ r4
  | none | bool _ | int _ | str _ | tuple _ | dict _ => exact z2.elim
/-! {k: v for ..} -/
structure AtK (K : PySem.W.Frag) (D : Addr) (m : Mem) (g : G) (H : Hp) (ks : List (Key × V)) (ds : List (PyData × PyData)) : Prop where
  sim : SimM K m g H
  at_ : H D = some (.dK ks)
  rp : RpK K g.F H ks ds
  nF : ¬ g.F D
  nA : D ∉ g.ad
  nP : ¬ g.pr D
theorem dc_ok {own : List Nat} {t : Tg} {k : Sk} {src tests : List P} {ke ve : P} (hsl : ∀ i ∈ slots t, i ∈ own) {σ : L2.St} {H : Hp} {Q : VK} (h : tE K (cDc own t k src tests ke ve) σ H Q) :
    tDc (iS K (srcR k src)) (gT K t) (tT K (tAll tests)) (tE K ke.v) (tE K ve.v) own σ H Q := by
  obtain ⟨env, m, g, hs, hm, hz⟩ := h
  refine ⟨env, m, g, hs, hm, (Rz.bind hz).mono fun q m0 g0 H0 e0 S0 z0 J W hr => ?_⟩
  replace hs := hs.ext e0
  obtain ⟨is, gs⟩ := q
  dsimp only at z0 W hr
  intro D hD
  refine ⟨fun i n H => ∃ (m : Mem) (g : G) (ks : List (Key × V)) (ds : List (PyData × PyData)), i + n = is.length ∧ Ext g0 H0 g H ∧ AtK K D m g H ks ds ∧ same gs m0 m = true ∧ ks.length ≤ i ∧ Rz K (dcLoop t tests ke ve gs (wipe env own) (is.drop i) ds m) g H fun zs m' g' H' => ∀ x, RpV K g' H' x (.dv zs) → Q x H',
    ⟨is.length, m0, g0, [], [], Nat.zero_add _, ext_new S0 hD, ⟨sim_new S0 hD trivial, upd_same, .nil, not_F S0 hD, not_ad S0 hD, not_pr S0 hD⟩, hr, Nat.le_refl _, ?_⟩, fun i n H hW => ?_⟩
  · rw [List.drop_zero]
    exact ((Rz.bind z0).mono fun ys m2 g2 H2 e2 s2 z2 => Rz.ok_now z2 s2).ext (ext_new S0 hD)
  · obtain ⟨m, g, ks, ds, hn, e, ⟨S, hA, hR, nF, nA, nP⟩, sm, hl, hZ⟩ := hW
    by_cases hi : i < is.length
    · have hdi : is[i]? = some is[i] := List.getElem?_eq_getElem hi
      rw [List.drop_eq_getElem_cons hi] at hZ
      simp only [dcLoop] at hZ
      refine .inr ⟨W.go i m g H e.toBack S sm hi, fun H' => ∃ (m : Mem) (g : G) (ks : List (Key × V)) (ds : List (PyData × PyData)), Ext g0 H0 g H' ∧ AtK K D m g H' ks ds ∧ same gs m0 m = true ∧ ks.length ≤ i + 1 ∧ Rz K (dcLoop t tests ke ve gs (wipe env own) (is.drop (i + 1)) ds m) g H' fun zs m' g' H' => ∀ x, RpV K g' H' x (.dv zs) → Q x H', fun H' hN => ?_, fun x H' hy => ?_⟩
      · obtain ⟨m', g', acc', ys', a1, a2, a3, a4, a5⟩ := hN
        exact ⟨n - 1, by omega, m', g', acc', ys', by omega, a1, a2, a3, a4, a5⟩
      · obtain ⟨S1, e1, r1⟩ := W.yld i m g H x H' is[i] e.toBack S sm hdi hy
        have hs1 : Sg K (wipe env own) (L2.wipe σ own) g H' := ((hs.ext e).ext e1).wipe own
        have hZ1 := hZ.ext e1
        cases ha : asg t is[i] (wipe env own) with
        | none => rw [ha] at hZ1; exact hZ1.elim
        | some env' =>
          rw [ha] at hZ1
          refine ⟨_, g, _, env', hs1, r1, ha, fun σ2 hs2 w2 => ⟨by rw [w2 own hsl]; exact wipe_wipe σ own, ?_⟩⟩
          have hA1 : H' D = some (.dK ks) := ((W.yld i m (g.hold D) H x H' is[i] e.toBack (prot S hA nF nA) sm hdi hy).2.1.keep D (.inl rfl)).trans hA
          have hR1 := RpK.ext e1 hR
          have S2 := prot S1 hA1 nF nA
          dsimp only at hZ1
          refine ⟨env', m, g.hold D, Sg.pr hs2, S2, ?_⟩
          cases ht : tAll tests env' m with
          | fail => rw [ht] at hZ1; exact hZ1.elim
          | exc a b => rw [ht] at hZ1; exact hZ1.elim
          | ok b m1 =>
            rw [ht, Res.bind_ok] at hZ1
            intro g2 H2 e2 s2
            obtain ⟨s2', e2', hD2, nF2, nA2⟩ := unprot s2 e2
            have hz2 := hZ1.ext e2'
            cases b with
            | false =>
              simp only [Bool.false_eq_true, if_false] at hz2 ⊢
              split at hz2
              · rename_i hsm
                exact ⟨m1, _, ks, ds, (e.trans e1).trans e2', ⟨s2', hD2.trans hA1, RpK.ext e2' hR1, nF2, nA2, nP⟩, same_trans sm hsm, by omega, hz2⟩
              · exact hz2.elim
            | true =>
              simp only [if_true] at hz2 ⊢
              refine ⟨env', m1, g2, (Sg.pr hs2).ext e2, s2, ?_⟩
              cases hv : ke.v env' m1 with
              | fail => rw [hv] at hz2; exact hz2.elim
              | exc a b => rw [hv] at hz2; exact hz2.elim
              | ok vk m2 =>
                rw [hv, Res.bind_ok] at hz2
                intro g3 H3 e3 s3 y ry
                cases hf : frz vk m2 with
                | fail => rw [hf] at hz2; exact hz2.elim
                | exc a b => rw [hf] at hz2; exact hz2.elim
                | ok yd m3 =>
                  rw [hf, Res.bind_ok] at hz2
                  obtain ⟨g4, s4, e4, r4⟩ := s3.frz ry hf
                  refine ⟨env', m3, g4, (((Sg.pr hs2).ext e2).ext e3).ext e4, s4, ?_⟩
                  cases hv5 : ve.v env' m3 with
                  | fail => rw [hv5] at hz2; exact hz2.elim
                  | exc a b => rw [hv5] at hz2; exact hz2.elim
                  | ok vv m4 =>
                    rw [hv5, Res.bind_ok] at hz2
                    intro g5 H5 e5 s5 z rz
                    cases hf6 : frz vv m4 with
                    | fail => rw [hf6] at hz2; exact hz2.elim
                    | exc a b => rw [hf6] at hz2; exact hz2.elim
                    | ok zd m5 =>
                      rw [hf6, Res.bind_ok] at hz2
                      obtain ⟨g6, s6, e6, r6⟩ := s5.frz rz hf6
                      split at hz2
                      · rename_i hc
                        obtain ⟨kk, rfl, rfl⟩ := key_of (Rp.rr r4) hc.1
                        obtain ⟨s6', e6', hD6, nF6, nA6⟩ := unprot s6 ((((e2.trans e3).trans e4).trans e5).trans e6)
                        have hA6 : H5 D = some (.dK ks) := hD6.trans hA1
                        have r6' : Rp K (g6.back g.pr).F H5 z zd := r6
                        obtain ⟨s7, e7⟩ := up_dict (ks' := putK ks kk z) s6' hA6 nF6 nA6 nP
                        have hlt : ks.length < sizeLine := Nat.lt_of_le_of_lt hl (Nat.lt_of_lt_of_le hi W.len)
                        have hpl := put_len kk z ks
                        refine ⟨ks, kk, rfl, hA6, hlt, m5, g6.back g.pr, putK ks kk z, dPut ds (keyD kk) zd, ((e.trans e1).trans e6').trans e7, ⟨s7, upd_same, RpK.ext e7 ((RpK.ext e6' hR1).put r6'), nF6, nA6, nP⟩, same_trans sm hc.2, by omega, ?_⟩
                        have eB : Ext (g2.back g.pr) H2 (g6.back g.pr) H5 := by
                          have eC := ((e3.trans e4).trans e5).trans e6
                          exact ⟨eC.sub, eC.fix, eC.tup, eC.frz, eC.ads, rfl, fun a h => eC.keep a (by rw [e2.pre]; exact .inr h)⟩
                        exact hz2.ext (eB.trans e7)
                      · exact hz2.elim
    · have hlen : i = is.length := by omega
      subst hlen
      refine .inl ⟨W.stop _ m g H e.toBack S sm (Nat.le_refl _), ?_⟩
      rw [List.drop_length] at hZ
      simp only [dcLoop] at hZ
      obtain ⟨g4, s4, e4, r4⟩ := new_dv S hA nA nP hR
      exact Rz.ok_now (hZ.ext e4) s4 _ r4
/-! the first place -/
theorem lFind_ok {y : PyData} : ∀ {xs : List PyData} {i j : Nat}, lFind y i xs = some j → ∃ n z, j = i + n ∧ xs[n]? = some z ∧ PyData.eqv z y = true ∧ ∀ (m : Nat) (z' : PyData), m < n → xs[m]? = some z' → PyData.eqv z' y = false
  | [], i, j, h => by cases h
  | x :: xs, i, j, h => by
    unfold lFind at h
    split at h
    · rename_i hx
      obtain rfl : i = j := Option.some.inj h
      exact ⟨0, x, rfl, rfl, hx, fun m z' hm => absurd hm (Nat.not_lt_zero _)⟩
    · rename_i hx
      obtain ⟨n, z, rfl, h1, h2, h3⟩ := lFind_ok h
      refine ⟨n + 1, z, by omega, by simpa using h1, h2, fun m z' hm hz => ?_⟩
      cases m with
      | zero =>
        simp at hz
        subst hz
        exact Bool.eq_false_iff.mpr hx
      | succ m => exact h3 m z' (by omega) (by simpa using hz)
theorem pe_lidxR {i : Nat} {x : Str} {q apos cpos : Pos} (hu : X.A.units + 200 < cLine) (hN : X.N[i]? = some x) (hv : Vis X.env.scope x) (hd : (x == ("__debug__" : Str)) = false) (hcd : (x == ("__classdict__" : Str)) = false) (ha : PE X e (tE X.K p.v)) (ns : notStar e = true)
    (hl : (apos.endLine == cpos.line) = true) : PE X (.Call (.Attribute (.Name x q) "index" apos) [e] [] cpos) (tE X.K (cLidx i p)) := by
  refine PE.weak (pe_bm PySem.F.plainAttrs_list PySem.F.slot_list_index PySem.F.type_list_index (mt_indexD (by omega)) (pe_var hN hv hd hcd) (pa_cons ha pa_nil (star1 ns _ _)) rfl (few_ok ns _) hl (star1 ns _ _) rfl) fun σ H Q ⟨env, m, g, hs, hm, hz⟩ => ?_
  unfold cLidx at hz
  cases hk : getV env i with
  | none => rw [hk] at hz; exact hz.elim
  | some vv =>
    rw [hk] at hz
    cases vv with
    | d _ => exact hz.elim
    | fr _ => exact hz.elim
    | dv _ => exact hz.elim
    | mr k =>
      obtain ⟨a, h1, h2, c, vs, h3, h4, h5⟩ := cell_at hs hm hk
      refine ⟨.ref a, h1, .inl ⟨rfl, vs, .inl (.inl h4)⟩, env, m, g, hs, hm, (Rz.bind hz).mono fun v m1 g1 H1 e1 s1 z1 y ry => ?_⟩
      obtain ⟨g2, s2, e2, r2⟩ := s1.hold ry
      obtain ⟨dj, hdj, z2⟩ := Rz.rdBind (z1.ext e2)
      have rj := s2.read (nf_ne v) r2 hdj
      have h2' : g2.ad[k]? = some a := e2.at (e1.at h2)
      cases hm1 : m1[k]? with
      | none => rw [hm1] at z2; exact z2.elim
      | some cc =>
        rw [hm1] at z2
        dsimp only at z2
        obtain ⟨ws, k1, k2, k3, k4⟩ := s2.cell k cc a hm1 h2'
        split at z2
        · rename_i hdep
          obtain ⟨j, hj, z3⟩ := Rz.optBind z2
          obtain ⟨n, z, rfl, f1, f2, f3⟩ := lFind_ok hj
          have rl : Rr X.K g2.F H1 (.ref a) (.list cc.xs) := ⟨a, ws, rfl, .inl k1, k2⟩
          refine ⟨a, y, dj, cc.xs, n, z, rfl, rfl, rl.dp, rj.dp, ?_, ?_, f1, f2, f3, ?_⟩
          · exact Bool.and_eq_true_iff.mpr ⟨rl.lay, decide_eq_true hdep.2⟩
          · exact Bool.and_eq_true_iff.mpr ⟨rj.lay, decide_eq_true hdep.1⟩
          · rw [Nat.zero_add] at z3
            exact ans_d s2 z3 (.int _)
        · exact z2.elim
end
end Ra


set_option Elab.async false
set_option linter.all false
set_option autoImplicit false
set_option maxRecDepth 100000
/-! list.remove of data -/
namespace Ra
open PySem PySem.Spec PyProof.Rows L2
section
variable {X : Cx}
def rRemD (K : PySem.W.Frag) : V → List V → Hp → VK → Prop := fun x xs H Q => ∃ (a : Addr) (y : V) (d : PyData) (ws : List V) (ds : List PyData) (j : Nat) (z : PyData), x = V.ref a ∧ xs = [y] ∧ H a = some (.lst ws) ∧ DpAll K H ws ds ∧ Dp K H y d ∧
  SeqAt.shaped (.list ds) = true ∧ SeqAt.shaped d = true ∧ ds[j]? = some z ∧ PyData.eqv z d = true ∧ (∀ (m : Nat) (z' : PyData), m < j → ds[m]? = some z' → PyData.eqv z' d = false) ∧ Q .non (upd H a (.lst (ws.eraseIdx j)))
theorem mt_remD (hu : X.A.units + 65 < cLine) : MtM X "list.remove" (rRemD X.K) := by
  intro pins s σ H x xs v us Q I rx rxs h
  obtain ⟨a, y, d, ws, ds, j, z, rfl, rfl, hH, ha, hy, sl, sd, hz, hzj, hno, q⟩ := h
  cases rx
  obtain ⟨uy, rfl, ry⟩ := rxs.one
  obtain ⟨bs, r1⟩ := Dp.reads I d y uy hy ry
  have hxs : PyData.canLayAll0 ds = true := SeqAt.canLay_of_shaped sl
  have hroom : X.A.units + 1 + min (PyData.depthAll ds) d.depth < cLine := room_in_shaped sd hu
  obtain ⟨zz, its, n, rv, hl, ho⟩ := I.lstM hH
  obtain ⟨as, h4⟩ := Dp.readsAll I ds _ its ha rv
  have hn : its.length = ds.length := SeqAt.ReadsAll.length ds its as h4
  have hmap : its.map (SeqAt.readOf s.heap) = ds := SeqAt.readsAll_map ds its as hxs h4
  obtain ⟨hjd, _⟩ := List.getElem?_eq_some_iff.mp hz
  have hjl : j < its.length := by omega
  have hj : j < its.toArray.size := by simpa using hjl
  have at_ : ∀ (m : Nat) (hm : m < its.toArray.size) (z' : PyData), ds[m]? = some z' → SeqAt.readOf s.heap its.toArray[m] = z' := by
    intro m hm z' hz'
    have hml : m < its.length := by simpa using hm
    rw [← hmap, List.getElem?_map, List.getElem?_eq_getElem hml] at hz'
    have e1 : SeqAt.readOf s.heap its[m] = z' := Option.some.inj (show some (SeqAt.readOf s.heap its[m]) = some z' from hz')
    simpa using e1
  refine call_meets PySem.F.slot_list_remove ⟨_, ho, rfl⟩ PySem.F.entry_list_remove (PySem.F.args_list_remove_2 _ _)
    (SeqAt.list_removeAt a its.toArray n none #[] uy (fun u => PyData.eqv (SeqAt.readOf s.heap u) d) j hj ?_ ?_ (by rw [List.size_toArray, ← hl]; exact zz)) ⟨ho, SeqAt.items_eqAt (vs := its.toArray) (show ReadsAll s.heap its.toArray.toList ds as from h4) r1 hxs (SeqAt.canLay_of_shaped sd) hroom, ?_⟩
  · show PyData.eqv (SeqAt.readOf s.heap its.toArray[j]) d = true
    rw [at_ j hj z hz]
    exact hzj
  · intro m hm hmj
    have hmd : m < ds.length := by omega
    have hz' : ds[m]? = some ds[m] := List.getElem?_eq_getElem hmd
    show PyData.eqv (SeqAt.readOf s.heap its.toArray[m]) d = false
    rw [at_ m hm _ hz']
    exact hno m _ hmj hz'
  · refine ⟨.non, _, I.lset (its' := its.eraseIdx j) hH ho ?_ (rv.eraseIdx j) ?_, rfl, q⟩
    · show its.toArray.eraseIdxIfInBounds j = (its.eraseIdx j).toArray
      rw [List.eraseIdxIfInBounds_toArray]
    · exact Nat.le_trans (List.length_eraseIdx_le _ _) zz
variable {Z : Zx} {e : Expr} {p : P} {pos : Pos}
theorem ps_remR {i : Nat} {x : Str} {q apos cpos : Pos} (hu : X.A.units + 200 < cLine) (hN : X.N[i]? = some x) (hv : Vis X.env.scope x) (hd : (x == ("__debug__" : Str)) = false) (hcd : (x == ("__classdict__" : Str)) = false) (ha : PE X e (tE X.K p.v)) (ns : notStar e = true)
    (hl : (apos.endLine == cpos.line) = true) : PS X (.Expr (.Call (.Attribute (.Name x q) "remove" apos) [e] [] cpos) pos) (tS X.K Z (xRem i p)) := by
  refine PS.weak (ps_expr (pe_bm PySem.F.plainAttrs_list PySem.F.slot_list_remove PySem.F.type_list_remove (mt_remD (by omega)) (pe_var hN hv hd hcd) (pa_cons ha pa_nil (star1 ns _ _)) rfl (few_ok ns _) hl (star1 ns _ _) rfl) rfl) fun D σ H ⟨env, m, g, hs, hm, hz⟩ => ?_
  obtain ⟨k, hk, hz⟩ := onCell_ok hz
  obtain ⟨a, h1, h2, c, vs, h3, h4, h5⟩ := cell_at hs hm hk
  refine ⟨.ref a, h1, .inl ⟨rfl, vs, .inl (.inl h4)⟩, env, m, g, hs, hm, (Rx.bindX hz).mono fun v m1 g1 H1 e1 s1 z1 y ry => ?_⟩
  obtain ⟨g2, s2, e2, r2⟩ := s1.hold ry
  obtain ⟨dj, hdj, z2⟩ := Rx.rdBind (z1.ext e2)
  have rj := s2.read (nf_ne v) r2 hdj
  have hs2 := (hs.ext e1).ext e2
  obtain ⟨k', a', c', vs', ys, k1, k2, k3, k4, k5, k6, k7, k8, k9⟩ := upCell_ok hs2 s2 z2
  rw [h1] at k2
  cases k2
  unfold remD at k8
  split at k8
  · rename_i hdep
    obtain ⟨j, hj, e⟩ := Option.map_eq_some_iff.mp k8
    subst e
    obtain ⟨n, z, rfl, f1, f2, f3⟩ := lFind_ok hj
    have rl : Rr X.K g2.F H1 (.ref a) (.list c'.xs) := ⟨a, vs', rfl, .inl k6, k7⟩
    have hz : (vs'.eraseIdx n).length ≤ sizeLine := Nat.le_trans (List.length_eraseIdx_le _ _) (s2.sz a vs' (.inl k6))
    rw [Nat.zero_add] at k9
    obtain ⟨s3, e3⟩ := up_cell (ws := vs'.eraseIdx n) (ys := c'.xs.eraseIdx n) s2 k4 k3 k5 (k7.erase n) hz
    refine ⟨a, y, dj, vs', c'.xs, n, z, rfl, rfl, k6, RpAll.dp _ k7, rj.dp, ?_, ?_, f1, f2, f3, k9 _ _ e3 s3 σ (hs2.ext e3)⟩
    · exact Bool.and_eq_true_iff.mpr ⟨rl.lay, decide_eq_true hdep.2⟩
    · exact Bool.and_eq_true_iff.mpr ⟨rj.lay, decide_eq_true hdep.1⟩
  · cases k8
end
end Ra


set_option Elab.async false
set_option linter.all false
set_option autoImplicit false
set_option maxRecDepth 100000
/-! a[i], b[j] = x, y -/
namespace Ra
open PySem PySem.Spec PyProof.Rows L2
theorem bind_assoc {α β γ : Type} (r : Res α) (f : α → Mem → Res β) (k : β → Mem → Res γ) : (r.bind f).bind k = r.bind fun a m => (f a m).bind k := by
  cases r <;> rfl
section
variable {X : Cx} {Z : Zx}
theorem upCell_okB {K : PySem.W.Frag} {env : Env} {σ : L2.St} {m : Mem} {g : G} {H : Hp} {i : Nat} {f : List PyData → Option (List PyData)} {k : Flow → Mem → Res Flow} {Q : Flow → Mem → G → Hp → Prop} (hs : Sg K env σ g H) (S : SimM K m g H) (hz : Rx K Z ((upCell env i f m).bind k) g H Q) :
    ∃ kk a c vs ys, getV env i = some (.mr kk) ∧ σ[i]? = some (some (.ref a)) ∧ g.ad[kk]? = some a ∧ m[kk]? = some c ∧ c.fz = false ∧ H a = some (.lst vs) ∧ RpAll K g.F H vs c.xs ∧ f c.xs = some ys ∧ Rx K Z (k (.next env) (m.set kk ⟨false, ys⟩)) g H Q := by
  have h0 : Rx K Z (upCell env i f m) g H (fun _ _ _ _ => True) := by
    cases h : upCell env i f m with
    | ok a b => intro g' H' e s; trivial
    | fail => rw [h] at hz; exact hz.elim
    | exc a b => rw [h] at hz; exact hz
  obtain ⟨kk, a, c, vs, ys, k1, k2, k3, k4, k5, k6, k7, k8, _⟩ := upCell_ok hs S h0
  refine ⟨kk, a, c, vs, ys, k1, k2, k3, k4, k5, k6, k7, k8, ?_⟩
  have e : upCell env i f m = .ok (.next env) (m.set kk ⟨false, ys⟩) := by
    unfold upCell
    rw [k1]
    simp only
    rw [k4]
    simp only [k5, if_true, k8]
  rw [e] at hz
  exact hz
theorem putX_ok {env : Env} {σ : L2.St} {m : Mem} {g : G} {H : Hp} {i : Nat} {pj : P} {v : V} {d : PyData} {k : Flow → Mem → Res Flow} {QQ : Flow → Mem → G → Hp → Prop} {R : L2.St → Hp → Prop} (hs : Sg X.K env σ g H) (S : SimM X.K m g H) (r : Rp X.K g.F H v d)
    (hz : Rx X.K Z ((putX i pj d env m).bind k) g H QQ) (hk : ∀ m' g' H', Ext g H g' H' → SimM X.K m' g' H' → Rx X.K Z (k (.next env) m') g' H' QQ → R σ H') : gSub (tVar i) (tE X.K pj.v) rSetL v σ H R := by
  unfold putX at hz
  have hc : ∃ kk, getV env i = some (.mr kk) := by
    cases h : getV env i with
    | none => simp only [onCell, h] at hz; exact hz.elim
    | some vv =>
      cases vv with
      | mr kk => exact ⟨kk, rfl⟩
      | d _ => simp only [onCell, h] at hz; exact hz.elim
      | fr _ => simp only [onCell, h] at hz; exact hz.elim
      | dv _ => simp only [onCell, h] at hz; exact hz.elim
  obtain ⟨kk, hkk⟩ := hc
  simp only [onCell, hkk] at hz
  rw [bind_assoc] at hz
  obtain ⟨a, h1, h2, c, vs, h3, h4, h5⟩ := cell_at hs S hkk
  refine ⟨.ref a, h1, env, m, g, hs, S, (Rx.bindX hz).mono fun vj m3 g3 H3 e3 s3 z3 w rw_ => ?_⟩
  obtain ⟨g4, s4, e4, r4⟩ := s3.hold rw_
  rw [bind_assoc] at z3
  obtain ⟨dj, hdj, z4⟩ := Rx.rdBind (z3.ext e4)
  have rj := s4.read (nf_ne vj) r4 hdj
  have hs4 := (hs.ext e3).ext e4
  obtain ⟨k', a', c', vs', ys, k1, k2, k3, k4, k5, k6, k7, k8, k9⟩ := upCell_okB hs4 s4 z4
  rw [h1] at k2
  cases k2
  unfold putD at k8
  split at k8
  · rename_i n
    obtain ⟨n', hn, e⟩ := Option.map_eq_some_iff.mp k8
    subst e
    have hz : (vs'.set n' v).length ≤ sizeLine := by rw [List.length_set]; exact s4.sz a vs' (.inl k6)
    obtain ⟨s5, e5⟩ := up_cell (ws := vs'.set n' v) (ys := c'.xs.set n' d) s4 k4 k3 k5 (k7.set n' (Rp.ext (e3.trans e4) _ r)) hz
    exact ⟨a, vs', n, n', rfl, rj.int, k6, by rw [k7.length]; exact hn, hk _ _ _ ((e3.trans e4).trans e5) s5 (k9.ext e5)⟩
  · cases k8
variable {ps : List P} {pos : Pos}
theorem ps_put2R {i1 i2 : Nat} {x1 x2 : Str} {q1 q2 p1 p2 : Pos} {j1 j2 : Expr} {pj1 pj2 : P} {vs : List Expr} {k k2 : Nat} {q qq : Pos} (hc : X.calm = true) (hN1 : X.N[i1]? = some x1) (hv1 : Vis X.env.scope x1) (hd1 : (x1 == ("__debug__" : Str)) = false) (hcd1 : (x1 == ("__classdict__" : Str)) = false)
    (hN2 : X.N[i2]? = some x2) (hv2 : Vis X.env.scope x2) (hd2 : (x2 == ("__debug__" : Str)) = false) (hcd2 : (x2 == ("__classdict__" : Str)) = false)
    (ha : PA X vs (tIt X.K (cItems ps))) (hj1 : PE X j1 (tE X.K pj1.v)) (hj2 : PE X j2 (tE X.K pj2.v)) (hs1 : notSlice j1 = true) (hs2 : notSlice j2 = true)
    (hw : swappedStores [.Tuple [.Subscript (.Name x1 q1) j1 p1, .Subscript (.Name x2 q2) j2 p2] k q] (.Tuple vs k2 qq) X.env = pure none) :
    PS X (.Assign [.Tuple [.Subscript (.Name x1 q1) j1 p1, .Subscript (.Name x2 q2) j2 p2] k q] (.Tuple vs k2 qq) pos) (tS X.K Z (xPut2 i1 pj1 i2 pj2 ps)) := by
  have g1 : PG X (.Subscript (.Name x1 q1) j1 p1) (gSub (tVar i1) (tE X.K pj1.v) rSetL) := pg_sub (pe_var hN1 hv1 hd1 hcd1) hj1 set_list (by intro v; cases j1 <;> first | rfl | (cases hs1; done))
  have g2 : PG X (.Subscript (.Name x2 q2) j2 p2) (gSub (tVar i2) (tE X.K pj2.v) rSetL) := pg_sub (pe_var hN2 hv2 hd2 hcd2) hj2 set_list (by intro v; cases j2 <;> first | rfl | (cases hs2; done))
  refine PS.weak (ps_asg (pe_tup ha) (pg_tup (n := 2) hc (pgs_cons g1 (pgs_cons g2 pgs_nil))) rfl hw rfl) fun D σ H h => ?_
  obtain ⟨env, m, g, hs, hm, hz⟩ := h
  refine ⟨env, m, g, hs, hm, (Rx.bindX hz).mono fun ds m1 g1 H1 e1 s1 z1 xs rxs => ?_⟩
  match ds, xs, rxs, z1 with
  | [d1, d2], [v1, v2], .cons r1 (.cons r2 .nil), z1 =>
    refine ⟨by rw [sizeLine_eq]; show 2 ≤ 16777216; decide, fun pp hp => ⟨pp, [v1, v2], rfl, .inl (.inl upd_same), rfl, ?_⟩⟩
    have e2 := ext_new (o := .tup [v1, v2]) s1 hp
    have s2 := sim_new s1 hp (o := .tup [v1, v2]) (by show 2 ≤ sizeLine; rw [sizeLine_eq]; decide)
    refine ⟨v1, [v2], rfl, putX_ok ((hs.ext e1).ext e2) s2 (Rp.ext e2 _ r1) (z1.ext e2) fun m' g' H' e' s' z' => ⟨v2, [], rfl, ?_⟩⟩
    have z'' : Rx X.K Z ((putX i2 pj2 d2 env m').bind fun f m => .ok f m) g' H' (FlowQ X.K D) := by
      have : ((putX i2 pj2 d2 env m').bind fun f m => .ok f m) = putX i2 pj2 d2 env m' := by cases putX i2 pj2 d2 env m' <;> rfl
      rw [this]
      exact z'
    refine putX_ok (((hs.ext e1).ext e2).ext e') s' (Rp.ext (e2.trans e') _ r2) z'' fun m3 g3 H3 e3 s3 z3 => ⟨rfl, ?_⟩
    exact z3 _ _ (Ext.refl _ _) s3 _ ((((hs.ext e1).ext e2).ext e').ext e3)
end
end Ra


set_option Elab.async false
set_option linter.all false
set_option autoImplicit false
set_option maxRecDepth 100000
/-! which term of the evaluator stands for which expression -/
namespace Ra
open PySem PySem.Spec PyProof.Rows L2
/-- what is known of the text -/
structure Cs where
  N : List Str
  fns : List (Str × List Str × List (List Str × List Nat))
  free : List Str
  glo : List (Str × PyData)
  /-- the classes of errors -/
  xs : List Str
def okName (x : Str) : Bool := !(x == ("__debug__" : Str)) && !(x == ("__classdict__" : Str)) && decide (x ≠ "__name__")
def visB (sc : Scope) (x : Str) : Bool := match sc.names.lookup x with
  | some .local => true
  | some .cell => true
  | some .free => true
  | _ => false
def locB (sc : Scope) (x : Str) : Bool := match sc.names.lookup x with
  | some .local => true
  | some .cell => true
  | _ => false
def gloB (sc : Scope) (x : Str) : Bool := match sc.names.lookup x with
  | some .globalImplicit => true
  | _ => false
def lclB (sc : Scope) (x : Str) : Bool := match sc.names.lookup x with
  | some .local => true
  | _ => false
/-- a built-in's name that is not taken -/
def bltB (C : Cs) (sc : Scope) (x : Str) : Bool := decide (x ∈ C.free) && gloB sc x && okName x
def cstB : PyData → Const → Bool
  | .none, .none => true
  | .bool a, .bool b => a == b
  | .int a, .int b => decide (a = b)
  | .str a, .str b => decide (a = b) && sOk a
  | _, _ => false
def bopB : Bop → Operator → Bool
  | .add, .Add => true
  | .sub, .Sub => true
  | .mul, .Mult => true
  | .fdiv, .FloorDiv => true
  | .mod, .Mod => true
  | .pow, .Pow => true
  | _, _ => false
def copB : Cop → CmpOp → Bool
  | .eq, .Eq => true
  | .ne, .NotEq => true
  | .lt, .Lt => true
  | .le, .LtE => true
  | .gt, .Gt => true
  | .ge, .GtE => true
  | .isin, .In => true
  | .notin, .NotIn => true
  | _, _ => false
def biN : Bi → Str
  | .len => "len"
  | .abs => "abs"
  | .int => "int"
  | .list => "list"
  | .tuple => "tuple"
  | .sorted => "sorted"
  | .sortedset => "sorted"
  | .lenset => "len"
  | .all => "all"
  | .any => "any"
  | .min2 => "min"
  | .max2 => "max"
def clsN : Cls → Str
  | .int => "int"
  | .bool => "bool"
  | .str => "str"
  | .list => "list"
  | .tuple => "tuple"
  | .dict => "dict"
def clsB (C : Cs) (sc : Scope) (c : Cls) : Expr → Bool
  | .Name x _ => decide (x = clsN c) && bltB C sc x
  | _ => false
def clssB (C : Cs) (sc : Scope) : List Cls → List Expr → Bool
  | [], [] => true
  | c :: cs, e :: es => clsB C sc c e && clssB C sc cs es
  | _, _ => false
mutual
def chkT (N : List Str) (sc : Scope) (fb : Str → Bool) : Tg → Expr → Bool
  | .nm i, .Name x _ => decide (N[i]? = some x) && locB sc x && (fb x || lclB sc x)
  | .tp ts, .Tuple es _ _ => chkTs N sc fb ts es
  | _, _ => false
def chkTs (N : List Str) (sc : Scope) (fb : Str → Bool) : List Tg → List Expr → Bool
  | [], [] => true
  | t :: ts, e :: es => notStar e && chkT N sc fb t e && chkTs N sc fb ts es
  | _, _ => false
end
def isTupE : Expr → Bool
  | .Tuple _ _ _ => true
  | _ => false
def cellB (scope : Scope) : Str → Bool := fun x => scope.names.lookup x == some .cell
def kwN : List Keyword → List (Option Str)
  | [] => []
  | ⟨n, _, _⟩ :: r => n :: kwN r
def kwE : List Keyword → List Expr
  | [] => []
  | ⟨_, e, _⟩ :: r => e :: kwE r
def minus1 : Expr → Bool
  | .UnaryOp .USub (.Constant (.int 1) _ _) _ => true
  | _ => false
section
variable (C : Cs)
/-- the arguments of what is walked -/
def srcE (sc : Scope) (tg : Expr) (k : Sk) (iter : Expr) : Option (List Expr) := match k with
  | .seq => some [iter]
  | .range => match iter with
    | .Call (.Name x _) [a] [] _ => if decide (x = "range") && bltB C sc x then some [a] else none
    | _ => none
  | .zip => match iter with
    | .Call (.Name x _) [a, b] [] _ => if decide (x = "zip") && bltB C sc x && isTupE tg then some [a, b] else none
    | _ => none
  | .enum => match iter with
    | .Call (.Name x _) [a] [] _ => if decide (x = "enumerate") && bltB C sc x && isTupE tg then some [a] else none
    | _ => none
  | .range2 => none
abbrev Ck := Scope → (Str → Bool) → Expr → Bool
abbrev CkL := Scope → (Str → Bool) → List Expr → Bool
def fnB (x : Str) (f n : Nat) : Bool := match C.fns[f]? with
  | some (y, ps, _) => decide (x = y) && decide (ps.length = n)
  | none => false
def kVar (i : Nat) : Ck := fun sc _ ex => match ex with
  | .Name x _ => decide (C.N[i]? = some x) && visB sc x && okName x
  | _ => false
def kCst (c : PyData) : Ck := fun _ _ ex => match ex with
  | .Constant k _ _ => cstB c k
  | _ => false
def kGlo (c : PyData) : Ck := fun sc _ ex => match ex with
  | .Name x _ => gloB sc x && okName x && (match C.glo.lookup x with | some d => beqD d c && (flatD c).isSome | none => false)
  | _ => false
def kTup (n : Nat) (f : CkL) : Ck := fun sc fb ex => match ex with
  | .Tuple xs _ _ => f sc fb xs && decide (n ≤ 1000)
  | _ => false
def kLst (n : Nat) (f : CkL) : Ck := fun sc fb ex => match ex with
  | .List xs _ => f sc fb xs && decide (n ≤ 1000)
  | _ => false
def kCall (g n : Nat) (f : CkL) : Ck := fun sc fb ex => match ex with
  | .Call (.Name x _) xs [] _ => f sc fb xs && gloB sc x && okName x && fnB C x g n
  | _ => false
def kwS : List Keyword → List Str
  | [] => []
  | ⟨n, _, _⟩ :: r => n.getD "" :: kwS r
def kCallk (g : Nat) (is : List Nat) (n : Nat) (f : CkL) : Ck := fun sc fb ex => match ex with
  | .Call (.Name x _) [] (kw :: kws) _ => f sc fb (kwE (kw :: kws)) && gloB sc x && okName x && (match C.fns[g]? with
    | some (y, ps, pms) => decide (x = y) && decide ((kwS (kw :: kws)).map some = kwN (kw :: kws)) && decide ((kwS (kw :: kws), is) ∈ pms) && decide (ps.length = n)
    | none => false)
  | _ => false
def kOp (o : Bop) (f g : Ck) : Ck := fun sc fb ex => match ex with
  | .BinOp x p y _ => bopB o p && f sc fb x && g sc fb y
  | _ => false
def kNeg (f : Ck) : Ck := fun sc fb ex => match ex with
  | .UnaryOp .USub x _ => f sc fb x
  | _ => false
def kCmp (o : Cop) (f g : Ck) : Ck := fun sc fb ex => match ex with
  | .Compare x [p] [y] _ => copB o p && !behindInMarks p y && f sc fb x && g sc fb y
  | _ => false
def kChain (o o' : Cop) (f g h : Ck) : Ck := fun sc fb ex => match ex with
  | .Compare x [p, p'] [y, z] _ => copB o p && copB o' p' && !lastMarks [p, p'] [y, z] && f sc fb x && g sc fb y && h sc fb z
  | _ => false
def kIsN (f : Ck) : Ck := fun sc fb ex => match ex with
  | .Compare x [.Is] [.Constant .none _ _] _ => f sc fb x
  | _ => false
def kIsnN (f : Ck) : Ck := fun sc fb ex => match ex with
  | .Compare x [.IsNot] [.Constant .none _ _] _ => f sc fb x
  | _ => false
def kAnd (f : CkL) : Ck := fun sc fb ex => match ex with
  | .BoolOp .And xs _ => f sc fb xs
  | _ => false
def kOr (f : CkL) : Ck := fun sc fb ex => match ex with
  | .BoolOp .Or xs _ => f sc fb xs
  | _ => false
def kNot (f : Ck) : Ck := fun sc fb ex => match ex with
  | .UnaryOp .Not x _ => f sc fb x
  | _ => false
def kIte (f g h : Ck) : Ck := fun sc fb ex => match ex with
  | .IfExp z x y _ => f sc fb z && g sc fb x && h sc fb y
  | _ => false
def kIdx (f g : Ck) : Ck := fun sc fb ex => match ex with
  | .Subscript x y _ => notSlice y && f sc fb x && g sc fb y
  | _ => false
def kSl (f : Ck) : Ck := fun sc fb ex => match ex with
  | .Subscript x (.Slice none none none _) _ => f sc fb x
  | _ => false
def kSlL (f g : Ck) : Ck := fun sc fb ex => match ex with
  | .Subscript x (.Slice (some y) none none _) _ => f sc fb x && g sc fb y
  | _ => false
def kSlU (f g : Ck) : Ck := fun sc fb ex => match ex with
  | .Subscript x (.Slice none (some y) none _) _ => f sc fb x && g sc fb y
  | _ => false
def kSlLU (f g h : Ck) : Ck := fun sc fb ex => match ex with
  | .Subscript x (.Slice (some y) (some z) none _) _ => f sc fb x && g sc fb y && h sc fb z
  | _ => false
def kRev (f : Ck) : Ck := fun sc fb ex => match ex with
  | .Subscript x (.Slice none none (some (.UnaryOp .USub (.Constant (.int i) _ _) _)) _) _ => decide (i = 1) && f sc fb x
  | _ => false
/-- which calls are served -/
def biOk : Bi → Bool
  | .sortedset => false
  | .lenset => false
  | _ => true
def kBi (b : Bi) (n : Nat) (f : CkL) : Ck := fun sc fb ex => match ex with
  | .Call (.Name x _) xs [] _ => biOk b && decide (x = biN b) && bltB C sc x && f sc fb xs && decide (n ≠ 0)
  | _ => false
/-- sorted(set(e)) -/
def kSet (f : CkL) : Ck := fun sc fb ex => match ex with
  | .Call (.Name x _) [.Call (.Name y _) [z] [] _] [] _ => decide (x = "sorted") && bltB C sc x && decide (y = "set") && bltB C sc y && f sc fb [z]
  | _ => false
def kLenset (f : CkL) : Ck := fun sc fb ex => match ex with
  | .Call (.Name x _) [.Call (.Name y _) [z] [] _] [] _ => decide (x = "len") && bltB C sc x && decide (y = "set") && bltB C sc y && f sc fb [z]
  | _ => false
def kTupS (f : CkL) : Ck := fun sc fb ex => match ex with
  | .Tuple xs _ _ => f sc fb xs
  | _ => false
def kLstS (f : CkL) : Ck := fun sc fb ex => match ex with
  | .List xs _ => f sc fb xs
  | _ => false
def kDmk (f : Ck) : Ck := fun sc fb ex => match ex with
  | .Call (.Name x _) [y] [] _ => decide (x = "dict") && bltB C sc x && notStar y && f sc fb y
  | _ => false
def kDget (f g h : Ck) : Ck := fun sc fb ex => match ex with
  | .Call (.Attribute (.Name x q) m apos) [y, z] [] cpos => decide (m = "get") && notStar y && notStar z && (apos.endLine == cpos.line) && f sc fb (.Name x q) && g sc fb y && h sc fb z
  | _ => false
def kDat (f g : Ck) : Ck := fun sc fb ex => match ex with
  | .Subscript x y _ => notSlice y && f sc fb x && g sc fb y
  | _ => false
def kDin (neg : Bool) (f g : Ck) : Ck := fun sc fb ex => match ex with
  | .Compare x [p] [y] _ => (match neg, p with | false, .In => true | true, .NotIn => true | _, _ => false) && !behindInMarks p y && f sc fb x && g sc fb y
  | _ => false
def kLidx (i : Nat) (f : Ck) : Ck := fun sc fb ex => match ex with
  | .Call (.Attribute (.Name x _) m apos) [y] [] cpos => decide (C.N[i]? = some x) && visB sc x && okName x && decide (m = "index") && notStar y && (apos.endLine == cpos.line) && f sc fb y
  | _ => false
def kIsi (cs : List Cls) (f : Ck) : Ck := fun sc fb ex => match ex with
  | .Call (.Name x _) [y, z] [] _ => decide (x = "isinstance") && bltB C sc x && notStar y && f sc fb y && (match cs with
    | [c] => clsB C sc c z
    | _ => match z with
      | .Tuple zs _ _ => clssB C sc cs zs && decide (cs.length ≤ 1000)
      | _ => false)
  | _ => false
def kPop (i : Nat) (f : Ck) : Ck := fun sc fb ex => match ex with
  | .Call (.Attribute (.Name x _) m apos) [y] [] cpos => decide (C.N[i]? = some x) && visB sc x && okName x && decide (m = "pop") && notStar y && (apos.endLine == cpos.line) && f sc fb y
  | _ => false
def kLc (own : List Nat) (t : Tg) (k : Sk) (f : CkL) (g : CkL) (h : Ck) : Ck := fun sc fb ex => match ex with
  | .ListComp el [⟨tg, iter, ifs, asy⟩] scope _ => decide (asy = 0) && (match srcE C sc tg k iter with | some xs => f sc fb xs | none => false) && notSet iter && decide (ifs.length ≤ 1) &&
      blkC C.N sc scope (own.map fun i => (C.N.getD i "", i)) && (slots t).all (fun i => decide (i ∈ own)) && chkT C.N (relS scope sc) (cellB scope) t tg && g (relS scope sc) (cellB scope) ifs && h (relS scope sc) (cellB scope) el
  | _ => false
def kDc (own : List Nat) (t : Tg) (k : Sk) (f : CkL) (g : CkL) (hk hv : Ck) : Ck := fun sc fb ex => match ex with
  | .DictComp kx vx [⟨tg, iter, ifs, asy⟩] scope _ => decide (asy = 0) && (match srcE C sc tg k iter with | some xs => f sc fb xs | none => false) && notSet iter && decide (ifs.length ≤ 1) &&
      blkC C.N sc scope (own.map fun i => (C.N.getD i "", i)) && (slots t).all (fun i => decide (i ∈ own)) && chkT C.N (relS scope sc) (cellB scope) t tg && g (relS scope sc) (cellB scope) ifs && hk (relS scope sc) (cellB scope) kx && hv (relS scope sc) (cellB scope) vx
  | _ => false
def kLc2 (own own1 : List Nat) (t : Tg) (k : Sk) (f : CkL) (g : CkL) (t1 : Tg) (k1 : Sk) (f1 : CkL) (g1 : CkL) (h : Ck) : Ck := fun sc fb ex => match ex with
  | .ListComp el [⟨tg, iter, ifs, asy⟩, ⟨tg1, iter1, ifs1, asy1⟩] scope _ => decide (asy = 0) && decide (asy1 = 0) && (match srcE C sc tg k iter with | some xs => f sc fb xs | none => false) && notSet iter && notSet iter1 && decide (ifs.length ≤ 1) && decide (ifs1.length ≤ 1) &&
      blkC C.N sc scope (own.map fun i => (C.N.getD i "", i)) && (slots t).all (fun i => decide (i ∈ own)) && (slots t1).all (fun i => decide (i ∈ own1)) && own1.all (fun i => decide (i ∈ own)) && chkT C.N (relS scope sc) (cellB scope) t tg && g (relS scope sc) (cellB scope) ifs &&
      (match srcE C (relS scope sc) tg1 k1 iter1 with | some xs => f1 (relS scope sc) (cellB scope) xs | none => false) && chkT C.N (relS scope sc) (cellB scope) t1 tg1 && g1 (relS scope sc) (cellB scope) ifs1 && h (relS scope sc) (cellB scope) el
  | _ => false
mutual
def chkE : E → Ck
  | .bad => fun _ _ _ => true
  | .var i => kVar C i
  | .cst c => kCst c
  | .glo c => kGlo C c
  | .tup es => kTup es.length (chkL es)
  | .lst es => kLst es.length (chkL es)
  | .call f es => kCall C f es.length (chkL es)
  | .callc f es => kCall C f es.length (chkL es)
  | .callk f is es => kCallk C f is es.length (chkL es)
  | .cell e => chkE e
  | .op o a b => kOp o (chkE a) (chkE b)
  | .neg a => kNeg (chkE a)
  | .cmp o a b => kCmp o (chkE a) (chkE b)
  | .chain o o' a b c => kChain o o' (chkE a) (chkE b) (chkE c)
  | .isN a => kIsN (chkE a)
  | .isnN a => kIsnN (chkE a)
  | .band es => kAnd (chkL es)
  | .bor es => kOr (chkL es)
  | .not a => kNot (chkE a)
  | .ite c a b => kIte (chkE c) (chkE a) (chkE b)
  | .idx a i => kIdx (chkE a) (chkE i)
  | .sl a => kSl (chkE a)
  | .slL a l => kSlL (chkE a) (chkE l)
  | .slU a h => kSlU (chkE a) (chkE h)
  | .slLU a l h => kSlLU (chkE a) (chkE l) (chkE h)
  | .rev a => kRev (chkE a)
  | .bi b es => match b with
    | .sortedset => kSet C (chkL es)
    | .lenset => kLenset C (chkL es)
    | b => kBi C b es.length (chkL es)
  | .isi a cs => kIsi C cs (chkE a)
  | .pop i e => kPop C i (chkE e)
  | .lc own t k src tests elt => kLc C own t k (chkL src) (chkL tests) (chkE elt)
  | .lc2 own own1 t k src tests t1 k1 src1 tests1 elt => kLc2 C own own1 t k (chkL src) (chkL tests) t1 k1 (chkL src1) (chkL tests1) (chkE elt)
  | .tupS bs es => kTupS (chkLS bs es)
  | .lstS bs es => kLstS (chkLS bs es)
  | .dc own t k src tests ke ve => kDc C own t k (chkL src) (chkL tests) (chkE ke) (chkE ve)
  | .dmk e => kDmk C (chkE e)
  | .dget d k x => kDget (chkE d) (chkE k) (chkE x)
  | .dat d k => kDat (chkE d) (chkE k)
  | .din neg k d => kDin neg (chkE k) (chkE d)
  | .lidx i e => kLidx C i (chkE e)
def chkL : List E → CkL
  | [] => fun _ _ xs => xs.isEmpty
  | e :: es => fun sc fb xs => match xs with
    | [] => false
    | x :: xs => notStar x && chkE e sc fb x && chkL es sc fb xs
def chkLS : List Bool → List E → CkL
  | [], [] => fun _ _ xs => xs.isEmpty
  | false :: bs, e :: es => fun sc fb xs => match xs with
    | x :: r => notStar x && chkE e sc fb x && chkLS bs es sc fb r
    | [] => false
  | true :: bs, e :: es => fun sc fb xs => match xs with
    | .Starred x _ :: r => chkE e sc fb x && chkLS bs es sc fb r
    | _ => false
  | _, _ => fun _ _ _ => false
end
end
end Ra


set_option Elab.async false
set_option linter.all false
set_option autoImplicit false
set_option maxRecDepth 100000
/-! isinstance, list, tuple -/
namespace Ra
open PySem PySem.Spec PyProof.Rows L2
def tyN : PyData → String
  | .none => "NoneType"
  | .bool _ => "bool"
  | .int _ => "int"
  | .str _ => "str"
  | .list _ => "list"
  | .tuple _ => "tuple"
  | .dict _ => "dict"
def clsS : Cls → String
  | .int => "int"
  | .bool => "bool"
  | .str => "str"
  | .list => "list"
  | .tuple => "tuple"
  | .dict => "dict"
theorem kit_isi {K : PySem.W.Frag} {F : Addr → Prop} {H : Hp} {x : V} {d : PyData} (h : Rr K F H x d) (c : Cls) : kitB (tyN d) (clsS c) = some (isi d c) := by
  cases d with
  | dict _ => cases h
  | none => cases c <;> (dsimp only [tyN, clsS, isi]; decide +kernel)
  | bool _ => cases c <;> (dsimp only [tyN, clsS, isi]; decide +kernel)
  | int _ => cases c <;> (dsimp only [tyN, clsS, isi]; decide +kernel)
  | str _ => cases c <;> (dsimp only [tyN, clsS, isi]; decide +kernel)
  | list _ => cases c <;> (dsimp only [tyN, clsS, isi]; decide +kernel)
  | tuple _ => cases c <;> (dsimp only [tyN, clsS, isi]; decide +kernel)
theorem ty_of {K : PySem.W.Frag} {F : Addr → Prop} {H : Hp} {x : V} {d : PyData} (h : Rr K F H x d) : TyX K H x (.type (tyN d)) := by
  cases d with
  | none => rw [h.none]; exact .base .non
  | bool b => rw [h.bool]; exact .base (.bl b)
  | int b => rw [h.int]; exact .base (.int b)
  | str b => rw [h.str]; exact .base (.str b)
  | list b =>
    obtain ⟨a, xs, rfl, h1, _⟩ := h.lst
    rcases h1 with h1 | ⟨o, h1⟩
    · exact .base (.lst h1)
    · exact .base (.frz h1)
  | tuple b =>
    obtain ⟨a, xs, rfl, h1, _⟩ := h.tup
    rcases h1 with (h1 | ⟨o, h1⟩) | ⟨o, its, n, h1, h2, _⟩
    · exact .base (.tup h1)
    · exact .fTuple h1
    · exact .kTuple h1 h2
  | dict _ => cases h
theorem boot_cls : ∀ c : Cls, bootBuiltins (clsN c) = some (.type (clsS c)) := by
  intro c
  cases c <;> (dsimp only [clsN, clsS]; decide +kernel)
section
variable {X : Cx} {e : Expr} {p : P} {pos : Pos}
theorem okName_ok {x : Str} (h : okName x = true) : (x == ("__debug__" : Str)) = false ∧ (x == ("__classdict__" : Str)) = false ∧ x ≠ "__name__" := by
  unfold okName at h
  simp only [Bool.and_eq_true, Bool.not_eq_true', decide_eq_true_eq] at h
  exact ⟨h.1.1, h.1.2, h.2⟩
theorem pe_clsR {c : Cls} {x : Str} {q : Pos} (hx : x = clsN c) (hg : Gl X x) (hm : X.mg x = none) (ok : okName x = true) : PE X (.Name x q) (tC (.ty (clsS c))) := by
  obtain ⟨o1, o2, o3⟩ := okName_ok ok
  refine pe_bltn hg hm (u := .type (clsS c)) ?_ rfl o3 o1
  rw [hx]; exact boot_cls c
theorem pe_isi1R {c : Cls} {x y : Str} {q q2 : Pos} (hx : x = "isinstance") (hg : Gl X x) (hm : X.mg x = none) (ok : okName x = true) (ha : PE X e (tE X.K p.v)) (ns : notStar e = true) (hy : y = clsN c) (hgy : Gl X y) (hmy : X.mg y = none) (oky : okName y = true) :
    PE X (.Call (.Name x q) [e, .Name y q2] [] pos) (tE X.K (c1 p fun x m => boolR ([c].any (isi x)) m)) := by
  obtain ⟨o1, o2, o3⟩ := okName_ok ok
  refine PE.weak (pe_callB call_isi hg hm (by rw [hx]; decide +kernel) (pa_cons ha (pa_cons (pe_clsR hy hgy hmy oky) pa_nil) (star1 ns _ _)) o3 o1 (star1 ns _ _) rfl) fun σ H Q h => ?_
  obtain ⟨env, m, g, hs, hm, hz⟩ := c1_ok h
  refine ⟨env, m, g, hs, hm, hz.mono fun v m1 g1 H1 e1 s1 z1 x rx => ?_⟩
  obtain ⟨m2, g2, d, s2, r2, z2⟩ := z1 x rx
  refine ⟨x, .ty (clsS c), _, _, _, rfl, .ty _, ty_of r2, kit_ty (kit_isi r2 c), ?_⟩
  have z3 : Rz X.K (boolR (isi d c) m2) g2 H1 (Ans X.K Q) := by
    have e : [c].any (isi d) = isi d c := by simp
    rw [← e]; exact z2
  exact ans_d s2 z3 (.bl _)
/-- the classes of a tuple -/
inductive ClsE (X : Cx) : List Cls → List Expr → Prop
  | nil : ClsE X [] []
  | cons {c : Cls} {cs : List Cls} {y : Str} {q : Pos} {es : List Expr} : y = clsN c → Gl X y → X.mg y = none → okName y = true → ClsE X cs es → ClsE X (c :: cs) (.Name y q :: es)
theorem pa_cls : ∀ {cs : List Cls} {es : List Expr}, ClsE X cs es → PA X es (fun _ H Q => Q (cs.map fun c => V.ty (clsS c)) H)
  | _, _, .nil => pa_nil
  | _, _, .cons a b c d t => PA.weak (pa_cons (pe_clsR a b c d) (pa_cls t)) fun _ _ _ h => h
theorem cls_paired : ∀ cs : List Cls, Paired ClsV (cs.map fun c => V.ty (clsS c)) (cs.map fun c => Value.type (clsS c))
  | [] => .nil
  | c :: cs => .cons (.ty _) (cls_paired cs)
theorem kit_any {K : PySem.W.Frag} {F : Addr → Prop} {H : Hp} {x : V} {d : PyData} (h : Rr K F H x d) : ∀ cs : List Cls, PySem.W.kitAny K (.type (tyN d)) (cs.map fun c => Value.type (clsS c)) = some (cs.any (isi d))
  | [] => kitAny_nil
  | c :: cs => kitAny_cons (kit_ty (kit_isi h c)) (fun hb => by
      rw [kit_any h cs]
      simp [hb]) fun hb => by simp [hb]
theorem pe_isiTR {cs : List Cls} {x : Str} {q q2 : Pos} {k : Nat} {es : List Expr} (hx : x = "isinstance") (hg : Gl X x) (hm : X.mg x = none) (ok : okName x = true) (ha : PE X e (tE X.K p.v)) (ns : notStar e = true) (hc : ClsE X cs es) (hl : cs.length ≤ 1000) :
    PE X (.Call (.Name x q) [e, .Tuple es k q2] [] pos) (tE X.K (c1 p fun x m => boolR (cs.any (isi x)) m)) := by
  obtain ⟨o1, o2, o3⟩ := okName_ok ok
  refine PE.weak (pe_callB call_isiT hg hm (by rw [hx]; decide +kernel) (pa_cons ha (pa_cons (pe_tup (pa_cls hc)) pa_nil) (star1 ns _ _)) o3 o1 (star1 ns _ _) rfl) fun σ H Q h => ?_
  obtain ⟨env, m, g, hs, hm, hz⟩ := c1_ok h
  refine ⟨env, m, g, hs, hm, hz.mono fun v m1 g1 H1 e1 s1 z1 x rx => ?_⟩
  obtain ⟨m2, g2, d, s2, r2, z2⟩ := z1 x rx
  have hlen : (cs.map fun c => V.ty (clsS c)).length ≤ sizeLine := by rw [List.length_map, sizeLine_eq]; omega
  refine ⟨hlen, fun p hp => ?_⟩
  have e3 := ext_new (o := .tup (cs.map fun c => V.ty (clsS c))) s2 hp
  have s3 := sim_new (o := .tup (cs.map fun c => V.ty (clsS c))) s2 hp hlen
  have r3 : Rr X.K g2.F (upd H1 p (.tup (cs.map fun c => V.ty (clsS c)))) x d := by
    cases d with
    | list ds =>
      obtain ⟨a, ws, rfl, h1, h2⟩ := r2.lst
      refine ⟨a, ws, rfl, ?_, RpAll.ext e3 _ h2⟩
      rcases h1 with h1 | ⟨o, h1⟩
      · exact .inl (by rw [upd_ne (ne_of_none h1 hp)]; exact h1)
      · exact .inr ⟨o, by rw [upd_ne (ne_of_none h1 hp)]; exact h1⟩
    | none => exact Rp.ext e3 _ r2
    | bool _ => exact Rp.ext e3 _ r2
    | int _ => exact Rp.ext e3 _ r2
    | str _ => exact Rp.ext e3 _ r2
    | tuple _ => exact Rp.ext e3 _ r2
    | dict _ => cases r2
  exact ⟨x, p, _, _, _, _, rfl, upd_same, cls_paired cs, ty_of r3, kit_any r3 cs, ans_d s3 (z2.ext e3) (.bl _)⟩
end
end Ra


set_option Elab.async false
set_option linter.all false
set_option autoImplicit false
set_option maxRecDepth 100000
/-! list(x), tuple(x) -/
namespace Ra
open PySem PySem.Spec PyProof.Rows L2
section
variable {prog : Program} {w : World} {A : Around} {E : Value → Shared → Prop} {s : Shared}
/-- a text's signs go to the end of the list at S -/
theorem text_into {R : Result → Shared → Prop} (hh : A.handled = none) (x : Str) (t : Tok) (S : Addr) (c0 : Nat) (hS : s.heap.get? S = some { cls := .type "list", data := .seq #[] c0 }) (hn : x.cps.size ≤ sizeLine)
    (fin : ∀ s' acc c', (∀ b o, b ≠ S → s.heap.get? b = some o → s'.heap.get? b = some o) → s'.gens = s.gens → s'.drawn = s.drawn → s'.os = s.os → s'.heap.get? S = some { cls := .type "list", dict := none, data := .seq acc c', slots := #[] } → ItemsOf (SignAt x) acc x.cps.size → R (.ok (.ret .none)) s') :
    wpAny (model prog w) A.in1 (Builtin.List.listExtendWith (.ref S) (.str x t) .none)
      (fun f s' => match f with | .done g => R (.ok g) s' | .again c' => c'.quiet = true ∧ codeAny (model prog w) A c' R s') (fun e s' => R (.error e) s') s := by
  unfold Builtin.List.listExtendWith
  refine wpAny_bind (wpAny_typeOf (T := "str") (v := .str x t) rfl ?_)
  have a1 : Builtin.List.listSameRef (.ref S) (.str x t) = false := rfl
  have a2 : (Value.type "str" == Value.type "list") = false := by decide
  have a3 : (Value.type "str" == Value.type "tuple") = false := by decide
  simp only [a1, a2, a3, Bool.or_false, Bool.false_eq_true, if_false]
  refine wpAny_bind (wpAny_pyIter_str fun ob St W st0 => ?_)
  refine wpAny_bind (wpAny_holding ?_)
  unfold Builtin.List.listLengthHint
  refine wpAny_bind (wpAny_specialOf (T := "str") (v := .str x t) rfl PySem.F.str_len ?_)
  wp_delta
  refine wpAny_bind (wpAny_isInstance (T := "str") (v := .str x t) (b := true) rfl (by rw [isSubtype_type]; kernel_rfl) ?_)
  show wpAny _ A.in1 (typeOf (Value.str x t) >>= _) _ _ _
  refine wpAny_bind (wpAny_typeOf (T := "str") (v := .str x t) rfl (wpAny_pure ?_))
  rw [if_neg (by decide)]
  have lt : S < s.heap.objs.size := Heap.lt_size hS
  have hSf : S ∉ [s.heap.objs.size] := fun q => absurd lt (by rw [List.mem_singleton.mp q]; exact Nat.lt_irrefl _)
  have hS1 : (s.heap.push ob).get? S = some { cls := .type "list", data := .seq #[] c0 } := Heap.get?_push_of_some _ hS
  refine wpAny_pure ⟨plainId_quiet PySem.F.plain_extend_loop _, codeAny_extend_loopS (W A.in1 hh).toS hn S hSf _ x.cps.size 0 _ _ _ rfl (Nat.zero_le _) st0 hS1 (ItemsOf.nil _) fun s' acc c' hm hS' hacc => ?_⟩
  refine fin s' acc c' (fun b o hb e => hm.heap b o (fun q => ?_) (Heap.get?_push_of_some _ e)) hm.gens hm.drawn hm.os hS' hacc
  rcases List.mem_cons.mp q with q | q
  · exact hb q
  · exact absurd (Heap.lt_size e) (by rw [List.mem_singleton.mp q]; exact Nat.lt_irrefl _)
theorem call_list_text {Q : Value → Shared → Prop} (hh : A.handled = none) (x : Str) (t : Tok) (hn : x.cps.size ≤ sizeLine)
    (fin : ∀ s' acc c', (∀ b o, s.heap.get? b = some o → s'.heap.get? b = some o) → s'.gens = s.gens → s'.drawn = s.drawn → s'.os = s.os → s'.heap.get? s.heap.objs.size = some { cls := .type "list", dict := none, data := .seq acc c', slots := #[] } → ItemsOf (SignAt x) acc x.cps.size → Q (.ref s.heap.objs.size) s') :
    wpAny (model prog w) A (call (.type "list") [.str x t]) Q E s := by
  refine callType_codes (Q₁ := fun o1 s1 => o1 = .ref s.heap.objs.size ∧ s1 = { s with heap := s.heap.push { cls := .type "list", data := .seq #[] } }) PySem.F.called_list (PySem.F.typeCall_list_1 _) PySem.F.entry_list_init (code_list_new _ ⟨rfl, rfl⟩) fun o1 s1 q1 => ?_
  obtain ⟨rfl, rfl⟩ := q1
  have new : (s.heap.push { cls := .type "list", data := .seq #[] }).get? s.heap.objs.size = some { cls := .type "list", data := .seq #[] } := Heap.get?_push_size _ rfl
  refine ⟨⟨_, new, rfl⟩, PySem.F.args_list_init_2 _ _, ?_⟩
  show wpAny _ _ (do let old ← Builtin.List.listItems (.ref s.heap.objs.size); Builtin.List.listUpdate (.ref s.heap.objs.size) (fun _ => #[]); letGo old.toList.reverse; Builtin.List.listExtendWith (.ref s.heap.objs.size) (.str x t) .none) _ _ _
  refine wpAny_bind ?_
  unfold Builtin.List.listItems
  refine wpAny_bind (wpAny_seqItems new rfl (wpAny_pure ?_))
  refine wpAny_bind (wpAny_updateSeq new rfl ?_)
  have new2 := Heap.get?_update_self (Obj.mapSeq (fun _ => (#[] : Array Value))) new rfl
  refine wpAny_bind (wpAny_letGo ?_)
  refine text_into (A := A.in1) hh x t _ _ new2 hn fun s' acc c' hk hg hd ho hS' hacc => ?_
  exact ⟨rfl, fin s' acc c' (fun b o e => hk b o (Nat.ne_of_lt (Heap.lt_size e)) ((Heap.get?_update_other _ _ (Nat.ne_of_gt (Heap.lt_size e))).trans (Heap.get?_push_of_some _ e))) hg hd ho hS' hacc⟩
end
section
variable {X : Cx}
theorem signs_vals {x : Str} {acc : Array Value} (h : ItemsOf (SignAt x) acc x.cps.size) : Vals (x.cps.toList.map fun c => V.str ⟨#[c]⟩) acc.toList := by
  refine vals_of_at (by simp [h.1]) fun j y u e1 e2 => ?_
  rw [Array.getElem?_toList] at e2
  obtain ⟨c, tk, hc, rfl⟩ := h.2 j u e2
  rw [List.getElem?_map, Array.getElem?_toList, hc] at e1
  cases e1
  exact ⟨tk, rfl⟩
theorem signs_rp {K : PySem.W.Frag} {F : Addr → Prop} {H : Hp} {z : Str} (hz : sOk z = true) : RpAll K F H (z.cps.toList.map fun c => V.str ⟨#[c]⟩) (signs z) := by
  have key : ∀ l : List Nat, (∀ c ∈ l, c ∈ z.cps.toList) → RpAll K F H (l.map fun c => V.str ⟨#[c]⟩) (l.map one) := by
    intro l
    induction l with
    | nil => intro _; exact .nil
    | cons c l ih => exact fun h => .cons (.str _ (sok_one hz (h c List.mem_cons_self))) (ih fun c' h' => h c' (List.mem_cons_of_mem _ h'))
  exact key _ fun _ h => h
theorem items_ok {K : PySem.W.Frag} {F : Addr → Prop} {H : Hp} {x : V} {d : PyData} {is : List PyData} (h : Rr K F H x d) (e : items d = some is) :
    (∃ a xs, x = .ref a ∧ Rd H a (.lst xs) ∧ RpAll K F H xs is) ∨ (∃ a xs, x = .ref a ∧ SqT K H a xs ∧ RpAll K F H xs is ∧ d = .tuple is) ∨ ∃ z, x = .str z ∧ sOk z = true ∧ is = signs z := by
  cases d with
  | list ds => cases e; exact .inl h.lst
  | tuple ds =>
    cases e
    obtain ⟨a, xs, h1, h2, h3⟩ := h.tup
    exact .inr (.inl ⟨a, xs, h1, h2, h3, rfl⟩)
  | str z => cases e; exact .inr (.inr ⟨z, h.str, h.sok, rfl⟩)
  | none => cases e
  | bool _ => cases e
  | int _ => cases e
  | dict _ => cases e
theorem cr_list' (hc : X.calm = true) : CallR X (.type "list") (rBi X.K (bi .list)) := by
  intro pins s σ H vs us Q I r h
  obtain ⟨m, g, ds, S, hx, hz0⟩ := h
  obtain ⟨w, hw, hz⟩ := Rz.opt hz0
  clear hz0
  replace hw : listD ds = some w := hw
  unfold listD at hw
  split at hw
  · obtain ⟨is, hi, e⟩ := Option.map_eq_some_iff.mp hw
    subst e
    obtain ⟨x, rfl, h⟩ := hx.one
    rcases items_ok h hi with ⟨a, xs, rfl, h1, h2⟩ | ⟨a, xs, rfl, h1, h2, _⟩ | ⟨z, rfl, h1, rfl⟩
    · exact call_list_of pins s σ H _ us Q I r ⟨a, xs, rfl, .inl (.inl h1), fun l hl => ans_l S hz h2 (rd_len S h1) hl⟩
    · exact call_list_of pins s σ H _ us Q I r ⟨a, xs, rfl, .inr h1, fun l hl => ans_l S hz h2 (sq_len S h1) hl⟩
    · obtain ⟨u, rfl, t, rfl⟩ := vals1 r
      have hl := sok_len h1
      refine call_list_text (I.ok.hd hc) z t hl fun s' acc c' hk hg hd ho hS' hacc => ?_
      obtain ⟨h', g', d', t', o'⟩ := s'
      obtain rfl : g' = s.gens := hg
      obtain rfl : d' = s.drawn := hd
      obtain rfl : o' = s.os := ho
      have hv := signs_vals hacc
      have hlen : (z.cps.toList.map fun c => V.str ⟨#[c]⟩).length ≤ sizeLine := by
        rw [List.length_map, Array.length_toList]; exact hl
      refine ⟨.ref _, upd H s.heap.objs.size (.lst (z.cps.toList.map fun c => V.str ⟨#[c]⟩)), I.laid (t' := t') hk (Nat.le_refl _) ⟨hlen, acc.toList, c', hv, ?_⟩, rfl, ans_l S hz (signs_rp h1) hlen I.fresh⟩
      rw [Array.toArray_toList]; exact hS'
  · cases hw
theorem cr_tuple' (hc : X.calm = true) : CallR X (.type "tuple") (rBi X.K (bi .tuple)) := by
  intro pins s σ H vs us Q I r h
  obtain ⟨m, g, ds, S, hx, hz0⟩ := h
  obtain ⟨w, hw, hz⟩ := Rz.opt hz0
  clear hz0
  replace hw : tupleD ds = some w := hw
  unfold tupleD at hw
  split at hw
  · obtain ⟨is, hi, e⟩ := Option.map_eq_some_iff.mp hw
    subst e
    obtain ⟨x, rfl, h⟩ := hx.one
    rcases items_ok h hi with ⟨a, xs, rfl, h1, h2⟩ | ⟨a, xs, rfl, h1, h2, _⟩ | ⟨z, rfl, h1, rfl⟩
    · exact call_tuple_of pins s σ H _ us Q I r ⟨a, xs, rfl, .inl ⟨.inl h1, fun l hl => ans_t S hz h2 (rd_len S h1) hl⟩⟩
    · exact call_tuple_of pins s σ H _ us Q I r ⟨a, xs, rfl, .inr ⟨h1, ans_d S hz (.tup h1 h2)⟩⟩
    · obtain ⟨u, rfl, t, rfl⟩ := vals1 r
      have hl := sok_len h1
      refine call_tuple_str (I.ok.hd hc) z t (fun h' tk acc hk hacc => ?_) hl
      have hv := signs_vals hacc
      have hlen : (z.cps.toList.map fun c => V.str ⟨#[c]⟩).length ≤ sizeLine := by
        rw [List.length_map, Array.length_toList]; exact hl
      have I1 : Inv X pins σ H { s with heap := h', toks := tk } := I.kept (t' := tk) hk
      refine ⟨.ref _, upd H h'.objs.size (.tup (z.cps.toList.map fun c => V.str ⟨#[c]⟩)), I1.laid (t' := tk) (fun b o e => Heap.get?_push_of_some _ e) (Nat.le_refl _) ⟨hlen, acc.toList, hv, ?_⟩, rfl, ans_t S hz (signs_rp h1) hlen (I1.hok.fresh (Nat.le_refl _))⟩
      rw [Array.toArray_toList]; exact IsTup.new h' acc
  · cases hw
end
end Ra


set_option Elab.async false
set_option linter.all false
set_option autoImplicit false
set_option maxRecDepth 100000
/-! x[::-1] -/
namespace Ra
open PySem PySem.Spec PyProof.Rows L2
theorem back_adjust (n : Nat) : Builtin.Slice.sliceAdjust none none (-1) (n : Int) = ((n : Int) - 1, -1) := by
  unfold Builtin.Slice.sliceAdjust
  simp
theorem back_places (n : Nat) : Builtin.Slice.slicePlaces ((n : Int) - 1) (-1) (-1) = n := by
  unfold Builtin.Slice.slicePlaces
  simp
  omega
theorem back_pick (xs : Array Value) : ((List.range xs.size).filterMap fun (k : Nat) => xs[(((xs.size : Int) - 1) + (k : Int) * (-1)).toNat]?).toArray = xs.toList.reverse.toArray := by
  congr 1
  apply List.ext_getElem?
  intro i
  have all : ∀ (l : List Nat), (∀ k ∈ l, k < xs.size) → l.filterMap (fun (k : Nat) => xs[(((xs.size : Int) - 1) + (k : Int) * (-1)).toNat]?) = l.map fun k => xs.getD (xs.size - 1 - k) .none := by
    intro l
    induction l with
    | nil => intro _; rfl
    | cons k l ih =>
      intro h
      have hk := h k List.mem_cons_self
      have e1 : (((xs.size : Int) - 1) + (k : Int) * (-1)).toNat = xs.size - 1 - k := by omega
      have hlt : xs.size - 1 - k < xs.size := by omega
      rw [List.filterMap_cons, e1, Array.getElem?_eq_getElem hlt, List.map_cons, ih fun k' h' => h k' (List.mem_cons_of_mem _ h')]
      simp [Array.getD, hlt]
  rw [all _ fun k h => List.mem_range.mp h]
  by_cases hi : i < xs.size
  · rw [List.getElem?_map, List.getElem?_range hi, List.getElem?_reverse (by simpa using hi)]
    have hlt : xs.size - 1 - i < xs.size := by omega
    simp [Array.getD, hlt]
  · rw [List.getElem?_eq_none (by simp; omega), List.getElem?_eq_none (by simp; omega)]
section
variable {prog : Program} {w : World} {A : Around} {E : Value → Shared → Prop} {s : Shared}
theorem part_at {v : Value} {o : Option Int} {Q : Option Int → Shared → Prop} (p : IsPart v o) (h : Q o s) : wpAny (model prog w) A (Builtin.Slice.slicePartIndex v) Q E s := HT.slicePart_ p h
theorem back_applied {sl : Addr} {vl vu vs : Value} {n : Nat} {Q : Int × Int × Nat → Shared → Prop} (hs : s.heap.IsSliceOf sl vl vu vs) (pl : IsPart vl none) (pu : IsPart vu none) (pz : IsPart vs (some (-1))) (h : Q ((n : Int) - 1, -1, n) s) :
    wpAny (model prog w) A (Builtin.Slice.sliceApplied (.ref sl) (pure (n : Int))) Q E s := by
  obtain ⟨ob, hob, hcb, hdb⟩ := id hs
  unfold Builtin.Slice.sliceApplied Builtin.Slice.sliceFields
  refine wpAny_bind (wpAny_bind (wpAny_field hob hdb (x := vl) rfl (wpAny_bind (wpAny_field hob hdb (x := vu) rfl (wpAny_bind (wpAny_field hob hdb (x := vs) rfl (wpAny_pure ?_)))))))
  refine wpAny_bind (part_at pz ?_)
  show wpAny _ _ (if ((-1 : Int) == 0) = true then _ else _) _ _ s
  rw [if_neg (by decide)]
  refine wpAny_bind (part_at pl (wpAny_bind (part_at pu (wpAny_bind (wpAny_pure ?_)))))
  show wpAny _ _ (match Builtin.Slice.sliceAdjust none none (-1) (n : Int) with | (lo, hi) => pure (lo, (-1 : Int), Builtin.Slice.slicePlaces lo hi (-1))) _ _ s
  rw [back_adjust n]
  show wpAny _ _ (pure ((n : Int) - 1, (-1 : Int), Builtin.Slice.slicePlaces ((n : Int) - 1) (-1) (-1))) _ _ s
  rw [back_places]
  exact wpAny_pure h
theorem tuple_back {t sl : Addr} {its : Array Value} {vl vu vs : Value} {Q : Value → Shared → Prop} (ht : IsTup s.heap t its) (hs : s.heap.IsSliceOf sl vl vu vs) (pl : IsPart vl none) (pu : IsPart vu none) (pz : IsPart vs (some (-1)))
    (h : Q (.ref s.heap.objs.size) { s with heap := s.heap.push { cls := .type "tuple", data := .seq its.toList.reverse.toArray } }) (hz : its.size ≤ sizeLine) : wpAny (model prog w) A (getItem (.ref t) (.ref sl)) Q E s := by
  have hok : sizeOk (.seq its.toList.reverse.toArray) := by
    show its.toList.reverse.toArray.size ≤ sizeLine
    rw [List.size_toArray, List.length_reverse, Array.length_toList]
    exact hz
  obtain ⟨ob, hob, hcb, hdb⟩ := id hs
  have tys : s.TypeIs (.ref sl) "slice" := ⟨ob, hob, hcb⟩
  unfold getItem
  try with_reducible refine wpAny_holding ?_
  first | refine wpAny_bind (wpAny_pure ?_) | skip
  refine wpAny_bind (wpAny_sequenceKey ht.typeIs (by decide) ?_)
  refine wpAny_bind (wpAny_callSpecial?_slot (name := Str.ofString "__getitem__") ht.typeIs PyProof.Rows.slot_tuple_getitem (wpAny_call_entry PyProof.Rows.slot_tuple_getitem ht.typeIs PyProof.Rows.entry_tuple_getitem ?_ (PyProof.Rows.args_tuple_getitem _ _)))
  show wpAny _ _ (Builtin.Tuple.tupleItemsOf (.ref t) >>= _) _ _ s
  refine wpAny_bind (PyProof.Rows.tupleItemsOf_ ht ?_)
  refine wpAny_bind (wpAny_typeOf tys ?_)
  rw [if_pos (by decide)]
  refine wpAny_bind (back_applied (n := its.size) hs pl pu pz ?_)
  have no : ¬ (((((its.size : Int) - 1) == 0) && (-1 : Int) == 1 && its.size == its.size) = true) := by simp
  show wpAny _ _ (if ((((its.size : Int) - 1) == 0) && (-1 : Int) == 1 && its.size == its.size) = true then _ else _) _ _ s
  rw [if_neg no, back_pick]
  first
    | exact wpAny_bind (m := Builtin.Tuple.tupleExact _) (wpAny_newObj_type (wpAny_pure ⟨_, rfl, wpAny_pure h⟩) hok)
    | exact wpAny_bind (m := Builtin.Tuple.tupleExact _) (wpAny_newObj_type (wpAny_bind (wpAny_pure (wpAny_pure ⟨_, rfl, wpAny_pure h⟩))) hok)
    | exact wpAny_bind (wpAny_bind (m := Builtin.Tuple.tupleExact _) (wpAny_newObj_type (wpAny_pure (wpAny_pure ⟨_, rfl, wpAny_pure h⟩)) hok))
    | exact wpAny_bind (wpAny_bind (m := Builtin.Tuple.tupleExact _) (wpAny_newObj_type (wpAny_pure ⟨_, rfl, wpAny_pure h⟩) hok))
end
section
variable {X : Cx} {e : Expr} {p : P} {pos : Pos}
theorem pe_revR {k : Nat} {i : Int} {p1 p2 p3 : Pos} (hi : i = 1) (he : PE X e (tE X.K p.v)) :
    PE X (.Subscript e (.Slice none none (some (.UnaryOp .USub (.Constant (.int i) k p1) p2)) p3) pos) (tE X.K (c1 p fun x m => optR (revd x) m)) := by
  subst hi
  refine ⟨fun pins s σ H Q I h => ?_⟩
  have h := c1_ok h
  refine Subscript_ (thn (he.run pins s σ H _ I h) fun v s1 ⟨x, H1, I1, r1, q1⟩ => ?_)
  obtain ⟨m, g, d, S, rd_, hz⟩ := q1
  obtain ⟨wv, hw, hz⟩ := Rz.opt hz
  have step : PO X (some (.UnaryOp .USub (.Constant (.int 1) k p1) p2)) (tPart (tUn (rU fun i => .int (-i)) (tC (.int 1)))) := po_some (pe_un un_neg pe_int)
  refine wpAny_Slice (thn (po_none.run pins s1 σ H1 (fun o H2 => o = none ∧ H2 = H1) I1 ⟨rfl, rfl⟩) fun vl s2 ⟨l, H2, I2, pl, el, e2⟩ => ?_)
  subst el e2
  refine thn (po_none.run pins s2 σ H2 (fun o H3 => o = none ∧ H3 = H2) I2 ⟨rfl, rfl⟩) fun vu s3 ⟨u, H3, I3, pu, eu, e3⟩ => ?_
  subst eu e3
  refine thn (step.run pins s3 σ H3 (fun o H4 => o = some (-1) ∧ H4 = H3) I3 ⟨1, rfl, -1, rfl, rfl, rfl⟩) fun vz s4 ⟨o, H4, I4, pz, eo, e4⟩ => ?_
  subst eo e4
  have I5 : Inv X pins σ H4 { s4 with heap := s4.heap.push { cls := .type "slice", data := .fields #[vl, vu, vz] } } := I4.kept (t' := s4.toks) fun b ob q => Heap.get?_push_of_some _ q
  unfold revd at hw
  split at hw
  · cases hw
    obtain ⟨a, xs, rfl, hx, h2⟩ := rd_.lst
    cases r1
    obtain ⟨its, r, ht, hlen⟩ := I5.list (.inl hx)
    show wpAny (model X.prog X.w) X.A (subscriptTail e (.Slice none none (some (.UnaryOp .USub (.Constant (.int 1) k p1) p2)) p3) (.ref a) (.ref s4.heap.objs.size)) (EP X pins σ Q) X.xe _
    refine tail_any (ops := [.ref a, .ref s4.heap.objs.size]) ht.isList.typeIs (PySem.slot_list_getitem.lookup) ?_ (by with_unfolding_all rfl)
    refine wpAny_getItem_list_slice ht.isList (Heap.IsSliceOf.new _ vl vu vz) pl pu pz (by decide) ?_ (by rw [List.size_toArray, ← r.length]; exact hlen)
    rw [PySem.W.krv_pick]
    have hl2 : xs.reverse.length ≤ sizeLine := by rw [List.length_reverse]; exact hlen
    exact ⟨.ref _, _, I5.laid (t' := s4.toks) (o := .lst xs.reverse) (fun b ob q => Heap.get?_push_of_some _ q) (Nat.le_refl _) ⟨hl2, _, 0, r.reverse, Heap.get?_push_size _ rfl⟩, rfl, ans_l S hz h2.rev hl2 (I5.hok.fresh (Nat.le_refl _))⟩
  · cases hw
    obtain ⟨a, xs, rfl, hx, h2⟩ := rd_.tup
    cases r1
    obtain ⟨its, r, ht, hlen⟩ := I5.tuple hx
    show wpAny (model X.prog X.w) X.A (subscriptTail e (.Slice none none (some (.UnaryOp .USub (.Constant (.int 1) k p1) p2)) p3) (.ref a) (.ref s4.heap.objs.size)) (EP X pins σ Q) X.xe _
    refine tail_any (ops := [.ref a, .ref s4.heap.objs.size]) ht.typeIs (PyProof.Rows.slot_tuple_getitem.lookup) ?_ (by with_unfolding_all rfl)
    refine tuple_back ht (Heap.IsSliceOf.new _ vl vu vz) pl pu pz ?_ (by rw [List.size_toArray, ← r.length]; exact hlen)
    have hl2 : xs.reverse.length ≤ sizeLine := by rw [List.length_reverse]; exact hlen
    exact ⟨.ref _, _, I5.laid (t' := s4.toks) (o := .tup xs.reverse) (fun b ob q => Heap.get?_push_of_some _ q) (Nat.le_refl _) ⟨hl2, _, r.reverse, IsTup.new _ _⟩, rfl, ans_t S hz h2.rev hl2 (I5.hok.fresh (Nat.le_refl _))⟩
  · cases hw
end
end Ra


set_option Elab.async false
set_option linter.all false
set_option autoImplicit false
set_option maxRecDepth 100000
/-! sorted(set(e)) -/
namespace Ra
open PySem PySem.Spec PyProof.Rows L2
/-! ### sets of texts -/
def keyS (e : Int × Value) : Str := match e.2 with
  | .str k _ => k
  | _ => ⟨#[]⟩
def GoodS (w : World) (e : Int × Value) : Prop := ∃ k tk, e = (hashStr w k, Value.str k tk)
/-- the set at a holds the texts L; it can be walked -/
def SetS (w : World) (h : Heap) (a : Addr) (L : List Str) : Prop :=
  ∃ o es ep t, (h.get? a = some o ∧ o.ExactSet ∧ o.data = .set es ep t) ∧ (∀ e ∈ es.toList, GoodS w e) ∧ (es.toList.map keyS).Perm L ∧ L.Nodup ∧ (es.size < scanBound ∧ t.fits es.size = true) ∧ Ris t.place.toList ∧ (w.params.followText "set-order" = true ∨ t.led = true)
section
variable {P : Program} {w : World} {A : Around} {E : Value → Shared → Prop} {s : Shared} {a : Addr} {L : List Str}
theorem SetS.keep {h h' : Heap} (R : SetS w h a L) (k : ∀ o, h.get? a = some o → h'.get? a = some o) : SetS w h' a L := by
  obtain ⟨o, es, ep, t, ⟨ho, q⟩, r⟩ := R
  exact ⟨o, es, ep, t, ⟨k o ho, q⟩, r⟩
theorem goodS_elems {l : List (Int × Value)} (g : ∀ e ∈ l, GoodS w e) : ElemsOf (strKind P w) l := fun e he => by
  obtain ⟨k, tk, rfl⟩ := g e he
  exact ⟨⟨k, PySem.Froz.is_str k tk, rfl⟩, rfl⟩
theorem goodS_is {e : Int × Value} (g : GoodS w e) (k : Str) : (strKind P w).is k e.2 = true ↔ keyS e = k := by
  obtain ⟨k0, tk, rfl⟩ := g
  constructor
  · intro h
    exact (strKind P w).inj (.str k0 tk) k0 k (PySem.Froz.is_str k0 tk) h
  · rintro rfl
    exact PySem.Froz.is_str k0 tk
theorem setS_tail {gv : Bool → Sem Unit} (hg : ∀ (b : Bool) (s₁ : Shared) (Q' : Unit → Shared → Prop), Q' () s₁ → wpAny (model P w) A (gv b) Q' E s₁) {o : Obj} {es : Array (Int × Value)} {ep : Nat} {t : SetTable}
    (ho : s.heap.get? a = some o) (hex : o.ExactSet) (hd : o.data = .set es ep t) {fs : Array (Int × Value)} {t2 : SetTable} {L' : List Str} (g1 : ∀ e ∈ fs.toList, GoodS w e) (p1 : (fs.toList.map keyS).Perm L') (nd1 : L'.Nodup)
    (hb1 : fs.size < scanBound) (hf2 : t2.fits fs.size = true) (hr : Ris t2.place.toList) (hl : w.params.followText "set-order" = true ∨ t2.led = true) {dm : Bool} {R : Option Bool → Shared → Prop}
    (hR : ∀ h', Heap.SameBut a s.heap h' → SetS w h' a L' → R (some true) { s with heap := h' }) :
    wpAny (model P w) A (do
      storeSet a fs t2
      if (!dm && t2.tooFull) = true then do
        gv (relayAll t2 fs (SetTable.grown fs.size)).2.2
        storeSet a (relayAll t2 fs (SetTable.grown fs.size)).1 (relayAll t2 fs (SetTable.grown fs.size)).2.1
        pure (some true)
      else pure (some true)) R E s := by
  refine wpAny_bind (wpAny_storeSet_of ho hd ?_ (fits_of_scanBound hb1))
  have o1 := store_at (es' := fs) (t' := t2) ho hd
  have sb := Heap.SameBut.update s.heap a (Obj.putSet fs t2)
  split
  · have pm := relayAll_perm t2 fs (SetTable.grown fs.size)
    have f3 := relayAll_fits t2 fs (SetTable.grown fs.size)
    have r3 := relayAll_ris t2 fs (SetTable.grown fs.size)
    have l3 := relayAll_led t2 fs (SetTable.grown fs.size)
    generalize relayAll t2 fs (SetTable.grown fs.size) = Z at pm f3 r3 l3 ⊢
    obtain ⟨gs, t3, gave⟩ := Z
    dsimp only at pm f3 r3 l3 ⊢
    have sz : gs.size = fs.size := by rw [← Array.length_toList, pm.length_eq, Array.length_toList]
    have b2 : gs.size < scanBound := by rw [sz]; exact hb1
    refine wpAny_bind (hg _ _ _ (wpAny_bind (wpAny_storeSet_of o1 rfl ?_ (fits_of_scanBound b2))))
    have o2 := store_at (es' := gs) (t' := t3) o1 rfl
    exact wpAny_pure (hR _ (sb.trans (Heap.SameBut.update _ a _)) ⟨_, gs, _, t3, ⟨o2, hex, rfl⟩, fun e he => g1 e (pm.mem_iff.mp he), (pm.map keyS).trans p1, nd1, ⟨b2, f3⟩, r3, hl.imp id fun z => by rw [l3]; exact z⟩)
  · exact wpAny_pure (hR _ sb ⟨_, fs, _, t2, ⟨o1, hex, rfl⟩, g1, p1, nd1, ⟨hb1, hf2⟩, hr, hl⟩)
/-- one text is put in -/
theorem setS_add {k : Str} {tk : Tok} {Q : Bool → Shared → Prop} (R : SetS w s.heap a L) (room : L.length + 1 < scanBound)
    (hQ : ∀ h' b L', Heap.SameBut a s.heap h' → SetS w h' a L' → L' = (if k ∈ L then L else L ++ [k]) → Q b { s with heap := h' }) : wpAny (model P w) A (setAddHashed a (.str k tk) ((strKind P w).hash k)) Q E s := by
  obtain ⟨o, es, ep, t, ⟨ho, hex, hd⟩, g, pL, nd, ⟨hb, hf⟩, hr, hl⟩ := R
  have key : (strKind P w).is k (.str k tk) = true := PySem.Froz.is_str k tk
  have sc : (Value.str k tk).scannable = true := rfl
  have el : ElemsOf (strKind P w) es.toList := goodS_elems g
  have mem : ∀ j, j ∈ L ↔ ∃ e ∈ es.toList, (strKind P w).is j e.2 = true := fun j => by
    rw [← pL.mem_iff, List.mem_map]
    exact ⟨fun ⟨e, he, q⟩ => ⟨e, he, (goodS_is (g e he) j).2 q⟩, fun ⟨e, he, q⟩ => ⟨e, he, (goodS_is (g e he) j).1 q⟩⟩
  unfold setAddHashed setAddHashedIn
  refine wpAny_holding (wpAny_bind (wpAny_setState_of ho hd hf ?_))
  dsimp only
  rw [byScan_of sc hb el]
  simp only [↓reduceIte]
  unfold setAddByScan
  refine wpAny_bind (wpAny_bind (wpAny_rule (wpAny_bind (wpAny_setScan_of key ho hd hf el ?_))))
  cases hfi : List.findIdx? (fun e => (strKind P w).is k e.2) es.toList with
  | some j =>
    dsimp only
    obtain ⟨hj, pj, _⟩ := List.findIdx?_eq_some_iff_getElem.mp hfi
    have hk : k ∈ L := (mem k).2 ⟨es.toList[j], List.getElem_mem hj, pj⟩
    refine wpAny_pure (wpAny_pure (hQ s.heap _ L (Heap.SameBut.refl a s.heap) ⟨o, es, ep, t, ⟨ho, hex, hd⟩, g, pL, nd, ⟨hb, hf⟩, hr, hl⟩ (by rw [if_pos hk])))
  | none =>
    dsimp only
    have hk : k ∉ L := fun z => by
      obtain ⟨e, he, q⟩ := (mem k).1 z
      have c := List.findIdx?_eq_none_iff.mp hfi e he
      rw [q] at c
      cases c
    have gw : ∀ (b : Bool) {s₁ : Shared} {Q' : Unit → Shared → Prop}, Q' () s₁ → wpAny (model P w) A (match b with
        | true => rule "set.scan.the-table-gave-way"
        | false => pure ()) Q' E s₁ := fun b s₁ Q' q => by cases b <;> first | exact wpAny_pure q | exact wpAny_rule q
    have pm := layNew_perm t es ((strKind P w).hash k) (.str k tk)
    have f1 := layNew_fits t es ((strKind P w).hash k) (.str k tk)
    have r1 := layNew_ris t es ((strKind P w).hash k) (.str k tk) hr
    have l1 := layNew_led t es ((strKind P w).hash k) (.str k tk)
    generalize layNew t es ((strKind P w).hash k) (.str k tk) = Z at pm f1 r1 l1 ⊢
    obtain ⟨fs, t1, wd, gave⟩ := Z
    dsimp only at pm f1 r1 l1 ⊢
    rw [Array.toList_push] at pm
    have g1 : ∀ e ∈ fs.toList, GoodS w e := fun e he => by
      rcases List.mem_append.mp (pm.mem_iff.mp he) with z | z
      · exact g e z
      · rw [List.mem_singleton.mp z]; exact ⟨k, tk, rfl⟩
    have p1 : (fs.toList.map keyS).Perm (L ++ [k]) := by
      have q := pm.map keyS
      rw [List.map_append] at q
      exact q.trans (List.Perm.append_right _ pL)
    have nd1 : (L ++ [k]).Nodup := List.nodup_append.mpr ⟨nd, List.nodup_cons.mpr ⟨by simp, List.nodup_nil⟩, fun x hx y hy => by
      rw [List.mem_singleton.mp hy]
      rintro rfl
      exact hk hx⟩
    have sz : fs.size = L.length + 1 := by
      have q := p1.length_eq
      rw [List.length_map, Array.length_toList, List.length_append] at q
      exact q
    have b1 : fs.size < scanBound := by rw [sz]; exact room
    have led : w.params.followText "set-order" = true ∨ t1.led = true := hl.imp id fun z => by rw [l1]; exact z
    have fin : ∀ h', Heap.SameBut a s.heap h' → SetS w h' a (L ++ [k]) → Q true { s with heap := h' } := fun h' sb r => hQ h' true _ sb r (by rw [if_neg hk])
    refine wpAny_bind (gw _ ?_)
    split
    · refine wpAny_bind ?_
      rw [hashByValue_scannable 8 sc]
      refine wpAny_pure ?_
      refine setS_tail ?_ ho hex hd g1 p1 nd1 b1 ?_ ?_ ?_ ?_
      · intro b s₁ Q' q; cases b <;> first | exact wpAny_pure q | exact wpAny_rule q
      · first | (split <;> first | exact f1 | exact SetTable.fits_plain_off f1) | exact f1
      · first | (split <;> exact r1) | exact r1
      · first | (split <;> exact led) | exact led
      · intro h' sb r; dsimp only; exact wpAny_pure (fin h' sb r)
    · refine wpAny_bind (wpAny_pure ?_)
      simp only [↓reduceIte]
      refine setS_tail ?_ ho hex hd g1 p1 nd1 b1 f1 r1 led ?_
      · intro b s₁ Q' q; cases b <;> first | exact wpAny_pure q | exact wpAny_rule q
      · intro h' sb r; dsimp only; exact wpAny_pure (fin h' sb r)
/-- the texts that are met first -/
def firstS : List Str → List Str → List Str
  | L, [] => L
  | L, k :: r => firstS (if k ∈ L then L else L ++ [k]) r
theorem firstS_snoc (k : Str) : ∀ (ks L : List Str), firstS L (ks ++ [k]) = (if k ∈ firstS L ks then firstS L ks else firstS L ks ++ [k])
  | [], L => rfl
  | j :: ks, L => firstS_snoc k ks _
theorem firstS_len : ∀ (ks L : List Str), (firstS L ks).length ≤ L.length + ks.length
  | [], L => Nat.le_refl _
  | k :: ks, L => by
    refine Nat.le_trans (firstS_len ks _) ?_
    split <;> simp <;> omega
theorem setS_fresh {h : Heap} {a : Addr} (ho : h.get? a = some { cls := .type "set", dict := none, data := .set #[] 0 (.fresh 0 0 (!w.params.followText "set-order")) }) : SetS w h a [] :=
  ⟨_, #[], 0, _, ⟨ho, ⟨rfl, rfl, rfl⟩, rfl⟩, (fun e he => by simp at he), .refl _, .nil, ⟨by decide, rfl⟩, List.Pairwise.nil, by
    show _ ∨ (!w.params.followText "set-order") = true
    cases w.params.followText "set-order"
    · exact .inr rfl
    · exact .inl rfl⟩
/-- the loop of set.update -/
theorem setS_loop {I : Addr} {fp wr : List Addr} {G : Array GenState → Array GenState → Prop} {n : Nat} {Pv : Nat → Value → Prop} {St : Nat → Shared → Prop} {R : Result → Shared → Prop} (W : WalksS P w A.in1 I fp wr G n Pv St) (S : Addr) (hSf : S ∉ fp)
    (ks : List Str) (hn : n = ks.length) (hb : n + 1 < scanBound) (hval : ∀ i v, Pv i v → ∃ k t, ks[i]? = some k ∧ v = .str k t) :
    ∀ (d i : Nat) (s : Shared), n - i = d → i ≤ n → St i s → SetS w s.heap S (firstS [] (ks.take i)) → (∀ s', Moved (S :: wr) G s s' → SetS w s'.heap S (firstS [] ks) → R (.ok (.ret .none)) s') →
      codeAny (model P w) A (.builtin "set.update.loop" ⟨[.ref S, .ref I], []⟩) R s := by
  have hSw : S ∉ wr := fun h => hSf (W.sub _ h)
  have more : ∀ b ∈ wr, b ∈ S :: wr := fun b hb => List.mem_cons_of_mem _ hb
  intro d
  induction d with
  | zero =>
    intro i s hd hi st hS hR
    obtain rfl : i = n := by omega
    refine codeAny_builtin F.entry_set_update_loop ?_
    rw [Around.under_plainId F.plain_set_update_loop _]
    refine wpAny_bind (m := pyNext (.ref I)) (W.done s _ _ st fun s' hm => ?_)
    rw [hn, List.take_length] at hS
    exact wpAny_pure (hR s' (hm.mono more) (hS.keep fun o e => hm.heap S _ hSw e))
  | succ d ih =>
    intro i s hd hi st hS hR
    have lt : i < n := by omega
    refine codeAny_builtin F.entry_set_update_loop ?_
    rw [Around.under_plainId F.plain_set_update_loop _]
    refine wpAny_bind (m := pyNext (.ref I)) (W.item i s _ _ lt st fun v s' hP st' hm => ?_)
    obtain ⟨k, t, hk, rfl⟩ := hval i v hP
    have hS' : SetS w s'.heap S (firstS [] (ks.take i)) := hS.keep fun o e => hm.heap S _ hSw e
    refine wpAny_bind (m := holding [Value.str k t] (setAdd S (.str k t))) (wpAny_holding ?_)
    unfold setAdd
    refine wpAny_holding (wpAny_bind ((strKind P w).pyHash (k := k) (PySem.Froz.is_str k t) ?_))
    have room : (firstS [] (ks.take i)).length + 1 < scanBound := by
      have q := firstS_len (ks.take i) []
      rw [List.length_take] at q
      simp only [List.length_nil] at q
      omega
    refine setS_add (s := { s' with toks := s'.toks + 1 }) hS' room fun h' b L' sb r e => ?_
    have hN : SetS w h' S (firstS [] (ks.take (i + 1))) := by
      rw [L2.take_next hk, firstS_snoc, ← e]
      exact r
    refine wpAny_pure ⟨plainId_quiet F.plain_set_update_loop _, ih (i + 1) _ (by omega) lt (W.frame _ s' _ _ st' (Nat.le_succ _) fun b hb o e => ?_) hN fun s2 m2 r2 => ?_⟩
    · rw [sb.2 b (fun z : b = S => hSf (by rw [← z]; exact hb))]; exact e
    · refine hR s2 (Moved.trans W.gtrans ((hm.mono more).then_heap (Nat.le_succ _) fun b o hb e => ?_) m2) r2
      rw [sb.2 b (fun z : b = S => hb (by rw [z]; exact List.mem_cons_self))]; exact e
/-- a set as it is made -/
abbrev newSet (w : World) : Obj := { cls := .type "set", dict := none, data := .set #[] 0 (.fresh 0 0 (!w.params.followText "set-order")) }
set_option maxHeartbeats 3200000 in
/-- set(xs) -/
theorem setS_call {l : Addr} {its : Array Value} (ks : List Str) {Q : Value → Shared → Prop} (hh : A.handled = none) (hl : s.heap.IsList l its) (hval : ∀ (i : Nat) (v : Value), its[i]? = some v → ∃ k t, ks[i]? = some k ∧ v = .str k t) (hn : its.size = ks.length) (hb : ks.length + 1 < scanBound)
    (h : ∀ (h' : Heap) (tk : Nat), SetS w h' s.heap.objs.size (firstS [] ks) → (∀ b o, s.heap.get? b = some o → h'.get? b = some o) → Q (.ref s.heap.objs.size) { s with heap := h', toks := tk }) :
    wpAny (model P w) A (call (.type "set") [.ref l]) Q E s := by
  obtain ⟨cc, tl, mro⟩ := F.called_set.mro
  have made := F.called_set.made
  have sub := F.called_set.sub
  refine wpAny_call (codeAny_of_tree ?_)
  show wpAny _ _ (callAny (.type "set") _) _ _ _
  refine wpAny_pure ⟨Code.quiet_builtin _ (by decide +kernel), codeAny_builtin F.entry_type_call ?_⟩
  rw [Around.under_plain (weight_type_call_type "set" [.ref l] []) rfl]
  have n1 := F.called_set.notType
  have n2 := F.called_set.canCreate
  have ct := F.typeCall_set_1 (.ref l)
  repeat (any_goals (first | assumption | wp_step))
  refine codeAny_mono (code_set_led1 (.ref l) (E := E) (Q₁ := fun v s₁ => v = .ref s.heap.objs.size ∧ s₁ = { s with heap := s.heap.push (newSet w) }) ⟨rfl, rfl⟩) fun r s₁ hr => ?_
  cases r with
  | error e => exact hr
  | ok fl =>
    cases fl with
    | ret v =>
      obtain ⟨rfl, rfl⟩ := hr
      have hS : (s.heap.push (newSet w)).get? s.heap.objs.size = some (newSet w) := Heap.get?_push_size _ rfl
      have hT : Shared.TypeIs { s with heap := s.heap.push (newSet w) } (.ref s.heap.objs.size) "set" := ⟨_, hS, rfl⟩
      have li := F.called_set.init.lookup
      have lb := F.called_set.init.bind (.ref s.heap.objs.size)
      repeat (any_goals (first | assumption | wp_step))
      refine codeAny_mono (codeAny_call_builtin (R := wants (fun r s₂ => r = .none ∧ ∃ h' tk, s₂ = { s with heap := h', toks := tk } ∧ SetS w h' s.heap.objs.size (firstS [] ks) ∧ ∀ b o, s.heap.get? b = some o → h'.get? b = some o) E)
        F.called_set.init.plain F.entry_set_init (check_set_init_1 hT ?_)) fun r₂ s₂ q₂ => ?_
      · obtain ⟨ol, hol, hcl, nl, hdl⟩ := hl
        obtain ⟨oc, od, oa, os⟩ := ol
        simp only at hcl hdl
        subst hcl; subst hdl
        have ol' : (s.heap.push (newSet w)).get? l = some { cls := .type "list", dict := od, data := .seq its nl, slots := os } := Heap.get?_push_of_some _ hol
        have s1 := F.sub_list_set
        have s2 := F.sub_list_frozenset
        have ne : (Value.type "list" == Value.type "dict") = false := by decide
        have l1 : (s.heap.push (newSet w)).IsList l its := ⟨_, ol', rfl, nl, rfl⟩
        unfold Builtin.«set.__init__» noKeywords Builtin.Frozenset.updateFrom
        generalize hPI : pyIter = PI
        wp_walk
        subst hPI
        refine wpAny_pyIter_list l1 (wpAny_bind (wpAny_runValue ?_))
        have lS : l < s.heap.objs.size := Heap.lt_size hol
        have h3 : A.in1.in1.in1.handled = none := by simp [hh]
        have nI : l ≠ (s.heap.push (newSet w)).objs.size := by rw [Heap.size_push]; exact Nat.ne_of_lt (Nat.lt_succ_of_lt lS)
        have nf : s.heap.objs.size ∉ [(s.heap.push (newSet w)).objs.size, l] := by
          rw [Heap.size_push]
          simp only [List.mem_cons, List.mem_singleton, List.not_mem_nil, or_false, not_or]
          exact ⟨Nat.ne_of_lt (Nat.lt_succ_self _), Nat.ne_of_gt lS⟩
        refine setS_loop ((Walks.list h3 _ l nI its).toS) s.heap.objs.size nf ks hn (by rw [hn]; exact hb) hval (its.size - 0) 0 _ (by omega) (Nat.zero_le _) ⟨⟨_, Heap.get?_push_size _ rfl, rfl, rfl⟩, (l1.push _)⟩ ?hS0 ?hR
        case hS0 => exact setS_fresh (Heap.get?_push_of_some _ hS)
        case hR =>
          intro s' hm hS'
          have keep : ∀ b o, s.heap.get? b = some o → s'.heap.get? b = some o := fun b o e => hm.heap b o (fun z => by
            have lt := Heap.lt_size e
            rcases List.mem_cons.mp z with z | z
            · rw [z] at lt; exact Nat.lt_irrefl _ lt
            · rw [List.mem_singleton.mp z, Heap.size_push] at lt
              exact absurd lt (Nat.not_lt_of_le (Nat.le_succ _))) (Heap.get?_push_of_some _ (Heap.get?_push_of_some _ e))
          obtain ⟨h', g2, d', tk', os'⟩ := s'
          have eg : g2 = s.gens := hm.gens
          have ed : d' = s.drawn := hm.drawn
          have eo : os' = s.os := hm.os
          subst eg; subst ed; subst eo
          show wpAny _ _ _ _ _ _
          refine wpAny_pure ?_
          show wpAny _ _ (ret Value.none) _ _ _
          exact wpAny_pure ⟨rfl, h', tk', rfl, hS', keep⟩
      · cases r₂ with
        | error e => exact q₂
        | ok fl₂ =>
          cases fl₂ with
          | ret r =>
            obtain ⟨rfl, h', tk, rfl, hS', k'⟩ := q₂
            repeat (any_goals (first | assumption | wp_step))
            exact h _ _ hS' k'
          | _ => exact q₂.elim
    | _ => exact hr.elim
end
end Ra


set_option Elab.async false
set_option linter.all false
set_option autoImplicit false
set_option maxRecDepth 100000
/-! set(a tuple of texts) -/
namespace Ra
open PySem PySem.Spec PyProof.Rows L2
section
variable {P : Program} {w : World} {A : Around} {E : Value → Shared → Prop} {s : Shared} {a : Addr} {L : List Str}
set_option maxHeartbeats 3200000 in
/-- set(t), t a tuple -/
theorem setS_callT {l : Addr} {its : Array Value} (ks : List Str) {Q : Value → Shared → Prop} (hh : A.handled = none) (hl : s.heap.IsTuple l its) (hval : ∀ (i : Nat) (v : Value), its[i]? = some v → ∃ k t, ks[i]? = some k ∧ v = .str k t) (hn : its.size = ks.length) (hb : ks.length + 1 < scanBound)
    (h : ∀ (h' : Heap) (tk : Nat), SetS w h' s.heap.objs.size (firstS [] ks) → (∀ b o, s.heap.get? b = some o → h'.get? b = some o) → Q (.ref s.heap.objs.size) { s with heap := h', toks := tk }) :
    wpAny (model P w) A (call (.type "set") [.ref l]) Q E s := by
  obtain ⟨cc, tl, mro⟩ := F.called_set.mro
  have made := F.called_set.made
  have sub := F.called_set.sub
  refine wpAny_call (codeAny_of_tree ?_)
  show wpAny _ _ (callAny (.type "set") _) _ _ _
  refine wpAny_pure ⟨Code.quiet_builtin _ (by decide +kernel), codeAny_builtin F.entry_type_call ?_⟩
  rw [Around.under_plain (weight_type_call_type "set" [.ref l] []) rfl]
  have n1 := F.called_set.notType
  have n2 := F.called_set.canCreate
  have ct := F.typeCall_set_1 (.ref l)
  repeat (any_goals (first | assumption | wp_step))
  refine codeAny_mono (code_set_led1 (.ref l) (E := E) (Q₁ := fun v s₁ => v = .ref s.heap.objs.size ∧ s₁ = { s with heap := s.heap.push (newSet w) }) ⟨rfl, rfl⟩) fun r s₁ hr => ?_
  cases r with
  | error e => exact hr
  | ok fl =>
    cases fl with
    | ret v =>
      obtain ⟨rfl, rfl⟩ := hr
      have hS : (s.heap.push (newSet w)).get? s.heap.objs.size = some (newSet w) := Heap.get?_push_size _ rfl
      have hT : Shared.TypeIs { s with heap := s.heap.push (newSet w) } (.ref s.heap.objs.size) "set" := ⟨_, hS, rfl⟩
      have li := F.called_set.init.lookup
      have lb := F.called_set.init.bind (.ref s.heap.objs.size)
      repeat (any_goals (first | assumption | wp_step))
      refine codeAny_mono (codeAny_call_builtin (R := wants (fun r s₂ => r = .none ∧ ∃ h' tk, s₂ = { s with heap := h', toks := tk } ∧ SetS w h' s.heap.objs.size (firstS [] ks) ∧ ∀ b o, s.heap.get? b = some o → h'.get? b = some o) E)
        F.called_set.init.plain F.entry_set_init (check_set_init_1 hT ?_)) fun r₂ s₂ q₂ => ?_
      · obtain ⟨ol, hol, hcl, nl, hdl⟩ := hl
        obtain ⟨oc, od, oa, os⟩ := ol
        simp only at hcl hdl
        subst hcl; subst hdl
        have ol' : (s.heap.push (newSet w)).get? l = some { cls := .type "tuple", dict := od, data := .seq its nl, slots := os } := Heap.get?_push_of_some _ hol
        have s1 := F.sub_tuple_set
        have s2 := F.sub_tuple_frozenset
        have ne : (Value.type "tuple" == Value.type "dict") = false := by decide
        have l1 : (s.heap.push (newSet w)).IsTuple l its := ⟨_, ol', rfl, nl, rfl⟩
        unfold Builtin.«set.__init__» noKeywords Builtin.Frozenset.updateFrom
        generalize hPI : pyIter = PI
        wp_walk
        subst hPI
        refine wpAny_pyIter_tuple l1 (wpAny_bind (wpAny_runValue ?_))
        have lS : l < s.heap.objs.size := Heap.lt_size hol
        have h3 : A.in1.in1.in1.handled = none := by simp [hh]
        have nI : l ≠ (s.heap.push (newSet w)).objs.size := by rw [Heap.size_push]; exact Nat.ne_of_lt (Nat.lt_succ_of_lt lS)
        have nf : s.heap.objs.size ∉ [(s.heap.push (newSet w)).objs.size, l] := by
          rw [Heap.size_push]
          simp only [List.mem_cons, List.mem_singleton, List.not_mem_nil, or_false, not_or]
          exact ⟨Nat.ne_of_lt (Nat.lt_succ_self _), Nat.ne_of_gt lS⟩
        refine setS_loop ((Walks.tuple h3 _ l nI its).toS) s.heap.objs.size nf ks hn (by rw [hn]; exact hb) hval (its.size - 0) 0 _ (by omega) (Nat.zero_le _) ⟨⟨_, Heap.get?_push_size _ rfl, rfl, rfl⟩, (l1.push _)⟩ ?hS0 ?hR
        case hS0 => exact setS_fresh (Heap.get?_push_of_some _ hS)
        case hR =>
          intro s' hm hS'
          have keep : ∀ b o, s.heap.get? b = some o → s'.heap.get? b = some o := fun b o e => hm.heap b o (fun z => by
            have lt := Heap.lt_size e
            rcases List.mem_cons.mp z with z | z
            · rw [z] at lt; exact Nat.lt_irrefl _ lt
            · rw [List.mem_singleton.mp z, Heap.size_push] at lt
              exact absurd lt (Nat.not_lt_of_le (Nat.le_succ _))) (Heap.get?_push_of_some _ (Heap.get?_push_of_some _ e))
          obtain ⟨h', g2, d', tk', os'⟩ := s'
          have eg : g2 = s.gens := hm.gens
          have ed : d' = s.drawn := hm.drawn
          have eo : os' = s.os := hm.os
          subst eg; subst ed; subst eo
          show wpAny _ _ _ _ _ _
          refine wpAny_pure ?_
          show wpAny _ _ (ret Value.none) _ _ _
          exact wpAny_pure ⟨rfl, h', tk', rfl, hS', keep⟩
      · cases r₂ with
        | error e => exact q₂
        | ok fl₂ =>
          cases fl₂ with
          | ret r =>
            obtain ⟨rfl, h', tk, rfl, hS', k'⟩ := q₂
            repeat (any_goals (first | assumption | wp_step))
            exact h _ _ hS' k'
          | _ => exact q₂.elim
    | _ => exact hr.elim
end
end Ra


set_option Elab.async false
set_option linter.all false
set_option autoImplicit false
set_option maxRecDepth 100000
/-! sorted(set(e)), the rest -/
namespace Ra
open PySem PySem.Spec PyProof.Rows L2
section
variable {P : Program} {w : World} {A : Around} {E : Value → Shared → Prop} {s : Shared} {a : Addr} {L : List Str}
/-- sorted(a), a set of texts -/
theorem setS_sorted {Q : Value → Shared → Prop} (R : SetS w s.heap a L) (hh : A.handled = none) (hu : A.units + 200 < cLine)
    (hQ : ∀ s' p (out : List Value) (c : Nat), (∀ b o, s.heap.get? b = some o → s'.heap.get? b = some o) → s'.gens = s.gens → s'.os = s.os → s.heap.objs.size ≤ p → s'.heap.get? p = some (seqObj "list" out.toArray c) → out.length = L.length →
      (∃ L' : List Str, L'.Perm L ∧ PySem.W.EachIs (fun u d => ∃ k t, d = PyData.str k ∧ u = Value.str k t) out (isort [] (L'.map PyData.str))) → Q (.ref p) s') :
    wpAny (model P w) A (call (.builtin "sorted") [.ref a]) Q E s := by
  obtain ⟨o, es, ep, t, ⟨ho, hex, hd⟩, g, pL, nd, ⟨hb, hf⟩, hr, hl⟩ := R
  refine Calls.call_function_entry kind_sorted plain_sorted entry_sorted (args_sorted1 _) ?_
  unfold Builtin.«sorted»
  refine wpAny_bind (m := checkCount "sorted" 1 1 _) (wpAny_pure (wpAny_bind (collect_set (A := A.in1) hh ⟨o, ho, hex.1, hd⟩ hf hb hr hl fun s1 vs k1 hz g1 o1 pm => ?_)))
  have hvl : vs.length = L.length := by rw [pm.length_eq, List.length_map, ← pL.length_eq, List.length_map]
  have gv : ∀ v ∈ vs, ∃ k t, v = Value.str k t := fun v hv => by
    obtain ⟨e, he, q⟩ := List.mem_map.mp (pm.mem_iff.mp hv)
    obtain ⟨k, tk, rfl⟩ := g e he
    exact ⟨k, tk, q.symm⟩
  let kv : Value → Str := fun v => keyS (0, v)
  have pk : (vs.map kv).Perm L := by
    have q := pm.map kv
    rw [List.map_map] at q
    exact q.trans pL
  have hlen : L.length ≤ sizeLine := by
    have q := pL.length_eq
    rw [List.length_map, Array.length_toList] at q
    rw [← q]
    exact fits_of_scanBound hb
  have each : ∀ {R' : Value → PyData → Prop} (l : List Value), (∀ v ∈ l, ∃ k t, v = Value.str k t) → (∀ k t, R' (Value.str k t) (.str k)) → PySem.W.EachIs R' l (l.map fun v => PyData.str (kv v)) := by
    intro R' l
    induction l with
    | nil => exact fun _ _ => .nil
    | cons v l ih =>
      intro h1 h2
      obtain ⟨k, t, rfl⟩ := h1 v List.mem_cons_self
      exact .cons (h2 k t) (ih (fun u hu => h1 u (List.mem_cons_of_mem _ hu)) h2)
  refine wpAny_bind (wpAny_newList ?_ (by rw [hvl]; exact hlen))
  have oL : (s1.heap.push (seqObj "list" vs.toArray 0)).get? s1.heap.objs.size = some (seqObj "list" vs.toArray 0) := Heap.get?_push_size _ rfl
  refine wpAny_bind (wpAny_holding (PySem.W.list_sort_data (enc := id) (vs := vs) (bs := vs.map fun v => PyData.str (kv v)) (R := fun u d => ∃ k t, d = PyData.str k ∧ u = Value.str k t) oL (each vs gv fun k t => ⟨k, t, rfl, rfl⟩)
    (each vs gv fun k t => ⟨[], .str _ _, by simp⟩) ?_ ?_ (by rw [List.length_map, hvl]; exact hlen) ?_ fun out hol he => ?_))
  · rw [List.map_id]
    intro d hd d' hd'
    obtain ⟨v, _, rfl⟩ := List.mem_map.mp hd
    obtain ⟨v', _, rfl⟩ := List.mem_map.mp hd'
    simp [PySem.W.alike]
  · rw [List.map_id]
    refine .inr fun d hd => ?_
    obtain ⟨v, _, rfl⟩ := List.mem_map.mp hd
    exact ⟨by simp, by simp⟩
  · intro b hb
    obtain ⟨v, _, rfl⟩ := List.mem_map.mp hb
    show A.in1.units + 1 + (PyData.str (kv v)).depth < cLine
    simp only [PyData.depth]
    show A.units + 1 + 1 + 0 < cLine
    omega
  · rw [← isort_eq] at he
    obtain ⟨c, hc⟩ := sortedHeap_at (vs := vs) (out := out.toArray) oL
    refine wpAny_pure ⟨_, rfl, hQ _ s1.heap.objs.size out c (fun b u e => ?_) g1 o1 hz hc (by rw [hol, List.length_map, hvl]) ⟨vs.map kv, pk, by rw [List.map_map]; exact he⟩⟩
    have q := k1 b u e
    have lt := Heap.lt_size q
    show (sortedHeap (s1.heap.push (seqObj "list" vs.toArray 0)) s1.heap.objs.size vs out.toArray).get? b = some u
    rw [sortedHeap_old (Nat.ne_of_lt lt) (by rw [size_push']; exact Nat.lt_succ_of_lt lt)]
    exact Heap.get?_push_of_some _ q
end
end Ra


set_option Elab.async false
set_option linter.all false
set_option autoImplicit false
set_option maxRecDepth 100000
/-! sorted(set(e)): the rule -/
namespace Ra
open PySem PySem.Spec PyProof.Rows L2
theorem dle_str (x y : Str) : dle (.str x) (.str y) = decide (x.cps.toList ≤ y.cps.toList) := by
  show (!PySem.W.dataLt (.str y) (.str x)) = _
  rw [PySem.W.dataLt_str, PySem.W.not_lt_str]
theorem dle_anti {x y : Str} (h1 : dle (.str x) (.str y) = true) (h2 : dle (.str y) (.str x) = true) : PyData.str x = .str y := by
  rw [dle_str] at h1 h2
  have e := List.le_antisymm (of_decide_eq_true h1) (of_decide_eq_true h2)
  rw [PySem.W.str_of_cps e]
theorem ins_perm (x : PyData) : ∀ l, (ins x l).Perm (x :: l)
  | [] => .refl _
  | y :: l => by
    unfold ins
    split
    · exact .refl _
    · exact ((ins_perm x l).cons y).trans (.swap x y l)
theorem isort_perm : ∀ (l acc : List PyData), (isort acc l).Perm (acc ++ l)
  | [], acc => by simp [isort]
  | x :: l, acc => by
    refine (isort_perm l _).trans ?_
    refine ((ins_perm x acc).append_right l).trans ?_
    exact (List.perm_middle (a := x) (l₁ := acc) (l₂ := l)).symm
theorem sorted_unique : ∀ {l l' : List PyData}, (∀ x ∈ l, ∀ y ∈ l, dle x y = true → dle y x = true → x = y) → l.Pairwise (fun a b => dle a b = true) → l'.Pairwise (fun a b => dle a b = true) → l.Perm l' → l = l'
  | [], l', _, _, _, p => by rw [List.nil_perm.mp p]
  | x :: l, l', ha, h, h', p => by
    cases l' with
    | nil => exact absurd p.length_eq (by simp)
    | cons y l' =>
      obtain ⟨a1, a2⟩ := List.pairwise_cons.mp h
      obtain ⟨b1, b2⟩ := List.pairwise_cons.mp h'
      have hy : y ∈ x :: l := p.mem_iff.mpr List.mem_cons_self
      have hx : x ∈ y :: l' := p.mem_iff.mp List.mem_cons_self
      have e : x = y := by
        rcases List.mem_cons.mp hy with q | q
        · exact q.symm
        · rcases List.mem_cons.mp hx with z | z
          · exact z
          · exact ha x List.mem_cons_self y hy (a1 y q) (b1 x z)
      subst e
      rw [sorted_unique (fun u hu v hv => ha u (List.mem_cons_of_mem _ hu) v (List.mem_cons_of_mem _ hv)) a2 b2 (List.perm_cons x |>.mp p)]
theorem isort_strs {L L' : List Str} (p : L'.Perm L) : isort [] (L'.map PyData.str) = isort [] (L.map PyData.str) := by
  refine sorted_unique (fun x hx y hy => ?_) (isort_sorted _ _ .nil) (isort_sorted _ _ .nil) ((isort_perm _ []).trans ((p.map _).trans (isort_perm _ []).symm))
  have hx := (isort_perm _ _).mem_iff.mp hx
  have hy := (isort_perm _ _).mem_iff.mp hy
  obtain ⟨a, _, rfl⟩ := List.mem_map.mp hx
  obtain ⟨b, _, rfl⟩ := List.mem_map.mp hy
  exact dle_anti
theorem eqv_str (x y : Str) : PyData.eqv (.str x) (.str y) = (x == y) := by simp [PyData.eqv]
theorem dedup_strs : ∀ (ks L : List Str), dedup (L.reverse.map PyData.str) (ks.map PyData.str) = (firstS L ks).map PyData.str
  | [], L => by simp [dedup, firstS]
  | k :: ks, L => by
    show dedup (L.reverse.map PyData.str) (.str k :: ks.map PyData.str) = _
    unfold dedup firstS
    have e : (List.map PyData.str L.reverse).any (fun y => PyData.eqv y (.str k)) = decide (k ∈ L) := by
      rw [List.any_map, Bool.eq_iff_iff, List.any_eq_true, decide_eq_true_eq]
      constructor
      · rintro ⟨x, hx, h⟩
        have : x = k := by simpa [eqv_str] using h
        rw [← this]
        exact List.mem_reverse.mp hx
      · intro h
        exact ⟨k, List.mem_reverse.mpr h, by simp [eqv_str]⟩
    rw [e]
    by_cases h : k ∈ L
    · simp only [h, decide_true, if_true]
      exact dedup_strs ks L
    · simp only [h, decide_false, Bool.false_eq_true, if_false]
      have := dedup_strs ks (L ++ [k])
      rw [List.reverse_append] at this
      exact this
theorem allStr_ok : ∀ {xs : List PyData}, allStr xs = true → ∃ ks : List Str, xs = ks.map PyData.str
  | [], _ => ⟨[], rfl⟩
  | .str k :: r, h => by
    obtain ⟨ks, rfl⟩ := allStr_ok (xs := r) h
    exact ⟨k :: ks, rfl⟩
  | .none :: _, h => by cases h
  | .bool _ :: _, h => by cases h
  | .int _ :: _, h => by cases h
  | .list _ :: _, h => by cases h
  | .tuple _ :: _, h => by cases h
  | .dict _ :: _, h => by cases h
def SetSO (w : World) (a : Addr) (L : List Str) : HO := .ext fun h => SetS w h a L
theorem setSO_new {P : Program} {w : World} {H : Hp} {h : Heap} {a : Addr} {L : List Str} (R : SetS w h a L) : ObjOk P w H h a (SetSO w a L) := by
  have ⟨o, _, _, _, ⟨ho, _⟩, _⟩ := R
  exact ⟨R, ⟨o, ho⟩, fun h1 h2 p k => SetS.keep p k⟩
def rSet1 (K : PySem.W.Frag) (w : World) : List V → Hp → VK → Prop := fun xs H Q => ∃ (a : Addr) (ks : List Str), xs = [.ref a] ∧ (Rd H a (.lst (ks.map V.str)) ∨ SqT K H a (ks.map V.str)) ∧ ks.length + 1 < scanBound ∧ ∀ p, H p = none → Q (.ref p) (upd H p (SetSO w p (firstS [] ks)))
def rSet2 (w : World) : List V → Hp → VK → Prop := fun xs H Q => ∃ (a : Addr) (L : List Str), xs = [.ref a] ∧ H a = some (SetSO w a L) ∧ ∀ p (M : List Str), M.map PyData.str = isort [] (L.map PyData.str) → H p = none → Q (.ref p) (upd H p (.lst (M.map V.str)))
section
variable {X : Cx} {e : Expr} {p : P} {pos : Pos}
theorem vals_strs : ∀ {ks : List Str} {us : List Value}, Vals (ks.map V.str) us → (us.length = ks.length) ∧ ∀ (i : Nat) (v : Value), us[i]? = some v → ∃ k t, ks[i]? = some k ∧ v = .str k t
  | [], _, .nil => ⟨rfl, fun i v h => by simp at h⟩
  | k :: ks, _, .cons ⟨t, e⟩ r => by
    obtain ⟨h1, h2⟩ := vals_strs r
    refine ⟨by simp [h1], fun i v h => ?_⟩
    cases i with
    | zero =>
      simp at h
      exact ⟨k, t, rfl, by rw [← h]; exact e⟩
    | succ i => exact h2 i v (by simpa using h)
theorem cr_set1 (hc : X.calm = true) : CallR X (.type "set") (rSet1 X.K X.w) := by
  intro pins s σ H xs us Q I r h
  obtain ⟨l, ks, rfl, hl, hb, q⟩ := h
  rw [Vals.ref1 r]
  have fin : ∀ (h' : Heap) (tk : Nat), SetS X.w h' s.heap.objs.size (firstS [] ks) → (∀ b o, s.heap.get? b = some o → h'.get? b = some o) → EP X pins σ Q (.ref s.heap.objs.size) { s with heap := h', toks := tk } := fun h' tk R k =>
    ⟨.ref s.heap.objs.size, upd H s.heap.objs.size (SetSO X.w s.heap.objs.size (firstS [] ks)), I.laid (t' := tk) k (Nat.le_refl _) (setSO_new R), rfl, q _ (I.hok.fresh (Nat.le_refl _))⟩
  rcases hl with hl | hl
  · obtain ⟨its, rv, pl, hz⟩ := I.list (.inl hl)
    obtain ⟨v1, v2⟩ := vals_strs rv
    exact setS_call (P := X.prog) (w := X.w) ks (I.ok.hd hc) pl.isList (fun i v h => v2 i v (by simpa using h)) (by simpa using v1) hb fin
  · obtain ⟨its, rv, pl, hz⟩ := I.tuple hl
    obtain ⟨v1, v2⟩ := vals_strs rv
    exact setS_callT (P := X.prog) (w := X.w) ks (I.ok.hd hc) (show s.heap.IsTuple l its.toArray from pl) (fun i v h => v2 i v (by simpa using h)) (by simpa using v1) hb fin
/-- len(a), a set of texts -/
def rLenS (w : World) : List V → Hp → VK → Prop := fun xs H Q => ∃ (a : Addr) (L : List Str), xs = [.ref a] ∧ H a = some (SetSO w a L) ∧ Q (.int L.length) H
theorem cr_lenS : CallR X (.builtin "len") (rLenS X.w) := by
  intro pins s σ H xs us Q I r h
  obtain ⟨a, L, rfl, ha, q⟩ := h
  have R : SetS X.w s.heap a L := (I.hok a _ ha).1
  rw [Vals.ref1 r]
  obtain ⟨o, es, ep, t, ⟨ho, hex, hd⟩, g, pL, nd, ⟨hb, hf⟩, hr, hl⟩ := R
  have hn : es.size = L.length := by
    have q := pL.length_eq
    rw [List.length_map, Array.length_toList] at q
    exact q
  have hs := fits_of_scanBound hb
  rw [sizeLine_eq] at hs
  exact call_len_set ho hex hd hf (by omega) ⟨.int L.length, H, I.tok _, ⟨_, by rw [hn]⟩, q⟩
theorem each_strs : ∀ {out : List Value} {ds : List PyData}, PySem.W.EachIs (fun u d => ∃ k t, d = PyData.str k ∧ u = Value.str k t) out ds → ∃ M : List Str, M.map PyData.str = ds ∧ Vals (M.map V.str) out
  | _, _, .nil => ⟨[], rfl, .nil⟩
  | _, _, .cons ⟨k, t, e1, e2⟩ r => by
    obtain ⟨M, h1, h2⟩ := each_strs r
    exact ⟨k :: M, by rw [List.map_cons, h1, e1], .cons ⟨t, e2⟩ h2⟩
theorem cr_set2 (hc : X.calm = true) (hu : X.A.units + 200 < cLine) : CallR X (.builtin "sorted") (rSet2 X.w) := by
  intro pins s σ H xs us Q I r h
  obtain ⟨a, L, rfl, ha, q⟩ := h
  have R : SetS X.w s.heap a L := (I.hok a _ ha).1
  rw [Vals.ref1 r]
  refine setS_sorted R (I.ok.hd hc) hu fun s' p out c k g o hp hg hlen ⟨L', pm, he⟩ => ?_
  obtain ⟨M, m1, m2⟩ := each_strs he
  rw [isort_strs pm] at m1
  have hz : (M.map V.str).length ≤ sizeLine := by
    rw [m2.length, hlen]
    obtain ⟨_, es, _, _, _, _, pL, _, ⟨hb, _⟩, _⟩ := R
    have q := pL.length_eq
    rw [List.length_map, Array.length_toList] at q
    rw [← q]
    exact fits_of_scanBound hb
  have hn : H p = none := I.hok.fresh hp
  have J : Inv X pins σ (upd H p (.lst (M.map V.str))) { s with heap := s'.heap, gens := s'.gens, drawn := s'.drawn, toks := s'.toks } :=
    I.call (ch := []) (Un.laid k hp hn) (I.hok.laid k hp ⟨hz, out, c, m2, hg⟩) (by rw [g]; exact I.bare) (fun _ z => nomatch z)
  have e : s' = { s with heap := s'.heap, gens := s'.gens, drawn := s'.drawn, toks := s'.toks } := by
    cases s'
    cases s
    cases o
    rfl
  rw [e]
  exact ⟨.ref p, _, J, rfl, q p M m1 hn⟩
theorem rp_strs {K : PySem.W.Frag} {F : Addr → Prop} {H : Hp} : ∀ {ks : List Str} {ws : List V}, RpAll K F H ws (ks.map PyData.str) → ws = ks.map V.str ∧ ∀ k ∈ ks, sOk k = true
  | [], _, .nil => ⟨rfl, by simp⟩
  | k :: ks, _, .cons r t => by
    obtain ⟨h1, h2⟩ := rp_strs t
    cases r with
    | str _ h => exact ⟨by rw [h1]; rfl, fun j hj => (List.mem_cons.mp hj).elim (fun e => e ▸ h) (h2 j)⟩
theorem strs_rp {K : PySem.W.Frag} {F : Addr → Prop} {H : Hp} : ∀ {ks : List Str}, (∀ k ∈ ks, sOk k = true) → RpAll K F H (ks.map V.str) (ks.map PyData.str)
  | [], _ => .nil
  | k :: ks, h => .cons (.str k (h k List.mem_cons_self)) (strs_rp fun j hj => h j (List.mem_cons_of_mem _ hj))
theorem firstS_sub {x : Str} : ∀ {ks L : List Str}, x ∈ firstS L ks → x ∈ L ∨ x ∈ ks
  | [], _, h => .inl h
  | k :: ks, L, h => by
    rcases firstS_sub (ks := ks) h with q | q
    · split at q
      · exact .inl q
      · rcases List.mem_append.mp q with q | q
        · exact .inl q
        · exact .inr (by rw [List.mem_singleton.mp q]; exact List.mem_cons_self)
    · exact .inr (List.mem_cons_of_mem _ q)
theorem pe_setR {x y : Str} {q q2 q3 : Pos} (hx : x = "sorted") (hg : Gl X x) (hm : X.mg x = none) (ok : okName x = true) (hy : y = "set") (hg2 : Gl X y) (hm2 : X.mg y = none) (ok2 : okName y = true) (hc : X.calm = true) (hu : X.A.units + 200 < cLine)
    (ha : PE X e (tE X.K p.v)) (ns : notStar e = true) : PE X (.Call (.Name x q) [.Call (.Name y q2) [e] [] q3] [] pos) (tE X.K (cBi .sortedset [p])) := by
  subst hx; subst hy
  have b1 : bootBuiltins "sorted" = some (.builtin "sorted") := by decide +kernel
  have b2 : bootBuiltins "set" = some (.type "set") := by decide +kernel
  have inner := pe_callTy (r := rSet1 X.K X.w) (p := q2) (pos := q3) (cr_set1 hc) hg2 hm2 b2 (pa_cons ha pa_nil (star1 ns _ _)) (by decide) (by decide) (star1 ns _ _) (star_plain _ _ _ rfl)
  have outer := pe_callB (r := rSet2 X.w) (p := q) (pos := pos) (cr_set2 hc hu) hg hm b1 (pa_cons inner pa_nil (star1 rfl _ _)) (by decide) (by decide) (star1 rfl _ _) (star_plain _ _ _ rfl)
  refine PE.weak outer fun σ H Q h => ?_
  obtain ⟨env, m, g, hs, hm', hz⟩ := h
  refine ⟨env, m, g, hs, hm', (Rz.bind (show Rz X.K (((p.v env m).bind fun v m1 => (cArgs [] env m1).bind fun vs m2 => .ok (v.nf :: vs) m2).bind _) g H _ from hz) |> Rz.bind).mono fun v m1 g1 H1 e1 s1 z1 z rv => ?_⟩
  show rSet1 X.K X.w [z] H1 fun x H2 => rSet2 X.w [x] H2 Q
  obtain ⟨g2, s2, e2, r2⟩ := s1.hold rv
  have z2 := Rz.ok_now (show Rz X.K (.ok [v.nf] m1) g2 H1 _ from Rz.ext e2 z1) s2
  obtain ⟨ds, hd, z3⟩ := Rz.optBind z2
  have rr := look_ok s2 (.cons r2 (nf_ne v) .nil) hd
  obtain ⟨out, ho, z4⟩ := Rz.opt z3
  replace ho : sortedsetD ds = some out := ho
  have key : ∃ (xs : List PyData) (a : Addr) (ks : List Str), z = .ref a ∧ xs = ks.map PyData.str ∧ (∀ k ∈ ks, sOk k = true) ∧ (Rd H1 a (.lst (ks.map V.str)) ∨ SqT X.K H1 a (ks.map V.str)) ∧ ks.length < 4000 ∧ (sortD (dedup [] xs)).map Val.fr = some out := by
    unfold sortedsetD at ho
    split at ho
    · rename_i xs
      split at ho
      · rename_i hcs
        obtain ⟨ks, rfl⟩ := allStr_ok hcs.1
        obtain ⟨z', ez, hr⟩ := rr.one
        cases ez
        obtain ⟨a, ws, rfl, h1, h2⟩ := hr.lst
        obtain ⟨rfl, hok⟩ := rp_strs h2
        exact ⟨_, a, ks, rfl, rfl, hok, .inl h1, by simpa using hcs.2, ho⟩
      · cases ho
    · rename_i xs
      split at ho
      · rename_i hcs
        obtain ⟨ks, rfl⟩ := allStr_ok hcs.1
        obtain ⟨z', ez, hr⟩ := rr.one
        cases ez
        obtain ⟨a, ws, rfl, h1, h2⟩ := hr.tup
        obtain ⟨rfl, hok⟩ := rp_strs h2
        exact ⟨_, a, ks, rfl, rfl, hok, .inr h1, by simpa using hcs.2, ho⟩
      · cases ho
    · cases ho
  obtain ⟨_, a, ks, rfl, rfl, hok, h1, hlt, ho⟩ := key
  have hb : ks.length + 1 < scanBound := by
    show ks.length + 1 < 4096
    omega
  refine ⟨a, ks, rfl, h1, hb, fun p hp => ⟨p, firstS [] ks, rfl, upd_same .., fun p2 M hM hp2 => ?_⟩⟩
  have s3 := sim_new (o := SetSO X.w p (firstS [] ks)) s2 hp trivial
  have e3 := ext_new (o := SetSO X.w p (firstS [] ks)) s2 hp
  obtain ⟨ys, hy, e⟩ := Option.map_eq_some_iff.mp ho
  subst e
  have hys : ys = M.map PyData.str := by
    unfold sortD at hy
    split at hy
    · have q := dedup_strs ks []
      simp only [List.reverse_nil, List.map_nil] at q
      rw [hM, ← q]
      exact (Option.some.inj hy).symm
    · cases hy
  subst hys
  have hMo : ∀ k ∈ M, sOk k = true := fun k hk => by
    have q : PyData.str k ∈ isort [] ((firstS [] ks).map PyData.str) := by rw [← hM]; exact List.mem_map_of_mem hk
    obtain ⟨j, hj, ej⟩ := List.mem_map.mp ((isort_perm _ []).mem_iff.mp q)
    cases ej
    rcases firstS_sub hj with q | q
    · cases q
    · exact hok _ q
  have hlen : (M.map V.str).length ≤ sizeLine := by
    have q := congrArg List.length hM
    rw [List.length_map, isort_length, List.length_map, List.length_nil] at q
    have q2 := firstS_len ks []
    rw [List.length_nil] at q2
    rw [List.length_map, sizeLine_eq]
    omega
  exact ans_l s3 (Rz.ext e3 z4) (strs_rp hMo) hlen hp2
theorem pe_lensetR {x y : Str} {q q2 q3 : Pos} (hx : x = "len") (hg : Gl X x) (hm : X.mg x = none) (hy : y = "set") (hg2 : Gl X y) (hm2 : X.mg y = none) (hc : X.calm = true)
    (ha : PE X e (tE X.K p.v)) (ns : notStar e = true) : PE X (.Call (.Name x q) [.Call (.Name y q2) [e] [] q3] [] pos) (tE X.K (cBi .lenset [p])) := by
  subst hx; subst hy
  have b1 : bootBuiltins "len" = some (.builtin "len") := by decide +kernel
  have b2 : bootBuiltins "set" = some (.type "set") := by decide +kernel
  have inner := pe_callTy (r := rSet1 X.K X.w) (p := q2) (pos := q3) (cr_set1 hc) hg2 hm2 b2 (pa_cons ha pa_nil (star1 ns _ _)) (by decide) (by decide) (star1 ns _ _) (star_plain _ _ _ rfl)
  have outer := pe_callB (r := rLenS X.w) (p := q) (pos := pos) cr_lenS hg hm b1 (pa_cons inner pa_nil (star1 rfl _ _)) (by decide) (by decide) (star1 rfl _ _) (star_plain _ _ _ rfl)
  refine PE.weak outer fun σ H Q h => ?_
  obtain ⟨env, m, g, hs, hm', hz⟩ := h
  refine ⟨env, m, g, hs, hm', (Rz.bind (show Rz X.K (((p.v env m).bind fun v m1 => (cArgs [] env m1).bind fun vs m2 => .ok (v.nf :: vs) m2).bind _) g H _ from hz) |> Rz.bind).mono fun v m1 g1 H1 e1 s1 z1 z rv => ?_⟩
  show rSet1 X.K X.w [z] H1 fun x H2 => rLenS X.w [x] H2 Q
  obtain ⟨g2, s2, e2, r2⟩ := s1.hold rv
  have z2 := Rz.ok_now (show Rz X.K (.ok [v.nf] m1) g2 H1 _ from Rz.ext e2 z1) s2
  obtain ⟨ds, hd, z3⟩ := Rz.optBind z2
  have rr := look_ok s2 (.cons r2 (nf_ne v) .nil) hd
  obtain ⟨out, ho, z4⟩ := Rz.opt z3
  replace ho : lensetD ds = some out := ho
  have key : ∃ (a : Addr) (ks : List Str), z = .ref a ∧ (Rd H1 a (.lst (ks.map V.str)) ∨ SqT X.K H1 a (ks.map V.str)) ∧ ks.length < 4000 ∧ out = .d (.int (firstS [] ks).length) := by
    have hlen : ∀ ks : List Str, (dedup [] (ks.map PyData.str)).length = (firstS [] ks).length := fun ks => by
      have q := dedup_strs ks []
      simp only [List.reverse_nil, List.map_nil] at q
      rw [q, List.length_map]
    unfold lensetD at ho
    split at ho
    · split at ho
      · rename_i hcs
        obtain ⟨ks, rfl⟩ := allStr_ok hcs.1
        obtain ⟨z', ez, hr⟩ := rr.one
        cases ez
        obtain ⟨a, ws, rfl, h1, h2⟩ := hr.lst
        obtain ⟨rfl, hok⟩ := rp_strs h2
        exact ⟨a, ks, rfl, .inl h1, by simpa using hcs.2, by rw [← hlen]; exact (Option.some.inj ho).symm⟩
      · cases ho
    · split at ho
      · rename_i hcs
        obtain ⟨ks, rfl⟩ := allStr_ok hcs.1
        obtain ⟨z', ez, hr⟩ := rr.one
        cases ez
        obtain ⟨a, ws, rfl, h1, h2⟩ := hr.tup
        obtain ⟨rfl, hok⟩ := rp_strs h2
        exact ⟨a, ks, rfl, .inr h1, by simpa using hcs.2, by rw [← hlen]; exact (Option.some.inj ho).symm⟩
      · cases ho
    · cases ho
  obtain ⟨a, ks, rfl, h1, hlt, rfl⟩ := key
  have hb : ks.length + 1 < scanBound := by
    show ks.length + 1 < 4096
    omega
  refine ⟨a, ks, rfl, h1, hb, fun p hp => ⟨p, firstS [] ks, rfl, upd_same .., ?_⟩⟩
  have s3 := sim_new (o := SetSO X.w p (firstS [] ks)) s2 hp trivial
  have e3 := ext_new (o := SetSO X.w p (firstS [] ks)) s2 hp
  exact ans_d s3 (Rz.ext e3 z4) (.int _)
end
end Ra


set_option Elab.async false
set_option linter.all false
set_option autoImplicit false
set_option maxRecDepth 100000
/-! what is checked is sound -/
namespace Ra
open PySem PySem.Spec PyProof.Rows L2
/-- the value of an error's class -/
def cvM (mg : Str → Option Value) (xs : List Str) (c : Nat) : Value := match xs[c]? with
  | some n => (mg n).getD .none
  | none => .none
structure FnGood (X : Cx) (cv : Nat → Value) (call : Call) (i : Nat) (x : Str) (ps : List Str) (pms : List (List Str × List Nat)) : Prop where
  at_ : ∃ (f : Addr) (fd : FuncData) (k : Nat), X.mg x = some (.ref f) ∧ PySem.W.keepIn X.K (.ref f) = true ∧ Binds X.K fd ps [] ∧ (∀ q ∈ pms, q.1.length = ps.length ∧ q.2.length = ps.length ∧ (∀ j ∈ q.2, j < ps.length) ∧ ∀ (s : Shared) (ws : List Value), ws.length = ps.length → BindsTo s fd ⟨[], q.1.zip ws⟩ (ps.zip (pick q.2 ws))) ∧
    FnOk X.prog X.w X.K X.mg X.base (L2.CX X.prog X.w) k f fd ps (spOf X.K cv ps.length (call i)) ∧ Room k X.A
/-- what is known of an error's class -/
structure XcG (X : Cx) (xs : List Str) (c : Nat) (n : Str) : Prop where
  ex : ∃ C : Addr, X.mg n = some (.ref C) ∧ PySem.W.excIn X.K C He.veBase "ValueError.__new__" = true ∧ PySem.W.keepIn X.K (.ref C) = true ∧ Raises X (.ref C) ∧ ExcC X.K C ∧ PySem.W.kitOne X.K (.ref C) (.type "ValueError") = some true ∧
    ∀ (c' : Nat) (n' : Str), xs[c']? = some n' → ∃ C' : Addr, X.mg n' = some (.ref C') ∧ PySem.W.exmOne X.K (.ref C) (.ref C') = some (decide (c = c'))
structure Goo (C : Cs) (call : Call) (sc : Scope) (fb : Str → Bool) (X : Cx) : Prop where
  hsc : X.env.scope = sc
  kind : sc.kind = .function
  N : X.N = C.N
  nd : C.N.Nodup
  calm : X.calm = true
  fn : X.fn = fb
  free : ∀ x ∈ C.free, X.mg x = none
  glo : ∀ x d, C.glo.lookup x = some d → ∃ u v, X.mg x = some u ∧ RelV v u ∧ flatD d = some v
  fns : ∀ i x ps pms, C.fns[i]? = some (x, ps, pms) → FnGood X (cvM X.mg C.xs) call i x ps pms
  xcs : ∀ c n, C.xs[c]? = some n → XcG X C.xs c n
  units : X.A.units + 200 < cLine
/-- .. of a def's statements -/
structure GooS (C : Cs) (call : Call) (sc : Scope) (fb : Str → Bool) (X : Cx) (Z : Zx) : Prop where
  goo : Goo C call sc fb X
  wx : ∃ E : XK, Z = zE (cvM X.mg C.xs) E ∧ Arnd X (fun cls d _ H => E cls d H)
section
variable {C : Cs} {call : Call} {sc : Scope} {fb : Str → Bool} {X : Cx}
theorem vis_ok (G : Goo C call sc fb X) {x : Str} (h : visB sc x = true) : Vis X.env.scope x := by
  unfold visB at h
  rw [G.hsc]
  unfold Vis
  split at h
  · rename_i e; exact .inl e
  · rename_i e; exact .inr (.inl e)
  · rename_i e; exact .inr (.inr e)
  · cases h
theorem loc_ok (G : Goo C call sc fb X) {x : Str} (h : locB sc x = true) : Loc X.env.scope x := by
  unfold locB at h
  rw [G.hsc]
  unfold L2.Loc
  split at h
  · rename_i e; exact .inl e
  · rename_i e; exact .inr e
  · cases h
theorem lcl_ok (G : Goo C call sc fb X) {x : Str} (h : lclB sc x = true) : X.env.scope.names.lookup x = some .local := by
  unfold lclB at h
  rw [G.hsc]
  split at h
  · rename_i e; exact e
  · cases h
theorem gl_ok (G : Goo C call sc fb X) {x : Str} (h : gloB sc x = true) : Gl X x := by
  unfold gloB at h
  show X.env.scope.names.lookup x = _
  rw [G.hsc]
  split at h
  · rename_i e; exact e
  · cases h
theorem blt_ok (G : Goo C call sc fb X) {x : Str} (h : bltB C sc x = true) : Gl X x ∧ X.mg x = none ∧ okName x = true := by
  unfold bltB at h
  simp only [Bool.and_eq_true, decide_eq_true_eq] at h
  exact ⟨gl_ok G h.1.2, G.free x h.1.1, h.2⟩
/-- the block of a comprehension -/
theorem Goo.blk (G : Goo C call sc fb X) {scope : Scope} (hk : scope.kind = .function) (s : Shared) (H : Hp) (a : Addr) (cl : List (Str × Addr)) (fp : List Addr) : Goo C call (relS scope sc) (cellB scope) (X.blk s H scope (compEnvC scope cl a X.env) fp) where
  hsc := by
    show relS scope X.env.scope = _
    rw [G.hsc]
  kind := hk
  N := G.N
  nd := G.nd
  calm := G.calm
  fn := rfl
  free := G.free
  glo := G.glo
  fns := fun i x ps pms h => by
    obtain ⟨f, fd, k, h1, h2, h3, h4, h5, h6⟩ := (G.fns i x ps pms h).at_
    exact ⟨f, fd, k, h1, h2, h3, h4, h5, h6⟩
  xcs := fun c n h => by
    obtain ⟨C, h1, h2, h3, h4, h5, h6, h7⟩ := (G.xcs c n h).ex
    exact ⟨C, h1, h2, h3, h4, h5, h6, h7⟩
  units := G.units
mutual
theorem soundT (G : Goo C call sc fb X) : ∀ (t : Tg) (e : Expr), chkT C.N sc fb t e = true → PG X e (gT X.K t)
  | .nm i, e, h => by
    cases e with
    | Name x q =>
      simp only [chkT, Bool.and_eq_true, decide_eq_true_eq] at h
      obtain ⟨⟨h1, h2⟩, h3⟩ := h
      refine pg_nameR (by rw [G.N]; exact G.nd) (by rw [G.N]; exact h1) (loc_ok G h2) ?_
      rcases Bool.or_eq_true_iff.mp h3 with h3 | h3
      · exact .inl (by rw [G.fn]; exact h3)
      · exact .inr (lcl_ok G h3)
    | _ => simp [chkT] at h
  | .tp ts, e, h => by
    cases e with
    | Tuple es k q =>
      simp only [chkT] at h
      obtain ⟨h1, h2, h3⟩ := soundTs G ts es h
      exact pg_tupR G.calm h1 h2 h3
    | _ => simp [chkT] at h
theorem soundTs (G : Goo C call sc fb X) : ∀ (ts : List Tg) (es : List Expr), chkTs C.N sc fb ts es = true → PGs X es (gTs X.K ts) ∧ es.all notStar = true ∧ es.length = ts.length
  | [], [], _ => ⟨pgs_nilR, rfl, rfl⟩
  | [], _ :: _, h => by simp [chkTs] at h
  | _ :: _, [], h => by simp [chkTs] at h
  | t :: ts, e :: es, h => by
    simp only [chkTs, Bool.and_eq_true] at h
    obtain ⟨⟨h1, h2⟩, h3⟩ := h
    obtain ⟨a, b, c⟩ := soundTs G ts es h3
    exact ⟨pgs_consR (soundT G t e h2) a h1, by simp [h1, b], by simp [c]⟩
end
/-- the parts of a list -/
inductive AllP (X : Cx) : List Expr → List P → Prop
  | nil : AllP X [] []
  | cons {e : Expr} {es : List Expr} {p : P} {ps : List P} : PE X e (tE X.K p.v) → PT X e (tT X.K p.t) → notStar e = true → AllP X es ps → AllP X (e :: es) (p :: ps)
theorem AllP.items : ∀ {es : List Expr} {ps : List P}, AllP X es ps → PA X es (tIt X.K (cItems ps))
  | _, _, .nil => pa_items_nil
  | _, _, .cons a _ c d => pa_items_cons a d.items c
theorem AllP.args : ∀ {es : List Expr} {ps : List P}, AllP X es ps → PA X es (tAr X.K (cArgs ps))
  | _, _, .nil => pa_args_nil
  | _, _, .cons a _ c d => pa_args_cons a d.args c
theorem AllP.stars : ∀ {es : List Expr} {ps : List P}, AllP X es ps → es.all notStar = true
  | _, _, .nil => rfl
  | _, _, .cons _ _ c d => by simp [c, d.stars]
theorem AllP.len : ∀ {es : List Expr} {ps : List P}, AllP X es ps → es.length = ps.length
  | _, _, .nil => rfl
  | _, _, .cons _ _ c d => by simp [d.len]
theorem AllP.and {pos : Pos} : ∀ {es : List Expr} {ps : List P}, AllP X es ps → es ≠ [] → PE X (.BoolOp .And es pos) (tE X.K (cAnd ps)) ∧ PW X (.BoolOp .And es pos) (tT X.K (tAnd ps))
  | _, _, .nil, h => absurd rfl h
  | _, _, .cons a b _ .nil, _ => ⟨pe_andR1 a, pw_andR1 b⟩
  | _, _, .cons a b _ (.cons a' b' c' d'), _ => by
    obtain ⟨h1, h2⟩ := AllP.and (pos := pos) (.cons a' b' c' d') (by simp)
    exact ⟨pe_andR a h1, pw_andR b h2⟩
theorem AllP.or {pos : Pos} : ∀ {es : List Expr} {ps : List P}, AllP X es ps → es ≠ [] → PE X (.BoolOp .Or es pos) (tE X.K (cOr ps)) ∧ PW X (.BoolOp .Or es pos) (tT X.K (tOr ps))
  | _, _, .nil, h => absurd rfl h
  | _, _, .cons a b _ .nil, _ => ⟨pe_orR1 a, pw_orR1 b⟩
  | _, _, .cons a b _ (.cons a' b' c' d'), _ => by
    obtain ⟨h1, h2⟩ := AllP.or (pos := pos) (.cons a' b' c' d') (by simp)
    exact ⟨pe_orR a h1, pw_orR b h2⟩
theorem AllP.kw : ∀ {kws : List Keyword} {ps : List P}, AllP X (kwE kws) ps → PK X kws (tAr X.K (cArgs ps))
  | [], _, .nil => ⟨fun pos pins s σ H Q I ⟨env, m, g, hs, hm, hz⟩ => pk_nil.run pos pins s σ H Q I (Rz.ok_now hz hm [] .nil)⟩
  | ⟨n, e, kp⟩ :: r, _, .cons (p := p) (ps := ps) a _ c d => by
    refine ⟨fun pos pins s σ H Q I ⟨env, m, g, hs, hm, hz⟩ => (pk_cons a (AllP.kw d)).run pos pins s σ H Q I ?_⟩
    refine ⟨env, m, g, hs, hm, (Rz.bind hz).mono fun v m1 g1 H1 e1 s1 z1 x rx => ?_⟩
    obtain ⟨g2, s2, e2, r2⟩ := s1.hold rx
    refine ⟨env, m1, g2, (hs.ext e1).ext e2, s2, (Rz.bind (z1.ext e2)).mono fun vs m3 g3 H3 e3 s3 z3 xs rxs => ?_⟩
    exact Rz.ok_now z3 s3 (x :: xs) (.cons (r2.ext e3 (nf_ne v)) (nf_ne v) rxs)
/-- as a plain value and test -/
theorem both {e : Expr} {v : EV} (h : PE X e (tE X.K v)) (he : ∀ whole, isTrue e X.env whole = (do let v ← whole; standAt e.pos; holding [v] (truthy v))) : PE X e (tE X.K (ofV v).v) ∧ PT X e (tT X.K (ofV v).t) :=
  ⟨h, pt_R (p := ofV v) h he rfl⟩
theorem op_of (o : Bop) {op : Operator} (h : bopB o op = true) : OpR X (binaryOp op) (rOp X.K fun x y m => optR (bop o x y) m) := by
  cases o with
  | add => cases op <;> first | (exact absurd h (by decide)) | exact or_add
  | sub => cases op <;> first | (exact absurd h (by decide)) | exact or_sub
  | mul => cases op <;> first | (exact absurd h (by decide)) | exact or_mul
  | fdiv => cases op <;> first | (exact absurd h (by decide)) | exact or_fdiv
  | mod => cases op <;> first | (exact absurd h (by decide)) | exact or_mod
  | pow => cases op <;> first | (exact absurd h (by decide)) | exact or_pow
theorem cmp_of (hu : X.A.units + 200 < cLine) (o : Cop) {op : CmpOp} (h : copB o op = true) : OpR X (compareOp op) (rOp X.K (cmpR o)) := by
  cases o with
  | eq => cases op <;> first | (exact absurd h (by decide)) | exact or_eq hu
  | ne => cases op <;> first | (exact absurd h (by decide)) | exact or_ne hu
  | lt => cases op <;> first | (exact absurd h (by decide)) | exact or_lt hu
  | le => cases op <;> first | (exact absurd h (by decide)) | exact or_le
  | gt => cases op <;> first | (exact absurd h (by decide)) | exact or_gt
  | ge => cases op <;> first | (exact absurd h (by decide)) | exact or_ge
  | isin => cases op <;> first | (exact absurd h (by decide)) | exact or_in hu
  | notin => cases op <;> first | (exact absurd h (by decide)) | exact or_notin hu
end
end Ra


set_option Elab.async false
set_option linter.all false
set_option autoImplicit false
set_option maxRecDepth 100000
/-! expressions that are checked are sound -/
namespace Ra
open PySem PySem.Spec PyProof.Rows L2
abbrev Bo (X : Cx) (e : Expr) (p : P) : Prop := PE X e (tE X.K p.v) ∧ PT X e (tT X.K p.t)
abbrev SE (C : Cs) (call : Call) (f : Ck) (p : P) : Prop := ∀ (e : Expr) (sc : Scope) (fb : Str → Bool) (X : Cx), Goo C call sc fb X → f sc fb e = true → Bo X e p
abbrev SL (C : Cs) (call : Call) (f : CkL) (ps : List P) : Prop := ∀ (es : List Expr) (sc : Scope) (fb : Str → Bool) (X : Cx), Goo C call sc fb X → f sc fb es = true → AllP X es ps
section
variable {C : Cs} {call : Call}
theorem s_var (i : Nat) : SE C call (kVar C i) (ofV fun env m => optR (getV env i) m) := by
  intro e sc fb X G h
  unfold kVar at h
  split at h
  · simp only [Bool.and_eq_true, decide_eq_true_eq] at h
    obtain ⟨o1, o2, o3⟩ := okName_ok h.2
    exact both (pe_varR (by rw [G.N]; exact h.1.1) (vis_ok G h.1.2) o1 o2) fun _ => rfl
  · cases h
theorem s_cst (c : PyData) : SE C call (kCst c) (ofV fun _ m => .ok (.d c) m) := by
  intro e sc fb X G h
  unfold kCst at h
  split at h
  · rename_i k _ _
    unfold cstB at h
    split at h
    · exact both (cst_ok (fun _ _ => .non) pe_non) fun _ => rfl
    · have h' := eq_of_beq h
      subst h'
      exact both (cst_ok (fun _ _ => .bl _) pe_bl) fun _ => rfl
    · have h' := of_decide_eq_true h
      subst h'
      exact both (cst_ok (fun _ _ => .int _) pe_int) fun _ => rfl
    · obtain ⟨h1, h2⟩ := Bool.and_eq_true_iff.mp h
      have h' := of_decide_eq_true h1
      subst h'
      exact both (cst_ok (fun _ _ => .str _ h2) pe_str) fun _ => rfl
    · cases h
  · cases h
theorem s_glo (c : PyData) : SE C call (kGlo C c) (ofV fun _ m => .ok (.d c) m) := by
  intro e sc fb X G h
  unfold kGlo at h
  split at h
  · rename_i x q
    simp only [Bool.and_eq_true] at h
    obtain ⟨⟨h1, h2⟩, h3⟩ := h
    obtain ⟨o1, o2, o3⟩ := okName_ok h2
    split at h3
    · rename_i d hd
      obtain ⟨h4, h5⟩ := Bool.and_eq_true_iff.mp h3
      have hdc := beq_ok _ _ h4
      subst hdc
      obtain ⟨u, v, k1, k2, k3⟩ := G.glo x d hd
      exact both (cst_ok (fun F H => flat_rp k3 F H) (pe_glob (gl_ok G h1) k1 k2 o1)) fun _ => rfl
    · cases h3
  · cases h
theorem s_tup {f : CkL} {ps : List P} {n : Nat} (hf : SL C call f ps) (hn : ps.length = n) : SE C call (kTup n f) (ofV (cTup ps)) := by
  intro e sc fb X G h
  unfold kTup at h
  split at h
  · obtain ⟨h1, h2⟩ := Bool.and_eq_true_iff.mp h
    exact both (pe_tupR (hf _ sc fb X G h1).items (by rw [hn]; exact of_decide_eq_true h2)) fun _ => rfl
  · cases h
theorem s_lst {f : CkL} {ps : List P} {n : Nat} (hf : SL C call f ps) (hn : ps.length = n) : SE C call (kLst n f) (ofV (cLst ps)) := by
  intro e sc fb X G h
  unfold kLst at h
  split at h
  · obtain ⟨h1, h2⟩ := Bool.and_eq_true_iff.mp h
    exact both (pe_lstR (hf _ sc fb X G h1).items (by rw [hn]; exact of_decide_eq_true h2)) fun _ => rfl
  · cases h
theorem fn_ok {X : Cx} {sc : Scope} {fb : Str → Bool} (G : Goo C call sc fb X) {x : Str} {g n : Nat} (h : fnB C x g n = true) : ∃ ps pms, ps.length = n ∧ FnGood X (cvM X.mg C.xs) call g x ps pms := by
  unfold fnB at h
  split at h
  · rename_i y ps pms hy
    simp only [Bool.and_eq_true, decide_eq_true_eq] at h
    obtain ⟨rfl, h2⟩ := h
    exact ⟨ps, pms, h2, G.fns g x ps pms hy⟩
  · cases h
theorem call_pe {X : Cx} {sc : Scope} {fb : Str → Bool} (G : Goo C call sc fb X) {x : Str} {g : Nat} {xs : List Expr} {ps : List P} {q pos : Pos} (ha : AllP X xs ps) (hg : gloB sc x = true) (ok : okName x = true) (hf : fnB C x g ps.length = true) :
    ∃ E, PE X (.Call (.Name x q) xs [] pos) (tCall (spOf X.K (cvM X.mg C.xs) ps.length (call g)) [] E (tAr X.K (cArgs ps))) := by
  obtain ⟨pn, pms, hpn, f, fd, k, h1, h2, h3, _, h5, h6⟩ := fn_ok G hf
  obtain ⟨o1, o2, o3⟩ := okName_ok ok
  rw [hpn] at h5
  cases ha with
  | nil =>
    refine ⟨E0, PE.weak (pe_call0 (dvs := []) (E := E0) h5 h6 (gl_ok G hg) h1 h2 h3 .nil passL o1) fun σ H Q h => ?_⟩
    obtain ⟨env, m, g, hs, hm, hz⟩ := h
    exact Rz.ok_now hz hm [] .nil
  | cons a b c d => exact ⟨E0, pe_call (dvs := []) (E := E0) h5 h6 (gl_ok G hg) h1 h2 h3 .nil passL (AllP.cons a b c d).args o1 (star1 c _ _) (star_plain _ _ _ d.stars)⟩
theorem s_call {f : CkL} {ps : List P} {g n : Nat} (hf : SL C call f ps) (hn : ps.length = n) : SE C call (kCall C g n f) (ofV (cCall call g ps)) := by
  intro e sc fb X G h
  unfold kCall at h
  split at h
  · simp only [Bool.and_eq_true] at h
    obtain ⟨⟨⟨h1, h2⟩, h3⟩, h4⟩ := h
    obtain ⟨E, hE⟩ := call_pe G (hf _ sc fb X G h1) h2 h3 (by rw [hn]; exact h4)
    exact both (PE.weak hE fun _ _ _ q => call_ok q) fun _ => rfl
  · cases h
theorem s_callc {f : CkL} {ps : List P} {g n : Nat} (hf : SL C call f ps) (hn : ps.length = n) : SE C call (kCall C g n f) (ofV (cCallC call g ps)) := by
  intro e sc fb X G h
  unfold kCall at h
  split at h
  · simp only [Bool.and_eq_true] at h
    obtain ⟨⟨⟨h1, h2⟩, h3⟩, h4⟩ := h
    obtain ⟨E, hE⟩ := call_pe G (hf _ sc fb X G h1) h2 h3 (by rw [hn]; exact h4)
    exact both (PE.weak hE fun _ _ _ q => callc_ok q) fun _ => rfl
  · cases h
theorem kw_names {X : Cx} {pos : Pos} : ∀ (kws : List Keyword) {ps : List Str}, ps.map some = kwN kws → (backToKw pos (keywordEach kws X.env)).all (·.1.isSome) = true ∧ (backToKw pos (keywordEach kws X.env)).filterMap (·.1) = ps ∧ (backToKw pos (keywordEach kws X.env)).any (·.1.isNone) = false
  | [], [], _ => ⟨rfl, rfl, rfl⟩
  | [], _ :: _, h => by cases h
  | ⟨n, e, q⟩ :: r, [], h => by cases h
  | ⟨n, e, q⟩ :: r, p :: ps, h => by
    simp only [List.map_cons, kwN, List.cons.injEq] at h
    obtain ⟨rfl, h2⟩ := h
    obtain ⟨a, b, c⟩ := kw_names (X := X) (pos := pos) r h2
    simp only [keywordEach, backToKw, List.map_cons, List.all_cons, List.any_cons, List.filterMap_cons] at a b c ⊢
    exact ⟨by simpa using a, congrArg (List.cons p) b, by simpa using c⟩
theorem pick_cons {α : Type} {i : Nat} {is : List Nat} {l : List α} {x : α} (h : l[i]? = some x) : pick (i :: is) l = x :: pick is l := by
  unfold pick
  rw [List.filterMap_cons, h]
theorem pick_len {α : Type} {l : List α} : ∀ {is : List Nat}, (∀ j ∈ is, j < l.length) → (pick is l).length = is.length
  | [], _ => rfl
  | i :: is, h => by
    rw [pick_cons (List.getElem?_eq_getElem (h i List.mem_cons_self)), List.length_cons, pick_len fun j hj => h j (List.mem_cons_of_mem _ hj), List.length_cons]
theorem vals_at : ∀ {zs : List V} {ws : List Value} (i : Nat), Vals zs ws → i < zs.length → ∃ z w, zs[i]? = some z ∧ ws[i]? = some w ∧ RelV z w
  | _, _, i, .nil, h => by simp at h
  | _, _, 0, .cons r t, _ => ⟨_, _, rfl, rfl, r⟩
  | _, _, i + 1, .cons r t, h => by
    obtain ⟨z, w, a, b, c⟩ := vals_at i t (by simpa using h)
    exact ⟨z, w, by simpa using a, by simpa using b, c⟩
theorem pick_vals {zs : List V} {ws : List Value} (r : Vals zs ws) : ∀ {is : List Nat}, (∀ j ∈ is, j < zs.length) → Vals (pick is zs) (pick is ws)
  | [], _ => .nil
  | i :: is, h => by
    obtain ⟨z, w, a, b, c⟩ := vals_at i r (h i List.mem_cons_self)
    rw [pick_cons a, pick_cons b]
    exact .cons c (pick_vals r fun j hj => h j (List.mem_cons_of_mem _ hj))
theorem rps_at {K : PySem.W.Frag} {g : G} {H : Hp} : ∀ {xs : List V} {vs : List Val} (i : Nat), RpVs K g H xs vs → i < xs.length → ∃ x v, xs[i]? = some x ∧ vs[i]? = some v ∧ RpV K g H x v ∧ ∀ ys, v ≠ .fr ys
  | _, _, i, .nil, h => by simp at h
  | _, _, 0, .cons r f t, _ => ⟨_, _, rfl, rfl, r, f⟩
  | _, _, i + 1, .cons r f t, h => by
    obtain ⟨x, v, a, b, c, d⟩ := rps_at i t (by simpa using h)
    exact ⟨x, v, by simpa using a, by simpa using b, c, d⟩
theorem pick_rps {K : PySem.W.Frag} {g : G} {H : Hp} {xs : List V} {vs : List Val} (r : RpVs K g H xs vs) : ∀ {is : List Nat}, (∀ j ∈ is, j < xs.length) → RpVs K g H (pick is xs) (pick is vs)
  | [], _ => .nil
  | i :: is, h => by
    obtain ⟨x, v, a, b, c, d⟩ := rps_at i r (h i List.mem_cons_self)
    rw [pick_cons a, pick_cons b]
    exact .cons c d (pick_rps r fun j hj => h j (List.mem_cons_of_mem _ hj))
/-- a def called by its parameters' names -/
theorem run_kw {X : Cx} {k : Nat} {f : Addr} {fd : FuncData} {ps : List Str} {sp : Sp} {ks : List Str} {is : List Nat} {pins : List (Addr × Obj)} {σ : L2.St} {H : Hp} {s : Shared} {Q : VK} {ws : List Value} {zs : List V} (F : FnOk X.prog X.w X.K X.mg X.base (L2.CX X.prog X.w) k f fd ps sp) (hr : Room k X.A)
    (hb : ∀ (s : Shared) (ws : List Value), ws.length = ps.length → BindsTo s fd ⟨[], ks.zip ws⟩ (ps.zip (pick is ws))) (I : Inv X pins σ H s) (rz : Vals zs ws) (hl : zs.length = ps.length) (hi : ∀ j ∈ is, j < zs.length) (h : sp (pick is zs) H Q E0) : wpAny (model X.prog X.w) X.A (PySem.call (.ref f) [] (ks.zip ws)) (EP X pins σ Q) X.xe s := by
  refine wpAny_call (codeAny_mono (F.run X.A X.stack s H ⟨[], ks.zip ws⟩ (pick is ws) (pick is zs) Q E0 hr I.env0 (hb s ws (by rw [← rz.length]; exact hl)) (pick_vals rz hi) h) fun r s' hq => ?_)
  cases r with
  | error e => exact passL pins σ H s e s' I hq
  | ok fl =>
    cases fl with
    | ret u => exact I.after hq
    | next => exact False.elim hq
    | brk => exact False.elim hq
    | cont => exact False.elim hq
theorem callk_ok {K : PySem.W.Frag} {call : Call} {f : Nat} {cv : Nat → Value} {ps : List P} {is : List Nat} {σ : L2.St} {H : Hp} {Q : VK} (hil : is.length = ps.length) (hi : ∀ j ∈ is, j < ps.length) (h : tE K (cCallK call f is ps) σ H Q) : tAr K (cArgs ps) σ H fun xs H1 => xs.length = ps.length ∧ spOf K cv ps.length (call f) (pick is xs) H1 Q E0 := by
  obtain ⟨env, m, g, hs, hm, hz⟩ := h
  refine ⟨env, m, g, hs, hm, ?_⟩
  have hz' := Rz.bind hz
  cases h1 : cArgs ps env m with
  | fail => rw [h1] at hz'; exact hz'.elim
  | exc a b => rw [h1] at hz'; exact hz'.elim
  | ok vs m1 =>
    rw [h1] at hz'
    intro g1 H1 e1 s1 xs rxs
    have hl : xs.length = ps.length := by rw [rxs.length, cArgs_len ps h1]
    have hi' : ∀ j ∈ is, j < xs.length := fun j hj => by rw [hl]; exact hi j hj
    exact ⟨hl, by rw [pick_len hi', hil], pick is vs, m1, g1, s1, pick_rps rxs hi', (hz' g1 H1 e1 s1).rx⟩
theorem s_callk {f : CkL} {ps : List P} {g n : Nat} {is : List Nat} (hf : SL C call f ps) (hn : ps.length = n) : SE C call (kCallk C g is n f) (ofV (cCallK call g is ps)) := by
  intro e sc fb X G h
  unfold kCallk at h
  split at h
  · rename_i x q kw kws pos
    simp only [Bool.and_eq_true] at h
    obtain ⟨⟨⟨h1, h2⟩, h3⟩, h4⟩ := h
    obtain ⟨o1, o2, o3⟩ := okName_ok h3
    split at h4
    · rename_i y pn pms hy
      simp only [Bool.and_eq_true, decide_eq_true_eq] at h4
      obtain ⟨⟨⟨rfl, h5⟩, h7⟩, h6⟩ := h4
      obtain ⟨fa, fd, k, k1, k2, k3, k4, k5, k6⟩ := (G.fns g x pn pms hy).at_
      obtain ⟨a, b, c⟩ := kw_names (X := X) (pos := pos) (kw :: kws) h5
      have hk := (hf _ sc fb X G h1).kw
      have hlen : pn.length = ps.length := by rw [h6, hn]
      obtain ⟨l1, l2, l3, l4⟩ := k4 _ h7
      rw [hlen] at k5
      refine both ⟨fun pins s σ H Q I hq => ?_⟩ fun _ => rfl
      have hq := callk_ok (cv := cvM X.mg C.xs) (is := is) (l2.trans hlen) (fun j hj => by rw [← hlen]; exact l3 j hj) hq
      refine wpAny_Call_Name_kw (ld_glob I (gl_ok G h2) k1 ?_ o1)
      refine PySem.W.callWith_KW0 (h₀ := X.base) I.ok.mod.kin k2 a (thn (hk.run pos pins s σ H _ I hq) fun ws s2 ⟨zs, H2, I2, rz, q2⟩ => ⟨I2.kIn, ?_⟩) (by rw [c]; rfl)
      rw [b]
      exact run_kw k5 k6 l4 I2 rz (by rw [hlen]; exact q2.1) (fun j hj => by rw [q2.1, ← hlen]; exact l3 j hj) q2.2
    · cases h4
  · cases h
theorem s_op {f g : Ck} {pa pb : P} (o : Bop) (ha : SE C call f pa) (hb : SE C call g pb) : SE C call (kOp o f g) (ofV (c2 pa pb fun x y m => optR (bop o x y) m)) := by
  intro e sc fb X G h
  unfold kOp at h
  split at h
  · simp only [Bool.and_eq_true] at h
    obtain ⟨⟨h1, h2⟩, h3⟩ := h
    exact both (pe_c2 (ha _ sc fb X G h2).1 (hb _ sc fb X G h3).1 (op_of o h1)) fun _ => rfl
  · cases h
theorem s_neg {f : Ck} {pa : P} (ha : SE C call f pa) : SE C call (kNeg f) (ofV (c1 pa fun x m => match x with
      | .int i => .ok (.d (.int (-i))) m
      | _ => .fail)) := by
  intro e sc fb X G h
  unfold kNeg at h
  split at h
  · exact both (pe_negR (ha _ sc fb X G h).1) fun _ => rfl
  · cases h
theorem s_cmp {f g : Ck} {pa pb : P} (o : Cop) (ha : SE C call f pa) (hb : SE C call g pb) : SE C call (kCmp o f g) (ofV (c2 pa pb (cmpR o))) := by
  intro e sc fb X G h
  unfold kCmp at h
  split at h
  · simp only [Bool.and_eq_true, Bool.not_eq_true'] at h
    obtain ⟨⟨⟨h1, h2⟩, h3⟩, h4⟩ := h
    have ho := cmp_of (X := X) G.units o h1
    exact ⟨pe_cmpE ho h2 (ha _ sc fb X G h3).1 (hb _ sc fb X G h4).1, pt_cmpE ho h2 (ha _ sc fb X G h3).1 (hb _ sc fb X G h4).1⟩
  · cases h
theorem s_chain {f g k : Ck} {pa pb pc : P} (o o' : Cop) (ha : SE C call f pa) (hb : SE C call g pb) (hc : SE C call k pc) : SE C call (kChain o o' f g k) (ofV (cChain o o' pa pb pc)) := by
  intro e sc fb X G h
  unfold kChain at h
  split at h
  · simp only [Bool.and_eq_true, Bool.not_eq_true'] at h
    obtain ⟨⟨⟨⟨⟨h1, h2⟩, h3⟩, h4⟩, h5⟩, h6⟩ := h
    have ho := cmp_of (X := X) G.units o h1
    have ho' := cmp_of (X := X) G.units o' h2
    have hE := (ha _ sc fb X G h4).1
    have hE2 := (hb _ sc fb X G h5).1
    have hE3 := (hc _ sc fb X G h6).1
    refine ⟨pe_chainE ho ho' h3 hE hE2 hE3, ?_⟩
    refine PT.weak (pt_chain ho ho' hE hE2 hE3 h3) fun σ H Q hq => ?_
    exact chain_ok (chain_bool hq)
  · cases h
theorem s_isN {f : Ck} {pa : P} (ha : SE C call f pa) : SE C call (kIsN f) (ofV (c1 pa fun x m => boolR (isNone x) m)) := by
  intro e sc fb X G h
  unfold kIsN at h
  split at h
  · have hE := (ha _ sc fb X G h).1
    refine ⟨pe_isNR hE, PT.weak (pt_cmpR op_isN hE pe_non (nomark _)) fun σ H Q hq => ?_⟩
    obtain ⟨env, m, g, hs, hm, hz⟩ := c1_ok (c1_bool hq)
    refine ⟨env, m, g, hs, hm, hz.mono fun v m1 g1 H1 e1 s1 z1 x rx => ⟨rfl, ?_⟩⟩
    obtain ⟨m2, g2, d, s2, r2, z2⟩ := z1 x rx
    rw [← none_iff r2]
    exact ans_d s2 z2 (.bl _)
  · cases h
theorem s_isnN {f : Ck} {pa : P} (ha : SE C call f pa) : SE C call (kIsnN f) (ofV (c1 pa fun x m => boolR (!isNone x) m)) := by
  intro e sc fb X G h
  unfold kIsnN at h
  split at h
  · have hE := (ha _ sc fb X G h).1
    refine ⟨pe_isnNR hE, PT.weak (pt_cmpR op_notN hE pe_non (nomark _)) fun σ H Q hq => ?_⟩
    obtain ⟨env, m, g, hs, hm, hz⟩ := c1_ok (c1_bool hq)
    refine ⟨env, m, g, hs, hm, hz.mono fun v m1 g1 H1 e1 s1 z1 x rx => ⟨rfl, ?_⟩⟩
    obtain ⟨m2, g2, d, s2, r2, z2⟩ := z1 x rx
    rw [← none_iff r2]
    exact ans_d s2 z2 (.bl _)
  · cases h
theorem s_and {f : CkL} {ps : List P} (hf : SL C call f ps) (hn : ps ≠ []) : SE C call (kAnd f) ⟨cAnd ps, tAnd ps⟩ := by
  intro e sc fb X G h
  unfold kAnd at h
  split at h
  · rename_i xs q
    have ha := hf _ sc fb X G h
    have hne : xs ≠ [] := fun z => hn (List.length_eq_zero_iff.mp (by rw [← ha.len, z]; rfl))
    obtain ⟨h1, h2⟩ := ha.and hne
    exact ⟨h1, h2.pt⟩
  · cases h
theorem s_or {f : CkL} {ps : List P} (hf : SL C call f ps) (hn : ps ≠ []) : SE C call (kOr f) ⟨cOr ps, tOr ps⟩ := by
  intro e sc fb X G h
  unfold kOr at h
  split at h
  · rename_i xs q
    have ha := hf _ sc fb X G h
    have hne : xs ≠ [] := fun z => hn (List.length_eq_zero_iff.mp (by rw [← ha.len, z]; rfl))
    obtain ⟨h1, h2⟩ := ha.or hne
    exact ⟨h1, h2.pt⟩
  · cases h
theorem s_not {f : Ck} {pa : P} (ha : SE C call f pa) : SE C call (kNot f) ⟨fun env m => (pa.v env m).bind fun v m1 => (truR v m1).bind fun t m2 => boolR (!t) m2, fun env m => (pa.t env m).bind fun t m1 => .ok (!t) m1⟩ := by
  intro e sc fb X G h
  unfold kNot at h
  split at h
  · obtain ⟨h1, h2⟩ := ha _ sc fb X G h
    exact ⟨pe_notR h1, pt_notR h2⟩
  · cases h
theorem pt_iteR {X : Cx} {c a b : Expr} {pc pa pb : P} {pos : Pos} (hc : PT X c (tT X.K pc.t)) (ha : PT X a (tT X.K pa.t)) (hb : PT X b (tT X.K pb.t)) :
    PT X (.IfExp c a b pos) (tT X.K fun env m => (pc.t env m).bind fun t m1 => if t = true then pa.t env m1 else pb.t env m1) := by
  refine ⟨fun pins s σ H Q I ⟨env, m, g, hs, hm, hz⟩ => ?_⟩
  show wpAny _ _ (do if ← isTrue c X.env (eval c X.env) then isTrue a X.env (eval a X.env) else isTrue b X.env (eval b X.env)) _ _ _
  have hz' := Rz.bind hz
  refine wpAny_bind (thn (hc.run pins s σ H (fun t H1 => ∃ m1 g1, Sg X.K env σ g1 H1 ∧ SimM X.K m1 g1 H1 ∧ Rz X.K (if t = true then pa.t env m1 else pb.t env m1) g1 H1 fun b _ _ H' => Q b H') I ⟨env, m, g, hs, hm, hz'.mono fun t m1 g1 H1 e1 s1 z1 => ⟨m1, g1, hs.ext e1, s1, z1⟩⟩) fun t s1 ⟨H1, I1, m1, g1, hs1, hm1, z1⟩ => ?_)
  cases t with
  | true =>
    simp only [if_true] at z1 ⊢
    exact ha.run pins s1 σ H1 Q I1 ⟨env, m1, g1, hs1, hm1, z1⟩
  | false =>
    simp only [Bool.false_eq_true, if_false] at z1 ⊢
    exact hb.run pins s1 σ H1 Q I1 ⟨env, m1, g1, hs1, hm1, z1⟩
theorem s_ite {f g k : Ck} {pc pa pb : P} (hc : SE C call f pc) (ha : SE C call g pa) (hb : SE C call k pb) : SE C call (kIte f g k) ⟨fun env m => (pc.t env m).bind fun t m1 => if t = true then pa.v env m1 else pb.v env m1,
      fun env m => (pc.t env m).bind fun t m1 => if t = true then pa.t env m1 else pb.t env m1⟩ := by
  intro e sc fb X G h
  unfold kIte at h
  split at h
  · simp only [Bool.and_eq_true] at h
    obtain ⟨⟨h1, h2⟩, h3⟩ := h
    obtain ⟨c1, c2⟩ := hc _ sc fb X G h1
    obtain ⟨a1, a2⟩ := ha _ sc fb X G h2
    obtain ⟨b1, b2⟩ := hb _ sc fb X G h3
    exact ⟨pe_iteR c2 a1 b1, pt_iteR c2 a2 b2⟩
  · cases h
theorem s_idx {f g : Ck} {pa pb : P} (ha : SE C call f pa) (hb : SE C call g pb) : SE C call (kIdx f g) (ofV (c2 pa pb fun x y m => (optR (idx x y) m).bind fun z m1 => .ok (.d z) m1)) := by
  intro e sc fb X G h
  unfold kIdx at h
  split at h
  · simp only [Bool.and_eq_true] at h
    obtain ⟨⟨h1, h2⟩, h3⟩ := h
    exact both (pe_idxR (ha _ sc fb X G h2).1 (hb _ sc fb X G h3).1 h1) fun _ => rfl
  · cases h
theorem s_sl {f : Ck} {pa : P} (ha : SE C call f pa) : SE C call (kSl f) (ofV (c1 pa fun x m => optR (slc x none none) m)) := by
  intro e sc fb X G h
  unfold kSl at h
  split at h
  · exact both (pe_slR (ha _ sc fb X G h).1) fun _ => rfl
  · cases h
theorem s_slL {f g : Ck} {pa pb : P} (ha : SE C call f pa) (hb : SE C call g pb) : SE C call (kSlL f g) (ofV (c2 pa pb fun x l m => match l with
      | .int l => optR (slc x (some l) none) m
      | _ => .fail)) := by
  intro e sc fb X G h
  unfold kSlL at h
  split at h
  · obtain ⟨h1, h2⟩ := Bool.and_eq_true_iff.mp h
    exact both (pe_slLR (ha _ sc fb X G h1).1 (hb _ sc fb X G h2).1) fun _ => rfl
  · cases h
theorem s_slU {f g : Ck} {pa pb : P} (ha : SE C call f pa) (hb : SE C call g pb) : SE C call (kSlU f g) (ofV (c2 pa pb fun x h m => match h with
      | .int h => optR (slc x none (some h)) m
      | _ => .fail)) := by
  intro e sc fb X G h
  unfold kSlU at h
  split at h
  · obtain ⟨h1, h2⟩ := Bool.and_eq_true_iff.mp h
    exact both (pe_slUR (ha _ sc fb X G h1).1 (hb _ sc fb X G h2).1) fun _ => rfl
  · cases h
theorem s_slLU {f g k : Ck} {pa pb pc : P} (ha : SE C call f pa) (hb : SE C call g pb) (hc : SE C call k pc) : SE C call (kSlLU f g k) (ofV (cSl3 pa pb pc)) := by
  intro e sc fb X G h
  unfold kSlLU at h
  split at h
  · simp only [Bool.and_eq_true] at h
    obtain ⟨⟨h1, h2⟩, h3⟩ := h
    exact both (pe_slLUR (ha _ sc fb X G h1).1 (hb _ sc fb X G h2).1 (hc _ sc fb X G h3).1) fun _ => rfl
  · cases h
theorem s_rev {f : Ck} {pa : P} (ha : SE C call f pa) : SE C call (kRev f) (ofV (c1 pa fun x m => optR (revd x) m)) := by
  intro e sc fb X G h
  unfold kRev at h
  split at h
  · simp only [Bool.and_eq_true, decide_eq_true_eq] at h
    exact both (pe_revR h.1 (ha _ sc fb X G h.2).1) fun _ => rfl
  · cases h
theorem s_bi {f : CkL} {ps : List P} {n : Nat} (b : Bi) (hf : SL C call f ps) (hn : ps.length = n) : SE C call (kBi C b n f) (ofV (cBi b ps)) := by
  intro e sc fb X G h
  unfold kBi at h
  split at h
  · rename_i x q xs pos
    simp only [Bool.and_eq_true, decide_eq_true_eq] at h
    obtain ⟨⟨⟨⟨h1, h2⟩, h3⟩, h4⟩, h5⟩ := h
    obtain ⟨g1, g2, g3⟩ := blt_ok G h3
    obtain ⟨o1, o2, o3⟩ := okName_ok g3
    have ha := hf _ sc fb X G h4
    subst h2
    cases ha with
    | nil => exact absurd hn.symm h5
    | cons a c d t =>
      refine both ?_ fun _ => rfl
      have hp := (AllP.cons a c d t).args
      cases b with
      | len => exact pe_biB cr_len g1 g2 (by decide +kernel) o3 o1 hp d t.stars
      | abs => exact pe_biB cr_abs g1 g2 (by decide +kernel) o3 o1 hp d t.stars
      | int => exact pe_biT cr_int g1 g2 (by decide +kernel) o3 o1 hp d t.stars
      | list => exact pe_biT (cr_list' G.calm) g1 g2 (by decide +kernel) o3 o1 hp d t.stars
      | tuple => exact pe_biT (cr_tuple' G.calm) g1 g2 (by decide +kernel) o3 o1 hp d t.stars
      | sorted => exact pe_biB (cr_sorted' G.units) g1 g2 (by decide +kernel) o3 o1 hp d t.stars
      | sortedset => cases h1
      | lenset => cases h1
      | all => exact pe_biB (crAll G.calm) g1 g2 (by decide +kernel) o3 o1 hp d t.stars
      | any => exact pe_biB (crAny G.calm) g1 g2 (by decide +kernel) o3 o1 hp d t.stars
      | min2 => exact pe_biB (cr_min2 G.calm) g1 g2 (by decide +kernel) o3 o1 hp d t.stars
      | max2 => exact pe_biB (cr_max2 G.calm) g1 g2 (by decide +kernel) o3 o1 hp d t.stars
  · cases h
theorem s_set {f : CkL} {ps : List P} (hf : SL C call f ps) : SE C call (kSet C f) (ofV (cBi .sortedset ps)) := by
  intro e sc fb X G h
  unfold kSet at h
  split at h
  · simp only [Bool.and_eq_true, decide_eq_true_eq] at h
    obtain ⟨⟨⟨⟨h1, h2⟩, h3⟩, h4⟩, h5⟩ := h
    obtain ⟨g1, g2, g3⟩ := blt_ok G h2
    obtain ⟨k1, k2, k3⟩ := blt_ok G h4
    have ha := hf _ sc fb X G h5
    cases ha with
    | cons a c d t =>
      cases t
      exact both (pe_setR h1 g1 g2 g3 h3 k1 k2 k3 G.calm G.units a d) fun _ => rfl
  · cases h
theorem s_lenset {f : CkL} {ps : List P} (hf : SL C call f ps) : SE C call (kLenset C f) (ofV (cBi .lenset ps)) := by
  intro e sc fb X G h
  unfold kLenset at h
  split at h
  · simp only [Bool.and_eq_true, decide_eq_true_eq] at h
    obtain ⟨⟨⟨⟨h1, h2⟩, h3⟩, h4⟩, h5⟩ := h
    obtain ⟨g1, g2, g3⟩ := blt_ok G h2
    obtain ⟨k1, k2, k3⟩ := blt_ok G h4
    have ha := hf _ sc fb X G h5
    cases ha with
    | cons a c d t =>
      cases t
      exact both (pe_lensetR h1 g1 g2 h3 k1 k2 G.calm a d) fun _ => rfl
  · cases h
abbrev SLS (C : Cs) (call : Call) (f : CkL) (bs : List Bool) (ps : List P) : Prop := ∀ (es : List Expr) (sc : Scope) (fb : Str → Bool) (X : Cx), Goo C call sc fb X → f sc fb es = true → PA X es (tIt X.K (cItemsS bs ps))
theorem s_tupS {f : CkL} {bs : List Bool} {ps : List P} (hf : SLS C call f bs ps) : SE C call (kTupS f) (ofV (cTupS bs ps)) := by
  intro e sc fb X G h
  unfold kTupS at h
  split at h
  · exact both (pe_tupS (hf _ sc fb X G h)) fun _ => rfl
  · cases h
theorem s_lstS {f : CkL} {bs : List Bool} {ps : List P} (hf : SLS C call f bs ps) : SE C call (kLstS f) (ofV (cLstS bs ps)) := by
  intro e sc fb X G h
  unfold kLstS at h
  split at h
  · exact both (pe_lstS (hf _ sc fb X G h)) fun _ => rfl
  · cases h
theorem s_dmk {f : Ck} {p : P} (hf : SE C call f p) : SE C call (kDmk C f) ⟨cDmk p, fun _ _ => .fail⟩ := by
  intro e sc fb X G h
  unfold kDmk at h
  split at h
  · simp only [Bool.and_eq_true, decide_eq_true_eq] at h
    obtain ⟨⟨⟨h1, h2⟩, h3⟩, h4⟩ := h
    obtain ⟨g1, g2, g3⟩ := blt_ok G h2
    subst h1
    exact ⟨pe_dmkR G.calm g1 g2 (hf _ sc fb X G h4).1 h3, ⟨fun pins s σ H Q I ⟨env, m, g, hs, hm, hz⟩ => hz.elim⟩⟩
  · cases h
theorem two_few {y z : Expr} {cpos : Pos} (n1 : notStar y = true) (n2 : notStar z = true) (env : PySem.Env) : backTo cpos (starEach [y, z] env) = [(false, eval y env), (false, eval z env)] := by
  rw [star1 n1, star1 n2]
  rfl
theorem s_dget {f g h : Ck} {pd pk px : P} (hf : SE C call f pd) (hg : SE C call g pk) (hh : SE C call h px) : SE C call (kDget f g h) (ofV (cDget pd pk px)) := by
  intro e sc fb X G h
  unfold kDget at h
  split at h
  · simp only [Bool.and_eq_true, decide_eq_true_eq] at h
    obtain ⟨⟨⟨⟨⟨⟨h1, h2⟩, h3⟩, h4⟩, h5⟩, h6⟩, h7⟩ := h
    subst h1
    have hu := G.units
    refine both (pe_dgetR (by omega) (hf _ sc fb X G h5).1 (hg _ sc fb X G h6).1 (hh _ sc fb X G h7).1 ⟨rfl, ?_, h4, two_few h2 h3 _⟩) fun _ => rfl
    rw [two_few h2 h3]
    rfl
  · cases h
theorem noSl_of {y : Expr} (h : notSlice y = true) : NoSl y := fun o i => by
  cases y <;> first | rfl | (cases h; done)
theorem din_shape {neg : Bool} {pk pd : P} {env : Env} {m m' : Mem} {w : Val} (h : cDin neg pk pd env m = .ok w m') : ∃ b, w = .d (.bool b) := by
  unfold cDin at h
  cases h1 : pk.v env m with
  | fail => rw [h1] at h; cases h
  | exc _ _ => rw [h1] at h; cases h
  | ok vk m1 =>
    rw [h1, Res.bind_ok] at h
    cases h2 : pd.v env m1 with
    | fail => rw [h2] at h; cases h
    | exc _ _ => rw [h2] at h; cases h
    | ok vd m2 =>
      rw [h2, Res.bind_ok] at h
      cases h3 : rd m2 vk.nf with
      | none => rw [show rdR m2 vk.nf = .fail by unfold rdR; rw [h3]; rfl] at h; cases h
      | some y =>
        rw [show rdR m2 vk.nf = .ok y m2 by unfold rdR; rw [h3]; rfl, Res.bind_ok] at h
        unfold keyR at h
        split at h
        · rw [Res.bind_ok] at h
          cases vd with
          | dv kvs =>
            cases h
            exact ⟨_, rfl⟩
          | d _ => cases h
          | fr _ => cases h
          | mr _ => cases h
        · cases h
theorem din_test {K : PySem.W.Frag} {neg : Bool} {pk pd : P} {σ : L2.St} {H : Hp} {Q : Bool → Hp → Prop} (h : tT K (ofV (cDin neg pk pd)).t σ H Q) : tE K (cDin neg pk pd) σ H fun x H1 => ∃ c, x = .bl c ∧ Q c H1 := by
  obtain ⟨env, m, g, hs, hm, hz⟩ := h
  refine ⟨env, m, g, hs, hm, ?_⟩
  have hz : Rz K ((cDin neg pk pd env m).bind truR) g H _ := hz
  cases hv : cDin neg pk pd env m with
  | fail => rw [hv] at hz; exact hz.elim
  | exc a b => rw [hv] at hz; exact hz.elim
  | ok w m1 =>
    obtain ⟨b, rfl⟩ := din_shape hv
    rw [hv] at hz
    intro g1 H1 e1 s1 x rx
    cases rx
    exact ⟨b, rfl, hz g1 H1 e1 s1⟩
theorem s_dat {f g : Ck} {pd pk : P} (hf : SE C call f pd) (hg : SE C call g pk) : SE C call (kDat f g) (ofV (cDat pd pk)) := by
  intro e sc fb X G h
  unfold kDat at h
  split at h
  · simp only [Bool.and_eq_true] at h
    obtain ⟨⟨h1, h2⟩, h3⟩ := h
    have hu := G.units
    exact both (pe_datR (by omega) (hf _ sc fb X G h2).1 (hg _ sc fb X G h3).1 (noSl_of h1)) fun _ => rfl
  · cases h
theorem s_din {f g : Ck} {pk pd : P} (neg : Bool) (hf : SE C call f pk) (hg : SE C call g pd) : SE C call (kDin neg f g) (ofV (cDin neg pk pd)) := by
  intro e sc fb X G h
  unfold kDin at h
  split at h
  · simp only [Bool.and_eq_true, Bool.not_eq_true'] at h
    obtain ⟨⟨⟨h1, h2⟩, h3⟩, h4⟩ := h
    have hu := G.units
    split at h1
    · refine ⟨pe_dinR (by omega) (hf _ sc fb X G h3).1 (hg _ sc fb X G h4).1 h2, PT.weak (pt_cmp (pc_din (by omega) (hf _ sc fb X G h3).1 (hg _ sc fb X G h4).1) h2) fun σ H Q z => ?_⟩
      have q := din_ok (X := X) (din_test z)
      simp only [Bool.false_xor] at q
      exact q
    · refine ⟨pe_dnotinR (by omega) (hf _ sc fb X G h3).1 (hg _ sc fb X G h4).1 h2, PT.weak (pt_cmp (pc_dnotin (by omega) (hf _ sc fb X G h3).1 (hg _ sc fb X G h4).1) h2) fun σ H Q z => ?_⟩
      have q := din_ok (X := X) (din_test z)
      simp only [Bool.true_xor] at q
      exact q
    · cases h1
  · cases h
theorem s_lidx {f : Ck} {pa : P} (i : Nat) (ha : SE C call f pa) : SE C call (kLidx C i f) (ofV (cLidx i pa)) := by
  intro e sc fb X G h
  unfold kLidx at h
  split at h
  · simp only [Bool.and_eq_true, decide_eq_true_eq] at h
    obtain ⟨⟨⟨⟨⟨⟨h1, h2⟩, h3⟩, h4⟩, h5⟩, h6⟩, h7⟩ := h
    obtain ⟨o1, o2, o3⟩ := okName_ok h3
    subst h4
    exact both (pe_lidxR G.units (by rw [G.N]; exact h1) (vis_ok G h2) o1 o2 (ha _ sc fb X G h7).1 h5 h6) fun _ => rfl
  · cases h
theorem cls_ok {X : Cx} {sc : Scope} {fb : Str → Bool} (G : Goo C call sc fb X) {c : Cls} {e : Expr} (h : clsB C sc c e = true) : ∃ y q, e = .Name y q ∧ y = clsN c ∧ Gl X y ∧ X.mg y = none ∧ okName y = true := by
  unfold clsB at h
  split at h
  · rename_i y q
    simp only [Bool.and_eq_true, decide_eq_true_eq] at h
    obtain ⟨g1, g2, g3⟩ := blt_ok G h.2
    exact ⟨y, q, rfl, h.1, g1, g2, g3⟩
  · cases h
theorem clss_ok {X : Cx} {sc : Scope} {fb : Str → Bool} (G : Goo C call sc fb X) : ∀ {cs : List Cls} {es : List Expr}, clssB C sc cs es = true → ClsE X cs es
  | [], [], _ => .nil
  | [], _ :: _, h => by simp [clssB] at h
  | _ :: _, [], h => by simp [clssB] at h
  | c :: cs, e :: es, h => by
    simp only [clssB, Bool.and_eq_true] at h
    obtain ⟨y, q, rfl, a, b, d, k⟩ := cls_ok G h.1
    exact .cons a b d k (clss_ok G h.2)
theorem s_isi {f : Ck} {pa : P} (cs : List Cls) (ha : SE C call f pa) : SE C call (kIsi C cs f) (ofV (c1 pa fun x m => boolR (cs.any (isi x)) m)) := by
  intro e sc fb X G h
  unfold kIsi at h
  split at h
  · simp only [Bool.and_eq_true, decide_eq_true_eq] at h
    obtain ⟨⟨⟨⟨h1, h2⟩, h3⟩, h4⟩, h5⟩ := h
    obtain ⟨g1, g2, g3⟩ := blt_ok G h2
    have hE := (ha _ sc fb X G h4).1
    split at h5
    · obtain ⟨y, q, rfl, a, b, d, k⟩ := cls_ok G h5
      exact both (pe_isi1R h1 g1 g2 g3 hE h3 a b d k) fun _ => rfl
    · split at h5
      · simp only [Bool.and_eq_true, decide_eq_true_eq] at h5
        exact both (pe_isiTR h1 g1 g2 g3 hE h3 (clss_ok G h5.1) h5.2) fun _ => rfl
      · cases h5
  · cases h
theorem s_pop {f : Ck} {pa : P} (i : Nat) (ha : SE C call f pa) : SE C call (kPop C i f) (ofV (cPop i pa)) := by
  intro e sc fb X G h
  unfold kPop at h
  split at h
  · simp only [Bool.and_eq_true, decide_eq_true_eq] at h
    obtain ⟨⟨⟨⟨⟨⟨h1, h2⟩, h3⟩, h4⟩, h5⟩, h6⟩, h7⟩ := h
    obtain ⟨o1, o2, o3⟩ := okName_ok h3
    subst h4
    exact both (pe_popR (by rw [G.N]; exact h1) (vis_ok G h2) o1 o2 (ha _ sc fb X G h7).1 h5 h6) fun _ => rfl
  · cases h
theorem src_ok {X : Cx} {sc : Scope} {fb : Str → Bool} (G : Goo C call sc fb X) {tg iter : Expr} {k : Sk} {xs : List Expr} {ps : List P} (h : srcE C sc tg k iter = some xs) (ha : AllP X xs ps) : PI X tg iter (iS X.K (srcR k ps)) := by
  unfold srcE at h
  split at h
  · cases h
    cases ha with
    | cons a b c d => cases d; exact pi_seqR a
  · split at h
    · split at h
      · rename_i hb
        cases h
        simp only [Bool.and_eq_true, decide_eq_true_eq] at hb
        obtain ⟨rfl, hb⟩ := hb
        obtain ⟨g1, g2, g3⟩ := blt_ok G hb
        cases ha with
        | cons a b c d => cases d; exact pi_rangeR g1 g2 a c
      · cases h
    · cases h
  · split at h
    · split at h
      · rename_i hb
        cases h
        simp only [Bool.and_eq_true, decide_eq_true_eq] at hb
        obtain ⟨⟨rfl, hb⟩, ht⟩ := hb
        obtain ⟨g1, g2, g3⟩ := blt_ok G hb
        unfold isTupE at ht
        split at ht
        · cases ha with
          | cons a b c d =>
            cases d with
            | cons a' b' c' d' => cases d'; exact pi_zipR g1 g2 a a' c c'
        · cases ht
      · cases h
    · cases h
  · split at h
    · split at h
      · rename_i hb
        cases h
        simp only [Bool.and_eq_true, decide_eq_true_eq] at hb
        obtain ⟨⟨rfl, hb⟩, ht⟩ := hb
        obtain ⟨g1, g2, g3⟩ := blt_ok G hb
        unfold isTupE at ht
        split at ht
        · cases ha with
          | cons a b c d => cases d; exact pi_enumR g1 g2 a c
        · cases ht
      · cases h
    · cases h
  · cases h
theorem tests_ok {X : Cx} : ∀ {es : List Expr} {ps : List P}, AllP X es ps → es.length ≤ 1 → PTs X es (tT X.K (tAll ps))
  | _, _, .nil, _ => pts_nilR
  | _, _, .cons a b c .nil, _ => pts_oneR b
  | _, _, .cons a b c (.cons _ _ _ _), h => by simp at h
/-- what a comprehension's check tells -/
theorem lc_facts {X : Cx} {sc : Scope} {fb : Str → Bool} (G : Goo C call sc fb X) {own : List Nat} {t : Tg} {k : Sk} {f g : CkL} {hh : Ck} {src tests : List P} {elt : P} (hf : SL C call f src) (hg : SL C call g tests) (he : SE C call hh elt) {el tg iter : Expr} {ifs : List Expr} {asy : Int} {scope : Scope} {pos : Pos}
    (h : kLc C own t k f g hh sc fb (.ListComp el [⟨tg, iter, ifs, asy⟩] scope pos) = true) :
    asy = 0 ∧ PI X tg iter (iS X.K (srcR k src)) ∧ BlkOk X.N X.env.scope scope (own.map fun i => (C.N.getD i "", i)) ∧ notSet iter = true ∧ (∀ i ∈ slots t, i ∈ (own.map fun i => (C.N.getD i "", i)).map (·.2)) ∧ (own.map fun i => (C.N.getD i "", i)).map (·.2) = own ∧
    (∀ (s : Shared) (H : Hp) (a : Addr) (cl : List (Str × Addr)) (fp : List Addr), PG (X.blk s H scope (compEnvC scope cl a X.env) fp) tg (gT X.K t) ∧ PTs (X.blk s H scope (compEnvC scope cl a X.env) fp) ifs (tT X.K (tAll tests)) ∧ PE (X.blk s H scope (compEnvC scope cl a X.env) fp) el (tE X.K elt.v)) := by
  unfold kLc at h
  simp only [Bool.and_eq_true, decide_eq_true_eq] at h
  obtain ⟨⟨⟨⟨⟨⟨⟨⟨h0, h1⟩, h2⟩, h3⟩, h4⟩, h5⟩, h6⟩, h7⟩, h8⟩ := h
  have hmap : (own.map fun i => (C.N.getD i "", i)).map (·.2) = own := by
    rw [List.map_map]
    exact List.map_id _
  have hb : BlkOk C.N sc scope (own.map fun i => (C.N.getD i "", i)) := blkOk_by h4
  refine ⟨h0, ?_, ?_, h2, ?_, hmap, ?_⟩
  · split at h1
    · rename_i xs hx
      exact src_ok G hx (hf _ sc fb X G h1)
    · cases h1
  · rw [G.N, G.hsc]; exact hb
  · rw [hmap]
    intro i hi
    exact of_decide_eq_true (List.all_eq_true.mp h5 i hi)
  · intro s H a cl fp
    have G' := G.blk hb.kind s H a cl fp
    exact ⟨soundT G' t tg h6, tests_ok (hg _ _ _ _ G' h7) h3, (he _ _ _ _ G' h8).1⟩
theorem s_lc {f g : CkL} {hh : Ck} {src tests : List P} {elt : P} (own : List Nat) (t : Tg) (k : Sk) (hf : SL C call f src) (hg : SL C call g tests) (he : SE C call hh elt) : SE C call (kLc C own t k f g hh) (ofV (cLc own t k src tests elt)) := by
  intro e sc fb X G h
  have h' := h
  unfold kLc at h'
  split at h'
  · rename_i el tg iter ifs asy scope pos
    obtain ⟨h0, h1, h2, h3, h4, h5, h6⟩ := lc_facts G hf hg he h
    subst h0
    have q := pe_lcR (pos := pos) G.calm (by rw [G.N]; exact G.nd) h1 h2 (fun s H a cl fp => (h6 s H a cl fp).1) (fun s H a cl fp => (h6 s H a cl fp).2.1) (fun s H a cl fp => (h6 s H a cl fp).2.2) h3 h4
    rw [h5] at q
    exact both q fun _ => rfl
  · cases h'
theorem s_dc {f g : CkL} {hk hv : Ck} {src tests : List P} {ke ve : P} (own : List Nat) (t : Tg) (k : Sk) (hf : SL C call f src) (hg : SL C call g tests) (h1 : SE C call hk ke) (h2 : SE C call hv ve) : SE C call (kDc C own t k f g hk hv) ⟨cDc own t k src tests ke ve, fun _ _ => .fail⟩ := by
  intro e sc fb X G h
  unfold kDc at h
  split at h
  · rename_i kx vx tg iter ifs asy scope pos
    simp only [Bool.and_eq_true, decide_eq_true_eq] at h
    obtain ⟨⟨⟨⟨⟨⟨⟨⟨⟨a0, a1⟩, a2⟩, a3⟩, a4⟩, a5⟩, a6⟩, a7⟩, a8⟩, a9⟩ := h
    subst a0
    have hmap : (own.map fun i => (C.N.getD i "", i)).map (·.2) = own := by
      rw [List.map_map]
      exact List.map_id _
    have hb : BlkOk C.N sc scope (own.map fun i => (C.N.getD i "", i)) := blkOk_by a4
    have hi : PI X tg iter (iS X.K (srcR k src)) := by
      split at a1
      · rename_i xs hx
        exact src_ok G hx (hf _ sc fb X G a1)
      · cases a1
    have q := pe_dc (kx := kx) (vx := vx) (ifs := ifs) (g := gT X.K t) (tt := tT X.K (tAll tests)) (tk := tE X.K ke.v) (tv := tE X.K ve.v) (pos := pos) G.calm (by rw [G.N]; exact G.nd) hi (show BlkOk X.N X.env.scope scope (own.map fun i => (C.N.getD i "", i)) by rw [G.N, G.hsc]; exact hb) (fun s H a cl fp => soundT (G.blk hb.kind s H a cl fp) t tg a6) (fun s H a cl fp => tests_ok (hg _ _ _ _ (G.blk hb.kind s H a cl fp) a7) a3)
      (fun s H a cl fp => (h1 _ _ _ _ (G.blk hb.kind s H a cl fp) a8).1) (fun s H a cl fp => (h2 _ _ _ _ (G.blk hb.kind s H a cl fp) a9).1) (not_folded a2 _)
    rw [hmap] at q
    refine ⟨PE.weak q fun _ _ _ z => dc_ok (fun i hi => of_decide_eq_true (List.all_eq_true.mp a5 i hi)) z, ⟨fun pins s σ H Q I ⟨env, m, g, hs, hm, hz⟩ => hz.elim⟩⟩
  · cases h
theorem s_lc2 {f g f1 g1 : CkL} {hh : Ck} {src tests src1 tests1 : List P} {elt : P} (own own1 : List Nat) (t : Tg) (k : Sk) (t1 : Tg) (k1 : Sk) (hf : SL C call f src) (hg : SL C call g tests) (hf1 : SL C call f1 src1) (hg1 : SL C call g1 tests1) (he : SE C call hh elt) :
    SE C call (kLc2 C own own1 t k f g t1 k1 f1 g1 hh) (ofV (cLc2 own own1 t k src tests t1 k1 src1 tests1 elt)) := by
  intro e sc fb X G h
  unfold kLc2 at h
  split at h
  · rename_i el tg iter ifs asy tg1 iter1 ifs1 asy1 scope pos
    simp only [Bool.and_eq_true, decide_eq_true_eq] at h
    obtain ⟨⟨⟨⟨⟨⟨⟨⟨⟨⟨⟨⟨⟨⟨⟨⟨a0, b0⟩, a1⟩, a2⟩, b2⟩, a3⟩, b3⟩, a4⟩, a5⟩, b5⟩, c5⟩, a6⟩, a7⟩, b1⟩, b6⟩, b7⟩, a8⟩ := h
    subst a0 b0
    have hmap : (own.map fun i => (C.N.getD i "", i)).map (·.2) = own := by
      rw [List.map_map]
      exact List.map_id _
    have hb : BlkOk C.N sc scope (own.map fun i => (C.N.getD i "", i)) := blkOk_by a4
    have hi : PI X tg iter (iS X.K (srcR k src)) := by
      split at a1
      · rename_i xs hx
        exact src_ok G hx (hf _ sc fb X G a1)
      · cases a1
    have hi1 : ∀ (s : Shared) (H : Hp) (a : Addr) (cl : List (Str × Addr)) (fp : List Addr), PI (X.blk s H scope (compEnvC scope cl a X.env) fp) tg1 iter1 (iS X.K (srcR k1 src1)) := fun s H a cl fp => by
      have G' := G.blk hb.kind s H a cl fp
      split at b1
      · rename_i xs hx
        exact src_ok G' hx (hf1 _ _ _ _ G' b1)
      · cases b1
    have q := pe_lc2R (pos := pos) (own := own.map fun i => (C.N.getD i "", i)) (own1 := own1) (t := t) (t1 := t1) G.calm (by rw [G.N]; exact G.nd) hi (by rw [G.N, G.hsc]; exact hb) (by rw [hmap]; exact fun i hi => of_decide_eq_true (List.all_eq_true.mp c5 i hi))
      (fun s H a cl fp => soundT (G.blk hb.kind s H a cl fp) t tg a6) (fun s H a cl fp => tests_ok (hg _ _ _ _ (G.blk hb.kind s H a cl fp) a7) a3) hi1
      (fun s H a cl fp => soundT (G.blk hb.kind s H a cl fp) t1 tg1 b6) (fun s H a cl fp => tests_ok (hg1 _ _ _ _ (G.blk hb.kind s H a cl fp) b7) b3)
      (fun s H a cl fp => (he _ _ _ _ (G.blk hb.kind s H a cl fp) a8).1) a2 b2 (by rw [hmap]; exact fun i hi => of_decide_eq_true (List.all_eq_true.mp a5 i hi)) (fun i hi => of_decide_eq_true (List.all_eq_true.mp b5 i hi))
    rw [hmap] at q
    exact both q fun _ => rfl
  · cases h
theorem sems_len (es : List E) : (sems call es).length = es.length := by
  induction es with
  | nil => rfl
  | cons e es ih => simp [sems, ih]
theorem sems_ne {es : List E} (h : es ≠ []) : sems call es ≠ [] := by
  cases es with
  | nil => exact absurd rfl h
  | cons e es => simp [sems]
mutual
theorem soundE : ∀ e : E, SE C call (chkE C e) (sem call e)
  | .bad => fun e sc fb X G h => ⟨pe_badR e, ⟨fun pins s σ H Q I ⟨env, m, g, hs, hm, hz⟩ => hz.elim⟩⟩
  | .var i => s_var i
  | .cst c => s_cst c
  | .glo c => s_glo c
  | .tup es => s_tup (soundL es) (sems_len es)
  | .lst es => s_lst (soundL es) (sems_len es)
  | .call f es => s_call (soundL es) (sems_len es)
  | .callc f es => s_callc (soundL es) (sems_len es)
  | .callk f is es => s_callk (soundL es) (sems_len es)
  | .cell e => fun ex sc fb X G h => by
    have q := soundE e ex sc fb X G h
    exact ⟨pe_cellR q.1, ⟨fun pins s σ H Q I ⟨env, m, g, hs, hm, hz⟩ => hz.elim⟩⟩
  | .op o a b => s_op o (soundE a) (soundE b)
  | .neg a => s_neg (soundE a)
  | .cmp o a b => s_cmp o (soundE a) (soundE b)
  | .chain o o' a b c => s_chain o o' (soundE a) (soundE b) (soundE c)
  | .isN a => s_isN (soundE a)
  | .isnN a => s_isnN (soundE a)
  | .band [] => fun e sc fb X G h => ⟨⟨fun pins s σ H Q I ⟨env, m, g, hs, hm, hz⟩ => hz.elim⟩, ⟨fun pins s σ H Q I ⟨env, m, g, hs, hm, hz⟩ => hz.elim⟩⟩
  | .band (e :: es) => s_and (soundL (e :: es)) (sems_ne (by simp))
  | .bor [] => fun e sc fb X G h => ⟨⟨fun pins s σ H Q I ⟨env, m, g, hs, hm, hz⟩ => hz.elim⟩, ⟨fun pins s σ H Q I ⟨env, m, g, hs, hm, hz⟩ => hz.elim⟩⟩
  | .bor (e :: es) => s_or (soundL (e :: es)) (sems_ne (by simp))
  | .not a => s_not (soundE a)
  | .ite c a b => s_ite (soundE c) (soundE a) (soundE b)
  | .idx a i => s_idx (soundE a) (soundE i)
  | .sl a => s_sl (soundE a)
  | .slL a l => s_slL (soundE a) (soundE l)
  | .slU a h => s_slU (soundE a) (soundE h)
  | .slLU a l h => s_slLU (soundE a) (soundE l) (soundE h)
  | .rev a => s_rev (soundE a)
  | .bi b es => by
    cases b with
    | sortedset => exact s_set (soundL es)
    | lenset => exact s_lenset (soundL es)
    | len => exact s_bi .len (soundL es) (sems_len es)
    | abs => exact s_bi .abs (soundL es) (sems_len es)
    | int => exact s_bi .int (soundL es) (sems_len es)
    | list => exact s_bi .list (soundL es) (sems_len es)
    | tuple => exact s_bi .tuple (soundL es) (sems_len es)
    | sorted => exact s_bi .sorted (soundL es) (sems_len es)
    | all => exact s_bi .all (soundL es) (sems_len es)
    | any => exact s_bi .any (soundL es) (sems_len es)
    | min2 => exact s_bi .min2 (soundL es) (sems_len es)
    | max2 => exact s_bi .max2 (soundL es) (sems_len es)
  | .isi a cs => s_isi cs (soundE a)
  | .pop i e => s_pop i (soundE e)
  | .lc own t k src tests elt => s_lc own t k (soundL src) (soundL tests) (soundE elt)
  | .lc2 own own1 t k src tests t1 k1 src1 tests1 elt => s_lc2 own own1 t k t1 k1 (soundL src) (soundL tests) (soundL src1) (soundL tests1) (soundE elt)
  | .tupS bs es => s_tupS (soundLS bs es)
  | .lstS bs es => s_lstS (soundLS bs es)
  | .dc own t k src tests ke ve => s_dc own t k (soundL src) (soundL tests) (soundE ke) (soundE ve)
  | .dmk e => s_dmk (soundE e)
  | .dget d k x => s_dget (soundE d) (soundE k) (soundE x)
  | .dat d k => s_dat (soundE d) (soundE k)
  | .din neg k d => s_din neg (soundE k) (soundE d)
  | .lidx i e => s_lidx i (soundE e)
theorem soundL : ∀ es : List E, SL C call (chkL C es) (sems call es)
  | [] => fun xs sc fb X G h => by
    cases xs with
    | nil => exact .nil
    | cons _ _ => cases h
  | e :: es => fun xs sc fb X G h => by
    cases xs with
    | nil => cases h
    | cons x xs =>
      have h' : (notStar x && chkE C e sc fb x && chkL C es sc fb xs) = true := h
      simp only [Bool.and_eq_true] at h'
      obtain ⟨⟨h1, h2⟩, h3⟩ := h'
      obtain ⟨a, b⟩ := soundE e x sc fb X G h2
      exact .cons a b h1 (soundL es xs sc fb X G h3)
theorem soundLS : ∀ (bs : List Bool) (es : List E), SLS C call (chkLS C bs es) bs (sems call es)
  | [], [] => fun xs sc fb X G h => by
    cases xs with
    | nil => exact pa_sN
    | cons _ _ => cases h
  | [], _ :: _ => fun xs sc fb X G h => by cases h
  | _ :: _, [] => fun xs sc fb X G h => by
    simp [chkLS] at h
  | false :: bs, e :: es => fun xs sc fb X G h => by
    cases xs with
    | nil => cases h
    | cons x xs =>
      have h' : (notStar x && chkE C e sc fb x && chkLS C bs es sc fb xs) = true := h
      simp only [Bool.and_eq_true] at h'
      exact pa_sF (soundE e x sc fb X G h'.1.2).1 (soundLS bs es xs sc fb X G h'.2) h'.1.1
  | true :: bs, e :: es => fun xs sc fb X G h => by
    cases xs with
    | nil => cases h
    | cons x xs =>
      cases x with
      | Starred y q =>
        have h' : (chkE C e sc fb y && chkLS C bs es sc fb xs) = true := h
        simp only [Bool.and_eq_true] at h'
        exact pa_sT (soundE e y sc fb X G h'.1).1 (soundLS bs es xs sc fb X G h'.2)
      | _ => cases h
end
end
end Ra


set_option Elab.async false
set_option linter.all false
set_option autoImplicit false
set_option maxRecDepth 100000
/-! several clauses, each `except X as n` -/
namespace Ra
open PySem PySem.Spec PyProof.Rows L2
/-- where a clause ends, its name goes -/
def endsA (i : Nat) (D : Ends) : Ends := { nx := fun σ' H' => D.nx (σ'.set i none) H', rt := D.rt, bk := fun σ' H' => D.bk (σ'.set i none) H', ct := fun σ' H' => D.ct (σ'.set i none) H' }
abbrev Cl := Value × Nat × (Addr → Value → Option Addr → TS)
def wAsN (K : PySem.W.Frag) (Wout : WX) (D : Ends) : List Cl → WX
  | [] => Wout
  | (c, i, ts) :: r => fun cls d σ H => ∃ b, PySem.W.exmOne K cls c = some b ∧ (b = true → ∀ a, H a = none → ts a cls d (endsA i D) (σ.set i (some (.ref a))) H) ∧ (b = false → wAsN K Wout D r cls d σ H)
inductive HdsA (X : Cx) : List ExceptHandler → List Cl → Prop
  | nil : HdsA X [] []
  | cons {x n : Str} {c : Value} {i : Nat} {ts : Addr → Value → Option Addr → TS} {b₀ : Stmt} {suite : List Stmt} {np pos' : Pos} {hds : List ExceptHandler} {l : List Cl} (hi : X.N[i]? = some n) (hln : X.env.kindOf n = some .local) (hc : Names X x c)
      (hsu : ∀ (a : Addr) (oe : Obj) (cls : Value) (d : Option Addr) (pn : List (Addr × Obj)), Zc cls d oe → (∃ vs, oe.data = .fields vs) → PSs (X.suite a ((a, oe) :: pn)) (b₀ :: suite) (ts a cls d)) (r : HdsA X hds l) :
      HdsA X (.ExceptHandler (some (.Name x np)) (some n) (b₀ :: suite) pos' :: hds) ((c, i, ts) :: l)
section
variable {X : Cx} {body : List Stmt} {h₀ : ExceptHandler} {hds : List ExceptHandler} {l : List Cl} {pos : Pos} {tb : WX → TS} {Wout : WX}
theorem ps_try_asN (hs : X.stack = X.env :: X.outer) (hf : X.env.frame = some X.env.locals) (hN : X.N.Nodup) (tk : Takes X Wout)
    (hb : ∀ (W : WX) (pn : List (Addr × Obj)) (xe : Value → Shared → Prop), Takes (X.tr pn xe) W → PassesOwn (model X.prog X.w) X.A X.env xe → PSs (X.tr pn xe) body (tb W))
    (hh : HdsA X (h₀ :: hds) l) : PS X (.Try body (h₀ :: hds) [] [] pos) (fun D σ H => tb (wAsN X.K Wout D l) D σ H) := by
  refine ⟨fun pins s σ H D I h => ?_⟩
  have ok := I.ok
  have hfr : X.A.frames = some (X.env :: X.outer) := by rw [ok.frames, hs]
  refine wpAny_Try_except ?_
  refine wpAny_mono ((hb (wAsN X.K Wout D l) (X.pn ++ pins) (fun e s₁ => wpAny (model X.prog X.w) X.A (noteFrame e X.env) (fun _ s₂ => wpAny (model X.prog X.w) X.A (setFlight e none) (fun _ s₃ =>
    wpAny (model X.prog X.w) X.A (handleBy e X.env (h₀ :: hds)) (SP X pins D) X.xe s₃) X.xe s₂) X.xe s₁) (fun u s' xx => ?_) PassesOwn.looking).run [] s σ H D (I.toTry _) h) (fun f s1 hsp => ?_) (fun e s1 he => he)
  · obtain ⟨a, B, sI, pins', σ', H', cls, d, rfl, J', nb, up, sky, na, os, ag, w⟩ := xx
    have J : Inv X pins σ' H' sI := J'.ofTry ok
    have sky' : Sky B (X.env :: X.outer) a (Zc cls d) X.env.locals s'.heap := by rw [← hs]; exact sky
    show wpAny (model X.prog X.w) X.A (noteFrame (.ref a) X.env) _ _ _
    refine Sky.land Zc.steady hfr hf sky' fun h3 fl3 up3 => ?_
    have J3 : Inv X pins σ' H' { s' with heap := h3 } := J.landed nb fl3.1 (up.trans up3) os ag
    obtain ⟨oe3, vs3, he3, hz3, hd3⟩ := fl3.there
    have notFr : ∀ {h : Heap} {o : Obj} {vs : Array Value}, h.FunFrames B (X.env :: X.outer) → h.get? a = some o → o.data = .fields vs → a ∉ frs (X.env :: X.outer) := fun {h o vs} ff e dd hm => by
      obtain ⟨_, o', e', hnf⟩ := ff.mem hm
      rw [e] at e'; cases e'
      exact hnf _ dd
    have nfr := notFr fl3.2.2.1 he3 hd3
    have nL : a ≠ X.env.locals := fun z => nfr (List.mem_filterMap.mpr ⟨X.env, List.mem_cons_self, by rw [hf, z]⟩)
    have nF : a ∉ X.fs := fun hm => by
      obtain ⟨e, he, q⟩ := List.mem_filterMap.mp hm
      exact nfr (List.mem_filterMap.mpr ⟨e, List.mem_cons_of_mem _ he, q⟩)
    have S3 := J3.suite he3 hd3 na nL nF
    have go : ∀ {hds' : List ExceptHandler} {l' : List Cl}, HdsA X hds' l' → wAsN X.K Wout D l' cls d σ' H' →
        wpAny (model X.prog X.w) X.A (handleBy (.ref a) X.env hds') (SP X pins D) X.xe { s' with heap := h3 } := by
      intro hds' l' hk
      induction hk with
      | nil =>
        intro w
        refine wpAny_handleBy_nil ?_
        obtain ⟨k1, k2, k3, oe, vs, T, oT, ts', he, hz, hd, h1, hr⟩ := id fl3
        unfold PySem.passOn
        refine wpAny_bind (wpAny_field he hd h1 ?_)
        rw [if_neg (show ¬ ((Value.ref T == Value.none) = true) from by simp)]
        have fin : wpAny (model X.prog X.w) X.A (setFlight (.ref a) X.env.frame) (fun _ s4 => wpAny (model X.prog X.w) X.A (throw (.ref a) : Sem PySem.Flow) (SP X pins D) X.xe s4) X.xe { s' with heap := h3 } := by
          rw [hf]
          refine HandSPX.setFlight_upZ fl3 fun h4 hh4 up4 => wpAny_throw (tk _ _ ?_)
          exact ⟨a, B, sI, pins, σ', H', cls, d, rfl, J, nb, (up.trans up3).trans up4, .inr (.inr (by rw [hs]; exact hh4)), na, os, ag, w⟩
        first
          | exact wpAny_bind (wpAny_pure (wpAny_bind fin))
          | exact wpAny_bind fin
      | @cons x n c i ts b₀ suite np pos' hds2 l2 hi hln hc hsu r ih =>
        intro w
        obtain ⟨b, hb1, hyes, hno⟩ := w
        have hloc : Loc X.env.scope n := .inl hln
        refine wpAny_handleBy_cons (codeAny_handlers_test ?_) (by intro q; cases q)
        have LT : PySem.W.Looks (model X.prog X.w) h3 (typeOf (.ref a)) cls := fun A Q E s k q => wpAny_typeOf_ref (k _ _ he3) (by rw [hz3.1]; exact q)
        have LM := PySem.W.exm_one (M := model X.prog X.w) (J3.kIn) LT hb1
        have test : ∀ {Q : Value → Shared → Prop} {E : Value → Shared → Prop}, Q c { s' with heap := h3 } → wpAny (model X.prog X.w) (X.A.mark (some (.ref a))) (eval (.Name x np) X.env) Q E { s' with heap := h3 } := fun {Q E} q => by
          obtain ⟨hg, hdbg, hm | ⟨hm, hv, hnn⟩⟩ := hc
          · exact ld_glob (X := X.suite a ((a, oe3) :: (X.pn ++ pins))) S3 hg hm q hdbg
          · exact ld_blt (X := X.suite a ((a, oe3) :: (X.pn ++ pins))) S3 hg hm hv q hnn hdbg
        refine test (LM.here ?_)
        cases b with
        | true =>
          refine codeAny_handlers_suite_as ?_
          refine HandSPX.lands_againZ fl3 fun h4 fl4 up4 => ?_
          have J4 : Inv X pins σ' H' { s' with heap := h4 } := J.landed nb fl4.1 ((up.trans up3).trans up4) os ag
          obtain ⟨oe4, vs4, he4, hz4, hd4⟩ := fl4.there
          have S4 := J4.suite he4 hd4 na nL nF
          refine store_ok (X := X.suite a ((a, oe4) :: (X.pn ++ pins))) (v := .ref a) S4 hN hi hloc rfl (fun s5 S5 => ?_) (.inr hln)
          refine wpAny_mono ((hsu a oe4 cls d (X.pn ++ pins) hz4 ⟨_, hd4⟩).run [] s5 _ H' _ S5 (hyes rfl a na)) (fun f s6 hsp => ?_) (fun _ _ z => False.elim z)
          have end_ : ∀ {σ6 : L2.St} {H6 : Hp} {Q : Shared → Prop}, Inv (X.suite a ((a, oe4) :: (X.pn ++ pins))) [] σ6 H6 s6 → (∀ s7, Inv X pins (σ6.set i none) H6 s7 → Q s7) →
              wpAny (model X.prog X.w) X.A (do bindName X.env n .none; unbindBehindTheSuite X.env n pos') (fun _ s7 => Q s7) X.xe s6 := fun {σ6 H6 Q} S6 hq => gone_ok (S6.unsuite ok) hN hi hln hq
          cases f with
          | next =>
            obtain ⟨σ6, H6, S6, q6⟩ := hsp
            exact end_ S6 fun s7 J7 => ⟨_, _, J7, q6⟩
          | brk =>
            obtain ⟨σ6, H6, S6, q6⟩ := hsp
            exact end_ S6 fun s7 J7 => ⟨_, _, J7, q6⟩
          | cont =>
            obtain ⟨σ6, H6, S6, q6⟩ := hsp
            exact end_ S6 fun s7 J7 => ⟨_, _, J7, q6⟩
          | ret u =>
            obtain ⟨v6, σ6, H6, S6, r6, q6⟩ := hsp
            exact end_ S6 fun s7 J7 => ⟨_, _, _, J7, r6, q6⟩
        | false =>
          show wpAny _ X.A (handleBy (.ref a) X.env hds2) _ _ _
          exact ih (hno rfl)
    exact go hh w
  · cases f with
    | next =>
      obtain ⟨σ', H', J', q⟩ := hsp
      exact wpAny_execs_nil ⟨σ', H', J'.ofTry ok, q⟩
    | brk =>
      obtain ⟨σ', H', J', q⟩ := hsp
      exact ⟨σ', H', J'.ofTry ok, q⟩
    | cont =>
      obtain ⟨σ', H', J', q⟩ := hsp
      exact ⟨σ', H', J'.ofTry ok, q⟩
    | ret u =>
      obtain ⟨v, σ', H', J', r, q⟩ := hsp
      exact ⟨v, σ', H', J'.ofTry ok, r, q⟩
end
end Ra


set_option Elab.async false
set_option linter.all false
set_option autoImplicit false
set_option maxRecDepth 100000
/-! raise, try -/
namespace Ra
open PySem PySem.Spec PyProof.Rows L2
/-- a call that may raise -/
def tX (K : PySem.W.Frag) (cv : Nat → Value) (W : WX) (p : EV) : TE := fun σ H Q => ∃ env m g, Sg K env σ g H ∧ SimM K m g H ∧ Rx K (fun x _ _ H' => W (cv x.cls) none σ H') (p env m) g H (Ans K Q)
def tSW (K : PySem.W.Frag) (cv : Nat → Value) (W : WX) (x : EX) : TS := fun D σ H => ∃ env m g, Sg K env σ g H ∧ SimM K m g H ∧ Rx K (fun x _ _ H' => W (cv x.cls) none σ H') (x env m) g H (FlowQ K D)
section
variable {C : Cs} {call : Call} {X : Cx} {sc : Scope} {fb : Str → Bool} {W : WX} {cv : Nat → Value} {K : PySem.W.Frag}
theorem callX_ok {f : Nat} {ps : List P} {σ : L2.St} {H : Hp} {Q : VK} (h : tX K cv W (fun env m => (cArgs ps env m).noX.bind fun vs m1 => call f vs m1) σ H Q) : tCallS (spOf K cv ps.length (call f)) (WE W) (tAr K (cArgs ps)) σ H Q := by
  obtain ⟨env, m, g, hs, hm, hz⟩ := h
  refine ⟨env, m, g, hs, hm, ?_⟩
  have hz' := Rx.bindX hz
  cases h1 : cArgs ps env m with
  | fail => rw [h1] at hz'; exact hz'.elim
  | exc a b => rw [h1] at hz'; exact hz'.elim
  | ok vs m1 =>
    rw [h1] at hz'
    intro g1 H1 e1 s1 xs rxs
    exact ⟨by rw [rxs.length, cArgs_len ps h1], vs, m1, g1, s1, rxs, hz' g1 H1 e1 s1⟩
def chkX (C : Cs) : XE → Ck
  | .call f es => fun sc fb ex => match ex with
    | .Call (.Name x _) (a :: as) [] _ => chkL C es sc fb (a :: as) && gloB sc x && okName x && fnB C x f es.length
    | _ => false
  | .ite c a b => fun sc fb ex => match ex with
    | .IfExp z x y _ => chkE C c sc fb z && chkX C a sc fb x && chkX C b sc fb y
    | _ => false
theorem soundX (G : Goo C call sc fb X) (tk : Takes X W) : ∀ (e : XE) (ex : Expr), chkX C e sc fb ex = true → PE X ex (tX X.K (cvM X.mg C.xs) W (xv call e))
  | .call f es, ex, h => by
    unfold chkX at h
    split at h
    · rename_i x q a as pos
      simp only [Bool.and_eq_true] at h
      obtain ⟨⟨⟨h1, h2⟩, h3⟩, h4⟩ := h
      have ha := soundL es _ sc fb X G h1
      obtain ⟨pn, pms, hpn, fa, fd, k, k1, k2, k3, _, k5, k6⟩ := fn_ok G h4
      obtain ⟨o1, o2, o3⟩ := okName_ok h3
      rw [hpn, ← sems_len (call := call) es] at k5
      have hp := ha.args
      show PE X _ (tX X.K (cvM X.mg C.xs) W fun env m => (cArgs (sems call es) env m).noX.bind fun vs m1 => call f vs m1)
      generalize sems call es = ps at ha hp k5 ⊢
      cases ha with
      | cons p1 p2 p3 p4 =>
        have q := pe_callS (p := q) (pos := pos) (E := WE W) k5 k6 (gl_ok G h2) k1 k2 k3 (fun σ => passAt tk σ) hp o1 (star1 p3 _ _) (star_plain _ _ _ p4.stars)
        exact PE.weak q fun _ _ _ z => callX_ok z
    · cases h
  | .ite c a b, ex, h => by
    unfold chkX at h
    split at h
    · rename_i z x y pos
      simp only [Bool.and_eq_true] at h
      obtain ⟨⟨h1, h2⟩, h3⟩ := h
      have hc := (soundE c _ sc fb X G h1).2
      have ha := soundX G tk a x h2
      have hb := soundX G tk b y h3
      refine PE.weak (pe_ifExp hc ha hb) fun σ H Q ⟨env, m, g, hs, hm, hz⟩ => ?_
      refine ⟨env, m, g, hs, hm, (Rx.bindX hz).mono fun b m1 g1 H1 e1 s1 z1 => ?_⟩
      cases b with
      | true => exact ⟨env, m1, g1, hs.ext e1, s1, z1⟩
      | false => exact ⟨env, m1, g1, hs.ext e1, s1, z1⟩
    · cases h
theorem setX_ok {i : Nat} {c : Bool} {v : EV} {D : Ends} {σ : L2.St} {H : Hp} (h : tSW K cv W (xSetV i c v) D σ H) : tX K cv W v σ H fun y H1 => gName i y σ H1 D.nx := by
  obtain ⟨env, m, g, hs, hm, hz⟩ := h
  refine ⟨env, m, g, hs, hm, (Rx.bind hz).mono fun v m1 g1 H1 e1 s1 z1 x rx => ?_⟩
  cases hst : stored c v m1 with
  | fail => rw [hst] at z1; exact z1.elim
  | exc a b => exact absurd hst stored_nx
  | ok v' m2 =>
    rw [hst, Res.bind_ok] at z1
    obtain ⟨g2, s2, e2, r2, nf2⟩ := stored_ok s1 rx hst
    unfold setIn at z1
    split at z1
    · rename_i hi
      exact Rx.ok_now (z1.ext e2) s2 _ (((hs.ext e1).ext e2).set r2 nf2 hi)
    · exact z1.elim
theorem notComp_call {e : XE} {ex : Expr} (h : chkX C e sc fb ex = true) (t : Option Expr) (l : Nat) (env : PySem.Env) : swapsWith ex t l env = pure false := by
  cases e with
  | call f es =>
    unfold chkX at h
    split at h
    · rfl
    · cases h
  | ite c a b =>
    unfold chkX at h
    split at h
    · rfl
    · cases h
/-- the body of a try -/
def chkTB (C : Cs) : TB → Scope → (Str → Bool) → Stmt → Bool
  | .set i _ e => fun sc fb st => match st with
    | .Assign [.Name x _] v _ => decide (C.N[i]? = some x) && locB sc x && (fb x || lclB sc x) && chkX C e sc fb v
    | _ => false
  | .iff c a b => fun sc fb st => match st with
    | .If x [sa] [sb] _ => chkE C c sc fb x && chkTB C a sc fb sa && chkTB C b sc fb sb
    | _ => false
theorem soundTB (G : Goo C call sc fb X) (tk : Takes X W) : ∀ (b : TB) (st : Stmt), chkTB C b sc fb st = true → PS X st (tSW X.K (cvM X.mg C.xs) W (tbX call b))
  | .set i c e, st, h => by
    unfold chkTB at h
    split at h
    · rename_i x q v pos
      simp only [Bool.and_eq_true, decide_eq_true_eq] at h
      obtain ⟨⟨⟨h1, h2⟩, h3⟩, h4⟩ := h
      have hf : X.fn x = true ∨ X.env.scope.names.lookup x = some .local := by
        rcases Bool.or_eq_true_iff.mp h3 with q | q
        · exact .inl (by rw [G.fn]; exact q)
        · exact .inr (lcl_ok G q)
      exact PS.weak (ps_set (by rw [G.N]; exact G.nd) (by rw [G.N]; exact h1) (loc_ok G h2) (soundX G tk e v h4) (notComp_call h4 _ _ _) hf) fun _ _ _ z => setX_ok z
    · cases h
  | .iff c a b, st, h => by
    unfold chkTB at h
    split at h
    · rename_i x sa sb pos
      simp only [Bool.and_eq_true] at h
      obtain ⟨⟨h1, h2⟩, h3⟩ := h
      have hc := (soundE c _ sc fb X G h1).2
      have ha := pss_one (soundTB G tk a sa h2)
      have hb := pss_one (soundTB G tk b sb h3)
      refine PS.weak (ps_if hc ha hb) fun D σ H ⟨env, m, g, hs, hm, hz⟩ => ?_
      refine ⟨env, m, g, hs, hm, (Rx.bindX hz).mono fun t m1 g1 H1 e1 s1 z1 => ?_⟩
      cases t with
      | true => exact ⟨env, m1, g1, hs.ext e1, s1, z1⟩
      | false => exact ⟨env, m1, g1, hs.ext e1, s1, z1⟩
    · cases h
/-! statements -/
theorem ps_setxR (G : Goo C call sc fb X) {E : XK} (tk : Takes X (fun cls d _ H => E cls d H)) {i : Nat} {c : Bool} {e : XE} {x : Str} {v : Expr} {q pos : Pos} (h1 : C.N[i]? = some x) (h2 : locB sc x = true) (h3 : (fb x || lclB sc x) = true) (h4 : chkX C e sc fb v = true) :
    PS X (.Assign [.Name x q] v pos) (tS X.K (zE (cvM X.mg C.xs) E) (xSetV i c (xv call e))) := by
  have hf : X.fn x = true ∨ X.env.scope.names.lookup x = some .local := by
    rcases Bool.or_eq_true_iff.mp h3 with q | q
    · exact .inl (by rw [G.fn]; exact q)
    · exact .inr (lcl_ok G q)
  exact PS.weak (ps_set (by rw [G.N]; exact G.nd) (by rw [G.N]; exact h1) (loc_ok G h2) (soundX G tk e v h4) (notComp_call h4 _ _ _) hf) fun _ _ _ z => setX_ok z
theorem ps_exprxR (G : Goo C call sc fb X) {E : XK} (tk : Takes X (fun cls d _ H => E cls d H)) {e : XE} {v : Expr} {pos : Pos} (h4 : chkX C e sc fb v = true) :
    PS X (.Expr v pos) (tS X.K (zE (cvM X.mg C.xs) E) fun env m => (xv call e env m).bind fun _ m1 => .ok (.next env) m1) := by
  refine PS.weak (ps_expr (soundX G tk e v h4) (notComp_call h4 _ _ _)) fun D σ H ⟨env, m, g, hs, hm, hz⟩ => ?_
  exact ⟨env, m, g, hs, hm, (Rx.bind hz).mono fun v m1 g1 H1 e1 s1 z1 x rx => Rx.ok_now z1 s1 σ (hs.ext e1)⟩
theorem ps_retxR (G : Goo C call sc fb X) {E : XK} (tk : Takes X (fun cls d _ H => E cls d H)) {e : XE} {v : Expr} {pos : Pos} (h4 : chkX C e sc fb v = true) :
    PS X (.Return (some v) pos) (tS X.K (zE (cvM X.mg C.xs) E) fun env m => (xv call e env m).bind fun v m1 => .ok (.ret v) m1) := by
  refine PS.weak (ps_ret (soundX G tk e v h4)) fun D σ H ⟨env, m, g, hs, hm, hz⟩ => ?_
  exact ⟨env, m, g, hs, hm, (Rx.bind hz).mono fun v m1 g1 H1 e1 s1 z1 => Rx.ok_now (Z := zE (cvM X.mg C.xs) E) z1 s1⟩
/-- X() -/
theorem pmk_none {D : Addr} {bmB : List Value} {B newId initId : String} {x : Str} {p pos : Pos} (F : ExcBaseFacts B newId initId bmB) (q : PySem.W.excIn X.K D bmB newId = true) (gC : X.mg x = some (.ref D)) (kC : PySem.W.keepIn X.K (.ref D) = true) (r : Raises X (.ref D)) (hg : Gl X x)
    (hdb : (x == ("__debug__" : Str)) = false) : PMk X (.Call (.Name x p) [] [] pos) (fun _ H Q => Q (.ref D) none H) := by
  intro pins s σ H Q I h
  refine wpAny_Call_Name_kw (ld_glob I hg gC ?_ hdb)
  refine PySem.W.callWith_K0 I.kIn kC ?_
  show wpAny _ _ (PySem.call (.ref D) []) _ _ _
  obtain ⟨bm, N, nm, qn, bs, hdct, sn, sub, ab, col, dd, k0, k1, k2, k3, k5, mN, hC, hN, hni, T⟩ := exc_obj I.kIn q
  exact wpAny_call_exc_subT F T hC hN hni (fun h' e hm => mk_of I hm r h (I.hok.gone hm.new)) (Nat.zero_le _)
theorem ps_raiseR (G : Goo C call sc fb X) {E : XK} (tk : Takes X (fun cls d _ H => E cls d H)) {c : Nat} {x : Str} {p pos pos' : Pos} (hx : C.xs[c]? = some x) (hg : gloB sc x = true) (ok : okName x = true) :
    PS X (.Raise (some (.Call (.Name x p) [] [] pos)) none pos') (tS X.K (zE (cvM X.mg C.xs) E) fun _ m => .exc ⟨c, []⟩ m) := by
  obtain ⟨D, h1, h2, h3, h4, _, _, _⟩ := (G.xcs c x hx).ex
  obtain ⟨o1, o2, o3⟩ := okName_ok ok
  refine PS.weak (ps_raise G.calm tk (pmk_none F.excBase_ValueError h2 h1 h3 h4 (gl_ok G hg) o1)) fun D' σ H ⟨env, m, g, hs, hm, hz⟩ => ?_
  have q := hz g H (Ext.refl _ _) hm
  have e : cvM X.mg C.xs c = .ref D := by
    unfold cvM
    rw [hx]
    simp only [h1, Option.getD_some]
  have q' : E (cvM X.mg C.xs c) none H := q
  rw [e] at q'
  exact q'
/-! try -/
def itV : HI → Option V
  | .cst c => flatD c
  | .isi _ b => some (.bl b)
/-- what a clause's list holds -/
def itsV : List HI → Option (List V)
  | [] => some []
  | h :: r => match itV h, itsV r with
    | some v, some vs => some (v :: vs)
    | _, _ => none
theorem itsV_rp : ∀ {hs : List HI} {vs : List V}, itsV hs = some vs → ∀ (F : Addr → Prop) (H : Hp), RpAll K F H vs (hs.map HI.val) ∧ vs.length = hs.length
  | [], vs, h, F, H => by
    cases h
    exact ⟨.nil, rfl⟩
  | h :: r, vs, hv, F, H => by
    unfold itsV at hv
    split at hv
    · rename_i v vs' h1 h2
      cases hv
      obtain ⟨a, b⟩ := itsV_rp h2 F H
      refine ⟨.cons ?_ a, by simp [b]⟩
      cases h with
      | cst c => exact flat_rp h1 F H
      | isi T b =>
        cases h1
        exact .bl b
    · cases hv
def hiB (C : Cs) (sc : Scope) (n : Str) : HI → Expr → Bool
  | .cst c, .Constant k _ _ => cstB c k
  | .isi T b, .Call (.Name x _) [.Name y _, .Name z _] [] _ => decide (x = "isinstance") && bltB C sc x && decide (y = n) && decide (z = "ValueError") && bltB C sc z && decide (T = "ValueError") && b
  | _, _ => false
def hisB (C : Cs) (sc : Scope) (n : Str) : List HI → List Expr → Bool
  | [], [] => true
  | h :: r, e :: es => hiB C sc n h e && hisB C sc n r es
  | _, _ => false
theorem pe_cst {X : Cx} {c : PyData} {k : Const} {j : Nat} {pos : Pos} (h : cstB c k = true) : ∃ v, flatD c = some v ∧ PE X (.Constant k j pos) (tC v) := by
  unfold cstB at h
  split at h
  · exact ⟨_, rfl, pe_non⟩
  · have h' := eq_of_beq h
    subst h'
    exact ⟨_, rfl, pe_bl⟩
  · have h' := of_decide_eq_true h
    subst h'
    exact ⟨_, rfl, pe_int⟩
  · obtain ⟨h1, h2⟩ := Bool.and_eq_true_iff.mp h
    have h' := of_decide_eq_true h1
    subst h'
    exact ⟨_, by simp [flatD, h2], pe_str⟩
  · cases h
/-- the list of a clause -/
theorem pa_his (G : Goo C call sc fb X) {n : Str} {nm : Nat} (hn : X.N[nm]? = some n) (hv : visB sc n = true) (okn : okName n = true) {a D : Addr} {oe : Obj} {pn : List (Addr × Obj)} (T : ExcC X.K D) (hk : PySem.W.kitOne X.K (.ref D) (.type "ValueError") = some true) (hz : Zc (.ref D) none oe) (hf : ∃ vs, oe.data = .fields vs) :
    ∀ {hs : List HI} {es : List Expr}, hisB C sc n hs es = true → ∃ vs, itsV hs = some vs ∧ PA (X.suite a ((a, oe) :: pn)) es (fun σ H Q => σ[nm]? = some (some (.ref a)) ∧ Q vs H)
  | [], [], _ => ⟨[], rfl, PA.weak pa_nil fun _ _ _ h => h.2⟩
  | [], _ :: _, h => by cases h
  | _ :: _, [], h => by cases h
  | h :: r, e :: es, hb => by
    obtain ⟨h1, h2⟩ := Bool.and_eq_true_iff.mp (show (hiB C sc n h e && hisB C sc n r es) = true from hb)
    obtain ⟨vs, k1, k2⟩ := pa_his G hn hv okn T hk hz hf h2
    have key : ∃ v, itV h = some v ∧ PE (X.suite a ((a, oe) :: pn)) e (fun σ H Q => σ[nm]? = some (some (.ref a)) ∧ Q v H) ∧ notStar e = true := by
      unfold hiB at h1
      split at h1
      · obtain ⟨v, q1, q2⟩ := pe_cst (X := X.suite a ((a, oe) :: pn)) h1
        exact ⟨v, q1, PE.weak q2 fun _ _ _ z => z.2, rfl⟩
      · rename_i T' b x q y q2 z q3 pos
        simp only [Bool.and_eq_true, decide_eq_true_eq] at h1
        obtain ⟨⟨⟨⟨⟨⟨a1, a2⟩, a3⟩, a4⟩, a5⟩, a6⟩, a7⟩ := h1
        obtain ⟨g1, g2, g3⟩ := blt_ok G a2
        obtain ⟨l1, l2, l3⟩ := blt_ok G a5
        obtain ⟨o1, o2, o3⟩ := okName_ok g3
        obtain ⟨p1, p2, p3⟩ := okName_ok l3
        obtain ⟨r1, r2, r3⟩ := okName_ok okn
        subst a1 a3 a4 a6 a7
        refine ⟨_, rfl, ?_, rfl⟩
        have pv : PE (X.suite a ((a, oe) :: pn)) (.Name y q2) (tVar nm) := pe_var (X := X.suite a ((a, oe) :: pn)) hn (vis_ok G hv) r1 r2
        have pz : PE (X.suite a ((a, oe) :: pn)) (.Name ("ValueError" : Str) q3) (tC (.ty "ValueError")) := pe_bltn (X := X.suite a ((a, oe) :: pn)) l1 l2 (u := .type "ValueError") (by decide +kernel) rfl p3 p1
        refine PE.weak (pe_callB (X := X.suite a ((a, oe) :: pn)) (call_isE T hz hf) g1 g2 (by decide +kernel) (pa_cons pv (pa_cons pz pa_nil)) o3 o1 rfl rfl) fun σ H Q z => ?_
        exact ⟨.ref a, z.1, .ty "ValueError", .type "ValueError", true, rfl, fun u hu => hu, hk, z.2⟩
      · cases h1
    obtain ⟨v, q1, q2, q3⟩ := key
    refine ⟨v :: vs, by unfold itsV; rw [q1, k1], PA.weak (pa_cons q2 k2 (star1 q3 _ _)) fun σ H Q z => ⟨z.1, z.1, z.2⟩⟩
theorem set3 (σ : L2.St) (i j : Nat) (a y : Option V) : ((σ.set i a).set j y).set i none = ((σ.set i none).set j y).set i none := by
  apply List.ext_getElem?
  intro k
  simp only [List.getElem?_set, List.length_set]
  by_cases h1 : i = k
  · simp [h1]
  · simp [h1]
def hdB (C : Cs) (sc : Scope) (fb : Str → Bool) (h : Hd) : ExceptHandler → Bool
  | .ExceptHandler (some (.Name x _)) (some n) [.Assign [.Name y _] (.List es _) _] _ => decide (C.xs[h.cls]? = some x) && decide (h.n = C.xs.length) && gloB sc x && okName x && decide (C.N[h.nm]? = some n) && lclB sc n && okName n && decide (C.N[h.dst]? = some y) && locB sc y && (fb y || lclB sc y) && hisB C sc n h.items es && decide (h.items.length ≤ 1000)
  | _ => false
/-- what a clause reads -/
def tHd (D0 : Addr) (nm dst : Nat) (vs : List V) (a : Addr) (cls : Value) (d : Option Addr) : TS := fun D σ H => cls = .ref D0 ∧ d = none ∧ σ[nm]? = some (some (.ref a)) ∧ ∀ p, H p = none → D.nx (σ.set dst (some (.ref p))) (upd H p (.lst vs))
theorem vis_of_lcl {n : Str} (h : lclB sc n = true) : visB sc n = true := by
  unfold lclB at h
  unfold visB
  split at h
  · rename_i e; rw [e]
  · cases h
theorem Goo.tr (G : Goo C call sc fb X) (pn : List (Addr × Obj)) (xe : Value → Shared → Prop) : Goo C call sc fb (X.tr pn xe) where
  hsc := G.hsc
  kind := G.kind
  N := G.N
  nd := G.nd
  calm := G.calm
  fn := G.fn
  free := G.free
  glo := G.glo
  fns := fun i x ps pms h => by
    obtain ⟨f, fd, k, h1, h2, h3, h4, h5, h6⟩ := (G.fns i x ps pms h).at_
    exact ⟨f, fd, k, h1, h2, h3, h4, h5, h6⟩
  xcs := fun c n h => by
    obtain ⟨C, h1, h2, h3, h4, h5, h6, h7⟩ := (G.xcs c n h).ex
    exact ⟨C, h1, h2, h3, h4, h5, h6, h7⟩
  units := G.units
def hdsB (C : Cs) (sc : Scope) (fb : Str → Bool) : List Hd → List ExceptHandler → Bool
  | [], [] => true
  | h :: hs, e :: es => hdB C sc fb h e && hdsB C sc fb hs es
  | _, _ => false
/-- what is known of a clause -/
structure ClOk (X : Cx) (C : Cs) (h : Hd) (l : Cl) : Prop where
  ex : ∃ (x : Str) (D0 : Addr) (vs : List V), C.xs[h.cls]? = some x ∧ h.n = C.xs.length ∧ X.mg x = some (.ref D0) ∧ itsV h.items = some vs ∧ h.items.length ≤ 1000 ∧ l = (.ref D0, h.nm, tHd D0 h.nm h.dst vs)
inductive ClsOk (X : Cx) (C : Cs) : List Hd → List Cl → Prop
  | nil : ClsOk X C [] []
  | cons {h : Hd} {l : Cl} {hs : List Hd} {ls : List Cl} (a : ClOk X C h l) (b : ClsOk X C hs ls) : ClsOk X C (h :: hs) (l :: ls)
theorem hds_ok (G : Goo C call sc fb X) : ∀ {hs : List Hd} {es : List ExceptHandler}, hdsB C sc fb hs es = true → ∃ l, HdsA X es l ∧ ClsOk X C hs l
  | [], [], _ => ⟨[], .nil, .nil⟩
  | [], _ :: _, h => by cases h
  | _ :: _, [], h => by cases h
  | h :: hs, e :: es, h0 => by
    obtain ⟨h2, h0'⟩ := Bool.and_eq_true_iff.mp h0
    obtain ⟨ls, k1, k2⟩ := hds_ok G h0'
    unfold hdB at h2
    split at h2
    · rename_i x q n y q2 es q3 q4 q5
      simp only [Bool.and_eq_true, decide_eq_true_eq] at h2
      obtain ⟨⟨⟨⟨⟨⟨⟨⟨⟨⟨⟨a1, a2⟩, a3⟩, a4⟩, a5⟩, a6⟩, a7⟩, a8⟩, a9⟩, a10⟩, a11⟩, a12⟩ := h2
      obtain ⟨D0, b1, b2, b3, b4, b5, b6, b7⟩ := (G.xcs h.cls x a1).ex
      obtain ⟨o1, o2, o3⟩ := okName_ok a4
      have hN : X.N.Nodup := by rw [G.N]; exact G.nd
      have hnm : X.N[h.nm]? = some n := by rw [G.N]; exact a5
      have hdst : X.N[h.dst]? = some y := by rw [G.N]; exact a8
      have hfy : X.fn y = true ∨ X.env.scope.names.lookup y = some .local := by
        rcases Bool.or_eq_true_iff.mp a10 with q | q
        · exact .inl (by rw [G.fn]; exact q)
        · exact .inr (lcl_ok G q)
      have hvs : ∃ vs, itsV h.items = some vs ∧ ∀ (a : Addr) (oe : Obj) (cls : Value) (d : Option Addr) (pn : List (Addr × Obj)), Zc cls d oe → (∃ vs, oe.data = .fields vs) → PSs (X.suite a ((a, oe) :: pn)) [.Assign [.Name y q2] (.List es q3) q4] (tHd D0 h.nm h.dst vs a cls d) := by
        obtain ⟨vs, k1, _⟩ := pa_his (a := 0) (oe := ⟨.ref D0, none, .fields #[], #[]⟩) (pn := []) G hnm (vis_of_lcl a6) a7 b5 b6 ⟨rfl, rfl⟩ ⟨_, rfl⟩ a11
        refine ⟨vs, k1, fun a oe cls d pn hz hf => ⟨fun pins s σ H D I hh => ?_⟩⟩
        obtain ⟨rfl, rfl, e1, e2⟩ := hh
        obtain ⟨vs', k1', k2⟩ := pa_his (pn := pn) G hnm (vis_of_lcl a6) a7 b5 b6 hz hf a11
        rw [k1] at k1'
        cases k1'
        have p1 := ps_set (X := X.suite a ((a, oe) :: pn)) (pos' := q2) (pos := q4) hN hdst (loc_ok G a9) (pe_lst (pos := q3) k2) rfl hfy
        refine (pss_one p1).run pins s σ H D I ⟨e1, ?_, fun p hp => e2 p hp⟩
        have := (itsV_rp (K := X.K) k1 (fun _ => False) H).2
        rw [this, sizeLine_eq]
        omega
      obtain ⟨vs, v1, v2⟩ := hvs
      have hk : X.env.kindOf n = some .local := lcl_ok G a6
      have hnam : Names X x (.ref D0) := ⟨gl_ok G a3, o1, .inl b1⟩
      exact ⟨(.ref D0, h.nm, tHd D0 h.nm h.dst vs) :: ls, .cons hnm hk hnam v2 k1, .cons ⟨x, D0, vs, a1, a2, b1, v1, a12, rfl⟩ k2⟩
    · cases h2
theorem cls_w (G : Goo C call sc fb X) {E : XK} {D : Ends} {x : Exn} {env : Env} {σ : L2.St} {m1 : Mem} {g g' : Ra.G} {H H' : Hp} (hs : Sg X.K env σ g H) (e' : Ext g H g' H') (s' : SimM X.K m1 g' H') : ∀ {hs' : List Hd} {l : List Cl}, ClsOk X C hs' l → Rx X.K (zE (cvM X.mg C.xs) E) (hdsX hs' x env m1) g H (FlowQ X.K D) →
    wAsN X.K (fun cls d _ H => E cls d H) D l (cvM X.mg C.xs x.cls) none σ H'
  | _, _, .nil, hz => hz g' H' e' s'
  | h :: hs', _, .cons ⟨y, D0, vs, a1, a2, b1, v1, a12, el⟩ k, hz => by
    subst el
    unfold hdsX at hz
    split at hz
    · exact hz.elim
    · rename_i hlt
      have hlt : x.cls < C.xs.length := by rw [← a2]; omega
      obtain ⟨D1, d1, d2, d3, d4, d5, d6, d7⟩ := (G.xcs x.cls C.xs[x.cls] (List.getElem?_eq_getElem hlt)).ex
      have ecv : cvM X.mg C.xs x.cls = .ref D1 := by
        unfold cvM
        rw [List.getElem?_eq_getElem hlt]
        simp only [d1, Option.getD_some]
      obtain ⟨D2, f1, f2⟩ := d7 h.cls _ a1
      rw [b1] at f1
      cases f1
      refine ⟨decide (x.cls = h.cls), by rw [ecv]; exact f2, fun hbt a ha => ?_, fun hbf => ?_⟩
      · have hc : x.cls = h.cls := of_decide_eq_true hbt
        rw [if_pos hc] at hz
        split at hz
        · rename_i hl
          have eD : D1 = D0 := by
            have z : cvM X.mg C.xs h.cls = .ref D0 := by
              unfold cvM
              rw [a1]
              simp only [b1, Option.getD_some]
            rw [hc, z] at ecv
            exact (Value.ref.inj ecv).symm
          refine ⟨by rw [ecv, eD], rfl, ?_, fun p hp => ?_⟩
          · rw [List.getElem?_set_self (by rw [← hs.len]; exact hl.1)]
          · obtain ⟨r1, r2⟩ := itsV_rp (K := X.K) v1 g'.F H'
            obtain ⟨s2, e2, rv⟩ := new_list s' hp r1 (by rw [r2, sizeLine_eq]; omega)
            obtain ⟨g3, s3, e3, rv3⟩ := s2.hold rv
            have hs3 := ((hs.ext e').ext e2).ext e3
            have hs4 := ((hs3.wipe1 h.nm).set rv3 (nf_ne _) (by simpa using hl.2)).wipe1 h.nm
            have q := hz _ _ ((e'.trans e2).trans e3) s3 _ hs4
            show D.nx (((List.set σ h.nm (some (V.ref a))).set h.dst (some (V.ref p))).set h.nm none) _
            rw [set3]
            exact q
        · exact hz.elim
      · have hc : ¬ x.cls = h.cls := of_decide_eq_false hbf
        rw [if_neg hc] at hz
        exact cls_w G hs e' s' k hz
theorem ps_tryR (G : Goo C call sc fb X) {E : XK} (A : Arnd X (fun cls d _ H => E cls d H)) {b : TB} {hs : List Hd} {st : Stmt} {hd : ExceptHandler} {hds : List ExceptHandler} {pos : Pos} (h1 : chkTB C b sc fb st = true) (h2 : hdsB C sc fb hs (hd :: hds) = true) :
    PS X (.Try [st] (hd :: hds) [] [] pos) (tS X.K (zE (cvM X.mg C.xs) E) (xTry (tbX call b) hs)) := by
  obtain ⟨l, k1, k2⟩ := hds_ok G h2
  have hN : X.N.Nodup := by rw [G.N]; exact G.nd
  refine PS.weak (ps_try_asN (tb := fun W => tSW X.K (cvM X.mg C.xs) W (tbX call b)) A.hs A.hf hN A.tk (fun W pn xe tk _ => pss_one (soundTB (X := X.tr pn xe) (G.tr pn xe) tk b st h1)) k1) fun D σ H ⟨env, m, g, hs', hm, hz⟩ => ?_
  refine ⟨env, m, g, hs', hm, ?_⟩
  unfold xTry at hz
  cases hb : tbX call b env m with
  | fail => rw [hb] at hz; exact hz.elim
  | ok f m1 => rw [hb] at hz; exact hz
  | exc x m1 =>
    rw [hb] at hz
    intro g' H' e' s'
    exact cls_w G hs' e' s' k2 hz
end
end Ra


set_option Elab.async false
set_option linter.all false
set_option autoImplicit false
set_option maxRecDepth 100000
/-! statements that are checked are sound -/
namespace Ra
open PySem PySem.Spec PyProof.Rows L2
def isStarE : Expr → Bool
  | .Starred .. => true
  | _ => false
/-- the names that are stored crosswise; none at the outside: not told -/
def swB (sc : Scope) (ts vs : List Expr) : Option (Option (List Str)) :=
  if (!(ts.length == 2 || ts.length == 3) || vs.length != ts.length) = true then some none
  else if (vs.any isStarE) = true then some none
  else
    let line := (ts.head?.map (·.pos.line)).getD 0
    let names := ts.filterMap fun
      | .Name id pos => if (sc.names.lookup id == some .local && pos.line == line) = true then some id else none
      | _ => none
    if (names.length != ts.length || names.eraseDups.length != names.length) = true then some none
    else if (vs.all (foldedForSure 8)) = true then some none
    else if (vs.all (constantsAlone 8)) = true then none
    else some (some names)
theorem sw_ok {env : PySem.Env} {sc : Scope} (h1 : env.scope = sc) (h2 : sc.kind = .function) {ts vs : List Expr} {k k2 : Nat} {q q2 : Pos} {r : Option (List Str)} (h : swB sc ts vs = some r) : swappedStores [.Tuple ts k q] (.Tuple vs k2 q2) env = pure r := by
  have hb : env.blockKind = .function := by unfold Env.blockKind; rw [h1, h2]; rfl
  have hk : ∀ x, env.kindOf x = sc.names.lookup x := fun x => by unfold Env.kindOf; rw [h1]
  have hst : (fun (e : Expr) => match e with | .Starred .. => true | _ => false) = isStarE := by
    funext e
    cases e <;> rfl
  unfold swB at h
  unfold swappedStores
  simp only [hb, hk]
  split at h
  · rename_i hc
    cases h
    have : (!(ts.length == 2 || ts.length == 3) || vs.length != ts.length || (ScopeKind.function != ScopeKind.function)) = true := by
      rw [hc]; rfl
    simp only [this, if_true]
  · rename_i hc
    have hc' : (!(ts.length == 2 || ts.length == 3) || vs.length != ts.length) = false := by simpa using hc
    have : (!(ts.length == 2 || ts.length == 3) || vs.length != ts.length || (ScopeKind.function != ScopeKind.function)) = false := by
      rw [hc']; rfl
    simp only [this, Bool.false_eq_true, if_false]
    have hst2 : (vs.any fun (e : Expr) => match e with | .Starred .. => true | _ => false) = vs.any isStarE := by rw [hst]
    split at h
    · rename_i h3
      cases h
      exact (if_pos (by rw [← hst2] at h3; exact h3))
    · rename_i h3
      refine (if_neg (by rw [← hst2] at h3; exact h3)).trans ?_
      simp only at h
      split at h
      · rename_i h4
        cases h
        exact if_pos h4
      · rename_i h4
        refine (if_neg h4).trans ?_
        split at h
        · rename_i h5
          cases h
          exact if_pos h5
        · rename_i h5
          refine (if_neg h5).trans ?_
          split at h
          · cases h
          · rename_i h6
            cases h
            exact if_neg h6
/-- no comprehension -/
def notComp : Expr → Bool
  | .ListComp .. => false
  | .SetComp .. => false
  | .DictComp .. => false
  | _ => true
theorem not_swaps {e : Expr} (h : notComp e = true) (t : Option Expr) (l : Nat) (env : PySem.Env) : swapsWith e t l env = pure false := by
  cases e <;> first | rfl | (cases h; done)
theorem sub_swaps {e o j : Expr} {q : Pos} {l : Nat} {env : PySem.Env} : swapsWithSole [.Subscript o j q] e l env = pure false := by
  cases e <;> rfl
theorem tup_swaps {e : Expr} {ts : List Expr} {k : Nat} {q : Pos} {l : Nat} {env : PySem.Env} : swapsWithSole [.Tuple ts k q] e l env = pure false := by
  cases e <;> rfl
def notTupE : Expr → Bool
  | .Tuple .. => false
  | _ => true
theorem tup_stores {e : Expr} {ts : List Expr} {k : Nat} {q : Pos} {env : PySem.Env} (h : notTupE e = true) : swappedStores [.Tuple ts k q] e env = pure none := by
  cases e <;> first | rfl | (cases h; done)
theorem sub_stores {e o j : Expr} {q : Pos} {env : PySem.Env} : swappedStores [.Subscript o j q] e env = pure none := by
  cases e <;> rfl
abbrev Cs2 := Scope → (Str → Bool) → Stmt → Bool
abbrev CsL := Scope → (Str → Bool) → List Stmt → Bool
/-- y = [..] is stored within the comprehension's block -/
def swLc (sc : Scope) (y : Str) (py : Pos) (scope : Scope) (pos : Pos) : Bool := lclB sc y && (py.line == pos.line) && !(scope.names.any fun (n, k) => n == y && (k == .local || k == .cell))
theorem sw_false {elt : Expr} {gs : List Comprehension} {scope : Scope} {pos py : Pos} {y : Str} {l : Nat} {env : PySem.Env} {sc : Scope} (h1 : env.scope = sc) (h : swLc sc y py scope pos = false) : swapsWith (.ListComp elt gs scope pos) (some (.Name y py)) l env = pure false := by
  unfold swapsWith
  simp only
  have hk : env.kindOf y = sc.names.lookup y := by unfold Env.kindOf; rw [h1]
  have hl : (sc.names.lookup y == some NameKind.local) = lclB sc y := by
    unfold lclB
    cases sc.names.lookup y with
    | none => rfl
    | some k => cases k <;> rfl
  have key : (env.blockKind == .function && env.kindOf y == some .local && py.line == (Expr.ListComp elt gs scope pos).pos.line && !(scope.names.any fun (n, k) => n == y && (k == .local || k == .cell))) = false := by
    rw [hk, hl]
    unfold swLc at h
    show (env.blockKind == .function && lclB sc y && py.line == pos.line && !(scope.names.any fun (n, k) => n == y && (k == .local || k == .cell))) = false
    cases h3 : (env.blockKind == ScopeKind.function) with
    | false => rfl
    | true => simpa using h
  exact congrArg pure key
theorem sw_falseD {kx vx : Expr} {gs : List Comprehension} {scope : Scope} {pos py : Pos} {y : Str} {l : Nat} {env : PySem.Env} {sc : Scope} (h1 : env.scope = sc) (h : swLc sc y py scope pos = false) : swapsWith (.DictComp kx vx gs scope pos) (some (.Name y py)) l env = pure false := by
  unfold swapsWith
  simp only
  have hk : env.kindOf y = sc.names.lookup y := by unfold Env.kindOf; rw [h1]
  have hl : (sc.names.lookup y == some NameKind.local) = lclB sc y := by
    unfold lclB
    cases sc.names.lookup y with
    | none => rfl
    | some k => cases k <;> rfl
  have key : (env.blockKind == .function && env.kindOf y == some .local && py.line == (Expr.DictComp kx vx gs scope pos).pos.line && !(scope.names.any fun (n, k) => n == y && (k == .local || k == .cell))) = false := by
    rw [hk, hl]
    unfold swLc at h
    show (env.blockKind == .function && lclB sc y && py.line == pos.line && !(scope.names.any fun (n, k) => n == y && (k == .local || k == .cell))) = false
    cases h3 : (env.blockKind == ScopeKind.function) with
    | false => rfl
    | true => simpa using h
  exact congrArg pure key
section
variable (C : Cs)
def kExpr (f : Ck) : Cs2 := fun sc fb st => match st with
  | .Expr x _ => notComp x && f sc fb x
  | _ => false
def nameB (sc : Scope) (fb : Str → Bool) (i : Nat) (x : Str) : Bool := decide (C.N[i]? = some x) && locB sc x && (fb x || lclB sc x)
def kAsg (i : Nat) (f : Ck) : Cs2 := fun sc fb st => match st with
  | .Assign [.Name x q] v _ => nameB C sc fb i x && f sc fb v && (notComp v || (match v with
    | .ListComp _ _ scope p => !swLc sc x q scope p
    | .DictComp _ _ _ scope p => !swLc sc x q scope p
    | _ => false))
  | _ => false
/-- y = [..] -/
def kAsgLc (i : Nat) (f : Ck) : Cs2 := fun sc fb st => match st with
  | .Assign [.Name x q] v _ => nameB C sc fb i x && f sc fb v && (match v with
    | .ListComp _ [⟨_, _, _, _⟩] scope p => swLc sc x q scope p
    | _ => false)
  | _ => false
def kSetT (ts : List Tg) (f : Ck) : Cs2 := fun sc fb st => match st with
  | .Assign [.Tuple es _ _] v _ => chkTs C.N sc fb ts es && f sc fb v && notTupE v
  | _ => false
def namesB (sc : Scope) (fb : Str → Bool) : List (Nat × Bool) → List Expr → Bool
  | [], [] => true
  | (i, _) :: is, .Name x _ :: es => nameB C sc fb i x && namesB sc fb is es
  | _, _ => false
def kPar2 (i j : Nat) (n : Nat) (f : CkL) : Cs2 := fun sc fb st => match st with
  | .Assign [.Tuple [.Name x _, .Name y _] _ _] (.Tuple [a, b] _ _) _ => nameB C sc fb i x && nameB C sc fb j y && decide (i ≠ j) && lclB sc x && lclB sc y && f sc fb [a, b] && decide (n = 2)
  | _ => false
def kPar (is : List (Nat × Bool)) (n : Nat) (f : CkL) : Cs2 := fun sc fb st => match st with
  | .Assign [.Tuple ts _ _] (.Tuple vs _ _) _ => match swB sc ts vs with
    | some none => namesB C sc fb is ts && f sc fb vs && decide (n ≤ 1000) && decide (is.length = n)
    | some (some ns) => match ts, vs, is with
      | [.Name x _, .Name y _], [_, _], [(i, _), (j, _)] => decide (ns = [x, y]) && nameB C sc fb i x && nameB C sc fb j y && decide (i ≠ j) && lclB sc x && lclB sc y && f sc fb vs && decide (n = 2)
      | _, _, _ => false
    | none => false
  | _ => false
def kApp (i : Nat) (f : Ck) : Cs2 := fun sc fb st => match st with
  | .Expr (.Call (.Attribute (.Name x _) m apos) [y] [] cpos) _ => decide (C.N[i]? = some x) && visB sc x && okName x && decide (m = "append") && notStar y && (apos.endLine == cpos.line) && f sc fb y
  | _ => false
def kRem (i : Nat) (f : Ck) : Cs2 := fun sc fb st => match st with
  | .Expr (.Call (.Attribute (.Name x _) m apos) [y] [] cpos) _ => decide (C.N[i]? = some x) && visB sc x && okName x && decide (m = "remove") && notStar y && (apos.endLine == cpos.line) && f sc fb y
  | _ => false
def kPut (i : Nat) (f g : Ck) : Cs2 := fun sc fb st => match st with
  | .Assign [.Subscript (.Name x _) j _] v _ => decide (C.N[i]? = some x) && visB sc x && okName x && notSlice j && f sc fb j && g sc fb v
  | _ => false
def kPut2 (i1 : Nat) (f1 : Ck) (i2 : Nat) (f2 : Ck) (f : CkL) : Cs2 := fun sc fb st => match st with
  | .Assign [.Tuple ts _ _] (.Tuple vs _ _) _ => match swB sc ts vs with
    | some none => match ts with
      | [.Subscript (.Name x1 _) j1 _, .Subscript (.Name x2 _) j2 _] => decide (C.N[i1]? = some x1) && visB sc x1 && okName x1 && decide (C.N[i2]? = some x2) && visB sc x2 && okName x2 && notSlice j1 && notSlice j2 && f1 sc fb j1 && f2 sc fb j2 && f sc fb vs
      | _ => false
    | _ => false
  | _ => false
def kRet (f : Ck) : Cs2 := fun sc fb st => match st with
  | .Return (some x) _ => f sc fb x
  | _ => false
def kRetN : Cs2 := fun _ _ st => match st with
  | .Return none _ => true
  | _ => false
def kIf (f : Ck) (g h : CsL) : Cs2 := fun sc fb st => match st with
  | .If x a b _ => f sc fb x && g sc fb a && h sc fb b
  | _ => false
def kFor (t : Tg) (k : Sk) (f : CkL) (g : CsL) : Cs2 := fun sc fb st => match st with
  | .For tg iter body [] _ => (match srcE C sc tg k iter with | some xs => f sc fb xs | none => false) && notSet iter && chkT C.N sc fb t tg && g sc fb body
  | _ => false
def kWhile (f : Ck) (g : CsL) : Cs2 := fun sc fb st => match st with
  | .While x body [] _ => f sc fb x && g sc fb body
  | _ => false
def kPass : Cs2 := fun _ _ st => match st with
  | .Pass _ => true
  | _ => false
def kBrk : Cs2 := fun _ _ st => match st with
  | .Break _ => true
  | _ => false
def kCnt : Cs2 := fun _ _ st => match st with
  | .Continue _ => true
  | _ => false
def kSetx (i : Nat) (f : Ck) : Cs2 := fun sc fb st => match st with
  | .Assign [.Name x _] v _ => nameB C sc fb i x && f sc fb v
  | _ => false
def kExprx (f : Ck) : Cs2 := fun sc fb st => match st with
  | .Expr x _ => f sc fb x
  | _ => false
def kRaise (c : Nat) : Cs2 := fun sc _ st => match st with
  | .Raise (some (.Call (.Name x _) [] [] _)) none _ => decide (C.xs[c]? = some x) && gloB sc x && okName x
  | _ => false
def kTry (b : TB) (hs : List Hd) : Cs2 := fun sc fb st => match st with
  | .Try [st] (hd :: hds) [] [] _ => chkTB C b sc fb st && hdsB C sc fb hs (hd :: hds)
  | _ => false
mutual
def chkS : S → Cs2
  | .bad => fun _ _ _ => true
  | .setx i _ e => kSetx C i (chkX C e)
  | .exprx e => kExprx (chkX C e)
  | .retx e => kRet (chkX C e)
  | .raise c => kRaise C c
  | .tryx b hs => kTry C b hs
  | .expr e => kExpr (chkE C e)
  | .set i _ e => match e with
    | .lc own t k src tests elt => fun sc fb st => kAsg C i (chkE C (.lc own t k src tests elt)) sc fb st || kAsgLc C i (chkE C (.lc own t k src tests elt)) sc fb st
    | e => kAsg C i (chkE C e)
  | .setT t e => match t with
    | .tp ts => kSetT C ts (chkE C e)
    | _ => fun _ _ _ => false
  | .par is es => kPar C is es.length (chkL C es)
  | .app i e => kApp C i (chkE C e)
  | .rem i e => kRem C i (chkE C e)
  | .ext _ _ => fun _ _ _ => false
  | .put i j e => kPut C i (chkE C j) (chkE C e)
  | .put2 i1 j1 i2 j2 es => kPut2 C i1 (chkE C j1) i2 (chkE C j2) (chkL C es)
  | .ret e => kRet (chkE C e)
  | .retN => kRetN
  | .iff c a b => kIf (chkE C c) (chkB a) (chkB b)
  | .for t k src body => kFor C t k (chkL C src) (chkB body)
  | .while c body => kWhile (chkE C c) (chkB body)
  | .pass => kPass
  | .brk => kBrk
  | .cnt => kCnt
def chkB : List S → CsL
  | [] => fun _ _ xs => xs.isEmpty
  | s :: r => fun sc fb xs => match xs with
    | [] => false
    | x :: xs => chkS s sc fb x && chkB r sc fb xs
end
end
end Ra


set_option Elab.async false
set_option linter.all false
set_option autoImplicit false
set_option maxRecDepth 100000
/-! statements and defs that are checked are sound -/
namespace Ra
open PySem PySem.Spec PyProof.Rows L2
abbrev SS (C : Cs) (call : Call) (f : Cs2) (x : EX) : Prop := ∀ (st : Stmt) (sc : Scope) (fb : Str → Bool) (X : Cx) (Z : Zx), GooS C call sc fb X Z → f sc fb st = true → PS X st (tS X.K Z x)
abbrev SB (C : Cs) (call : Call) (f : CsL) (x : EX) : Prop := ∀ (st : List Stmt) (sc : Scope) (fb : Str → Bool) (X : Cx) (Z : Zx), GooS C call sc fb X Z → f sc fb st = true → PSs X st (tS X.K Z x)
section
variable {C : Cs} {call : Call}
theorem name_ok {X : Cx} {sc : Scope} {fb : Str → Bool} (G : Goo C call sc fb X) {i : Nat} {x : Str} (h : nameB C sc fb i x = true) : X.N[i]? = some x ∧ L2.Loc X.env.scope x ∧ (X.fn x = true ∨ X.env.scope.names.lookup x = some .local) := by
  unfold nameB at h
  simp only [Bool.and_eq_true, decide_eq_true_eq] at h
  refine ⟨by rw [G.N]; exact h.1.1, loc_ok G h.1.2, ?_⟩
  rcases Bool.or_eq_true_iff.mp h.2 with q | q
  · exact .inl (by rw [G.fn]; exact q)
  · exact .inr (lcl_ok G q)
theorem x_expr {f : Ck} {p : P} (hf : SE C call f p) : SS C call (kExpr f) (fun env m => (p.v env m).noX.bind fun _ m1 => .ok (.next env) m1) := by
  intro st sc fb X Z GS h
  have G := GS.goo
  unfold kExpr at h
  split at h
  · obtain ⟨h1, h2⟩ := Bool.and_eq_true_iff.mp h
    exact ps_exprR (hf _ sc fb X G h2).1 (not_swaps h1 _ _ _)
  · cases h
theorem x_asg {f : Ck} {p : P} (i : Nat) (c : Bool) (hf : SE C call f p) : SS C call (kAsg C i f) (xSet i c p) := by
  intro st sc fb X Z GS h
  have G := GS.goo
  unfold kAsg at h
  split at h
  · simp only [Bool.and_eq_true] at h
    obtain ⟨⟨h1, h2⟩, h3⟩ := h
    obtain ⟨a, b, d⟩ := name_ok G h1
    refine ps_setR (by rw [G.N]; exact G.nd) a b d (hf _ sc fb X G h2).1 ?_
    rcases Bool.or_eq_true_iff.mp h3 with q | q
    · exact not_swaps q _ _ _
    · split at q
      · exact sw_false G.hsc (by simpa using q)
      · exact sw_falseD G.hsc (by simpa using q)
      · cases q
  · cases h
theorem x_asgLc {f g : CkL} {hh : Ck} {src tests : List P} {elt : P} (i : Nat) (c : Bool) (own : List Nat) (t : Tg) (k : Sk) (hf : SL C call f src) (hg : SL C call g tests) (he : SE C call hh elt) : SS C call (kAsgLc C i (kLc C own t k f g hh)) (xSet i c (ofV (cLc own t k src tests elt))) := by
  intro st sc fb X Z GS h
  have G := GS.goo
  unfold kAsgLc at h
  split at h
  · rename_i xx qq vv spos
    simp only [Bool.and_eq_true] at h
    obtain ⟨⟨h1, h2⟩, h3⟩ := h
    obtain ⟨a, b, d⟩ := name_ok G h1
    split at h3
    · rename_i el tg iter ifs asy scope pos
      obtain ⟨k0, k1, k2, k3, k4, k5, k6⟩ := lc_facts G hf hg he h2
      subst k0
      unfold swLc at h3
      simp only [Bool.and_eq_true, Bool.not_eq_true'] at h3
      have hl := lcl_ok G h3.1.1
      have q := ps_setLcR (Z := Z) (pos := pos) (spos := spos) (c := c) G.calm (by rw [G.N]; exact G.nd) a hl (sw_true (by rw [G.hsc]; exact G.kind) hl h3.1.2 h3.2) k1 k2 (fun s H a cl fp => (k6 s H a cl fp).1) (fun s H a cl fp => (k6 s H a cl fp).2.1) (fun s H a cl fp => (k6 s H a cl fp).2.2) k3 k4
      rw [k5] at q
      exact q
    · cases h3
  · cases h
theorem x_setT {f : Ck} {p : P} (ts : List Tg) (hf : SE C call f p) : SS C call (kSetT C ts f) (xSetT (.tp ts) p) := by
  intro st sc fb X Z GS h
  have G := GS.goo
  unfold kSetT at h
  split at h
  · simp only [Bool.and_eq_true] at h
    obtain ⟨⟨h1, h2⟩, h3⟩ := h
    obtain ⟨a, b, c⟩ := soundTs G ts _ h1
    exact ps_setTR (pg_tupR G.calm a b c) (hf _ sc fb X G h2).1 (tup_stores h3) tup_swaps
  · cases h
theorem names_ok {X : Cx} {sc : Scope} {fb : Str → Bool} (G : Goo C call sc fb X) : ∀ {is : List (Nat × Bool)} {es : List Expr}, namesB C sc fb is es = true → PGs X es (gSets is) ∧ es.all notStar = true ∧ es.length = is.length
  | [], [], _ => ⟨pgs_nil, rfl, rfl⟩
  | [], _ :: _, h => by simp [namesB] at h
  | (i, c) :: is, [], h => by simp [namesB] at h
  | (i, c) :: is, e :: es, h => by
    cases e with
    | Name x q =>
      simp only [namesB, Bool.and_eq_true] at h
      obtain ⟨a, b, d⟩ := name_ok G h.1
      obtain ⟨k1, k2, k3⟩ := names_ok G h.2
      exact ⟨pgs_cons (pg_name (by rw [G.N]; exact G.nd) a b d) k1 rfl, by simp [notStar, k2], by simp [k3]⟩
    | _ => simp [namesB] at h
theorem AllP.par {X : Cx} : ∀ {es : List Expr} {ps : List P}, AllP X es ps → ∀ {is : List (Nat × Bool)}, is.length = ps.length → PA X es (tPv X.K is ps)
  | _, _, .nil, [], _ => pa_par_nil
  | _, _, .nil, _ :: _, h => by simp at h
  | _, _, .cons _ _ _ _, [], h => by simp at h
  | _, _, .cons a b c d, (i, cc) :: is, h => pa_par_cons a (d.par (by simpa using h)) c
theorem x_par {f : CkL} {ps : List P} {n : Nat} (is : List (Nat × Bool)) (hf : SL C call f ps) (hn : ps.length = n) : SS C call (kPar C is n f) (xPar is ps) := by
  intro st sc fb X Z GS h
  have G := GS.goo
  unfold kPar at h
  split at h
  · split at h
    · rename_i hsw
      simp only [Bool.and_eq_true, decide_eq_true_eq] at h
      obtain ⟨⟨⟨h1, h2⟩, h3⟩, h4⟩ := h
      obtain ⟨a, b, c⟩ := names_ok G h1
      have ha := hf _ sc fb X G h2
      exact ps_parNR G.calm a b c (by rw [ha.len, hn]; exact h3) (ha.par (by rw [hn]; exact h4)) (by rw [h4]; exact h3) (sw_ok G.hsc G.kind hsw)
    · rename_i ns hsw
      split at h
      · simp only [Bool.and_eq_true, decide_eq_true_eq] at h
        obtain ⟨⟨⟨⟨⟨⟨⟨h0, h1⟩, h2⟩, h3⟩, h4⟩, h5⟩, h6⟩, h7⟩ := h
        subst h0
        obtain ⟨a1, a2, a3⟩ := name_ok G h1
        obtain ⟨b1, b2, b3⟩ := name_ok G h2
        have ha := hf _ sc fb X G h6
        exact ps_par2R G.calm (by rw [G.N]; exact G.nd) a1 b1 h3 (lcl_ok G h4) (lcl_ok G h5) (ha.par (by rw [hn, h7]; rfl)) (sw_ok G.hsc G.kind hsw)
      · cases h
    · cases h
  · cases h
theorem x_app {f : Ck} {p : P} (i : Nat) (hf : SE C call f p) : SS C call (kApp C i f) (xApp i p) := by
  intro st sc fb X Z GS h
  have G := GS.goo
  unfold kApp at h
  split at h
  · simp only [Bool.and_eq_true, decide_eq_true_eq] at h
    obtain ⟨⟨⟨⟨⟨⟨h1, h2⟩, h3⟩, h4⟩, h5⟩, h6⟩, h7⟩ := h
    obtain ⟨o1, o2, o3⟩ := okName_ok h3
    subst h4
    exact ps_appR (by rw [G.N]; exact h1) (vis_ok G h2) o1 o2 (hf _ sc fb X G h7).1 h5 h6
  · cases h
theorem x_rem {f : Ck} {p : P} (i : Nat) (hf : SE C call f p) : SS C call (kRem C i f) (xRem i p) := by
  intro st sc fb X Z GS h
  have G := GS.goo
  unfold kRem at h
  split at h
  · simp only [Bool.and_eq_true, decide_eq_true_eq] at h
    obtain ⟨⟨⟨⟨⟨⟨h1, h2⟩, h3⟩, h4⟩, h5⟩, h6⟩, h7⟩ := h
    obtain ⟨o1, o2, o3⟩ := okName_ok h3
    subst h4
    exact ps_remR G.units (by rw [G.N]; exact h1) (vis_ok G h2) o1 o2 (hf _ sc fb X G h7).1 h5 h6
  · cases h
theorem x_put2 {f1 f2 : Ck} {f : CkL} {p1 p2 : P} {ps : List P} (i1 i2 : Nat) (h1 : SE C call f1 p1) (h2 : SE C call f2 p2) (hf : SL C call f ps) : SS C call (kPut2 C i1 f1 i2 f2 f) (xPut2 i1 p1 i2 p2 ps) := by
  intro st sc fb X Z GS h
  have G := GS.goo
  unfold kPut2 at h
  split at h
  · split at h
    · rename_i hsw
      split at h
      · simp only [Bool.and_eq_true, decide_eq_true_eq] at h
        obtain ⟨⟨⟨⟨⟨⟨⟨⟨⟨⟨a1, a2⟩, a3⟩, b1⟩, b2⟩, b3⟩, c1⟩, c2⟩, d1⟩, d2⟩, d3⟩ := h
        obtain ⟨o1, o2, o3⟩ := okName_ok a3
        obtain ⟨u1, u2, u3⟩ := okName_ok b3
        exact ps_put2R G.calm (by rw [G.N]; exact a1) (vis_ok G a2) o1 o2 (by rw [G.N]; exact b1) (vis_ok G b2) u1 u2 (hf _ sc fb X G d3).items (h1 _ sc fb X G d1).1 (h2 _ sc fb X G d2).1 c1 c2 (sw_ok G.hsc G.kind hsw)
      · cases h
    · cases h
  · cases h
theorem x_put {f g : Ck} {pj p : P} (i : Nat) (hf : SE C call f pj) (hg : SE C call g p) : SS C call (kPut C i f g) (xPut i pj p) := by
  intro st sc fb X Z GS h
  have G := GS.goo
  unfold kPut at h
  split at h
  · simp only [Bool.and_eq_true, decide_eq_true_eq] at h
    obtain ⟨⟨⟨⟨⟨h1, h2⟩, h3⟩, h4⟩, h5⟩, h6⟩ := h
    obtain ⟨o1, o2, o3⟩ := okName_ok h3
    exact ps_putR (by rw [G.N]; exact h1) (vis_ok G h2) o1 o2 (hg _ sc fb X G h6).1 (hf _ sc fb X G h5).1 h4 sub_swaps sub_stores
  · cases h
theorem x_ret {f : Ck} {p : P} (hf : SE C call f p) : SS C call (kRet f) (xRet p) := by
  intro st sc fb X Z GS h
  have G := GS.goo
  unfold kRet at h
  split at h
  · exact ps_retR (hf _ sc fb X G h).1
  · cases h
theorem x_if {f : Ck} {g k : CsL} {p : P} {a b : EX} (hf : SE C call f p) (hg : SB C call g a) (hk : SB C call k b) : SS C call (kIf f g k) (xIf p a b) := by
  intro st sc fb X Z GS h
  have G := GS.goo
  unfold kIf at h
  split at h
  · simp only [Bool.and_eq_true] at h
    obtain ⟨⟨h1, h2⟩, h3⟩ := h
    exact ps_ifR (hf _ sc fb X G h1).2 (hg _ sc fb X Z GS h2) (hk _ sc fb X Z GS h3)
  · cases h
theorem x_for {f : CkL} {g : CsL} {ps : List P} {b : EX} (t : Tg) (k : Sk) (hf : SL C call f ps) (hg : SB C call g b) : SS C call (kFor C t k f g) (xFor t k ps b) := by
  intro st sc fb X Z GS h
  have G := GS.goo
  unfold kFor at h
  split at h
  · simp only [Bool.and_eq_true] at h
    obtain ⟨⟨⟨h1, h2⟩, h3⟩, h4⟩ := h
    split at h1
    · rename_i xs hx
      exact ps_forR GS.wx.choose_spec.2.po G.calm (src_ok G hx (hf _ sc fb X G h1)) (soundT G t _ h3) (hg _ sc fb X Z GS h4) h2
    · cases h1
  · cases h
theorem x_while {f : Ck} {g : CsL} {p : P} {b : EX} (n : Nat) (hf : SE C call f p) (hg : SB C call g b) : SS C call (kWhile f g) (whileLoop p b n) := by
  intro st sc fb X Z GS h
  have G := GS.goo
  unfold kWhile at h
  split at h
  · simp only [Bool.and_eq_true] at h
    exact ps_whileR GS.wx.choose_spec.2.po (hf _ sc fb X G h.1).2 (hg _ sc fb X Z GS h.2)
  · cases h
variable (wf : Nat)
mutual
theorem soundS : ∀ s : S, SS C call (chkS C s) (exS call wf s)
  | .bad => fun st sc fb X Z GS h => ps_badR st
  | .expr e => x_expr (soundE e)
  | .setx i c e => fun st sc fb X Z GS h => by
    obtain ⟨E, rfl, A⟩ := GS.wx
    have h' : kSetx C i (chkX C e) sc fb st = true := h
    unfold kSetx at h'
    split at h'
    · simp only [Bool.and_eq_true] at h'
      have h1 := h'.1
      unfold nameB at h1
      simp only [Bool.and_eq_true, decide_eq_true_eq] at h1
      exact ps_setxR GS.goo A.tk h1.1.1 h1.1.2 h1.2 h'.2
    · cases h'
  | .exprx e => fun st sc fb X Z GS h => by
    obtain ⟨E, rfl, A⟩ := GS.wx
    have h' : kExprx (chkX C e) sc fb st = true := h
    unfold kExprx at h'
    split at h'
    · exact ps_exprxR GS.goo A.tk h'
    · cases h'
  | .retx e => fun st sc fb X Z GS h => by
    obtain ⟨E, rfl, A⟩ := GS.wx
    have h' : kRet (chkX C e) sc fb st = true := h
    unfold kRet at h'
    split at h'
    · exact ps_retxR GS.goo A.tk h'
    · cases h'
  | .raise c => fun st sc fb X Z GS h => by
    obtain ⟨E, rfl, A⟩ := GS.wx
    have h' : kRaise C c sc fb st = true := h
    unfold kRaise at h'
    split at h'
    · simp only [Bool.and_eq_true, decide_eq_true_eq] at h'
      exact ps_raiseR GS.goo A.tk h'.1.1 h'.1.2 h'.2
    · cases h'
  | .tryx b hd => fun st sc fb X Z GS h => by
    obtain ⟨E, rfl, A⟩ := GS.wx
    have h' : kTry C b hd sc fb st = true := h
    unfold kTry at h'
    split at h'
    · simp only [Bool.and_eq_true] at h'
      exact ps_tryR GS.goo A h'.1 h'.2
    · cases h'
  | .set i c e => by
    cases e with
    | lc own t k src tests elt =>
      intro st sc fb X Z GS h
      rcases Bool.or_eq_true_iff.mp h with h | h
      · exact x_asg i c (soundE (.lc own t k src tests elt)) st sc fb X Z GS h
      · exact x_asgLc i c own t k (soundL src) (soundL tests) (soundE elt) st sc fb X Z GS h
    | _ => exact x_asg i c (soundE _)
  | .setT t e => by
    cases t with
    | tp ts => exact x_setT ts (soundE e)
    | nm i => exact fun st sc fb X Z GS h => by cases h
  | .par is es => x_par is (soundL es) (sems_len es)
  | .app i e => x_app i (soundE e)
  | .rem i e => x_rem i (soundE e)
  | .ext _ _ => fun st sc fb X Z GS h => by cases h
  | .put i j e => x_put i (soundE j) (soundE e)
  | .put2 i1 j1 i2 j2 es => x_put2 i1 i2 (soundE j1) (soundE j2) (soundL es)
  | .ret e => x_ret (soundE e)
  | .retN => fun st sc fb X Z GS h => by
    have h' : kRetN sc fb st = true := h
    unfold kRetN at h'
    split at h'
    · exact ps_retNR
    · cases h'
  | .iff c a b => x_if (soundE c) (soundB a) (soundB b)
  | .for t k src body => x_for t k (soundL src) (soundB body)
  | .while c body => x_while wf (soundE c) (soundB body)
  | .pass => fun st sc fb X Z GS h => by
    have h' : kPass sc fb st = true := h
    unfold kPass at h'
    split at h'
    · exact ps_passR
    · cases h'
  | .brk => fun st sc fb X Z GS h => by
    have h' : kBrk sc fb st = true := h
    unfold kBrk at h'
    split at h'
    · exact ps_brkR
    · cases h'
  | .cnt => fun st sc fb X Z GS h => by
    have h' : kCnt sc fb st = true := h
    unfold kCnt at h'
    split at h'
    · exact ps_cntR
    · cases h'
theorem soundB : ∀ b : List S, SB C call (chkB C b) (exB call wf b)
  | [] => fun xs sc fb X Z GS h => by
    cases xs with
    | nil => exact pss_nilR
    | cons _ _ => cases h
  | s :: r => fun xs sc fb X Z GS h => by
    cases xs with
    | nil => cases h
    | cons x xs =>
      have h' : (chkS C s sc fb x && chkB C r sc fb xs) = true := h
      obtain ⟨h1, h2⟩ := Bool.and_eq_true_iff.mp h'
      exact pss_consR (soundS s x sc fb X Z GS h1) (soundB r xs sc fb X Z GS h2)
end
end
end Ra


set_option Elab.async false
set_option linter.all false
set_option autoImplicit false
set_option maxRecDepth 100000
/-! a table of defs -/
namespace Ra
open PySem PySem.Spec PyProof.Rows L2
/-- a def of the text beside its term -/
structure Df where
  name : Str
  ps : List Str
  N : List Str
  params : Arguments
  body : List Stmt
  scope : Scope
  fn : List S
  /-- calls by names in another order: the names, the places -/
  kws : List (List Str × List Nat) := []
def Df.fnT (d : Df) : Fn := ⟨d.N.length, d.ps.length, d.fn⟩
def ndB : List Str → Bool
  | [] => true
  | x :: r => !r.contains x && ndB r
theorem nd_ok : ∀ {l : List Str}, ndB l = true → l.Nodup
  | [], _ => .nil
  | x :: r, h => by
    obtain ⟨h1, h2⟩ := Bool.and_eq_true_iff.mp (show (!r.contains x && ndB r) = true from h)
    exact List.nodup_cons.mpr ⟨by simpa using h1, nd_ok h2⟩
def scB (N ps : List Str) (sc : Scope) : Bool :=
  (match sc.kind with | .function => true | _ => false) && !sc.isCoroutine && !sc.isGenerator && ndB N && decide (N.take ps.length = ps) && ps.all (fun x => locB sc x) && sc.names.all (fun y => match y.2 with | .free => false | _ => true)
theorem sc_ok {N ps : List Str} {sc : Scope} (h : scB N ps sc = true) : FnScope N ps sc := by
  unfold scB at h
  simp only [Bool.and_eq_true, Bool.not_eq_true', decide_eq_true_eq, List.all_eq_true] at h
  obtain ⟨⟨⟨⟨⟨⟨h1, h2⟩, h3⟩, h4⟩, h5⟩, h6⟩, h7⟩ := h
  refine ⟨?_, h2, h3, nd_ok h4, h5, fun x hx => ?_, fun y hy e => ?_⟩
  · split at h1
    · assumption
    · cases h1
  · have q := h6 x hx
    unfold locB at q
    split at q
    · rename_i e; exact .inl e
    · rename_i e; exact .inr e
    · cases q
  · have q := h7 y hy
    rw [e] at q
    cases q
def csOf (D : List Df) (free : List Str) (glo : List (Str × PyData)) (xs : List Str) (N : List Str) : Cs := ⟨N, D.map fun d => (d.name, d.ps, d.kws), free, glo, xs⟩
def kwOk (ps : List Str) (q : List Str × List Nat) : Bool := decide (q.1.length = ps.length) && decide (q.2.length = ps.length) && q.2.all fun j => decide (j < ps.length)
theorem kwOk_ok {ps : List Str} {q : List Str × List Nat} (h : kwOk ps q = true) : q.1.length = ps.length ∧ q.2.length = ps.length ∧ ∀ j ∈ q.2, j < ps.length := by
  unfold kwOk at h
  simp only [Bool.and_eq_true, decide_eq_true_eq, List.all_eq_true] at h
  exact ⟨h.1.1, h.1.2, fun j hj => h.2 j hj⟩
def dfB (D : List Df) (free : List Str) (glo : List (Str × PyData)) (xs : List Str) (d : Df) : Bool := scB d.N d.ps d.scope && decide (d.ps.length ≤ d.N.length) && chkB (csOf D free glo xs d.N) d.fn d.scope (fun _ => true) d.body && d.kws.all (kwOk d.ps)
/-- what must be known of an error's class -/
structure XcK (K : PySem.W.Frag) (mg : Str → Option Value) (xs : List Str) (c : Nat) (n : Str) : Prop where
  ex : ∃ C : Addr, mg n = some (.ref C) ∧ PySem.W.excIn K C He.veBase "ValueError.__new__" = true ∧ PySem.W.keepIn K (.ref C) = true ∧ PySem.W.subIn K (.ref C) (.type "BaseException") = some true ∧ PySem.W.typeIn K (.ref C) = some (.type "type") ∧ ExcC K C ∧ PySem.W.kitOne K (.ref C) (.type "ValueError") = some true ∧
    ∀ (c' : Nat) (n' : Str), xs[c']? = some n' → ∃ C' : Addr, mg n' = some (.ref C') ∧ PySem.W.exmOne K (.ref C) (.ref C') = some (decide (c = c'))
theorem tab_ok {P : Program} {w : World} {K : PySem.W.Frag} {mg : Str → Option Value} {base : Heap} {D : List Df} {free : List Str} {glo : List (Str × PyData)} {xs : List Str} {wf : Nat} (f : Nat → Addr) (fd : Nat → FuncData)
    (hF : ∀ i d, D[i]? = some d → FunD K d.name d.name d.params d.body d.scope [] [] (f i) (fd i) ∧ mg d.name = some (.ref (f i)) ∧ Binds K (fd i) d.ps [] ∧ (∀ q ∈ d.kws, ∀ (s : Shared) (ws : List Value), ws.length = d.ps.length → BindsTo s (fd i) ⟨[], q.1.zip ws⟩ (d.ps.zip (pick q.2 ws))))
    (hfree : ∀ x ∈ free, mg x = none) (hglo : ∀ x d, glo.lookup x = some d → ∃ u v, mg x = some u ∧ RelV v u ∧ flatD d = some v) (hxs : ∀ c n, xs[c]? = some n → XcK K mg xs c n) (hchk : D.all (dfB D free glo xs) = true) :
    ∀ n i d, D[i]? = some d → FnOk P w K mg base (L2.CX P w) n (f i) (fd i) d.ps (spOf K (cvM mg xs) d.ps.length (run (D.map Df.fnT) wf n i)) := by
  intro n
  induction n with
  | zero => exact fun i d hd => fn_zero
  | succ n ih =>
    intro i d hd
    obtain ⟨h1, h2, h3, h4⟩ := hF i d hd
    have hc := List.all_eq_true.mp hchk d (List.mem_of_getElem? hd)
    unfold dfB at hc
    simp only [Bool.and_eq_true, decide_eq_true_eq] at hc
    obtain ⟨⟨⟨c1, c2⟩, c3⟩, c4⟩ := hc
    have S := sc_ok c1
    refine fn_succ (Fb := d.fnT) h1 S (by rw [List.getElem?_map, hd]; rfl) rfl rfl fun X E e1 e2 e3 e4 e5 e6 e7 e8 e9 e10 hr => ?_
    subst e1 e2 e3 e4 e5
    refine soundB (C := csOf D free glo xs d.N) (call := run (D.map Df.fnT) wf n) wf d.fn d.body d.scope (fun _ => true) X _ ⟨?_, E, rfl, e9⟩ c3
    refine ⟨e6, S.kind, e7, S.nd, e8, funext e10, hfree, hglo, fun j x ps pms hj => ?_, fun c n h => ?_, ?_⟩
    · have hj' : (D.map fun d => (d.name, d.ps, d.kws))[j]? = some (x, ps, pms) := hj
      rw [List.getElem?_map] at hj'
      obtain ⟨d', hd', e⟩ := Option.map_eq_some_iff.mp hj'
      cases e
      obtain ⟨k1, k2, k3, k4⟩ := hF j d' hd'
      have hc' := List.all_eq_true.mp hchk d' (List.mem_of_getElem? hd')
      unfold dfB at hc'
      obtain ⟨_, c4'⟩ := Bool.and_eq_true_iff.mp hc'
      refine ⟨f j, fd j, n, k2, k1.kp, k3, fun q hq => ?_, ih j d' hd', hr⟩
      obtain ⟨l1, l2, l3⟩ := kwOk_ok (List.all_eq_true.mp c4' q hq)
      exact ⟨l1, l2, l3, k4 q hq⟩
    · obtain ⟨C, b1, b2, b3, b4, b5, b6, b7, b8⟩ := (hxs c n h).ex
      exact ⟨C, b1, b2, b3, raises_own b4 b5, b6, b7, b8⟩
    · have := hr.un
      omega
/-- no defaults: every parameter is named -/
theorem binds_kw {K : PySem.W.Frag} {x qual : Str} {params : Arguments} {body : List Stmt} {scope : Scope} {kws : List (Str × V)} {f : Addr} {fd : FuncData} {ps ks : List Str} {is : List Nat} (F : FunD K x qual params body scope [] kws f fd)
    (h : ∀ (kV doc pm : Value) (an : Option Addr) (cdv ct : Value) (ws : List Value), ws.length = ps.length → bindArgs (PySem.W.fnOf x qual params body scope .none kV doc pm an cdv ct) ⟨[], ks.zip ws⟩ = pure (ps.zip (pick is ws))) (s : Shared) (ws : List Value) (hl : ws.length = ps.length) : BindsTo s fd ⟨[], ks.zip ws⟩ (ps.zip (pick is ws)) := by
  obtain ⟨oc, od, dV, kV, doc, pm, an, cdv, ct, osl, rfl, lk, hcd, hD, hK⟩ := F.ex
  rcases hD with ⟨_, rfl⟩ | ⟨e, _⟩
  · exact .of_eq (h kV doc pm an cdv ct ws hl)
  · exact absurd rfl e
end Ra


set_option Elab.async false
set_option linter.all false
set_option autoImplicit false
set_option maxRecDepth 100000
/-! the end: a head that knows that no list is its own; the script as data -/
namespace Ra
open PySem PySem.Spec PyProof.Rows L2
def notList (o : Obj) : Bool := match o.cls with
  | .type c => !(c == "list")
  | _ => true
def noL (K : PySem.W.Frag) : Bool := K.all fun p => notList p.2
theorem noL_ok {K : PySem.W.Frag} (h : noL K = true) {a : Addr} {o : Obj} (e : K.lookup a = some o) : o.cls ≠ .type "list" := by
  intro hc
  have hm : ∃ b, (b, o) ∈ K := by
    clear h
    induction K with
    | nil => cases e
    | cons p r ih =>
      obtain ⟨b, x⟩ := p
      rw [List.lookup_cons] at e
      split at e
      · cases e; exact ⟨b, List.mem_cons_self⟩
      · obtain ⟨c, h⟩ := ih e
        exact ⟨c, List.mem_cons_of_mem _ h⟩
  obtain ⟨b, hm⟩ := hm
  have z := List.all_eq_true.mp h _ hm
  unfold notList at z
  rw [hc] at z
  simp at z
/-- what must be so of an error's class -/
def xc1 (K : PySem.W.Frag) (D : Addr) : Bool := PySem.W.excIn K D He.veBase "ValueError.__new__" && PySem.W.keepIn K (.ref D) && decide (PySem.W.subIn K (.ref D) (.type "BaseException") = some true) && decide (PySem.W.typeIn K (.ref D) = some (.type "type")) &&
  He.eqO (PySem.W.findIn K (.ref D) "__getattribute__") (some (some (.builtin "BaseException.__getattribute__"))) && He.eqO (PySem.W.findIn K (.ref D) "__getattr__") (some none) && PySem.W.hasDictIn K D && He.eqO (PySem.W.findIn K (.ref D) "__class__") (some (some (.builtin "object.__class__"))) &&
  He.eqO (PySem.W.specialIn K (.builtin "object.__class__") "__get__") (some (some (.builtin "getset_descriptor.__get__"))) && decide (PySem.W.takesIn K (.builtin "object.__class__") = some true) && decide (PySem.W.mroIn K D (.type "object") = some true) && decide (PySem.W.kitOne K (.ref D) (.type "ValueError") = some true)
def xc2 (K : PySem.W.Frag) (D : Addr) (c : Nat) : Nat → List Str → Bool
  | _, [] => true
  | k, n :: r => decide (PySem.W.exmOne K (.ref D) (.ref (He.ga K n)) = some (decide (c = k))) && xc2 K D c (k + 1) r
theorem xc2_ok {K : PySem.W.Frag} {D : Addr} {c : Nat} : ∀ {k : Nat} {l : List Str}, xc2 K D c k l = true → ∀ (j : Nat) (n : Str), l[j]? = some n → PySem.W.exmOne K (.ref D) (.ref (He.ga K n)) = some (decide (c = k + j))
  | k, [], _, j, n, e => by simp at e
  | k, x :: r, h, j, n, e => by
    obtain ⟨h1, h2⟩ := Bool.and_eq_true_iff.mp (show (decide (PySem.W.exmOne K (.ref D) (.ref (He.ga K x)) = some (decide (c = k))) && xc2 K D c (k + 1) r) = true from h)
    cases j with
    | zero =>
      simp at e
      subst e
      exact of_decide_eq_true h1
    | succ j =>
      have q := xc2_ok h2 j n (by simpa using e)
      rw [q, show k + 1 + j = k + (j + 1) by omega]
def xcsB (K : PySem.W.Frag) (xs : List Str) : Nat → List Str → Bool
  | _, [] => true
  | c, n :: r => xc1 K (He.ga K n) && xc2 K (He.ga K n) c 0 xs && xcsB K xs (c + 1) r
theorem xcsB_ok {K : PySem.W.Frag} {xs : List Str} : ∀ {c : Nat} {l : List Str}, xcsB K xs c l = true → ∀ (j : Nat) (n : Str), l[j]? = some n → xc1 K (He.ga K n) = true ∧ xc2 K (He.ga K n) (c + j) 0 xs = true
  | c, [], _, j, n, e => by simp at e
  | c, x :: r, h, j, n, e => by
    simp only [xcsB, Bool.and_eq_true] at h
    cases j with
    | zero =>
      simp at e
      subst e
      exact h.1
    | succ j =>
      have q := xcsB_ok h.2 j n (by simpa using e)
      rw [show c + 1 + j = c + (j + 1) by omega] at q
      exact q
theorem xck_ok {K : PySem.W.Frag} {mg : Str → Option Value} {xs : List Str} (h : xcsB K xs 0 xs = true) (hm : ∀ n ∈ xs, mg n = some (.ref (He.ga K n))) (c : Nat) (n : Str) (e : xs[c]? = some n) : XcK K mg xs c n := by
  obtain ⟨h1, h2⟩ := xcsB_ok h c n e
  rw [Nat.zero_add] at h2
  unfold xc1 at h1
  simp only [Bool.and_eq_true, decide_eq_true_eq] at h1
  obtain ⟨⟨⟨⟨⟨⟨⟨⟨⟨⟨⟨a1, a2⟩, a3⟩, a4⟩, a5⟩, a6⟩, a7⟩, a8⟩, a9⟩, a10⟩, a11⟩, a12⟩ := h1
  refine ⟨He.ga K n, hm n (List.mem_of_getElem? e), a1, a2, a3, a4, ⟨He.eqO_ok a5, He.eqO_ok a6, a3, a7, He.eqO_ok a8, He.eqO_ok a9, a10, a11⟩, a12, fun c' n' e' => ⟨He.ga K n', hm n' (List.mem_of_getElem? e'), ?_⟩⟩
  have q := xc2_ok h2 c' n' e'
  rw [Nat.zero_add] at q
  exact q
def obN (n : Nat) (fa : List He.Fa) (fn : List He.DefD) (xs : List Str) (g : Addr → Option Obj) : He.AlD × Bool := (He.obsDG n fa fn g, noL (He.frG g (He.asD g n)) && xcsB (He.frG g (He.asD g n)) xs 0 xs)
def hookN (n : Nat) (fa : List He.Fa) (fn : List He.DefD) (xs : List Str) : PySem.W.Hook where
  α := He.AlD × Bool
  obs := fun s => obN n fa fn xs s.heap.get?
  val := fun _ => (He.valD fn, true)
  says := fun _ h => ∃ K : PySem.W.Frag, K.In h ∧ He.SaysD fa fn K ∧ (noL K && xcsB K xs 0 xs) = true
  of := fun _ _ e => ⟨_, He.frG_in, congrArg Prod.fst e, congrArg Prod.snd e⟩
  keeps := fun _ _ _ ⟨K, hK, c⟩ k => ⟨K, PySem.W.Frag.In.keeps hK k, c⟩
theorem obN_eq {n : Nat} {fa : List He.Fa} {fn : List He.DefD} {xs : List Str} {g : Addr → Option Obj} {s : Shared} (h : ∀ a, g a = s.heap.get? a) : obN n fa fn xs g = (hookN n fa fn xs).obs s := by
  rw [show g = s.heap.get? from funext h]
  rfl
/-- the sizes of what is tracked -/
def SzH (H : Hp) : Prop := ∀ a xs, (H a = some (.lst xs) ∨ H a = some (.tup xs) ∨ (∃ o, H a = some (.frz o (.lst xs))) ∨ ∃ o, H a = some (.frz o (.tup xs))) → xs.length ≤ sizeLine
theorem szH {P : Program} {w : World} {H : Hp} {h : Heap} (x : HOk P w H h) : SzH H := by
  intro a xs e
  rcases e with e | e | ⟨o, e⟩ | ⟨o, e⟩
  · exact (x a _ e).1
  · exact (x a _ e).1
  · exact (x a _ e).2.1
  · exact (x a _ e).2.1
theorem fn_sized {P : Program} {w : World} {K : PySem.W.Frag} {mg : Str → Option Value} {base : Heap} {CX : CXT} {k : Nat} {f : Addr} {fd : FuncData} {ps : List Str} {sp : Sp} (F : FnOk P w K mg base CX k f fd ps sp) :
    FnOk P w K mg base CX k f fd ps fun vs H Q E => vs.length = ps.length ∧ (SzH H → sp vs H Q E) :=
  ⟨fun vs H Q E h => h.1, fun A outer s H args us vs Q E hr he hb hv h => F.run A outer s H args us vs Q E hr he hb hv (h.2 (szH he.hok))⟩
theorem ints_all {K : PySem.W.Frag} {F : Addr → Prop} {H : Hp} : ∀ ns : List Int, RpAll K F H (ns.map V.int) (ns.map PyData.int)
  | [] => .nil
  | n :: r => .cons (.int n) (ints_all r)
theorem sp_end {K : PySem.W.Frag} {c : List Val → Mem → Res Val} {H : Hp} {a : Addr} {ns : List Int} {cv : Nat → Value} (hN : noL K = true) (hO : Only H) (hz : SzH H) (hS : SqL K H a (ns.map V.int))
    (h : ∃ m, c [.d (.list (ns.map PyData.int))] [] = .ok (.d (.bool true)) m) : spOf K cv 1 c [.ref a] H (fun v _ => v = .bl true) fun _ _ _ => False := by
  obtain ⟨m, h⟩ := h
  have hR : ∃ o, H a = some (.frz o (.lst (ns.map V.int))) := by
    rcases hS with (e | e) | ⟨o, _, _, e, e2, _⟩
    · rcases hO a with z | ⟨_, _, z⟩ <;> rw [z] at e <;> cases e
    · exact e
    · exact absurd e2 (noL_ok hN e)
  refine ⟨rfl, [.d (.list (ns.map PyData.int))], [], ⟨fun _ => False, [], fun _ => False⟩, ?_, .cons (.lst (.inr hR) (ints_all ns)) (fun _ h => by cases h) .nil, ?_⟩
  · exact ⟨fun _ h => h.elim, rfl, .nil, fun k c b e => by simp at e, hz, fun _ h => h.elim, fun _ h => h.elim, fun _ h => h.elim⟩
  · rw [h]
    intro g' H' e s
    show Ans K _ _ _ _ _
    intro z hz
    cases hz
    rfl
/-! all facts of the head at once -/
def fnOfD (D : List Df) : List He.DefD := D.map fun d => ⟨(d.name, none), d.name, d.name, d.params, d.body, d.scope, [], []⟩
def gloFa : Str × PyData → He.Fa
  | (x, .str z) => .str x z
  | (x, .int i) => .int x i
  | (x, _) => .free x
def faOfD (D : List Df) (free : List Str) (glo : List (Str × PyData)) (xs : List Str) : List He.Fa := D.map (fun d => .glo d.name) ++ (free.map .free ++ (glo.map gloFa ++ xs.map .glo))
/-- how arguments are bound -/
def BndD (d : Df) : Prop := (∀ (x qual : Str) (body : List Stmt) (scope : Scope) (kV doc pm : Value) (an : Option Addr) (cdv ct : Value) (us : List Value), us.length = d.ps.length →
    bindArgs (PySem.W.fnOf x qual d.params body scope .none kV doc pm an cdv ct) ⟨us, []⟩ = pure (d.ps.zip us)) ∧
  (∀ q ∈ d.kws, ∀ (x qual : Str) (body : List Stmt) (scope : Scope) (kV doc pm : Value) (an : Option Addr) (cdv ct : Value) (us : List Value), us.length = d.ps.length →
    bindArgs (PySem.W.fnOf x qual d.params body scope .none kV doc pm an cdv ct) ⟨[], q.1.zip us⟩ = pure (d.ps.zip (pick q.2 us)))
def gloC : List (Str × PyData) → Bool
  | [] => true
  | (_, .str z) :: r => sOk z && gloC r
  | (_, .int _) :: r => gloC r
  | _ => false
theorem gloC_ok : ∀ {glo : List (Str × PyData)}, gloC glo = true → ∀ {x : Str} {d : PyData}, glo.lookup x = some d → ((∃ z, d = .str z ∧ sOk z = true) ∨ ∃ i, d = .int i) ∧ (x, d) ∈ glo
  | [], _, _, _, e => by cases e
  | (y, .str z) :: r, h, x, d, e => by
    rw [List.lookup_cons] at e
    split at e
    · rename_i q
      cases e
      exact ⟨.inl ⟨z, rfl, (Bool.and_eq_true_iff.mp h).1⟩, by rw [eq_of_beq q]; exact List.mem_cons_self⟩
    · obtain ⟨h1, h2⟩ := gloC_ok (glo := r) (Bool.and_eq_true_iff.mp h).2 e
      exact ⟨h1, List.mem_cons_of_mem _ h2⟩
  | (y, .int i) :: r, h, x, d, e => by
    rw [List.lookup_cons] at e
    split at e
    · rename_i q
      cases e
      exact ⟨.inr ⟨i, rfl⟩, by rw [eq_of_beq q]; exact List.mem_cons_self⟩
    · obtain ⟨h1, h2⟩ := gloC_ok (glo := r) h e
      exact ⟨h1, List.mem_cons_of_mem _ h2⟩
  | (y, .none) :: r, h, _, _, _ => by cases h
  | (y, .bool _) :: r, h, _, _, _ => by cases h
  | (y, .list _) :: r, h, _, _, _ => by cases h
  | (y, .tuple _) :: r, h, _, _, _ => by cases h
  | (y, .dict _) :: r, h, _, _, _ => by cases h
/-- what is let out, at some world -/
def CXe (P : Program) : CXT := fun outer H s E u s' => ∃ w : World, L2.CX P w outer H s E u s'
theorem cxe_none {P : Program} {outer : List PySem.Env} {H : Hp} {s : Shared} {e : Value} {s' : Shared} (h : CXe P outer H s (fun _ _ _ => False) e s') : False := by
  obtain ⟨w, a, B, H', cls, d, _, _, _, _, _, _, _, z⟩ := h
  exact z
theorem fn_cxe {P : Program} {w : World} {K : PySem.W.Frag} {mg : Str → Option Value} {base : Heap} {k : Nat} {f : Addr} {fd : FuncData} {ps : List Str} {sp : Sp} (F : FnOk P w K mg base (L2.CX P w) k f fd ps sp) : FnOk P w K mg base (CXe P) k f fd ps sp :=
  ⟨F.len, fun A outer s H args us vs Q E hr he hb hv h => codeAny_mono (F.run A outer s H args us vs Q E hr he hb hv h) fun r s' q => by
    cases r with
    | error e => exact ⟨w, q⟩
    | ok fl =>
      cases fl <;> exact q⟩
theorem head_ok {P : Program} {w : World} {K : PySem.W.Frag} {h : Heap} {mg : Str → Option Value} {D : List Df} {free : List Str} {glo : List (Str × PyData)} {xs : List Str} (wf n : Nat) (X : K.In h) (G : h.Ns mainGlobals mg) (c : He.SaysD (faOfD D free glo xs) (fnOfD D) K) (hxc : xcsB K xs 0 xs = true)
    (hB : ∀ d ∈ D, BndD d) (hg : gloC glo = true) (hchk : D.all (dfB D free glo xs) = true) {l : Nat} {dl : Df} (hl : D[l]? = some dl) {a : Addr} (ha : mg dl.name = some (.ref a)) {x : Str} (hx : dl.ps = [x]) :
    ∃ fd : FuncData, (∀ (s : Shared) (v : Value), BindsTo s fd ⟨[v], []⟩ [(x, v)]) ∧ ∀ base : Heap, FnOk P w K mg base (CXe P) n a fd [x] fun vs H Q E => vs.length = 1 ∧ (SzH H → spOf K (cvM mg xs) 1 (run (D.map Df.fnT) wf n l) vs H Q E) := by
  have hd : ∀ (i : Nat) (d : Df), D[i]? = some d → ∃ fd, FunD K d.name d.name d.params d.body d.scope [] [] (He.ga K d.name) fd := by
    intro i d e
    obtain ⟨fd, F⟩ := c.def_ i (d := ⟨(d.name, none), d.name, d.name, d.params, d.body, d.scope, [], []⟩) (by unfold fnOfD; rw [List.getElem?_map, e]; rfl)
    exact ⟨fd, F⟩
  have hm : ∀ d ∈ D, mg d.name = some (.ref (He.ga K d.name)) := fun d e => He.glo_ok X G (c.facts (f := .glo d.name) (List.mem_append_left _ (List.mem_map_of_mem e)))
  let f : Nat → Addr := fun i => match D[i]? with
    | some d => He.ga K d.name
    | none => 0
  have hf : ∀ (i : Nat) (d : Df), D[i]? = some d → f i = He.ga K d.name := fun i d e => by
    show (match D[i]? with | some d => He.ga K d.name | none => 0) = _
    rw [e]
  classical
  have hex : ∀ i : Nat, ∃ fd : FuncData, ∀ (d : Df), D[i]? = some d → FunD K d.name d.name d.params d.body d.scope [] [] (f i) fd := by
    intro i
    cases e : D[i]? with
    | none => 
      obtain ⟨fd, _⟩ := hd l dl hl
      exact ⟨fd, fun d z => by cases z⟩
    | some d =>
      obtain ⟨fd, F⟩ := hd i d e
      exact ⟨fd, fun d' z => by cases z; rw [hf i d e]; exact F⟩
  let fd : Nat → FuncData := fun i => Classical.choose (hex i)
  have hfd : ∀ (i : Nat) (d : Df), D[i]? = some d → FunD K d.name d.name d.params d.body d.scope [] [] (f i) (fd i) := fun i => Classical.choose_spec (hex i)
  have key : ∀ base : Heap, FnOk P w K mg base (L2.CX P w) n (f l) (fd l) dl.ps (spOf K (cvM mg xs) dl.ps.length (run (D.map Df.fnT) wf n l)) := by
    intro base
    refine tab_ok (D := D) (free := free) (glo := glo) (xs := xs) (wf := wf) f fd (fun i d e => ?_) (fun x e => ?_) (fun x d e => ?_) (xck_ok hxc fun n hn => ?_) hchk n l dl hl
    · have F := hfd i d e
      have B := hB d (List.mem_of_getElem? e)
      exact ⟨F, by rw [hf i d e]; exact hm d (List.mem_of_getElem? e), F.bindsN fun kV doc pm an cdv ct us hu => B.1 _ _ _ _ kV doc pm an cdv ct us hu, fun q hq => binds_kw F fun kV doc pm an cdv ct us hu => B.2 q hq _ _ _ _ kV doc pm an cdv ct us hu⟩
    · exact He.free_ok X G (c.facts (f := .free x) (List.mem_append_right _ (List.mem_append_left _ (List.mem_map_of_mem e))))
    · obtain ⟨hd, hz⟩ := gloC_ok hg e
      rcases hd with ⟨z, rfl, ho⟩ | ⟨i, rfl⟩
      · obtain ⟨t, ht⟩ := He.str_ok X G (x := x) (z := z) (c.facts (f := .str x z) (List.mem_append_right _ (List.mem_append_right _ (List.mem_append_left _ (List.mem_map_of_mem (f := gloFa) hz)))))
        exact ⟨_, .str z, ht, ⟨_, rfl⟩, by simp [flatD, ho]⟩
      · obtain ⟨t, ht⟩ := He.int_ok X G (x := x) (i := i) (c.facts (f := .int x i) (List.mem_append_right _ (List.mem_append_right _ (List.mem_append_left _ (List.mem_map_of_mem (f := gloFa) hz)))))
        exact ⟨_, .int i, ht, ⟨_, rfl⟩, rfl⟩
    · exact He.glo_ok X G (c.facts (f := .glo n) (List.mem_append_right _ (List.mem_append_right _ (List.mem_append_right _ (List.mem_map_of_mem hn)))))
  have e := ha.symm.trans (hm dl (List.mem_of_getElem? hl))
  rw [← hf l dl hl] at e
  cases e
  refine ⟨fd l, fun s v => ?_, fun base => ?_⟩
  · have F := hfd l dl hl
    have B := hB dl (List.mem_of_getElem? hl)
    have z := FunD.bindsA (ps := dl.ps) F (fun kV doc pm an cdv ct us hu => B.1 _ _ _ _ kV doc pm an cdv ct us hu) s [v] (by rw [hx]; rfl)
    rw [hx] at z
    exact z
  · have k := fn_sized (fn_cxe (key base))
    rw [hx] at k
    exact k
end Ra


set_option Elab.async false
set_option linter.all false
set_option maxRecDepth 100000
set_option maxHeartbeats 0
namespace K4
open PySem PySem.Spec PyProof.Rows L2 Ra
def top (i : Nat) : Stmt := PySem.Challenge.pw_reportalike_k04_one_order_for_all_varian.main.body.getD i (.Pass ⟨0, 0, 0, 0⟩)
def b_is_name : List S := [(.ret (.band [(.isi (.var 0) [.str]), (.chain .le .le (.cst (.int 1)) (.bi .len [(.var 0)]) (.cst (.int 8))), (.bi .all [(.lc [1] (.nm 1) .seq [(.var 0)] [] (.cmp .isin (.var 1) (.glo (.str "abcdefghijklmnopqrstuvwxyz"))))])]))]
def b_tupled : List S := [(.ret (.ite (.isi (.var 0) [.list, .tuple]) (.bi .tuple [(.lc [1] (.nm 1) .seq [(.var 0)] [] (.call 1 [(.var 1)]))]) (.var 0)))]
def b_set_of : List S := [(.ret (.bi .tuple [(.bi .sortedset [(.var 0)])]))]
def b_clash : List S := [(.set 2 false (.dc [3, 4] (.tp [(.nm 3), (.nm 4)]) .seq [(.var 0)] [] (.var 3) (.var 4))), (.ret (.bi .any [(.lc [3, 4] (.tp [(.nm 3), (.nm 4)]) .seq [(.var 1)] [] (.cmp .ne (.dget (.var 2) (.var 3) (.var 4)) (.var 4)))]))]
def b_feeds : List S := [(.ret (.cmp .isin (.idx (.var 0) (.cst (.int 3))) (.idx (.var 1) (.cst (.int 2)))))]
def b_goes_ahead : List S := [(.ret (.band [(.call 4 [(.var 0), (.var 1)]), (.not (.call 3 [(.idx (.var 0) (.cst (.int 4))), (.idx (.var 1) (.cst (.int 4)))]))]))]
def b_core_of : List S := [(.set 1 false (.bi .list [(.var 0)])), (.for (.nm 2) .range [(.bi .len [(.var 1)])] [(.set 3 false (.lc [4] (.nm 4) .seq [(.var 1)] [(.bi .any [(.lc [5] (.nm 5) .seq [(.var 1)] [] (.call 5 [(.var 5), (.var 4)]))])] (.var 4))), (.set 1 false (.lc [4] (.nm 4) .seq [(.var 3)] [(.bi .any [(.lc [5] (.nm 5) .seq [(.var 3)] [] (.call 5 [(.var 4), (.var 5)]))])] (.var 4)))]), (.ret (.var 1))]
def b_ring_among : List S := [(.set 1 true (.bi .list [(.slU (.var 0) (.cst (.int 1)))])), (.for (.nm 2) .range [(.bi .len [(.var 0)])] [(.set 3 false (.idx (.lc [4] (.nm 4) .seq [(.var 0)] [(.call 5 [(.idx (.var 1) (.neg (.cst (.int 1)))), (.var 4)])] (.var 4)) (.cst (.int 0)))), (.iff (.cmp .isin (.var 3) (.var 1)) [(.ret (.bi .tuple [(.slL (.var 1) (.lidx 1 (.var 3)))]))] []), (.app 1 (.var 3))]), (.ret (.cst .none))]
def b_names_of : List S := [(.ret (.bi .tuple [(.lc [1] (.nm 1) .seq [(.var 0)] [] (.idx (.var 1) (.cst (.int 0))))]))]
def b_named_row : List S := [(.set 2 false (.dc [3] (.nm 3) .seq [(.call 1 [(.var 0)])] [] (.idx (.var 3) (.cst (.int 0))) (.var 3))), (.iff (.bor [(.not (.isi (.var 1) [.tuple])), (.not (.bi .all [(.lc [4] (.nm 4) .seq [(.var 1)] [] (.band [(.call 0 [(.var 4)]), (.din false (.var 4) (.var 2))]))]))]) [(.ret (.cst .none))] []), (.ret (.ite (.cmp .eq (.bi .len [(.call 2 [(.var 1)])]) (.bi .len [(.var 1)])) (.lc [4] (.nm 4) .seq [(.var 1)] [] (.dat (.var 2) (.var 4))) (.cst .none)))]
def b_goes_round : List S := [(.ret (.band [(.cmp .gt (.bi .len [(.var 0)]) (.cst (.int 0))), (.bi .all [(.lc [1, 2] (.tp [(.nm 1), (.nm 2)]) .zip [(.var 0), (.lstS [true, false] [(.slL (.var 0) (.cst (.int 1))), (.idx (.var 0) (.cst (.int 0)))])] [] (.call 4 [(.var 1), (.var 2)]))])]))]
def b_one_order : List S := [(.par [(1, true), (2, true)] [(.bi .list [(.call 1 [(.var 0)])]), (.lst [])]), (.while (.cmp .gt (.bi .len [(.var 1)]) (.cst (.int 0))) [(.set 3 false (.lc [4] (.nm 4) .seq [(.var 1)] [(.not (.bi .any [(.lc [5] (.nm 5) .seq [(.var 1)] [] (.call 5 [(.var 5), (.var 4)]))]))] (.var 4))), (.iff (.cmp .eq (.bi .len [(.var 3)]) (.cst (.int 0))) [(.raise 0)] []), (.app 2 (.idx (.var 3) (.cst (.int 0)))), (.rem 1 (.idx (.var 3) (.cst (.int 0))))]), (.ret (.call 8 [(.var 2)]))]
def b_is_one_order : List S := [(.set 2 false (.call 9 [(.var 0), (.var 1)])), (.iff (.bor [(.isN (.var 2)), (.cmp .ne (.bi .len [(.var 2)]) (.bi .len [(.var 0)]))]) [(.ret (.cst (.bool false)))] []), (.ret (.not (.bi .any [(.lc2 [4, 5, 3] [3] (.tp [(.nm 4), (.nm 5)]) .enum [(.var 2)] [] (.nm 3) .seq [(.slU (.var 2) (.op .add (.var 4) (.cst (.int 1))))] [] (.call 5 [(.var 5), (.var 3)]))])))]
def b_loose_ring : List S := [(.set 1 false (.call 7 [(.call 6 [(.call 1 [(.var 0)])])])), (.iff (.isN (.var 1)) [(.raise 1)] []), (.ret (.call 8 [(.var 1)]))]
def b_is_loose_ring : List S := [(.set 2 false (.call 9 [(.var 0), (.var 1)])), (.iff (.bor [(.isN (.var 2)), (.not (.call 10 [(.var 2)]))]) [(.ret (.cst (.bool false)))] []), (.ret (.not (.bi .any [(.lc [3, 4] (.tp [(.nm 3), (.nm 4)]) .zip [(.var 2), (.lstS [true, false] [(.slL (.var 2) (.cst (.int 1))), (.idx (.var 2) (.cst (.int 0)))])] [] (.call 3 [(.idx (.var 3) (.cst (.int 4))), (.idx (.var 4) (.cst (.int 4)))]))])))]
def b__law_box : List S := [(.set 2 false (.ite (.cmp .lt (.var 1) (.bi .len [(.var 0)])) (.idx (.var 0) (.var 1)) (.cst (.int 0)))), (.ret (.lst [(.op .mul (.bi .abs [(.var 2)]) (.bi .int [(.cmp .ge (.bi .abs [(.var 2)]) (.op .pow (.cst (.int 10)) (.cst (.int 18))))])), (.op .add (.op .add (.op .mod (.bi .int [(.var 2)]) (.cst (.int 2305843009213693951))) (.op .mul (.cst (.int 39373)) (.var 1))) (.cst (.int 923))), (.cst (.int 0))]))]
def b__law_take : List S := [(.iff (.cmp .gt (.idx (.var 0) (.cst (.int 0))) (.cst (.int 0))) [(.set 5 false (.op .mod (.bi .int [(.idx (.var 0) (.cst (.int 0)))]) (.var 1))), (.put 0 (.cst (.int 0)) (.op .fdiv (.idx (.var 0) (.cst (.int 0))) (.var 1))), (.ret (.var 5))] []), (.put 0 (.cst (.int 2)) (.op .add (.idx (.var 0) (.cst (.int 2))) (.cst (.int 1)))), (.set 2 false (.op .mod (.bi .int [(.op .mul (.op .add (.idx (.var 0) (.cst (.int 1))) (.op .mul (.cst (.int 48271)) (.idx (.var 0) (.cst (.int 2))))) (.op .add (.cst (.int 39373)) (.idx (.var 0) (.cst (.int 2)))))]) (.cst (.int 2147483647)))), (.set 3 false (.op .add (.op .mod (.bi .int [(.var 2)]) (.cst (.int 40009))) (.cst (.int 7)))), (.set 4 false (.op .mod (.bi .int [(.op .mul (.op .add (.op .add (.var 2) (.idx (.var 0) (.cst (.int 2)))) (.op .fdiv (.idx (.var 0) (.cst (.int 1))) (.cst (.int 1000003)))) (.var 3))]) (.cst (.int 2147483629)))), (.ret (.op .mod (.bi .int [(.op .fdiv (.op .mod (.bi .int [(.op .add (.op .mul (.var 4) (.cst (.int 48271))) (.var 2))]) (.cst (.int 2147483587))) (.cst (.int 64)))]) (.var 1)))]
def b__law_cells : List S := [(.set 2 true (.bor [(.bi .list [(.slU (.var 0) (.var 1))]), (.lst [(.cst (.int 0))])])), (.for (.tp [(.nm 3), (.nm 4)]) .enum [(.slLU (.var 0) (.var 1) (.cst (.int 63)))] [(.set 5 false (.op .mod (.bi .int [(.var 3)]) (.var 1))), (.put 2 (.var 5) (.op .add (.idx (.var 2) (.var 5)) (.op .mul (.var 4) (.op .add (.var 3) (.cst (.int 2))))))]), (.ret (.var 2))]
def b__law_of : List S := [(.ret (.idx (.var 1) (.call 16 [(.var 0), (.bi .len [(.var 1)])])))]
def b__law_pick : List S := [(.par [(4, true), (5, true)] [(.bi .list [(.var 1)]), (.lst [])]), (.for (.nm 3) .range [(.bi .min2 [(.var 2), (.bi .len [(.var 4)])])] [(.app 5 (.pop 4 (.call 16 [(.var 0), (.bi .len [(.var 4)])])))]), (.ret (.var 5))]
def b__law_lists : List S := [(.ret (.ite (.isi (.var 0) [.list, .tuple]) (.lc [1] (.nm 1) .seq [(.var 0)] [] (.call 20 [(.var 1)])) (.var 0)))]
def b__law_same : List S := [(.iff (.isi (.var 1) [.list, .tuple]) [(.iff (.bor [(.cmp .ne (.isi (.var 0) [.list]) (.isi (.var 1) [.list])), (.cmp .ne (.isi (.var 0) [.tuple]) (.isi (.var 1) [.tuple]))]) [(.ret (.cst (.bool false)))] []), (.ret (.band [(.cmp .eq (.bi .len [(.var 0)]) (.bi .len [(.var 1)])), (.bi .all [(.lc [3, 4] (.tp [(.nm 3), (.nm 4)]) .zip [(.var 0), (.var 1)] [] (.call 21 [(.var 3), (.var 4)]))])]))] []), (.iff (.isi (.var 1) [.dict]) [(.iff (.bor [(.not (.isi (.var 0) [.dict])), (.cmp .ne (.bi .sorted [(.var 0)]) (.bi .sorted [(.var 1)]))]) [(.ret (.cst (.bool false)))] []), (.ret (.bi .all [(.lc [2] (.nm 2) .seq [(.var 1)] [] (.call 21 [(.idx (.var 0) (.var 2)), (.idx (.var 1) (.var 2))]))]))] []), (.iff (.bor [(.isN (.var 1)), (.isi (.var 1) [.bool, .str])]) [(.ret (.band [(.cmp .eq (.var 0) (.var 1)), (.cmp .eq (.isi (.var 0) [.bool]) (.isi (.var 1) [.bool])), (.cmp .eq (.isN (.var 0)) (.isN (.var 1)))]))] []), (.ret (.band [(.isi (.var 0) [.int]), (.not (.isi (.var 0) [.bool])), (.cmp .eq (.var 0) (.var 1))]))]
def b__law_on : List S := [(.par [(3, true), (4, false)] [(.lst []), (.lst [])]), (.for (.nm 2) .seq [(.var 0)] [(.iff (.cmp .eq (.lc [8] (.nm 8) .seq [(.idx (.var 2) (.cst (.int 4)))] [(.cmp .ne (.cmp .isin (.idx (.var 8) (.cst (.int 0))) (.var 1)) (.cmp .eq (.idx (.var 8) (.cst (.int 1))) (.cst (.int 1))))] (.var 8)) (.lst [])) [(.app 3 (.var 2))] [])]), (.while (.cmp .ne (.var 3) (.lst [])) [(.set 5 false (.lc [7] (.nm 7) .seq [(.var 3)] [] (.idx (.var 7) (.cst (.int 3))))), (.set 6 false (.lc [7] (.nm 7) .seq [(.var 3)] [(.cmp .eq (.lc [9] (.nm 9) .seq [(.idx (.var 7) (.cst (.int 2)))] [(.cmp .isin (.var 9) (.var 5))] (.var 9)) (.lst []))] (.var 7))), (.set 4 false (.op .add (.var 4) (.var 6))), (.set 3 true (.ite (.cmp .ne (.var 6) (.lst [])) (.lc [7] (.nm 7) .seq [(.var 3)] [(.cmp .notin (.var 7) (.var 6))] (.var 7)) (.lst [])))]), (.ret (.var 4))]
def b__law_sides : List S := [(.set 1 false (.lst [(.tup [])])), (.for (.nm 2) .seq [(.var 0)] [(.set 1 false (.op .add (.var 1) (.lc [3] (.nm 3) .seq [(.var 1)] [] (.op .add (.var 3) (.tup [(.var 2)])))))]), (.ret (.bi .sorted [(.var 1)]))]
def b__law_flags : List S := [(.set 1 false (.lst [])), (.for (.nm 2) .seq [(.var 0)] [(.set 1 false (.op .add (.var 1) (.lc [3] (.nm 3) .seq [(.idx (.var 2) (.cst (.int 4)))] [] (.idx (.var 3) (.cst (.int 0))))))]), (.ret (.bi .sortedset [(.var 1)]))]
def b__law_live : List S := [(.ret (.lc [2] (.nm 2) .seq [(.var 0)] [(.cmp .eq (.lc [3] (.nm 3) .seq [(.idx (.var 2) (.cst (.int 4)))] [(.cmp .ne (.cmp .isin (.idx (.var 3) (.cst (.int 0))) (.var 1)) (.cmp .eq (.idx (.var 3) (.cst (.int 1))) (.cst (.int 1))))] (.var 3)) (.lst []))] (.var 2)))]
def b__law_bad : List S := [(.for (.nm 1) .seq [(.call 23 [(.call 24 [(.var 0)])])] [(.set 2 false (.call 25 [(.var 0), (.var 1)])), (.iff (.bor [(.cmp .lt (.bi .lenset [(.lc [3] (.nm 3) .seq [(.var 2)] [] (.idx (.var 3) (.cst (.int 3))))]) (.bi .len [(.var 2)])), (.cmp .lt (.bi .len [(.call 22 [(.var 0), (.var 1)])]) (.bi .len [(.var 2)]))]) [(.ret (.cst (.bool true)))] [])]), (.ret (.cst (.bool false)))]
def b__law_parts : List S := [(.ret (.cmp .ne (.lc [2] (.nm 2) .seq [(.var 0)] [(.cmp .isin (.tup [(.idx (.var 2) (.cst (.int 0))), (.op .sub (.cst (.int 1)) (.idx (.var 2) (.cst (.int 1))))]) (.var 1))] (.var 2)) (.lst [])))]
def b__law_wild : List S := [(.par [(3, true), (4, false)] [(.lst []), (.lst [(.cst (.str "f")), (.cst (.str "g")), (.cst (.str "h")), (.cst (.str "k")), (.cst (.str "in"))])]), (.for (.nm 2) .range [(.op .add (.cst (.int 1)) (.call 16 [(.var 0), (.var 1)]))] [(.set 5 false (.lc [7] (.nm 7) .seq [(.call 19 [(.var 0), (.lst [(.cst (.str "x")), (.cst (.str "y")), (.cst (.str "z"))]), (.call 16 [(.var 0), (.cst (.int 3))])])] [] (.tup [(.var 7), (.call 16 [(.var 0), (.cst (.int 2))])]))), (.set 6 false (.bi .tuple [(.lc [8] (.nm 8) .range [(.call 16 [(.var 0), (.cst (.int 3))])] [] (.call 18 [(.var 0), (.var 4)]))])), (.app 3 (.tup [(.idx (.cst (.str "abcdefgh")) (.var 2)), (.call 18 [(.var 0), (.lst [(.cst (.str "m")), (.cst (.str "n"))])]), (.var 6), (.call 18 [(.var 0), (.slU (.var 4) (.cst (.int 4)))]), (.bi .tuple [(.bi .sorted [(.var 5)])])]))]), (.ret (.bi .tuple [(.var 3)]))]
def b__law_round : List S := [(.par [(3, true), (4, false)] [(.lst []), (.slU (.cst (.str "dbhacgfe")) (.var 1))]), (.for (.nm 2) .range [(.var 1)] [(.set 5 false (.lc [6] (.nm 6) .seq [(.call 19 [(.var 0), (.lst [(.cst (.str "x")), (.cst (.str "y"))]), (.call 16 [(.var 0), (.cst (.int 3))])])] [] (.tup [(.var 6), (.call 16 [(.var 0), (.cst (.int 2))])]))), (.app 3 (.tup [(.idx (.var 4) (.var 2)), (.cst (.str "m")), (.tup [(.op .add (.cst (.str "p")) (.idx (.var 4) (.op .sub (.var 2) (.cst (.int 1)))))]), (.op .add (.cst (.str "p")) (.idx (.var 4) (.var 2))), (.bi .tuple [(.bi .sorted [(.var 5)])])]))]), (.ret (.bi .tuple [(.bi .sorted [(.var 3)])]))]
def b__law_four : List S := [(.ret (.tup [(.tup [(.cst (.str "a")), (.cst (.str "m")), (.tup [(.cst (.str "k"))]), (.cst (.str "f")), (.tup [(.tup [(.cst (.str "x")), (.cst (.int 1))])])]), (.tup [(.cst (.str "b")), (.cst (.str "m")), (.tup [(.cst (.str "f"))]), (.cst (.str "g")), (.tup [])]), (.tup [(.cst (.str "c")), (.cst (.str "m")), (.tup [(.cst (.str "g"))]), (.cst (.str "h")), (.tup [(.tup [(.cst (.str "x")), (.cst (.int 0))])])]), (.tup [(.cst (.str "d")), (.cst (.str "m")), (.tup [(.cst (.str "h"))]), (.cst (.str "k")), (.tup [])])]))]
def b__law_page : List S := [(.ret (.tup [(.tup [(.cst (.str "draft")), (.cst (.str "sum")), (.tup [(.cst (.str "in")), (.cst (.str "old"))]), (.cst (.str "out")), (.tup [(.tup [(.cst (.str "fast")), (.cst (.int 0))])])]), (.tup [(.cst (.str "quick")), (.cst (.str "guess")), (.tup [(.cst (.str "in"))]), (.cst (.str "out")), (.tup [(.tup [(.cst (.str "fast")), (.cst (.int 1))])])]), (.tup [(.cst (.str "tell")), (.cst (.str "sum")), (.tup [(.cst (.str "out")), (.cst (.str "out"))]), (.cst (.str "page")), (.tup [])])]))]
def b__law_tags : List S := [(.iff (.not (.isi (.var 0) [.tuple])) [(.ret (.cst (.bool false)))] []), (.ret (.cmp .eq (.lc [1] (.nm 1) .seq [(.var 0)] [(.bor [(.not (.isi (.var 1) [.str])), (.not (.chain .lt .lt (.cst (.int 0)) (.bi .len [(.var 1)]) (.cst (.int 9)))), (.cmp .ne (.lc [2] (.nm 2) .seq [(.var 1)] [(.not (.chain .le .le (.cst (.str "a")) (.var 2) (.cst (.str "z"))))] (.var 2)) (.lst []))])] (.var 1)) (.lst [])))]
def b__law_lot : List S := [(.set 2 false (.dmk (.lc [4] (.nm 4) .seq [(.var 0)] [] (.tup [(.idx (.var 4) (.cst (.int 0))), (.var 4)])))), (.iff (.bor [(.not (.call 32 [(.var 1)])), (.cmp .ne (.lc [3] (.nm 3) .seq [(.var 1)] [(.din true (.var 3) (.var 2))] (.var 3)) (.lst [])), (.cmp .lt (.bi .lenset [(.var 1)]) (.bi .len [(.var 1)]))]) [(.ret (.cst .none))] []), (.ret (.lc [3] (.nm 3) .seq [(.var 1)] [] (.dat (.var 2) (.var 3))))]
def b__law_rounds : List S := [(.ret (.band [(.cmp .ne (.var 0) (.lst [])), (.cmp .eq (.lc [1] (.nm 1) .range [(.bi .len [(.var 0)])] [(.cmp .notin (.idx (.idx (.var 0) (.op .sub (.var 1) (.cst (.int 1)))) (.cst (.int 3))) (.idx (.idx (.var 0) (.var 1)) (.cst (.int 2))))] (.var 1)) (.lst []))]))]
def b__law_told : List S := [(.par [(3, false), (4, false)] [(.cst .none), (.cst .none)]), (.tryx (.set 3 false (.ite (.cmp .eq (.var 0) (.cst (.int 0))) (.call 11 [(.var 1)]) (.call 13 [(.var 1)]))) [⟨2, 0, 2, 4, [(.cst (.str "no order")), (.isi "ValueError" true)]⟩, ⟨2, 1, 2, 4, [(.cst (.str "none")), (.isi "ValueError" true)]⟩]), (.ret (.ite (.isN (.var 4)) (.var 3) (.var 4)))]
def b__law_ordered : List S := [(.set 2 false (.call 33 [(.var 0), (.var 1)])), (.iff (.bor [(.isN (.var 2)), (.cmp .ne (.bi .len [(.var 2)]) (.bi .len [(.var 0)]))]) [(.ret (.cst (.bool false)))] []), (.for (.nm 3) .seq [(.call 23 [(.call 24 [(.var 0)])])] [(.set 4 false (.lc [6] (.nm 6) .seq [(.var 2)] [(.cmp .isin (.var 6) (.call 25 [(.var 0), (.var 3)]))] (.var 6))), (.for (.tp [(.nm 5), (.nm 6)]) .enum [(.var 4)] [(.iff (.cmp .ne (.lc [7] (.nm 7) .seq [(.slL (.var 4) (.var 5))] [(.cmp .isin (.idx (.var 7) (.cst (.int 3))) (.idx (.var 6) (.cst (.int 2))))] (.var 7)) (.lst [])) [(.ret (.cst (.bool false)))] [])])]), (.ret (.cst (.bool true)))]
def b__law_loose : List S := [(.set 2 false (.call 33 [(.var 0), (.var 1)])), (.iff (.bor [(.isN (.var 2)), (.not (.call 34 [(.var 2)]))]) [(.ret (.cst (.bool false)))] []), (.ret (.cmp .eq (.lc [3] (.nm 3) .range [(.bi .len [(.var 2)])] [(.call 27 [(.idx (.idx (.var 2) (.op .sub (.var 3) (.cst (.int 1)))) (.cst (.int 4))), (.idx (.idx (.var 2) (.var 3)) (.cst (.int 4)))])] (.var 3)) (.lst [])))]
def b__law_can : List S := [(.set 1 false (.bi .list [(.var 0)])), (.for (.nm 2) .seq [(.var 0)] [(.set 1 false (.lc [3] (.nm 3) .seq [(.var 1)] [(.cmp .ne (.lc [4] (.nm 4) .seq [(.var 1)] [(.band [(.cmp .isin (.idx (.var 4) (.cst (.int 3))) (.idx (.var 3) (.cst (.int 2)))), (.not (.call 27 [(.idx (.var 4) (.cst (.int 4))), (.idx (.var 3) (.cst (.int 4)))]))])] (.var 4)) (.lst []))] (.var 3)))]), (.ret (.cmp .eq (.var 1) (.lst [])))]
def b__law_case_right : List S := [(.par [(6, false), (7, false)] [(.call 20 [(.var 1)]), (.call 38 [(.var 1)])]), (.par [(8, false), (9, false)] [(.call 35 [(.cst (.int 0)), (.var 1)]), (.call 35 [(.cst (.int 1)), (.var 1)])]), (.iff (.band [(.var 7), (.bor [(.not (.call 36 [(.var 1), (.var 8)])), (.cmp .ne (.var 9) (.lst [(.cst (.str "none")), (.cst (.bool true))])), (.not (.call 36 [(.var 1), (.callk 11 [0] [(.var 6)])]))])]) [(.ret (.cst (.bool false)))] []), (.iff (.band [(.not (.var 7)), (.bor [(.cmp .ne (.var 8) (.lst [(.cst (.str "no order")), (.cst (.bool true))])), (.not (.call 37 [(.var 1), (.var 9)])), (.not (.call 37 [(.var 1), (.callk 13 [0] [(.var 6)])]))])]) [(.ret (.cst (.bool false)))] []), (.set 2 false (.lc [10] (.nm 10) .seq [(.var 1)] [] (.idx (.var 10) (.cst (.int 0))))), (.set 3 false (.op .add (.lc [11] (.nm 11) .range [(.cst (.int 3))] [] (.bi .tuple [(.call 19 [(.var 0), (.var 2), (.bi .len [(.var 2)])])])) (.lst [(.bi .tuple [(.var 2)]), (.bi .tuple [(.rev (.var 2))]), (.bi .tuple [(.slL (.var 2) (.cst (.int 1)))]), (.ite (.var 7) (.var 8) (.var 9)), (.bi .list [(.var 2)])]))), (.set 4 false (.lst [(.lc [10] (.nm 10) .seq [(.var 3)] [] (.call 12 [(.var 1), (.var 10)])), (.lc [10] (.nm 10) .seq [(.var 3)] [] (.call 14 [(.var 1), (.var 10)])), (.lc [10] (.nm 10) .seq [(.slU (.var 3) (.cst (.int 4)))] [] (.callk 12 [1, 0] [(.var 10), (.var 6)])), (.lc [10] (.nm 10) .seq [(.slU (.var 3) (.cst (.int 4)))] [] (.callk 14 [1, 0] [(.var 10), (.var 6)]))])), (.set 5 false (.lst [(.lc [10] (.nm 10) .seq [(.var 3)] [] (.call 36 [(.var 1), (.var 10)])), (.lc [10] (.nm 10) .seq [(.var 3)] [] (.call 37 [(.var 1), (.var 10)]))])), (.ret (.call 21 [(.op .add (.var 4) (.lst [(.var 6)])), (.op .add (.var 5) (.lst [(.slU (.idx (.var 5) (.cst (.int 0))) (.cst (.int 4))), (.slU (.idx (.var 5) (.cst (.int 1))) (.cst (.int 4))), (.call 20 [(.var 1)])]))]))]
def b__law_by_hand_right : List S := [(.par [(6, false), (7, false)] [(.call 31 []), (.call 30 [])]), (.set 0 true (.lst [(.idx (.call 11 [(.var 6)]) (.cst (.int 2))), (.lc [8] (.nm 8) .seq [(.tup [(.tup [(.cst (.str "quick")), (.cst (.str "draft")), (.cst (.str "tell"))]), (.tup [(.cst (.str "draft")), (.cst (.str "quick")), (.cst (.str "tell"))]), (.tup [(.cst (.str "tell")), (.cst (.str "draft")), (.cst (.str "quick"))]), (.tup [(.cst (.str "draft")), (.cst (.str "tell")), (.cst (.str "quick"))]), (.tup [(.cst (.str "draft")), (.cst (.str "tell"))]), (.tup [(.cst (.str "draft")), (.cst (.str "quick")), (.cst (.str "tell")), (.cst (.str "tell"))]), (.tup [(.cst (.str "draft")), (.cst (.str "quick")), (.cst (.str "told"))])])] [] (.call 12 [(.var 6), (.var 8)]))])), (.set 1 false (.lst [(.cst (.str "tell")), (.op .add (.lst [(.cst (.bool true)), (.cst (.bool true))]) (.op .mul (.lst [(.cst (.bool false))]) (.cst (.int 5))))])), (.set 0 true (.op .add (.var 0) (.lc [8] (.nm 8) .seq [(.tup [(.var 7), (.var 6), (.tup [])])] [] (.lc [10] (.nm 10) .range [(.cst (.int 2))] [] (.call 35 [(.var 10), (.var 8)]))))), (.put2 0 (.cst (.int 2)) 0 (.cst (.int 3)) [(.lst [(.idx (.idx (.var 0) (.cst (.int 2))) (.cst (.int 0))), (.call 37 [(.var 7), (.idx (.idx (.var 0) (.cst (.int 2))) (.cst (.int 1)))])]), (.lst [(.call 36 [(.var 6), (.idx (.idx (.var 0) (.cst (.int 3))) (.cst (.int 0)))]), (.idx (.idx (.var 0) (.cst (.int 3))) (.cst (.int 1)))])]), (.set 1 false (.op .add (.var 1) (.lst [(.lst [(.lst [(.cst (.str "no order")), (.cst (.bool true))]), (.cst (.bool true))]), (.lst [(.cst (.bool true)), (.lst [(.cst (.str "none")), (.cst (.bool true))])]), (.lst [(.tup []), (.lst [(.cst (.str "none")), (.cst (.bool true))])])]))), (.set 2 false (.lst [(.tup [(.cst (.str "b")), (.cst (.str "c")), (.cst (.str "d")), (.cst (.str "a"))]), (.tup [(.cst (.str "a")), (.cst (.str "b")), (.cst (.str "c")), (.cst (.str "d"))]), (.tup [(.cst (.str "d")), (.cst (.str "c")), (.cst (.str "b")), (.cst (.str "a"))]), (.tup [(.cst (.str "a")), (.cst (.str "b")), (.cst (.str "c"))]), (.tup [(.cst (.str "a")), (.cst (.str "b")), (.cst (.str "c")), (.cst (.str "d")), (.cst (.str "a"))]), (.lst [(.cst (.str "a")), (.cst (.str "b")), (.cst (.str "c")), (.cst (.str "d"))]), (.tup []), (.cst .none), (.cst (.str "abcd")), (.tup [(.cst (.str "a")), (.cst (.str "b")), (.cst (.str "c")), (.cst .none)]), (.tup [(.cst (.str "a")), (.cst (.str "b")), (.cst (.str "c")), (.cst (.str "e"))]), (.tup [(.cst (.str "a"))]), (.tup [(.cst (.int 0))]), (.tup [(.cst (.str "a")), (.cst (.str "b")), (.cst (.str "d")), (.cst (.str "c"))]), (.tup [(.tup [(.cst (.str "a"))]), (.tup [(.cst (.str "b"))]), (.tup [(.cst (.str "c"))]), (.tup [(.cst (.str "d"))])]), (.tup [(.cst (.str "a")), (.cst (.str "b")), (.cst (.str "c")), (.cst (.str "d\n"))])])), (.set 0 true (.op .add (.var 0) (.lst [(.lc [8] (.nm 8) .seq [(.var 2)] [] (.call 14 [(.var 7), (.var 8)])), (.lc [8] (.nm 8) .seq [(.var 2)] [] (.call 12 [(.var 7), (.var 8)])), (.lc [8] (.nm 8) .seq [(.tup [(.tup []), (.lst []), (.cst .none)])] [] (.call 12 [(.tup []), (.var 8)]))]))), (.set 1 false (.op .add (.var 1) (.lst [(.op .add (.lst [(.cst (.bool true)), (.cst (.bool true))]) (.op .mul (.lst [(.cst (.bool false))]) (.cst (.int 14)))), (.op .mul (.lst [(.cst (.bool false))]) (.cst (.int 16))), (.lst [(.cst (.bool true)), (.cst (.bool false)), (.cst (.bool false))])]))), (.set 3 false (.tup [(.tup [(.cst (.str "a")), (.cst (.str "m")), (.tup [(.cst (.str "g"))]), (.cst (.str "f")), (.tup [(.tup [(.cst (.str "x")), (.cst (.int 1))])])]), (.tup [(.cst (.str "b")), (.cst (.str "m")), (.tup [(.cst (.str "f"))]), (.cst (.str "g")), (.tup [(.tup [(.cst (.str "x")), (.cst (.int 0))])])])])), (.set 0 true (.op .add (.var 0) (.lst [(.lc [8] (.nm 8) .seq [(.tup [(.tup [(.cst (.str "a")), (.cst (.str "b"))]), (.tup [(.cst (.str "b")), (.cst (.str "a"))])])] [] (.call 12 [(.var 3), (.var 8)])), (.call 35 [(.cst (.int 1)), (.var 3)]), (.lc [8] (.nm 8) .seq [(.tup [(.tup [(.cst (.str "a")), (.cst (.str "b"))]), (.tup [(.cst (.str "b")), (.cst (.str "a"))])])] [] (.call 12 [(.tup [(.tup [(.cst (.str "a")), (.cst (.str "m")), (.tup [(.cst (.str "g"))]), (.cst (.str "f")), (.tup [])]), (.tup [(.cst (.str "b")), (.cst (.str "m")), (.tup [(.cst (.str "in"))]), (.cst (.str "g")), (.tup [(.tup [(.cst (.str "x")), (.cst (.int 0))])])])]), (.var 8)]))]))), (.set 1 false (.op .add (.var 1) (.lst [(.lst [(.cst (.bool true)), (.cst (.bool true))]), (.lst [(.cst (.str "none")), (.cst (.bool true))]), (.lst [(.cst (.bool false)), (.cst (.bool true))])]))), (.set 4 false (.tup [(.tup [(.cst (.str "a")), (.cst (.str "m")), (.tup [(.cst (.str "h"))]), (.cst (.str "f")), (.tup [(.tup [(.cst (.str "x")), (.cst (.int 1))])])]), (.tup [(.cst (.str "b")), (.cst (.str "m")), (.tup [(.cst (.str "f"))]), (.cst (.str "g")), (.tup [])]), (.tup [(.cst (.str "c")), (.cst (.str "m")), (.tup [(.cst (.str "g"))]), (.cst (.str "h")), (.tup [(.tup [(.cst (.str "x")), (.cst (.int 0))])])])])), (.set 0 true (.op .add (.op .add (.var 0) (.lc [8] (.nm 8) .seq [(.tup [(.tup [(.cst (.str "a")), (.cst (.str "b")), (.cst (.str "c"))]), (.tup [(.cst (.str "b")), (.cst (.str "c")), (.cst (.str "a"))])])] [] (.call 14 [(.var 4), (.var 8)]))) (.lst [(.call 12 [(.var 4), (.tup [(.cst (.str "a")), (.cst (.str "b")), (.cst (.str "c"))])])]))), (.set 1 false (.op .add (.var 1) (.lst [(.cst (.bool false)), (.cst (.bool false)), (.cst (.bool true))]))), (.set 5 false (.bi .tuple [(.lc [9] (.nm 9) .range [(.cst (.int 8))] [] (.tup [(.idx (.cst (.str "abcdefgh")) (.var 9)), (.cst (.str "m")), (.tup [(.op .add (.cst (.str "p")) (.idx (.cst (.str "habcdefg")) (.var 9)))]), (.op .add (.cst (.str "p")) (.idx (.cst (.str "abcdefgh")) (.var 9))), (.ite (.cmp .eq (.var 9) (.cst (.int 0))) (.tup [(.tup [(.cst (.str "x")), (.cst (.int 1))])]) (.ite (.cmp .eq (.var 9) (.cst (.int 4))) (.tup [(.tup [(.cst (.str "x")), (.cst (.int 0))])]) (.tup [])))]))])), (.set 0 true (.op .add (.var 0) (.lst [(.call 35 [(.cst (.int 0)), (.var 5)]), (.call 14 [(.var 5), (.bi .tuple [(.cst (.str "efghabcd"))])]), (.call 37 [(.var 5), (.call 13 [(.var 5)])]), (.call 12 [(.slU (.var 5) (.cst (.int 7))), (.bi .tuple [(.cst (.str "abcdefg"))])])]))), (.set 1 false (.op .add (.var 1) (.lst [(.lst [(.cst (.str "no order")), (.cst (.bool true))]), (.cst (.bool true)), (.cst (.bool true)), (.cst (.bool true))]))), (.ret (.call 21 [(.var 0), (.var 1)]))]
def b__law_right : List S := [(.for (.nm 1) .range [(.cst (.int 4))] [(.set 2 false (.ite (.cmp .lt (.var 1) (.cst (.int 1))) (.call 28 [(.var 0), (.cst (.int 5))]) (.call 29 [(.var 0), (.op .add (.cst (.int 3)) (.call 16 [(.var 0), (.cst (.int 3))]))]))), (.iff (.band [(.not (.call 26 [(.var 2)])), (.not (.call 39 [(.var 0), (.var 2)]))]) [(.ret (.cst (.bool false)))] [])]), (.ret (.cst (.bool true)))]
def b_law : List S := [(.iff (.not (.call 40 [])) [(.ret (.cst (.bool false)))] []), (.set 1 false (.call 17 [(.var 0), (.cst (.int 3))])), (.ret (.bi .all [(.lc [2] (.nm 2) .range [(.bi .len [(.var 1)])] [] (.callc 41 [(.cell (.call 15 [(.var 1), (.var 2)]))]))]))]
def d_is_name : Df := ⟨"is_name", ["thing"], ["thing", "letter"], defArgs (top 5), defBody (top 5), defScope (top 5), b_is_name, []⟩
def d_tupled : Df := ⟨"tupled", ["thing"], ["thing", "part"], defArgs (top 6), defBody (top 6), defScope (top 6), b_tupled, []⟩
def d_set_of : Df := ⟨"set_of", ["things"], ["things"], defArgs (top 7), defBody (top 7), defScope (top 7), b_set_of, []⟩
def d_clash : Df := ⟨"clash", ["one", "other"], ["one", "other", "known", "flag", "on"], defArgs (top 9), defBody (top 9), defScope (top 9), b_clash, []⟩
def d_feeds : Df := ⟨"feeds", ["one", "other"], ["one", "other"], defArgs (top 10), defBody (top 10), defScope (top 10), b_feeds, []⟩
def d_goes_ahead : Df := ⟨"goes_ahead", ["one", "other"], ["one", "other"], defArgs (top 11), defBody (top 11), defScope (top 11), b_goes_ahead, []⟩
def d_core_of : Df := ⟨"core_of", ["steps"], ["steps", "left", "turn", "ahead", "step", "own"], defArgs (top 12), defBody (top 12), defScope (top 12), b_core_of, []⟩
def d_ring_among : Df := ⟨"ring_among", ["steps"], ["steps", "row", "turn", "later", "own"], defArgs (top 13), defBody (top 13), defScope (top 13), b_ring_among, []⟩
def d_names_of : Df := ⟨"names_of", ["steps"], ["steps", "step"], defArgs (top 14), defBody (top 14), defScope (top 14), b_names_of, []⟩
def d_named_row : Df := ⟨"named_row", ["plan", "thing"], ["plan", "thing", "known", "step", "name"], defArgs (top 15), defBody (top 15), defScope (top 15), b_named_row, []⟩
def d_goes_round : Df := ⟨"goes_round", ["steps"], ["steps", "one", "other"], defArgs (top 16), defBody (top 16), defScope (top 16), b_goes_round, []⟩
def d_one_order : Df := ⟨"one_order", ["plan"], ["plan", "left", "found", "ready", "step", "own"], defArgs (top 17), defBody (top 17), defScope (top 17), b_one_order, [(["plan"], [0])]⟩
def d_is_one_order : Df := ⟨"is_one_order", ["plan", "thing"], ["plan", "thing", "steps", "own", "place", "step"], defArgs (top 18), defBody (top 18), defScope (top 18), b_is_one_order, [(["thing", "plan"], [1, 0])]⟩
def d_loose_ring : Df := ⟨"loose_ring", ["plan"], ["plan", "found"], defArgs (top 19), defBody (top 19), defScope (top 19), b_loose_ring, [(["plan"], [0])]⟩
def d_is_loose_ring : Df := ⟨"is_loose_ring", ["plan", "thing"], ["plan", "thing", "steps", "one", "other"], defArgs (top 20), defBody (top 20), defScope (top 20), b_is_loose_ring, [(["thing", "plan"], [1, 0])]⟩
def d__law_box : Df := ⟨"_law_box", ["_law_script", "_law_k"], ["_law_script", "_law_k", "_law_great_so"], defArgs (top 22), defBody (top 22), defScope (top 22), b__law_box, []⟩
def d__law_take : Df := ⟨"_law_take", ["_law_tin", "_law_top_so"], ["_law_tin", "_law_top_so", "_law_once", "_law_far", "_law_twice", "_law_digit_so"], defArgs (top 23), defBody (top 23), defScope (top 23), b__law_take, []⟩
def d__law_cells : Df := ⟨"_law_cells", ["_law_script", "_law_most"], ["_law_script", "_law_most", "_law_cells_here", "_law_k", "_law_great_so", "_law_at_so"], defArgs (top 24), defBody (top 24), defScope (top 24), b__law_cells, []⟩
def d__law_of : Df := ⟨"_law_of", ["_law_tin", "_law_lot_here"], ["_law_tin", "_law_lot_here"], defArgs (top 25), defBody (top 25), defScope (top 25), b__law_of, []⟩
def d__law_pick : Df := ⟨"_law_pick", ["_law_tin", "_law_pool", "_law_size_so"], ["_law_tin", "_law_pool", "_law_size_so", "_law_turn", "_law_rest", "_law_lot_here"], defArgs (top 26), defBody (top 26), defScope (top 26), b__law_pick, []⟩
def d__law_lists : Df := ⟨"_law_lists", ["_law_matter"], ["_law_matter", "_law_bit"], defArgs (top 27), defBody (top 27), defScope (top 27), b__law_lists, []⟩
def d__law_same : Df := ⟨"_law_same", ["_law_got", "_law_due"], ["_law_got", "_law_due", "_law_lot_so", "_law_mine", "_law_its"], defArgs (top 28), defBody (top 28), defScope (top 28), b__law_same, []⟩
def d__law_on : Df := ⟨"_law_on", ["_law_form", "_law_flags_so"], ["_law_form", "_law_flags_so", "_law_step_so", "_law_left_so", "_law_found", "_law_waits_so", "_law_ready", "_law_own", "_law_pair", "_law_page_here"], defArgs (top 29), defBody (top 29), defScope (top 29), b__law_on, []⟩
def d__law_sides : Df := ⟨"_law_sides", ["_law_flags_all"], ["_law_flags_all", "_law_found", "_law_mark", "_law_own"], defArgs (top 30), defBody (top 30), defScope (top 30), b__law_sides, []⟩
def d__law_flags : Df := ⟨"_law_flags", ["_law_form"], ["_law_form", "_law_found", "_law_own", "_law_pair"], defArgs (top 31), defBody (top 31), defScope (top 31), b__law_flags, []⟩
def d__law_live : Df := ⟨"_law_live", ["_law_form", "_law_flags_so"], ["_law_form", "_law_flags_so", "_law_own", "_law_pair"], defArgs (top 32), defBody (top 32), defScope (top 32), b__law_live, []⟩
def d__law_bad : Df := ⟨"_law_bad", ["_law_form"], ["_law_form", "_law_flags_so", "_law_live_here", "_law_own"], defArgs (top 33), defBody (top 33), defScope (top 33), b__law_bad, []⟩
def d__law_parts : Df := ⟨"_law_parts", ["_law_one_so", "_law_two_so"], ["_law_one_so", "_law_two_so", "_law_pair"], defArgs (top 34), defBody (top 34), defScope (top 34), b__law_parts, []⟩
def d__law_wild : Df := ⟨"_law_wild", ["_law_tin", "_law_many"], ["_law_tin", "_law_many", "_law_k", "_law_found", "_law_pool", "_law_on_so", "_law_pages", "_law_mark", "_law_lap"], defArgs (top 35), defBody (top 35), defScope (top 35), b__law_wild, []⟩
def d__law_round : Df := ⟨"_law_round", ["_law_tin", "_law_many"], ["_law_tin", "_law_many", "_law_k", "_law_found", "_law_letters", "_law_on_so", "_law_mark"], defArgs (top 36), defBody (top 36), defScope (top 36), b__law_round, []⟩
def d__law_four : Df := ⟨"_law_four", [], [], defArgs (top 37), defBody (top 37), defScope (top 37), b__law_four, []⟩
def d__law_page : Df := ⟨"_law_page", [], [], defArgs (top 38), defBody (top 38), defScope (top 38), b__law_page, []⟩
def d__law_tags : Df := ⟨"_law_tags", ["_law_matter"], ["_law_matter", "_law_bit", "_law_sign"], defArgs (top 39), defBody (top 39), defScope (top 39), b__law_tags, []⟩
def d__law_lot : Df := ⟨"_law_lot", ["_law_form", "_law_matter"], ["_law_form", "_law_matter", "_law_known", "_law_bit", "_law_own"], defArgs (top 40), defBody (top 40), defScope (top 40), b__law_lot, []⟩
def d__law_rounds : Df := ⟨"_law_rounds", ["_law_lot_here"], ["_law_lot_here", "_law_k"], defArgs (top 41), defBody (top 41), defScope (top 41), b__law_rounds, []⟩
def d__law_told : Df := ⟨"_law_told", ["_law_door", "_law_form"], ["_law_door", "_law_form", "error", "_law_told_here", "_law_caught"], defArgs (top 42), defBody (top 42), defScope (top 42), b__law_told, []⟩
def d__law_ordered : Df := ⟨"_law_ordered", ["_law_form", "_law_matter"], ["_law_form", "_law_matter", "_law_lot_here", "_law_flags_so", "_law_live_here", "_law_k", "_law_own", "_law_far"], defArgs (top 43), defBody (top 43), defScope (top 43), b__law_ordered, []⟩
def d__law_loose : Df := ⟨"_law_loose", ["_law_form", "_law_matter"], ["_law_form", "_law_matter", "_law_lot_here", "_law_k"], defArgs (top 44), defBody (top 44), defScope (top 44), b__law_loose, []⟩
def d__law_can : Df := ⟨"_law_can", ["_law_form"], ["_law_form", "_law_left_so", "_law_turn", "_law_own", "_law_far"], defArgs (top 45), defBody (top 45), defScope (top 45), b__law_can, []⟩
def d__law_case_right : Df := ⟨"_law_case_right", ["_law_tin", "_law_form"], ["_law_tin", "_law_form", "_law_tags_here", "_law_pool", "_law_got", "_law_due", "_law_soft", "_law_can_here", "_law_told_here", "_law_row", "_law_own", "_law_lap"], defArgs (top 46), defBody (top 46), defScope (top 46), b__law_case_right, []⟩
def d__law_by_hand_right : Df := ⟨"_law_by_hand_right", [], ["_law_got", "_law_due", "_law_odd", "_law_near", "_law_knot", "_law_wide", "_law_form", "_law_four_here", "_law_own", "_law_k", "_law_door"], defArgs (top 47), defBody (top 47), defScope (top 47), b__law_by_hand_right, []⟩
def d__law_right : Df := ⟨"_law_right", ["_law_tin"], ["_law_tin", "_law_turn", "_law_form"], defArgs (top 48), defBody (top 48), defScope (top 48), b__law_right, []⟩
def d_law : Df := ⟨"law", ["_law_script"], ["_law_script", "_law_cells_here", "_law_k"], defArgs (top 49), defBody (top 49), defScope (top 49), b_law, []⟩
def D : List Df := [d_is_name, d_tupled, d_set_of, d_clash, d_feeds, d_goes_ahead, d_core_of, d_ring_among, d_names_of, d_named_row, d_goes_round, d_one_order, d_is_one_order, d_loose_ring, d_is_loose_ring, d__law_box, d__law_take, d__law_cells, d__law_of, d__law_pick, d__law_lists, d__law_same, d__law_on, d__law_sides, d__law_flags, d__law_live, d__law_bad, d__law_parts, d__law_wild, d__law_round, d__law_four, d__law_page, d__law_tags, d__law_lot, d__law_rounds, d__law_told, d__law_ordered, d__law_loose, d__law_can, d__law_case_right, d__law_by_hand_right, d__law_right, d_law]
def free : List Str := ["ValueError", "abs", "all", "any", "bool", "dict", "enumerate", "int", "isinstance", "len", "list", "min", "range", "set", "sorted", "str", "tuple", "zip"]
def glo : List (Str × PyData) := [("LETTERS", (.str "abcdefghijklmnopqrstuvwxyz"))]
def xs : List Str := ["NoOrder", "NoPaper"]
theorem chk : D.all (dfB D free glo xs) = true := by decide +kernel
end K4


set_option Elab.async false
set_option linter.all false
set_option autoImplicit false
set_option maxRecDepth 100000
/-! the evaluator, read by simp -/
namespace Ra.M
open PySem
section
variable (call : Call) (wf : Nat) (env : Env) (m : Mem)
@[simp] theorem nf_d (x : PyData) : Val.nf (.d x) = .d x := rfl
@[simp] theorem nf_fr (xs : List PyData) : Val.nf (.fr xs) = .d (.list xs) := rfl
@[simp] theorem nf_mr (k : Nat) : Val.nf (.mr k) = .mr k := rfl
@[simp] theorem rdR_d (x : PyData) : rdR m (.d x) = .ok x m := rfl
@[simp] theorem rdR_fr (xs : List PyData) : rdR m (.fr xs) = .ok (.list xs) m := rfl
theorem rdR_mr {k : Nat} {c : Cell} (h : m[k]? = some c) : rdR m (.mr k) = .ok (.list c.xs) m := by
  show optR ((m[k]?).map fun c => PyData.list c.xs) m = _
  rw [h]; rfl
@[simp] theorem frz_d (x : PyData) : frz (.d x) m = .ok x m := rfl
@[simp] theorem frz_fr (xs : List PyData) : frz (.fr xs) m = .ok (.list xs) m := rfl
@[simp] theorem truR_bool (b : Bool) : truR (.d (.bool b)) m = .ok b m := rfl
@[simp] theorem truR_d (x : PyData) : truR (.d x) m = optR (truth x) m := rfl
@[simp] theorem truR_fr (xs : List PyData) : truR (.fr xs) m = .ok (!xs.isEmpty) m := rfl
@[simp] theorem truth_bool (b : Bool) : truth (.bool b) = some b := rfl
@[simp] theorem truth_list (xs : List PyData) : truth (.list xs) = some (!xs.isEmpty) := rfl
@[simp] theorem truth_tuple (xs : List PyData) : truth (.tuple xs) = some (!xs.isEmpty) := rfl
@[simp] theorem boolR_eq (b : Bool) : boolR b m = .ok (.d (.bool b)) m := rfl
@[simp] theorem intR_int (i : Int) : intR (.int i) m = .ok i m := rfl
@[simp] theorem mkCell_fr (xs : List PyData) : mkCell (.fr xs) m = .ok (.mr m.length) (m ++ [⟨false, xs⟩]) := rfl
@[simp] theorem mkCell_mr (k : Nat) : mkCell (.mr k) m = .ok (.mr k) m := rfl
@[simp] theorem mkCell_d (x : PyData) : mkCell (.d x) m = .ok (.d x) m := rfl
@[simp] theorem stored_f (v : Val) : stored false v m = .ok v.nf m := rfl
@[simp] theorem stored_t (v : Val) : stored true v m = mkCell v m := rfl
@[simp] theorem getV_zero (v : Option Val) (r : Env) : getV (v :: r) 0 = v := by simp [getV]
@[simp] theorem getV_succ (v : Option Val) (r : Env) (i : Nat) : getV (v :: r) (i + 1) = getV r i := by simp [getV]
@[simp] theorem setV_zero (u : Option Val) (r : Env) (v : Val) : setV (u :: r) 0 v = some v :: r := rfl
@[simp] theorem setV_succ (u : Option Val) (r : Env) (i : Nat) (v : Val) : setV (u :: r) (i + 1) v = u :: setV r i v := rfl
/-! expressions -/
variable (e a b c i lo hi : E) (es src tests : List E)
@[simp] theorem v_var (k : Nat) : (sem call (.var k)).v env m = optR (getV env k) m := rfl
@[simp] theorem t_var (k : Nat) : (sem call (.var k)).t env m = (optR (getV env k) m).bind truR := rfl
@[simp] theorem v_cst (x : PyData) : (sem call (.cst x)).v env m = .ok (.d x) m := rfl
@[simp] theorem t_cst (x : PyData) : (sem call (.cst x)).t env m = optR (truth x) m := rfl
@[simp] theorem v_glo (x : PyData) : (sem call (.glo x)).v env m = .ok (.d x) m := rfl
@[simp] theorem v_tup : (sem call (.tup es)).v env m = (cItems (sems call es) env m).bind fun xs m1 => .ok (.d (.tuple xs)) m1 := rfl
@[simp] theorem v_lst : (sem call (.lst es)).v env m = (cItems (sems call es) env m).bind fun xs m1 => .ok (.fr xs) m1 := rfl
@[simp] theorem v_call (f : Nat) : (sem call (.call f es)).v env m = (cArgs (sems call es) env m).bind fun vs m1 => call f vs m1 := rfl
@[simp] theorem t_call (f : Nat) : (sem call (.call f es)).t env m = ((cArgs (sems call es) env m).bind fun vs m1 => call f vs m1).bind truR := rfl
@[simp] theorem v_callk (f : Nat) (is : List Nat) : (sem call (.callk f is es)).v env m = (cArgs (sems call es) env m).bind fun vs m1 => call f (pick is vs) m1 := rfl
@[simp] theorem v_callc (f : Nat) : (sem call (.callc f es)).v env m = (cArgs (sems call es) env m).bind fun vs m1 => (call f vs m1).bind fun v m2 => leave m.length v m2 := rfl
@[simp] theorem v_cell : (sem call (.cell e)).v env m = ((sem call e).v env m).bind mkCell := rfl
@[simp] theorem v_op (o : Bop) : (sem call (.op o a b)).v env m = ((sem call a).v env m).bind fun va m1 => ((sem call b).v env m1).bind fun vb m2 => (rdR m2 va.nf).bind fun x m3 => (rdR m3 vb.nf).bind fun y m4 => optR (bop o x y) m4 := rfl
@[simp] theorem v_neg : (sem call (.neg a)).v env m = ((sem call a).v env m).bind fun va m1 => (rdR m1 va.nf).bind fun x m => match x with
      | .int i => .ok (.d (.int (-i))) m
      | _ => .fail := rfl
@[simp] theorem v_cmp (o : Cop) : (sem call (.cmp o a b)).v env m = ((sem call a).v env m).bind fun va m1 => ((sem call b).v env m1).bind fun vb m2 => (rdR m2 va.nf).bind fun x m3 => (rdR m3 vb.nf).bind fun y m4 => (optR (cmp o x y) m4).bind boolR := rfl
@[simp] theorem t_cmp (o : Cop) : (sem call (.cmp o a b)).t env m = ((sem call (.cmp o a b)).v env m).bind truR := rfl
@[simp] theorem v_chain (o o' : Cop) : (sem call (.chain o o' a b c)).v env m = ((sem call a).v env m).bind fun va m1 => ((sem call b).v env m1).bind fun vb m2 =>
  (rdR m2 va.nf).bind fun x m3 => (rdR m3 vb.nf).bind fun y m4 => (optR (cmp o x y) m4).bind fun t m5 =>
    if t = true then ((sem call c).v env m5).bind fun vc m6 => (rdR m6 vb.nf).bind fun y' m7 => (rdR m7 vc.nf).bind fun z m8 => (optR (cmp o' y' z) m8).bind boolR
    else boolR false m5 := rfl
@[simp] theorem t_chain (o o' : Cop) : (sem call (.chain o o' a b c)).t env m = ((sem call (.chain o o' a b c)).v env m).bind truR := rfl
@[simp] theorem v_isN : (sem call (.isN a)).v env m = ((sem call a).v env m).bind fun va m1 => (rdR m1 va.nf).bind fun x m => boolR (isNone x) m := rfl
@[simp] theorem t_isN : (sem call (.isN a)).t env m = ((sem call (.isN a)).v env m).bind truR := rfl
@[simp] theorem v_isnN : (sem call (.isnN a)).v env m = ((sem call a).v env m).bind fun va m1 => (rdR m1 va.nf).bind fun x m => boolR (!isNone x) m := rfl
@[simp] theorem t_isnN : (sem call (.isnN a)).t env m = ((sem call (.isnN a)).v env m).bind truR := rfl
@[simp] theorem v_band1 : (sem call (.band [e])).v env m = (sem call e).v env m := rfl
@[simp] theorem v_band : (sem call (.band (e :: a :: es))).v env m = ((sem call e).v env m).bind fun v m1 => (truR v m1).bind fun t m2 => if t = true then (sem call (.band (a :: es))).v env m2 else .ok v m2 := rfl
@[simp] theorem t_band1 : (sem call (.band [e])).t env m = (sem call e).t env m := rfl
@[simp] theorem t_band : (sem call (.band (e :: a :: es))).t env m = ((sem call e).t env m).bind fun t m1 => if t = true then (sem call (.band (a :: es))).t env m1 else .ok false m1 := rfl
@[simp] theorem v_bor1 : (sem call (.bor [e])).v env m = (sem call e).v env m := rfl
@[simp] theorem v_bor : (sem call (.bor (e :: a :: es))).v env m = ((sem call e).v env m).bind fun v m1 => (truR v m1).bind fun t m2 => if t = true then .ok v m2 else (sem call (.bor (a :: es))).v env m2 := rfl
@[simp] theorem t_bor1 : (sem call (.bor [e])).t env m = (sem call e).t env m := rfl
@[simp] theorem t_bor : (sem call (.bor (e :: a :: es))).t env m = ((sem call e).t env m).bind fun t m1 => if t = true then .ok true m1 else (sem call (.bor (a :: es))).t env m1 := rfl
@[simp] theorem v_not : (sem call (.not a)).v env m = ((sem call a).v env m).bind fun v m1 => (truR v m1).bind fun t m2 => boolR (!t) m2 := rfl
@[simp] theorem t_not : (sem call (.not a)).t env m = ((sem call a).t env m).bind fun t m1 => .ok (!t) m1 := rfl
@[simp] theorem v_ite : (sem call (.ite c a b)).v env m = ((sem call c).t env m).bind fun t m1 => if t = true then (sem call a).v env m1 else (sem call b).v env m1 := rfl
@[simp] theorem v_idx : (sem call (.idx a i)).v env m = ((sem call a).v env m).bind fun va m1 => ((sem call i).v env m1).bind fun vb m2 => (rdR m2 va.nf).bind fun x m3 => (rdR m3 vb.nf).bind fun y m => (optR (idx x y) m).bind fun z m1 => .ok (.d z) m1 := rfl
@[simp] theorem v_sl : (sem call (.sl a)).v env m = ((sem call a).v env m).bind fun va m1 => (rdR m1 va.nf).bind fun x m => optR (slc x none none) m := rfl
def slLR (x l : PyData) (m : Mem) : Res Val := match l with
  | .int l => optR (slc x (some l) none) m
  | _ => .fail
def slUR (x l : PyData) (m : Mem) : Res Val := match l with
  | .int l => optR (slc x none (some l)) m
  | _ => .fail
@[simp] theorem slLR_int (x : PyData) (l : Int) : slLR x (.int l) m = optR (slc x (some l) none) m := rfl
@[simp] theorem slUR_int (x : PyData) (l : Int) : slUR x (.int l) m = optR (slc x none (some l)) m := rfl
@[simp] theorem v_slL : (sem call (.slL a lo)).v env m = ((sem call a).v env m).bind fun va m1 => ((sem call lo).v env m1).bind fun vb m2 => (rdR m2 va.nf).bind fun x m3 => (rdR m3 vb.nf).bind fun l m => slLR x l m := rfl
@[simp] theorem v_slU : (sem call (.slU a lo)).v env m = ((sem call a).v env m).bind fun va m1 => ((sem call lo).v env m1).bind fun vb m2 => (rdR m2 va.nf).bind fun x m3 => (rdR m3 vb.nf).bind fun l m => slUR x l m := rfl
@[simp] theorem v_slLU : (sem call (.slLU a lo hi)).v env m = ((sem call a).v env m).bind fun va m1 => ((sem call lo).v env m1).bind fun vb m2 => (rdR m2 vb.nf).bind fun y m3 => (intR y m3).bind fun l m4 =>
  ((sem call hi).v env m4).bind fun vc m5 => (rdR m5 va.nf).bind fun x m6 => (rdR m6 vc.nf).bind fun z m7 => (intR z m7).bind fun h m8 => optR (slc x (some l) (some h)) m8 := rfl
@[simp] theorem v_rev : (sem call (.rev a)).v env m = ((sem call a).v env m).bind fun va m1 => (rdR m1 va.nf).bind fun x m => optR (revd x) m := rfl
@[simp] theorem v_bi (o : Bi) : (sem call (.bi o es)).v env m = (cArgs (sems call es) env m).bind fun vs m1 => (optR (lookAll m1 vs) m1).bind fun xs m2 => optR (bi o xs) m2 := rfl
@[simp] theorem t_bi (o : Bi) : (sem call (.bi o es)).t env m = ((sem call (.bi o es)).v env m).bind truR := rfl
@[simp] theorem v_isi (cs : List Cls) : (sem call (.isi a cs)).v env m = ((sem call a).v env m).bind fun va m1 => (rdR m1 va.nf).bind fun x m => boolR (cs.any (isi x)) m := rfl
@[simp] theorem t_isi (cs : List Cls) : (sem call (.isi a cs)).t env m = ((sem call (.isi a cs)).v env m).bind truR := rfl
@[simp] theorem v_lc (own : List Nat) (t : Tg) (k : Sk) : (sem call (.lc own t k src tests e)).v env m = (srcR k (sems call src) env m).bind fun p m1 => (lcLoop t (sems call tests) (sem call e) p.2 (wipe env own) p.1 m1).bind fun ys m2 => .ok (.fr ys) m2 := rfl
@[simp] theorem nf_dv (kvs : List (PyData × PyData)) : Val.nf (.dv kvs) = .dv kvs := rfl
@[simp] theorem mkCell_dv (kvs : List (PyData × PyData)) : mkCell (.dv kvs) m = .ok (.dv kvs) m := rfl
@[simp] theorem dictR_dv (kvs : List (PyData × PyData)) : dictR (.dv kvs) m = .ok kvs m := rfl
@[simp] theorem keyR_str (z : Str) : keyR (.str z) m = .ok (.str z) m := rfl
@[simp] theorem keyR_int (z : Int) : keyR (.int z) m = .ok (.int z) m := rfl
@[simp] theorem v_tupS (bs : List Bool) : (sem call (.tupS bs es)).v env m = (cItemsS bs (sems call es) env m).bind fun xs m1 => if xs.length ≤ lim then .ok (.d (.tuple xs)) m1 else .fail := rfl
@[simp] theorem v_lstS (bs : List Bool) : (sem call (.lstS bs es)).v env m = (cItemsS bs (sems call es) env m).bind fun xs m1 => if xs.length ≤ lim then .ok (.fr xs) m1 else .fail := rfl
@[simp] theorem cItemsS_nil : cItemsS [] (sems call []) env m = .ok [] m := rfl
@[simp] theorem cItemsS_f (bs : List Bool) : cItemsS (false :: bs) (sems call (e :: es)) env m = ((sem call e).v env m).bind fun v m1 => (frz v m1).bind fun x m2 => (cItemsS bs (sems call es) env m2).bind fun xs m3 => .ok (x :: xs) m3 := rfl
@[simp] theorem cItemsS_t (bs : List Bool) : cItemsS (true :: bs) (sems call (e :: es)) env m = ((sem call e).v env m).bind fun v m1 => (rdR m1 v.nf).bind fun x m2 => (optR (seqI x) m2).bind fun ys m3 => (cItemsS bs (sems call es) env m3).bind fun xs m4 => .ok (ys ++ xs) m4 := rfl
@[simp] theorem seqI_l (xs : List PyData) : seqI (.list xs) = some xs := rfl
@[simp] theorem seqI_t (xs : List PyData) : seqI (.tuple xs) = some xs := rfl
@[simp] theorem v_dc (own : List Nat) (t : Tg) (k : Sk) (ke ve : E) : (sem call (.dc own t k src tests ke ve)).v env m = (srcR k (sems call src) env m).bind fun p m1 => (dcLoop t (sems call tests) (sem call ke) (sem call ve) p.2 (wipe env own) p.1 [] m1).bind fun ys m2 => .ok (.dv ys) m2 := rfl
def dmkR (x : PyData) (m : Mem) : Res Val := match x with
  | .list xs => (optR (pairsD xs []) m).bind fun kvs m3 => .ok (.dv kvs) m3
  | _ => .fail
@[simp] theorem dmkR_l (xs : List PyData) : dmkR (.list xs) m = (optR (pairsD xs []) m).bind fun kvs m3 => .ok (.dv kvs) m3 := rfl
@[simp] theorem v_dmk : (sem call (.dmk e)).v env m = ((sem call e).v env m).bind fun v m1 => (rdR m1 v.nf).bind fun x m2 => dmkR x m2 := rfl
@[simp] theorem v_dget (k x : E) : (sem call (.dget e k x)).v env m = ((sem call e).v env m).bind fun vd m1 => (dictR vd m1).bind fun kvs m2 => ((sem call k).v env m2).bind fun vk m3 => ((sem call x).v env m3).bind fun vx m4 =>
  (rdR m4 vk.nf).bind fun y m5 => (keyR y m5).bind fun y m6 => (frz vx m6).bind fun z m7 => .ok (.d ((dLook kvs y).getD z)) m7 := rfl
@[simp] theorem v_dat (k : E) : (sem call (.dat e k)).v env m = ((sem call e).v env m).bind fun vd m1 => (dictR vd m1).bind fun kvs m2 => ((sem call k).v env m2).bind fun vk m3 => (rdR m3 vk.nf).bind fun y m4 => (keyR y m4).bind fun y m5 => (optR (dLook kvs y) m5).bind fun z m6 => .ok (.d z) m6 := rfl
@[simp] theorem v_din (neg : Bool) (k : E) : (sem call (.din neg k e)).v env m = ((sem call k).v env m).bind fun vk m1 => ((sem call e).v env m1).bind fun vd m2 => (rdR m2 vk.nf).bind fun y m3 => (keyR y m3).bind fun y m4 => (dictR vd m4).bind fun kvs m5 => boolR (xor neg (dLook kvs y).isSome) m5 := rfl
@[simp] theorem t_din (neg : Bool) (k : E) : (sem call (.din neg k e)).t env m = ((sem call (.din neg k e)).v env m).bind truR := rfl
@[simp] theorem v_lc2 (own own1 : List Nat) (t t1 : Tg) (k k1 : Sk) (src1 tests1 : List E) : (sem call (.lc2 own own1 t k src tests t1 k1 src1 tests1 e)).v env m = (srcR k (sems call src) env m).bind fun p m1 => (lc2Loop t (sems call tests) (lcIn own1 t1 k1 (sems call src1) (sems call tests1) (sem call e)) p.2 (wipe env own) 0 p.1 m1).bind fun ys m2 => .ok (.fr ys) m2 := rfl
@[simp] theorem walk_enumT (xs : List PyData) : walk .enum [.tuple xs] = some (enumD 0 xs) := rfl
@[simp] theorem cItems_nil : cItems (sems call []) env m = .ok [] m := rfl
@[simp] theorem cItems_cons : cItems (sems call (e :: es)) env m = ((sem call e).v env m).bind fun v m1 => (frz v m1).bind fun x m2 => (cItems (sems call es) env m2).bind fun xs m3 => .ok (x :: xs) m3 := rfl
@[simp] theorem cArgs_nil : cArgs (sems call []) env m = .ok [] m := rfl
@[simp] theorem cArgs_cons : cArgs (sems call (e :: es)) env m = ((sem call e).v env m).bind fun v m1 => (cArgs (sems call es) env m1).bind fun vs m2 => .ok (v.nf :: vs) m2 := rfl
@[simp] theorem tAll_nil : tAll (sems call []) env m = .ok true m := rfl
@[simp] theorem tAll_one : tAll (sems call [e]) env m = (sem call e).t env m := by
  show ((sem call e).t env m).bind (fun t m1 => if t = true then Res.ok true m1 else .ok false m1) = _
  cases (sem call e).t env m with
  | ok t m1 => cases t <;> rfl
  | exc a b => rfl
  | fail => rfl
@[simp] theorem srcR_eq (k : Sk) : srcR k (sems call src) env m = (cArgs (sems call src) env m).bind fun vs m1 => (optR (lookAll m1 vs) m1).bind fun xs m2 => (optR (walk k xs) m2).bind fun is m3 => .ok (is, guards vs) m3 := rfl
@[simp] theorem lookAll_nil : lookAll m [] = some [] := rfl
@[simp] theorem lookAll_d (x : PyData) (r : List Val) : lookAll m (.d x :: r) = (lookAll m r).map (x :: ·) := by
  show (match some x, lookAll m r with | some x, some xs => some (x :: xs) | _, _ => none) = _
  cases lookAll m r <;> rfl
theorem lookAll_mr {k : Nat} {c : Cell} (h : m[k]? = some c) (r : List Val) : lookAll m (.mr k :: r) = (lookAll m r).map (.list c.xs :: ·) := by
  show (match (m[k]?).map fun c => PyData.list c.xs, lookAll m r with | some x, some xs => some (x :: xs) | _, _ => none) = _
  rw [h]
  cases lookAll m r <;> rfl
@[simp] theorem guards_nil : guards [] = [] := rfl
@[simp] theorem guards_d (x : PyData) (r : List Val) : guards (.d x :: r) = guards r := rfl
@[simp] theorem guards_mr (k : Nat) (r : List Val) : guards (.mr k :: r) = k :: guards r := rfl
@[simp] theorem walk_list (xs : List PyData) : walk .seq [.list xs] = some xs := rfl
@[simp] theorem walk_tuple (xs : List PyData) : walk .seq [.tuple xs] = some xs := rfl
@[simp] theorem walk_str (s : Str) : walk .seq [.str s] = some (signs s) := rfl
@[simp] theorem walk_zip (xs ys : List PyData) : walk .zip [.list xs, .list ys] = some (zipD xs ys) := rfl
@[simp] theorem walk_zipT (xs ys : List PyData) : walk .zip [.tuple xs, .tuple ys] = some (zipD xs ys) := rfl
@[simp] theorem walk_enum (xs : List PyData) : walk .enum [.list xs] = some (enumD 0 xs) := rfl
theorem walk_range {n : Nat} (h : n ≤ 1000000) : walk .range [.int n] = some (rangeD 0 n) := by
  unfold walk
  simp only
  rw [if_pos ⟨by omega, by omega⟩, Int.toNat_natCast]
@[simp] theorem same_nil (m' : Mem) : same [] m m' = true := rfl
@[simp] theorem asg_nm_zero (x : PyData) (u : Option Val) (r : Env) : asg (.nm 0) x (u :: r) = some (some (.d x) :: r) := by simp [asg]
@[simp] theorem asg_nm (k : Nat) (x : PyData) : asg (.nm k) x env = if k < env.length then some (setV env k (.d x)) else none := by simp [asg]
@[simp] theorem asg_tp (ts : List Tg) (xs : List PyData) : asg (.tp ts) (.tuple xs) env = asgs ts xs env := by simp [asg]
@[simp] theorem asg_tl (ts : List Tg) (xs : List PyData) : asg (.tp ts) (.list xs) env = asgs ts xs env := by simp [asg]
@[simp] theorem asgs_nil : asgs [] [] env = some env := by simp [asgs]
@[simp] theorem asgs_cons (t : Tg) (ts : List Tg) (x : PyData) (xs : List PyData) : asgs (t :: ts) (x :: xs) env = (asg t x env).bind fun env' => asgs ts xs env' := by
  rw [asgs]
  cases asg t x env <;> rfl
/-! statements -/
def nextF (b : EX) (f : Flow) (m : Mem) : Res Flow := match f with
  | .next env' => b env' m
  | f => .ok f m
@[simp] theorem nextF_next (b : EX) : nextF b (.next env) m = b env m := rfl
@[simp] theorem nextF_ret (b : EX) (v : Val) : nextF b (.ret v) m = .ok (.ret v) m := rfl
variable (s : S) (r body els : List S)
@[simp] theorem exB_nil : exB call wf [] env m = .ok (.next env) m := rfl
@[simp] theorem exB_cons : exB call wf (s :: r) env m = (exS call wf s env m).bind (nextF (exB call wf r)) := by
  show ((exS call wf s env m).bind fun f m1 => match f with | .next env' => exB call wf r env' m1 | f => .ok f m1) = _
  rfl
@[simp] theorem x_expr : exS call wf (.expr e) env m = ((sem call e).v env m).noX.bind fun _ m1 => .ok (.next env) m1 := rfl
@[simp] theorem setIn_eq (k : Nat) (v : Val) : setIn env k v m = if k < env.length then .ok (.next (setV env k v)) m else .fail := rfl
@[simp] theorem x_set (k : Nat) (cl : Bool) : exS call wf (.set k cl e) env m = ((sem call e).v env m).noX.bind fun v m1 => (stored cl v m1).bind fun v' m2 => setIn env k v' m2 := rfl
def asgR (o : Option Env) (m : Mem) : Res Flow := match o with
  | some env' => .ok (.next env') m
  | none => .fail
@[simp] theorem asgR_some : asgR (some env) m = .ok (.next env) m := rfl
def asgV (t : Tg) (env : Env) (v : Val) (m : Mem) : Res Flow := match v with
  | .d x => asgR (asg t x env) m
  | _ => .fail
@[simp] theorem asgV_d (t : Tg) (x : PyData) : asgV t env (.d x) m = asgR (asg t x env) m := rfl
@[simp] theorem x_setT (t : Tg) : exS call wf (.setT t e) env m = ((sem call e).v env m).noX.bind fun v m1 => asgV t env v.nf m1 := rfl
@[simp] theorem x_par (is : List (Nat × Bool)) : exS call wf (.par is es) env m = (parV is (sems call es) env m).noX.bind fun vs m1 => setAll is vs env m1 := rfl
@[simp] theorem parV_nil : parV [] (sems call []) env m = .ok [] m := rfl
@[simp] theorem parV_cons (k : Nat) (cl : Bool) (is : List (Nat × Bool)) : parV ((k, cl) :: is) (sems call (e :: es)) env m = ((sem call e).v env m).bind fun v m1 => (stored cl v m1).bind fun v' m2 => (parV is (sems call es) env m2).bind fun vs m3 => .ok (v' :: vs) m3 := rfl
@[simp] theorem setAll_nil : setAll [] [] env m = .ok (.next env) m := rfl
@[simp] theorem setAll_cons (k : Nat) (cl : Bool) (is : List (Nat × Bool)) (v : Val) (vs : List Val) : setAll ((k, cl) :: is) (v :: vs) env m = if k < env.length then setAll is vs (setV env k v) m else .fail := rfl
@[simp] theorem x_ret : exS call wf (.ret e) env m = ((sem call e).v env m).noX.bind fun v m1 => .ok (.ret v) m1 := rfl
@[simp] theorem x_iff : exS call wf (.iff e body els) env m = ((sem call e).t env m).noX.bind fun t m1 => if t = true then exB call wf body env m1 else exB call wf els env m1 := rfl
@[simp] theorem x_for (t : Tg) (k : Sk) : exS call wf (.for t k src body) env m = (srcR k (sems call src) env m).noX.bind fun p m1 => forLoop t (exB call wf body) p.2 p.1 env m1 := rfl
@[simp] theorem x_while : exS call wf (.while e body) env m = whileLoop (sem call e) (exB call wf body) wf env m := rfl
@[simp] theorem onCell_mr {k : Nat} {rr : Res Flow} {j : Nat} (h : getV env k = some (.mr j)) : onCell env k rr = rr := by
  unfold onCell; rw [h]
theorem upCell_mr {k j : Nat} {f : List PyData → Option (List PyData)} {xs ys : List PyData} (h : getV env k = some (.mr j)) (hm : m[j]? = some ⟨false, xs⟩) (hf : f xs = some ys) : upCell env k f m = .ok (.next env) (m.set j ⟨false, ys⟩) := by
  unfold upCell; rw [h]; simp only; rw [hm]; simp only [if_true]; rw [hf]
@[simp] theorem x_app (k : Nat) : exS call wf (.app k e) env m = onCell env k (((sem call e).v env m).noX.bind fun v m1 => (frz v m1).bind fun x m2 => upCell env k (fun xs => if xs.length < lim then some (xs ++ [x]) else none) m2) := rfl
@[simp] theorem x_put (k : Nat) : exS call wf (.put k i e) env m = ((sem call e).v env m).noX.bind fun v m1 => (frz v m1).bind fun x m2 => onCell env k (((sem call i).v env m2).noX.bind fun vj m3 => (rdR m3 vj.nf).bind fun y m4 => upCell env k (putD y x) m4) := rfl
end
def endF (n : Nat) (fl : Flow) (m : Mem) : Res Val := match fl with
  | .ret v => leave n v m
  | .next _ => .ok (.d .none) (m.take n)
  | _ => .fail
@[simp] theorem endF_ret (n : Nat) (v : Val) (m : Mem) : endF n (.ret v) m = leave n v m := rfl
@[simp] theorem leave_d (n : Nat) (x : PyData) (m : Mem) : leave n (.d x) m = .ok (.d x) (m.take n) := rfl
@[simp] theorem leave_fr (n : Nat) (x : List PyData) (m : Mem) : leave n (.fr x) m = .ok (.fr x) (m.take n) := rfl
theorem leave_new {n k : Nat} {m : Mem} {xs : List PyData} (h : m[k]? = some ⟨false, xs⟩) (hn : n ≤ k) : leave n (.mr k) m = .ok (.fr xs) (m.take n) := by
  unfold leave
  simp only
  rw [if_neg (by omega), h]
  simp
theorem run_succ {T : List Fn} {wf n f : Nat} {vs : List Val} {m : Mem} (F : Fn) (hF : T[f]? = some F) (hl : vs.length = F.ps) (hp : F.ps ≤ F.n) :
    run T wf (n + 1) f vs m = ((exB (run T wf n) wf F.body (vs.map some ++ List.replicate (F.n - F.ps) none) m).cutX m.length).bind (endF m.length) := by
  unfold run
  simp only [hF, hl, hp, and_self, if_true]
  rfl
/-! loops -/
theorem lc2Loop_pure {t : Tg} {tests : List P} {inner : Nat → Env → Mem → Res (List PyData)} {gs : List Nat} {env : Env} {m : Mem} (p : PyData → Bool) (f : PyData → List PyData) (hg : same gs m m = true) : ∀ {xs : List PyData} {n : Nat} (B : Nat), (n + ((xs.filter p).flatMap f).length ≤ B) →
    (∀ x ∈ xs, ∃ env', asg t x env = some env' ∧ tAll tests env' m = .ok (p x) m ∧ (p x = true → ∀ n, n + (f x).length ≤ B → inner n env' m = .ok (f x) m)) → lc2Loop t tests inner gs env n xs m = .ok ((xs.filter p).flatMap f) m
  | [], n, B, _, _ => rfl
  | x :: xs, n, B, hB, h => by
    obtain ⟨env', h1, h2, h3⟩ := h x List.mem_cons_self
    unfold lc2Loop
    rw [h1]
    simp only [h2, Res.bind_ok]
    cases hp : p x with
    | false =>
      rw [List.filter_cons_of_neg (by simp [hp])] at hB ⊢
      simp [hg, lc2Loop_pure (t := t) (tests := tests) (inner := inner) (env := env) p f hg (xs := xs) B hB fun y hy => h y (List.mem_cons_of_mem _ hy)]
    | true =>
      rw [List.filter_cons_of_pos hp, List.flatMap_cons, List.length_append] at hB
      simp only [if_true, h3 hp n (by omega), Res.bind_ok, hg]
      rw [lc2Loop_pure (t := t) (tests := tests) (inner := inner) (env := env) p f hg (xs := xs) B (by omega) fun y hy => h y (List.mem_cons_of_mem _ hy)]
      rw [List.filter_cons_of_pos hp, List.flatMap_cons]
      rfl
theorem lcLoop_pure {t : Tg} {tests : List P} {elt : P} {gs : List Nat} {env : Env} {m : Mem} (p : PyData → Bool) (f : PyData → PyData) (hg : same gs m m = true) : ∀ {xs : List PyData},
    (∀ x ∈ xs, ∃ env', asg t x env = some env' ∧ tAll tests env' m = .ok (p x) m ∧ (p x = true → ∃ v, elt.v env' m = .ok v m ∧ frz v m = .ok (f x) m)) → lcLoop t tests elt gs env xs m = .ok ((xs.filter p).map f) m
  | [], _ => rfl
  | x :: xs, h => by
    obtain ⟨env', h1, h2, h3⟩ := h x List.mem_cons_self
    have ih := lcLoop_pure (t := t) (tests := tests) (elt := elt) (env := env) p f hg (xs := xs) fun y hy => h y (List.mem_cons_of_mem _ hy)
    unfold lcLoop
    rw [h1]
    simp only [h2, Res.bind_ok]
    cases hp : p x with
    | false => simp [hg, ih, hp]
    | true =>
      obtain ⟨v, h4, h5⟩ := h3 hp
      simp [h4, h5, hg, ih, hp]
theorem lcLoop_inv {t : Tg} {elt : P} {gs : List Nat} {env : Env} (J : Nat → Mem → Prop) (Pr : PyData → Prop) : ∀ {xs : List PyData} (n0 : Nat) {m : Mem},
    (∀ i x, xs[i]? = some x → ∀ m, J (n0 + i) m → ∃ env' v m2 y m3, asg t x env = some env' ∧ elt.v env' m = .ok v m2 ∧ frz v m2 = .ok y m3 ∧ same gs m m3 = true ∧ J (n0 + i + 1) m3 ∧ Pr y) → J n0 m →
    ∃ ys m', lcLoop t [] elt gs env xs m = .ok ys m' ∧ ys.length = xs.length ∧ (∀ y ∈ ys, Pr y) ∧ J (n0 + xs.length) m'
  | [], n0, m, _, h0 => ⟨[], m, rfl, rfl, by simp, by simpa using h0⟩
  | x :: xs, n0, m, h, h0 => by
    obtain ⟨env', v, m2, y, m3, a1, a2, a3, a4, a5, a6⟩ := h 0 x rfl m (by simpa using h0)
    obtain ⟨ys, m', b1, b2, b3, b4⟩ := lcLoop_inv J Pr (xs := xs) (n0 + 1) (m := m3) (fun i z hz m hm => by
      obtain ⟨env', v, m2, y, m3, c1, c2, c3, c4, c5, c6⟩ := h (i + 1) z (by simpa using hz) m (by rw [show n0 + (i + 1) = n0 + 1 + i by omega]; exact hm)
      exact ⟨env', v, m2, y, m3, c1, c2, c3, c4, by rw [show n0 + 1 + i + 1 = n0 + (i + 1) + 1 by omega]; exact c5, c6⟩) (by simpa using a5)
    refine ⟨y :: ys, m', ?_, by simp [b2], fun z hz => ?_, by rw [List.length_cons, show n0 + (xs.length + 1) = n0 + 1 + xs.length by omega]; exact b4⟩
    · unfold lcLoop
      rw [a1]
      simp [tAll, a2, a3, a4, b1]
    · rcases List.mem_cons.mp hz with rfl | hz
      · exact a6
      · exact b3 z hz
theorem forLoop_inv {t : Tg} {body : EX} {gs : List Nat} (J : Nat → Env → Mem → Prop) : ∀ {xs : List PyData} (n0 : Nat) {env : Env} {m : Mem},
    (∀ i x, xs[i]? = some x → ∀ env m, J (n0 + i) env m → ∃ env1 env2 m2, asg t x env = some env1 ∧ body env1 m = .ok (.next env2) m2 ∧ same gs m m2 = true ∧ J (n0 + i + 1) env2 m2) → J n0 env m →
    ∃ env' m', forLoop t body gs xs env m = .ok (.next env') m' ∧ J (n0 + xs.length) env' m'
  | [], n0, env, m, _, h0 => ⟨env, m, rfl, by simpa using h0⟩
  | x :: xs, n0, env, m, h, h0 => by
    obtain ⟨env1, env2, m2, a1, a2, a3, a4⟩ := h 0 x rfl env m (by simpa using h0)
    obtain ⟨env', m', b1, b2⟩ := forLoop_inv J (xs := xs) (n0 + 1) (env := env2) (m := m2) (fun i z hz env m hm => by
      obtain ⟨e1, e2, m2, c1, c2, c3, c4⟩ := h (i + 1) z (by simpa using hz) env m (by rw [show n0 + (i + 1) = n0 + 1 + i by omega]; exact hm)
      exact ⟨e1, e2, m2, c1, c2, c3, by rw [show n0 + 1 + i + 1 = n0 + (i + 1) + 1 by omega]; exact c4⟩) (by simpa using a4)
    refine ⟨env', m', ?_, by rw [List.length_cons, show n0 + (xs.length + 1) = n0 + 1 + xs.length by omega]; exact b2⟩
    unfold forLoop
    rw [a1]
    simp only [a2, Res.bind_ok, a3, if_true]
    exact b1
@[simp] theorem bind_ite {α β : Type} (c : Prop) [Decidable c] (a b : Res α) (f : α → Mem → Res β) : (if c then a else b).bind f = if c then a.bind f else b.bind f := by split <;> rfl
theorem lcLoop_map {t : Tg} {call : Call} {elt : P} {gs : List Nat} {env : Env} {m : Mem} (f : PyData → PyData) (hg : same gs m m = true) {xs : List PyData}
    (h : ∀ x ∈ xs, ∃ env', asg t x env = some env' ∧ ∃ v, elt.v env' m = .ok v m ∧ frz v m = .ok (f x) m) : lcLoop t (sems call []) elt gs env xs m = .ok (xs.map f) m := by
  rw [lcLoop_pure (fun _ => true) f hg]
  · rw [List.filter_eq_self.mpr fun _ _ => rfl]
  · intro x hx
    obtain ⟨env', h1, h2⟩ := h x hx
    exact ⟨env', h1, rfl, fun _ => h2⟩
theorem bools_map {α : Type} (f : α → Bool) : ∀ xs : List α, bools (xs.map fun x => PyData.bool (f x)) = some (xs.map f)
  | [] => rfl
  | x :: xs => by
    show (bools (xs.map fun x => PyData.bool (f x))).map (f x :: ·) = _
    rw [bools_map f xs]; rfl
/-- all, closed to simp -/
def allB {α : Type} (xs : List α) (f : α → Bool) : Bool := xs.all f
theorem allB_eq {α : Type} (xs : List α) (f : α → Bool) : allB xs f = xs.all f := rfl
theorem allB_at {α : Type} {xs : List α} {f : α → Bool} (h : allB xs f = true) {x : α} (hx : x ∈ xs) : f x = true := List.all_eq_true.mp h x hx
theorem allB_of {α : Type} {xs : List α} {f : α → Bool} (h : ∀ x ∈ xs, f x = true) : allB xs f = true := List.all_eq_true.mpr h
theorem allB_congr {α : Type} {xs : List α} {f g : α → Bool} (h : ∀ x ∈ xs, f x = g x) : allB xs f = allB xs g := by
  rw [Bool.eq_iff_iff, allB_eq, allB_eq, List.all_eq_true, List.all_eq_true]
  exact ⟨fun q x hx => by rw [← h x hx]; exact q x hx, fun q x hx => by rw [h x hx]; exact q x hx⟩
/-- a filter that leaves nothing -/
theorem filter_none {α : Type} (xs : List α) (f : α → Bool) : (xs.filter fun x => !f x).isEmpty = allB xs f := by
  rw [allB_eq, Bool.eq_iff_iff, List.isEmpty_iff, List.filter_eq_nil_iff, List.all_eq_true]
  simp
@[simp] theorem wipe_nil (env : Env) : wipe env [] = env := rfl
@[simp] theorem wipe_cons (env : Env) (i : Nat) (r : List Nat) : wipe env (i :: r) = (wipe env r).set i none := rfl
@[simp] theorem allD_map {α : Type} (f : α → Bool) (xs : List α) : allD [.list (xs.map fun x => PyData.bool (f x))] = some (.d (.bool (allB xs f))) := by
  show (bools (xs.map fun x => PyData.bool (f x))).map _ = _
  rw [bools_map, Option.map_some, List.all_map]; rfl
@[simp] theorem bi_all (x : List PyData) : bi .all x = allD x := rfl
@[simp] theorem bi_len (x : List PyData) : bi .len x = lenD x := rfl
@[simp] theorem len_list (x : List PyData) : lenD [.list x] = some (.d (.int x.length)) := rfl
@[simp] theorem len_tuple (x : List PyData) : lenD [.tuple x] = some (.d (.int x.length)) := rfl
@[simp] theorem len_str (x : Str) : lenD [.str x] = some (.d (.int x.length)) := rfl
theorem eqv_int (i j : Int) : PyData.eqv (.int i) (.int j) = (i == j) := by simp [PyData.eqv]
theorem depth_int (i : Int) : (PyData.int i).depth = 0 := by simp [PyData.depth]
@[simp] theorem cmp_eqI (i j : Int) : cmp .eq (.int i) (.int j) = some (i == j) := by simp [cmp, deep, depth_int, eqv_int]
@[simp] theorem cmp_neI (i j : Int) : cmp .ne (.int i) (.int j) = some (!(i == j)) := by simp [cmp, deep, depth_int, eqv_int]
@[simp] theorem cmp_leI (i j : Int) : cmp .le (.int i) (.int j) = some (decide (i ≤ j)) := rfl
@[simp] theorem cmp_ltI (i j : Int) : cmp .lt (.int i) (.int j) = some (decide (i < j)) := rfl
@[simp] theorem cmp_gtI (i j : Int) : cmp .gt (.int i) (.int j) = some (decide (j < i)) := rfl
@[simp] theorem cmp_geI (i j : Int) : cmp .ge (.int i) (.int j) = some (decide (j ≤ i)) := rfl
@[simp] theorem cmp_ltS (i j : Str) : cmp .lt (.str i) (.str j) = some (strLt i j) := rfl
theorem depth_nil : (PyData.list []).depth ≤ 64 := by simp [PyData.depth, PyData.depthAll]
theorem eqv_nil (xs : List PyData) : PyData.eqv (.list xs) (.list []) = xs.isEmpty := by cases xs <;> simp [PyData.eqv, PyData.eqvAll]
/-- empty, closed to simp -/
def emp {α : Type} (xs : List α) : Bool := xs.isEmpty
@[simp] theorem emp_map {α β : Type} (f : α → β) (xs : List α) : emp (xs.map f) = emp xs := by cases xs <;> rfl
@[simp] theorem emp_filter {α : Type} (xs : List α) (f : α → Bool) : emp (xs.filter fun x => !f x) = allB xs f := filter_none xs f
@[simp] theorem cmp_eqNil (xs : List PyData) : cmp .eq (.list xs) (.list []) = some (emp xs) := by
  have h := depth_nil
  have hd : deep (.list xs) (.list []) = true := decide_eq_true (by omega)
  simp only [cmp, hd, eqv_nil, if_true]
  rfl
@[simp] theorem cmp_neNil (xs : List PyData) : cmp .ne (.list xs) (.list []) = some (!emp xs) := by
  have h := depth_nil
  have hd : deep (.list xs) (.list []) = true := decide_eq_true (by omega)
  simp only [cmp, hd, eqv_nil, if_true]
  rfl
@[simp] theorem v_pop (call : Call) (i : Nat) (e : E) (env : Env) (m : Mem) : (sem call (.pop i e)).v env m = cPop i (sem call e) env m := rfl
theorem cPop_mr {p : P} {env : Env} {m m1 : Mem} {i k : Nat} {j : Int} {xs : List PyData} {y : PyData} (h1 : getV env i = some (.mr k)) (h2 : p.v env m = .ok (.d (.int j)) m1) (h3 : m1[k]? = some ⟨false, xs⟩) (h4 : 0 ≤ j) (h5 : j < xs.length) (h6 : xs[j.toNat]? = some y) :
    cPop i p env m = .ok (.d y) (m1.set k ⟨false, xs.eraseIdx j.toNat⟩) := by
  unfold cPop
  rw [h1]
  simp only [h2, Res.bind_ok, nf_d, rdR_d, h3]
  rw [if_pos ⟨by trivial, h4, h5⟩, h6]
@[simp] theorem bi_list (x : List PyData) : bi .list x = listD x := rfl
@[simp] theorem bi_tuple (x : List PyData) : bi .tuple x = tupleD x := rfl
@[simp] theorem listD_list (x : List PyData) : listD [.list x] = some (.fr x) := rfl
@[simp] theorem listD_tuple (x : List PyData) : listD [.tuple x] = some (.fr x) := rfl
@[simp] theorem listD_str (x : Str) : listD [.str x] = some (.fr (signs x)) := rfl
@[simp] theorem tupleD_list (x : List PyData) : tupleD [.list x] = some (.d (.tuple x)) := rfl
@[simp] theorem tupleD_tuple (x : List PyData) : tupleD [.tuple x] = some (.d (.tuple x)) := rfl
@[simp] theorem bi_min2 (i j : Int) : bi .min2 [.int i, .int j] = some (.d (.int (if j < i then j else i))) := rfl
@[simp] theorem bi_abs (i : Int) : bi .abs [.int i] = some (.d (.int (if i < 0 then -i else i))) := rfl
@[simp] theorem bi_intI (i : Int) : bi .int [.int i] = some (.d (.int i)) := rfl
@[simp] theorem bi_intB (b : Bool) : bi .int [.bool b] = some (.d (.int (if b then 1 else 0))) := rfl
theorem rangeD_len (n : Nat) : ∀ lo, (rangeD lo n).length = n := by
  induction n with
  | zero => intro lo; rfl
  | succ n ih => intro lo; rw [rangeD, List.length_cons, ih]
theorem rangeD_at (n : Nat) : ∀ (lo : Int) (i : Nat) (x : PyData), (rangeD lo n)[i]? = some x → x = .int (lo + i) ∧ i < n := by
  induction n with
  | zero => intro lo i x h; simp [rangeD] at h
  | succ n ih =>
    intro lo i x h
    rw [rangeD] at h
    cases i with
    | zero => simp at h; exact ⟨by rw [← h]; simp, by omega⟩
    | succ i =>
      obtain ⟨h1, h2⟩ := ih (lo + 1) i x (by simpa using h)
      exact ⟨by rw [h1, show lo + 1 + (i : Int) = lo + ((i + 1 : Nat) : Int) by omega], by omega⟩
mutual
theorem beqD_refl : ∀ x : PyData, beqD x x = true
  | .none => by simp [beqD]
  | .bool _ => by simp [beqD]
  | .int _ => by simp [beqD]
  | .str _ => by simp [beqD]
  | .list xs => by rw [beqD]; exact beqDs_refl xs
  | .tuple xs => by rw [beqD]; exact beqDs_refl xs
  | .dict xs => by rw [beqD]; exact beqPs_refl xs
theorem beqDs_refl : ∀ xs : List PyData, beqDs xs xs = true
  | [] => by simp [beqDs]
  | x :: xs => by rw [beqDs, beqD_refl x, beqDs_refl xs]; rfl
theorem beqPs_refl : ∀ xs : List (PyData × PyData), beqPs xs xs = true
  | [] => by simp [beqPs]
  | (x, u) :: xs => by rw [beqPs, beqD_refl x, beqD_refl u, beqPs_refl xs]; rfl
end
theorem same_of {m m' : Mem} : ∀ {gs : List Nat}, (∀ k ∈ gs, ∃ c c', m[k]? = some c ∧ m'[k]? = some c' ∧ c.xs = c'.xs) → same gs m m' = true
  | [], _ => rfl
  | k :: r, h => by
    obtain ⟨c, c', h1, h2, h3⟩ := h k List.mem_cons_self
    rw [same, h1, h2]
    simp only [h3, beqDs_refl, Bool.true_and]
    exact same_of fun j hj => h j (List.mem_cons_of_mem _ hj)
end Ra.M


set_option Elab.async false
set_option linter.all false
set_option maxRecDepth 100000
/-! plans: the plain law -/
namespace Ra.K3
open PySem
structure Sp where
  nm : Str
  me : Str
  rd : List Str
  sh : Str
  cd : List (Str × Int)
  deriving DecidableEq
def holdB (cd : List (Str × Int)) (V : List Str) : Bool := cd.all fun p => decide (p.1 ∈ V) == (p.2 == 1)
def lookC (cd : List (Str × Int)) (f : Str) : Option Int := (cd.find? fun p => p.1 == f).map (·.2)
def clashB (c1 c2 : List (Str × Int)) : Bool := c2.any fun p => (lookC c1 p.1).getD p.2 != p.2
def feedB (a b : Sp) : Bool := decide (a.sh ∈ b.rd)
def goB (a b : Sp) : Bool := feedB a b && !clashB a.cd b.cd
structure OkC (cd : List (Str × Int)) : Prop where
  nd : (cd.map (·.1)).Nodup
  bit : ∀ p ∈ cd, p.2 = 0 ∨ p.2 = 1
theorem inj_of_nodup {α β : Type} (f : α → β) : ∀ {l : List α}, (l.map f).Nodup → ∀ {a b}, a ∈ l → b ∈ l → f a = f b → a = b
  | [], _, _, _, h, _, _ => by cases h
  | x :: l, h, a, b, ha, hb, e => by
    rw [List.map_cons, List.nodup_cons] at h
    rcases List.mem_cons.mp ha with rfl | ha' <;> rcases List.mem_cons.mp hb with rfl | hb'
    · rfl
    · exact absurd (List.mem_map.mpr ⟨b, hb', e.symm⟩) h.1
    · exact absurd (List.mem_map.mpr ⟨a, ha', e⟩) h.1
    · exact inj_of_nodup f h.2 ha' hb' e
theorem look_some {cd : List (Str × Int)} {f : Str} {a : Int} (h : lookC cd f = some a) : (f, a) ∈ cd := by
  unfold lookC at h
  obtain ⟨p, h1, h2⟩ := Option.map_eq_some_iff.mp h
  have h3 := List.mem_of_find?_eq_some h1
  have h4 := List.find?_some h1
  have e : p.1 = f := by simpa using h4
  subst h2 e
  exact h3
theorem look_none {cd : List (Str × Int)} {f : Str} (h : lookC cd f = none) (a : Int) : (f, a) ∉ cd := by
  unfold lookC at h
  rw [Option.map_eq_none_iff, List.find?_eq_none] at h
  intro hm
  have := h _ hm
  simp at this
theorem look_mem {cd : List (Str × Int)} (h : (cd.map (·.1)).Nodup) {f : Str} {a : Int} (hm : (f, a) ∈ cd) : lookC cd f = some a := by
  cases e : lookC cd f with
  | none => exact absurd hm (look_none e a)
  | some b =>
    have := inj_of_nodup (·.1) h hm (look_some e) rfl
    cases this; rfl
theorem clash_iff {c1 c2 : List (Str × Int)} (h : OkC c1) : clashB c1 c2 = true ↔ ∃ f a b, (f, a) ∈ c1 ∧ (f, b) ∈ c2 ∧ a ≠ b := by
  unfold clashB
  rw [List.any_eq_true]
  constructor
  · rintro ⟨⟨f, b⟩, hm, hn⟩
    cases e : lookC c1 f with
    | none => simp [e] at hn
    | some a => exact ⟨f, a, b, look_some e, hm, by simpa [e] using hn⟩
  · rintro ⟨f, a, b, h1, h2, h3⟩
    exact ⟨(f, b), h2, by simpa [look_mem h.nd h1] using h3⟩
theorem hold_iff {cd : List (Str × Int)} {V : List Str} : holdB cd V = true ↔ ∀ f a, (f, a) ∈ cd → (f ∈ V ↔ a = 1) := by
  unfold holdB
  rw [List.all_eq_true]
  constructor
  · intro h f a hm
    have := h _ hm
    simp only [beq_iff_eq] at this
    rw [Bool.eq_iff_iff] at this
    simpa using this
  · rintro h ⟨f, a⟩ hm
    have := h f a hm
    simp only [beq_iff_eq]
    rw [Bool.eq_iff_iff]
    simpa using this
theorem same_of_hold {c1 c2 : List (Str × Int)} {V : List Str} (k1 : OkC c1) (k2 : OkC c2) (h1 : holdB c1 V = true) (h2 : holdB c2 V = true) {f : Str} {a b : Int} (m1 : (f, a) ∈ c1) (m2 : (f, b) ∈ c2) : a = b := by
  have e1 := hold_iff.mp h1 f a m1
  have e2 := hold_iff.mp h2 f b m2
  have b1 := k1.bit _ m1
  have b2 := k2.bit _ m2
  simp only at b1 b2
  rcases b1 with rfl | rfl
  · rcases b2 with rfl | rfl
    · rfl
    · exact e1.mp (e2.mpr rfl)
  · rcases b2 with rfl | rfl
    · exact (e2.mp (e1.mpr rfl)).symm
    · rfl
theorem noclash {c1 c2 : List (Str × Int)} {V : List Str} (k1 : OkC c1) (k2 : OkC c2) (h1 : holdB c1 V = true) (h2 : holdB c2 V = true) : clashB c1 c2 = false := by
  rw [Bool.eq_false_iff]
  intro h
  obtain ⟨f, a, b, m1, m2, hn⟩ := (clash_iff k1).mp h
  exact hn (same_of_hold k1 k2 h1 h2 m1 m2)
/-- the flags that are on -/
def meetF (L : List Sp) : List Str := L.flatMap fun s => (s.cd.filter fun p => p.2 == 1).map (·.1)
theorem mem_meet {L : List Sp} {f : Str} : f ∈ meetF L ↔ ∃ s ∈ L, (f, 1) ∈ s.cd := by
  unfold meetF
  rw [List.mem_flatMap]
  constructor
  · rintro ⟨s, hs, h⟩
    obtain ⟨⟨g, a⟩, h1, h2⟩ := List.mem_map.mp h
    obtain ⟨h3, h4⟩ := List.mem_filter.mp h1
    have e : a = 1 := by simpa using h4
    simp only at h2
    subst e h2
    exact ⟨s, hs, h3⟩
  · rintro ⟨s, hs, h⟩
    exact ⟨s, hs, List.mem_map.mpr ⟨(f, 1), List.mem_filter.mpr ⟨h, by simp⟩, rfl⟩⟩
theorem hold_meet {L : List Sp} {V : List Str} (hV : ∀ f, f ∈ V ↔ f ∈ meetF L) (h : ∀ s ∈ L, ∀ t ∈ L, ∀ f a b, (f, a) ∈ s.cd → (f, b) ∈ t.cd → a = b) : ∀ s ∈ L, holdB s.cd V = true := by
  intro s hs
  rw [hold_iff]
  intro f a hm
  rw [hV, mem_meet]
  constructor
  · rintro ⟨t, ht, h1⟩
    exact h s hs t ht f a 1 hm h1
  · rintro rfl
    exact ⟨s, hs, hm⟩
/-! rings -/
def RS (L : List Sp) : Prop := ∃ Q : List Sp, Q ≠ [] ∧ (∀ s ∈ Q, s ∈ L) ∧ ∀ s ∈ Q, ∃ t ∈ Q, feedB t s = true
def Ring (V : List Str) (L : List Sp) : Prop := ∃ Q : List Sp, Q ≠ [] ∧ (∀ s ∈ Q, s ∈ L ∧ holdB s.cd V = true) ∧ ∀ s ∈ Q, ∃ t ∈ Q, feedB t s = true
theorem ring_rs {V : List Str} {L : List Sp} : Ring V L ↔ RS (L.filter fun s => holdB s.cd V) := by
  constructor
  · rintro ⟨Q, h1, h2, h3⟩
    exact ⟨Q, h1, fun s hs => List.mem_filter.mpr (h2 s hs), h3⟩
  · rintro ⟨Q, h1, h2, h3⟩
    exact ⟨Q, h1, fun s hs => List.mem_filter.mp (h2 s hs), h3⟩
def aheadC (L : List Sp) : List Sp := L.filter fun s => L.any fun o => goB o s
def backC (L : List Sp) : List Sp := L.filter fun s => L.any fun o => goB s o
def stepC (L : List Sp) : List Sp := backC (aheadC L)
theorem mem_ahead {L : List Sp} {s : Sp} : s ∈ aheadC L ↔ s ∈ L ∧ ∃ o ∈ L, goB o s = true := by
  unfold aheadC
  rw [List.mem_filter, List.any_eq_true]
theorem mem_back {L : List Sp} {s : Sp} : s ∈ backC L ↔ s ∈ L ∧ ∃ o ∈ L, goB s o = true := by
  unfold backC
  rw [List.mem_filter, List.any_eq_true]
theorem step_sub (L : List Sp) : (stepC L).Sublist L := List.Sublist.trans List.filter_sublist List.filter_sublist
theorem go_of {V : List Str} {L : List Sp} (hL : ∀ s ∈ L, OkC s.cd) {a b : Sp} (ha : a ∈ L ∧ holdB a.cd V = true) (hb : b ∈ L ∧ holdB b.cd V = true) (h : feedB a b = true) : goB a b = true := by
  unfold goB
  rw [h, noclash (hL a ha.1) (hL b hb.1) ha.2 hb.2]
  rfl
theorem ring_step {V : List Str} {L : List Sp} (hL : ∀ s ∈ L, OkC s.cd) (h : Ring V L) : Ring V (stepC L) := by
  obtain ⟨Q, h1, h2, h3⟩ := h
  have hA : ∀ s ∈ Q, s ∈ aheadC L := fun s hs => by
    obtain ⟨t, ht, hf⟩ := h3 s hs
    exact mem_ahead.mpr ⟨(h2 s hs).1, t, (h2 t ht).1, go_of hL (h2 t ht) (h2 s hs) hf⟩
  refine ⟨Q.filter fun s => Q.any fun o => feedB s o, ?_, fun s hs => ?_, fun s hs => ?_⟩
  · obtain ⟨s, hs⟩ := List.exists_mem_of_ne_nil Q h1
    obtain ⟨t, ht, hf⟩ := h3 s hs
    exact List.ne_nil_of_mem (List.mem_filter.mpr ⟨ht, List.any_eq_true.mpr ⟨s, hs, hf⟩⟩)
  · obtain ⟨hq, ha⟩ := List.mem_filter.mp hs
    obtain ⟨o, ho, hf⟩ := List.any_eq_true.mp ha
    exact ⟨mem_back.mpr ⟨hA s hq, o, hA o ho, go_of hL (h2 s hq) (h2 o ho) hf⟩, (h2 s hq).2⟩
  · obtain ⟨hq, _⟩ := List.mem_filter.mp hs
    obtain ⟨t, ht, hf⟩ := h3 s hq
    exact ⟨t, List.mem_filter.mpr ⟨ht, List.any_eq_true.mpr ⟨s, hq, hf⟩⟩, hf⟩
def iterN (f : List Sp → List Sp) : Nat → List Sp → List Sp
  | 0, L => L
  | n + 1, L => iterN f n (f L)
theorem iterN_succ (f : List Sp → List Sp) : ∀ n L, iterN f (n + 1) L = f (iterN f n L)
  | 0, _ => rfl
  | n + 1, L => by
    rw [iterN, iterN_succ f n (f L)]
    rfl
theorem iter_sub : ∀ n L, (iterN stepC n L).Sublist L
  | 0, L => List.Sublist.refl L
  | n + 1, L => (iter_sub n (stepC L)).trans (step_sub L)
theorem iter_ring {V : List Str} : ∀ n L, (∀ s ∈ L, OkC s.cd) → Ring V L → Ring V (iterN stepC n L)
  | 0, _, _, h => h
  | n + 1, L, hL, h => iter_ring n (stepC L) (fun s hs => hL s ((step_sub L).subset hs)) (ring_step hL h)
theorem iter_same {L : List Sp} (h : stepC L = L) : ∀ n, iterN stepC n L = L
  | 0 => rfl
  | n + 1 => by rw [iterN, h, iter_same h n]
theorem iter_fix : ∀ n L, L.length ≤ n → stepC (iterN stepC n L) = iterN stepC n L
  | 0, L, h => by
    have : L = [] := List.length_eq_zero_iff.mp (by omega)
    subst this; rfl
  | n + 1, L, h => by
    by_cases e : stepC L = L
    · rw [iter_same e, e]
    · have hs := step_sub L
      have hl := hs.length_le
      have : (stepC L).length ≠ L.length := fun q => e (hs.eq_of_length q)
      rw [iterN]
      exact iter_fix n (stepC L) (by omega)
def core (L : List Sp) : List Sp := iterN stepC L.length L
theorem core_sub (L : List Sp) : (core L).Sublist L := iter_sub _ _
theorem core_ring {V : List Str} {L : List Sp} (hL : ∀ s ∈ L, OkC s.cd) (h : Ring V L) : Ring V (core L) := iter_ring _ _ hL h
theorem core_next (L : List Sp) : ∀ s ∈ core L, ∃ o ∈ core L, goB s o = true := by
  have h := iter_fix L.length L (Nat.le_refl _)
  intro s hs
  have hs' : s ∈ stepC (core L) := by unfold core; rw [h]; exact hs
  obtain ⟨_, o, ho, hg⟩ := mem_back.mp hs'
  exact ⟨o, (mem_ahead.mp ho).1, hg⟩
/-! a ring is found -/
theorem nodup_len {α : Type} [DecidableEq α] : ∀ {l l' : List α}, l.Nodup → (∀ x ∈ l, x ∈ l') → l.length ≤ l'.length
  | [], _, _, _ => Nat.zero_le _
  | x :: l, l', h, hs => by
    obtain ⟨h1, h2⟩ := List.nodup_cons.mp h
    have hx := hs x List.mem_cons_self
    have := nodup_len (l := l) (l' := l'.erase x) h2 fun y hy => by
      have hne : y ≠ x := fun e => h1 (e ▸ hy)
      exact (List.mem_erase_of_ne hne).mpr (hs y (List.mem_cons_of_mem _ hy))
    rw [List.length_erase_of_mem hx] at this
    have hp : 0 < l'.length := List.length_pos_of_mem hx
    rw [List.length_cons]
    omega
def chainB : List Sp → Bool
  | a :: b :: r => feedB a b && chainB (b :: r)
  | _ => true
def cycB : List Sp → Bool
  | [] => false
  | x :: xs => chainB (x :: xs ++ [x])
theorem chain_snoc : ∀ (l : List Sp) (a x : Sp), chainB (l ++ [a] ++ [x]) = (chainB (l ++ [a]) && feedB a x)
  | [], a, x => by simp [chainB]
  | [b], a, x => by simp [chainB]
  | b :: c :: l, a, x => by
    have ih := chain_snoc (c :: l) a x
    simp only [List.cons_append, chainB] at ih ⊢
    rw [ih, Bool.and_assoc]
theorem chain_tail {a : Sp} {l : List Sp} (h : chainB (a :: l) = true) : chainB l = true := by
  cases l with
  | nil => rfl
  | cons b r =>
    simp only [chainB, Bool.and_eq_true] at h
    exact h.2
theorem chain_drop : ∀ (i : Nat) {l : List Sp}, chainB l = true → chainB (l.drop i) = true
  | 0, _, h => h
  | i + 1, [], h => by simpa using h
  | i + 1, a :: l, h => chain_drop i (chain_tail h)
def nextC (L : List Sp) (a : Sp) : Option Sp := (L.filter fun o => goB a o).head?
def ringGo (L : List Sp) : Nat → List Sp → Option (List Sp)
  | 0, _ => none
  | n + 1, row => match row.getLast? with
    | none => none
    | some a => match nextC L a with
      | none => none
      | some z => if z ∈ row then some (row.drop (row.findIdx (· == z))) else ringGo L n (row ++ [z])
def ringAmong (L : List Sp) : Option (List Sp) := ringGo L L.length (L.take 1)
structure RingOk (L r : List Sp) : Prop where
  sub : ∀ s ∈ r, s ∈ L
  nd : r.Nodup
  cyc : cycB r = true
theorem next_ok {L : List Sp} (h : ∀ s ∈ L, ∃ o ∈ L, goB s o = true) {a : Sp} (ha : a ∈ L) : ∃ z, nextC L a = some z ∧ z ∈ L ∧ feedB a z = true := by
  obtain ⟨o, ho, hg⟩ := h a ha
  have hne : (L.filter fun o => goB a o) ≠ [] := List.ne_nil_of_mem (List.mem_filter.mpr ⟨ho, hg⟩)
  obtain ⟨z, r, e⟩ := List.exists_cons_of_ne_nil hne
  have hz : z ∈ L.filter fun o => goB a o := by rw [e]; exact List.mem_cons_self
  obtain ⟨h1, h2⟩ := List.mem_filter.mp hz
  refine ⟨z, by unfold nextC; rw [e]; rfl, h1, ?_⟩
  unfold goB at h2
  exact (Bool.and_eq_true_iff.mp h2).1
theorem ring_go {L : List Sp} (h : ∀ s ∈ L, ∃ o ∈ L, goB s o = true) : ∀ (n : Nat) (row : List Sp) (a : Sp), (row ++ [a]).Nodup → (∀ s ∈ row ++ [a], s ∈ L) → chainB (row ++ [a]) = true → L.length < n + (row.length + 1) → ∃ r, ringGo L n (row ++ [a]) = some r ∧ RingOk L r
  | 0, row, a, nd, hs, _, hl => by
    have := nodup_len nd hs
    rw [List.length_append, List.length_singleton] at this
    omega
  | n + 1, row, a, nd, hs, hc, hl => by
    obtain ⟨z, h1, h2, h3⟩ := next_ok h (hs a (by simp))
    unfold ringGo
    simp only [List.getLast?_append, List.getLast?_singleton, Option.some_or, h1]
    by_cases hz : z ∈ row ++ [a]
    · rw [if_pos hz]
      have hi : (row ++ [a]).findIdx (· == z) < (row ++ [a]).length := List.findIdx_lt_length_of_exists ⟨z, hz, by simp⟩
      have hget : (row ++ [a])[(row ++ [a]).findIdx (· == z)] = z := by
        have := List.findIdx_getElem (w := hi)
        simpa using this
      have hd : (row ++ [a]).drop ((row ++ [a]).findIdx (· == z)) = z :: (row ++ [a]).drop ((row ++ [a]).findIdx (· == z) + 1) := by
        rw [List.drop_eq_getElem_cons hi, hget]
      refine ⟨_, rfl, fun s hs' => hs s (List.mem_of_mem_drop hs'), nd.sublist (List.drop_sublist _ _), ?_⟩
      have hcc : chainB (row ++ [a] ++ [z]) = true := by rw [chain_snoc, hc, h3]; rfl
      have := chain_drop ((row ++ [a]).findIdx (· == z)) hcc
      rw [List.drop_append_of_le_length (Nat.le_of_lt hi)] at this
      rw [hd] at this ⊢
      exact this
    · rw [if_neg hz]
      have := ring_go h n (row ++ [a]) z (by
        rw [List.nodup_append]
        exact ⟨nd, by simp, fun x hx y hy => by rw [List.mem_singleton.mp hy]; rintro rfl; exact hz hx⟩) (fun s hs' => by
          rcases List.mem_append.mp hs' with q | q
          · exact hs s q
          · rw [List.mem_singleton.mp q]; exact h2) (by rw [chain_snoc, hc, h3]; rfl) (by rw [List.length_append, List.length_singleton]; omega)
      exact this
theorem ringAmong_ok {L : List Sp} (h : ∀ s ∈ L, ∃ o ∈ L, goB s o = true) (hne : L ≠ []) : ∃ r, ringAmong L = some r ∧ RingOk L r := by
  obtain ⟨a, l, rfl⟩ := List.exists_cons_of_ne_nil hne
  exact ring_go h _ [] a (by simp) (by simp) rfl (by simp)
theorem ringAmong_nil : ringAmong [] = none := rfl
theorem cyc_rs {r : List Sp} (h : cycB r = true) : RS r := by
  cases r with
  | nil => cases h
  | cons x xs =>
    refine ⟨x :: xs, by simp, fun s hs => hs, fun s hs => ?_⟩
    have key : ∀ (l : List Sp) (a : Sp), chainB (a :: l) = true → ∀ s ∈ l, ∃ t ∈ a :: l, feedB t s = true := by
      intro l
      induction l with
      | nil => intro a _ s hs; cases hs
      | cons b l ih =>
        intro a hc s hs
        simp only [chainB, Bool.and_eq_true] at hc
        rcases List.mem_cons.mp hs with rfl | hs
        · exact ⟨a, List.mem_cons_self, hc.1⟩
        · obtain ⟨t, ht, hf⟩ := ih b hc.2 s hs
          exact ⟨t, List.mem_cons_of_mem _ ht, hf⟩
    have hs' : s ∈ xs ++ [x] := by
      rcases List.mem_cons.mp hs with rfl | hs
      · simp
      · simp [hs]
    obtain ⟨t, ht, hf⟩ := key (xs ++ [x]) x h s hs'
    refine ⟨t, ?_, hf⟩
    simp only [List.mem_cons, List.mem_append, List.not_mem_nil, or_false] at ht ⊢
    rcases ht with q | q | q
    · exact .inl q
    · exact .inr q
    · exact .inl q
end Ra.K3


set_option Elab.async false
set_option linter.all false
set_option maxRecDepth 100000
namespace Ra.K3
open PySem
def strOf : PyData → Str
  | .str s => s
  | _ => ⟨#[]⟩
def risB : List Str → Bool
  | x :: y :: r => strLt x y && risB (y :: r)
  | _ => true
theorem strLt_trans {x y z : Str} (h1 : strLt x y = true) (h2 : strLt y z = true) : strLt x z = true := by
  simp only [strLt, decide_eq_true_eq] at *
  exact List.lt_trans h1 h2
theorem strLt_ne {x y : Str} (h : strLt x y = true) : x ≠ y := by
  rintro rfl
  simp only [strLt, decide_eq_true_eq] at h
  exact List.lt_irrefl _ h
theorem ris_pair : ∀ {ks : List Str}, risB ks = true ↔ ks.Pairwise fun a b => strLt a b = true
  | [] => by simp [risB]
  | [x] => by simp [risB]
  | x :: y :: r => by
    rw [risB, Bool.and_eq_true, ris_pair (ks := y :: r), List.pairwise_cons (a := x)]
    constructor
    · rintro ⟨h1, h2⟩
      refine ⟨fun z hz => ?_, h2⟩
      rcases List.mem_cons.mp hz with rfl | hz
      · exact h1
      · exact strLt_trans h1 ((List.pairwise_cons.mp h2).1 z hz)
    · rintro ⟨h1, h2⟩
      exact ⟨h1 y List.mem_cons_self, h2⟩
theorem firstS_nodup : ∀ {ks L : List Str}, (L ++ ks).Nodup → firstS L ks = L ++ ks
  | [], L, _ => by simp [firstS]
  | k :: ks, L, h => by
    have hk : k ∉ L := fun hm => by
      have := List.nodup_append.mp h
      exact this.2.2 k hm k List.mem_cons_self rfl
    rw [firstS, if_neg hk, firstS_nodup (by simpa using h)]
    simp
theorem firstS_isNodup : ∀ {ks L : List Str}, L.Nodup → (firstS L ks).Nodup
  | [], _, h => h
  | k :: ks, L, h => by
    rw [firstS]
    split
    · exact firstS_isNodup h
    · rename_i hk
      refine firstS_isNodup (List.nodup_append.mpr ⟨h, by simp, fun x hx y hy => ?_⟩)
      rw [List.mem_singleton.mp hy]
      rintro rfl
      exact hk hx
theorem firstS_mem {x : Str} : ∀ {ks L : List Str}, x ∈ firstS L ks ↔ x ∈ L ∨ x ∈ ks
  | [], L => by simp [firstS]
  | k :: ks, L => by
    rw [firstS, firstS_mem]
    by_cases h : k ∈ L
    · simp only [h, if_true, List.mem_cons]
      constructor
      · rintro (q | q)
        · exact .inl q
        · exact .inr (.inr q)
      · rintro (q | rfl | q)
        · exact .inl q
        · exact .inl h
        · exact .inr q
    · simp [h, or_assoc]
theorem isort_map (L : List Str) : ∃ M : List Str, isort [] (L.map PyData.str) = M.map PyData.str ∧ M.Perm L := by
  have hp := isort_perm (L.map PyData.str) []
  rw [List.nil_append] at hp
  have : ∀ (xs : List PyData), (∀ x ∈ xs, ∃ s, x = PyData.str s) → xs = (xs.map strOf).map PyData.str := by
    intro xs
    induction xs with
    | nil => intro _; rfl
    | cons x xs ih =>
      intro h
      obtain ⟨s, rfl⟩ := h _ List.mem_cons_self
      simp only [List.map_cons, strOf]
      rw [← ih fun y hy => h y (List.mem_cons_of_mem _ hy)]
  refine ⟨(isort [] (L.map PyData.str)).map strOf, this _ fun x hx => ?_, ?_⟩
  · obtain ⟨s, _, rfl⟩ := List.mem_map.mp (hp.mem_iff.mp hx)
    exact ⟨s, rfl⟩
  · have q := hp.map strOf
    rw [List.map_map] at q
    have e : (strOf ∘ PyData.str) = id := rfl
    rw [e, List.map_id] at q
    exact q
theorem str_ext {x y : Str} (h : x.cps.toList = y.cps.toList) : x = y := PySem.W.str_of_cps h
theorem strLt_of {x y : Str} (h : dle (.str x) (.str y) = true) (hn : x ≠ y) : strLt x y = true := by
  rw [dle_str, decide_eq_true_eq] at h
  simp only [strLt, decide_eq_true_eq]
  rcases Decidable.em (x.cps.toList < y.cps.toList) with q | q
  · exact q
  · exact absurd (str_ext (List.le_antisymm h q)) hn
theorem strLt_le {x y : Str} (h : strLt x y = true) : dle (.str x) (.str y) = true := by
  rw [dle_str, decide_eq_true_eq]
  simp only [strLt, decide_eq_true_eq] at h
  exact List.le_of_lt h
/-- rising texts stand as they are sorted -/
theorem isort_ris {ks : List Str} (h : risB ks = true) : isort [] (ks.map PyData.str) = ks.map PyData.str := by
  have hp := ris_pair.mp h
  refine sorted_unique (fun x hx y hy => ?_) (isort_sorted _ _ .nil) ?_ (isort_perm _ [])
  · have hx := (isort_perm _ _).mem_iff.mp hx
    have hy := (isort_perm _ _).mem_iff.mp hy
    obtain ⟨a, _, rfl⟩ := List.mem_map.mp hx
    obtain ⟨b, _, rfl⟩ := List.mem_map.mp hy
    exact dle_anti
  · rw [List.pairwise_map]
    exact hp.imp strLt_le
theorem ris_of_sorted {M : List Str} (h : (M.map PyData.str).Pairwise fun a b => dle a b = true) (nd : M.Nodup) : risB M = true := by
  rw [ris_pair]
  rw [List.pairwise_map] at h
  exact (h.and nd).imp fun ⟨a, b⟩ => strLt_of a b
theorem ris_set (ks M : List Str) (hM : isort [] ((firstS [] ks).map PyData.str) = M.map PyData.str) (hp : M.Perm (firstS [] ks)) : decide (ks = M) = risB ks := by
  have hr : risB M = true := by
    refine ris_of_sorted ?_ (hp.nodup_iff.mpr (firstS_isNodup .nil))
    rw [← hM]
    exact isort_sorted _ _ .nil
  cases h : risB ks with
  | true =>
    rw [decide_eq_true_eq]
    have nd : ks.Nodup := (ris_pair.mp h).imp strLt_ne
    have e := firstS_nodup (ks := ks) (L := []) (by simpa using nd)
    rw [e, List.nil_append, isort_ris h] at hM
    exact (List.map_inj_right (f := PyData.str) fun x y e => by cases e; rfl).mp hM
  | false =>
    rw [decide_eq_false_iff_not]
    rintro rfl
    rw [hr] at h
    cases h
/-! sets -/
def srt (L : List Str) : List Str := (isort [] (L.map PyData.str)).map strOf
theorem srt_eq (L : List Str) : isort [] (L.map PyData.str) = (srt L).map PyData.str ∧ (srt L).Perm L := by
  obtain ⟨M, h1, h2⟩ := isort_map L
  have e : srt L = M := by
    unfold srt
    rw [h1, List.map_map]
    have e : (strOf ∘ PyData.str) = id := rfl
    rw [e, List.map_id]
  rw [e]
  exact ⟨h1, h2⟩
def setS (ks : List Str) : List Str := srt (firstS [] ks)
theorem mem_setS {ks : List Str} {x : Str} : x ∈ setS ks ↔ x ∈ ks := by
  unfold setS
  rw [(srt_eq _).2.mem_iff, firstS_mem]
  simp
theorem ris_setS (ks : List Str) : risB (setS ks) = true := by
  obtain ⟨h1, h2⟩ := srt_eq (firstS [] ks)
  refine ris_of_sorted ?_ (h2.nodup_iff.mpr (firstS_isNodup .nil))
  rw [show setS ks = srt (firstS [] ks) from rfl, ← h1]
  exact isort_sorted _ _ .nil
theorem ris_nodup {ks : List Str} (h : risB ks = true) : ks.Nodup := (ris_pair.mp h).imp strLt_ne
theorem setS_ris {ks : List Str} (h : risB ks = true) : setS ks = ks := by
  have := ris_set ks (setS ks) (srt_eq _).1 (srt_eq _).2
  rw [h, decide_eq_true_eq] at this
  exact this.symm
theorem setS_eq {ks : List Str} : decide (ks = setS ks) = risB ks := ris_set ks (setS ks) (srt_eq _).1 (srt_eq _).2
theorem setS_len {ks : List Str} : (setS ks).length = (firstS [] ks).length := (srt_eq _).2.length_eq
theorem firstS_len : ∀ (ks L : List Str), (firstS L ks).length ≤ L.length + ks.length
  | [], L => by simp [firstS]
  | k :: ks, L => by
    rw [firstS]
    have := firstS_len ks (if k ∈ L then L else L ++ [k])
    split at this <;> rename_i h
    · rw [if_pos h, List.length_cons]; omega
    · rw [if_neg h, List.length_cons]
      rw [List.length_append, List.length_singleton] at this
      omega
theorem firstS_lt : ∀ (ks L : List Str), L.Nodup → ¬ (L ++ ks).Nodup → (firstS L ks).length < L.length + ks.length
  | [], L, h, hn => absurd (by simpa using h) hn
  | k :: ks, L, h, hn => by
    rw [firstS]
    by_cases hk : k ∈ L
    · rw [if_pos hk, List.length_cons]
      have := firstS_len ks L
      omega
    · rw [if_neg hk, List.length_cons]
      have := firstS_lt ks (L ++ [k]) (by
        rw [List.nodup_append]
        exact ⟨h, by simp, fun x hx y hy => by rw [List.mem_singleton.mp hy]; rintro rfl; exact hk hx⟩) (by simpa using hn)
      rw [List.length_append, List.length_singleton] at this
      omega
theorem firstS_lt_iff (ks : List Str) : (firstS [] ks).length < ks.length ↔ ¬ ks.Nodup := by
  constructor
  · intro h nd
    rw [firstS_nodup (by simpa using nd)] at h
    simp at h
  · intro h
    have := firstS_lt ks [] .nil (by simpa using h)
    simpa using this
theorem ris_sub : ∀ {a b : List Str}, risB a = true → risB b = true → (∀ x ∈ a, x ∈ b) → a.Sublist b := by
  intro a b
  induction b generalizing a with
  | nil =>
    intro _ _ h
    cases a with
    | nil => exact .slnil
    | cons x a => exact absurd (h x List.mem_cons_self) (by simp)
  | cons y b ih =>
    intro ha hb h
    cases a with
    | nil => exact List.nil_sublist _
    | cons x a =>
      have pa := ris_pair.mp ha
      have pb := ris_pair.mp hb
      obtain ⟨pa1, pa2⟩ := List.pairwise_cons.mp pa
      obtain ⟨pb1, pb2⟩ := List.pairwise_cons.mp pb
      rcases List.mem_cons.mp (h x List.mem_cons_self) with rfl | hx
      · refine List.Sublist.cons₂ _ (ih (ris_pair.mpr pa2) (ris_pair.mpr pb2) fun z hz => ?_)
        rcases List.mem_cons.mp (h z (List.mem_cons_of_mem _ hz)) with rfl | hz'
        · exact absurd rfl (strLt_ne (pa1 z hz))
        · exact hz'
      · refine List.Sublist.cons _ (ih ha (ris_pair.mpr pb2) fun z hz => ?_)
        rcases List.mem_cons.mp (h z hz) with rfl | hz'
        · rcases List.mem_cons.mp hz with rfl | hz
          · exact absurd rfl (strLt_ne (pb1 z hx))
          · exact absurd rfl (strLt_ne (strLt_trans (pb1 x hx) (pa1 z hz)))
        · exact hz'
/-! all rows of flags -/
def subsF : List (List Str) → List Str → List (List Str)
  | found, [] => found
  | found, f :: r => subsF (found ++ found.map (· ++ [f])) r
theorem mem_subsF : ∀ {fl : List Str} {found : List (List Str)} {v : List Str}, v ∈ subsF found fl ↔ ∃ u ∈ found, ∃ w, w.Sublist fl ∧ v = u ++ w
  | [], found, v => by
    constructor
    · intro h
      exact ⟨v, h, [], .slnil, by simp⟩
    · rintro ⟨u, hu, w, hw, rfl⟩
      have : w = [] := by simpa using hw
      subst this
      simpa [subsF] using hu
  | f :: r, found, v => by
    rw [subsF, mem_subsF]
    constructor
    · rintro ⟨u, hu, w, hw, rfl⟩
      rcases List.mem_append.mp hu with hu | hu
      · exact ⟨u, hu, w, .cons _ hw, rfl⟩
      · obtain ⟨u', hu', rfl⟩ := List.mem_map.mp hu
        exact ⟨u', hu', f :: w, .cons₂ _ hw, by simp⟩
    · rintro ⟨u, hu, w, hw, rfl⟩
      cases hw with
      | cons _ hw => exact ⟨u, List.mem_append_left _ hu, _, hw, rfl⟩
      | cons_cons _ hw => exact ⟨u ++ [f], List.mem_append_right _ (List.mem_map.mpr ⟨u, hu, rfl⟩), _, hw, by simp⟩
def subs (fl : List Str) : List (List Str) := subsF [[]] fl
theorem mem_subs {fl v : List Str} : v ∈ subs fl ↔ v.Sublist fl := by
  unfold subs
  rw [mem_subsF]
  constructor
  · rintro ⟨u, hu, w, hw, rfl⟩
    rw [List.mem_singleton.mp hu]
    exact hw
  · intro h
    exact ⟨[], by simp, v, h, rfl⟩
/-! the order of the law -/
def rdyB (left : List Sp) (s : Sp) : Bool := s.rd.all fun p => !decide (p ∈ left.map Sp.sh)
def rdy (left : List Sp) : List Sp := left.filter (rdyB left)
def nxt (left : List Sp) : List Sp := if rdy left = [] then [] else left.filter fun s => !decide (s ∈ rdy left)
def onGo : Nat → List Sp → List Sp → List Sp
  | 0, _, found => found
  | n + 1, left, found => if left = [] then found else onGo n (nxt left) (found ++ rdy left)
theorem filter_split {α : Type} (p : α → Bool) : ∀ l : List α, (l.filter p).length + (l.filter fun x => !p x).length = l.length
  | [] => rfl
  | x :: l => by
    have := filter_split p l
    cases h : p x <;> simp [h] <;> omega
theorem nxt_eq {left : List Sp} (h : rdy left ≠ []) : nxt left = left.filter fun s => !rdyB left s := by
  unfold nxt
  rw [if_neg h]
  refine List.filter_congr fun s hs => ?_
  congr 1
  rw [Bool.eq_iff_iff, decide_eq_true_eq]
  unfold rdy
  rw [List.mem_filter]
  exact ⟨fun q => q.2, fun q => ⟨hs, q⟩⟩
theorem nxt_len {left : List Sp} (h : rdy left ≠ []) : (rdy left).length + (nxt left).length = left.length := by
  rw [nxt_eq h]
  exact filter_split _ _
theorem not_rdy {left : List Sp} {s : Sp} : rdyB left s = false ↔ ∃ t ∈ left, feedB t s = true := by
  rw [Bool.eq_false_iff]
  unfold rdyB feedB
  rw [ne_eq, List.all_eq_true]
  simp only [Bool.not_eq_true', decide_eq_false_iff_not, decide_eq_true_eq]
  constructor
  · intro h
    obtain ⟨p, hp⟩ := Classical.not_forall.mp h
    obtain ⟨h1, h2⟩ := Classical.not_imp.mp hp
    obtain ⟨t, ht, e⟩ := List.mem_map.mp (Classical.not_not.mp h2)
    exact ⟨t, ht, e ▸ h1⟩
  · rintro ⟨t, ht, hf⟩ h
    exact h _ hf (List.mem_map.mpr ⟨t, ht, rfl⟩)
theorem on_le : ∀ (n : Nat) (left found : List Sp), (onGo n left found).length ≤ found.length + left.length
  | 0, left, found => by simp [onGo]
  | n + 1, left, found => by
    unfold onGo
    split
    · omega
    · have := on_le n (nxt left) (found ++ rdy left)
      rw [List.length_append] at this
      by_cases h : rdy left = []
      · have e : nxt left = [] := by unfold nxt; rw [if_pos h]
        rw [e, h] at this ⊢
        simp at this ⊢
        omega
      · have := nxt_len h
        omega
theorem on_stuck : ∀ (n : Nat) (left found : List Sp), left.length < n → RS left → (onGo n left found).length < found.length + left.length
  | 0, _, _, h, _ => by omega
  | n + 1, left, found, hl, ⟨Q, h1, h2, h3⟩ => by
    obtain ⟨s, hs⟩ := List.exists_mem_of_ne_nil Q h1
    have hne : left ≠ [] := List.ne_nil_of_mem (h2 s hs)
    have hpos : 0 < left.length := List.length_pos_iff.mpr hne
    unfold onGo
    rw [if_neg hne]
    by_cases h : rdy left = []
    · have e : nxt left = [] := by unfold nxt; rw [if_pos h]
      have := on_le n (nxt left) (found ++ rdy left)
      rw [e, h] at this ⊢
      simp at this ⊢
      omega
    · have hlen := nxt_len h
      have hrp : 0 < (rdy left).length := List.length_pos_iff.mpr h
      have := on_stuck n (nxt left) (found ++ rdy left) (by omega) ⟨Q, h1, fun s hs => by
        rw [nxt_eq h, List.mem_filter]
        obtain ⟨t, ht, hf⟩ := h3 s hs
        exact ⟨h2 s hs, by rw [not_rdy.mpr ⟨t, h2 t ht, hf⟩]; rfl⟩, h3⟩
      rw [List.length_append] at this
      omega
theorem on_full : ∀ (n : Nat) (left found : List Sp), left.length < n → ¬ RS left → (onGo n left found).length = found.length + left.length
  | 0, _, _, h, _ => by omega
  | n + 1, left, found, hl, hr => by
    unfold onGo
    split
    · rename_i e
      simp [e]
    · rename_i hne
      by_cases h : rdy left = []
      · exfalso
        apply hr
        refine ⟨left, hne, fun s hs => hs, fun s hs => ?_⟩
        refine not_rdy.mp ?_
        rw [Bool.eq_false_iff]
        intro q
        have : s ∈ rdy left := List.mem_filter.mpr ⟨hs, q⟩
        rw [h] at this
        cases this
      · have hlen := nxt_len h
        have hrp : 0 < (rdy left).length := List.length_pos_iff.mpr h
        have := on_full n (nxt left) (found ++ rdy left) (by omega) fun ⟨Q, h1, h2, h3⟩ => hr ⟨Q, h1, fun s hs => by
          have := h2 s hs
          rw [nxt_eq h] at this
          exact (List.mem_filter.mp this).1, h3⟩
        rw [List.length_append] at this
        omega
def live (V : List Str) (P : List Sp) : List Sp := P.filter fun s => holdB s.cd V
def badAt (V : List Str) (P : List Sp) : Prop := ¬ ((live V P).map Sp.sh).Nodup ∨ RS (live V P)
/-! two makers -/
def mkOne (a : Sp) (r : List Sp) : Option Sp := r.find? fun b => decide (a.sh = b.sh) && !clashB a.cd b.cd
def mkP : List Sp → Option (Sp × Sp)
  | [] => none
  | a :: r => match mkOne a r with
    | some b => some (a, b)
    | none => mkP r
theorem mk_some : ∀ {P : List Sp} {a b : Sp}, mkP P = some (a, b) → [a, b].Sublist P ∧ a.sh = b.sh ∧ clashB a.cd b.cd = false
  | [], _, _, h => by cases h
  | x :: r, a, b, h => by
    unfold mkP at h
    split at h
    · rename_i c hc
      cases h
      have h1 := List.mem_of_find?_eq_some hc
      have h2 := List.find?_some hc
      simp only [Bool.and_eq_true, decide_eq_true_eq, Bool.not_eq_true'] at h2
      exact ⟨.cons₂ _ (List.singleton_sublist.mpr h1), h2.1, h2.2⟩
    · obtain ⟨h1, h2⟩ := mk_some h
      exact ⟨.cons _ h1, h2⟩
theorem mk_none : ∀ {P : List Sp}, mkP P = none → P.Pairwise fun a b => a.sh = b.sh → clashB a.cd b.cd = true
  | [], _ => .nil
  | x :: r, h => by
    unfold mkP at h
    split at h
    · cases h
    · rename_i hc
      refine List.pairwise_cons.mpr ⟨fun b hb e => ?_, mk_none h⟩
      have := List.find?_eq_none.mp hc b hb
      simpa [e] using this
/-- a plan that is served -/
structure WP (P : List Sp) : Prop where
  ris : risB (P.map Sp.nm) = true
  ok : ∀ s ∈ P, OkC s.cd
def flagsL (P : List Sp) : List Str := P.flatMap fun s => s.cd.map (·.1)
def flagsS (P : List Sp) : List Str := setS (flagsL P)
theorem mem_flags {P : List Sp} {f : Str} : f ∈ flagsS P ↔ ∃ s ∈ P, ∃ a, (f, a) ∈ s.cd := by
  unfold flagsS flagsL
  rw [mem_setS, List.mem_flatMap]
  constructor
  · rintro ⟨s, hs, h⟩
    obtain ⟨⟨g, a⟩, h1, h2⟩ := List.mem_map.mp h
    simp only at h2
    subst h2
    exact ⟨s, hs, a, h1⟩
  · rintro ⟨s, hs, a, h⟩
    exact ⟨s, hs, List.mem_map.mpr ⟨_, h, rfl⟩⟩
theorem meet_flags {L P : List Sp} (h : ∀ s ∈ L, s ∈ P) : (setS (meetF L)).Sublist (flagsS P) := by
  refine ris_sub (ris_setS _) (ris_setS _) fun f hf => ?_
  rw [mem_setS, mem_meet] at hf
  obtain ⟨s, hs, hm⟩ := hf
  exact mem_flags.mpr ⟨s, h s hs, 1, hm⟩
theorem WP.nd {P : List Sp} (h : WP P) : P.Nodup := by
  have := ris_nodup h.ris
  rw [List.Nodup, List.pairwise_map] at this
  exact this.imp fun hn e => hn (by rw [e])
theorem WP.inj {P : List Sp} (h : WP P) {a b : Sp} (ha : a ∈ P) (hb : b ∈ P) (e : a.nm = b.nm) : a = b := inj_of_nodup Sp.nm (ris_nodup h.ris) ha hb e
/-- what two makers show -/
theorem mk_hold {P : List Sp} (h : WP P) {a b : Sp} (hm : mkP P = some (a, b)) : ∀ s ∈ [a, b], s ∈ P ∧ holdB s.cd (setS (meetF [a, b])) = true := by
  obtain ⟨h1, h2, h3⟩ := mk_some hm
  have hs : ∀ s ∈ [a, b], s ∈ P := fun s hs => h1.subset hs
  have hc := hold_meet (L := [a, b]) (V := setS (meetF [a, b])) (fun f => mem_setS) fun s hs' t ht f x y m1 m2 => by
    have key : ∀ u v : Sp, u ∈ [a, b] → v ∈ [a, b] → clashB u.cd v.cd = false → (f, x) ∈ u.cd → (f, y) ∈ v.cd → x = y := fun u v hu hv hc m1 m2 => by
      rw [Bool.eq_false_iff] at hc
      exact Classical.not_not.mp fun hn => hc ((clash_iff (h.ok u (hs u hu))).mpr ⟨f, x, y, m1, m2, hn⟩)
    have self : ∀ u : Sp, u ∈ [a, b] → (f, x) ∈ u.cd → (f, y) ∈ u.cd → x = y := fun u hu m1 m2 => by
      have := inj_of_nodup (·.1) (h.ok u (hs u hu)).nd m1 m2 rfl
      cases this; rfl
    have hba : clashB b.cd a.cd = false := by
      rw [Bool.eq_false_iff] at h3 ⊢
      intro q
      obtain ⟨f, x, y, q1, q2, q3⟩ := (clash_iff (h.ok b (hs b (by simp)))).mp q
      exact h3 ((clash_iff (h.ok a (hs a (by simp)))).mpr ⟨f, y, x, q2, q1, fun e => q3 e.symm⟩)
    simp only [List.mem_cons, List.not_mem_nil, or_false] at hs' ht
    rcases hs' with rfl | rfl <;> rcases ht with rfl | rfl
    · exact self _ (by simp) m1 m2
    · exact key _ _ (by simp) (by simp) h3 m1 m2
    · exact key _ _ (by simp) (by simp) hba m1 m2
    · exact self _ (by simp) m1 m2
  exact fun s hs' => ⟨hs s hs', hc s hs'⟩
theorem mk_bad {P : List Sp} (h : WP P) {a b : Sp} (hm : mkP P = some (a, b)) : ∃ V, V.Sublist (flagsS P) ∧ badAt V P := by
  obtain ⟨h1, h2, h3⟩ := mk_some hm
  have hh := mk_hold h hm
  refine ⟨_, meet_flags fun s hs => (hh s hs).1, .inl fun nd => ?_⟩
  have ha := hh a (by simp)
  have hb := hh b (by simp)
  have e := inj_of_nodup Sp.sh nd (List.mem_filter.mpr ha) (List.mem_filter.mpr hb) h2
  have nd2 := h.nd.sublist h1
  rw [e] at nd2
  simp at nd2
theorem bad_mk {P : List Sp} (h : WP P) {V : List Str} (hb : ¬ ((live V P).map Sp.sh).Nodup) : mkP P ≠ none := by
  intro hn
  apply hb
  rw [List.Nodup, List.pairwise_map]
  have hp : (live V P).Pairwise fun a b => a.sh = b.sh → clashB a.cd b.cd = true := (mk_none hn).sublist List.filter_sublist
  refine hp.imp_of_mem fun {a b} ha hb' q e => ?_
  obtain ⟨a1, a2⟩ := List.mem_filter.mp ha
  obtain ⟨b1, b2⟩ := List.mem_filter.mp hb'
  have := noclash (h.ok a a1) (h.ok b b1) a2 b2
  rw [q e] at this
  cases this
/-! rings -/
def ringAt (P : List Sp) (v : List Str) : Option (List Sp) := ringAmong (core (live v (core P)))
theorem hold_cut {P : List Sp} {V : List Str} {s : Sp} (hs : s ∈ P) : holdB s.cd ((flagsS P).filter fun f => decide (f ∈ V)) = holdB s.cd V := by
  rw [Bool.eq_iff_iff, hold_iff, hold_iff]
  have key : ∀ f a, (f, a) ∈ s.cd → (f ∈ (flagsS P).filter (fun f => decide (f ∈ V)) ↔ f ∈ V) := fun f a hm => by
    rw [List.mem_filter, decide_eq_true_eq]
    exact ⟨fun q => q.2, fun q => ⟨mem_flags.mpr ⟨s, hs, a, hm⟩, q⟩⟩
  constructor
  · intro h f a hm
    rw [← key f a hm]
    exact h f a hm
  · intro h f a hm
    rw [key f a hm]
    exact h f a hm
theorem flags_core {P : List Sp} : (flagsS (core P)).Sublist (flagsS P) := ris_sub (ris_setS _) (ris_setS _) fun f hf => by
  obtain ⟨s, hs, a, hm⟩ := mem_flags.mp hf
  exact mem_flags.mpr ⟨s, (core_sub P).subset hs, a, hm⟩
/-- a ring that is found -/
theorem ringAt_ok {P : List Sp} (h : WP P) {v : List Str} {r : List Sp} (hr : ringAt P v = some r) : RingOk (live v P) r := by
  have hne : core (live v (core P)) ≠ [] := fun e => by
    unfold ringAt at hr
    rw [e, ringAmong_nil] at hr
    cases hr
  obtain ⟨r', h1, h2⟩ := ringAmong_ok (core_next _) hne
  have : r' = r := by
    unfold ringAt at hr
    rw [h1] at hr
    exact Option.some.inj hr
  subst this
  refine ⟨fun s hs => ?_, h2.nd, h2.cyc⟩
  obtain ⟨q1, q2⟩ := List.mem_filter.mp ((core_sub _).subset (h2.sub s hs))
  exact List.mem_filter.mpr ⟨(core_sub P).subset q1, q2⟩
theorem bad_ring {P : List Sp} (h : WP P) {V : List Str} (hb : RS (live V P)) : ∃ v, v.Sublist (flagsS (core P)) ∧ ringAt P v ≠ none := by
  have h1 : Ring V (core P) := core_ring h.ok (ring_rs.mpr hb)
  refine ⟨(flagsS (core P)).filter fun f => decide (f ∈ V), List.filter_sublist, ?_⟩
  have hok : ∀ s ∈ live ((flagsS (core P)).filter fun f => decide (f ∈ V)) (core P), OkC s.cd := fun s hs => h.ok s ((core_sub P).subset (List.mem_filter.mp hs).1)
  have h2 : Ring ((flagsS (core P)).filter fun f => decide (f ∈ V)) (live ((flagsS (core P)).filter fun f => decide (f ∈ V)) (core P)) := by
    obtain ⟨Q, q1, q2, q3⟩ := h1
    refine ⟨Q, q1, fun s hs => ?_, q3⟩
    obtain ⟨c1, c2⟩ := q2 s hs
    have := hold_cut (V := V) c1
    rw [c2] at this
    exact ⟨List.mem_filter.mpr ⟨c1, this⟩, this⟩
  obtain ⟨Q, q1, q2, _⟩ := core_ring hok h2
  obtain ⟨s, hs⟩ := List.exists_mem_of_ne_nil Q q1
  have hne := List.ne_nil_of_mem (q2 s hs).1
  obtain ⟨r, hr, _⟩ := ringAmong_ok (core_next _) hne
  intro e
  unfold ringAt at e
  rw [hr] at e
  cases e
theorem ring_bad {P : List Sp} (h : WP P) {v : List Str} {r : List Sp} (hr : ringAt P v = some r) : badAt v P := by
  have := ringAt_ok h hr
  obtain ⟨Q, q1, q2, q3⟩ := cyc_rs this.cyc
  exact .inr ⟨Q, q1, fun s hs => this.sub s (q2 s hs), q3⟩
/-- steps of a ring hold where their flags meet -/
theorem ring_hold {P : List Sp} (h : WP P) {v : List Str} {r : List Sp} (hr : ringAt P v = some r) : ∀ s ∈ r, s ∈ P ∧ holdB s.cd (setS (meetF r)) = true := by
  have hk := ringAt_ok h hr
  have hm : ∀ s ∈ r, s ∈ P ∧ holdB s.cd v = true := fun s hs => List.mem_filter.mp (hk.sub s hs)
  have := hold_meet (L := r) (V := setS (meetF r)) (fun f => mem_setS) fun s hs t ht f a b m1 m2 => same_of_hold (h.ok s (hm s hs).1) (h.ok t (hm t ht).1) (hm s hs).2 (hm t ht).2 m1 m2
  exact fun s hs => ⟨(hm s hs).1, this s hs⟩
/-- sound: at no row of flags is it bad -/
theorem sound_iff {P : List Sp} (h : WP P) {vs : List (List Str)} (hv : ∀ v, v ∈ vs ↔ v.Sublist (flagsS (core P))) : (mkP P = none ∧ vs.findSome? (ringAt P) = none) ↔ ∀ V, V.Sublist (flagsS P) → ¬ badAt V P := by
  constructor
  · rintro ⟨h1, h2⟩ V hV hb
    rcases hb with hb | hb
    · exact bad_mk h hb h1
    · obtain ⟨v, q1, q2⟩ := bad_ring h hb
      exact q2 (List.findSome?_eq_none_iff.mp h2 v ((hv v).mpr q1))
  · intro hb
    refine ⟨?_, ?_⟩
    · cases e : mkP P with
      | none => rfl
      | some p =>
        obtain ⟨V, q1, q2⟩ := mk_bad h (a := p.1) (b := p.2) e
        exact absurd q2 (hb V q1)
    · rw [List.findSome?_eq_none_iff]
      intro v hm
      cases e : ringAt P v with
      | none => rfl
      | some r => exact absurd (ring_bad h e) (hb v (((hv v).mp hm).trans flags_core))
end Ra.K3


set_option Elab.async false
set_option linter.all false
set_option maxRecDepth 100000
/-! one order for all variants: the plain law (k04) -/
namespace Ra.K3
open PySem
def GRing (L : List Sp) : Prop := ∃ Q : List Sp, Q ≠ [] ∧ (∀ s ∈ Q, s ∈ L) ∧ ∀ s ∈ Q, ∃ t ∈ Q, goB t s = true
theorem GRing.mono {L L' : List Sp} (h : GRing L) (hs : ∀ s ∈ L, s ∈ L') : GRing L' := by
  obtain ⟨Q, h1, h2, h3⟩ := h
  exact ⟨Q, h1, fun s q => hs s (h2 s q), h3⟩
theorem gring_ahead {L : List Sp} (h : GRing L) : GRing (aheadC L) := by
  obtain ⟨Q, h1, h2, h3⟩ := h
  refine ⟨Q, h1, fun s hs => ?_, h3⟩
  obtain ⟨t, ht, hg⟩ := h3 s hs
  exact mem_ahead.mpr ⟨h2 s hs, t, h2 t ht, hg⟩
theorem gring_step {L : List Sp} (h : GRing L) : GRing (stepC L) := by
  obtain ⟨Q, h1, h2, h3⟩ := gring_ahead h
  refine ⟨Q.filter fun s => Q.any fun o => goB s o, ?_, fun s hs => ?_, fun s hs => ?_⟩
  · obtain ⟨s, hs⟩ := List.exists_mem_of_ne_nil Q h1
    obtain ⟨t, ht, hf⟩ := h3 s hs
    exact List.ne_nil_of_mem (List.mem_filter.mpr ⟨ht, List.any_eq_true.mpr ⟨s, hs, hf⟩⟩)
  · obtain ⟨hq, ha⟩ := List.mem_filter.mp hs
    obtain ⟨o, ho, hf⟩ := List.any_eq_true.mp ha
    exact mem_back.mpr ⟨h2 s hq, o, h2 o ho, hf⟩
  · obtain ⟨hq, _⟩ := List.mem_filter.mp hs
    obtain ⟨t, ht, hf⟩ := h3 s hq
    exact ⟨t, List.mem_filter.mpr ⟨ht, List.any_eq_true.mpr ⟨s, hq, hf⟩⟩, hf⟩
theorem gring_iter (f : List Sp → List Sp) (hf : ∀ L, GRing L → GRing (f L)) : ∀ n L, GRing L → GRing (iterN f n L)
  | 0, _, h => h
  | n + 1, L, h => gring_iter f hf n (f L) (hf L h)
theorem iter_subG (f : List Sp → List Sp) (hf : ∀ L, (f L).Sublist L) : ∀ n L, (iterN f n L).Sublist L
  | 0, L => List.Sublist.refl L
  | n + 1, L => (iter_subG f hf n (f L)).trans (hf L)
theorem iter_sameG (f : List Sp → List Sp) {L : List Sp} (h : f L = L) : ∀ n, iterN f n L = L
  | 0 => rfl
  | n + 1 => by rw [iterN, h, iter_sameG f h n]
theorem iter_fixG (f : List Sp → List Sp) (hf : ∀ L, (f L).Sublist L) : ∀ n L, L.length ≤ n → f (iterN f n L) = iterN f n L
  | 0, L, h => by
    have : L = [] := List.length_eq_zero_iff.mp (by omega)
    subst this
    exact List.sublist_nil.mp (hf [])
  | n + 1, L, h => by
    by_cases e : f L = L
    · rw [iter_sameG f e, e]
    · have hs := hf L
      have hl := hs.length_le
      have : (f L).length ≠ L.length := fun q => e (hs.eq_of_length q)
      rw [iterN]
      exact iter_fixG f hf n (f L) (by omega)
def canB (L : List Sp) : Bool := (iterN aheadC L.length L).isEmpty
theorem can_iff {L : List Sp} : canB L = true ↔ ¬ GRing L := by
  unfold canB
  rw [List.isEmpty_iff]
  constructor
  · intro h hg
    obtain ⟨Q, h1, h2, _⟩ := gring_iter aheadC (fun _ => gring_ahead) L.length L hg
    obtain ⟨s, hs⟩ := List.exists_mem_of_ne_nil Q h1
    have := h2 s hs
    rw [h] at this
    cases this
  · intro h
    have hsub : ∀ L, (aheadC L).Sublist L := fun L => List.filter_sublist
    have hfix := iter_fixG aheadC hsub L.length L (Nat.le_refl _)
    have hss := iter_subG aheadC hsub L.length L
    by_cases e : iterN aheadC L.length L = []
    · exact e
    · exfalso
      apply h
      refine ⟨iterN aheadC L.length L, e, fun s hs => hss.subset hs, fun s hs => ?_⟩
      rw [← hfix] at hs
      exact (mem_ahead.mp hs).2
/-- the core is empty just where there is no ring -/
theorem core_iff {L : List Sp} : core L = [] ↔ ¬ GRing L := by
  constructor
  · intro h hg
    obtain ⟨Q, h1, h2, _⟩ := gring_iter stepC (fun _ => gring_step) L.length L hg
    obtain ⟨s, hs⟩ := List.exists_mem_of_ne_nil Q h1
    have := h2 s hs
    rw [show iterN stepC L.length L = core L from rfl, h] at this
    cases this
  · intro h
    by_cases e : core L = []
    · exact e
    · exfalso
      apply h
      refine ⟨core L, e, fun s hs => (core_sub L).subset hs, fun s hs => ?_⟩
      have hfix := iter_fix L.length L (Nat.le_refl _)
      have hs' : s ∈ stepC (core L) := by unfold core; rw [hfix]; exact hs
      obtain ⟨ha, _⟩ := mem_back.mp hs'
      exact (mem_ahead.mp ha).2
/-! the order -/
def rdyO (left : List Sp) : List Sp := left.filter fun s => !(left.any fun o => goB o s)
def ordGo : Nat → List Sp → List Sp → Option (List Sp)
  | 0, left, found => if left = [] then some found else none
  | n + 1, left, found => if left = [] then some found else match rdyO left with
    | [] => none
    | r :: _ => ordGo n (left.erase r) (found ++ [r])
theorem mem_rdyO {left : List Sp} {s : Sp} : s ∈ rdyO left ↔ s ∈ left ∧ ∀ o ∈ left, goB o s = false := by
  unfold rdyO
  rw [List.mem_filter]
  simp
structure NoBack (o : List Sp) : Prop where
  pw : o.Pairwise fun a b => goB b a = false
  self : ∀ a ∈ o, goB a a = false
theorem ord_some : ∀ (n : Nat) (left found : List Sp), left.length ≤ n → ¬ GRing left → NoBack found → (∀ a ∈ found, ∀ b ∈ left, goB b a = false) → ∃ o, ordGo n left found = some o ∧ o.Perm (found ++ left) ∧ NoBack o
  | 0, left, found, hl, _, hn, _ => by
    have : left = [] := List.length_eq_zero_iff.mp (by omega)
    subst this
    exact ⟨found, by simp [ordGo], by simp, hn⟩
  | n + 1, left, found, hl, hg, hn, hb => by
    unfold ordGo
    by_cases he : left = []
    · subst he
      exact ⟨found, by simp, by simp, hn⟩
    · rw [if_neg he]
      cases hr : rdyO left with
      | nil =>
        exfalso
        apply hg
        refine ⟨left, he, fun s hs => hs, fun s hs => ?_⟩
        have : s ∉ rdyO left := by rw [hr]; simp
        rw [mem_rdyO] at this
        obtain ⟨o, ho⟩ := Classical.not_forall.mp fun q => this ⟨hs, q⟩
        obtain ⟨h1, h2⟩ := Classical.not_imp.mp ho
        exact ⟨o, h1, by simpa using h2⟩
      | cons r rest =>
        have hmem : r ∈ rdyO left := by rw [hr]; exact List.mem_cons_self
        obtain ⟨m1, m2⟩ := mem_rdyO.mp hmem
        have hsub : ∀ s ∈ left.erase r, s ∈ left := fun s hs => List.mem_of_mem_erase hs
        have hlen : (left.erase r).length ≤ n := by rw [List.length_erase_of_mem m1]; omega
        obtain ⟨o, h1, h2, h3⟩ := ord_some n (left.erase r) (found ++ [r]) hlen (fun q => hg (q.mono hsub)) ⟨by
            rw [List.pairwise_append]
            refine ⟨hn.pw, by simp, fun a ha b hb' => ?_⟩
            rw [List.mem_singleton.mp hb']
            exact hb a ha r m1, fun a ha => by
            rcases List.mem_append.mp ha with q | q
            · exact hn.self a q
            · rw [List.mem_singleton.mp q]; exact m2 r m1⟩ (fun a ha b hb' => by
          rcases List.mem_append.mp ha with q | q
          · exact hb a q b (hsub b hb')
          · rw [List.mem_singleton.mp q]; exact m2 b (hsub b hb'))
        refine ⟨o, h1, h2.trans ?_, h3⟩
        rw [List.append_assoc]
        exact List.Perm.append_left _ (List.perm_cons_erase m1).symm
theorem ord_none : ∀ (n : Nat) (left found : List Sp), left.length ≤ n → GRing left → ordGo n left found = none
  | 0, left, found, hl, ⟨Q, h1, h2, _⟩ => by
    obtain ⟨s, hs⟩ := List.exists_mem_of_ne_nil Q h1
    have := List.length_pos_of_mem (h2 s hs)
    omega
  | n + 1, left, found, hl, ⟨Q, h1, h2, h3⟩ => by
    obtain ⟨s, hs⟩ := List.exists_mem_of_ne_nil Q h1
    have hne : left ≠ [] := List.ne_nil_of_mem (h2 s hs)
    unfold ordGo
    rw [if_neg hne]
    cases hr : rdyO left with
    | nil => rfl
    | cons r rest =>
      have hmem : r ∈ rdyO left := by rw [hr]; exact List.mem_cons_self
      obtain ⟨m1, m2⟩ := mem_rdyO.mp hmem
      refine ord_none n (left.erase r) _ (by rw [List.length_erase_of_mem m1]; omega) ⟨Q, h1, fun q hq => ?_, h3⟩
      have hnr : q ≠ r := by
        rintro rfl
        obtain ⟨t, ht, hg⟩ := h3 q hq
        rw [m2 t (h2 t ht)] at hg
        cases hg
      exact (List.mem_erase_of_ne hnr).mpr (h2 q hq)
/-! two steps that meet -/
theorem pair_hold {a b : Sp} (ha : OkC a.cd) (hb : OkC b.cd) (hc : clashB a.cd b.cd = false) : holdB a.cd (setS (meetF [a, b])) = true ∧ holdB b.cd (setS (meetF [a, b])) = true := by
  have key : ∀ f x y, (f, x) ∈ a.cd → (f, y) ∈ b.cd → x = y := fun f x y m1 m2 => by
    rw [Bool.eq_false_iff] at hc
    exact Classical.not_not.mp fun hn => hc ((clash_iff ha).mpr ⟨f, x, y, m1, m2, hn⟩)
  have self : ∀ c : Sp, OkC c.cd → ∀ f x y, (f, x) ∈ c.cd → (f, y) ∈ c.cd → x = y := fun c h f x y m1 m2 => by
    have := inj_of_nodup (·.1) h.nd m1 m2 rfl
    cases this; rfl
  have := hold_meet (L := [a, b]) (V := setS (meetF [a, b])) (fun f => mem_setS) fun s hs t ht f x y m1 m2 => by
    simp only [List.mem_cons, List.not_mem_nil, or_false] at hs ht
    rcases hs with rfl | rfl <;> rcases ht with rfl | rfl
    · exact self _ ha f x y m1 m2
    · exact key f x y m1 m2
    · exact (key f y x m2 m1).symm
    · exact self _ hb f x y m1 m2
  exact ⟨this a (by simp), this b (by simp)⟩
end Ra.K3


set_option Elab.async false
set_option linter.all false
set_option maxRecDepth 100000
set_option maxHeartbeats 400000
namespace Ra.K3
open PySem M _root_.K4
abbrev T : List Fn := D.map Df.fnT
def encC (cd : List (Str × Int)) : PyData := .tuple (cd.map fun p => .tuple [.str p.1, .int p.2])
def enc (s : Sp) : PyData := .tuple [.str s.nm, .str s.me, .tuple (s.rd.map PyData.str), .str s.sh, encC s.cd]
def encP (P : List Sp) : PyData := .tuple (P.map enc)
def encV (V : List Str) : PyData := .tuple (V.map PyData.str)
section
variable {α : Type}
theorem lcLoop_of {t : Tg} {tests : List P} {elt : P} {gs : List Nat} {env : Env} {m : Mem} (e : α → PyData) (p : α → Bool) (f : α → PyData) (hg : same gs m m = true) : ∀ {xs : List α},
    (∀ x ∈ xs, ∃ env', asg t (e x) env = some env' ∧ tAll tests env' m = .ok (p x) m ∧ (p x = true → ∃ v, elt.v env' m = .ok v m ∧ frz v m = .ok (f x) m)) → lcLoop t tests elt gs env (xs.map e) m = .ok ((xs.filter p).map f) m
  | [], _ => rfl
  | x :: xs, h => by
    obtain ⟨env', h1, h2, h3⟩ := h x List.mem_cons_self
    have ih := lcLoop_of (t := t) (tests := tests) (elt := elt) (env := env) e p f hg (xs := xs) fun y hy => h y (List.mem_cons_of_mem _ hy)
    rw [List.map_cons]
    unfold lcLoop
    rw [h1]
    simp only [h2, Res.bind_ok]
    cases hp : p x with
    | false => simp [hg, ih, hp]
    | true =>
      obtain ⟨v, h4, h5⟩ := h3 hp
      simp [h4, h5, hg, ih, hp]
theorem lcLoop_ofm {t : Tg} {call : Call} {elt : P} {gs : List Nat} {env : Env} {m : Mem} (e : α → PyData) (f : α → PyData) (hg : same gs m m = true) {xs : List α}
    (h : ∀ x ∈ xs, ∃ env', asg t (e x) env = some env' ∧ ∃ v, elt.v env' m = .ok v m ∧ frz v m = .ok (f x) m) : lcLoop t (sems call []) elt gs env (xs.map e) m = .ok (xs.map f) m := by
  rw [lcLoop_of e (fun _ => true) f hg]
  · rw [List.filter_eq_self.mpr fun _ _ => rfl]
  · intro x hx
    obtain ⟨env', h1, h2⟩ := h x hx
    exact ⟨env', h1, rfl, fun _ => h2⟩
theorem lc2Loop_of {t : Tg} {tests : List P} {inner : Nat → Env → Mem → Res (List PyData)} {gs : List Nat} {env : Env} {m : Mem} (e : α → PyData) (f : α → List PyData) (hg : same gs m m = true) (B : Nat) (ht : ∀ env', tAll tests env' m = .ok true m) : ∀ {xs : List α} {n : Nat}, (n + (xs.flatMap f).length ≤ B) →
    (∀ x ∈ xs, ∃ env', asg t (e x) env = some env' ∧ (∀ n, n + (f x).length ≤ B → inner n env' m = .ok (f x) m)) → lc2Loop t tests inner gs env n (xs.map e) m = .ok (xs.flatMap f) m
  | [], n, _, _ => rfl
  | x :: xs, n, hB, h => by
    obtain ⟨env', h1, h3⟩ := h x List.mem_cons_self
    rw [List.flatMap_cons, List.length_append] at hB
    rw [List.map_cons]
    unfold lc2Loop
    rw [h1]
    simp only [ht, Res.bind_ok, if_true, h3 n (by omega), hg]
    rw [lc2Loop_of (t := t) (tests := tests) (inner := inner) (env := env) e f hg B ht (xs := xs) (n := n + (f x).length) (by omega) fun y hy => h y (List.mem_cons_of_mem _ hy)]
    rw [List.flatMap_cons]
    rfl
/-- a search -/
theorem forLoop_find {t : Tg} {body : EX} {gs : List Nat} {m : Mem} (e : α → PyData) (p : α → Option Val) (J : Env → Prop) (hg : same gs m m = true) : ∀ {xs : List α} {env : Env}, J env →
    (∀ x ∈ xs, ∀ env, J env → ∃ env1, asg t (e x) env = some env1 ∧ (match p x with | some v => body env1 m = .ok (.ret v) m | none => ∃ env2, body env1 m = .ok (.next env2) m ∧ J env2)) →
    (∃ v, xs.findSome? p = some v ∧ forLoop t body gs (xs.map e) env m = .ok (.ret v) m) ∨ (xs.findSome? p = none ∧ ∃ env', forLoop t body gs (xs.map e) env m = .ok (.next env') m ∧ J env')
  | [], env, hJ, _ => .inr ⟨rfl, env, rfl, hJ⟩
  | x :: xs, env, hJ, h => by
    obtain ⟨env1, h1, h2⟩ := h x List.mem_cons_self env hJ
    rw [List.map_cons]
    unfold forLoop
    rw [h1]
    cases hp : p x with
    | some v =>
      rw [hp] at h2
      exact .inl ⟨v, by simp [hp], by simp [h2]⟩
    | none =>
      rw [hp] at h2
      obtain ⟨env2, h3, h4⟩ := h2
      have ih := forLoop_find (t := t) (body := body) (gs := gs) e p J hg (xs := xs) h4 fun y hy => h y (List.mem_cons_of_mem _ hy)
      simp only [h3, Res.bind_ok, hg, if_true, List.findSome?_cons, hp]
      exact ih
end
/-! data -/
theorem idx0 (a : PyData) (r : List PyData) : idx (.tuple (a :: r)) (.int 0) = some a := by simp [idx, L2.atI, L2.ixN]
theorem idx1 (a b : PyData) (r : List PyData) : idx (.tuple (a :: b :: r)) (.int 1) = some b := by
  have : (1 : Int) < r.length + 1 + 1 := by omega
  simp [idx, L2.atI, L2.ixN, this]
theorem idx2 (a b c : PyData) (r : List PyData) : idx (.tuple (a :: b :: c :: r)) (.int 2) = some c := by
  have : (2 : Int) < r.length + 1 + 1 + 1 := by omega
  simp [idx, L2.atI, L2.ixN, this]
theorem idx3 (a b c d : PyData) (r : List PyData) : idx (.tuple (a :: b :: c :: d :: r)) (.int 3) = some d := by
  have : (3 : Int) < r.length + 1 + 1 + 1 + 1 := by omega
  simp [idx, L2.atI, L2.ixN, this]
theorem idx4 (a b c d e : PyData) (r : List PyData) : idx (.tuple (a :: b :: c :: d :: e :: r)) (.int 4) = some e := by
  have : (4 : Int) < r.length + 1 + 1 + 1 + 1 + 1 := by omega
  simp [idx, L2.atI, L2.ixN, this]
theorem e0 (s : Sp) : idx (enc s) (.int 0) = some (.str s.nm) := idx0 _ _
theorem e2 (s : Sp) : idx (enc s) (.int 2) = some (.tuple (s.rd.map PyData.str)) := idx2 _ _ _ _
theorem e3 (s : Sp) : idx (enc s) (.int 3) = some (.str s.sh) := idx3 _ _ _ _ _
theorem e4 (s : Sp) : idx (enc s) (.int 4) = some (encC s.cd) := idx4 _ _ _ _ _ _
theorem cmp_eqB (a b : Bool) : cmp .eq (.bool a) (.bool b) = some (a == b) := by
  cases a <;> cases b <;> decide
theorem cmp_neB (a b : Bool) : cmp .ne (.bool a) (.bool b) = some (!(a == b)) := by
  cases a <;> cases b <;> decide
theorem depth_str (s : Str) : (PyData.str s).depth = 0 := by simp [PyData.depth]
theorem cmp_eqS (a b : Str) : cmp .eq (.str a) (.str b) = some (decide (a = b)) := by
  have hd : deep (.str a) (.str b) = true := decide_eq_true (by rw [depth_str, depth_str]; decide)
  show (if deep (.str a) (.str b) = true then some (PyData.eqv (.str a) (.str b)) else none) = _
  rw [if_pos hd, eqv_str]
  congr 1
theorem any_strs (x : Str) : ∀ ys : List Str, ((ys.map PyData.str).any fun y => PyData.eqv y (.str x)) = decide (x ∈ ys)
  | [] => rfl
  | y :: ys => by
    rw [List.map_cons, List.any_cons, any_strs x ys, eqv_str]
    by_cases h : y = x
    · subst h; simp
    · have h' : ¬ x = y := fun e => h e.symm
      simp [h, h']
theorem in_strsT (x : Str) (ys : List Str) : inD (.str x) (.tuple (ys.map PyData.str)) = some (decide (x ∈ ys)) := by
  show inAll _ _ = _
  unfold inAll
  rw [if_pos (by rw [depth_str]; decide), any_strs]
theorem in_strsL (x : Str) (ys : List Str) : inD (.str x) (.list (ys.map PyData.str)) = some (decide (x ∈ ys)) := by
  show inAll _ _ = _
  unfold inAll
  rw [if_pos (by rw [depth_str]; decide), any_strs]
@[simp] theorem cmp_inT (x : Str) (ys : List Str) : cmp .isin (.str x) (.tuple (ys.map PyData.str)) = some (decide (x ∈ ys)) := in_strsT x ys
@[simp] theorem cmp_inL (x : Str) (ys : List Str) : cmp .isin (.str x) (.list (ys.map PyData.str)) = some (decide (x ∈ ys)) := in_strsL x ys
@[simp] theorem cmp_ninT (x : Str) (ys : List Str) : cmp .notin (.str x) (.tuple (ys.map PyData.str)) = some (!decide (x ∈ ys)) := by
  show (inD (.str x) (.tuple (ys.map PyData.str))).map (!·) = _
  rw [in_strsT]; rfl
@[simp] theorem cmp_ninL (x : Str) (ys : List Str) : cmp .notin (.str x) (.list (ys.map PyData.str)) = some (!decide (x ∈ ys)) := by
  show (inD (.str x) (.list (ys.map PyData.str))).map (!·) = _
  rw [in_strsL]; rfl
theorem eqvAll_map {α : Type} [DecidableEq α] (f : α → PyData) (h : ∀ a b, PyData.eqv (f a) (f b) = decide (a = b)) : ∀ xs ys : List α, PyData.eqvAll (xs.map f) (ys.map f) = decide (xs = ys)
  | [], [] => by simp [PyData.eqvAll]
  | [], _ :: _ => by simp [PyData.eqvAll]
  | _ :: _, [] => by simp [PyData.eqvAll]
  | k :: ks, j :: js => by
    simp only [List.map_cons, PyData.eqvAll, eqvAll_map f h ks js, h, List.cons.injEq]
    by_cases h : k = j <;> simp [h]
theorem eqv_pr (a b : Str × Int) : PyData.eqv (.tuple [.str a.1, .int a.2]) (.tuple [.str b.1, .int b.2]) = decide (a = b) := by
  obtain ⟨a, x⟩ := a
  obtain ⟨b, y⟩ := b
  simp only [PyData.eqv, PyData.eqvAll, eqv_str, eqv_int, Prod.mk.injEq]
  by_cases h : a = b <;> by_cases h' : x = y <;> simp [h, h']
theorem eqv_strd (a b : Str) : PyData.eqv (.str a) (.str b) = decide (a = b) := by
  rw [eqv_str]; rfl
theorem eqv_enc (a b : Sp) : PyData.eqv (enc a) (enc b) = decide (a = b) := by
  obtain ⟨a1, a2, a3, a4, a5⟩ := a
  obtain ⟨b1, b2, b3, b4, b5⟩ := b
  simp only [enc, encC, PyData.eqv, PyData.eqvAll, eqv_strd, eqvAll_map _ eqv_pr, eqvAll_map _ eqv_strd, Sp.mk.injEq]
  by_cases h1 : a1 = b1 <;> by_cases h2 : a2 = b2 <;> by_cases h3 : a3 = b3 <;> by_cases h4 : a4 = b4 <;> by_cases h5 : a5 = b5 <;> simp [h1, h2, h3, h4, h5]
theorem depthAll_le {d : Nat} : ∀ {xs : List PyData}, (∀ x ∈ xs, x.depth ≤ d) → PyData.depthAll xs ≤ d
  | [], _ => by simp [PyData.depthAll]
  | x :: xs, h => by
    rw [PyData.depthAll]
    exact Nat.max_le.mpr ⟨h x List.mem_cons_self, depthAll_le fun y hy => h y (List.mem_cons_of_mem _ hy)⟩
theorem depth_strs : ∀ L : List Str, PyData.depthAll (L.map PyData.str) = 0
  | [] => by simp [PyData.depthAll]
  | x :: L => by
    have := depth_strs L
    simp only [List.map_cons, PyData.depthAll, PyData.depth, this]
    rfl
theorem depth_encC (cd : List (Str × Int)) : (encC cd).depth ≤ 2 := by
  unfold encC
  rw [PyData.depth]
  have : PyData.depthAll (cd.map fun p => PyData.tuple [.str p.1, .int p.2]) ≤ 1 := depthAll_le fun x hx => by
    obtain ⟨p, _, rfl⟩ := List.mem_map.mp hx
    simp [PyData.depth, PyData.depthAll]
  omega
theorem depth_enc (s : Sp) : (enc s).depth ≤ 3 := by
  unfold enc
  have h1 := depth_encC s.cd
  have h2 := depth_strs s.rd
  rw [PyData.depth]
  have : PyData.depthAll [.str s.nm, .str s.me, .tuple (s.rd.map PyData.str), .str s.sh, encC s.cd] ≤ 2 := depthAll_le fun x hx => by
    simp only [List.mem_cons, List.not_mem_nil, or_false] at hx
    rcases hx with rfl | rfl | rfl | rfl | rfl
    · rw [depth_str]; omega
    · rw [depth_str]; omega
    · rw [PyData.depth, h2]; omega
    · rw [depth_str]; omega
    · exact h1
  omega
theorem depth_encs (P : List Sp) : PyData.depthAll (P.map enc) ≤ 3 := depthAll_le fun x hx => by
  obtain ⟨s, _, rfl⟩ := List.mem_map.mp hx
  exact depth_enc s
theorem any_encs (s : Sp) : ∀ ys : List Sp, ((ys.map enc).any fun y => PyData.eqv y (enc s)) = decide (s ∈ ys)
  | [] => rfl
  | y :: ys => by
    rw [List.map_cons, List.any_cons, any_encs s ys, eqv_enc]
    by_cases h : y = s
    · subst h; simp
    · have h' : ¬ s = y := fun e => h e.symm
      simp [h, h']
theorem in_encT (s : Sp) (ys : List Sp) : inD (enc s) (.tuple (ys.map enc)) = some (decide (s ∈ ys)) := by
  show inAll _ _ = _
  unfold inAll
  rw [if_pos (by have := depth_enc s; omega), any_encs]
theorem in_encL (s : Sp) (ys : List Sp) : inD (enc s) (.list (ys.map enc)) = some (decide (s ∈ ys)) := by
  show inAll _ _ = _
  unfold inAll
  rw [if_pos (by have := depth_enc s; omega), any_encs]
/-! deep copies -/
mutual
def tupD : PyData → PyData
  | .list xs => .tuple (tupDs xs)
  | .tuple xs => .tuple (tupDs xs)
  | x => x
def tupDs : List PyData → List PyData
  | [] => []
  | x :: r => tupD x :: tupDs r
end
mutual
def lisD : PyData → PyData
  | .list xs => .list (lisDs xs)
  | .tuple xs => .list (lisDs xs)
  | x => x
def lisDs : List PyData → List PyData
  | [] => []
  | x :: r => lisD x :: lisDs r
end
theorem tupDs_eq : ∀ xs, tupDs xs = xs.map tupD
  | [] => by simp [tupDs]
  | x :: r => by rw [tupDs, tupDs_eq r]; rfl
theorem lisDs_eq : ∀ xs, lisDs xs = xs.map lisD
  | [] => by simp [lisDs]
  | x :: r => by rw [lisDs, lisDs_eq r]; rfl
theorem sp_tupled (wf : Nat) : ∀ (n : Nat) (x : PyData) (m : Mem), x.depth < n → run T wf n 1 [.d x] m = .ok (.d (tupD x)) m
  | 0, _, _, h => by omega
  | n + 1, x, m, h => by
    rw [run_succ d_tupled.fnT rfl rfl (by decide)]
    cases x with
    | list xs =>
      rw [PyData.depth] at h
      simp [d_tupled, Df.fnT, b_tupled, isi]
      rw [lcLoop_map tupD rfl]
      · simp [tupD, tupDs_eq]
      · intro y hy
        have := depth_le hy
        simp [sp_tupled wf n y m (by omega)]
    | tuple xs =>
      rw [PyData.depth] at h
      simp [d_tupled, Df.fnT, b_tupled, isi]
      rw [lcLoop_map tupD rfl]
      · simp [tupD, tupDs_eq]
      · intro y hy
        have := depth_le hy
        simp [sp_tupled wf n y m (by omega)]
    | _ => simp [d_tupled, Df.fnT, b_tupled, isi, tupD]
def lisV : PyData → Val
  | .list xs => .fr (lisDs xs)
  | .tuple xs => .fr (lisDs xs)
  | x => .d x
theorem lisV_frz (x : PyData) (m : Mem) : frz (lisV x) m = .ok (lisD x) m := by
  cases x <;> simp [lisV, lisD]
theorem sp_lists (wf : Nat) : ∀ (n : Nat) (x : PyData) (m : Mem), x.depth < n → run T wf n 20 [.d x] m = .ok (lisV x) m
  | 0, _, _, h => by omega
  | n + 1, x, m, h => by
    rw [run_succ d__law_lists.fnT rfl rfl (by decide)]
    cases x with
    | list xs =>
      rw [PyData.depth] at h
      simp [d__law_lists, Df.fnT, b__law_lists, isi]
      rw [lcLoop_map lisD rfl]
      · simp [lisV, lisDs_eq]
      · intro y hy
        have := depth_le hy
        simp [sp_lists wf n y m (by omega), lisV_frz]
    | tuple xs =>
      rw [PyData.depth] at h
      simp [d__law_lists, Df.fnT, b__law_lists, isi]
      rw [lcLoop_map lisD rfl]
      · simp [lisV, lisDs_eq]
      · intro y hy
        have := depth_le hy
        simp [sp_lists wf n y m (by omega), lisV_frz]
    | _ => simp [d__law_lists, Df.fnT, b__law_lists, isi, lisV]
theorem tup_strs (V : List Str) : (V.map PyData.str).map tupD = V.map PyData.str := by
  rw [List.map_map]
  exact List.map_congr_left fun s _ => by simp [tupD]
theorem tup_encC (cd : List (Str × Int)) : tupD (encC cd) = encC cd := by
  simp only [encC, tupD, tupDs_eq, List.map_map]
  congr 1
theorem tup_enc (s : Sp) : tupD (enc s) = enc s := by
  simp only [enc, tupD, tupDs, tupDs_eq, tup_strs, tup_encC]
theorem tup_encs (P : List Sp) : (P.map enc).map tupD = P.map enc := by
  rw [List.map_map]
  exact List.map_congr_left fun s _ => tup_enc s
/-- what is read as a plan -/
structure Rd (x : PyData) (P : List Sp) : Prop where
  tup : tupD x = encP P
  dep : x.depth ≤ 4
theorem rdT (P : List Sp) : Rd (encP P) P := ⟨by simp only [encP, tupD, tupDs_eq, tup_encs], by
  unfold encP
  rw [PyData.depth]
  have := depth_encs P
  omega⟩
theorem rdL (P : List Sp) : Rd (.list (P.map enc)) P := ⟨by simp only [encP, tupD, tupDs_eq, tup_encs], by
  rw [PyData.depth]
  have := depth_encs P
  omega⟩
mutual
theorem tup_lis : ∀ x, tupD (lisD x) = tupD x
  | .list xs => by simp [tupD, lisD, tup_liss xs]
  | .tuple xs => by simp [tupD, lisD, tup_liss xs]
  | .none => by simp [tupD, lisD]
  | .bool _ => by simp [tupD, lisD]
  | .int _ => by simp [tupD, lisD]
  | .str _ => by simp [tupD, lisD]
  | .dict _ => by simp [tupD, lisD]
theorem tup_liss : ∀ xs, tupDs (lisDs xs) = tupDs xs
  | [] => by simp [tupDs, lisDs]
  | x :: r => by simp [tupDs, lisDs, tup_lis x, tup_liss r]
end
mutual
theorem dep_lis : ∀ x, (lisD x).depth = x.depth
  | .list xs => by simp [PyData.depth, lisD, dep_liss xs]
  | .tuple xs => by simp [PyData.depth, lisD, dep_liss xs]
  | .none => by simp [lisD]
  | .bool _ => by simp [lisD]
  | .int _ => by simp [lisD]
  | .str _ => by simp [lisD]
  | .dict _ => by simp [lisD]
theorem dep_liss : ∀ xs, PyData.depthAll (lisDs xs) = PyData.depthAll xs
  | [] => by simp [lisDs]
  | x :: r => by simp [PyData.depthAll, lisDs, dep_lis x, dep_liss r]
end
theorem rdS (P : List Sp) : Rd (lisD (encP P)) P := ⟨by rw [tup_lis, (rdT P).tup], by rw [dep_lis]; exact (rdT P).dep⟩
theorem Rd.run {x : PyData} {P : List Sp} (h : Rd x P) (wf n : Nat) (hn : 5 ≤ n) (m : Mem) : run T wf n 1 [.d x] m = .ok (.d (encP P)) m := by
  rw [sp_tupled wf n x m (by have := h.dep; omega), h.tup]
end Ra.K3

set_option Elab.async false
set_option linter.all false
set_option maxRecDepth 100000
set_option maxHeartbeats 400000
namespace Ra.K3
open PySem M _root_.K4
theorem anyD_map {α : Type} (f : α → Bool) (xs : List α) : anyD [.list (xs.map fun x => PyData.bool (f x))] = some (.d (.bool (xs.any f))) := by
  show (bools (xs.map fun x => PyData.bool (f x))).map _ = _
  rw [bools_map, Option.map_some, List.any_map]; rfl
@[simp] theorem bi_any (x : List PyData) : bi .any x = anyD x := rfl
@[simp] theorem bi_sorted (x : List PyData) : bi .sorted x = sortedD x := rfl
@[simp] theorem walk_encV (V : List Str) : walk .seq [encV V] = some (V.map PyData.str) := rfl
@[simp] theorem walk_encP (V : List Sp) : walk .seq [encP V] = some (V.map enc) := rfl
@[simp] theorem walk_encC (cd : List (Str × Int)) : walk .seq [encC cd] = some (cd.map fun p => .tuple [.str p.1, .int p.2]) := rfl
/-- a loop that carries a state -/
theorem forLoop_st {α σ : Type} {t : Tg} {body : EX} {gs : List Nat} {m : Mem} (e : α → PyData) (st : Nat → σ → Env → Prop) (f : σ → α → σ) (hg : same gs m m = true) : ∀ {xs : List α} {s : σ} {env : Env} (n0 : Nat),
    (∀ i x, xs[i]? = some x → ∀ s env, st (n0 + i) s env → ∃ env1 env2, asg t (e x) env = some env1 ∧ body env1 m = .ok (.next env2) m ∧ st (n0 + i + 1) (f s x) env2) → st n0 s env →
    ∃ env', forLoop t body gs (xs.map e) env m = .ok (.next env') m ∧ st (n0 + xs.length) (xs.foldl f s) env'
  | [], s, env, n0, _, h0 => ⟨env, rfl, h0⟩
  | x :: xs, s, env, n0, h, h0 => by
    obtain ⟨env1, env2, a1, a2, a3⟩ := h 0 x rfl s env (by simpa using h0)
    obtain ⟨env', b1, b2⟩ := forLoop_st (t := t) (body := body) (gs := gs) e st f hg (xs := xs) (s := f s x) (env := env2) (n0 + 1) (fun i y hy s env hs => by
      obtain ⟨c1, c2, d1, d2, d3⟩ := h (i + 1) y (by simpa using hy) s env (by rw [show n0 + (i + 1) = n0 + 1 + i by omega]; exact hs)
      exact ⟨c1, c2, d1, d2, by rw [show n0 + 1 + i + 1 = n0 + (i + 1) + 1 by omega]; exact d3⟩) (by simpa using a3)
    refine ⟨env', ?_, by rw [List.length_cons, show n0 + (xs.length + 1) = n0 + 1 + xs.length by omega]; exact b2⟩
    rw [List.map_cons]
    unfold forLoop
    rw [a1]
    simp only [a2, Res.bind_ok, hg, if_true]
    exact b1
/-! sorted rows of texts -/
theorem alike_strs (L : List Str) : allAlike (L.map PyData.str) = true := by
  unfold allAlike
  simp [PySem.W.alike]
theorem sortable_strs (L : List Str) : sortable (L.map PyData.str) = true := by
  unfold sortable
  simp [isPlainC]
theorem allStr_strs : ∀ L : List Str, allStr (L.map PyData.str) = true
  | [] => rfl
  | _ :: L => allStr_strs L
theorem sortD_strs (L : List Str) : sortD (L.map PyData.str) = some ((srt L).map PyData.str) := by
  unfold sortD
  simp [alike_strs, sortable_strs, depth_strs, (srt_eq L).1]
theorem dedup_firstS (ks : List Str) : dedup [] (ks.map PyData.str) = (firstS [] ks).map PyData.str := by
  have e := dedup_strs ks []
  simpa using e
theorem sset_L (ks : List Str) (h : ks.length < 4000) : bi .sortedset [.list (ks.map PyData.str)] = some (.fr ((setS ks).map PyData.str)) := by
  rw [show ∀ z, bi .sortedset z = sortedsetD z from fun _ => rfl]
  unfold sortedsetD
  simp only
  rw [if_pos ⟨allStr_strs ks, by simpa using h⟩, dedup_firstS, sortD_strs]
  rfl
theorem sset_T (ks : List Str) (h : ks.length < 4000) : bi .sortedset [.tuple (ks.map PyData.str)] = some (.fr ((setS ks).map PyData.str)) := by
  rw [show ∀ z, bi .sortedset z = sortedsetD z from fun _ => rfl]
  unfold sortedsetD
  simp only
  rw [if_pos ⟨allStr_strs ks, by simpa using h⟩, dedup_firstS, sortD_strs]
  rfl
theorem sp_setL (wf n : Nat) (hn : 1 ≤ n) (ks : List Str) (h : ks.length < 4000) (m : Mem) : run T wf n 2 [.d (.list (ks.map PyData.str))] m = .ok (.d (encV (setS ks))) m := by
  obtain ⟨n, rfl⟩ : ∃ k, n = k + 1 := ⟨n - 1, by omega⟩
  rw [run_succ d_set_of.fnT rfl rfl (by decide)]
  simp [d_set_of, Df.fnT, b_set_of, sset_L ks h, encV]
theorem sp_setT (wf n : Nat) (hn : 1 ≤ n) (ks : List Str) (h : ks.length < 4000) (m : Mem) : run T wf n 2 [.d (.tuple (ks.map PyData.str))] m = .ok (.d (encV (setS ks))) m := by
  obtain ⟨n, rfl⟩ : ∃ k, n = k + 1 := ⟨n - 1, by omega⟩
  rw [run_succ d_set_of.fnT rfl rfl (by decide)]
  simp [d_set_of, Df.fnT, b_set_of, sset_T ks h, encV]
/-! a plan that is small -/
def FL : List Str := ["x", "y", "z"]
structure WQ (P : List Sp) : Prop extends WP P where
  len : P.length ≤ 8
  cl : ∀ s ∈ P, s.cd.length ≤ 8
  fl : ∀ s ∈ P, ∀ p ∈ s.cd, p.1 ∈ FL
theorem WQ.sub {P L : List Sp} (h : WQ P) (hs : L.Sublist P) : WQ L where
  ris := ris_pair.mpr ((ris_pair.mp h.ris).sublist (hs.map _))
  ok := fun s hm => h.ok s (hs.subset hm)
  len := Nat.le_trans hs.length_le h.len
  cl := fun s hm => h.cl s (hs.subset hm)
  fl := fun s hm => h.fl s (hs.subset hm)
theorem flat_len {α β : Type} (f : α → List β) (c : Nat) : ∀ {l : List α}, (∀ x ∈ l, (f x).length ≤ c) → (l.flatMap f).length ≤ c * l.length
  | [], _ => by simp
  | x :: l, h => by
    rw [List.flatMap_cons, List.length_append, List.length_cons, Nat.mul_succ]
    have := flat_len f c (l := l) fun y hy => h y (List.mem_cons_of_mem _ hy)
    have := h x List.mem_cons_self
    omega
theorem WQ.flags_len {P : List Sp} (h : WQ P) : (flagsL P).length ≤ 64 := by
  have := flat_len (fun s : Sp => s.cd.map (·.1)) 8 (l := P) fun s hs => by rw [List.length_map]; exact h.cl s hs
  have := h.len
  show (P.flatMap _).length ≤ 64
  omega
theorem WQ.meet_len {P : List Sp} (h : WQ P) {L : List Sp} (hl : L.length ≤ 8) (hs : ∀ s ∈ L, s ∈ P) : (meetF L).length ≤ 64 := by
  have := flat_len (fun s : Sp => (s.cd.filter fun p => p.2 == 1).map (·.1)) 8 (l := L) fun s hm => by
    rw [List.length_map]
    exact Nat.le_trans (List.length_filter_le _ _) (h.cl s (hs s hm))
  show (L.flatMap _).length ≤ 64
  omega
theorem WQ.flags3 {P : List Sp} (h : WQ P) : (flagsS P).length ≤ 3 := by
  refine nodup_len (l' := FL) (ris_nodup (ris_setS _)) fun f hf => ?_
  obtain ⟨s, hs, a, hm⟩ := mem_flags.mp hf
  exact h.fl s hs _ hm
/-! conditions -/
/-! variants -/
theorem subsF_fold : ∀ (fl : List Str) (found : List (List Str)), subsF found fl = fl.foldl (fun s f => s ++ s.map (· ++ [f])) found
  | [], _ => rfl
  | f :: r, found => by rw [subsF, subsF_fold r]; rfl
theorem subsF_len : ∀ (fl : List Str) (found : List (List Str)), (subsF found fl).length = found.length * 2 ^ fl.length
  | [], found => by simp [subsF]
  | f :: r, found => by
    rw [subsF, subsF_len r, List.length_append, List.length_map, List.length_cons, Nat.pow_succ]
    rw [← Nat.two_mul, Nat.mul_comm (2 : Nat), Nat.mul_assoc, Nat.mul_comm (2 : Nat)]
theorem subsF_head : ∀ (fl : List Str) (r : List (List Str)), ∃ r', subsF ([] :: r) fl = [] :: r'
  | [], r => ⟨r, rfl⟩
  | f :: fl, r => by
    rw [subsF, List.cons_append]
    exact subsF_head fl _
theorem alikeAll_strs : ∀ xs ys : List Str, PySem.W.alikeAll (xs.map PyData.str) (ys.map PyData.str) = true
  | [], _ => by simp [PySem.W.alikeAll]
  | _ :: _, [] => by simp [PySem.W.alikeAll]
  | x :: xs, y :: ys => by
    rw [List.map_cons, List.map_cons, PySem.W.alikeAll, alikeAll_strs xs ys]
    simp [PySem.W.alike]
def decV : PyData → List Str
  | .tuple xs => xs.map strOf
  | _ => []
theorem dec_enc (V : List Str) : decV (encV V) = V := by
  simp only [encV, decV, List.map_map]
  have e : (strOf ∘ PyData.str) = id := rfl
  rw [e, List.map_id]
def vsOf (fl : List Str) : List (List Str) := (isort [] ((subs fl).map encV)).map decV
theorem vsOf_eq (fl : List Str) : isort [] ((subs fl).map encV) = (vsOf fl).map encV ∧ (vsOf fl).Perm (subs fl) := by
  have hp := isort_perm ((subs fl).map encV) []
  rw [List.nil_append] at hp
  constructor
  · unfold vsOf
    rw [List.map_map]
    exact ((List.map_congr_left (f := encV ∘ decV) (g := id) fun x hx => by
      obtain ⟨V, _, rfl⟩ := List.mem_map.mp (hp.mem_iff.mp hx)
      simp [dec_enc]).trans (List.map_id _)).symm
  · have q := hp.map decV
    rw [List.map_map] at q
    have e : (decV ∘ encV) = id := funext dec_enc
    rw [e, List.map_id] at q
    exact q
theorem mem_vsOf {fl v : List Str} : v ∈ vsOf fl ↔ v.Sublist fl := by
  rw [(vsOf_eq fl).2.mem_iff, mem_subs]
theorem sort_subs (fl : List Str) : sortD ((subs fl).map encV) = some ((vsOf fl).map encV) := by
  unfold sortD
  have h1 : allAlike ((subs fl).map encV) = true := by
    unfold allAlike
    rw [List.all_eq_true]
    intro x hx
    rw [List.all_eq_true]
    intro y hy
    obtain ⟨a, _, rfl⟩ := List.mem_map.mp hx
    obtain ⟨b, _, rfl⟩ := List.mem_map.mp hy
    simp [encV, PySem.W.alike, alikeAll_strs]
  have h2 : sortable ((subs fl).map encV) = true := by
    unfold sortable
    obtain ⟨r, hr⟩ := subsF_head fl []
    have : tup0 ((subs fl).map encV) = true := by
      unfold subs
      rw [hr]
      show (r.map encV).all isTup = true
      rw [List.all_eq_true]
      intro x hx
      obtain ⟨a, _, rfl⟩ := List.mem_map.mp hx
      rfl
    simp [this]
  have h3 : PyData.depthAll ((subs fl).map encV) ≤ 64 := depthAll_le fun x hx => by
    obtain ⟨a, _, rfl⟩ := List.mem_map.mp hx
    simp [encV, PyData.depth, depth_strs]
  rw [if_pos (by rw [h1, h2, decide_eq_true h3]; rfl), (vsOf_eq fl).1]
theorem addL (xs ys : List PyData) (h : xs.length + ys.length ≤ 1000000) : bop .add (.list xs) (.list ys) = some (.fr (xs ++ ys)) := by
  show (if xs.length + ys.length ≤ lim then _ else _) = _
  rw [if_pos (by simp [lim]; omega)]
end Ra.K3

set_option Elab.async false
set_option linter.all false
set_option maxRecDepth 100000
set_option maxHeartbeats 400000
namespace Ra.K3
open PySem M _root_.K4
/-! dicts -/
theorem dcLoop_of {α : Type} {t : Tg} {call : Call} {ke ve : P} {gs : List Nat} {env : Env} {m : Mem} (e : α → PyData) (k : α → Str) (v : α → PyData) (hg : same gs m m = true) : ∀ {xs : List α} {acc : List (PyData × PyData)},
    (∀ x ∈ xs, ∃ env', asg t (e x) env = some env' ∧ ke.v env' m = .ok (.d (.str (k x))) m ∧ ve.v env' m = .ok (.d (v x)) m) →
    dcLoop t (sems call []) ke ve gs env (xs.map e) acc m = .ok (xs.foldl (fun a x => dPut a (.str (k x)) (v x)) acc) m
  | [], _, _ => rfl
  | x :: xs, acc, h => by
    obtain ⟨env', h1, h2, h3⟩ := h x List.mem_cons_self
    rw [List.map_cons]
    unfold dcLoop
    rw [h1]
    simp only [tAll_nil, Res.bind_ok, if_true, h2, frz_d, h3, keyB, hg, and_self]
    exact dcLoop_of e k v hg fun y hy => h y (List.mem_cons_of_mem _ hy)
theorem beq_str (a b : Str) : beqD (.str a) (.str b) = (a == b) := by simp [beqD]
theorem put_new {acc : List (Str × PyData)} {k : Str} {v : PyData} (h : k ∉ acc.map (·.1)) : dPut (acc.map fun p => (PyData.str p.1, p.2)) (.str k) v = (acc ++ [(k, v)]).map fun p => (PyData.str p.1, p.2) := by
  unfold dPut
  have : ((acc.map fun p => (PyData.str p.1, p.2)).any fun p => beqD p.1 (.str k)) = false := by
    rw [Bool.eq_false_iff]
    intro q
    obtain ⟨p, hp, hq⟩ := List.any_eq_true.mp q
    obtain ⟨a, ha, rfl⟩ := List.mem_map.mp hp
    rw [beq_str] at hq
    exact h (List.mem_map.mpr ⟨a, ha, by simpa using hq⟩)
  rw [if_neg (by rw [this]; simp)]
  simp
theorem dict_nd {α : Type} (k : α → Str) (v : α → PyData) : ∀ (xs : List α) (acc : List (Str × PyData)), (acc.map (·.1) ++ xs.map k).Nodup → xs.foldl (fun a x => dPut a (.str (k x)) (v x)) (acc.map fun p => (PyData.str p.1, p.2)) = (acc ++ xs.map fun x => (k x, v x)).map fun p => (PyData.str p.1, p.2)
  | [], acc, _ => by simp
  | x :: xs, acc, h => by
    rw [List.foldl_cons, put_new (fun hm => by
      have := (List.nodup_append.mp h).2.2 _ hm (k x) (by simp)
      exact this rfl), dict_nd k v xs _ (by simpa using h)]
    simp
theorem look_map {α : Type} (k : α → Str) (v : α → PyData) (f : Str) : ∀ xs : List α, dLook (xs.map fun x => (PyData.str (k x), v x)) (.str f) = (xs.find? fun x => k x == f).map v
  | [] => rfl
  | x :: xs => by
    rw [List.map_cons, dLook, beq_str, List.find?_cons, look_map k v f xs]
    cases k x == f <;> rfl
theorem dict_of {α : Type} (k : α → Str) (v : α → PyData) (xs : List α) (h : (xs.map k).Nodup) : xs.foldl (fun a x => dPut a (.str (k x)) (v x)) [] = xs.map fun x => (PyData.str (k x), v x) := by
  have := dict_nd k v xs [] (by simpa using h)
  simpa [Function.comp_def] using this
theorem cmp_neInt (i j : Int) : cmp .ne (.int i) (.int j) = some (i != j) := cmp_neI i j
theorem sp_clash (wf n : Nat) (hn : 1 ≤ n) {c1 : List (Str × Int)} (h : OkC c1) (c2 : List (Str × Int)) (m : Mem) : run T wf n 3 [.d (encC c1), .d (encC c2)] m = .ok (.d (.bool (clashB c1 c2))) m := by
  obtain ⟨n, rfl⟩ : ∃ k, n = k + 1 := ⟨n - 1, by omega⟩
  rw [run_succ d_clash.fnT rfl rfl (by decide)]
  simp [d_clash, Df.fnT, b_clash]
  rw [dcLoop_of _ (fun p => p.1) (fun p => .int p.2) rfl]
  · rw [dict_of _ _ _ h.nd]
    simp
    rw [lcLoop_ofm _ (fun p => .bool ((lookC c1 p.1).getD p.2 != p.2)) rfl]
    · simp [anyD_map, clashB]
    · intro p hp
      have hd : (dLook (c1.map fun x => (PyData.str x.1, PyData.int x.2)) (.str p.1)).getD (.int p.2) = .int ((lookC c1 p.1).getD p.2) := by
        rw [look_map]
        unfold lookC
        cases c1.find? fun x => x.1 == p.1 <;> rfl
      simp [hd, -cmp_neI, cmp_neInt]
  · intro p hp
    simp
theorem sp_feeds (wf n : Nat) (hn : 1 ≤ n) (a b : Sp) (m : Mem) : run T wf n 4 [.d (enc a), .d (enc b)] m = .ok (.d (.bool (feedB a b))) m := by
  obtain ⟨n, rfl⟩ : ∃ k, n = k + 1 := ⟨n - 1, by omega⟩
  rw [run_succ d_feeds.fnT rfl rfl (by decide)]
  simp [d_feeds, Df.fnT, b_feeds, e2, e3, feedB]
theorem sp_ahead (wf n : Nat) (hn : 2 ≤ n) {a : Sp} (h : OkC a.cd) (b : Sp) (m : Mem) : run T wf n 5 [.d (enc a), .d (enc b)] m = .ok (.d (.bool (goB a b))) m := by
  obtain ⟨n, rfl⟩ : ∃ k, n = k + 1 := ⟨n - 1, by omega⟩
  rw [run_succ d_goes_ahead.fnT rfl rfl (by decide)]
  simp [d_goes_ahead, Df.fnT, b_goes_ahead, sp_feeds wf n (by omega), e4, sp_clash wf n (by omega) h, goB]
  cases feedB a b <;> simp
theorem cut_lo {α : Type} (xs : List α) (k : Nat) (h : k ≤ xs.length) : cut xs (some (k : Int)) none = xs.drop k := by
  unfold cut
  rw [HT.sIx_nat, HT.sIx_none, Nat.min_eq_left h, List.take_of_length_le (by simp)]
/-! two makers -/
def idxL : Nat → List Sp → List (Nat × Sp)
  | _, [] => []
  | i, s :: r => (i, s) :: idxL (i + 1) r
def encI (p : Nat × Sp) : PyData := .tuple [.int p.1, enc p.2]
theorem enum_idx : ∀ (i : Nat) (P : List Sp), enumD i (P.map enc) = (idxL i P).map encI
  | _, [] => rfl
  | i, s :: r => by
    rw [List.map_cons, enumD, enum_idx (i + 1) r]
    rfl
theorem idx_mem : ∀ {i : Nat} {P : List Sp} {p : Nat × Sp}, p ∈ idxL i P → p.2 ∈ P ∧ i ≤ p.1 ∧ p.1 < i + P.length
  | _, [], _, h => by cases h
  | i, s :: r, p, h => by
    rcases List.mem_cons.mp h with rfl | h
    · exact ⟨List.mem_cons_self, Nat.le_refl _, by simp⟩
    · obtain ⟨h1, h2, h3⟩ := idx_mem h
      exact ⟨List.mem_cons_of_mem _ h1, by omega, by rw [List.length_cons]; omega⟩
def enc2 (a b : Sp) : Val := .d (.tuple [enc a, enc b])
theorem find_idx (P : List Sp) : ∀ (L : List Sp) (i : Nat), P.drop i = L → (idxL i L).findSome? (fun p => (mkOne p.2 (P.drop (p.1 + 1))).map (enc2 p.2)) = (mkP L).map fun q => enc2 q.1 q.2
  | [], i, _ => rfl
  | s :: r, i, h => by
    have hr : P.drop (i + 1) = r := by
      rw [← List.drop_drop, h]; rfl
    rw [idxL, List.findSome?_cons, mkP]
    simp only [hr]
    cases e : mkOne s r with
    | some b => rfl
    | none => exact find_idx P r (i + 1) hr
theorem find_some {α β : Type} (c : α → Bool) (g : α → β) : ∀ L : List α, L.findSome? (fun b => if c b = true then some (g b) else none) = (L.find? c).map g
  | [] => rfl
  | b :: L => by
    rw [List.findSome?_cons, List.find?_cons, find_some c g L]
    cases c b <;> rfl
def encM : Option (Sp × Sp) → PyData
  | some (a, b) => .tuple [enc a, enc b]
  | none => .none
def mkIn : List S := [(.iff (.band [(.cmp .eq (.idx (.var 2) (.cst (.int 3))) (.idx (.var 3) (.cst (.int 3)))), (.not (.call 3 [(.idx (.var 2) (.cst (.int 4))), (.idx (.var 3) (.cst (.int 4)))]))]) [(.ret (.tup [(.var 2), (.var 3)]))] [])]
theorem mk_inner (wf n : Nat) (hn : 1 ≤ n) (x i : PyData) (a : Sp) (h : OkC a.cd) (r : List Sp) (e3' : Option Val) (m : Mem) :
    (∃ b, mkOne a r = some b ∧ forLoop (.nm 3) (exB (run T wf n) wf mkIn) [] (r.map enc) [some (.d x), some (.d i), some (.d (enc a)), e3'] m = .ok (.ret (enc2 a b)) m) ∨
    (mkOne a r = none ∧ ∃ e, forLoop (.nm 3) (exB (run T wf n) wf mkIn) [] (r.map enc) [some (.d x), some (.d i), some (.d (enc a)), e3'] m = .ok (.next [some (.d x), some (.d i), some (.d (enc a)), e]) m) := by
  have := forLoop_find (t := .nm 3) (body := exB (run T wf n) wf mkIn) (gs := []) (m := m) enc (fun b => if (decide (a.sh = b.sh) && !clashB a.cd b.cd) = true then some (enc2 a b) else none) (fun env => ∃ e, env = [some (.d x), some (.d i), some (.d (enc a)), e]) rfl (xs := r) (env := [some (.d x), some (.d i), some (.d (enc a)), e3']) ⟨_, rfl⟩ (by
    rintro b hb env ⟨e, rfl⟩
    refine ⟨[some (.d x), some (.d i), some (.d (enc a)), some (.d (enc b))], by simp, ?_⟩
    have hc := sp_clash wf n (by omega) h b.cd m
    by_cases h1 : a.sh = b.sh
    · cases h2 : clashB a.cd b.cd with
      | true =>
        rw [h2] at hc
        simp [mkIn, e3, e4, h1, hc, cmp_eqS]
      | false =>
        rw [h2] at hc
        simp [mkIn, e3, e4, h1, hc, cmp_eqS, enc2]
    · simp [mkIn, e3, e4, h1, cmp_eqS])
  rw [find_some] at this
  rcases this with ⟨v, h1, h2⟩ | ⟨h1, env', h2, e, rfl⟩
  · obtain ⟨b, h3, rfl⟩ := Option.map_eq_some_iff.mp h1
    exact .inl ⟨b, h3, h2⟩
  · exact .inr ⟨Option.map_eq_none_iff.mp h1, e, h2⟩
end Ra.K3

set_option Elab.async false
set_option linter.all false
set_option maxRecDepth 100000
set_option maxHeartbeats 400000
namespace Ra.K3
open PySem M _root_.K4
theorem foldl_iter (L : List Sp) : ∀ (xs : List Nat), xs.foldl (fun s _ => stepC s) L = iterN stepC xs.length L
  | [] => rfl
  | x :: xs => by
    rw [List.foldl_cons, List.length_cons, iterN, foldl_iter (stepC L) xs]
theorem range_map (n : Nat) : ∀ lo : Nat, rangeD lo n = (List.range' lo n).map fun i : Nat => PyData.int i := by
  induction n with
  | zero => intro lo; rfl
  | succ n ih =>
    intro lo
    rw [rangeD, List.range'_succ, List.map_cons, show (lo : Int) + 1 = ((lo + 1 : Nat) : Int) by omega, ih]
def coB : List S := [(.set 3 false (.lc [4] (.nm 4) .seq [(.var 1)] [(.bi .any [(.lc [5] (.nm 5) .seq [(.var 1)] [] (.call 5 [(.var 5), (.var 4)]))])] (.var 4))), (.set 1 false (.lc [4] (.nm 4) .seq [(.var 3)] [(.bi .any [(.lc [5] (.nm 5) .seq [(.var 3)] [] (.call 5 [(.var 4), (.var 5)]))])] (.var 4)))]
theorem co_body (wf n : Nat) (hn : 2 ≤ n) (x : PyData) (L : List Sp) (hL : ∀ s ∈ L, OkC s.cd) (e2' e3' : Option Val) (m : Mem) :
    exB (run T wf n) wf coB [some (.d x), some (.d (.list (L.map enc))), e2', e3', none, none] m = .ok (.next [some (.d x), some (.d (.list ((stepC L).map enc))), e2', some (.d (.list ((aheadC L).map enc))), none, none]) m := by
  have hA : ∀ s ∈ aheadC L, OkC s.cd := fun s hs => hL s (mem_ahead.mp hs).1
  simp [coB]
  rw [lcLoop_of enc (fun s => L.any fun o => goB o s) enc rfl]
  · simp
    rw [show (L.filter fun s => L.any fun o => goB o s) = aheadC L from rfl]
    rw [lcLoop_of enc (fun s => (aheadC L).any fun o => goB s o) enc rfl]
    · simp [stepC, backC]
    · intro s hs
      refine ⟨_, by simp; rfl, ?_, fun _ => ⟨_, by simp; rfl, by simp⟩⟩
      simp
      rw [lcLoop_ofm enc (fun o => .bool (goB s o)) rfl]
      · simp [anyD_map]
      · intro o ho
        simp [sp_ahead wf n hn (hA s hs)]
  · intro s hs
    refine ⟨_, by simp; rfl, ?_, fun _ => ⟨_, by simp; rfl, by simp⟩⟩
    simp
    rw [lcLoop_ofm enc (fun o => .bool (goB o s)) rfl]
    · simp [anyD_map]
    · intro o ho
      simp [sp_ahead wf n hn (hL o ho)]
theorem sp_core (wf n : Nat) (hn : 3 ≤ n) {x : PyData} {L : List Sp} (hx : x = .list (L.map enc) ∨ x = encP L) (hL : ∀ s ∈ L, OkC s.cd) (hl : L.length ≤ 8) (m : Mem) : run T wf n 6 [.d x] m = .ok (.d (.list ((core L).map enc))) m := by
  obtain ⟨n, rfl⟩ : ∃ k, n = k + 1 := ⟨n - 1, by omega⟩
  rw [run_succ d_core_of.fnT rfl rfl (by decide)]
  have hb : listD [x] = some (.fr (L.map enc)) := by rcases hx with rfl | rfl <;> rfl
  obtain ⟨env', h1, e2', e3', h2, h3⟩ := forLoop_st (t := .nm 2) (gs := []) (m := m) (body := exB (run T wf n) wf coB) (fun i : Nat => PyData.int i)
    (fun i (s : List Sp) env => ∃ e2 e3, env = [some (.d x), some (.d (.list (s.map enc))), e2, e3, none, none] ∧ s.Sublist L) (fun s _ => stepC s) rfl (xs := List.range' 0 L.length) (s := L) (env := [some (.d x), some (.d (.list (L.map enc))), none, none, none, none]) 0 (by
      rintro i k hk s env ⟨e2, e3, rfl, hs⟩
      refine ⟨[some (.d x), some (.d (.list (s.map enc))), some (.d (.int k)), e3, none, none], _, by simp, co_body wf n (by omega) x s (fun t ht => hL t (hs.subset ht)) _ _ m, _, _, rfl, (step_sub s).trans hs⟩) ⟨none, none, rfl, List.Sublist.refl _⟩
  subst h2
  rw [foldl_iter, List.length_range'] at h1
  have hr := range_map L.length 0
  simp [d_core_of, Df.fnT, b_core_of, hb]
  rw [M.walk_range (by omega)]
  simp
  rw [show rangeD 0 L.length = (List.range' 0 L.length).map fun i : Nat => PyData.int i from hr]
  unfold coB at h1
  rw [h1]
  simp [core]
/-! a ring among steps -/
def raB : List S := [(.set 3 false (.idx (.lc [4] (.nm 4) .seq [(.var 0)] [(.call 5 [(.idx (.var 1) (.neg (.cst (.int 1)))), (.var 4)])] (.var 4)) (.cst (.int 0)))), (.iff (.cmp .isin (.var 3) (.var 1)) [(.ret (.bi .tuple [(.slL (.var 1) (.lidx 1 (.var 3)))]))] []), (.app 1 (.var 3))]
@[simp] theorem v_lidx (call : Call) (i : Nat) (e : E) (env : Env) (m : Mem) : (sem call (.lidx i e)).v env m = cLidx i (sem call e) env m := rfl
theorem at_new (m : Mem) (c : Cell) (r : List Cell) : (m ++ c :: r)[m.length]? = some c := by simp
theorem set_new (m : Mem) (c c' : Cell) : (m ++ [c]).set m.length c' = m ++ [c'] := by simp
theorem idx_last (row : List Sp) (a : Sp) : idx (.list ((row ++ [a]).map enc)) (.int (-1)) = some (enc a) := by
  show L2.atI _ _ = _
  unfold L2.atI L2.ixN
  rw [if_neg (by decide), if_pos (by simp; omega)]
  simp
  rw [show ((-1 : Int) + ((row.length : Int) + 1)).toNat = (row.map enc).length by rw [List.length_map]; omega]
  simp
theorem lFind_enc (z : Sp) : ∀ (row : List Sp) (i : Nat), z ∈ row → lFind (enc z) i (row.map enc) = some (i + row.findIdx (· == z))
  | [], _, h => by cases h
  | a :: row, i, h => by
    rw [List.map_cons, lFind, eqv_enc, List.findIdx_cons]
    by_cases e : a = z
    · subst e; simp
    · have hz : z ∈ row := by
        rcases List.mem_cons.mp h with rfl | h
        · exact absurd rfl e
        · exact h
      have e' : (a == z) = false := by simpa using e
      rw [if_neg (by simpa using e), lFind_enc z row (i + 1) hz, e']
      simp
      omega
theorem ra_loop (wf n : Nat) (hn : 2 ≤ n) (L : List Sp) (hL : ∀ s ∈ L, OkC s.cd) (hl : L.length ≤ 8) (m : Mem) : ∀ (k lo : Nat) (row : List Sp) (a : Sp) (r : List Sp) (e2' e3' : Option Val), (∀ s ∈ row ++ [a], s ∈ L) → row.length + k ≤ 8 → ringGo L k (row ++ [a]) = some r →
    ∃ row', forLoop (.nm 2) (exB (run T wf n) wf raB) [] (rangeD lo k) [some (.d (.list (L.map enc))), some (.mr m.length), e2', e3', none] (m ++ [⟨false, (row ++ [a]).map enc⟩]) = .ok (.ret (.d (.tuple (r.map enc)))) (m ++ [⟨false, row'⟩])
  | 0, _, _, _, _, _, _, _, _, h => by cases h
  | k + 1, lo, row, a, r, e2', e3', hs, hk, h => by
    have hrd : rdR (m ++ [⟨false, (row ++ [a]).map enc⟩]) (.mr m.length) = .ok (.list ((row ++ [a]).map enc)) (m ++ [⟨false, (row ++ [a]).map enc⟩]) := rdR_mr _ (at_new _ _ _)
    unfold ringGo at h
    simp only [List.getLast?_append, List.getLast?_singleton, Option.some_or] at h
    cases hz : nextC L a with
    | none => rw [hz] at h; cases h
    | some z =>
      rw [hz] at h
      simp only at h
      have hf : (L.filter fun o => goB a o).head? = some z := hz
      obtain ⟨rest, hf⟩ : ∃ rest, (L.filter fun o => goB a o) = z :: rest := by
        cases e : (L.filter fun o => goB a o) with
        | nil => rw [e] at hf; cases hf
        | cons y ys => rw [e] at hf; cases hf; exact ⟨ys, rfl⟩
      have hzL : z ∈ L := by
        have : z ∈ L.filter fun o => goB a o := by rw [hf]; exact List.mem_cons_self
        exact (List.mem_filter.mp this).1
      have s1 : ∀ e4', exS (run T wf n) wf (.set 3 false (.idx (.lc [4] (.nm 4) .seq [(.var 0)] [(.call 5 [(.idx (.var 1) (.neg (.cst (.int 1)))), (.var 4)])] (.var 4)) (.cst (.int 0)))) [some (.d (.list (L.map enc))), some (.mr m.length), e4', e3', none] (m ++ [⟨false, (row ++ [a]).map enc⟩]) = .ok (.next [some (.d (.list (L.map enc))), some (.mr m.length), e4', some (.d (enc z)), none]) (m ++ [⟨false, (row ++ [a]).map enc⟩]) := by
        intro e4'
        simp only [M.x_set, M.v_idx, M.v_lc, M.srcR_eq, M.cArgs_cons, M.cArgs_nil, M.v_var, getV_zero, getV_succ, optR_some, Res.bind_ok, nf_d, M.lookAll_d, M.lookAll_nil, Option.map_some, M.walk_list, M.guards_d, M.guards_nil]
        rw [lcLoop_of enc (fun o => goB a o) enc rfl]
        · rw [hf]
          simp [idx, L2.atI, L2.ixN]
        · intro o ho
          refine ⟨_, by simp; rfl, ?_, fun _ => ⟨_, by simp; rfl, by simp⟩⟩
          have hg := sp_ahead wf n hn (hL a (hs a (by simp))) o (m ++ [⟨false, (row ++ [a]).map enc⟩])
          simp only [tAll_one, M.t_call, M.cArgs_cons, M.cArgs_nil, M.v_idx, M.v_var, M.v_neg, M.v_cst, getV_zero, getV_succ, optR_some, Res.bind_ok, nf_d, nf_mr, rdR_d, hrd, idx_last, hg, truR_bool]
      unfold rangeD forLoop
      simp only [asg_nm, List.length_cons, List.length_nil, setV_succ, setV_zero]
      rw [if_pos (by omega)]
      have hin : cmp .isin (enc z) (.list ((row ++ [a]).map enc)) = some (decide (z ∈ row ++ [a])) := in_encL z _
      by_cases hm : z ∈ row ++ [a]
      · rw [if_pos hm] at h
        cases h
        refine ⟨(row ++ [a]).map enc, ?_⟩
        have hlf := lFind_enc z (row ++ [a]) 0 hm
        rw [Nat.zero_add] at hlf
        have hdz := depth_enc z
        have hdl : (PyData.list ((row ++ [a]).map enc)).depth ≤ 64 := by
          rw [PyData.depth]
          have := depth_encs (row ++ [a])
          omega
        have hil : (row ++ [a]).findIdx (· == z) ≤ (row ++ [a]).length := List.findIdx_le_length
        have s2 : ∀ e4', exS (run T wf n) wf (.iff (.cmp .isin (.var 3) (.var 1)) [(.ret (.bi .tuple [(.slL (.var 1) (.lidx 1 (.var 3)))]))] []) [some (.d (.list (L.map enc))), some (.mr m.length), e4', some (.d (enc z)), none] (m ++ [⟨false, (row ++ [a]).map enc⟩]) = .ok (.ret (.d (.tuple (((row ++ [a]).drop ((row ++ [a]).findIdx (· == z))).map enc)))) (m ++ [⟨false, (row ++ [a]).map enc⟩]) := by
          intro e4'
          have hli : cLidx 1 (sem (run T wf n) (.var 3)) [some (.d (.list (L.map enc))), some (.mr m.length), e4', some (.d (enc z)), none] (m ++ [⟨false, (row ++ [a]).map enc⟩]) = .ok (.d (.int ((row ++ [a]).findIdx (· == z) : Nat))) (m ++ [⟨false, (row ++ [a]).map enc⟩]) := by
            unfold cLidx
            simp only [getV_zero, getV_succ, M.v_var, optR_some, Res.bind_ok, nf_d, rdR_d, at_new]
            rw [if_pos ⟨by omega, hdl⟩, hlf]
            rfl
          simp only [M.x_iff, M.t_cmp, M.v_cmp, M.v_var, getV_zero, getV_succ, optR_some, Res.bind_ok, nf_d, nf_mr, rdR_d, hrd, hin, hm, decide_true, boolR_eq, truR_bool, Res.noX_ok, if_true, M.exB_cons, M.x_ret, M.v_bi, M.cArgs_cons, M.cArgs_nil, M.v_slL, v_lidx, hli, slLR_int, slc, cut_lo _ _ (show (row ++ [a]).findIdx (· == z) ≤ ((row ++ [a]).map enc).length by rw [List.length_map]; exact hil), nf_fr, lookAll_d, lookAll_nil, Option.map_some, bi_tuple, tupleD_list, nextF_ret, List.map_drop]
        simp only [raB, M.exB_cons, s1, Res.bind_ok, nextF_next, s2, nextF_ret]
      · rw [if_neg hm] at h
        obtain ⟨row', hrow⟩ := ra_loop wf n hn L hL hl m k (lo + 1) (row ++ [a]) z r (some (.d (.int lo))) (some (.d (enc z))) (fun s hs' => by
          rcases List.mem_append.mp hs' with q | q
          · exact hs s q
          · rw [List.mem_singleton.mp q]; exact hzL) (by rw [List.length_append, List.length_singleton]; omega) h
        refine ⟨row', ?_⟩
        have s2 : ∀ e4', exS (run T wf n) wf (.iff (.cmp .isin (.var 3) (.var 1)) [(.ret (.bi .tuple [(.slL (.var 1) (.lidx 1 (.var 3)))]))] []) [some (.d (.list (L.map enc))), some (.mr m.length), e4', some (.d (enc z)), none] (m ++ [⟨false, (row ++ [a]).map enc⟩]) = .ok (.next [some (.d (.list (L.map enc))), some (.mr m.length), e4', some (.d (enc z)), none]) (m ++ [⟨false, (row ++ [a]).map enc⟩]) := by
          intro e4'
          simp only [M.x_iff, M.t_cmp, M.v_cmp, M.v_var, getV_zero, getV_succ, optR_some, Res.bind_ok, nf_d, nf_mr, rdR_d, hrd, hin, hm, decide_false, boolR_eq, truR_bool, Res.noX_ok, Bool.false_eq_true, if_false, M.exB_nil]
        have s3 : ∀ e4', exS (run T wf n) wf (.app 1 (.var 3)) [some (.d (.list (L.map enc))), some (.mr m.length), e4', some (.d (enc z)), none] (m ++ [⟨false, (row ++ [a]).map enc⟩]) = .ok (.next [some (.d (.list (L.map enc))), some (.mr m.length), e4', some (.d (enc z)), none]) (m ++ [⟨false, (row ++ [a] ++ [z]).map enc⟩]) := by
          intro e4'
          rw [M.x_app, onCell_mr (j := m.length) (h := by simp)]
          simp only [M.v_var, getV_zero, getV_succ, optR_some, Res.noX_ok, Res.bind_ok, frz_d]
          rw [upCell_mr _ _ (j := m.length) (xs := (row ++ [a]).map enc) (ys := (row ++ [a] ++ [z]).map enc) (by simp) (at_new _ _ _) (by
            have : ((row ++ [a]).map enc).length < lim := by rw [List.length_map, List.length_append, List.length_singleton]; simp [lim]; omega
            rw [if_pos this, List.map_append (l₁ := row ++ [a])]; rfl), set_new]
        simp only [raB, M.exB_cons, M.exB_nil, s1, s2, s3, Res.bind_ok, nextF_next, same_nil, if_true]
        exact hrow
end Ra.K3

set_option Elab.async false
set_option linter.all false
set_option maxRecDepth 100000
set_option maxHeartbeats 400000
namespace Ra.K3
open PySem M _root_.K4
def encR : Option (List Sp) → PyData
  | some r => .tuple (r.map enc)
  | none => .none
theorem am_w : walk .range [.int 0] = some [] := by
  have := M.walk_range (n := 0) (by omega)
  rw [show ((0 : Nat) : Int) = 0 from rfl] at this
  rw [this]
  rfl
theorem am_s : slc (.list []) none (some 1) = some (.fr []) := by
  show some (Val.fr (cut ([] : List PyData) none (some 1))) = _
  simp [cut]
theorem among_nil (wf n : Nat) (m : Mem) : run T wf (n + 1) 7 [.d (.list [])] m = .ok (.d .none) m := by
  rw [run_succ d_ring_among.fnT rfl rfl (by decide)]
  simp [d_ring_among, Df.fnT, b_ring_among, am_s, am_w, forLoop]
theorem among_cons (wf n k : Nat) (q : List PyData) (x0 y : PyData) (c : Cell) (m : Mem) (hq : q.length = k) (hk : k ≤ 1000000) (hs : slc (.list q) none (some 1) = some (.fr [x0]))
    (h1 : forLoop (.nm 2) (exB (run T wf n) wf raB) [] (rangeD 0 k) [some (.d (.list q)), some (.mr m.length), none, none, none] (m ++ [⟨false, [x0]⟩]) = .ok (.ret (.d y)) (m ++ [c])) : run T wf (n + 1) 7 [.d (.list q)] m = .ok (.d y) m := by
  rw [run_succ d_ring_among.fnT rfl rfl (by decide)]
  have hw := M.walk_range hk
  generalize rangeD 0 k = rr at h1 hw
  subst hq
  unfold raB at h1
  simp [d_ring_among, Df.fnT, b_ring_among, hs, hw, h1]
theorem sp_among (wf n : Nat) (hn : 3 ≤ n) {L : List Sp} (hL : ∀ s ∈ L, OkC s.cd) (hl : L.length ≤ 8) (hnx : ∀ s ∈ L, ∃ o ∈ L, goB s o = true) (m : Mem) : run T wf n 7 [.d (.list (L.map enc))] m = .ok (.d (encR (ringAmong L))) m := by
  obtain ⟨n, rfl⟩ : ∃ k, n = k + 1 := ⟨n - 1, by omega⟩
  cases L with
  | nil => exact among_nil wf n m
  | cons a L =>
    obtain ⟨r, hr, _⟩ := ringAmong_ok hnx (by simp)
    obtain ⟨row', h1⟩ := ra_loop wf n (by omega) (a :: L) hL hl m (a :: L).length 0 [] a r none none (by simp) (by simpa using hl) hr
    rw [hr]
    refine among_cons wf n (a :: L).length ((a :: L).map enc) (enc a) _ _ m (List.length_map ..) (Nat.le_trans hl (by omega)) ?_ h1
    show some (Val.fr (cut ((a :: L).map enc) none (some 1))) = _
    unfold cut
    rw [show (1 : Int) = ((1 : Nat) : Int) from rfl, HT.sIx_nat, HT.sIx_none, Nat.sub_zero, List.drop_zero]
    simp
def ringF (P : List Sp) : Option (List Sp) := (vsOf (flagsS (core P))).findSome? (ringAt P)
theorem find_map {α β γ : Type} (g : β → γ) (f : α → Option β) : ∀ L : List α, L.findSome? (fun a => (f a).map g) = (L.findSome? f).map g
  | [] => rfl
  | a :: L => by
    rw [List.findSome?_cons, List.findSome?_cons, find_map g f L]
    cases f a <;> rfl
def soundB (P : List Sp) : Bool := (mkP P).isNone && (ringF P).isNone
theorem sound_spec {P : List Sp} (hP : WQ P) : soundB P = true ↔ ∀ V, V.Sublist (flagsS P) → ¬ badAt V P := by
  rw [← sound_iff hP.toWP (vs := vsOf (flagsS (core P))) fun v => mem_vsOf]
  unfold soundB
  rw [Bool.and_eq_true, Option.isNone_iff_eq_none, Option.isNone_iff_eq_none]
  rfl
theorem sp_names (wf n : Nat) (hn : 1 ≤ n) (L : List Sp) (m : Mem) : run T wf n 8 [.d (.tuple (L.map enc))] m = .ok (.d (encV (L.map Sp.nm))) m := by
  obtain ⟨n, rfl⟩ : ∃ k, n = k + 1 := ⟨n - 1, by omega⟩
  rw [run_succ d_names_of.fnT rfl rfl (by decide)]
  simp [d_names_of, Df.fnT, b_names_of]
  rw [lcLoop_ofm enc (fun s => .str s.nm) rfl]
  · simp [encV, Function.comp_def]
  · intro s hs
    simp [e0]
def toldD (k : Str) (L : List Sp) : PyData := .tuple [.str k, encV (L.map Sp.nm), encV (setS (meetF L))]
def toldP (P : List Sp) : Option (Str × List Sp) := match mkP P with
  | some (a, b) => some ("twice", [a, b])
  | none => (ringF P).map fun r => ("ring", r)
@[simp] theorem x_raise (call : Call) (wf : Nat) (c : Nat) (env : Env) (m : Mem) : exS call wf (.raise c) env m = .exc ⟨c, []⟩ m := rfl
theorem ring_of {P : List Sp} {r : List Sp} (h : ringF P = some r) : ∃ v, v.Sublist (flagsS (core P)) ∧ ringAt P v = some r := by
  obtain ⟨v, h1, h2⟩ := List.exists_of_findSome?_eq_some h
  exact ⟨v, mem_vsOf.mp h1, h2⟩
theorem ring_len {P : List Sp} (hP : WQ P) {r : List Sp} (h : ringF P = some r) : r.length ≤ 8 ∧ ∀ s ∈ r, s ∈ P := by
  obtain ⟨v, _, h2⟩ := ring_of h
  have hk := ringAt_ok hP.toWP h2
  have hs : ∀ s ∈ r, s ∈ P := fun s hs => (List.mem_filter.mp (hk.sub s hs)).1
  exact ⟨Nat.le_trans (nodup_len hk.nd hs) hP.len, hs⟩
end Ra.K3

set_option Elab.async false
set_option linter.all false
set_option maxRecDepth 100000
set_option maxHeartbeats 400000
namespace Ra.K3
open PySem M _root_.K4
/-! tags -/
def sgB : PyData → Bool
  | .str x => inStr x "abcdefghijklmnopqrstuvwxyz" && (!strLt x "a" && !strLt "z" x)
  | _ => false
def tagOk (s : Str) : Bool := decide (1 ≤ s.length) && (decide (s.length ≤ 8) && (signs s).all sgB)
theorem tag_parts {s : Str} (h : tagOk s = true) : 1 ≤ s.length ∧ s.length ≤ 8 ∧ ∀ c ∈ s.cps.toList, inStr ⟨#[c]⟩ "abcdefghijklmnopqrstuvwxyz" = true ∧ strLt ⟨#[c]⟩ "a" = false ∧ strLt "z" ⟨#[c]⟩ = false := by
  unfold tagOk at h
  simp only [Bool.and_eq_true, decide_eq_true_eq] at h
  refine ⟨h.1, h.2.1, fun c hc => ?_⟩
  have := List.all_eq_true.mp h.2.2 (one c) (List.mem_map.mpr ⟨c, hc, rfl⟩)
  simp only [one, sgB, Bool.and_eq_true, Bool.not_eq_true'] at this
  exact this
theorem all_true {α : Type} (xs : List α) : allD [.list (xs.map fun _ => PyData.bool true)] = some (.d (.bool true)) := by
  rw [allD_map (fun _ => true)]
  simp [allB_eq]
theorem sp_name (wf n : Nat) (hn : 1 ≤ n) {s : Str} (h : tagOk s = true) (m : Mem) : run T wf n 0 [.d (.str s)] m = .ok (.d (.bool true)) m := by
  obtain ⟨n, rfl⟩ : ∃ k, n = k + 1 := ⟨n - 1, by omega⟩
  obtain ⟨h1, h2, h3⟩ := tag_parts h
  rw [run_succ d_is_name.fnT rfl rfl (by decide)]
  have h1' : (1 : Int) ≤ s.length := by omega
  have h2' : (s.length : Int) ≤ 8 := by omega
  simp [d_is_name, Df.fnT, b_is_name, isi, wipe, h1', h2']
  unfold signs
  rw [lcLoop_ofm one (fun c => .bool true) rfl]
  · have hA := all_true s.cps.toList
    simp only [Res.bind_ok, M.nf_fr, M.lookAll_d, M.lookAll_nil, Option.map_some, optR_some, hA]
    simp
  · intro c hc
    simp [one, cmp, inD, (h3 c hc).1]
theorem zip_strs : ∀ ks : List Str, zipD (ks.map PyData.str) ((ks.map PyData.str).drop 1) = (ks.zip (ks.drop 1)).map fun p => .tuple [.str p.1, .str p.2]
  | [] => rfl
  | [x] => rfl
  | x :: y :: r => by
    have ih := zip_strs (y :: r)
    simp only [List.map_cons, List.drop_succ_cons, List.drop_zero, List.zip_cons_cons] at ih ⊢
    rw [zipD, ih]
theorem ris_zip : ∀ ks : List Str, (ks.zip (ks.drop 1)).all (fun p => strLt p.1 p.2) = risB ks
  | [] => rfl
  | [x] => rfl
  | x :: y :: r => by
    have ih := ris_zip (y :: r)
    simp only [List.drop_succ_cons, List.drop_zero, List.zip_cons_cons, List.all_cons, risB] at ih ⊢
    rw [ih]
theorem cut_one {α : Type} (xs : List α) : cut xs (some 1) none = xs.drop 1 := by
  cases xs with
  | nil => simp [cut]
  | cons x xs => simp [cut, HT.sIx]
/-! the row of names -/
def lookN (P : List Sp) (t : Str) : Option Sp := P.find? fun s => s.nm == t
def lotO (P : List Sp) (ts : List Str) : Option (List Sp) := if ts.all (fun t => (lookN P t).isSome) = true ∧ ts.Nodup then some (ts.filterMap (lookN P)) else none
def lotV : Option (List Sp) → PyData
  | some L => .list (L.map enc)
  | none => .none
theorem lookN_some {P : List Sp} {t : Str} {s : Sp} (h : lookN P t = some s) : s ∈ P ∧ s.nm = t := by
  have h1 := List.mem_of_find?_eq_some h
  have h2 := List.find?_some h
  exact ⟨h1, by simpa using h2⟩
theorem lookN_mem {P : List Sp} (hP : WP P) {s : Sp} (h : s ∈ P) : lookN P s.nm = some s := by
  cases e : lookN P s.nm with
  | none =>
    have := List.find?_eq_none.mp e s h
    simp at this
  | some t =>
    obtain ⟨h1, h2⟩ := lookN_some e
    rw [hP.inj h1 h h2]
def encN (P : List Sp) (t : Str) : PyData := match lookN P t with
  | some s => enc s
  | none => .none
theorem filter_look {P : List Sp} : ∀ {ts : List Str}, ts.all (fun t => (lookN P t).isSome) = true → ts.map (encN P) = (ts.filterMap (lookN P)).map enc ∧ (ts.filterMap (lookN P)).map Sp.nm = ts
  | [], _ => ⟨rfl, rfl⟩
  | t :: ts, h => by
    rw [List.all_cons, Bool.and_eq_true] at h
    obtain ⟨h1, h2⟩ := filter_look h.2
    obtain ⟨s, hs⟩ := Option.isSome_iff_exists.mp h.1
    rw [List.map_cons, List.filterMap_cons, hs, h1]
    exact ⟨by simp [encN, hs], by simp [h2, (lookN_some hs).2]⟩
theorem lot_names {P L : List Sp} {ts : List Str} (h : lotO P ts = some L) : L.map Sp.nm = ts ∧ (∀ s ∈ L, s ∈ P) ∧ ts.Nodup := by
  unfold lotO at h
  split at h
  · rename_i hc
    cases h
    refine ⟨(filter_look hc.1).2, fun s hs => ?_, hc.2⟩
    obtain ⟨t, _, ht⟩ := List.mem_filterMap.mp hs
    exact (lookN_some ht).1
  · cases h
theorem dict_P {P : List Sp} (hP : WP P) : P.foldl (fun a s => dPut a (.str s.nm) (enc s)) [] = P.map fun s => (PyData.str s.nm, enc s) := dict_of Sp.nm enc P (ris_nodup hP.ris)
theorem look_P (P : List Sp) (t : Str) : dLook (P.map fun s => (PyData.str s.nm, enc s)) (.str t) = (lookN P t).map enc := look_map Sp.nm enc t P
theorem fslen {ts : List Str} : ((setS ts).length = ts.length) ↔ ts.Nodup := by
  rw [setS_len]
  have h1 := firstS_lt_iff ts
  have h2 := firstS_len ts []
  rw [List.length_nil, Nat.zero_add] at h2
  constructor
  · intro h
    exact Classical.not_not.mp fun q => by
      have := h1.mpr q
      omega
  · intro h
    have : ¬ (firstS [] ts).length < ts.length := fun q => h1.mp q h
    omega
theorem sp_row (wf n : Nat) (hn : 6 ≤ n) {x : PyData} {P : List Sp} (hx : Rd x P) (hP : WP P) {ts : List Str} (ht : ∀ t ∈ ts, tagOk t = true) (hl : ts.length < 100) (m : Mem) : ∃ v, run T wf n 9 [.d x, .d (encV ts)] m = .ok v m ∧ v.nf = .d (lotV (lotO P ts)) := by
  obtain ⟨n, rfl⟩ : ∃ k, n = k + 1 := ⟨n - 1, by omega⟩
  rw [run_succ d_named_row.fnT rfl rfl (by decide)]
  have hi : isi (encV ts) .tuple = true := rfl
  have hset := sp_setT wf n (by omega) ts (by omega) m
  have hset' : run T wf n 2 [.d (encV ts)] m = .ok (.d (encV (setS ts))) m := hset
  have hl1 : lenD [encV (setS ts)] = some (.d (.int (setS ts).length)) := by simp [encV]
  have hl2 : lenD [encV ts] = some (.d (.int ts.length)) := by simp [encV]
  simp [d_named_row, Df.fnT, b_named_row, hx.run wf n (by omega)]
  rw [dcLoop_of enc Sp.nm enc rfl (by intro s hs; simp [e0]), dict_P hP]
  simp [hi]
  rw [lcLoop_ofm _ (fun t => .bool (lookN P t).isSome) rfl]
  · have hA := allD_map (fun t => (lookN P t).isSome) ts
    simp only [Res.bind_ok, M.nf_fr, M.lookAll_d, M.lookAll_nil, Option.map_some, optR_some, hA]
    cases h1 : ts.all (fun t => (lookN P t).isSome) with
    | false => simp [allB_eq, h1, lotO, lotV]
    | true =>
      simp [allB_eq, h1, hset', hl1, hl2]
      by_cases h2 : ts.Nodup
      · have e : ((setS ts).length : Int) = (ts.length : Int) := by rw [fslen.mpr h2]
        simp [e]
        rw [lcLoop_ofm _ (encN P) rfl]
        · simp only [lotO, h1, h2, and_self, if_true, lotV, (filter_look h1).1]
          simp
        · intro t ht'
          obtain ⟨s, hs⟩ := Option.isSome_iff_exists.mp (List.all_eq_true.mp h1 t ht')
          simp [look_P, hs, encN]
      · have e : ¬ ((setS ts).length : Int) = (ts.length : Int) := fun q => h2 (fslen.mp (by omega))
        simp [e, lotO, h2, lotV]
  · intro t ht'
    have h3 := sp_name wf n (by omega) (ht t ht') m
    simp [h3, look_P]
/-! going round -/
theorem cyc_zip : ∀ (a : Sp) (l : List Sp) (z : Sp), ((a :: l).zip (l ++ [z])).all (fun p => feedB p.1 p.2) = chainB (a :: l ++ [z])
  | a, [], z => by simp [chainB]
  | a, b :: l, z => by
    have ih := cyc_zip b l z
    simp only [List.cons_append, List.zip_cons_cons, List.all_cons, chainB] at ih ⊢
    rw [ih]
theorem zip_encs : ∀ (l l' : List Sp), zipD (l.map enc) (l'.map enc) = (l.zip l').map fun p => .tuple [enc p.1, enc p.2]
  | [], l' => by simp [zipD]
  | a :: l, [] => by simp [zipD]
  | a :: l, b :: l' => by simp [zipD, zip_encs l l']
theorem idxL0 (a : PyData) (r : List PyData) : idx (.list (a :: r)) (.int 0) = some a := by simp [idx, L2.atI, L2.ixN]
theorem idxL1 (a b : PyData) (r : List PyData) : idx (.list (a :: b :: r)) (.int 1) = some b := by
  have : (1 : Int) < r.length + 1 + 1 := by omega
  simp [idx, L2.atI, L2.ixN, this]
theorem sp_round (wf n : Nat) (hn : 2 ≤ n) (L : List Sp) (hl : L.length ≤ 100) (m : Mem) : run T wf n 10 [.d (.list (L.map enc))] m = .ok (.d (.bool (cycB L))) m := by
  obtain ⟨n, rfl⟩ : ∃ k, n = k + 1 := ⟨n - 1, by omega⟩
  rw [run_succ d_goes_round.fnT rfl rfl (by decide)]
  cases L with
  | nil => simp [d_goes_round, Df.fnT, b_goes_round, cycB]
  | cons a l =>
    have hp : (0 : Int) < (l.length : Int) + 1 := by omega
    have hll : (l.map enc ++ [enc a]).length ≤ lim := by
      rw [List.length_append, List.length_map, List.length_singleton]
      rw [List.length_cons] at hl
      simp [lim]; omega
    have hz : zipD (enc a :: l.map enc) (l.map enc ++ [enc a]) = ((a :: l).zip (l ++ [a])).map fun p => .tuple [enc p.1, enc p.2] := by
      rw [← zip_encs]; simp
    have hll' : l.length + 1 ≤ lim := by simpa using hll
    simp [d_goes_round, Df.fnT, b_goes_round, hp, slc, cut_one, idxL0, hll', hz]
    rw [lcLoop_ofm _ (fun p => .bool (feedB p.1 p.2)) rfl]
    · have hA := allD_map (fun p : Sp × Sp => feedB p.1 p.2) ((a :: l).zip (l ++ [a]))
      simp only [Res.bind_ok, M.nf_fr, M.lookAll_d, M.lookAll_nil, Option.map_some, optR_some, hA]
      simp only [allB_eq, cyc_zip]
      simp [cycB]
    · intro p hp'
      simp [sp_feeds wf n (by omega)]
def twoB : List Sp → Bool
  | [a, b] => strLt a.nm b.nm && decide (a.sh = b.sh)
  | _ => false
def isU (P : List Sp) (k : Str) (ts fs : List Str) : Bool := match lotO P ts with
  | none => false
  | some L => risB fs && (L.all (fun s => decide (s ∈ live fs P)) && (if k = "ring" then cycB L else twoB L))
def thing (k : Str) (ts fs : List Str) : PyData := .tuple [.str k, encV ts, encV fs]
theorem all_dec {α : Type} (L : List α) (f : α → Bool) : allD [.list (L.map fun x => PyData.bool (f x))] = some (.d (.bool (L.all f))) := allD_map f L
end Ra.K3

set_option Elab.async false
set_option linter.all false
set_option maxRecDepth 100000
set_option maxHeartbeats 800000
namespace Ra.K3
open PySem M _root_.K4
def encPr (p : Str × Int) : PyData := .tuple [.str p.1, .int p.2]
theorem encC_eq (cd : List (Str × Int)) : encC cd = .tuple (cd.map encPr) := rfl
theorem walk_encC' (cd : List (Str × Int)) : walk .seq [encC cd] = some (cd.map encPr) := rfl
/-- all cells are as they were; new ones may have come -/
def Kp (m m' : Mem) : Prop := m.length ≤ m'.length ∧ ∀ j, j < m.length → m'[j]? = m[j]?
theorem Kp.refl (m : Mem) : Kp m m := ⟨Nat.le_refl _, fun _ _ => rfl⟩
theorem Kp.trans {m m' m'' : Mem} (a : Kp m m') (b : Kp m' m'') : Kp m m'' := ⟨Nat.le_trans a.1 b.1, fun j h => (b.2 j (Nat.lt_of_lt_of_le h a.1)).trans (a.2 j h)⟩
theorem Kp.app (m : Mem) (cs : List Cell) : Kp m (m ++ cs) := ⟨by simp, fun j h => List.getElem?_append_left h⟩
theorem Kp.cut {m m' : Mem} (a : Kp m m') : m'.take m.length = m := by
  apply List.ext_getElem?
  intro j
  rcases Nat.lt_or_ge j m.length with l | l
  · rw [List.getElem?_take_of_lt l]
    exact a.2 j l
  · rw [List.getElem?_eq_none (by rw [List.length_take]; omega), List.getElem?_eq_none l]
theorem appCell {call : Call} {wf i j : Nat} {e : E} {env : Env} {m m1 : Mem} {x : PyData} {xs : List PyData} (h1 : getV env i = some (.mr j)) (h2 : (sem call e).v env m = .ok (.d x) m1) (h3 : m1[j]? = some ⟨false, xs⟩) (h4 : xs.length < 1000) : exS call wf (.app i e) env m = .ok (.next env) (m1.set j ⟨false, xs ++ [x]⟩) := by
  rw [M.x_app, onCell_mr (j := j) (h := h1), h2]
  simp only [Res.noX_ok, Res.bind_ok, frz_d]
  rw [upCell_mr _ _ (j := j) (xs := xs) (ys := xs ++ [x]) h1 h3 (by rw [if_pos (by simp [lim]; omega)])]
theorem same1 {m : Mem} {j : Nat} {c : Cell} (h : m[j]? = some c) : same [j] m m = true := same_of fun k hk => ⟨c, c, by rw [List.mem_singleton.mp hk]; exact h, by rw [List.mem_singleton.mp hk]; exact h, rfl⟩
/-! what is live -/
theorem hold_emp (cd : List (Str × Int)) (V : List Str) : emp ((cd.filter fun p => !(decide (p.1 ∈ V) == (p.2 == 1))).map encPr) = holdB cd V := by
  rw [emp_map, emp_filter]
  rfl
theorem sp_live (wf n : Nat) (hn : 1 ≤ n) (P : List Sp) (V : List Str) (m : Mem) : run T wf n 25 [.d (encP P), .d (encV V)] m = .ok (.fr ((live V P).map enc)) m := by
  obtain ⟨n, rfl⟩ : ∃ k, n = k + 1 := ⟨n - 1, by omega⟩
  rw [run_succ d__law_live.fnT rfl rfl (by decide)]
  simp [d__law_live, Df.fnT, b__law_live]
  rw [lcLoop_of enc (fun s => holdB s.cd V) enc rfl]
  · simp [live]
  · intro s hs
    refine ⟨_, by simp; rfl, ?_, fun _ => ⟨_, by simp; rfl, by simp⟩⟩
    simp [e4, -walk_encC, walk_encC']
    rw [lcLoop_of encPr (fun p => !(decide (p.1 ∈ V) == (p.2 == 1))) encPr rfl]
    · simp [-emp_map, hold_emp]
    · intro p hp
      have h1 : cmp .isin (.str p.1) (encV V) = some (decide (p.1 ∈ V)) := cmp_inT _ _
      simp [encPr, idx0, idx1, h1, cmp_neB]
theorem sp_flagsL (wf n : Nat) (hn : 1 ≤ n) {P : List Sp} (hP : WQ P) (m : Mem) : run T wf n 24 [.d (encP P)] m = .ok (.fr ((flagsS P).map PyData.str)) m := by
  obtain ⟨n, rfl⟩ : ∃ k, n = k + 1 := ⟨n - 1, by omega⟩
  have hl8 := hP.len
  rw [run_succ d__law_flags.fnT rfl rfl (by decide)]
  obtain ⟨env', h1, e2', e3', h2, h3⟩ := forLoop_st (t := .nm 2) (gs := []) (m := m) (body := exB (run T wf n) wf [(.set 1 false (.op .add (.var 1) (.lc [3] (.nm 3) .seq [(.idx (.var 2) (.cst (.int 4)))] [] (.idx (.var 3) (.cst (.int 0))))))]) enc
    (fun i (s : List Str) env => ∃ e2 e3, env = [some (.d (encP P)), some (.d (.list (s.map PyData.str))), e2, e3] ∧ s.length ≤ 8 * i) (fun s sp => s ++ sp.cd.map (·.1)) rfl (xs := P) (s := []) (env := [some (.d (encP P)), some (.d (.list [])), none, none]) 0 (by
      rintro i sp hsp s env ⟨e2', e3', rfl, hl⟩
      have hi : i < P.length := (List.getElem?_eq_some_iff.mp hsp).1
      have hcl := hP.cl sp (List.mem_of_getElem? hsp)
      rw [Nat.zero_add] at hl
      refine ⟨[some (.d (encP P)), some (.d (.list (s.map PyData.str))), some (.d (enc sp)), e3'], [some (.d (encP P)), some (.d (.list ((s ++ sp.cd.map (·.1)).map PyData.str))), some (.d (enc sp)), e3'], by simp, ?_, _, _, rfl, ?_⟩
      · simp [e4, -walk_encC, walk_encC']
        rw [lcLoop_ofm encPr (fun p => .str p.1) rfl]
        · simp
          rw [addL _ _ (by simp; omega)]
          simp [Function.comp_def]
        · intro p hp
          simp [encPr, idx0]
      · rw [List.length_append, List.length_map]
        omega) ⟨none, none, rfl, by simp⟩
  subst h2
  have hfl : P.foldl (fun s sp => s ++ sp.cd.map (·.1)) [] = flagsL P := by
    have : ∀ (L : List Sp) (s : List Str), L.foldl (fun s sp => s ++ sp.cd.map (·.1)) s = s ++ flagsL L := by
      intro L
      induction L with
      | nil => intro s; simp [flagsL]
      | cons a L ih =>
        intro s
        rw [List.foldl_cons, ih]
        simp [flagsL]
    rw [this]; simp
  rw [hfl] at h1
  have hl := hP.flags_len
  simp [d__law_flags, Df.fnT, b__law_flags]
  rw [h1]
  simp [sset_L (flagsL P) (by omega), flagsS]
theorem sp_sides (wf n : Nat) (hn : 1 ≤ n) (fl : List Str) (h3 : fl.length ≤ 3) (m : Mem) : run T wf n 23 [.d (.list (fl.map PyData.str))] m = .ok (.fr ((vsOf fl).map encV)) m := by
  obtain ⟨n, rfl⟩ : ∃ k, n = k + 1 := ⟨n - 1, by omega⟩
  rw [run_succ d__law_sides.fnT rfl rfl (by decide)]
  obtain ⟨env', h1, e2', e3', h2⟩ := forLoop_st (t := .nm 2) (gs := []) (m := m) (body := exB (run T wf n) wf [(.set 1 false (.op .add (.var 1) (.lc [3] (.nm 3) .seq [(.var 1)] [] (.op .add (.var 3) (.tup [(.var 2)])))))]) PyData.str
    (fun i (s : List (List Str)) env => ∃ e2 e3, env = [some (.d (.list (fl.map PyData.str))), some (.d (.list (s.map encV))), e2, e3] ∧ s.length = 2 ^ i ∧ ∀ v ∈ s, v.length ≤ i) (fun s f => s ++ s.map (· ++ [f])) rfl (xs := fl) (s := [[]]) (env := [some (.d (.list (fl.map PyData.str))), some (.d (.list [.tuple []])), none, none]) 0 (by
      rintro i f hf s env ⟨e2', e3', rfl, hl, hv⟩
      have hi : i < 3 := by
        have := (List.getElem?_eq_some_iff.mp hf).1
        omega
      rw [Nat.zero_add] at hl hv
      have hp : 2 ^ i ≤ 8 := by
        have : i = 0 ∨ i = 1 ∨ i = 2 := by omega
        rcases this with rfl | rfl | rfl <;> decide
      refine ⟨[some (.d (.list (fl.map PyData.str))), some (.d (.list (s.map encV))), some (.d (.str f)), e3'], [some (.d (.list (fl.map PyData.str))), some (.d (.list ((s ++ s.map (· ++ [f])).map encV))), some (.d (.str f)), e3'], by simp, ?_, _, _, rfl, ?_, ?_⟩
      · simp
        rw [lcLoop_ofm encV (fun v => encV (v ++ [f])) rfl]
        · simp
          rw [addL _ _ (by simp; omega)]
          simp [Function.comp_def]
        · intro v hv'
          have := hv v hv'
          have hll : v.length + 1 ≤ lim := by simp [lim]; omega
          have ha : bop .add (encV v) (.tuple [.str f]) = some (.d (encV (v ++ [f]))) := by
            show (if (v.map PyData.str).length + [PyData.str f].length ≤ lim then some (Val.d (.tuple (v.map PyData.str ++ [.str f]))) else none) = _
            rw [if_pos (by simpa using hll)]
            simp [encV]
          simp [ha]
      · rw [Nat.zero_add, List.length_append, List.length_map, hl, Nat.pow_succ]
        omega
      · intro v hv'
        rcases List.mem_append.mp hv' with q | q
        · have := hv v q
          omega
        · obtain ⟨u, hu, rfl⟩ := List.mem_map.mp q
          have := hv u hu
          rw [List.length_append, List.length_singleton]
          omega) ⟨none, none, rfl, rfl, by simp⟩
  obtain ⟨rfl, hl, hv⟩ := h2
  rw [← subsF_fold] at h1
  have hs := sort_subs fl
  unfold subs at hs
  simp [d__law_sides, Df.fnT, b__law_sides]
  rw [h1]
  simp [sortedD, hs]
/-! the law's order -/
def onE : E := .cmp .eq (.lc [8] (.nm 8) .seq [(.idx (.var 2) (.cst (.int 4)))] [(.cmp .ne (.cmp .isin (.idx (.var 8) (.cst (.int 0))) (.var 1)) (.cmp .eq (.idx (.var 8) (.cst (.int 1))) (.cst (.int 1))))] (.var 8)) (.lst [])
abbrev env10 (form fl : PyData) (e2 e3 e4 e5 e6 e7 e8 e9 : Option Val) : Env := [some (.d form), some (.d fl), e2, e3, e4, e5, e6, e7, e8, e9]
theorem on_test (call : Call) (form : PyData) (V : List Str) (s : Sp) (e3' e4' e5' e6' e7' e8' e9' : Option Val) (m : Mem) : (sem call onE).t (env10 form (encV V) (some (.d (enc s))) e3' e4' e5' e6' e7' e8' e9') m = .ok (holdB s.cd V) m := by
  simp [onE, e4, -walk_encC, walk_encC']
  rw [lcLoop_of encPr (fun p => !(decide (p.1 ∈ V) == (p.2 == 1))) encPr rfl]
  · simp [-emp_map, hold_emp]
  · intro p hp
    have h1 : cmp .isin (.str p.1) (encV V) = some (decide (p.1 ∈ V)) := cmp_inT _ _
    simp [encPr, idx0, idx1, h1, cmp_neB]
theorem sp_on1 (wf n : Nat) (P : List Sp) (V : List Str) (m : Mem) (hl : P.length ≤ 8) : ∃ (e2 : Option Val), forLoop (.nm 2) (exB (run T wf n) wf [.iff onE [.app 3 (.var 2)] []]) [] (P.map enc) (env10 (encP P) (encV V) none (some (.mr m.length)) (some (.d (.list []))) none none none none none) (m ++ [⟨false, []⟩]) =
    .ok (.next (env10 (encP P) (encV V) e2 (some (.mr m.length)) (some (.d (.list []))) none none none none none)) (m ++ [⟨false, (live V P).map enc⟩]) := by
  obtain ⟨env', m', h1, e2', rfl, rfl⟩ := forLoop_inv (t := .nm 2) (body := exB (run T wf n) wf [.iff onE [.app 3 (.var 2)] []]) (gs := [])
    (fun i env m' => ∃ e2, env = env10 (encP P) (encV V) e2 (some (.mr m.length)) (some (.d (.list []))) none none none none none ∧ m' = m ++ [⟨false, (live V (P.take i)).map enc⟩]) (xs := P.map enc) 0 (env := env10 (encP P) (encV V) none (some (.mr m.length)) (some (.d (.list []))) none none none none none) (m := m ++ [⟨false, []⟩]) (by
      rintro i x hx env m' ⟨e2', rfl, rfl⟩
      rw [List.getElem?_map] at hx
      obtain ⟨s, hs, rfl⟩ := Option.map_eq_some_iff.mp hx
      obtain ⟨hi, hget⟩ := List.getElem?_eq_some_iff.mp hs
      have ht : live V (P.take (0 + i + 1)) = live V (P.take (0 + i)) ++ (if holdB s.cd V = true then [s] else []) := by
        rw [Nat.zero_add, ← List.take_append_getElem hi, hget]
        unfold live
        rw [List.filter_append]
        congr 1
        simp only [List.filter_cons, List.filter_nil]
      have hb := on_test (run T wf n) (encP P) V s (some (.mr m.length)) (some (.d (.list []))) none none none none none (m ++ [⟨false, (live V (P.take (0 + i))).map enc⟩])
      cases hh : holdB s.cd V with
      | false =>
        rw [hh] at hb ht
        refine ⟨env10 (encP P) (encV V) (some (.d (enc s))) (some (.mr m.length)) (some (.d (.list []))) none none none none none, env10 (encP P) (encV V) (some (.d (enc s))) (some (.mr m.length)) (some (.d (.list []))) none none none none none, _, by simp, ?_, rfl, some (.d (enc s)), rfl, rfl⟩
        rw [exB_cons, M.x_iff, hb, ht]
        simp
      | true =>
        rw [hh] at hb ht
        refine ⟨env10 (encP P) (encV V) (some (.d (enc s))) (some (.mr m.length)) (some (.d (.list []))) none none none none none, env10 (encP P) (encV V) (some (.d (enc s))) (some (.mr m.length)) (some (.d (.list []))) none none none none none, _, by simp, ?_, rfl, some (.d (enc s)), rfl, rfl⟩
        have hlen : (live V (P.take (0 + i))).length ≤ 8 := by
          refine Nat.le_trans (List.length_filter_le _ _) ?_
          rw [List.length_take]
          omega
        rw [exB_cons, M.x_iff, hb, ht]
        simp only [Res.noX_ok, Res.bind_ok, if_true]
        rw [exB_cons, appCell (j := m.length) (x := enc s) (m1 := m ++ [⟨false, (live V (P.take (0 + i))).map enc⟩]) (xs := (live V (P.take (0 + i))).map enc) (by simp) (by simp) (at_new _ _ _) (by simp; simp at hlen; omega)]
        simp)
    ⟨none, rfl, by simp [live]⟩
  rw [Nat.zero_add, List.length_map, List.take_length] at h1
  exact ⟨e2', h1⟩
def w1 : S := .set 5 false (.lc [7] (.nm 7) .seq [(.var 3)] [] (.idx (.var 7) (.cst (.int 3))))
def w2 : S := .set 6 false (.lc [7] (.nm 7) .seq [(.var 3)] [(.cmp .eq (.lc [9] (.nm 9) .seq [(.idx (.var 7) (.cst (.int 2)))] [(.cmp .isin (.var 9) (.var 5))] (.var 9)) (.lst []))] (.var 7))
def w3 : S := .set 4 false (.op .add (.var 4) (.var 6))
def w4 : S := .set 3 true (.ite (.cmp .ne (.var 6) (.lst [])) (.lc [7] (.nm 7) .seq [(.var 3)] [(.cmp .notin (.var 7) (.var 6))] (.var 7)) (.lst []))
theorem on_body : b__law_on = [(.par [(3, true), (4, false)] [(.lst []), (.lst [])]), (.for (.nm 2) .seq [(.var 0)] [.iff onE [.app 3 (.var 2)] []]), (.while (.cmp .ne (.var 3) (.lst [])) [w1, w2, w3, w4]), (.ret (.var 4))] := rfl
theorem rdy_emp (left : List Sp) (s : Sp) : emp ((s.rd.filter fun p => decide (p ∈ left.map Sp.sh)).map PyData.str) = rdyB left s := by
  have := emp_filter s.rd fun p => !decide (p ∈ left.map Sp.sh)
  simp only [Bool.not_not] at this
  rw [emp_map, this]
  rfl
theorem on_step (call : Call) (wf j : Nat) (form fl : PyData) (left found : List Sp) (m : Mem) (hj : m[j]? = some ⟨false, left.map enc⟩) (hl : found.length + left.length ≤ 8) (e2' e5 e6 e7 e8 e9 : Option Val) :
    ∃ e5' e6', exB call wf [w1, w2, w3, w4] (env10 form fl e2' (some (.mr j)) (some (.d (.list (found.map enc)))) e5 e6 e7 e8 e9) m = .ok (.next (env10 form fl e2' (some (.mr m.length)) (some (.d (.list ((found ++ rdy left).map enc)))) e5' e6' e7 e8 e9)) (m ++ [⟨false, (nxt left).map enc⟩]) := by
  have hlk : lookAll m [.mr j] = some [.list (left.map enc)] := lookAll_mr _ hj _
  have hs := same1 hj
  have s1 : exS call wf w1 (env10 form fl e2' (some (.mr j)) (some (.d (.list (found.map enc)))) e5 e6 e7 e8 e9) m = .ok (.next (env10 form fl e2' (some (.mr j)) (some (.d (.list (found.map enc)))) (some (.d (.list ((left.map Sp.sh).map PyData.str)))) e6 e7 e8 e9)) m := by
    simp [w1, hlk]
    rw [lcLoop_ofm enc (fun s => .str s.sh) hs]
    · simp [Function.comp_def]
    · intro s hs'
      simp [e3]
  have s2 : exS call wf w2 (env10 form fl e2' (some (.mr j)) (some (.d (.list (found.map enc)))) (some (.d (.list ((left.map Sp.sh).map PyData.str)))) e6 e7 e8 e9) m = .ok (.next (env10 form fl e2' (some (.mr j)) (some (.d (.list (found.map enc)))) (some (.d (.list ((left.map Sp.sh).map PyData.str)))) (some (.d (.list ((rdy left).map enc)))) e7 e8 e9)) m := by
    have hre := rdy_emp left
    generalize left.map Sp.sh = ws at hre ⊢
    simp only [w2, M.x_set, M.v_lc, M.srcR_eq, M.cArgs_cons, M.cArgs_nil, M.v_var, getV_zero, getV_succ, optR_some, Res.bind_ok, nf_mr, hlk, M.walk_list, M.guards_mr, M.guards_nil]
    rw [lcLoop_of enc (rdyB left) enc hs]
    · simp [rdy]
    · intro s hs'
      refine ⟨_, by simp; rfl, ?_, fun _ => ⟨_, by simp; rfl, by simp⟩⟩
      simp only [tAll_one, M.t_cmp, M.v_cmp, M.v_lc, M.srcR_eq, M.cArgs_cons, M.cArgs_nil, M.v_idx, M.v_var, M.v_cst, getV_zero, getV_succ, optR_some, Res.bind_ok, nf_d, rdR_d, e2, M.lookAll_d, M.lookAll_nil, Option.map_some, M.walk_tuple, M.guards_d, M.guards_nil]
      rw [lcLoop_of PyData.str (fun p => decide (p ∈ ws)) PyData.str rfl]
      · simp [-emp_map, hre]
      · intro p hp
        refine ⟨_, by simp; rfl, ?_, fun _ => ⟨_, by simp; rfl, by simp⟩⟩
        simp only [tAll_one, M.t_cmp, M.v_cmp, M.v_var, getV_zero, getV_succ, optR_some, Res.bind_ok, nf_d, rdR_d, cmp_inL, boolR_eq, truR_bool]
  have hr : (rdy left).length ≤ left.length := List.length_filter_le _ _
  have s3 : exS call wf w3 (env10 form fl e2' (some (.mr j)) (some (.d (.list (found.map enc)))) (some (.d (.list ((left.map Sp.sh).map PyData.str)))) (some (.d (.list ((rdy left).map enc)))) e7 e8 e9) m = .ok (.next (env10 form fl e2' (some (.mr j)) (some (.d (.list ((found ++ rdy left).map enc)))) (some (.d (.list ((left.map Sp.sh).map PyData.str)))) (some (.d (.list ((rdy left).map enc)))) e7 e8 e9)) m := by
    simp [w3, addL (found.map enc) ((rdy left).map enc) (by simp; omega)]
  have s4 : exS call wf w4 (env10 form fl e2' (some (.mr j)) (some (.d (.list ((found ++ rdy left).map enc)))) (some (.d (.list ((left.map Sp.sh).map PyData.str)))) (some (.d (.list ((rdy left).map enc)))) e7 e8 e9) m = .ok (.next (env10 form fl e2' (some (.mr m.length)) (some (.d (.list ((found ++ rdy left).map enc)))) (some (.d (.list ((left.map Sp.sh).map PyData.str)))) (some (.d (.list ((rdy left).map enc)))) e7 e8 e9)) (m ++ [⟨false, (nxt left).map enc⟩]) := by
    by_cases he : rdy left = []
    · have : emp (rdy left) = true := by rw [he]; rfl
      simp [w4, nxt, he, emp]
    · have : emp (rdy left) = false := by
        cases e : rdy left with
        | nil => exact absurd e he
        | cons a b => rfl
      simp [w4, this, hlk]
      rw [lcLoop_of enc (fun s => !decide (s ∈ rdy left)) enc hs]
      · simp [nxt, he]
      · intro s hs'
        have hin : cmp .notin (enc s) (.list ((rdy left).map enc)) = some (!decide (s ∈ rdy left)) := by
          show (inD (enc s) (.list ((rdy left).map enc))).map (!·) = _
          rw [in_encL]; rfl
        simp [hin]
  refine ⟨some (.d (.list ((left.map Sp.sh).map PyData.str))), some (.d (.list ((rdy left).map enc))), ?_⟩
  rw [exB_cons, s1, Res.bind_ok, nextF_next, exB_cons, s2, Res.bind_ok, nextF_next, exB_cons, s3, Res.bind_ok, nextF_next, exB_cons, s4, Res.bind_ok, nextF_next, exB_nil]
theorem on_while (call : Call) (wf : Nat) (form fl : PyData) (m0 : Mem) (e2' e7 e8 e9 : Option Val) : ∀ (n j : Nat) (left found : List Sp) (m : Mem) (e5 e6 : Option Val), left.length < n → m[j]? = some ⟨false, left.map enc⟩ → found.length + left.length ≤ 8 → Kp m0 m →
    ∃ (j' : Nat) (e5' e6' : Option Val) (m' : Mem), whileLoop (sem call (.cmp .ne (.var 3) (.lst []))) (exB call wf [w1, w2, w3, w4]) n (env10 form fl e2' (some (.mr j)) (some (.d (.list (found.map enc)))) e5 e6 e7 e8 e9) m = .ok (.next (env10 form fl e2' (some (.mr j')) (some (.d (.list ((onGo n left found).map enc)))) e5' e6' e7 e8 e9)) m' ∧ Kp m0 m' := by
  intro n
  induction n with
  | zero => intro j left found m e5 e6 h; omega
  | succ n ih =>
    intro j left found m e5 e6 h hj hl hk
    have hrd : rdR m (.mr j) = .ok (.list (left.map enc)) m := rdR_mr _ hj
    have ht : (sem call (.cmp .ne (.var 3) (.lst []))).t (env10 form fl e2' (some (.mr j)) (some (.d (.list (found.map enc)))) e5 e6 e7 e8 e9) m = .ok (!emp left) m := by
      simp [hrd]
    unfold whileLoop
    rw [ht]
    by_cases hleft : left = []
    · subst hleft
      exact ⟨j, e5, e6, m, by simp [onGo, emp], hk⟩
    · have hemp : emp left = false := by
        cases left with
        | nil => exact absurd rfl hleft
        | cons a b => rfl
      obtain ⟨e5', e6', hb⟩ := on_step call wf j form fl left found m hj hl e2' e5 e6 e7 e8 e9
      have hn : (rdy left).length + (nxt left).length ≤ left.length ∧ (nxt left).length < left.length := by
        have hp : 0 < left.length := List.length_pos_iff.mpr hleft
        by_cases hr : rdy left = []
        · have : nxt left = [] := by unfold nxt; rw [if_pos hr]
          rw [hr, this]
          simp
          omega
        · have h1 := nxt_len hr
          have h2 : 0 < (rdy left).length := List.length_pos_iff.mpr hr
          omega
      simp only [Res.noX_ok, Res.bind_ok, hemp, Bool.not_false, if_true]
      rw [hb]
      simp only [Res.bind_ok]
      have := ih m.length (nxt left) (found ++ rdy left) _ e5' e6' (by omega) (at_new m ⟨false, (nxt left).map enc⟩ []) (by rw [List.length_append]; omega) (hk.trans (Kp.app _ _))
      rw [show onGo (n + 1) left found = onGo n (nxt left) (found ++ rdy left) by rw [onGo, if_neg hleft]]
      exact this
theorem sp_lon (wf n : Nat) (hn : 1 ≤ n) (hw : 8 < wf) (P : List Sp) (V : List Str) (hl : P.length ≤ 8) (m : Mem) : run T wf n 22 [.d (encP P), .d (encV V)] m = .ok (.d (.list ((onGo wf (live V P) []).map enc))) m := by
  obtain ⟨n, rfl⟩ : ∃ k, n = k + 1 := ⟨n - 1, by omega⟩
  rw [run_succ d__law_on.fnT rfl rfl (by decide)]
  obtain ⟨e2', h1⟩ := sp_on1 wf n P V m hl
  have hll : (live V P).length ≤ 8 := Nat.le_trans (List.length_filter_le _ _) hl
  obtain ⟨j', e5', e6', m', h4, h7⟩ := on_while (run T wf n) wf (encP P) (encV V) m e2' none none none wf m.length (live V P) [] (m ++ [⟨false, (live V P).map enc⟩]) none none (by omega) (at_new _ _ _) (by simpa using hll) (Kp.app _ _)
  rw [show d__law_on.fnT.body = b__law_on from rfl, on_body]
  simp only [List.map_nil] at h4
  simp [d__law_on, Df.fnT, h1, h4, h7.cut]
end Ra.K3

set_option Elab.async false
set_option linter.all false
set_option maxRecDepth 100000
set_option maxHeartbeats 800000
namespace Ra.K3
open PySem M _root_.K4
@[simp] theorem bi_lenset (x : List PyData) : bi .lenset x = lensetD x := rfl
theorem lenset_L (ks : List Str) (h : ks.length < 4000) : lensetD [.list (ks.map PyData.str)] = some (.d (.int (firstS [] ks).length)) := by
  unfold lensetD
  simp only
  rw [if_pos ⟨allStr_strs ks, by simpa using h⟩, dedup_firstS, List.length_map]
theorem lenset_T (ks : List Str) (h : ks.length < 4000) : lensetD [.tuple (ks.map PyData.str)] = some (.d (.int (firstS [] ks).length)) := by
  unfold lensetD
  simp only
  rw [if_pos ⟨allStr_strs ks, by simpa using h⟩, dedup_firstS, List.length_map]
/-! bad -/
def badB (wf : Nat) (V : List Str) (P : List Sp) : Bool := decide ((firstS [] ((live V P).map Sp.sh)).length < (live V P).length) || decide ((onGo wf (live V P) []).length < (live V P).length)
theorem bad_iff {wf : Nat} {V : List Str} {P : List Sp} (hw : 8 < wf) (hl : P.length ≤ 8) : badB wf V P = true ↔ badAt V P := by
  have hll : (live V P).length ≤ 8 := Nat.le_trans (List.length_filter_le _ _) hl
  unfold badB badAt
  rw [Bool.or_eq_true, decide_eq_true_eq, decide_eq_true_eq]
  have h1 := firstS_lt_iff ((live V P).map Sp.sh)
  rw [List.length_map] at h1
  rw [h1]
  refine or_congr Iff.rfl ⟨fun h => ?_, fun h => ?_⟩
  · exact Classical.not_not.mp fun q => by
      have := on_full wf (live V P) [] (by omega) q
      rw [this] at h
      simp at h
  · have := on_stuck wf (live V P) [] (by omega) h
    simpa using this
def badP (wf : Nat) (P : List Sp) : Bool := (vsOf (flagsS P)).any fun V => badB wf V P
theorem bad_sound {wf : Nat} {P : List Sp} (hw : 8 < wf) (hP : WQ P) : badP wf P = !soundB P := by
  rw [Bool.eq_iff_iff, Bool.not_eq_true', Bool.eq_false_iff, ne_eq, sound_spec hP]
  unfold badP
  rw [List.any_eq_true]
  constructor
  · rintro ⟨V, h1, h2⟩ h
    exact h V (mem_vsOf.mp h1) ((bad_iff hw hP.len).mp h2)
  · intro h
    obtain ⟨V, hV⟩ := Classical.not_forall.mp h
    obtain ⟨h1, h2⟩ := Classical.not_imp.mp hV
    exact ⟨V, mem_vsOf.mpr h1, (bad_iff hw hP.len).mpr (Classical.not_not.mp h2)⟩
theorem find_any {α : Type} (f : α → Bool) (v : Val) : ∀ L : List α, L.findSome? (fun x => if f x = true then some v else none) = if L.any f = true then some v else none
  | [] => rfl
  | x :: L => by
    rw [List.findSome?_cons, find_any f v L, List.any_cons]
    cases f x <;> simp
def bdB : List S := [(.set 2 false (.call 25 [(.var 0), (.var 1)])), (.iff (.bor [(.cmp .lt (.bi .lenset [(.lc [3] (.nm 3) .seq [(.var 2)] [] (.idx (.var 3) (.cst (.int 3))))]) (.bi .len [(.var 2)])), (.cmp .lt (.bi .len [(.call 22 [(.var 0), (.var 1)])]) (.bi .len [(.var 2)]))]) [(.ret (.cst (.bool true)))] [])]
theorem sp_bad (wf n : Nat) (hn : 2 ≤ n) (hw : 8 < wf) {P : List Sp} (hP : WQ P) (m : Mem) : run T wf n 26 [.d (encP P)] m = .ok (.d (.bool (badP wf P))) m := by
  obtain ⟨n, rfl⟩ : ∃ k, n = k + 1 := ⟨n - 1, by omega⟩
  rw [run_succ d__law_bad.fnT rfl rfl (by decide)]
  have h1 := sp_flagsL wf n (by omega) hP m
  have h2 := sp_sides wf n (by omega) (flagsS P) hP.flags3 m
  have key := forLoop_find (t := .nm 1) (body := exB (run T wf n) wf bdB) (gs := []) (m := m) encV (fun V => if badB wf V P = true then some (Val.d (.bool true)) else none) (fun env => ∃ e1 e2 , env = [some (.d (encP P)), e1, e2, none]) rfl (xs := vsOf (flagsS P)) (env := [some (.d (encP P)), none, none, none]) ⟨_, _, rfl⟩ (by
    rintro V hV env ⟨e1', e2', rfl⟩
    refine ⟨[some (.d (encP P)), some (.d (encV V)), e2', none], by simp, ?_⟩
    have hll : (live V P).length ≤ 8 := Nat.le_trans (List.length_filter_le _ _) hP.len
    have q1 := sp_live wf n (by omega) P V m
    have q2 := sp_lon wf n (by omega) hw P V hP.len m
    have q3 := lenset_L ((live V P).map Sp.sh) (by rw [List.length_map]; omega)
    have hc : lcLoop (.nm 3) (sems (run T wf n) []) (sem (run T wf n) (.idx (.var 3) (.cst (.int 3)))) [] [some (.d (encP P)), some (.d (encV V)), some (.d (.list ((live V P).map enc))), none] ((live V P).map enc) m = .ok (((live V P).map Sp.sh).map PyData.str) m := by
      rw [lcLoop_ofm enc (fun s => .str s.sh) rfl]
      · simp [Function.comp_def]
      · intro s hs
        simp [e3]
    have hbody : exB (run T wf n) wf bdB [some (.d (encP P)), some (.d (encV V)), e2', none] m = if badB wf V P = true then .ok (.ret (.d (.bool true))) m else .ok (.next [some (.d (encP P)), some (.d (encV V)), some (.d (.list ((live V P).map enc))), none]) m := by
      unfold badB
      generalize (live V P).map Sp.sh = ks at q3 hc ⊢
      generalize onGo wf (live V P) [] = fs at q2 ⊢
      generalize live V P = L at *
      simp [bdB, q1, q2, q3, hc]
      by_cases c1 : (firstS [] ks).length < L.length <;> by_cases c2 : fs.length < L.length <;> simp [c1, c2]
    cases hb : badB wf V P with
    | true =>
      rw [hb] at hbody
      simpa using hbody
    | false =>
      rw [hb] at hbody
      exact ⟨_, by simpa using hbody, _, _, rfl⟩)
  rw [find_any] at key
  have hbd : badP wf P = (vsOf (flagsS P)).any fun V => badB wf V P := rfl
  rw [← hbd] at key
  cases hb : badP wf P with
  | true =>
    rw [hb] at key
    rcases key with ⟨v, k1, k2⟩ | ⟨k1, _⟩
    · cases k1
      simp [d__law_bad, Df.fnT, b__law_bad, h1, h2]
      unfold bdB at k2
      rw [k2]
      simp
    · cases k1
  | false =>
    rw [hb] at key
    rcases key with ⟨v, k1, k2⟩ | ⟨k1, env', k2, e1', e2', rfl⟩
    · cases k1
    · simp [d__law_bad, Df.fnT, b__law_bad, h1, h2]
      unfold bdB at k2
      rw [k2]
      simp
/-! parts -/
theorem in_prs (p : Str × Int) : ∀ cd : List (Str × Int), ((cd.map encPr).any fun y => PyData.eqv y (.tuple [.str p.1, .int p.2])) = decide (p ∈ cd)
  | [] => rfl
  | q :: cd => by
    rw [List.map_cons, List.any_cons, in_prs p cd, encPr, eqv_pr]
    by_cases h : q = p
    · subst h; simp
    · have h' : ¬ p = q := fun e => h e.symm
      simp [h, h']
def partB (c1 c2 : List (Str × Int)) : Bool := c1.any fun p => decide ((p.1, 1 - p.2) ∈ c2)
theorem emp_any {α : Type} (f : α → Bool) (g : α → PyData) (L : List α) : (!emp ((L.filter f).map g)) = L.any f := by
  rw [emp_map]
  have := emp_filter L fun x => !f x
  simp only [Bool.not_not] at this
  rw [this, allB_eq, Bool.eq_iff_iff]
  simp
theorem sp_parts (wf n : Nat) (hn : 1 ≤ n) (c1 c2 : List (Str × Int)) (m : Mem) : run T wf n 27 [.d (encC c1), .d (encC c2)] m = .ok (.d (.bool (partB c1 c2))) m := by
  obtain ⟨n, rfl⟩ : ∃ k, n = k + 1 := ⟨n - 1, by omega⟩
  rw [run_succ d__law_parts.fnT rfl rfl (by decide)]
  simp [d__law_parts, Df.fnT, b__law_parts, -walk_encC, walk_encC']
  rw [lcLoop_of encPr (fun p => decide ((p.1, 1 - p.2) ∈ c2)) encPr rfl]
  · simp [-emp_map, emp_any, partB]
  · intro p hp
    refine ⟨_, by simp; rfl, ?_, fun _ => ⟨_, by simp; rfl, by simp⟩⟩
    have h1 : cmp .isin (.tuple [.str p.1, .int (1 - p.2)]) (encC c2) = some (decide ((p.1, 1 - p.2) ∈ c2)) := by
      show inAll (.tuple [.str p.1, .int (1 - p.2)]) (c2.map encPr) = _
      unfold inAll
      rw [if_pos (by simp [PyData.depth, PyData.depthAll]), in_prs (p.1, 1 - p.2)]
    have h2 : bop .sub (.int 1) (.int p.2) = some (.d (.int (1 - p.2))) := rfl
    simp [encPr, idx0, idx1, h1, h2]
theorem clash_parts {c1 c2 : List (Str × Int)} (h1 : OkC c1) (h2 : OkC c2) : clashB c1 c2 = partB c1 c2 := by
  rw [Bool.eq_iff_iff, clash_iff h1]
  unfold partB
  rw [List.any_eq_true]
  constructor
  · rintro ⟨f, a, b, m1, m2, hn⟩
    refine ⟨(f, a), m1, ?_⟩
    have b1 := h1.bit _ m1
    have b2 := h2.bit _ m2
    simp only at b1 b2
    have e : b = 1 - a := by omega
    subst e
    simpa using m2
  · rintro ⟨⟨f, a⟩, m1, hm⟩
    have m2 : (f, 1 - a) ∈ c2 := by simpa using hm
    exact ⟨f, a, 1 - a, m1, m2, by omega⟩
/-! tags, the lot -/
theorem sp_tags (wf n : Nat) (hn : 1 ≤ n) {ks : List Str} (h : ∀ k ∈ ks, tagOk k = true) (m : Mem) : run T wf n 32 [.d (encV ks)] m = .ok (.d (.bool true)) m := by
  obtain ⟨n, rfl⟩ : ∃ k, n = k + 1 := ⟨n - 1, by omega⟩
  rw [run_succ d__law_tags.fnT rfl rfl (by decide)]
  have hi : isi (encV ks) .tuple = true := rfl
  simp [d__law_tags, Df.fnT, b__law_tags, hi]
  rw [lcLoop_of PyData.str (fun _ => false) PyData.str rfl]
  · simp [emp]
  · intro k hk
    obtain ⟨h1, h2, h3⟩ := tag_parts (h k hk)
    have h1' : (0 : Int) < k.length := by omega
    have h2' : (k.length : Int) < 9 := by omega
    refine ⟨_, by simp; rfl, ?_, fun q => by cases q⟩
    simp [isi, h1', h2']
    unfold signs
    have h1n : 0 < k.length := by omega
    have hff : (k.cps.toList.filter fun _ => false) = [] := List.filter_eq_nil_iff.mpr (by simp)
    rw [lcLoop_of one (fun _ => false) one rfl]
    · rw [hff]
      simp [emp, h1n]
    · intro c hc
      obtain ⟨_, k2, k3⟩ := h3 c hc
      refine ⟨_, by simp; rfl, ?_, fun q => by cases q⟩
      have l1 : cmp .le (.str "a") (one c) = some true := by
        show some (!strLt ⟨#[c]⟩ "a") = _
        rw [k2]; rfl
      have l2 : cmp .le (one c) (.str "z") = some true := by
        show some (!strLt "z" ⟨#[c]⟩) = _
        rw [k3]; rfl
      simp [l1, l2]
theorem pairs_of {α : Type} (k : α → Str) (v : α → PyData) : ∀ (xs : List α) (acc : List (PyData × PyData)), pairsD (xs.map fun x => .tuple [.str (k x), v x]) acc = some (xs.foldl (fun a x => dPut a (.str (k x)) (v x)) acc)
  | [], acc => rfl
  | x :: xs, acc => by
    rw [List.map_cons, pairsD]
    simp only [keyB, if_true]
    rw [pairs_of k v xs]
    rfl
def hasN (P : List Sp) (t : Str) : Bool := (lookN P t).isSome
theorem sp_lot (wf n : Nat) (hn : 2 ≤ n) {P : List Sp} (hP : WP P) {ts : List Str} (ht : ∀ t ∈ ts, tagOk t = true) (hl : ts.length < 100) (m : Mem) : ∃ v, run T wf n 33 [.d (encP P), .d (encV ts)] m = .ok v m ∧ v.nf = .d (lotV (lotO P ts)) := by
  obtain ⟨n, rfl⟩ : ∃ k, n = k + 1 := ⟨n - 1, by omega⟩
  rw [run_succ d__law_lot.fnT rfl rfl (by decide)]
  have htg := sp_tags wf n (by omega) ht m
  have hls : lensetD [encV ts] = some (.d (.int (firstS [] ts).length)) := lenset_T ts (by omega)
  have hl2 : lenD [encV ts] = some (.d (.int ts.length)) := by simp [encV]
  have hlt := firstS_lt_iff ts
  simp [d__law_lot, Df.fnT, b__law_lot]
  rw [lcLoop_ofm enc (fun s => .tuple [.str s.nm, enc s]) rfl (by intro s hs; simp [e0])]
  simp only [Res.bind_ok, M.nf_fr, M.rdR_d, dmkR_l, pairs_of Sp.nm enc, dict_P hP, optR_some]
  simp [htg]
  rw [lcLoop_of PyData.str (fun t => !hasN P t) PyData.str rfl]
  · cases h1 : ts.all (fun t => (lookN P t).isSome) with
    | false =>
      have : allB ts (hasN P) = false := h1
      simp [this, lotO, h1, lotV]
    | true =>
      have : allB ts (hasN P) = true := h1
      simp [this, hls, hl2]
      by_cases h2 : ts.Nodup
      · have e : ¬ (firstS [] ts).length < ts.length := fun q => hlt.mp q h2
        simp [e]
        rw [lcLoop_ofm _ (encN P) rfl]
        · simp only [lotO, h1, h2, and_self, if_true, lotV, (filter_look h1).1]
          simp
        · intro t ht'
          obtain ⟨s, hs⟩ := Option.isSome_iff_exists.mp (List.all_eq_true.mp h1 t ht')
          simp [look_P, hs, encN]
      · have e : (firstS [] ts).length < ts.length := hlt.mpr h2
        simp [e, lotO, h2, lotV]
  · intro t ht'
    refine ⟨_, by simp; rfl, ?_, fun _ => ⟨_, by simp; rfl, by simp⟩⟩
    simp [look_P, hasN]
end Ra.K3

set_option Elab.async false
set_option linter.all false
set_option maxRecDepth 100000
set_option maxHeartbeats 800000
namespace Ra.K3
open PySem M _root_.K4
/-! rounds -/
theorem chain_iff : ∀ l : List Sp, chainB l = true ↔ ∀ i a b, l[i]? = some a → l[i + 1]? = some b → feedB a b = true
  | [] => by simp [chainB]
  | [x] => by simp [chainB]
  | x :: y :: r => by
    rw [chainB, Bool.and_eq_true, chain_iff (y :: r)]
    constructor
    · rintro ⟨h1, h2⟩ i a b ha hb
      cases i with
      | zero =>
        simp at ha hb
        subst ha hb
        exact h1
      | succ i => exact h2 i a b (by simpa using ha) (by simpa using hb)
    · intro h
      exact ⟨h 0 x y rfl rfl, fun i a b ha hb => h (i + 1) a b (by simpa using ha) (by simpa using hb)⟩
def predN (n k : Nat) : Nat := if k = 0 then n - 1 else k - 1
def rnB (L : List Sp) (k : Nat) : Bool := match L[predN L.length k]?, L[k]? with
  | some a, some b => feedB a b
  | _, _ => true
theorem cyc_iff {L : List Sp} (hne : L ≠ []) : cycB L = (List.range' 0 L.length).all (rnB L) := by
  obtain ⟨x, xs, rfl⟩ := List.exists_cons_of_ne_nil hne
  rw [Bool.eq_iff_iff, cycB, chain_iff, List.all_eq_true]
  have hlt : ∀ i, i < (x :: xs).length → (x :: xs ++ [x])[i]? = (x :: xs)[i]? := fun i hi => List.getElem?_append_left hi
  have hn : (x :: xs ++ [x])[(x :: xs).length]? = some x := by rw [List.getElem?_append_right (Nat.le_refl _)]; simp
  constructor
  · intro h k hk
    have hk' : k < (x :: xs).length := by
      have := (List.mem_range'_1.mp hk).2
      omega
    unfold rnB predN
    split
    · rename_i a b ha hb
      by_cases h0 : k = 0
      · subst h0
        rw [if_pos rfl] at ha
        have hb' : b = x := by simpa using hb.symm
        subst hb'
        refine h ((b :: xs).length - 1) a b (by rw [hlt _ (by simp)]; exact ha) ?_
        rw [show (b :: xs).length - 1 + 1 = (b :: xs).length by simp]
        exact hn
      · rw [if_neg h0] at ha
        refine h (k - 1) a b (by rw [hlt _ (by omega)]; exact ha) ?_
        rw [show k - 1 + 1 = k by omega, hlt _ hk']
        exact hb
    · rfl
  · intro h i a b ha hb
    have hi : i + 1 < (x :: xs ++ [x]).length := (List.getElem?_eq_some_iff.mp hb).1
    rw [List.length_append, List.length_singleton] at hi
    rw [hlt i (by omega)] at ha
    by_cases he : i + 1 = (x :: xs).length
    · rw [he, hn] at hb
      cases hb
      have := h 0 (List.mem_range'_1.mpr ⟨by omega, by omega⟩)
      unfold rnB predN at this
      rw [if_pos rfl, show (x :: xs).length - 1 = i by omega, ha] at this
      simpa using this
    · rw [hlt _ (by omega)] at hb
      have := h (i + 1) (List.mem_range'_1.mpr ⟨by omega, by omega⟩)
      unfold rnB predN at this
      rw [if_neg (by omega), show i + 1 - 1 = i by omega, ha, hb] at this
      exact this
theorem idx_at {L : List Sp} {k : Nat} {a : Sp} (h : L[k]? = some a) : idx (.list (L.map enc)) (.int k) = some (enc a) := by
  have hk := (List.getElem?_eq_some_iff.mp h).1
  show L2.atI _ _ = _
  unfold L2.atI L2.ixN
  rw [if_pos (by omega), if_pos (by rw [List.length_map]; omega)]
  simp [h]
theorem idx_pred {L : List Sp} {k : Nat} {a : Sp} (hk : k < L.length) (h : L[predN L.length k]? = some a) : idx (.list (L.map enc)) (.int ((k : Int) - 1)) = some (enc a) := by
  unfold predN at h
  by_cases h0 : k = 0
  · subst h0
    rw [if_pos rfl] at h
    show L2.atI _ _ = _
    unfold L2.atI L2.ixN
    rw [if_neg (by omega), if_pos (by rw [List.length_map]; omega)]
    rw [Option.bind_some, List.length_map, show ((((0 : Nat) : Int) - 1) + (L.length : Int)).toNat = L.length - 1 by omega, List.getElem?_map, h]
    rfl
  · rw [if_neg h0] at h
    rw [show (k : Int) - 1 = ((k - 1 : Nat) : Int) by omega]
    exact idx_at h
theorem sp_rounds (wf n : Nat) (hn : 1 ≤ n) (L : List Sp) (hl : L.length ≤ 100) (m : Mem) : run T wf n 34 [.d (.list (L.map enc))] m = .ok (.d (.bool (cycB L))) m := by
  obtain ⟨n, rfl⟩ : ∃ k, n = k + 1 := ⟨n - 1, by omega⟩
  rw [run_succ d__law_rounds.fnT rfl rfl (by decide)]
  by_cases hne : L = []
  · subst hne
    simp [d__law_rounds, Df.fnT, b__law_rounds, emp, cycB]
  · have he : emp L = false := by
      cases L with
      | nil => exact absurd rfl hne
      | cons a b => rfl
    have hw : walk .range [.int L.length] = some ((List.range' 0 L.length).map fun i : Nat => PyData.int i) := by
      rw [M.walk_range (by omega)]
      exact congrArg some (range_map L.length 0)
    generalize hrg : List.range' 0 L.length = rg at hw
    simp [d__law_rounds, Df.fnT, b__law_rounds, he, hw]
    rw [lcLoop_of (fun i : Nat => PyData.int i) (fun k => !rnB L k) (fun i : Nat => PyData.int i) rfl]
    · simp [cyc_iff hne, hrg, allB_eq]
    · intro k hk
      have hk' : k < L.length := by
        rw [← hrg] at hk
        have := (List.mem_range'_1.mp hk).2
        omega
      have hp : predN L.length k < L.length := by unfold predN; split <;> omega
      obtain ⟨a, ha⟩ : ∃ a, L[predN L.length k]? = some a := ⟨_, List.getElem?_eq_getElem hp⟩
      obtain ⟨b, hb⟩ : ∃ b, L[k]? = some b := ⟨_, List.getElem?_eq_getElem hk'⟩
      have hr : rnB L k = decide (a.sh ∈ b.rd) := by
        unfold rnB
        rw [ha, hb]
        rfl
      have i1 := idx_pred hk' ha
      have i2 := idx_at hb
      have hs : bop .sub (.int k) (.int 1) = some (.d (.int ((k : Int) - 1))) := rfl
      refine ⟨_, by simp; rfl, ?_, fun _ => ⟨_, by simp; rfl, by simp⟩⟩
      simp [hs, i1, i2, e2, e3, hr]
theorem srt_ris {ks : List Str} (nd : ks.Nodup) : decide (ks = srt ks) = risB ks := by
  have := setS_eq (ks := ks)
  unfold setS at this
  rw [firstS_nodup (by simpa using nd)] at this
  simpa using this
theorem cmp_strs (ks js : List Str) : cmp .ne (.list (ks.map PyData.str)) (.list (js.map PyData.str)) = some (!decide (ks = js)) := by
  have h : (PyData.list (ks.map PyData.str)).depth ≤ 64 := by simp [PyData.depth, depth_strs]
  have hd : deep (.list (ks.map PyData.str)) (.list (js.map PyData.str)) = true := decide_eq_true (by omega)
  show (if deep (.list (ks.map PyData.str)) (.list (js.map PyData.str)) = true then _ else none) = _
  rw [if_pos hd]
  simp only [PyData.eqv, eqvAll_map _ eqv_strd]
/-! what is told -/
def sndD : PyData := .list [.str "sound", .bool true]
def toldV (P : List Sp) : PyData := match toldP P with
  | some (k, L) => toldD k L
  | none => sndD
@[simp] theorem x_tryx (call : Call) (wf : Nat) (b : TB) (h : List Hd) (env : Env) (m : Mem) : exS call wf (.tryx b h) env m = xTry (tbX call b) h env m := rfl
/-! same -/
mutual
def ndB : PyData → Bool
  | .list xs => ndBs xs
  | .tuple xs => ndBs xs
  | .dict _ => false
  | _ => true
def ndBs : List PyData → Bool
  | [] => true
  | x :: r => ndB x && ndBs r
end
theorem ndBs_mem : ∀ {xs : List PyData}, ndBs xs = true → ∀ x ∈ xs, ndB x = true
  | [], _, x, h => by cases h
  | y :: r, h, x, hx => by
    rw [ndBs, Bool.and_eq_true] at h
    rcases List.mem_cons.mp hx with rfl | hx
    · exact h.1
    · exact ndBs_mem h.2 x hx
theorem zip_self : ∀ xs : List PyData, zipD xs xs = xs.map fun x => .tuple [x, x]
  | [] => rfl
  | x :: xs => by rw [zipD, zip_self xs]; rfl
theorem sp_same (wf : Nat) : ∀ (n : Nat) (x : PyData) (m : Mem), x.depth < n → ndB x = true → run T wf n 21 [.d x, .d x] m = .ok (.d (.bool true)) m
  | 0, _, _, h, _ => by omega
  | n + 1, x, m, h, hd => by
    rw [run_succ d__law_same.fnT rfl rfl (by decide)]
    cases x with
    | list xs =>
      rw [PyData.depth] at h
      rw [ndB] at hd
      simp [d__law_same, Df.fnT, b__law_same, isi, cmp_neB, zip_self]
      rw [lcLoop_ofm (fun x => PyData.tuple [x, x]) (fun _ => .bool true) rfl]
      · have hA := all_true xs
        simp only [Res.bind_ok, M.nf_fr, M.lookAll_d, M.lookAll_nil, Option.map_some, optR_some, hA]
        simp
      · intro y hy
        have := depth_le hy
        simp [sp_same wf n y m (by omega) (ndBs_mem hd y hy)]
    | tuple xs =>
      rw [PyData.depth] at h
      rw [ndB] at hd
      simp [d__law_same, Df.fnT, b__law_same, isi, cmp_neB, zip_self]
      rw [lcLoop_ofm (fun x => PyData.tuple [x, x]) (fun _ => .bool true) rfl]
      · have hA := all_true xs
        simp only [Res.bind_ok, M.nf_fr, M.lookAll_d, M.lookAll_nil, Option.map_some, optR_some, hA]
        simp
      · intro y hy
        have := depth_le hy
        simp [sp_same wf n y m (by omega) (ndBs_mem hd y hy)]
    | none =>
      have hc : cmp .eq .none .none = some true := by decide
      simp [d__law_same, Df.fnT, b__law_same, isi, isNone, cmp_eqB, hc]
    | bool b => simp [d__law_same, Df.fnT, b__law_same, isi, isNone, cmp_eqB]
    | int i => simp [d__law_same, Df.fnT, b__law_same, isi, isNone]
    | str s => simp [d__law_same, Df.fnT, b__law_same, isi, isNone, cmp_eqB, cmp_eqS]
    | dict d => simp [ndB] at hd
end Ra.K3

set_option Elab.async false
set_option linter.all false
set_option maxRecDepth 100000
set_option maxHeartbeats 1600000
namespace Ra.K3
open PySem M _root_.K4
structure WT (P : List Sp) : Prop extends WQ P where
  nmok : ∀ s ∈ P, tagOk s.nm = true
theorem fl_ok : ∀ f ∈ FL, tagOk f = true := by decide +kernel
theorem WT.flag {P : List Sp} (h : WT P) {L : List Sp} (hs : ∀ s ∈ L, s ∈ P) : ∀ f ∈ setS (meetF L), tagOk f = true := fun f hf => by
  rw [mem_setS, mem_meet] at hf
  obtain ⟨s, h1, h2⟩ := hf
  exact fl_ok f (h.fl s (hs s h1) _ h2)
theorem lot_self {P : List Sp} (hP : WP P) {L : List Sp} (hs : ∀ s ∈ L, s ∈ P) (nd : L.Nodup) : lotO P (L.map Sp.nm) = some L := by
  have h1 : (L.map Sp.nm).all (fun t => (lookN P t).isSome) = true := by
    rw [List.all_eq_true]
    intro t ht
    obtain ⟨s, h, rfl⟩ := List.mem_map.mp ht
    rw [lookN_mem hP (hs s h)]
    rfl
  have h2 : (L.map Sp.nm).Nodup := by
    rw [List.Nodup, List.pairwise_map]
    exact nd.imp_of_mem fun {a b} ha hb hn e => hn (hP.inj (hs a ha) (hs b hb) e)
  have h3 : ∀ {M : List Sp}, (∀ s ∈ M, s ∈ P) → (M.map Sp.nm).filterMap (lookN P) = M := by
    intro M
    induction M with
    | nil => intro _; rfl
    | cons a M ih =>
      intro h
      rw [List.map_cons, List.filterMap_cons, lookN_mem hP (h a List.mem_cons_self)]
      simp only
      rw [ih fun s hs => h s (List.mem_cons_of_mem _ hs)]
  unfold lotO
  rw [if_pos ⟨h1, h2⟩, h3 hs]
structure ToldOk (P : List Sp) (k : Str) (L : List Sp) : Prop where
  hk : k = "twice" ∨ k = "ring"
  sub : ∀ s ∈ L, s ∈ P
  len : L.length ≤ 8
  is : isU P k (L.map Sp.nm) (setS (meetF L)) = true
theorem told_ok {P : List Sp} (hP : WQ P) {k : Str} {L : List Sp} (h : toldP P = some (k, L)) : ToldOk P k L := by
  unfold toldP at h
  split at h
  · rename_i a b hm
    cases h
    have hh := mk_hold hP.toWP hm
    obtain ⟨h1, h2, h3⟩ := mk_some hm
    have hs : ∀ s ∈ [a, b], s ∈ P := fun s q => (hh s q).1
    refine ⟨.inl rfl, hs, by simp, ?_⟩
    have hpw := (ris_pair.mp hP.ris).sublist (h1.map Sp.nm)
    have hlt : strLt a.nm b.nm = true := by
      simp only [List.map_cons, List.map_nil] at hpw
      exact (List.pairwise_cons.mp hpw).1 _ (by simp)
    unfold isU
    rw [lot_self hP.toWP hs (hP.toWP.nd.sublist h1)]
    simp only
    have ha : ([a, b].all fun s => decide (s ∈ live (setS (meetF [a, b])) P)) = true := by
      rw [List.all_eq_true]
      intro s q
      rw [decide_eq_true_eq]
      exact List.mem_filter.mpr (hh s q)
    rw [ris_setS, ha, if_neg (by decide)]
    simp [twoB, hlt, h2]
  · obtain ⟨r, hr, e⟩ := Option.map_eq_some_iff.mp h
    cases e
    obtain ⟨v, hv1, hv2⟩ := ring_of hr
    have hh := ring_hold hP.toWP hv2
    have hk := ringAt_ok hP.toWP hv2
    obtain ⟨hl, hs⟩ := ring_len hP hr
    refine ⟨.inr rfl, hs, hl, ?_⟩
    unfold isU
    rw [lot_self hP.toWP hs hk.nd]
    simp only
    have ha : (L.all fun s => decide (s ∈ live (setS (meetF L)) P)) = true := by
      rw [List.all_eq_true]
      intro s q
      rw [decide_eq_true_eq]
      exact List.mem_filter.mpr (hh s q)
    rw [ris_setS, ha, hk.cyc]
    simp
theorem sound_told {P : List Sp} : soundB P = (toldP P).isNone := by
  unfold soundB toldP
  cases mkP P with
  | some q => rfl
  | none => cases ringF P <;> rfl
theorem sound_a {P : List Sp} (hP : WQ P) (h : soundB P = true) : isU P "ring" ["a"] [] = false := by
  rw [Bool.eq_false_iff]
  intro hu
  unfold isU at hu
  split at hu
  · cases hu
  · rename_i L hL
    simp only [if_true, Bool.and_eq_true] at hu
    obtain ⟨_, h2, h3⟩ := hu
    have hb : RS (live [] P) := by
      obtain ⟨Q, q1, q2, q3⟩ := cyc_rs h3
      exact ⟨Q, q1, fun s hs => by simpa using List.all_eq_true.mp h2 s (q2 s hs), q3⟩
    exact (sound_spec hP).mp h [] (List.nil_sublist _) (.inr hb)
theorem cut_map {α β : Type} (f : α → β) (xs : List α) (lo hi : Option Int) : cut (xs.map f) lo hi = (cut xs lo hi).map f := by
  unfold cut
  rw [List.length_map, List.map_take, List.map_drop]
theorem cut_mem {α : Type} {xs : List α} {lo hi : Option Int} : ∀ x ∈ cut xs lo hi, x ∈ xs := fun x h => List.mem_of_mem_drop (List.mem_of_mem_take h)
theorem cut_len {α : Type} (xs : List α) (lo hi : Option Int) : (cut xs lo hi).length ≤ xs.length := by
  unfold cut
  rw [List.length_take, List.length_drop]
  omega
theorem slc_V (V : List Str) (lo hi : Option Int) : slc (encV V) lo hi = some (.d (encV (cut V lo hi))) := by
  show some (Val.d (.tuple (cut (V.map PyData.str) lo hi))) = _
  rw [cut_map]; rfl
theorem rev_V (V : List Str) : revd (encV V) = some (.d (encV V.reverse)) := by
  show some (Val.d (.tuple (V.map PyData.str).reverse)) = _
  rw [← List.map_reverse]; rfl
theorem add_V (V : List Str) (f : Str) (h : V.length < 100) : bop .add (encV V) (.tuple [.str f]) = some (.d (encV (V ++ [f]))) := by
  show (if (V.map PyData.str).length + [PyData.str f].length ≤ lim then some (Val.d (.tuple (V.map PyData.str ++ [.str f]))) else none) = _
  rw [if_pos (by rw [List.length_map, List.length_singleton]; simp [lim]; omega)]
  simp [encV]
mutual
theorem nd_lis : ∀ x, ndB x = true → ndB (lisD x) = true
  | .list xs, h => by rw [lisD, ndB]; exact nd_liss xs (by simpa [ndB] using h)
  | .tuple xs, h => by rw [lisD, ndB]; exact nd_liss xs (by simpa [ndB] using h)
  | .none, _ => by simp [lisD, ndB]
  | .bool _, _ => by simp [lisD, ndB]
  | .int _, _ => by simp [lisD, ndB]
  | .str _, _ => by simp [lisD, ndB]
  | .dict _, h => by simp [ndB] at h
theorem nd_liss : ∀ xs, ndBs xs = true → ndBs (lisDs xs) = true
  | [], _ => by simp [lisDs, ndBs]
  | x :: r, h => by
    rw [ndBs, Bool.and_eq_true] at h
    rw [lisDs, ndBs, nd_lis x h.1, nd_liss r h.2]
    rfl
end
theorem ndBs_of : ∀ {xs : List PyData}, (∀ x ∈ xs, ndB x = true) → ndBs xs = true
  | [], _ => by simp [ndBs]
  | y :: r, h => by
    rw [ndBs, Bool.and_eq_true]
    exact ⟨h y List.mem_cons_self, ndBs_of fun x hx => h x (List.mem_cons_of_mem _ hx)⟩
theorem nd_strs (V : List Str) : ndBs (V.map PyData.str) = true := ndBs_of fun x hx => by
  obtain ⟨s, _, rfl⟩ := List.mem_map.mp hx
  simp [ndB]
theorem nd_enc (s : Sp) : ndB (enc s) = true := by
  have h : ndBs (s.cd.map fun p => PyData.tuple [.str p.1, .int p.2]) = true := ndBs_of fun x hx => by
    obtain ⟨p, _, rfl⟩ := List.mem_map.mp hx
    simp [ndB, ndBs]
  simp [enc, encC, ndB, ndBs, nd_strs, h]
theorem nd_encP (P : List Sp) : ndB (encP P) = true := by
  rw [encP, ndB]
  exact ndBs_of fun x hx => by
    obtain ⟨s, _, rfl⟩ := List.mem_map.mp hx
    exact nd_enc s
structure It where
  k : Str
  ts : List Str
  fs : List Str
structure ItOk (i : It) : Prop where
  k : i.k = "twice" ∨ i.k = "ring"
  ts : ∀ t ∈ i.ts, tagOk t = true
  fs : ∀ t ∈ i.fs, tagOk t = true
  tl : i.ts.length < 100
  fl : i.fs.length < 100
def pool (k : Str) (N0 F N : List Str) : List It := [⟨k, N0, []⟩, ⟨k, N0, ["x", "y", "z"]⟩, ⟨k, N0.reverse, F⟩, ⟨"ring", N0, F⟩, ⟨"twice", cut N none (some 2), ["x"]⟩, ⟨"ring", N, ["y"]⟩, ⟨"ring", N.reverse, []⟩, ⟨"twice", cut N (some 1) (some 3), []⟩, ⟨k, N0, F ++ [("zz" : Str)]⟩]
theorem pool_ok {k : Str} {N0 F N : List Str} (hk : k = "twice" ∨ k = "ring") (h0 : ∀ t ∈ N0, tagOk t = true) (hF : ∀ t ∈ F, tagOk t = true) (hN : ∀ t ∈ N, tagOk t = true) (l0 : N0.length < 90) (lF : F.length < 90) (lN : N.length < 90) : ∀ i ∈ pool k N0 F N, ItOk i := by
  have fx : ∀ t ∈ (["x", "y", "z"] : List Str), tagOk t = true := by decide +kernel
  have fzz : tagOk "zz" = true := by decide +kernel
  have f1 : ∀ t ∈ (["x"] : List Str), tagOk t = true := by decide +kernel
  have f2 : ∀ t ∈ (["y"] : List Str), tagOk t = true := by decide +kernel
  have f0 : ∀ t ∈ ([] : List Str), tagOk t = true := by simp
  have c1 := cut_len N none (some 2)
  have c2 := cut_len N (some 1) (some 3)
  intro i hi
  simp only [pool, List.mem_cons, List.not_mem_nil, or_false] at hi
  rcases hi with rfl | rfl | rfl | rfl | rfl | rfl | rfl | rfl | rfl
  · exact ⟨hk, h0, f0, by simp; omega, by simp⟩
  · exact ⟨hk, h0, fx, by simp; omega, by simp⟩
  · exact ⟨hk, fun t ht => h0 t (by simpa using ht), hF, by simp; omega, by simp; omega⟩
  · exact ⟨.inr rfl, h0, hF, by simp; omega, by simp; omega⟩
  · exact ⟨.inl rfl, fun t ht => hN t (cut_mem t ht), f1, by simp only; omega, by simp⟩
  · exact ⟨.inr rfl, hN, f2, by simp; omega, by simp⟩
  · exact ⟨.inr rfl, fun t ht => hN t (by simpa using ht), f0, by simp; omega, by simp⟩
  · exact ⟨.inl rfl, fun t ht => hN t (cut_mem t ht), f0, by simp only; omega, by simp⟩
  · refine ⟨hk, h0, fun t ht => ?_, by simp; omega, by simp; omega⟩
    rcases List.mem_append.mp ht with q | q
    · exact hF t q
    · rw [List.mem_singleton.mp q]; exact fzz
@[simp] theorem t_callk (call : Call) (env : Env) (m : Mem) (es : List E) (f : Nat) (is : List Nat) : (sem call (.callk f is es)).t env m = ((sem call (.callk f is es)).v env m).bind truR := rfl
def cB (i : Nat) : S := b__law_case_right.getD i .bad
end Ra.K3

set_option Elab.async false
set_option linter.all false
set_option maxRecDepth 100000
set_option maxHeartbeats 800000
namespace Ra.K3
open PySem M _root_.K4
/-- the box of draws -/
def box (a b c : Int) : Cell := ⟨false, [.int a, .int b, .int c]⟩
def Bx (k N : Nat) (m : Mem) : Prop := ∃ a b c : Int, m[k]? = some (box a b c) ∧ 0 ≤ a ∧ 0 ≤ b ∧ b < 4611686018427387904 ∧ 0 ≤ c ∧ c ≤ N
/-- but for the box all cells are as they were -/
def Up (k : Nat) (m m' : Mem) : Prop := m'.length = m.length ∧ ∀ j, j ≠ k → m'[j]? = m[j]?
theorem Up.refl (k : Nat) (m : Mem) : Up k m m := ⟨rfl, fun _ _ => rfl⟩
theorem Up.trans {k : Nat} {m m' m'' : Mem} (a : Up k m m') (b : Up k m' m'') : Up k m m'' := ⟨b.1.trans a.1, fun j h => (b.2 j h).trans (a.2 j h)⟩
theorem Up.set (k : Nat) (m : Mem) (c : Cell) : Up k m (m.set k c) := ⟨List.length_set, fun j h => by rw [List.getElem?_set_ne (fun e => h e.symm)]⟩
theorem Bx.mono {k N N' : Nat} {m : Mem} (h : Bx k N m) (l : N ≤ N') : Bx k N' m := by
  obtain ⟨a, b, c, h1, h2, h3, h4, h5, h6⟩ := h
  exact ⟨a, b, c, h1, h2, h3, h4, h5, by omega⟩
theorem Bx.lt {k N : Nat} {m : Mem} (h : Bx k N m) : k < m.length := by
  obtain ⟨a, b, c, h1, _⟩ := h
  exact (List.getElem?_eq_some_iff.mp h1).1
theorem bx_set {k N : Nat} {m : Mem} {a b c : Int} (hk : k < m.length) (h2 : 0 ≤ a) (h3 : 0 ≤ b) (h4 : b < 4611686018427387904) (h5 : 0 ≤ c) (h6 : c ≤ N) : Bx k N (m.set k (box a b c)) :=
  ⟨a, b, c, List.getElem?_set_self hk, h2, h3, h4, h5, h6⟩
@[simp] theorem addI (i j : Int) : bop .add (.int i) (.int j) = some (.d (.int (i + j))) := rfl
@[simp] theorem subI (i j : Int) : bop .sub (.int i) (.int j) = some (.d (.int (i - j))) := rfl
theorem mulI {i j : Int} (h : small64 i = true ∨ small64 j = true) : bop .mul (.int i) (.int j) = some (.d (.int (i * j))) := by
  show (if (small64 i || small64 j) = true then _ else _) = _
  rw [if_pos (by rw [Bool.or_eq_true]; exact h)]
theorem modI {i j : Int} (h : j ≠ 0) : bop .mod (.int i) (.int j) = some (.d (.int (i.fmod j))) := by
  show (if j ≠ 0 then _ else _) = _
  rw [if_pos h]
theorem divI {i j : Int} (h : j ≠ 0 ∧ j.natAbs < 1073741824) : bop .fdiv (.int i) (.int j) = some (.d (.int (i.fdiv j))) := by
  show (if j ≠ 0 ∧ j.natAbs < 1073741824 then _ else _) = _
  rw [if_pos h]
theorem sm {i : Int} (h1 : -18446744073709551616 < i) (h2 : i < 18446744073709551616) : small64 i = true := by
  simp [small64, h1, h2]
theorem rdR_set {m : Mem} {k : Nat} {c : Cell} (hk : k < m.length) : rdR (m.set k c) (.mr k) = .ok (.list c.xs) (m.set k c) := rdR_mr _ (List.getElem?_set_self hk)
theorem idxL2 (a b c : PyData) (r : List PyData) : idx (.list (a :: b :: c :: r)) (.int 2) = some c := by
  have : (2 : Int) < r.length + 1 + 1 + 1 := by omega
  simp [idx, L2.atI, L2.ixN, this]
theorem fm {i j : Int} (h : 0 < j) : 0 ≤ i.fmod j ∧ i.fmod j < j := ⟨Int.fmod_nonneg_of_pos _ h, Int.fmod_lt_of_pos _ h⟩
theorem take_set (m : Mem) (k : Nat) (c : Cell) : (m.set k c).take m.length = m.set k c := List.take_of_length_le (by simp)
theorem sp_take (wf n k N : Nat) (m : Mem) (top : Int) (hB : Bx k N m) (hN : N < 1000000000000000) (h1 : 0 < top) (h2 : top < 1073741824) :
    ∃ (r : Int) (m' : Mem), run T wf (n + 1) 16 [.mr k, .d (.int top)] m = .ok (.d (.int r)) m' ∧ 0 ≤ r ∧ r < top ∧ Bx k (N + 1) m' ∧ Up k m m' := by
  obtain ⟨a, b, c, hm, ha, hb, hb2, hc, hc2⟩ := hB
  have hk : k < m.length := (List.getElem?_eq_some_iff.mp hm).1
  have hne : top ≠ 0 := by omega
  have hna : top ≠ 0 ∧ top.natAbs < 1073741824 := ⟨hne, by omega⟩
  rw [run_succ d__law_take.fnT rfl rfl (by decide)]
  have e0 : rdR m (.mr k) = .ok (.list [.int a, .int b, .int c]) m := rdR_mr m hm
  by_cases h0 : 0 < a
  · refine ⟨a.fmod top, m.set k (box (a.fdiv top) b c), ?_, (fm h1).1, (fm h1).2, bx_set hk ?_ hb hb2 hc (by omega), Up.set _ _ _⟩
    · simp [d__law_take, Df.fnT, b__law_take, e0, idxL0, h0, modI hne, divI hna]
      rw [upCell_mr (j := k) (h := by simp) (hm := hm) (ys := [.int (a.fdiv top), .int b, .int c]) (hf := by simp [putD, L2.ixN])]
      simp [box, take_set]
    · exact Int.fdiv_nonneg ha (by omega)
  · have ea : a = 0 := by omega
    subst ea
    obtain ⟨once, ho⟩ : ∃ z : Int, z = ((b + 48271 * (c + 1)) * (39373 + (c + 1))).fmod 2147483647 := ⟨_, rfl⟩
    obtain ⟨twice, ht⟩ : ∃ z : Int, z = ((once + (c + 1) + b.fdiv 1000003) * (once.fmod 40009 + 7)).fmod 2147483629 := ⟨_, rfl⟩
    refine ⟨(((twice * 48271 + once).fmod 2147483587).fdiv 64).fmod top, m.set k (box 0 b (c + 1)), ?_, (fm h1).1, (fm h1).2, bx_set hk (by omega) hb hb2 (by omega) (by omega), Up.set _ _ _⟩
    simp [d__law_take, Df.fnT, b__law_take, e0, idxL0, idxL2]
    rw [upCell_mr (j := k) (h := by simp) (hm := hm) (ys := [.int 0, .int b, .int (c + 1)]) (hf := by simp [putD, L2.ixN])]
    have e1 : rdR (m.set k ⟨false, [.int 0, .int b, .int (c + 1)]⟩) (.mr k) = .ok (.list [.int 0, .int b, .int (c + 1)]) (m.set k ⟨false, [.int 0, .int b, .int (c + 1)]⟩) := rdR_set hk
    simp [e1, idxL1, idxL2]
    rw [mulI (.inl (by decide))]
    simp [e1, idxL1, idxL2]
    rw [mulI (.inr (sm (by omega) (by omega)))]
    simp
    rw [modI (by decide), ← ho]
    simp
    rw [modI (by decide)]
    simp [e1, idxL1, idxL2]
    rw [divI ⟨by decide, by decide⟩]
    simp
    rw [mulI (.inr (by
      have := fm (i := once) (j := 40009) (by decide)
      exact sm (by omega) (by omega)))]
    simp
    rw [modI (by decide), ← ht]
    simp
    rw [mulI (.inr (by decide))]
    simp
    rw [modI (by decide)]
    simp
    rw [divI ⟨by decide, by decide⟩]
    simp [modI hne, box, take_set]
theorem atI_in {α : Type} {xs : List α} {r : Int} (h0 : 0 ≤ r) (h1 : r < xs.length) : ∃ y, L2.atI xs r = some y ∧ xs[r.toNat]? = some y ∧ y ∈ xs := by
  have hlt : r.toNat < xs.length := by omega
  refine ⟨xs[r.toNat], ?_, List.getElem?_eq_getElem hlt, List.getElem_mem hlt⟩
  unfold L2.atI L2.ixN
  simp [h0, h1, show ¬ r < 0 by omega]
theorem sp_of (wf n k N : Nat) (m : Mem) (v : Val) (d : PyData) (xs : List PyData) (hv : v.nf = v) (hvk : v ≠ .mr k) (hr : rd m v = some d) (hd : d = .list xs ∨ d = .tuple xs) (hB : Bx k N m) (hN : N < 1000000000000000) (h1 : 0 < xs.length) (h2 : xs.length < 1000000) :
    ∃ (y : PyData) (m' : Mem), run T wf (n + 2) 18 [.mr k, v] m = .ok (.d y) m' ∧ y ∈ xs ∧ Bx k (N + 1) m' ∧ Up k m m' := by
  rw [run_succ d__law_of.fnT rfl rfl (by decide)]
  obtain ⟨r, m', h3, h4, h5, h6, h7⟩ := sp_take wf n k N m xs.length hB hN (by omega) (by omega)
  have hr' : rd m' v = some d := by
    cases v with
    | mr j =>
      have hj : j ≠ k := fun e => hvk (by rw [e])
      show (m'[j]?).map _ = _
      rw [h7.2 j hj]
      exact hr
    | d x => exact hr
    | fr x => cases hv
    | dv x => cases hr
  obtain ⟨y, e1, _, e2⟩ := atI_in (xs := xs) h4 h5
  have e3 : rdR m' v = .ok d m' := by unfold rdR; rw [hr']; rfl
  have e4 : lookAll m [v] = some [d] := by
    show (match rd m v, lookAll m [] with | some x, some xs => some (x :: xs) | _, _ => none) = _
    rw [hr]; rfl
  refine ⟨y, m', ?_, e2, h6, h7⟩
  have e5 : lenD [d] = some (.d (.int xs.length)) := by rcases hd with rfl | rfl <;> rfl
  have e6 : idx d (.int r) = some y := by rcases hd with rfl | rfl <;> exact e1
  simp [d__law_of, Df.fnT, b__law_of, hv, e4, e5, h3, e3, e6, ← h7.1]
/-- old cells but for the box are as they were; new ones may have come -/
def Gr (k : Nat) (m m' : Mem) : Prop := m.length ≤ m'.length ∧ ∀ j, j < m.length → j ≠ k → m'[j]? = m[j]?
theorem Gr.refl (k : Nat) (m : Mem) : Gr k m m := ⟨Nat.le_refl _, fun _ _ _ => rfl⟩
theorem Gr.trans {k : Nat} {m m' m'' : Mem} (a : Gr k m m') (b : Gr k m' m'') : Gr k m m'' := ⟨Nat.le_trans a.1 b.1, fun j h1 h2 => (b.2 j (Nat.lt_of_lt_of_le h1 a.1) h2).trans (a.2 j h1 h2)⟩
theorem Up.gr {k : Nat} {m m' : Mem} (a : Up k m m') : Gr k m m' := ⟨Nat.le_of_eq a.1.symm, fun j _ h => a.2 j h⟩
theorem Gr.app (k : Nat) (m : Mem) (cs : List Cell) : Gr k m (m ++ cs) := ⟨by simp, fun j h _ => List.getElem?_append_left h⟩
theorem Gr.put {k : Nat} {m m' : Mem} (a : Gr k m m') {j : Nat} (c : Cell) (h : m.length ≤ j) : Gr k m (m'.set j c) := ⟨by simpa using a.1, fun i h1 h2 => by
  rw [List.getElem?_set_ne (by omega)]
  exact a.2 i h1 h2⟩
theorem Gr.up {k : Nat} {m m' : Mem} (a : Gr k m m') : Up k m (m'.take m.length) := by
  refine ⟨by rw [List.length_take]; have := a.1; omega, fun j h => ?_⟩
  rcases Nat.lt_or_ge j m.length with l | l
  · rw [List.getElem?_take_of_lt l]
    exact a.2 j l h
  · rw [List.getElem?_eq_none (by rw [List.length_take]; omega), List.getElem?_eq_none l]
theorem Bx.cut {k N L : Nat} {m : Mem} (h : Bx k N m) (hk : k < L) : Bx k N (m.take L) := by
  obtain ⟨a, b, c, h1, r⟩ := h
  exact ⟨a, b, c, by rw [List.getElem?_take_of_lt hk]; exact h1, r⟩
theorem Bx.app {k N : Nat} {m : Mem} (h : Bx k N m) (cs : List Cell) : Bx k N (m ++ cs) := by
  have hk := h.lt
  obtain ⟨a, b, c, h1, r⟩ := h
  exact ⟨a, b, c, by rw [List.getElem?_append_left hk]; exact h1, r⟩
theorem Bx.put {k N j : Nat} {m : Mem} (h : Bx k N m) (c : Cell) (hj : j ≠ k) : Bx k N (m.set j c) := by
  obtain ⟨a, b, d, h1, r⟩ := h
  exact ⟨a, b, d, by rw [List.getElem?_set_ne hj]; exact h1, r⟩
theorem at_new1 (m : Mem) (b c : Cell) (r : List Cell) : (m ++ b :: c :: r)[m.length + 1]? = some c := by
  rw [List.getElem?_append_right (by omega)]
  simp
theorem erase_perm {α : Type} {xs : List α} {i : Nat} {y : α} (h : xs[i]? = some y) : (y :: xs.eraseIdx i).Perm xs := L2.erase_perm xs i y h
theorem sp_pick (wf n k N s : Nat) (m : Mem) (pool : List PyData) (hB : Bx k N m) (hN : N + s < 1000000000000000) (hs : s ≤ pool.length) (hp : pool.length < 1000) :
    ∃ (ys : List PyData) (m' : Mem), run T wf (n + 2) 19 [.mr k, .d (.list pool), .d (.int s)] m = .ok (.fr ys) m' ∧ ys.length = s ∧ (∃ rest, (ys ++ rest).Perm pool) ∧ Bx k (N + s) m' ∧ Up k m m' := by
  have hk := hB.lt
  rw [run_succ d__law_pick.fnT rfl rfl (by decide)]
  obtain ⟨env', m', hf, e3, rest, lot, rfl, hl, hr, hlo, hpm, hlen, hB', hG⟩ := forLoop_inv (t := .nm 3) (body := exB (run T wf (n + 1)) wf [(.app 5 (.pop 4 (.call 16 [(.var 0), (.bi .len [(.var 4)])])))]) (gs := [])
    (fun i env m' => ∃ e3 rest lot, env = [some (.mr k), some (.d (.list pool)), some (.d (.int s)), e3, some (.mr m.length), some (.mr (m.length + 1))] ∧ m'.length = m.length + 2 ∧ m'[m.length]? = some ⟨false, rest⟩ ∧ m'[m.length + 1]? = some ⟨false, lot⟩ ∧
      (lot ++ rest).Perm pool ∧ lot.length = i ∧ Bx k (N + i) m' ∧ Gr k m m') (xs := rangeD 0 s) 0 (env := [some (.mr k), some (.d (.list pool)), some (.d (.int s)), none, some (.mr m.length), some (.mr (m.length + 1))]) (m := m ++ [⟨false, pool⟩, ⟨false, []⟩])
    (by
      rintro i x hx env m1 ⟨e3, rest, lot, rfl, hl, hr, hlo, hpm, hlen, hB1, hG⟩
      obtain ⟨rfl, hi⟩ := rangeD_at s 0 i x hx
      rw [Nat.zero_add] at hlen hB1 ⊢
      have hpl := hpm.length_eq
      rw [List.length_append] at hpl
      obtain ⟨r, m2, a1, a2, a3, a4, a5⟩ := sp_take wf n k (N + i) m1 rest.length hB1 (by omega) (by omega) (by omega)
      have hr2 : m2[m.length]? = some ⟨false, rest⟩ := (a5.2 _ (by omega)).trans hr
      have hlo2 : m2[m.length + 1]? = some ⟨false, lot⟩ := (a5.2 _ (by omega)).trans hlo
      obtain ⟨y, _, hy, _⟩ := atI_in (xs := rest) a2 a3
      have hlk : lookAll m1 [.mr m.length] = some [.list rest] := lookAll_mr _ hr _
      have hlen2 : m2.length = m.length + 2 := a5.1.trans hl
      refine ⟨[some (.mr k), some (.d (.list pool)), some (.d (.int s)), some (.d (.int i)), some (.mr m.length), some (.mr (m.length + 1))], [some (.mr k), some (.d (.list pool)), some (.d (.int s)), some (.d (.int i)), some (.mr m.length), some (.mr (m.length + 1))], (m2.set m.length ⟨false, rest.eraseIdx r.toNat⟩).set (m.length + 1) ⟨false, lot ++ [y]⟩, by simp, ?_, rfl, ⟨_, rest.eraseIdx r.toNat, lot ++ [y], rfl, ?_, ?_, ?_, ?_, ?_, ?_, ?_⟩⟩
      · simp
        rw [cPop_mr (k := m.length) (m1 := m2) (j := r) (xs := rest) (y := y) (by simp) (by simp [hlk, a1]) hr2 a2 (by omega) hy]
        simp
        rw [upCell_mr (j := m.length + 1) (xs := lot) (ys := lot ++ [y]) (h := by simp) (hm := by rw [List.getElem?_set_ne (by omega)]; exact hlo2) (hf := by
          have : lot.length < lim := by simp [lim]; omega
          simp [this])]
        simp
      · simp [hlen2]
      · rw [List.getElem?_set_ne (by omega), List.getElem?_set_self (by omega)]
      · rw [List.getElem?_set_self (by simp; omega)]
      · refine List.Perm.trans ?_ hpm
        rw [List.append_assoc]
        exact List.Perm.append_left _ (erase_perm hy)
      · simp [hlen]
      · have := (a4.put ⟨false, rest.eraseIdx r.toNat⟩ (show m.length ≠ k by omega)).put ⟨false, lot ++ [y]⟩ (show m.length + 1 ≠ k by omega)
        exact this
      · exact ((hG.trans a5.gr).put _ (Nat.le_refl _)).put _ (by omega))
    ⟨none, pool, [], rfl, by simp, at_new _ _ _, at_new1 _ _ _ _, by simp, rfl, hB.app _, Gr.app _ _ _⟩
  rw [Nat.zero_add, rangeD_len] at hlen hB'
  refine ⟨lot, m'.take m.length, ?_, hlen, ⟨rest, hpm⟩, hB'.cut hk, hG.up⟩
  have hlk : lookAll (m ++ [⟨false, pool⟩, ⟨false, []⟩]) [.mr m.length] = some [.list pool] := lookAll_mr _ (at_new _ _ _) _
  have hmin : (if (pool.length : Int) < s then (pool.length : Int) else s) = s := by rw [if_neg (by omega)]
  simp [d__law_pick, Df.fnT, b__law_pick]
  rw [hlk]
  simp [show ¬ pool.length < s by omega]
  rw [M.walk_range (by omega)]
  simp [hf]
  exact leave_new hlo (by omega)
end Ra.K3

set_option Elab.async false
set_option linter.all false
set_option maxRecDepth 100000
set_option maxHeartbeats 3200000
namespace Ra.K3
open PySem M _root_.K4
theorem enumD_at : ∀ (xs : List PyData) (s i : Nat) (x : PyData), (enumD s xs)[i]? = some x → ∃ y, xs[i]? = some y ∧ x = .tuple [.int ((s + i : Nat) : Int), y]
  | [], s, i, x, h => by simp [enumD] at h
  | y :: xs, s, 0, x, h => by
    simp [enumD] at h
    exact ⟨y, rfl, by rw [← h]; simp⟩
  | y :: xs, s, i + 1, x, h => by
    obtain ⟨z, h1, h2⟩ := enumD_at xs (s + 1) i x (by simpa [enumD] using h)
    exact ⟨z, by simpa using h1, by rw [h2, show s + 1 + i = s + (i + 1) by omega]⟩
theorem idx_int {cs : List Int} {c : Nat} (h : c < cs.length) : idx (.list (cs.map PyData.int)) (.int c) = some (.int cs[c]) := by
  show L2.atI _ _ = _
  unfold L2.atI L2.ixN
  simp [show (c : Int) < cs.length by omega, List.getElem?_eq_getElem h]
theorem sp_box (wf n k : Nat) (cs : List Int) (m : Mem) (hk : k < cs.length) (hc : cs.length ≤ 3) : ∃ a b : Int, run T wf (n + 1) 15 [.d (.list (cs.map PyData.int)), .d (.int k)] m = .ok (.fr [.int a, .int b, .int 0]) m ∧ 0 ≤ a ∧ 0 ≤ b ∧ b < 4611686018427387904 := by
  rw [run_succ d__law_box.fnT rfl rfl (by decide)]
  have hlt : (k : Int) < cs.length := by omega
  obtain ⟨g, hg⟩ : ∃ g : Int, cs[k] = g := ⟨_, rfl⟩
  have hp : bop .pow (.int 10) (.int 18) = some (.d (.int 1000000000000000000)) := by rfl
  have hm : ∀ (x : Int) (b : Bool), bop .mul (.int x) (.int (if b then 1 else 0)) = some (.d (.int (x * if b then 1 else 0))) := fun x b => mulI (.inr (by cases b <;> decide))
  have hmod : bop .mod (.int g) (.int 2305843009213693951) = some (.d (.int (g.fmod 2305843009213693951))) := modI (by decide)
  have hmk : bop .mul (.int 39373) (.int k) = some (.d (.int (39373 * k))) := mulI (.inl (by decide))
  have hf := fm (i := g) (j := 2305843009213693951) (by decide)
  refine ⟨(if g < 0 then -g else g) * (if decide (1000000000000000000 ≤ (if g < 0 then -g else g)) then 1 else 0), g.fmod 2305843009213693951 + 39373 * k + 923, ?_, ?_, by omega, by omega⟩
  · simp only [d__law_box, Df.fnT, b__law_box]
    simp only [List.length_cons, List.length_nil, List.map_cons, List.map_nil, M.exB_cons, M.x_set, M.v_ite, M.t_cmp, M.v_cmp, M.v_var, getV_succ, getV_zero, List.cons_append, List.nil_append, optR_some, Res.bind_ok, M.v_bi, M.cArgs_cons, M.cArgs_nil, nf_d, lookAll_d, lookAll_nil, Option.map_some, M.bi_len, M.len_list, List.length_map, rdR_d, M.cmp_ltI, hlt, decide_true, M.boolR_eq, M.truR_bool, if_true, M.v_idx, idx_int hk, hg, stored_f, Res.noX_ok]
    simp [hp, hm, hmod, hmk]
    have e := hm (if g < 0 then -g else g) (decide (1000000000000000000 ≤ (if g < 0 then -g else g)))
    simp only [decide_eq_true_eq] at e
    simp [e]
  · refine Int.mul_nonneg (by split <;> omega) (by split <;> omega)
theorem cut3 {α : Type} (xs : List α) : cut xs none (some 3) = xs.take 3 := by
  unfold cut
  rw [show (3 : Int) = ((3 : Nat) : Int) from rfl, HT.sIx_nat, HT.sIx_none, Nat.sub_zero, List.drop_zero]
  rcases Nat.le_total 3 xs.length with h | h
  · rw [Nat.min_eq_left h]
  · rw [Nat.min_eq_right h, List.take_of_length_le (Nat.le_refl _), List.take_of_length_le h]
theorem cutY {α : Type} (xs : List α) : (cut xs (some 3) (some 63) ≠ [] → 3 ≤ xs.length) ∧ (∀ y ∈ cut xs (some 3) (some 63), y ∈ xs) ∧ (cut xs (some 3) (some 63)).length ≤ 63 := by
  unfold cut
  rw [show (3 : Int) = ((3 : Nat) : Int) from rfl, show (63 : Int) = ((63 : Nat) : Int) from rfl, HT.sIx_nat, HT.sIx_nat]
  refine ⟨fun h => ?_, fun y hy => List.mem_of_mem_drop (List.mem_of_mem_take hy), by simp; omega⟩
  rcases Nat.lt_or_ge xs.length 3 with q | q
  · exfalso
    apply h
    rw [List.drop_of_length_le (by omega)]
    simp
  · exact q
def clB : List S := [(.set 5 false (.op .mod (.bi .int [(.var 3)]) (.var 1))), (.put 2 (.var 5) (.op .add (.idx (.var 2) (.var 5)) (.op .mul (.var 4) (.op .add (.var 3) (.cst (.int 2))))))]
theorem cl_step (wf n : Nat) (sc : PyData) (cs : List Int) (m : Mem) (i : Nat) (hi : i < 63) (g : Int) (hc : cs.length = 3) (e5 : Option Val) : ∃ (e5' : Option Val) (cs' : List Int), exB (run T wf n) wf clB [some (.d sc), some (.d (.int 3)), some (.mr m.length), some (.d (.int i)), some (.d (.int g)), e5] (m ++ [⟨false, cs.map PyData.int⟩]) =
    .ok (.next [some (.d sc), some (.d (.int 3)), some (.mr m.length), some (.d (.int i)), some (.d (.int g)), e5']) (m ++ [⟨false, cs'.map PyData.int⟩]) ∧ cs'.length = 3 := by
  have hf := fm (i := (i : Int)) (j := 3) (by decide)
  obtain ⟨r, hr⟩ : ∃ r : Nat, (i : Int).fmod 3 = r := ⟨((i : Int).fmod 3).toNat, by omega⟩
  have hr3 : r < cs.length := by omega
  have hmod : bop .mod (.int i) (.int 3) = some (.d (.int r)) := by rw [modI (by decide), hr]
  have hmul : bop .mul (.int g) (.int ((i : Int) + 2)) = some (.d (.int (g * ((i : Int) + 2)))) := mulI (.inr (sm (by omega) (by omega)))
  have hrd : rdR (m ++ [⟨false, cs.map PyData.int⟩]) (.mr m.length) = .ok (.list (cs.map PyData.int)) (m ++ [⟨false, cs.map PyData.int⟩]) := rdR_mr _ (at_new _ _ _)
  refine ⟨some (.d (.int r)), cs.set r (cs[r] + g * ((i : Int) + 2)), ?_, by simp [hc]⟩
  have hup : ∀ env : Env, getV env 2 = some (.mr m.length) → upCell env 2 (putD (.int r) (.int (cs[r] + g * ((i : Int) + 2)))) (m ++ [⟨false, cs.map PyData.int⟩]) = .ok (.next env) (m ++ [⟨false, (cs.set r (cs[r] + g * ((i : Int) + 2))).map PyData.int⟩]) := by
    intro env h
    rw [upCell_mr _ _ (j := m.length) (xs := cs.map PyData.int) (ys := (cs.set r (cs[r] + g * ((i : Int) + 2))).map PyData.int) h (at_new _ _ _) (by
      show (L2.ixN (cs.map PyData.int).length r).map _ = _
      unfold L2.ixN
      simp [show (r : Int) < cs.length by omega, List.map_set]), set_new]
  have s1 : exS (run T wf n) wf (.set 5 false (.op .mod (.bi .int [(.var 3)]) (.var 1))) [some (.d sc), some (.d (.int 3)), some (.mr m.length), some (.d (.int i)), some (.d (.int g)), e5] (m ++ [⟨false, cs.map PyData.int⟩]) = .ok (.next [some (.d sc), some (.d (.int 3)), some (.mr m.length), some (.d (.int i)), some (.d (.int g)), some (.d (.int r))]) (m ++ [⟨false, cs.map PyData.int⟩]) := by
    simp [hmod]
  have s2 : exS (run T wf n) wf (.put 2 (.var 5) (.op .add (.idx (.var 2) (.var 5)) (.op .mul (.var 4) (.op .add (.var 3) (.cst (.int 2)))))) [some (.d sc), some (.d (.int 3)), some (.mr m.length), some (.d (.int i)), some (.d (.int g)), some (.d (.int r))] (m ++ [⟨false, cs.map PyData.int⟩]) = .ok (.next [some (.d sc), some (.d (.int 3)), some (.mr m.length), some (.d (.int i)), some (.d (.int g)), some (.d (.int r))]) (m ++ [⟨false, (cs.set r (cs[r] + g * ((i : Int) + 2))).map PyData.int⟩]) := by
    have hix := idx_int hr3
    have hu := hup [some (.d sc), some (.d (.int 3)), some (.mr m.length), some (.d (.int i)), some (.d (.int g)), some (.d (.int r))] (by simp)
    rw [M.x_put]
    simp only [M.v_op, M.v_idx, M.v_var, getV_succ, getV_zero, optR_some, Res.bind_ok, nf_mr, nf_d, hrd, rdR_d, hix, M.v_cst, addI, hmul, frz_d, Res.noX_ok]
    rw [onCell_mr (j := m.length) (h := by simp)]
    exact hu
  rw [clB, M.exB_cons, s1, Res.bind_ok, nextF_next, M.exB_cons, s2, Res.bind_ok, nextF_next, M.exB_nil]
theorem sp_cells (wf n : Nat) (ns : List Int) (h63 : ns.length ≤ 63) (m : Mem) : ∃ cs : List Int, run T wf (n + 1) 17 [.d (.list (ns.map PyData.int)), .d (.int 3)] m = .ok (.fr (cs.map PyData.int)) m ∧ 0 < cs.length ∧ cs.length ≤ 3 := by
  rw [run_succ d__law_cells.fnT rfl rfl (by decide)]
  obtain ⟨Y, hY⟩ : ∃ z, z = cut (ns.map PyData.int) (some 3) (some 63) := ⟨_, rfl⟩
  obtain ⟨y1, y2, y3⟩ := cutY (ns.map PyData.int)
  rw [← hY] at y1 y2 y3
  obtain ⟨c0, hc0⟩ : ∃ z : List Int, z = if ns = [] then [0] else ns.take 3 := ⟨_, rfl⟩
  have hc0l : 0 < c0.length ∧ c0.length ≤ 3 ∧ (Y ≠ [] → c0.length = 3) := by
    by_cases hn : ns = []
    · rw [hc0, if_pos hn]
      refine ⟨by simp, by simp, fun h => ?_⟩
      have := y1 h
      rw [hn] at this
      simp at this
    · have := List.length_pos_iff.mpr hn
      rw [hc0, if_neg hn]
      refine ⟨by simp; omega, by simp; omega, fun h => ?_⟩
      have := y1 h
      rw [List.length_map] at this
      simp; omega
  obtain ⟨env', m', h1, e3, e4, e5, cs, rfl, rfl, h2⟩ := forLoop_inv (t := .tp [.nm 3, .nm 4]) (body := exB (run T wf n) wf clB) (gs := [])
    (fun i env m' => ∃ e3 e4 e5 cs, env = [some (.d (.list (ns.map PyData.int))), some (.d (.int 3)), some (.mr m.length), e3, e4, e5] ∧ m' = m ++ [⟨false, cs.map PyData.int⟩] ∧ cs.length = c0.length) (xs := enumD 0 Y) 0 (env := [some (.d (.list (ns.map PyData.int))), some (.d (.int 3)), some (.mr m.length), none, none, none]) (m := m ++ [⟨false, c0.map PyData.int⟩]) (by
      rintro i x hx env m' ⟨e3, e4, e5, cs, rfl, rfl, h2⟩
      obtain ⟨y, hy, rfl⟩ := enumD_at Y 0 i x hx
      obtain ⟨g, _, rfl⟩ := List.mem_map.mp (y2 y (List.mem_of_getElem? hy))
      have hi : i < 63 := by
        have := (List.getElem?_eq_some_iff.mp hy).1
        omega
      have hne : Y ≠ [] := fun e => by rw [e] at hy; simp at hy
      obtain ⟨e5', cs', q1, q2⟩ := cl_step wf n (.list (ns.map PyData.int)) cs m i hi g (by rw [h2]; exact hc0l.2.2 hne) e5
      exact ⟨[some (.d (.list (ns.map PyData.int))), some (.d (.int 3)), some (.mr m.length), some (.d (.int i)), some (.d (.int g)), e5], _, _, by simp, q1, rfl, _, _, e5', cs', rfl, rfl, by rw [q2, hc0l.2.2 hne]⟩)
    ⟨none, none, none, c0, rfl, rfl, rfl⟩
  refine ⟨cs, ?_, by omega, by omega⟩
  have s1 : exS (run T wf n) wf (.set 2 true (.bor [(.bi .list [(.slU (.var 0) (.var 1))]), (.lst [(.cst (.int 0))])])) [some (.d (.list (ns.map PyData.int))), some (.d (.int 3)), none, none, none, none] m = .ok (.next [some (.d (.list (ns.map PyData.int))), some (.d (.int 3)), some (.mr m.length), none, none, none]) (m ++ [⟨false, c0.map PyData.int⟩]) := by
    have e1 : slc (.list (ns.map PyData.int)) none (some 3) = some (.fr ((ns.take 3).map PyData.int)) := by
      simp only [slc, cut3, List.map_take]
    by_cases hn : ns = []
    · subst hn
      simp [hc0, slc, cut3]
    · have : (ns.take 3).map PyData.int ≠ [] := by
        cases ns with
        | nil => exact absurd rfl hn
        | cons a b => simp
      simp [e1, hc0, hn]
  rw [show d__law_cells.fnT.body = [(.set 2 true (.bor [(.bi .list [(.slU (.var 0) (.var 1))]), (.lst [(.cst (.int 0))])])), (.for (.tp [(.nm 3), (.nm 4)]) .enum [(.slLU (.var 0) (.var 1) (.cst (.int 63)))] clB), (.ret (.var 2))] from rfl]
  rw [show (List.map some [Val.d (.list (ns.map PyData.int)), .d (.int 3)] ++ List.replicate (d__law_cells.fnT.n - d__law_cells.fnT.ps) none) = [some (.d (.list (ns.map PyData.int))), some (.d (.int 3)), none, none, none, none] from rfl]
  rw [M.exB_cons, s1, Res.bind_ok, nextF_next]
  simp [slc, ← hY, h1]
  rw [leave_new (at_new _ _ _) (Nat.le_refl _)]
  simp
end Ra.K3

set_option Elab.async false
set_option linter.all false
set_option maxRecDepth 100000
set_option maxHeartbeats 1600000
namespace Ra.K3
open PySem M _root_.K4
theorem perm_map {α β : Type} (f : α → β) : ∀ {l l' : List β}, l.Perm l' → ∀ xs : List α, l' = xs.map f → ∃ ys : List α, ys.Perm xs ∧ l = ys.map f := by
  intro l l' p
  induction p with
  | nil =>
    intro xs h
    exact ⟨[], by rw [List.map_eq_nil_iff.mp h.symm], rfl⟩
  | cons x p ih =>
    intro xs h
    cases xs with
    | nil => cases h
    | cons a xs =>
      rw [List.map_cons, List.cons.injEq] at h
      obtain ⟨ys, q, e⟩ := ih xs h.2
      exact ⟨a :: ys, q.cons a, by rw [List.map_cons, e, h.1]⟩
  | swap x y l =>
    intro xs h
    cases xs with
    | nil => cases h
    | cons a xs =>
      cases xs with
      | nil => cases h
      | cons b xs =>
        rw [List.map_cons, List.map_cons, List.cons.injEq, List.cons.injEq] at h
        exact ⟨b :: a :: xs, .swap a b xs, by rw [List.map_cons, List.map_cons, h.1, h.2.1, h.2.2]⟩
  | trans p q ih1 ih2 =>
    intro xs h
    obtain ⟨ys, a, e⟩ := ih2 xs h
    obtain ⟨zs, b, e2⟩ := ih1 ys e
    exact ⟨zs, b.trans a, e2⟩

theorem draw_on (wf n k j : Nat) (env : Env) (hE : ∀ x, ∃ env', asg (.nm j) x env = some env' ∧ getV env' j = some (.d x) ∧ getV env' 0 = some (.mr k)) : ∀ (ns : List Str) (N : Nat) (m : Mem), Bx k N m → N + ns.length < 10000000 →
    ∃ (cd : List (Str × Int)) (m' : Mem), lcLoop (.nm j) (sems (run T wf (n + 2)) []) (sem (run T wf (n + 2)) (.tup [(.var j), (.call 16 [(.var 0), (.cst (.int 2))])])) [] env (ns.map PyData.str) m = .ok (cd.map encPr) m' ∧ cd.map (·.1) = ns ∧ (∀ p ∈ cd, p.2 = 0 ∨ p.2 = 1) ∧ Bx k (N + ns.length) m' ∧ Up k m m'
  | [], N, m, hB, _ => ⟨[], m, rfl, rfl, by simp, by simpa using hB, Up.refl _ _⟩
  | s :: ns, N, m, hB, hN => by
    rw [List.length_cons] at hN
    obtain ⟨env', h1, h2, h3⟩ := hE (.str s)
    obtain ⟨r, m1, a1, a2, a3, a4, a5⟩ := sp_take wf (n + 1) k N m 2 hB (by omega) (by omega) (by omega)
    obtain ⟨cd, m', b1, b2, b3, b4, b5⟩ := draw_on wf n k j env hE ns (N + 1) m1 a4 (by omega)
    refine ⟨(s, r) :: cd, m', ?_, by simp [b2], ?_, by rw [List.length_cons, show N + (ns.length + 1) = N + 1 + ns.length by omega]; exact b4, a5.trans b5⟩
    · rw [List.map_cons]
      unfold lcLoop
      rw [h1]
      simp [h2, h3, a1, b1, encPr]
    · intro p hp
      rcases List.mem_cons.mp hp with rfl | hp
      · simp only
        omega
      · exact b3 p hp
theorem draw_of (wf n k j : Nat) (env : Env) (pool : List Str) (hp : 0 < pool.length ∧ pool.length < 1000) (hE : ∀ x, ∃ env', asg (.nm j) x env = some env' ∧ getV env' 4 = some (.d (.list (pool.map PyData.str))) ∧ getV env' 0 = some (.mr k)) : ∀ (c : Nat) (lo : Int) (N : Nat) (m : Mem), Bx k N m → N + c < 10000000 →
    ∃ (rs : List Str) (m' : Mem), lcLoop (.nm j) (sems (run T wf (n + 2)) []) (sem (run T wf (n + 2)) (.call 18 [(.var 0), (.var 4)])) [] env (rangeD lo c) m = .ok (rs.map PyData.str) m' ∧ rs.length = c ∧ Bx k (N + c) m' ∧ Up k m m'
  | 0, lo, N, m, hB, _ => ⟨[], m, rfl, rfl, by simpa using hB, Up.refl _ _⟩
  | c + 1, lo, N, m, hB, hN => by
    obtain ⟨env', h1, h2, h3⟩ := hE (.int lo)
    obtain ⟨y, m1, a1, a2, a4, a5⟩ := sp_of wf n k N m (.d (.list (pool.map PyData.str))) (.list (pool.map PyData.str)) (pool.map PyData.str) rfl (by simp) rfl (.inl rfl) hB (by omega) (by rw [List.length_map]; exact hp.1) (by rw [List.length_map]; omega)
    obtain ⟨s, _, rfl⟩ := List.mem_map.mp a2
    obtain ⟨rs, m', b1, b2, b4, b5⟩ := draw_of wf n k j env pool hp hE c (lo + 1) (N + 1) m1 a4 (by omega)
    refine ⟨s :: rs, m', ?_, by simp [b2], by rw [show N + (c + 1) = N + 1 + c by omega]; exact b4, a5.trans b5⟩
    unfold rangeD lcLoop
    rw [h1]
    simp [h2, h3, a1, b1]
theorem sort_prs (cd : List (Str × Int)) : ∃ cd' : List (Str × Int), cd'.Perm cd ∧ sortD (cd.map encPr) = some (cd'.map encPr) := by
  obtain ⟨cd', h1, h2⟩ := perm_map encPr (isort_perm (cd.map encPr) []) cd rfl
  refine ⟨cd', h1, ?_⟩
  unfold sortD
  have g1 : allAlike (cd.map encPr) = true := by
    unfold allAlike
    rw [List.all_eq_true]
    intro x hx
    rw [List.all_eq_true]
    intro y hy
    obtain ⟨a, _, rfl⟩ := List.mem_map.mp hx
    obtain ⟨b, _, rfl⟩ := List.mem_map.mp hy
    simp [encPr, PySem.W.alike, PySem.W.alikeAll]
  have g2 : sortable (cd.map encPr) = true := by
    unfold sortable
    have : (cd.map encPr).all isTupC = true := by
      rw [List.all_eq_true]
      intro x hx
      obtain ⟨a, _, rfl⟩ := List.mem_map.mp hx
      rfl
    rw [this]
    rfl
  have g3 : PyData.depthAll (cd.map encPr) ≤ 64 := depthAll_le fun x hx => by
    obtain ⟨a, _, rfl⟩ := List.mem_map.mp hx
    simp [encPr, PyData.depth, PyData.depthAll]
  rw [if_pos (by rw [g1, g2, decide_eq_true g3]; rfl), h2]
structure CdOk (cd : List (Str × Int)) : Prop where
  ok : OkC cd
  l : cd.length ≤ 8
  f : ∀ p ∈ cd, p.1 ∈ FL
theorem CdOk.perm {cd cd' : List (Str × Int)} (h : CdOk cd) (p : cd'.Perm cd) : CdOk cd' := ⟨⟨(p.map _).nodup_iff.mpr h.ok.nd, fun q hq => h.ok.bit q (p.mem_iff.mp hq)⟩, by rw [p.length_eq]; exact h.l, fun q hq => h.f q (p.mem_iff.mp hq)⟩
/-- a condition is drawn -/
theorem draw_cond (wf n k N j : Nat) (m : Mem) (env : Env) (pool : List Str) (hpn : pool.Nodup) (hpf : ∀ p ∈ pool, p ∈ FL) (hpl : 2 ≤ pool.length ∧ pool.length ≤ 3) (h0 : getV env 0 = some (.mr k)) (src : E) (hsrc : ∀ m, (sem (run T wf (n + 2)) src).v env m = .ok (.fr (pool.map PyData.str)) m)
    (hE : ∀ x, ∃ env', asg (.nm j) x (wipe env [j]) = some env' ∧ getV env' j = some (.d x) ∧ getV env' 0 = some (.mr k)) (hB : Bx k N m) (hN : N < 1000000) :
    ∃ (cd : List (Str × Int)) (m' : Mem), (sem (run T wf (n + 2)) (.lc [j] (.nm j) .seq [(.call 19 [(.var 0), src, (.call 16 [(.var 0), (.cst (.int 3))])])] [] (.tup [(.var j), (.call 16 [(.var 0), (.cst (.int 2))])]))).v env m = .ok (.fr (cd.map encPr)) m' ∧ CdOk cd ∧ Bx k (N + 8) m' ∧ Up k m m' := by
  obtain ⟨r, m1, a1, a2, a3, a4, a5⟩ := sp_take wf (n + 1) k N m 3 hB (by omega) (by omega) (by omega)
  obtain ⟨s, rfl⟩ : ∃ c : Nat, r = c := ⟨r.toNat, by omega⟩
  obtain ⟨ys, m2, b1, b2, ⟨rest, b3⟩, b4, b5⟩ := sp_pick wf n k (N + 1) s m1 (pool.map PyData.str) a4 (by omega) (by rw [List.length_map]; omega) (by rw [List.length_map]; omega)
  obtain ⟨ns', hp', en⟩ := perm_map PyData.str b3 pool rfl
  have ey : ys = (ns'.take s).map PyData.str := by
    rw [List.map_take, ← en, ← b2, List.take_left]
  have hnd : (ns'.take s).Nodup := (hp'.nodup_iff.mpr hpn).sublist (List.take_sublist _ _)
  have hnf : ∀ x ∈ ns'.take s, x ∈ FL := fun x hx => hpf x (hp'.mem_iff.mp (List.mem_of_mem_take hx))
  have hnl : (ns'.take s).length ≤ 3 := by
    rw [List.length_take, hp'.length_eq]
    omega
  generalize ns'.take s = ns at ey hnd hnf hnl
  subst ey
  obtain ⟨cd, m3, c1, c2, c3, c4, c5⟩ := draw_on wf n k j (wipe env [j]) hE ns (N + 1 + s) m2 b4 (by omega)
  refine ⟨cd, m3, ?_, ⟨⟨by rw [c2]; exact hnd, c3⟩, ?_, fun p hp => hnf p.1 (by rw [← c2]; exact List.mem_map.mpr ⟨p, hp, rfl⟩)⟩, c4.mono (by omega), (a5.trans b5).trans c5⟩
  · simp [h0, hsrc, a1, b1]
    simp at c1
    rw [c1]
    simp
  · have := congrArg List.length c2
    rw [List.length_map] at this
    omega
end Ra.K3

set_option Elab.async false
set_option linter.all false
set_option maxRecDepth 100000
set_option maxHeartbeats 1600000
namespace Ra.K3
open PySem M _root_.K4
structure FJ (k N : Nat) (m0 : Mem) (nms : List Str) (i : Nat) (m : Mem) (found : List Sp) : Prop where
  len : m.length = m0.length + 1
  c : m[m0.length]? = some ⟨false, found.map enc⟩
  nm : found.map Sp.nm = nms.take i
  ok : ∀ s ∈ found, CdOk s.cd
  B : Bx k (N + 20 * i) m
  G : Gr k m0 m
def LET8 : List Str := ["a", "b", "c", "d", "e", "f", "g", "h"]
theorem let_idx (i : Nat) (h : i < 8) : idx (.str "abcdefgh") (.int (i : Int)) = (LET8[i]?).map PyData.str := by
  have : i = 0 ∨ i = 1 ∨ i = 2 ∨ i = 3 ∨ i = 4 ∨ i = 5 ∨ i = 6 ∨ i = 7 := by omega
  rcases this with rfl | rfl | rfl | rfl | rfl | rfl | rfl | rfl <;> rfl
def P5 : List Str := ["f", "g", "h", "k", "in"]
def wdB : List S := [(.set 5 false (.lc [7] (.nm 7) .seq [(.call 19 [(.var 0), (.lst [(.cst (.str "x")), (.cst (.str "y")), (.cst (.str "z"))]), (.call 16 [(.var 0), (.cst (.int 3))])])] [] (.tup [(.var 7), (.call 16 [(.var 0), (.cst (.int 2))])]))), (.set 6 false (.bi .tuple [(.lc [8] (.nm 8) .range [(.call 16 [(.var 0), (.cst (.int 3))])] [] (.call 18 [(.var 0), (.var 4)]))])), (.app 3 (.tup [(.idx (.cst (.str "abcdefgh")) (.var 2)), (.call 18 [(.var 0), (.lst [(.cst (.str "m")), (.cst (.str "n"))])]), (.var 6), (.call 18 [(.var 0), (.slU (.var 4) (.cst (.int 4)))]), (.bi .tuple [(.bi .sorted [(.var 5)])])]))]
theorem FJ.push {k N : Nat} {m0 : Mem} {nms : List Str} {i : Nat} {m m' : Mem} {found : List Sp} (J : FJ k N m0 nms i m found) (hk : k < m0.length) (hu : Up k m m') (hB : Bx k (N + 20 * i + 20) m') (s : Sp) (hs : nms[i]? = some s.nm) (hc : CdOk s.cd) : FJ k N m0 nms (i + 1) (m'.set m0.length ⟨false, found.map enc ++ [enc s]⟩) (found ++ [s]) := by
  have hl : m'.length = m0.length + 1 := hu.1.trans J.len
  refine ⟨by simp [hl], by rw [List.getElem?_set_self (by omega)]; simp, ?_, fun t ht => ?_, ?_, ?_⟩
  · rw [List.map_append, J.nm, List.map_cons, List.map_nil, List.take_succ, hs]
    rfl
  · rcases List.mem_append.mp ht with q | q
    · exact J.ok t q
    · rw [List.mem_singleton.mp q]; exact hc
  · exact (hB.put _ (by omega)).mono (by omega)
  · exact (J.G.trans hu.gr).put _ (Nat.le_refl _)
theorem FJ.keep {k N : Nat} {m0 : Mem} {nms : List Str} {i : Nat} {m m' : Mem} {found : List Sp} (J : FJ k N m0 nms i m found) (hk : k < m0.length) (hu : Up k m m') : m'[m0.length]? = some ⟨false, found.map enc⟩ := (hu.2 _ (by omega)).trans J.c
theorem found_len {k N : Nat} {m0 : Mem} {nms : List Str} {i : Nat} {m : Mem} {found : List Sp} (J : FJ k N m0 nms i m found) : found.length ≤ i := by
  have := congrArg List.length J.nm
  rw [List.length_map, List.length_take] at this
  omega
abbrev env9 (k L : Nat) (many : Int) (e2 e5 e6 : Option Val) : Env := [some (.mr k), some (.d (.int many)), e2, some (.mr L), some (.d (.list (P5.map PyData.str))), e5, e6, none, none]
theorem wd_step (wf n k N : Nat) (m0 m : Mem) (hk : k < m0.length) (many : Int) (i : Nat) (hi : i < 5) (found : List Sp) (J : FJ k N m0 LET8 i m found) (hN : N < 10000) (e5' e6' : Option Val) :
    ∃ f5 f6 m' found', exB (run T wf (n + 2)) wf wdB (env9 k m0.length many (some (.d (.int i))) e5' e6') m = .ok (.next (env9 k m0.length many (some (.d (.int i))) f5 f6)) m' ∧ FJ k N m0 LET8 (i + 1) m' found' := by
  obtain ⟨cd, m1, a1, a2, a3, a4⟩ := draw_cond wf n k (N + 20 * i) 7 m (env9 k m0.length many (some (.d (.int i))) e5' e6') FL (by decide +kernel) (fun p hp => hp) (by decide) rfl (.lst [(.cst (.str "x")), (.cst (.str "y")), (.cst (.str "z"))]) (fun m => by simp [FL]) (fun x => ⟨_, by simp; rfl, by simp, by simp⟩) J.B (by omega)
  have s1 : exS (run T wf (n + 2)) wf (.set 5 false (.lc [7] (.nm 7) .seq [(.call 19 [(.var 0), (.lst [(.cst (.str "x")), (.cst (.str "y")), (.cst (.str "z"))]), (.call 16 [(.var 0), (.cst (.int 3))])])] [] (.tup [(.var 7), (.call 16 [(.var 0), (.cst (.int 2))])]))) (env9 k m0.length many (some (.d (.int i))) e5' e6') m = .ok (.next (env9 k m0.length many (some (.d (.int i))) (some (.d (.list (cd.map encPr)))) e6')) m1 := by
    rw [M.x_set, a1]
    simp
  obtain ⟨r, m2, b1, b2, b3, b4, b5⟩ := sp_take wf (n + 1) k (N + 20 * i + 8) m1 3 a3 (by omega) (by omega) (by omega)
  obtain ⟨c, rfl⟩ : ∃ c : Nat, r = c := ⟨r.toNat, by omega⟩
  obtain ⟨rs, m3, c1, c2, c4, c5⟩ := draw_of wf n k 8 (wipe (env9 k m0.length many (some (.d (.int i))) (some (.d (.list (cd.map encPr)))) e6') [8]) P5 (by decide) (fun x => ⟨_, by simp; rfl, by simp, by simp⟩) c 0 (N + 20 * i + 8 + 1) m2 b4 (by omega)
  have s2 : exS (run T wf (n + 2)) wf (.set 6 false (.bi .tuple [(.lc [8] (.nm 8) .range [(.call 16 [(.var 0), (.cst (.int 3))])] [] (.call 18 [(.var 0), (.var 4)]))])) (env9 k m0.length many (some (.d (.int i))) (some (.d (.list (cd.map encPr)))) e6') m1 = .ok (.next (env9 k m0.length many (some (.d (.int i))) (some (.d (.list (cd.map encPr)))) (some (.d (.tuple (rs.map PyData.str)))))) m3 := by
    have hw := M.walk_range (n := c) (by omega)
    generalize rangeD 0 c = rr at c1 hw
    simp at c1
    simp [b1, hw, c1]
  obtain ⟨ym, m4, d1, d2, d3, d4⟩ := sp_of wf n k (N + 20 * i + 8 + 1 + c) m3 (.d (.list [.str "m", .str "n"])) (.list [.str "m", .str "n"]) [.str "m", .str "n"] rfl (by simp) rfl (.inl rfl) c4 (by omega) (by simp) (by simp)
  obtain ⟨me, rfl⟩ : ∃ s, ym = .str s := by
    simp only [List.mem_cons, List.not_mem_nil, or_false] at d2
    rcases d2 with rfl | rfl <;> exact ⟨_, rfl⟩
  obtain ⟨ys, m5, f1, f2, f3, f4⟩ := sp_of wf n k (N + 20 * i + 8 + 1 + c + 1) m4 (.d (.list ((P5.take 4).map PyData.str))) (.list ((P5.take 4).map PyData.str)) ((P5.take 4).map PyData.str) rfl (by simp) rfl (.inl rfl) d3 (by omega) (by simp [P5]) (by simp [P5])
  obtain ⟨sh, _, rfl⟩ := List.mem_map.mp f2
  obtain ⟨cd', hp, hsd⟩ := sort_prs cd
  have hU : Up k m m5 := (((a4.trans b5).trans c5).trans d4).trans f4
  have hli := let_idx i (by omega)
  obtain ⟨nm, hnm⟩ : ∃ nm, LET8[i]? = some nm := ⟨LET8[i]'(by simp [LET8]; omega), List.getElem?_eq_getElem _⟩
  rw [hnm] at hli
  have hsl : slc (.list (P5.map PyData.str)) none (some 4) = some (.fr ((P5.take 4).map PyData.str)) := by rfl
  have hev : (sem (run T wf (n + 2)) (.tup [(.idx (.cst (.str "abcdefgh")) (.var 2)), (.call 18 [(.var 0), (.lst [(.cst (.str "m")), (.cst (.str "n"))])]), (.var 6), (.call 18 [(.var 0), (.slU (.var 4) (.cst (.int 4)))]), (.bi .tuple [(.bi .sorted [(.var 5)])])])).v (env9 k m0.length many (some (.d (.int i))) (some (.d (.list (cd.map encPr)))) (some (.d (.tuple (rs.map PyData.str))))) m3 = .ok (.d (enc ⟨nm, me, rs, sh, cd'⟩)) m5 := by
    have hli' : idx (.str "abcdefgh") (.int i) = some (.str nm) := hli
    generalize (P5.take 4).map PyData.str = q4 at *
    simp [hli', d1, hsl, f1, sortedD, hsd]
    rfl
  have s3 := appCell (call := run T wf (n + 2)) (wf := wf) (i := 3) (j := m0.length) (env := env9 k m0.length many (some (.d (.int i))) (some (.d (.list (cd.map encPr)))) (some (.d (.tuple (rs.map PyData.str))))) (by simp) hev (J.keep hk hU) (by rw [List.length_map]; have := found_len J; omega)
  refine ⟨some (.d (.list (cd.map encPr))), some (.d (.tuple (rs.map PyData.str))), _, found ++ [⟨nm, me, rs, sh, cd'⟩], ?_, J.push hk hU (f3.mono (by omega)) _ hnm (a2.perm hp)⟩
  rw [wdB, exB_cons, s1, Res.bind_ok, nextF_next, exB_cons, s2, Res.bind_ok, nextF_next, exB_cons, s3, Res.bind_ok, nextF_next, exB_nil]
theorem ris8 : ∀ c < 9, risB (LET8.take c) = true := by decide +kernel
theorem tag8 : ∀ t ∈ LET8, tagOk t = true := by decide +kernel
theorem sp_wild (wf n k N : Nat) (m : Mem) (hB : Bx k N m) (hN : N < 9000) : ∃ (P : List Sp) (m' : Mem), run T wf (n + 3) 28 [.mr k, .d (.int 5)] m = .ok (.d (encP P)) m' ∧ WT P ∧ P ≠ [] ∧ Bx k (N + 200) m' ∧ Up k m m' := by
  have hk := hB.lt
  rw [run_succ d__law_wild.fnT rfl rfl (by decide)]
  have B0 := hB.app [⟨false, []⟩]
  obtain ⟨r, m1, a1, a2, a3, a4, a5⟩ := sp_take wf (n + 1) k N (m ++ [⟨false, []⟩]) 5 B0 (by omega) (by omega) (by omega)
  obtain ⟨c, rfl⟩ : ∃ c : Nat, r = c := ⟨r.toNat, by omega⟩
  have J0 : FJ k (N + 1) m LET8 0 m1 [] := ⟨by rw [a5.1]; simp, (a5.2 _ (by omega)).trans (at_new _ _ _), rfl, by simp, by simpa using a4, (Gr.app _ _ _).trans a5.gr⟩
  obtain ⟨env', m2, d1, e2', e5', e6', found, rfl, J⟩ := forLoop_inv (t := .nm 2) (body := exB (run T wf (n + 2)) wf wdB) (gs := [])
    (fun i env m' => ∃ e2 e5 e6 found, env = env9 k m.length 5 e2 e5 e6 ∧ FJ k (N + 1) m LET8 i m' found) (xs := rangeD 0 (1 + c)) 0 (env := env9 k m.length 5 none none none) (m := m1) (by
      rintro i x hx env m' ⟨e2', e5', e6', found, rfl, J⟩
      obtain ⟨rfl, hi⟩ := rangeD_at (1 + c) 0 i x hx
      rw [Nat.zero_add] at J ⊢
      obtain ⟨f5, f6, m'', found', q1, q2⟩ := wd_step wf n k (N + 1) m m' hk 5 i (by omega) found J (by omega) e5' e6'
      refine ⟨env9 k m.length 5 (some (.d (.int i))) e5' e6', _, m'', ?_, q1, rfl, _, f5, f6, found', rfl, q2⟩
      simp) ⟨none, none, none, [], rfl, J0⟩
  rw [Nat.zero_add, rangeD_len] at J
  have hlk : lookAll m2 [.mr m.length] = some [.list (found.map enc)] := lookAll_mr _ J.c _
  have hlen : found.length = 1 + c := by
    have := congrArg List.length J.nm
    rw [List.length_map, List.length_take] at this
    have h8 : LET8.length = 8 := rfl
    omega
  refine ⟨found, m2.take m.length, ?_, ⟨⟨⟨?_, fun s hs => (J.ok s hs).ok⟩, by omega, fun s hs => (J.ok s hs).l, fun s hs => (J.ok s hs).f⟩, fun s hs => ?_⟩, fun e => by rw [e] at hlen; simp at hlen; omega, (J.B.cut hk).mono (by omega), J.G.up⟩
  · have hw := M.walk_range (n := 1 + c) (by omega)
    generalize rangeD 0 (1 + c) = rr at d1 hw
    unfold wdB at d1
    have hb : bop .add (.int 1) (.int c) = some (.d (.int ((1 + c : Nat) : Int))) := by
      show some (Val.d (.int (1 + (c : Int)))) = _
      congr 3
    have hpl : (some (Val.d (.list (P5.map PyData.str)))) = some (Val.d (.list [.str "f", .str "g", .str "h", .str "k", .str "in"])) := rfl
    rw [env9, hpl] at d1
    simp [d__law_wild, Df.fnT, b__law_wild, a1, hb, -Int.natCast_add, -addI]
    rw [hw]
    simp
    rw [d1]
    simp [hlk, encP]
  · rw [J.nm]
    exact ris8 _ (by omega)
  · have : s.nm ∈ LET8.take (1 + c) := by rw [← J.nm]; exact List.mem_map.mpr ⟨s, hs, rfl⟩
    exact tag8 _ (List.mem_of_mem_take this)
end Ra.K3

set_option Elab.async false
set_option linter.all false
set_option maxRecDepth 100000
set_option maxHeartbeats 1600000
namespace Ra.K3
open PySem M _root_.K4
structure LZ (many : Nat) (z : Str) (nms : List Str) : Prop where
  sl : slc (.str "dbhacgfe") none (some (many : Int)) = some (.d (.str z))
  len : nms.length = many
  at_ : ∀ i, i < many → ∃ s, nms[i]? = some s ∧ idx (.str z) (.int (i : Int)) = some (.str s) ∧ s.length ≤ 8
  pr : ∀ i, i < many → ∃ u, idx (.str z) (.int ((i : Int) - 1)) = some (.str u) ∧ u.length ≤ 8
  nd : nms.Nodup
  sub : ∀ t ∈ nms, t ∈ LET8
theorem slS (z y : Str) (lo hi : Option Int) (h : cutS z lo hi = y) (hs : sOk y = true) : slc (.str z) lo hi = some (.d (.str y)) := by
  show (if sOk (cutS z lo hi) = true then some (Val.d (.str (cutS z lo hi))) else none) = _
  rw [h, if_pos hs]
theorem lz (many : Nat) (h : 2 ≤ many ∧ many ≤ 5) : ∃ z nms, LZ many z nms := by
  have : many = 2 ∨ many = 3 ∨ many = 4 ∨ many = 5 := by omega
  rcases this with rfl | rfl | rfl | rfl
  · refine ⟨"db", ["d", "b"], slS _ _ _ _ (by decide +kernel) (by decide +kernel), rfl, fun i hi => ?_, fun i hi => ?_, by decide +kernel, by decide +kernel⟩
    · have : i = 0 ∨ i = 1 := by omega
      rcases this with rfl | rfl <;> exact ⟨_, rfl, rfl, by decide⟩
    · have : i = 0 ∨ i = 1 := by omega
      rcases this with rfl | rfl
      · exact ⟨"b", rfl, by decide⟩
      · exact ⟨"d", rfl, by decide⟩
  · refine ⟨"dbh", ["d", "b", "h"], slS _ _ _ _ (by decide +kernel) (by decide +kernel), rfl, fun i hi => ?_, fun i hi => ?_, by decide +kernel, by decide +kernel⟩
    · have : i = 0 ∨ i = 1 ∨ i = 2 := by omega
      rcases this with rfl | rfl | rfl <;> exact ⟨_, rfl, rfl, by decide⟩
    · have : i = 0 ∨ i = 1 ∨ i = 2 := by omega
      rcases this with rfl | rfl | rfl
      · exact ⟨"h", rfl, by decide⟩
      · exact ⟨"d", rfl, by decide⟩
      · exact ⟨"b", rfl, by decide⟩
  · refine ⟨"dbha", ["d", "b", "h", "a"], slS _ _ _ _ (by decide +kernel) (by decide +kernel), rfl, fun i hi => ?_, fun i hi => ?_, by decide +kernel, by decide +kernel⟩
    · have : i = 0 ∨ i = 1 ∨ i = 2 ∨ i = 3 := by omega
      rcases this with rfl | rfl | rfl | rfl <;> exact ⟨_, rfl, rfl, by decide⟩
    · have : i = 0 ∨ i = 1 ∨ i = 2 ∨ i = 3 := by omega
      rcases this with rfl | rfl | rfl | rfl
      · exact ⟨"a", rfl, by decide⟩
      · exact ⟨"d", rfl, by decide⟩
      · exact ⟨"b", rfl, by decide⟩
      · exact ⟨"h", rfl, by decide⟩
  · refine ⟨"dbhac", ["d", "b", "h", "a", "c"], slS _ _ _ _ (by decide +kernel) (by decide +kernel), rfl, fun i hi => ?_, fun i hi => ?_, by decide +kernel, by decide +kernel⟩
    · have : i = 0 ∨ i = 1 ∨ i = 2 ∨ i = 3 ∨ i = 4 := by omega
      rcases this with rfl | rfl | rfl | rfl | rfl <;> exact ⟨_, rfl, rfl, by decide⟩
    · have : i = 0 ∨ i = 1 ∨ i = 2 ∨ i = 3 ∨ i = 4 := by omega
      rcases this with rfl | rfl | rfl | rfl | rfl
      · exact ⟨"c", rfl, by decide⟩
      · exact ⟨"d", rfl, by decide⟩
      · exact ⟨"b", rfl, by decide⟩
      · exact ⟨"h", rfl, by decide⟩
      · exact ⟨"a", rfl, by decide⟩
theorem addS (x y : Str) (h : x.length + y.length ≤ 1000) : bop .add (.str x) (.str y) = some (.d (.str (x ++ y))) := by
  show (if x.length + y.length ≤ lim then some (Val.d (.str (x ++ y))) else none) = _
  rw [if_pos (by simp [lim]; omega)]
def rdB : List S := [(.set 5 false (.lc [6] (.nm 6) .seq [(.call 19 [(.var 0), (.lst [(.cst (.str "x")), (.cst (.str "y"))]), (.call 16 [(.var 0), (.cst (.int 3))])])] [] (.tup [(.var 6), (.call 16 [(.var 0), (.cst (.int 2))])]))), (.app 3 (.tup [(.idx (.var 4) (.var 2)), (.cst (.str "m")), (.tup [(.op .add (.cst (.str "p")) (.idx (.var 4) (.op .sub (.var 2) (.cst (.int 1)))))]), (.op .add (.cst (.str "p")) (.idx (.var 4) (.var 2))), (.bi .tuple [(.bi .sorted [(.var 5)])])]))]
abbrev env7 (k L : Nat) (many : Int) (z : Str) (e2 e5 : Option Val) : Env := [some (.mr k), some (.d (.int many)), e2, some (.mr L), some (.d (.str z)), e5, none]
theorem rd_step (wf n k N : Nat) (m0 m : Mem) (hk : k < m0.length) (many : Nat) (hm : many ≤ 5) (z : Str) (nms : List Str) (Z : LZ many z nms) (i : Nat) (hi : i < many) (found : List Sp) (J : FJ k N m0 nms i m found) (hN : N < 10000) (e5' : Option Val) :
    ∃ f5 m' found', exB (run T wf (n + 2)) wf rdB (env7 k m0.length many z (some (.d (.int i))) e5') m = .ok (.next (env7 k m0.length many z (some (.d (.int i))) f5)) m' ∧ FJ k N m0 nms (i + 1) m' found' := by
  obtain ⟨cd, m1, a1, a2, a3, a4⟩ := draw_cond wf n k (N + 20 * i) 6 m (env7 k m0.length many z (some (.d (.int i))) e5') ["x", "y"] (by decide +kernel) (by decide +kernel) (by decide) rfl (.lst [(.cst (.str "x")), (.cst (.str "y"))]) (fun m => by simp) (fun x => ⟨_, by simp; rfl, by simp, by simp⟩) J.B (by omega)
  have s1 : exS (run T wf (n + 2)) wf (.set 5 false (.lc [6] (.nm 6) .seq [(.call 19 [(.var 0), (.lst [(.cst (.str "x")), (.cst (.str "y"))]), (.call 16 [(.var 0), (.cst (.int 3))])])] [] (.tup [(.var 6), (.call 16 [(.var 0), (.cst (.int 2))])]))) (env7 k m0.length many z (some (.d (.int i))) e5') m = .ok (.next (env7 k m0.length many z (some (.d (.int i))) (some (.d (.list (cd.map encPr)))))) m1 := by
    rw [M.x_set, a1]
    simp
  obtain ⟨cd', hp, hsd⟩ := sort_prs cd
  obtain ⟨s, hs1, hs2, hs3⟩ := Z.at_ i hi
  obtain ⟨u, hu1, hu2⟩ := Z.pr i hi
  have hpl : ("p" : Str).length = 1 := by decide
  have hp1 : bop .add (.str "p") (.str s) = some (.d (.str ("p" ++ s))) := addS _ _ (by omega)
  have hp2 : bop .add (.str "p") (.str u) = some (.d (.str ("p" ++ u))) := addS _ _ (by omega)
  have hsb : bop .sub (.int i) (.int 1) = some (.d (.int ((i : Int) - 1))) := rfl
  have hev : (sem (run T wf (n + 2)) (.tup [(.idx (.var 4) (.var 2)), (.cst (.str "m")), (.tup [(.op .add (.cst (.str "p")) (.idx (.var 4) (.op .sub (.var 2) (.cst (.int 1)))))]), (.op .add (.cst (.str "p")) (.idx (.var 4) (.var 2))), (.bi .tuple [(.bi .sorted [(.var 5)])])])).v (env7 k m0.length many z (some (.d (.int i))) (some (.d (.list (cd.map encPr))))) m1 = .ok (.d (enc ⟨s, "m", ["p" ++ u], "p" ++ s, cd'⟩)) m1 := by
    simp [hs2, hu1, hp1, hp2, hsb, sortedD, hsd]
    rfl
  have s3 := appCell (call := run T wf (n + 2)) (wf := wf) (i := 3) (j := m0.length) (env := env7 k m0.length many z (some (.d (.int i))) (some (.d (.list (cd.map encPr))))) (by simp) hev (J.keep hk a4) (by rw [List.length_map]; have := found_len J; omega)
  refine ⟨some (.d (.list (cd.map encPr))), _, found ++ [⟨s, "m", ["p" ++ u], "p" ++ s, cd'⟩], ?_, J.push hk a4 (a3.mono (by omega)) _ hs1 (a2.perm hp)⟩
  rw [rdB, exB_cons, s1, Res.bind_ok, nextF_next, exB_cons, s3, Res.bind_ok, nextF_next, exB_nil]
theorem alike_str2 (x y : Str) : PySem.W.alike (.str x) (.str y) = true := by simp [PySem.W.alike]
theorem alikeAll_map {α : Type} (f : α → PyData) (h : ∀ a b, PySem.W.alike (f a) (f b) = true) : ∀ xs ys : List α, PySem.W.alikeAll (xs.map f) (ys.map f) = true
  | [], _ => by simp [PySem.W.alikeAll]
  | _ :: _, [] => by simp [PySem.W.alikeAll]
  | x :: xs, y :: ys => by
    simp only [List.map_cons, PySem.W.alikeAll, h x y, alikeAll_map f h xs ys]
    rfl
theorem alike_enc (a b : Sp) : PySem.W.alike (enc a) (enc b) = true := by
  have h1 := alikeAll_map PyData.str alike_str2 a.rd b.rd
  have h2 := alikeAll_map (fun p : Str × Int => PyData.tuple [.str p.1, .int p.2]) (fun a b => by simp [PySem.W.alike, PySem.W.alikeAll]) a.cd b.cd
  simp [enc, encC, PySem.W.alike, PySem.W.alikeAll, h1, h2]
theorem sort_encs (found : List Sp) : sortD (found.map enc) = some (isort [] (found.map enc)) := by
  have h1 : allAlike (found.map enc) = true := by
    unfold allAlike
    rw [List.all_eq_true]
    intro x hx
    rw [List.all_eq_true]
    intro y hy
    obtain ⟨a, _, rfl⟩ := List.mem_map.mp hx
    obtain ⟨b, _, rfl⟩ := List.mem_map.mp hy
    exact alike_enc a b
  have h2 : sortable (found.map enc) = true := by
    unfold sortable
    have : (found.map enc).all isTupC = true := by
      rw [List.all_eq_true]
      intro x hx
      obtain ⟨a, _, rfl⟩ := List.mem_map.mp hx
      rfl
    rw [this]
    rfl
  have h3 : PyData.depthAll (found.map enc) ≤ 64 := by
    have := depth_encs found
    omega
  unfold sortD
  simp [h1, h2, h3]
theorem lt_enc {a b : Sp} (hn : a.nm ≠ b.nm) (h : dle (enc a) (enc b) = true) : strLt a.nm b.nm = true := by
  refine strLt_of ?_ hn
  have e : PyData.eqv (.str b.nm) (.str a.nm) = false := by
    rw [eqv_str]
    simpa using fun q : b.nm = a.nm => hn q.symm
  have q : PySem.W.dataLt (enc b) (enc a) = PySem.W.dataLt (.str b.nm) (.str a.nm) := by
    unfold enc
    rw [PySem.W.dataLt_tuple, PySem.W.dataLt_cons (alike_str2 _ _), if_neg (by rw [e]; simp)]
  rw [dle_eq] at h ⊢
  rw [← q]
  exact h
theorem sort_names {ss : List Sp} (h : (ss.map enc).Pairwise fun a b => dle a b = true) (nd : (ss.map Sp.nm).Nodup) : risB (ss.map Sp.nm) = true := by
  rw [ris_pair, List.pairwise_map]
  rw [List.pairwise_map] at h
  rw [List.Nodup, List.pairwise_map] at nd
  exact (h.and nd).imp fun ⟨a, b⟩ => lt_enc b a
theorem sp_rnd (wf n k N many : Nat) (hm : 2 ≤ many ∧ many ≤ 5) (m : Mem) (hB : Bx k N m) (hN : N < 9000) : ∃ (P : List Sp) (m' : Mem), run T wf (n + 3) 29 [.mr k, .d (.int many)] m = .ok (.d (encP P)) m' ∧ WT P ∧ P ≠ [] ∧ Bx k (N + 200) m' ∧ Up k m m' := by
  have hk := hB.lt
  rw [run_succ d__law_round.fnT rfl rfl (by decide)]
  obtain ⟨z, nms, Z⟩ := lz many hm
  have J0 : FJ k N m nms 0 (m ++ [⟨false, []⟩]) [] := ⟨by simp, at_new _ _ _, rfl, by simp, by simpa using hB.app _, Gr.app _ _ _⟩
  obtain ⟨env', m2, d1, e2', e5', found, rfl, J⟩ := forLoop_inv (t := .nm 2) (body := exB (run T wf (n + 2)) wf rdB) (gs := [])
    (fun i env m' => ∃ e2 e5 found, env = env7 k m.length many z e2 e5 ∧ FJ k N m nms i m' found) (xs := rangeD 0 many) 0 (env := env7 k m.length many z none none) (m := m ++ [⟨false, []⟩]) (by
      rintro i x hx env m' ⟨e2', e5', found, rfl, J⟩
      obtain ⟨rfl, hi⟩ := rangeD_at many 0 i x hx
      rw [Nat.zero_add] at J ⊢
      obtain ⟨f5, m'', found', q1, q2⟩ := rd_step wf n k N m m' hk many hm.2 z nms Z i (by omega) found J (by omega) e5'
      refine ⟨env7 k m.length many z (some (.d (.int i))) e5', _, m'', ?_, q1, rfl, _, f5, found', rfl, q2⟩
      simp) ⟨none, none, [], rfl, J0⟩
  rw [Nat.zero_add, rangeD_len] at J
  have hlk : lookAll m2 [.mr m.length] = some [.list (found.map enc)] := lookAll_mr _ J.c _
  have hnm : found.map Sp.nm = nms := by rw [J.nm, List.take_of_length_le (by rw [Z.len]; omega)]
  have hlen : found.length = many := by
    have := congrArg List.length hnm
    rw [List.length_map, Z.len] at this
    exact this
  obtain ⟨ss, hss, ess⟩ := perm_map enc (isort_perm (found.map enc) []) found rfl
  refine ⟨ss, m2.take m.length, ?_, ⟨⟨⟨?_, fun s hs => (J.ok s (hss.mem_iff.mp hs)).ok⟩, by rw [hss.length_eq]; omega, fun s hs => (J.ok s (hss.mem_iff.mp hs)).l, fun s hs => (J.ok s (hss.mem_iff.mp hs)).f⟩, fun s hs => ?_⟩, fun e => ?_, (J.B.cut hk).mono (by omega), J.G.up⟩
  · have hw := M.walk_range (n := many) (by omega)
    generalize rangeD 0 many = rr at d1 hw
    unfold rdB at d1
    have hsl := Z.sl
    have hso := sort_encs found
    rw [ess] at hso
    simp [d__law_round, Df.fnT, b__law_round, hsl]
    rw [hw]
    simp
    rw [d1]
    simp [hlk, sortedD, hso, encP]
  · refine sort_names ?_ ((hss.map Sp.nm).nodup_iff.mpr (by rw [hnm]; exact Z.nd))
    rw [← ess]
    exact isort_sorted _ _ .nil
  · have : s.nm ∈ nms := by rw [← hnm]; exact List.mem_map.mpr ⟨s, hss.mem_iff.mp hs, rfl⟩
    exact tag8 _ (Z.sub _ this)
  · rw [e] at hss
    have := hss.length_eq
    rw [hlen] at this
    simp at this
    omega
end Ra.K3

set_option Elab.async false
set_option linter.all false
set_option maxRecDepth 100000
set_option maxHeartbeats 800000
namespace Ra.K3
open PySem M _root_.K4
theorem foldl_ahead (L : List Sp) : ∀ (xs : List Sp), xs.foldl (fun s _ => aheadC s) L = iterN aheadC xs.length L
  | [] => rfl
  | x :: xs => by
    rw [List.foldl_cons, List.length_cons, iterN, foldl_ahead (aheadC L) xs]
theorem go_parts {a b : Sp} (ha : OkC a.cd) (hb : OkC b.cd) : (decide (a.sh ∈ b.rd) && !partB a.cd b.cd) = goB a b := by
  rw [← clash_parts ha hb]
  rfl
def caB : List S := [(.set 1 false (.lc [3] (.nm 3) .seq [(.var 1)] [(.cmp .ne (.lc [4] (.nm 4) .seq [(.var 1)] [(.band [(.cmp .isin (.idx (.var 4) (.cst (.int 3))) (.idx (.var 3) (.cst (.int 2)))), (.not (.call 27 [(.idx (.var 4) (.cst (.int 4))), (.idx (.var 3) (.cst (.int 4)))]))])] (.var 4)) (.lst []))] (.var 3)))]
theorem ca_body (wf n : Nat) (hn : 1 ≤ n) (x : PyData) (L : List Sp) (hL : ∀ s ∈ L, OkC s.cd) (e2' : Option Val) (m : Mem) :
    exB (run T wf n) wf caB [some (.d x), some (.d (.list (L.map enc))), e2', none, none] m = .ok (.next [some (.d x), some (.d (.list ((aheadC L).map enc))), e2', none, none]) m := by
  simp [caB]
  rw [lcLoop_of enc (fun s => L.any fun o => goB o s) enc rfl]
  · simp [aheadC]
  · intro s hs
    refine ⟨_, by simp; rfl, ?_, fun _ => ⟨_, by simp; rfl, by simp⟩⟩
    simp
    rw [lcLoop_of enc (fun o => goB o s) enc rfl]
    · simp [-emp_map, emp_any]
    · intro o ho
      refine ⟨_, by simp; rfl, ?_, fun _ => ⟨_, by simp; rfl, by simp⟩⟩
      have h1 := sp_parts wf n hn o.cd s.cd m
      have h2 := go_parts (hL o ho) (hL s hs)
      simp [e2, e3, e4, h1]
      rw [← h2]
      by_cases h3 : o.sh ∈ s.rd <;> simp [h3]
theorem sp_can (wf n : Nat) (hn : 2 ≤ n) {P : List Sp} (hP : WQ P) (m : Mem) : run T wf n 38 [.d (encP P)] m = .ok (.d (.bool (canB P))) m := by
  obtain ⟨n, rfl⟩ : ∃ k, n = k + 1 := ⟨n - 1, by omega⟩
  rw [run_succ d__law_can.fnT rfl rfl (by decide)]
  have hb : listD [encP P] = some (.fr (P.map enc)) := rfl
  obtain ⟨env', h1, e2', h2, h3⟩ := forLoop_st (t := .nm 2) (gs := []) (m := m) (body := exB (run T wf n) wf caB) enc
    (fun i (s : List Sp) env => ∃ e2, env = [some (.d (encP P)), some (.d (.list (s.map enc))), e2, none, none] ∧ s.Sublist P) (fun s _ => aheadC s) rfl (xs := P) (s := P) (env := [some (.d (encP P)), some (.d (.list (P.map enc))), none, none, none]) 0 (by
      rintro i k hk s env ⟨e2, rfl, hs⟩
      refine ⟨[some (.d (encP P)), some (.d (.list (s.map enc))), some (.d (enc k)), none, none], _, by simp, ca_body wf n (by omega) (encP P) s (fun t ht => hP.ok t (hs.subset ht)) _ m, _, rfl, List.Sublist.trans List.filter_sublist hs⟩) ⟨none, rfl, List.Sublist.refl _⟩
  subst h2
  rw [foldl_ahead] at h1
  simp [d__law_can, Df.fnT, b__law_can, hb]
  unfold caB at h1
  rw [h1]
  simp [canB, emp]
/-! rings of a plan -/
def ringL (P : List Sp) : Option (List Sp) := ringAmong (core P)
theorem sp_looser (wf n : Nat) (hn : 7 ≤ n) {x : PyData} {P : List Sp} (hx : Rd x P) (hP : WQ P) (m : Mem) : run T wf n 13 [.d x] m = match ringL P with | some r => .ok (.d (encV (r.map Sp.nm))) m | none => .exc ⟨1, []⟩ m := by
  obtain ⟨n, rfl⟩ : ∃ k, n = k + 1 := ⟨n - 1, by omega⟩
  rw [run_succ d_loose_ring.fnT rfl rfl (by decide)]
  have hC : WQ (core P) := hP.sub (core_sub P)
  have h1 := hx.run wf n (by omega) m
  have h2 := sp_core wf n (by omega) (L := P) (.inr rfl) hP.ok hP.len m
  have h3 := sp_among wf n (by omega) hC.ok hC.len (core_next _) m
  cases e : ringL P with
  | some r =>
    have e' : ringAmong (core P) = some r := e
    rw [e'] at h3
    have h4 := sp_names wf n (by omega) r m
    simp [d_loose_ring, Df.fnT, b_loose_ring, h1, h2, h3, encR, isNone, h4]
  | none =>
    have e' : ringAmong (core P) = none := e
    rw [e'] at h3
    simp [d_loose_ring, Df.fnT, b_loose_ring, h1, h2, h3, encR, isNone]
/-! one order -/
theorem erase_find (r : Sp) : ∀ left : List Sp, (left.map enc).eraseIdx (left.findIdx (· == r)) = (left.erase r).map enc
  | [] => rfl
  | a :: left => by
    rw [List.findIdx_cons, List.erase_cons, List.map_cons]
    cases h : a == r with
    | true => simp
    | false => simp [erase_find r left]
@[simp] theorem x_rem (call : Call) (wf k : Nat) (e : E) (env : Env) (m : Mem) : exS call wf (.rem k e) env m = onCell env k (((sem call e).v env m).noX.bind fun v m1 => (rdR m1 v.nf).bind fun x m2 => upCell env k (remD x) m2) := rfl
def oo1 : S := .set 3 false (.lc [4] (.nm 4) .seq [(.var 1)] [(.not (.bi .any [(.lc [5] (.nm 5) .seq [(.var 1)] [] (.call 5 [(.var 5), (.var 4)]))]))] (.var 4))
def oo2 : S := .iff (.cmp .eq (.bi .len [(.var 3)]) (.cst (.int 0))) [(.raise 0)] []
def oo3 : S := .app 2 (.idx (.var 3) (.cst (.int 0)))
def oo4 : S := .rem 1 (.idx (.var 3) (.cst (.int 0)))
theorem oo_body : b_one_order = [(.par [(1, true), (2, true)] [(.bi .list [(.call 1 [(.var 0)])]), (.lst [])]), (.while (.cmp .gt (.bi .len [(.var 1)]) (.cst (.int 0))) [oo1, oo2, oo3, oo4]), (.ret (.call 8 [(.var 2)]))] := rfl
abbrev mm (m : Mem) (left found : List Sp) : Mem := m ++ [⟨false, left.map enc⟩, ⟨false, found.map enc⟩]
abbrev envO (L : Nat) (x : PyData) (e3 : Option Val) : Env := [some (.d x), some (.mr L), some (.mr (L + 1)), e3, none, none]
theorem mm0 (m : Mem) (left found : List Sp) : (mm m left found)[m.length]? = some ⟨false, left.map enc⟩ := at_new _ _ _
theorem mm1 (m : Mem) (left found : List Sp) : (mm m left found)[m.length + 1]? = some ⟨false, found.map enc⟩ := at_new1 _ _ _ _
theorem oo_s1 (wf n : Nat) (hn : 2 ≤ n) (x : PyData) (left found : List Sp) (hL : ∀ s ∈ left, OkC s.cd) (m : Mem) (e3' : Option Val) : exS (run T wf n) wf oo1 (envO m.length x e3') (mm m left found) = .ok (.next (envO m.length x (some (.d (.list ((rdyO left).map enc)))))) (mm m left found) := by
  have h0 := mm0 m left found
  generalize mm m left found = mz at *
  have hlk : lookAll mz [.mr m.length] = some [.list (left.map enc)] := lookAll_mr _ h0 _
  have hs := same1 h0
  simp only [oo1, M.x_set, M.v_lc, M.srcR_eq, M.cArgs_cons, M.cArgs_nil, M.v_var, getV_zero, getV_succ, optR_some, Res.bind_ok, nf_mr, hlk, M.walk_list, M.guards_mr, M.guards_nil]
  rw [lcLoop_of enc (fun s => !(left.any fun o => goB o s)) enc hs]
  · simp [rdyO]
  · intro s hs'
    refine ⟨_, by simp; rfl, ?_, fun _ => ⟨_, by simp; rfl, by simp⟩⟩
    simp only [tAll_one, M.t_not, M.t_bi, M.v_bi, M.v_lc, M.srcR_eq, M.cArgs_cons, M.cArgs_nil, M.v_var, getV_zero, getV_succ, optR_some, Res.bind_ok, nf_mr, hlk, M.walk_list, M.guards_mr, M.guards_nil]
    rw [lcLoop_ofm enc (fun o => .bool (goB o s)) hs]
    · simp [anyD_map]
    · intro o ho
      simp [sp_ahead wf n hn (hL o ho)]
theorem oo_take (wf n : Nat) (x : PyData) (left found : List Sp) (r : Sp) (rest : List Sp) (hr : rdyO left = r :: rest) (hf : found.length < 100) (m : Mem) : exB (run T wf n) wf [oo2, oo3, oo4] (envO m.length x (some (.d (.list ((rdyO left).map enc))))) (mm m left found) = .ok (.next (envO m.length x (some (.d (.list ((rdyO left).map enc)))))) (mm m (left.erase r) (found ++ [r])) := by
  have hm : r ∈ left := (mem_rdyO.mp (by rw [hr]; exact List.mem_cons_self)).1
  have i0 : idx (.list ((rdyO left).map enc)) (.int 0) = some (enc r) := by rw [hr]; exact idxL0 _ _
  have hl : lenD [.list ((rdyO left).map enc)] = some (.d (.int ((rest.length : Int) + 1))) := by rw [hr]; simp
  have hne : ¬ ((rest.length : Int) + 1 = 0) := by omega
  generalize hq : (rdyO left).map enc = q at i0 hl ⊢
  have s2 : exS (run T wf n) wf oo2 (envO m.length x (some (.d (.list q)))) (mm m left found) = .ok (.next (envO m.length x (some (.d (.list q))))) (mm m left found) := by
    simp [oo2, hl, hne]
  have s3 : exS (run T wf n) wf oo3 (envO m.length x (some (.d (.list q)))) (mm m left found) = .ok (.next (envO m.length x (some (.d (.list q))))) (mm m left (found ++ [r])) := by
    have := appCell (call := run T wf n) (wf := wf) (i := 2) (j := m.length + 1) (e := .idx (.var 3) (.cst (.int 0))) (env := envO m.length x (some (.d (.list q)))) (m := mm m left found) (m1 := mm m left found) (x := enc r) (xs := found.map enc) (by simp) (by simp [i0]) (mm1 _ _ _) (by simp; omega)
    rw [oo3, this]
    congr 1
    simp [mm]
  have hfd := lFind_enc r left 0 hm
  rw [Nat.zero_add] at hfd
  have hd1 : (enc r).depth ≤ 64 := by have := depth_enc r; omega
  have hd2 : (PyData.list (left.map enc)).depth ≤ 64 := by
    rw [PyData.depth]
    have := depth_encs left
    omega
  have hrem : remD (enc r) (left.map enc) = some ((left.erase r).map enc) := by
    unfold remD
    rw [if_pos ⟨hd1, hd2⟩, hfd, Option.map_some, erase_find]
  have s4 : exS (run T wf n) wf oo4 (envO m.length x (some (.d (.list q)))) (mm m left (found ++ [r])) = .ok (.next (envO m.length x (some (.d (.list q))))) (mm m (left.erase r) (found ++ [r])) := by
    rw [oo4, x_rem, onCell_mr (j := m.length) (h := by simp)]
    simp only [M.v_idx, M.v_var, M.v_cst, getV_zero, getV_succ, optR_some, Res.bind_ok, nf_d, rdR_d, i0, Res.noX_ok]
    rw [upCell_mr _ _ (j := m.length) (xs := left.map enc) (ys := (left.erase r).map enc) (by simp) (mm0 _ _ _) hrem]
    congr 1
    simp [mm]
  rw [exB_cons, s2, Res.bind_ok, nextF_next, exB_cons, s3, Res.bind_ok, nextF_next, exB_cons, s4, Res.bind_ok, nextF_next, exB_nil]
theorem oo_loop (wf n : Nat) (hn : 2 ≤ n) (x : PyData) (m : Mem) : ∀ (k : Nat) (left found : List Sp) (e3' : Option Val), left.length ≤ k → (∀ s ∈ left, OkC s.cd) → found.length + left.length ≤ 8 →
    (∃ o e3'', ordGo k left found = some o ∧ whileLoop (sem (run T wf n) (.cmp .gt (.bi .len [(.var 1)]) (.cst (.int 0)))) (exB (run T wf n) wf [oo1, oo2, oo3, oo4]) (k + 1) (envO m.length x e3') (mm m left found) = .ok (.next (envO m.length x e3'')) (mm m [] o)) ∨
    (ordGo k left found = none ∧ ∃ left' found', whileLoop (sem (run T wf n) (.cmp .gt (.bi .len [(.var 1)]) (.cst (.int 0)))) (exB (run T wf n) wf [oo1, oo2, oo3, oo4]) (k + 1) (envO m.length x e3') (mm m left found) = .exc ⟨0, []⟩ (mm m left' found')) := by
  intro k
  induction k with
  | zero =>
    intro left found e3' hl _ _
    have : left = [] := List.length_eq_zero_iff.mp (by omega)
    subst this
    have hlk : lookAll (mm m [] found) [.mr m.length] = some [.list []] := lookAll_mr _ (mm0 m [] found) _
    refine .inl ⟨found, e3', by simp [ordGo], ?_⟩
    unfold whileLoop
    generalize mm m [] found = mz at *
    simp [hlk]
  | succ k ih =>
    intro left found e3' hl hL h8
    have hlk : lookAll (mm m left found) [.mr m.length] = some [.list (left.map enc)] := lookAll_mr _ (mm0 m left found) _
    have ht : (sem (run T wf n) (.cmp .gt (.bi .len [(.var 1)]) (.cst (.int 0)))).t (envO m.length x e3') (mm m left found) = .ok (decide ((0 : Int) < left.length)) (mm m left found) := by
      generalize mm m left found = mz at *
      simp [hlk]
    by_cases he : left = []
    · subst he
      refine .inl ⟨found, e3', by simp [ordGo], ?_⟩
      unfold whileLoop
      rw [ht]
      simp
    · have hp : 0 < left.length := List.length_pos_iff.mpr he
      have s1 := oo_s1 wf n hn x left found hL m e3'
      cases hr : rdyO left with
      | nil =>
        refine .inr ⟨by unfold ordGo; rw [if_neg he, hr], left, found, ?_⟩
        unfold whileLoop
        rw [ht]
        rw [hr] at s1
        have hb : exB (run T wf n) wf [oo1, oo2, oo3, oo4] (envO m.length x e3') (mm m left found) = .exc ⟨0, []⟩ (mm m left found) := by
          rw [exB_cons, s1, Res.bind_ok, nextF_next]
          simp [oo2]
        simp only [Res.noX_ok, Res.bind_ok, show ((0 : Int) < left.length) from by omega, decide_true, if_true, hb, Res.bind_exc]
      | cons r rest =>
        have hm : r ∈ left := (mem_rdyO.mp (by rw [hr]; exact List.mem_cons_self)).1
        have hle := List.length_erase_of_mem hm
        have hb : exB (run T wf n) wf [oo1, oo2, oo3, oo4] (envO m.length x e3') (mm m left found) = .ok (.next (envO m.length x (some (.d (.list ((rdyO left).map enc)))))) (mm m (left.erase r) (found ++ [r])) := by
          rw [exB_cons, s1, Res.bind_ok, nextF_next]
          exact oo_take wf n x left found r rest hr (by omega) m
        have hgo : ordGo (k + 1) left found = ordGo k (left.erase r) (found ++ [r]) := by
          rw [ordGo, if_neg he, hr]
        rw [hgo]
        have hw : ∀ res, whileLoop (sem (run T wf n) (.cmp .gt (.bi .len [(.var 1)]) (.cst (.int 0)))) (exB (run T wf n) wf [oo1, oo2, oo3, oo4]) (k + 1) (envO m.length x (some (.d (.list ((rdyO left).map enc))))) (mm m (left.erase r) (found ++ [r])) = res → whileLoop (sem (run T wf n) (.cmp .gt (.bi .len [(.var 1)]) (.cst (.int 0)))) (exB (run T wf n) wf [oo1, oo2, oo3, oo4]) (k + 1 + 1) (envO m.length x e3') (mm m left found) = res := by
          intro res h
          rw [whileLoop, ht]
          simp only [Res.noX_ok, Res.bind_ok, show ((0 : Int) < left.length) from by omega, decide_true, if_true, hb]
          exact h
        rcases ih (left.erase r) (found ++ [r]) (some (.d (.list ((rdyO left).map enc)))) (by omega) (fun s hs => hL s (List.mem_of_mem_erase hs)) (by rw [List.length_append, List.length_singleton]; omega) with ⟨o, e3'', q1, q2⟩ | ⟨q1, l', f', q2⟩
        · exact .inl ⟨o, e3'', q1, hw _ q2⟩
        · exact .inr ⟨q1, l', f', hw _ q2⟩
end Ra.K3


set_option Elab.async false
set_option linter.all false
set_option maxRecDepth 100000
set_option maxHeartbeats 800000
namespace Ra.K3
open PySem M _root_.K4
def ordP (wf : Nat) (P : List Sp) : Option (List Sp) := ordGo (wf - 1) P []
theorem take_mm (m : Mem) (a b : List Sp) : (mm m a b).take m.length = m := by simp [mm]
theorem sp_order (wf n : Nat) (hn : 6 ≤ n) (hw : 8 < wf) {x : PyData} {P : List Sp} (hx : Rd x P) (hP : WQ P) (m : Mem) : run T wf n 11 [.d x] m = match ordP wf P with | some o => .ok (.d (encV (o.map Sp.nm))) m | none => .exc ⟨0, []⟩ m := by
  obtain ⟨n, rfl⟩ : ∃ k, n = k + 1 := ⟨n - 1, by omega⟩
  rw [run_succ d_one_order.fnT rfl rfl (by decide)]
  have h1 := hx.run wf n (by omega) m
  have hb : listD [encP P] = some (.fr (P.map enc)) := rfl
  have hl := hP.len
  rw [show d_one_order.fnT.body = b_one_order from rfl, oo_body]
  rw [show (List.map some [Val.d x] ++ List.replicate (d_one_order.fnT.n - d_one_order.fnT.ps) none) = [some (.d x), none, none, none, none, none] from rfl]
  have s1 : exS (run T wf n) wf (.par [(1, true), (2, true)] [(.bi .list [(.call 1 [(.var 0)])]), (.lst [])]) [some (.d x), none, none, none, none, none] m = .ok (.next (envO m.length x none)) (mm m P []) := by
    simp [h1, hb, mm]
  have key := oo_loop wf n (by omega) x m (wf - 1) P [] none (by omega) hP.ok (by simpa using hl)
  rw [show wf - 1 + 1 = wf by omega] at key
  have ho : ordP wf P = ordGo (wf - 1) P [] := rfl
  rw [exB_cons, s1, Res.bind_ok, nextF_next, exB_cons, M.x_while]
  rcases key with ⟨o, e3', q1, q2⟩ | ⟨q1, l', f', q2⟩
  · rw [ho, q1, q2]
    have hrd : rdR (mm m [] o) (.mr (m.length + 1)) = .ok (.list (o.map enc)) (mm m [] o) := rdR_mr _ (mm1 m [] o)
    have hlk : lookAll (mm m [] o) [.mr (m.length + 1)] = some [.list (o.map enc)] := lookAll_mr _ (mm1 m [] o) _
    have h4 : run T wf n 8 [.mr (m.length + 1)] (mm m [] o) = .ok (.d (encV (o.map Sp.nm))) (mm m [] o) := by
      obtain ⟨n, rfl⟩ : ∃ k, n = k + 1 := ⟨n - 1, by omega⟩
      have hs := same1 (mm1 m [] o)
      have htk : (mm m [] o).take (mm m [] o).length = mm m [] o := List.take_length
      generalize mm m [] o = mz at *
      rw [run_succ d_names_of.fnT rfl rfl (by decide)]
      simp [d_names_of, Df.fnT, b_names_of, hlk]
      rw [lcLoop_ofm enc (fun s => .str s.nm) hs]
      · simp [encV, Function.comp_def, htk]
      · intro s hs'
        simp [e0]
    have ht := take_mm m [] o
    generalize mm m [] o = mz at *
    simp [h4, ht]
  · rw [ho, q1, q2]
    have ht := take_mm m l' f'
    generalize mm m l' f' = mz at *
    simp [ht]
/-! told -/
def noOrd : PyData := .list [.str "no order", .bool true]
def noRing : PyData := .list [.str "none", .bool true]
def told0 (wf : Nat) (P : List Sp) : PyData := match ordP wf P with
  | some o => encV (o.map Sp.nm)
  | none => noOrd
def told1 (P : List Sp) : PyData := match ringL P with
  | some r => encV (r.map Sp.nm)
  | none => noRing
theorem sp_told0 (wf n : Nat) (hn : 7 ≤ n) (hw : 8 < wf) {x : PyData} {P : List Sp} (hx : Rd x P) (hP : WQ P) (m : Mem) : run T wf n 35 [.d (.int 0), .d x] m = .ok (.d (told0 wf P)) m := by
  obtain ⟨n, rfl⟩ : ∃ k, n = k + 1 := ⟨n - 1, by omega⟩
  rw [run_succ d__law_told.fnT rfl rfl (by decide)]
  have h1 := sp_order wf n (by omega) hw hx hP m
  cases e : ordP wf P with
  | some o =>
    rw [e] at h1
    simp only at h1
    have ht : told0 wf P = encV (o.map Sp.nm) := by unfold told0; rw [e]
    rw [ht]
    simp [d__law_told, Df.fnT, b__law_told, xTry, tbX, xSetV, xv, h1, isNone]
  | none =>
    rw [e] at h1
    simp only at h1
    have ht : told0 wf P = noOrd := by unfold told0; rw [e]
    rw [ht]
    simp [d__law_told, Df.fnT, b__law_told, xTry, tbX, xSetV, xv, h1, isNone, hdsX, HI.val, noOrd]
theorem sp_told1 (wf n : Nat) (hn : 8 ≤ n) {x : PyData} {P : List Sp} (hx : Rd x P) (hP : WQ P) (m : Mem) : run T wf n 35 [.d (.int 1), .d x] m = .ok (.d (told1 P)) m := by
  obtain ⟨n, rfl⟩ : ∃ k, n = k + 1 := ⟨n - 1, by omega⟩
  rw [run_succ d__law_told.fnT rfl rfl (by decide)]
  have h1 := sp_looser wf n (by omega) hx hP m
  cases e : ringL P with
  | some o =>
    rw [e] at h1
    simp only at h1
    have ht : told1 P = encV (o.map Sp.nm) := by unfold told1; rw [e]
    rw [ht]
    simp [d__law_told, Df.fnT, b__law_told, xTry, tbX, xSetV, xv, h1, isNone]
  | none =>
    rw [e] at h1
    simp only at h1
    have ht : told1 P = noRing := by unfold told1; rw [e]
    rw [ht]
    simp [d__law_told, Df.fnT, b__law_told, xTry, tbX, xSetV, xv, h1, isNone, hdsX, HI.val, noRing]
/-! is_one_order -/
def isO (P : List Sp) (ts : List Str) : Bool := match lotO P ts with
  | none => false
  | some L => decide (L.length = P.length) && !((idxL 0 L).any fun p => (L.take (p.1 + 1)).any fun o => goB p.2 o)
theorem cut_hi {α : Type} (xs : List α) (k : Nat) (h : k ≤ xs.length) : cut xs none (some (k : Int)) = xs.take k := by
  unfold cut
  rw [HT.sIx_nat, HT.sIx_none, Nat.sub_zero, List.drop_zero, Nat.min_eq_left h]
theorem any_flat {α β : Type} (f : α → List β) (g : β → Bool) : ∀ L : List α, (L.flatMap f).any g = L.any fun a => (f a).any g
  | [] => rfl
  | a :: L => by rw [List.flatMap_cons, List.any_append, any_flat f g L, List.any_cons]
theorem anyD_flat {α : Type} (f : α → List Bool) (L : List α) : anyD [.list (L.flatMap fun a => (f a).map PyData.bool)] = some (.d (.bool (L.any fun a => (f a).any id))) := by
  have h := anyD_map (fun b : Bool => b) (L.flatMap f)
  rw [List.map_flatMap] at h
  rw [h]
  congr 3
  exact any_flat f id L
theorem sp_iso (wf n : Nat) (hn : 7 ≤ n) {x : PyData} {P : List Sp} (hx : Rd x P) (hl : lenD [x] = some (.d (.int P.length))) (hP : WQ P) {ts : List Str} (ht : ∀ t ∈ ts, tagOk t = true) (htl : ts.length < 100) (m : Mem) : run T wf n 12 [.d x, .d (encV ts)] m = .ok (.d (.bool (isO P ts))) m := by
  obtain ⟨n, rfl⟩ : ∃ k, n = k + 1 := ⟨n - 1, by omega⟩
  rw [run_succ d_is_one_order.fnT rfl rfl (by decide)]
  obtain ⟨v, hv, hvn⟩ := sp_row wf n (by omega) hx hP.toWP ht htl m
  simp [d_is_one_order, Df.fnT, b_is_one_order, hv, hvn]
  cases hlo : lotO P ts with
  | none => simp [lotV, isNone, isO, hlo]
  | some L =>
    obtain ⟨hn1, hn2, hn3⟩ := lot_names hlo
    have hLl : L.length < 100 := by
      have := congrArg List.length hn1
      rw [List.length_map] at this
      omega
    simp [lotV, isNone, hl]
    by_cases hlen : L.length = P.length
    · have he : walk .enum [.list (L.map enc)] = some ((idxL 0 L).map encI) := by
        show some (enumD 0 (L.map enc)) = _
        rw [enum_idx]
      simp [hlen]
      rw [enum_idx, lc2Loop_of encI (fun p => (L.take (p.1 + 1)).map fun o => PyData.bool (goB p.2 o)) rfl 100000 (fun _ => rfl)]
      · have := anyD_flat (fun p : Nat × Sp => (L.take (p.1 + 1)).map fun o => goB p.2 o) (idxL 0 L)
        simp only [List.map_map, Function.comp_def] at this
        have hr : ((idxL 0 L).any fun a => ((L.take (a.1 + 1)).map fun o => goB a.2 o).any id) = (idxL 0 L).any fun p => (L.take (p.1 + 1)).any fun o => goB p.2 o := by
          congr 1
          funext a
          rw [List.any_map]
          rfl
        rw [hr] at this
        simp only [Res.bind_ok, M.nf_fr, M.lookAll_d, M.lookAll_nil, Option.map_some, optR_some, this]
        simp [isO, hlo, hlen]
      · have h1 := flat_len (fun p : Nat × Sp => (L.take (p.1 + 1)).map fun o => PyData.bool (goB p.2 o)) 100 (l := idxL 0 L) fun p _ => by
          rw [List.length_map, List.length_take]; omega
        have h2 : (idxL 0 L).length = L.length := by
          have := congrArg List.length (enum_idx 0 L)
          rw [enumD_len, List.length_map, List.length_map] at this
          exact this.symm
        rw [h2] at h1
        omega
      · rintro ⟨i, s⟩ hp
        obtain ⟨m1, _, m3⟩ := idx_mem hp
        simp only at m1 m3
        refine ⟨[some (.d x), some (.d (encV ts)), some (.d (.list (L.map enc))), none, some (.d (.int i)), some (.d (enc s))], by simp [encI], fun k hk => ?_⟩
        have hs : slc (.list (L.map enc)) none (some ((i : Int) + 1)) = some (.fr ((L.take (i + 1)).map enc)) := by
          show some (Val.fr (cut (L.map enc) none (some ((i : Int) + 1)))) = _
          rw [show (i : Int) + 1 = ((i + 1 : Nat) : Int) by omega, cut_hi _ _ (by rw [List.length_map]; omega), List.map_take]
        have hb : bop .add (.int i) (.int 1) = some (.d (.int ((i : Int) + 1))) := rfl
        have hkl : k + (L.take (i + 1)).length ≤ lim := by
          simp only [List.length_map] at hk
          simp [lim]
          simp at hk
          omega
        generalize L.take (i + 1) = LT at *
        simp [lcIn, hb, hs, hkl]
        rw [lcLoop_ofm enc (fun o => .bool (goB s o)) rfl]
        intro o ho
        simp [sp_ahead wf n (by omega) (hP.ok s (hn2 s m1))]
    · have : ¬ ((L.length : Int) = (P.length : Int)) := by omega
      simp [this, isO, hlo, hlen]
end Ra.K3


set_option Elab.async false
set_option linter.all false
set_option maxRecDepth 100000
set_option maxHeartbeats 800000
namespace Ra.K3
open PySem M _root_.K4
theorem any_false {α : Type} {L : List α} {f : α → Bool} : L.any f = false ↔ ∀ x ∈ L, f x = false := by
  rw [Bool.eq_false_iff, ne_eq, List.any_eq_true]
  constructor
  · intro h x hx
    rw [Bool.eq_false_iff]
    exact fun q => h ⟨x, hx, q⟩
  · rintro h ⟨x, hx, q⟩
    rw [h x hx] at q
    cases q
theorem idx_take (R : Sp → Sp → Bool) (L : List Sp) : ∀ (L' pre : List Sp), L = pre ++ L' → (((idxL pre.length L').any fun p => (L.take (p.1 + 1)).any fun o => R p.2 o) = false ↔ ((∀ a ∈ L', R a a = false) ∧ L'.Pairwise (fun a b => R b a = false)) ∧ ∀ o ∈ pre, ∀ b ∈ L', R b o = false)
  | [], pre, _ => by simp [idxL]
  | a :: r, pre, h => by
    have ih := idx_take R L r (pre ++ [a]) (by rw [h]; simp)
    rw [List.length_append, List.length_singleton] at ih
    have ht : L.take (pre.length + 1) = pre ++ [a] := by
      rw [h, show pre ++ a :: r = (pre ++ [a]) ++ r by simp]
      rw [List.take_append_of_le_length (by simp)]
      exact List.take_of_length_le (by simp)
    rw [idxL, List.any_cons, Bool.or_eq_false_iff, ih]
    simp only [ht]
    rw [any_false]
    simp only [List.mem_append, List.mem_cons, List.not_mem_nil, or_false, List.pairwise_cons]
    constructor
    · rintro ⟨h1, ⟨h2, h3⟩, h4⟩
      refine ⟨⟨fun x hx => ?_, fun b hb => h4 a (.inr rfl) b hb, h3⟩, fun o ho b hb => ?_⟩
      · rcases hx with rfl | hx
        · exact h1 _ (.inr rfl)
        · exact h2 x hx
      · rcases hb with rfl | hb
        · exact h1 o (.inl ho)
        · exact h4 o (.inl ho) b hb
    · rintro ⟨⟨h1, h2, h3⟩, h4⟩
      refine ⟨fun x hx => ?_, ⟨fun x hx => h1 x (.inr hx), h3⟩, fun o ho b hb => ?_⟩
      · rcases hx with hx | rfl
        · exact h4 x hx a (.inl rfl)
        · exact h1 _ (.inl rfl)
      · rcases ho with ho | rfl
        · exact h4 o ho b (.inr hb)
        · exact h2 b hb
theorem idx_drop (R : Sp → Sp → Bool) (L : List Sp) : ∀ (L' pre : List Sp), L = pre ++ L' → (((idxL pre.length L').any fun p => (L.drop p.1).any fun f => R f p.2) = false ↔ (∀ a ∈ L', R a a = false) ∧ L'.Pairwise (fun a b => R b a = false))
  | [], pre, _ => by simp [idxL]
  | a :: r, pre, h => by
    have ih := idx_drop R L r (pre ++ [a]) (by rw [h]; simp)
    rw [List.length_append, List.length_singleton] at ih
    have ht : L.drop pre.length = a :: r := by rw [h]; simp
    rw [idxL, List.any_cons, Bool.or_eq_false_iff, ih]
    simp only [ht]
    rw [any_false]
    simp only [List.mem_cons, List.pairwise_cons]
    constructor
    · rintro ⟨h1, h2, h3⟩
      refine ⟨fun x hx => ?_, fun b hb => h1 b (.inr hb), h3⟩
      rcases hx with rfl | hx
      · exact h1 _ (.inl rfl)
      · exact h2 x hx
    · rintro ⟨h1, h2, h3⟩
      refine ⟨fun x hx => ?_, fun x hx => h1 x (.inr hx), h3⟩
      rcases hx with rfl | hx
      · exact h1 _ (.inl rfl)
      · exact h2 x hx
def liveIn (P L : List Sp) (V : List Str) : List Sp := L.filter fun s => decide (s ∈ live V P)
def backV (P L : List Sp) (V : List Str) : Bool := (idxL 0 (liveIn P L V)).any fun p => ((liveIn P L V).drop p.1).any fun f => feedB f p.2
/-- the two ways to ask for an order -/
theorem order_iff {P L : List Sp} (hP : WP P) (hs : ∀ s ∈ L, s ∈ P) : ((vsOf (flagsS P)).any (backV P L)) = (idxL 0 L).any fun p => (L.take (p.1 + 1)).any fun o => goB p.2 o := by
  have key : (vsOf (flagsS P)).any (backV P L) = false ↔ ((idxL 0 L).any fun p => (L.take (p.1 + 1)).any fun o => goB p.2 o) = false := by
    have h2 := idx_take goB L L [] rfl
    simp only [List.length_nil] at h2
    rw [h2, any_false]
    have hB : ∀ V, backV P L V = false ↔ (∀ a ∈ liveIn P L V, feedB a a = false) ∧ (liveIn P L V).Pairwise (fun a b => feedB b a = false) := fun V => idx_drop feedB (liveIn P L V) (liveIn P L V) [] rfl
    have hin : ∀ {V : List Str} {s : Sp}, s ∈ liveIn P L V ↔ s ∈ L ∧ holdB s.cd V = true := fun {V s} => by
      unfold liveIn live
      rw [List.mem_filter, decide_eq_true_eq, List.mem_filter]
      exact ⟨fun q => ⟨q.1, q.2.2⟩, fun q => ⟨q.1, hs s q.1, q.2⟩⟩
    constructor
    · intro h
      have meet : ∀ a b, a ∈ L → b ∈ L → goB b a = true → ∃ V ∈ vsOf (flagsS P), holdB a.cd V = true ∧ holdB b.cd V = true := fun a b ha hb hg => by
        have hc : clashB b.cd a.cd = false := by
          unfold goB at hg
          simpa using (Bool.and_eq_true_iff.mp hg).2
        obtain ⟨q1, q2⟩ := pair_hold (hP.ok b (hs b hb)) (hP.ok a (hs a ha)) hc
        exact ⟨_, mem_vsOf.mpr (meet_flags fun s q => by
          simp only [List.mem_cons, List.not_mem_nil, or_false] at q
          rcases q with rfl | rfl
          · exact hs _ hb
          · exact hs _ ha), q2, q1⟩
      have fd : ∀ {a b : Sp}, goB b a = true → feedB b a = true := fun {a b} hg => by
        unfold goB at hg
        exact (Bool.and_eq_true_iff.mp hg).1
      refine ⟨⟨fun a ha => ?_, ?_⟩, by simp⟩
      · rw [Bool.eq_false_iff]
        intro hg
        obtain ⟨V, hV, q1, _⟩ := meet a a ha ha hg
        have := ((hB V).mp (h V hV)).1 a (hin.mpr ⟨ha, q1⟩)
        rw [fd hg] at this
        cases this
      · rw [List.pairwise_iff_forall_sublist]
        intro a b hab
        rw [Bool.eq_false_iff]
        intro hg
        have ha : a ∈ L := hab.subset (by simp)
        have hb : b ∈ L := hab.subset (by simp)
        obtain ⟨V, hV, q1, q2⟩ := meet a b ha hb hg
        have hsub : [a, b].Sublist (liveIn P L V) := by
          have := hab.filter fun s => decide (s ∈ live V P)
          rw [List.filter_eq_self.mpr (fun s q => by
            simp only [List.mem_cons, List.not_mem_nil, or_false] at q
            rw [decide_eq_true_eq]
            rcases q with rfl | rfl
            · exact List.mem_filter.mpr ⟨hs _ ha, q1⟩
            · exact List.mem_filter.mpr ⟨hs _ hb, q2⟩)] at this
          exact this
        have := (List.pairwise_iff_forall_sublist.mp ((hB V).mp (h V hV)).2) hsub
        rw [fd hg] at this
        cases this
    · rintro ⟨⟨h1, h3⟩, _⟩ V hV
      have nf : ∀ a b, a ∈ liveIn P L V → b ∈ liveIn P L V → goB b a = false → feedB b a = false := fun a b ha hb hg => by
        obtain ⟨a1, a2⟩ := hin.mp ha
        obtain ⟨b1, b2⟩ := hin.mp hb
        have hc := noclash (hP.ok b (hs b b1)) (hP.ok a (hs a a1)) b2 a2
        unfold goB at hg
        rw [hc] at hg
        simpa using hg
      rw [hB]
      refine ⟨fun a ha => nf a a ha ha (h1 a (hin.mp ha).1), ?_⟩
      have : (liveIn P L V).Pairwise (fun a b => goB b a = false) := h3.sublist List.filter_sublist
      exact this.imp_of_mem fun {a b} ha hb q => nf a b ha hb q
  cases h : (idxL 0 L).any fun p => (L.take (p.1 + 1)).any fun o => goB p.2 o with
  | false => exact key.mpr h
  | true =>
    cases h' : (vsOf (flagsS P)).any (backV P L) with
    | true => rfl
    | false =>
      rw [key.mp h'] at h
      cases h
end Ra.K3


set_option Elab.async false
set_option linter.all false
set_option maxRecDepth 100000
set_option maxHeartbeats 800000
namespace Ra.K3
open PySem M _root_.K4
def odIn : List S := [(.iff (.cmp .ne (.lc [7] (.nm 7) .seq [(.slL (.var 4) (.var 5))] [(.cmp .isin (.idx (.var 7) (.cst (.int 3))) (.idx (.var 6) (.cst (.int 2))))] (.var 7)) (.lst [])) [(.ret (.cst (.bool false)))] [])]
def odB : List S := [(.set 4 false (.lc [6] (.nm 6) .seq [(.var 2)] [(.cmp .isin (.var 6) (.call 25 [(.var 0), (.var 3)]))] (.var 6))), (.for (.tp [(.nm 5), (.nm 6)]) .enum [(.var 4)] odIn)]
theorem od_inner (call : Call) (wf : Nat) (x0 x1 x2 x3 : PyData) (LH : List Sp) (e5' e6' : Option Val) (m : Mem) :
    (((idxL 0 LH).any fun p => (LH.drop p.1).any fun f => feedB f p.2) = true ∧ forLoop (.tp [(.nm 5), (.nm 6)]) (exB call wf odIn) [] ((idxL 0 LH).map encI) [some (.d x0), some (.d x1), some (.d x2), some (.d x3), some (.d (.list (LH.map enc))), e5', e6', none] m = .ok (.ret (.d (.bool false))) m) ∨
    (((idxL 0 LH).any fun p => (LH.drop p.1).any fun f => feedB f p.2) = false ∧ ∃ a b, forLoop (.tp [(.nm 5), (.nm 6)]) (exB call wf odIn) [] ((idxL 0 LH).map encI) [some (.d x0), some (.d x1), some (.d x2), some (.d x3), some (.d (.list (LH.map enc))), e5', e6', none] m = .ok (.next [some (.d x0), some (.d x1), some (.d x2), some (.d x3), some (.d (.list (LH.map enc))), a, b, none]) m) := by
  have := forLoop_find (t := .tp [(.nm 5), (.nm 6)]) (body := exB call wf odIn) (gs := []) (m := m) encI (fun p => if ((LH.drop p.1).any fun f => feedB f p.2) = true then some (Val.d (.bool false)) else none) (fun env => ∃ a b, env = [some (.d x0), some (.d x1), some (.d x2), some (.d x3), some (.d (.list (LH.map enc))), a, b, none]) rfl (xs := idxL 0 LH) (env := [some (.d x0), some (.d x1), some (.d x2), some (.d x3), some (.d (.list (LH.map enc))), e5', e6', none]) ⟨_, _, rfl⟩ (by
    rintro ⟨i, s⟩ hp env ⟨a, b, rfl⟩
    obtain ⟨h1, _, h3⟩ := idx_mem hp
    simp only at h1 h3
    refine ⟨[some (.d x0), some (.d x1), some (.d x2), some (.d x3), some (.d (.list (LH.map enc))), some (.d (.int i)), some (.d (enc s)), none], by simp [encI], ?_⟩
    have hs : slc (.list (LH.map enc)) (some (i : Int)) none = some (.fr ((LH.drop i).map enc)) := by
      show some (Val.fr (cut (LH.map enc) (some (i : Int)) none)) = _
      rw [cut_lo _ _ (by rw [List.length_map]; omega), List.map_drop]
    have hbody : exB call wf odIn [some (.d x0), some (.d x1), some (.d x2), some (.d x3), some (.d (.list (LH.map enc))), some (.d (.int i)), some (.d (enc s)), none] m = if ((LH.drop i).any fun f => feedB f s) = true then .ok (.ret (.d (.bool false))) m else .ok (.next [some (.d x0), some (.d x1), some (.d x2), some (.d x3), some (.d (.list (LH.map enc))), some (.d (.int i)), some (.d (enc s)), none]) m := by
      generalize LH.drop i = LT at *
      have hem := emp_any (fun f => feedB f s) enc LT
      generalize (LT.any fun f => feedB f s) = bb at hem ⊢
      simp [odIn, hs]
      rw [lcLoop_of enc (fun f => feedB f s) enc rfl]
      · simp only [Res.bind_ok, M.nf_fr, M.v_lst, M.cItems_nil, M.rdR_d, M.cmp_neNil, optR_some, M.boolR_eq, M.truR_bool, hem, Res.noX_ok]
        cases bb <;> simp
      · intro f hf
        refine ⟨_, by simp; rfl, ?_, fun _ => ⟨_, by simp; rfl, by simp⟩⟩
        simp [e2, e3, feedB]
    cases hb : (LH.drop i).any fun f => feedB f s with
    | true =>
      rw [hb] at hbody
      simpa using hbody
    | false =>
      rw [hb] at hbody
      exact ⟨_, by simpa using hbody, _, _, rfl⟩)
  rw [find_any] at this
  cases hb : (idxL 0 LH).any fun p => (LH.drop p.1).any fun f => feedB f p.2 with
  | true =>
    rw [hb] at this
    rcases this with ⟨v, k1, k2⟩ | ⟨k1, _⟩
    · cases k1
      exact .inl ⟨rfl, k2⟩
    · cases k1
  | false =>
    rw [hb] at this
    rcases this with ⟨v, k1, k2⟩ | ⟨k1, env', k2, a, b, rfl⟩
    · cases k1
    · exact .inr ⟨rfl, a, b, k2⟩
theorem sp_ordered (wf n : Nat) (hn : 4 ≤ n) {P : List Sp} (hP : WQ P) {ts : List Str} (ht : ∀ t ∈ ts, tagOk t = true) (htl : ts.length < 100) (m : Mem) : run T wf n 36 [.d (encP P), .d (encV ts)] m = .ok (.d (.bool (isO P ts))) m := by
  obtain ⟨n, rfl⟩ : ∃ k, n = k + 1 := ⟨n - 1, by omega⟩
  rw [run_succ d__law_ordered.fnT rfl rfl (by decide)]
  obtain ⟨v, hv, hvn⟩ := sp_lot wf n (by omega) hP.toWP ht htl m
  have h1 := sp_flagsL wf n (by omega) hP m
  have h2 := sp_sides wf n (by omega) (flagsS P) hP.flags3 m
  have hl : lenD [encP P] = some (.d (.int P.length)) := by simp [encP]
  cases hlo : lotO P ts with
  | none =>
    rw [hlo] at hvn
    simp [d__law_ordered, Df.fnT, b__law_ordered, hv, hvn, lotV, isNone, isO, hlo]
  | some L =>
    rw [hlo] at hvn
    obtain ⟨hn1, hn2, hn3⟩ := lot_names hlo
    by_cases hlen : L.length = P.length
    · have key := forLoop_find (t := .nm 3) (body := exB (run T wf n) wf odB) (gs := []) (m := m) encV (fun V => if backV P L V = true then some (Val.d (.bool false)) else none) (fun env => ∃ e3 e4 e5 e6, env = [some (.d (encP P)), some (.d (encV ts)), some (.d (.list (L.map enc))), e3, e4, e5, e6, none]) rfl (xs := vsOf (flagsS P)) (env := [some (.d (encP P)), some (.d (encV ts)), some (.d (.list (L.map enc))), none, none, none, none, none]) ⟨_, _, _, _, rfl⟩ (by
        rintro V hV env ⟨e3', e4', e5', e6', rfl⟩
        refine ⟨[some (.d (encP P)), some (.d (encV ts)), some (.d (.list (L.map enc))), some (.d (encV V)), e4', e5', e6', none], by simp, ?_⟩
        have q1 := sp_live wf n (by omega) P V m
        have hti : ∀ s : Sp, cmp .isin (enc s) (.list ((live V P).map enc)) = some (decide (s ∈ live V P)) := fun s => in_encL s _
        have s1 : exS (run T wf n) wf (.set 4 false (.lc [6] (.nm 6) .seq [(.var 2)] [(.cmp .isin (.var 6) (.call 25 [(.var 0), (.var 3)]))] (.var 6))) [some (.d (encP P)), some (.d (encV ts)), some (.d (.list (L.map enc))), some (.d (encV V)), e4', e5', e6', none] m = .ok (.next [some (.d (encP P)), some (.d (encV ts)), some (.d (.list (L.map enc))), some (.d (encV V)), some (.d (.list ((liveIn P L V).map enc))), e5', e6', none]) m := by
          simp
          rw [lcLoop_of enc (fun s => decide (s ∈ live V P)) enc rfl]
          · simp [liveIn]
          · intro s hs
            refine ⟨_, by simp; rfl, ?_, fun _ => ⟨_, by simp; rfl, by simp⟩⟩
            simp [q1, hti]
        have he : walk .enum [.list ((liveIn P L V).map enc)] = some ((idxL 0 (liveIn P L V)).map encI) := by
          show some (enumD 0 ((liveIn P L V).map enc)) = _
          rw [enum_idx]
        have hs2 : ∀ res, forLoop (.tp [(.nm 5), (.nm 6)]) (exB (run T wf n) wf odIn) [] ((idxL 0 (liveIn P L V)).map encI) [some (.d (encP P)), some (.d (encV ts)), some (.d (.list (L.map enc))), some (.d (encV V)), some (.d (.list ((liveIn P L V).map enc))), e5', e6', none] m = res → exB (run T wf n) wf odB [some (.d (encP P)), some (.d (encV ts)), some (.d (.list (L.map enc))), some (.d (encV V)), e4', e5', e6', none] m = res.bind (nextF (exB (run T wf n) wf [])) := by
          intro res hres
          rw [odB, exB_cons, s1, Res.bind_ok, nextF_next, exB_cons]
          congr 1
          rw [← hres]
          simp only [M.x_for, M.srcR_eq, M.cArgs_cons, M.cArgs_nil, M.v_var, getV_zero, getV_succ, optR_some, Res.bind_ok, nf_d, M.lookAll_d, M.lookAll_nil, Option.map_some, he, M.guards_d, M.guards_nil, Res.noX_ok]
        rcases od_inner (run T wf n) wf (encP P) (encV ts) (.list (L.map enc)) (encV V) (liveIn P L V) e5' e6' m with ⟨k1, k2⟩ | ⟨k1, a, b, k2⟩
        · have hb : backV P L V = true := k1
          simp only [hb, if_true]
          rw [hs2 _ k2]
          rfl
        · have hb : backV P L V = false := k1
          simp only [hb]
          exact ⟨_, by rw [hs2 _ k2]; rfl, _, _, _, _, rfl⟩)
      rw [find_any, order_iff hP.toWP hn2] at key
      have hio : isO P ts = !((idxL 0 L).any fun p => (L.take (p.1 + 1)).any fun o => goB p.2 o) := by
        unfold isO
        rw [hlo]
        simp [hlen]
      rw [hio]
      cases hb : (idxL 0 L).any fun p => (L.take (p.1 + 1)).any fun o => goB p.2 o with
      | true =>
        rw [hb] at key
        rcases key with ⟨v', k1, k2⟩ | ⟨k1, _⟩
        · cases k1
          simp [d__law_ordered, Df.fnT, b__law_ordered, hv, hvn, lotV, isNone, hl, hlen, h1, h2]
          unfold odB odIn at k2
          rw [k2]
          simp
        · cases k1
      | false =>
        rw [hb] at key
        rcases key with ⟨v', k1, k2⟩ | ⟨k1, env', k2, a, b, c, d, rfl⟩
        · cases k1
        · simp [d__law_ordered, Df.fnT, b__law_ordered, hv, hvn, lotV, isNone, hl, hlen, h1, h2]
          unfold odB odIn at k2
          rw [k2]
          simp
    · have hne : ¬ ((L.length : Int) = (P.length : Int)) := by omega
      simp [d__law_ordered, Df.fnT, b__law_ordered, hv, hvn, lotV, isNone, hl, hne, isO, hlo, hlen]
end Ra.K3


set_option Elab.async false
set_option linter.all false
set_option maxRecDepth 100000
set_option maxHeartbeats 800000
namespace Ra.K3
open PySem M _root_.K4
section
variable (R : Sp → Sp → Bool)
def chR : List Sp → Bool
  | a :: b :: r => R a b && chR (b :: r)
  | _ => true
def cyR : List Sp → Bool
  | [] => false
  | x :: xs => chR R (x :: xs ++ [x])
theorem chR_snoc : ∀ (l : List Sp) (a x : Sp), chR R (l ++ [a] ++ [x]) = (chR R (l ++ [a]) && R a x)
  | [], a, x => by simp [chR]
  | [b], a, x => by simp [chR]
  | b :: c :: l, a, x => by
    have ih := chR_snoc (c :: l) a x
    simp only [List.cons_append, chR] at ih ⊢
    rw [ih, Bool.and_assoc]
theorem chR_tail {a : Sp} {l : List Sp} (h : chR R (a :: l) = true) : chR R l = true := by
  cases l with
  | nil => rfl
  | cons b r =>
    simp only [chR, Bool.and_eq_true] at h
    exact h.2
theorem chR_drop : ∀ (i : Nat) {l : List Sp}, chR R l = true → chR R (l.drop i) = true
  | 0, _, h => h
  | i + 1, [], h => by simpa using h
  | i + 1, a :: l, h => chR_drop i (chR_tail R h)
theorem chR_iff : ∀ l : List Sp, chR R l = true ↔ ∀ i a b, l[i]? = some a → l[i + 1]? = some b → R a b = true
  | [] => by simp [chR]
  | [x] => by simp [chR]
  | x :: y :: r => by
    rw [chR, Bool.and_eq_true, chR_iff (y :: r)]
    constructor
    · rintro ⟨h1, h2⟩ i a b ha hb
      cases i with
      | zero =>
        simp at ha hb
        subst ha hb
        exact h1
      | succ i => exact h2 i a b (by simpa using ha) (by simpa using hb)
    · intro h
      exact ⟨h 0 x y rfl rfl, fun i a b ha hb => h (i + 1) a b (by simpa using ha) (by simpa using hb)⟩
def rnR (L : List Sp) (k : Nat) : Bool := match L[predN L.length k]?, L[k]? with
  | some a, some b => R a b
  | _, _ => true
theorem cyR_iff {L : List Sp} (hne : L ≠ []) : cyR R L = (List.range' 0 L.length).all (rnR R L) := by
  obtain ⟨x, xs, rfl⟩ := List.exists_cons_of_ne_nil hne
  rw [Bool.eq_iff_iff, cyR, chR_iff, List.all_eq_true]
  have hlt : ∀ i, i < (x :: xs).length → (x :: xs ++ [x])[i]? = (x :: xs)[i]? := fun i hi => List.getElem?_append_left hi
  have hn : (x :: xs ++ [x])[(x :: xs).length]? = some x := by rw [List.getElem?_append_right (Nat.le_refl _)]; simp
  constructor
  · intro h k hk
    have hk' : k < (x :: xs).length := by
      have := (List.mem_range'_1.mp hk).2
      omega
    unfold rnR predN
    split
    · rename_i a b ha hb
      by_cases h0 : k = 0
      · subst h0
        rw [if_pos rfl] at ha
        have hb' : b = x := by simpa using hb.symm
        subst hb'
        refine h ((b :: xs).length - 1) a b (by rw [hlt _ (by simp)]; exact ha) ?_
        rw [show (b :: xs).length - 1 + 1 = (b :: xs).length by simp]
        exact hn
      · rw [if_neg h0] at ha
        refine h (k - 1) a b (by rw [hlt _ (by omega)]; exact ha) ?_
        rw [show k - 1 + 1 = k by omega, hlt _ hk']
        exact hb
    · rfl
  · intro h i a b ha hb
    have hi : i + 1 < (x :: xs ++ [x]).length := (List.getElem?_eq_some_iff.mp hb).1
    rw [List.length_append, List.length_singleton] at hi
    rw [hlt i (by omega)] at ha
    by_cases he : i + 1 = (x :: xs).length
    · rw [he, hn] at hb
      cases hb
      have := h 0 (List.mem_range'_1.mpr ⟨by omega, by omega⟩)
      unfold rnR predN at this
      rw [if_pos rfl, show (x :: xs).length - 1 = i by omega, ha] at this
      simpa using this
    · rw [hlt _ (by omega)] at hb
      have := h (i + 1) (List.mem_range'_1.mpr ⟨by omega, by omega⟩)
      unfold rnR predN at this
      rw [if_neg (by omega), show i + 1 - 1 = i by omega, ha, hb] at this
      exact this
theorem cyR_zip : ∀ (a : Sp) (l : List Sp) (z : Sp), ((a :: l).zip (l ++ [z])).all (fun p => R p.1 p.2) = chR R (a :: l ++ [z])
  | a, [], z => by simp [chR]
  | a, b :: l, z => by
    have ih := cyR_zip b l z
    simp only [List.cons_append, List.zip_cons_cons, List.all_cons, chR] at ih ⊢
    rw [ih]
end
theorem chR_mono {R R' : Sp → Sp → Bool} (h : ∀ a b, R a b = true → R' a b = true) : ∀ l, chR R l = true → chR R' l = true
  | [], _ => rfl
  | [x], _ => rfl
  | x :: y :: r, q => by
    simp only [chR, Bool.and_eq_true] at q ⊢
    exact ⟨h _ _ q.1, chR_mono h (y :: r) q.2⟩
theorem chR_feed : ∀ l, chR feedB l = chainB l
  | [] => rfl
  | [x] => rfl
  | x :: y :: r => by
    rw [chR, chainB, chR_feed (y :: r)]
theorem cyR_feed (L : List Sp) : cyR feedB L = cycB L := by
  cases L with
  | nil => rfl
  | cons x xs => exact chR_feed _
structure RingG (L r : List Sp) : Prop where
  sub : ∀ s ∈ r, s ∈ L
  nd : r.Nodup
  cyc : cyR goB r = true
theorem next_okG {L : List Sp} (h : ∀ s ∈ L, ∃ o ∈ L, goB s o = true) {a : Sp} (ha : a ∈ L) : ∃ z, nextC L a = some z ∧ z ∈ L ∧ goB a z = true := by
  obtain ⟨o, ho, hg⟩ := h a ha
  have hne : (L.filter fun o => goB a o) ≠ [] := List.ne_nil_of_mem (List.mem_filter.mpr ⟨ho, hg⟩)
  obtain ⟨z, r, e⟩ := List.exists_cons_of_ne_nil hne
  have hz : z ∈ L.filter fun o => goB a o := by rw [e]; exact List.mem_cons_self
  obtain ⟨h1, h2⟩ := List.mem_filter.mp hz
  exact ⟨z, by unfold nextC; rw [e]; rfl, h1, h2⟩
theorem ring_goG {L : List Sp} (h : ∀ s ∈ L, ∃ o ∈ L, goB s o = true) : ∀ (n : Nat) (row : List Sp) (a : Sp), (row ++ [a]).Nodup → (∀ s ∈ row ++ [a], s ∈ L) → chR goB (row ++ [a]) = true → L.length < n + (row.length + 1) → ∃ r, ringGo L n (row ++ [a]) = some r ∧ RingG L r
  | 0, row, a, nd, hs, _, hl => by
    have := nodup_len nd hs
    rw [List.length_append, List.length_singleton] at this
    omega
  | n + 1, row, a, nd, hs, hc, hl => by
    obtain ⟨z, h1, h2, h3⟩ := next_okG h (hs a (by simp))
    unfold ringGo
    simp only [List.getLast?_append, List.getLast?_singleton, Option.some_or, h1]
    by_cases hz : z ∈ row ++ [a]
    · rw [if_pos hz]
      have hi : (row ++ [a]).findIdx (· == z) < (row ++ [a]).length := List.findIdx_lt_length_of_exists ⟨z, hz, by simp⟩
      have hget : (row ++ [a])[(row ++ [a]).findIdx (· == z)] = z := by
        have := List.findIdx_getElem (w := hi)
        simpa using this
      have hd : (row ++ [a]).drop ((row ++ [a]).findIdx (· == z)) = z :: (row ++ [a]).drop ((row ++ [a]).findIdx (· == z) + 1) := by
        rw [List.drop_eq_getElem_cons hi, hget]
      refine ⟨_, rfl, fun s hs' => hs s (List.mem_of_mem_drop hs'), nd.sublist (List.drop_sublist _ _), ?_⟩
      have hcc : chR goB (row ++ [a] ++ [z]) = true := by rw [chR_snoc, hc, h3]; rfl
      have := chR_drop goB ((row ++ [a]).findIdx (· == z)) hcc
      rw [List.drop_append_of_le_length (Nat.le_of_lt hi)] at this
      rw [hd] at this ⊢
      exact this
    · rw [if_neg hz]
      exact ring_goG h n (row ++ [a]) z (by
        rw [List.nodup_append]
        exact ⟨nd, by simp, fun x hx y hy => by rw [List.mem_singleton.mp hy]; rintro rfl; exact hz hx⟩) (fun s hs' => by
          rcases List.mem_append.mp hs' with q | q
          · exact hs s q
          · rw [List.mem_singleton.mp q]; exact h2) (by rw [chR_snoc, hc, h3]; rfl) (by rw [List.length_append, List.length_singleton]; omega)
theorem ringG_ok {L : List Sp} (h : ∀ s ∈ L, ∃ o ∈ L, goB s o = true) (hne : L ≠ []) : ∃ r, ringAmong L = some r ∧ RingG L r := by
  obtain ⟨a, l, rfl⟩ := List.exists_cons_of_ne_nil hne
  exact ring_goG h _ [] a (by simp) (by simp) rfl (by simp)
/-- a ring is told just where there is no order -/
theorem ringL_iff {P : List Sp} : (ringL P = none ↔ canB P = true) ∧ ∀ r, ringL P = some r → RingG P r := by
  unfold ringL
  by_cases e : core P = []
  · refine ⟨⟨fun _ => can_iff.mpr (core_iff.mp e), fun _ => by rw [e]; rfl⟩, fun r hr => ?_⟩
    rw [e] at hr
    cases hr
  · obtain ⟨r, h1, h2⟩ := ringG_ok (core_next P) e
    refine ⟨⟨fun q => (by rw [h1] at q; cases q), fun q => absurd (core_iff.mpr (can_iff.mp q)) e⟩, fun r' hr => ?_⟩
    rw [h1] at hr
    cases hr
    exact ⟨fun s hs => (core_sub P).subset (h2.sub s hs), h2.nd, h2.cyc⟩
def ncB (a b : Sp) : Bool := !clashB a.cd b.cd
def isL (P : List Sp) (ts : List Str) : Bool := match lotO P ts with
  | none => false
  | some L => cycB L && cyR ncB L
theorem all_any {α : Type} (f : α → Bool) (L : List α) : (!(L.any f)) = L.all fun x => !f x := by
  rw [Bool.eq_iff_iff]
  simp
theorem sp_isl (wf n : Nat) (hn : 7 ≤ n) {x : PyData} {P : List Sp} (hx : Rd x P) (hP : WQ P) {ts : List Str} (ht : ∀ t ∈ ts, tagOk t = true) (htl : ts.length < 100) (m : Mem) : run T wf n 14 [.d x, .d (encV ts)] m = .ok (.d (.bool (isL P ts))) m := by
  obtain ⟨n, rfl⟩ : ∃ k, n = k + 1 := ⟨n - 1, by omega⟩
  rw [run_succ d_is_loose_ring.fnT rfl rfl (by decide)]
  obtain ⟨v, hv, hvn⟩ := sp_row wf n (by omega) hx hP.toWP ht htl m
  simp [d_is_loose_ring, Df.fnT, b_is_loose_ring, hv, hvn]
  cases hlo : lotO P ts with
  | none => simp [lotV, isNone, isL, hlo]
  | some L =>
    obtain ⟨hn1, hn2, hn3⟩ := lot_names hlo
    have hLl : L.length < 100 := by
      have := congrArg List.length hn1
      rw [List.length_map] at this
      omega
    have hrd := sp_round wf n (by omega) L (by omega) m
    simp [lotV, isNone, hrd]
    cases hcy : cycB L with
    | false => simp [isL, hlo, hcy]
    | true =>
      rcases L with _ | ⟨a, l⟩
      · cases hcy
      · have hz : zipD (enc a :: l.map enc) (l.map enc ++ [enc a]) = ((a :: l).zip (l ++ [a])).map fun p => .tuple [enc p.1, enc p.2] := by
          rw [← zip_encs]; simp
        have hll' : l.length + 1 ≤ lim := by
          rw [List.length_cons] at hLl
          simp [lim]; omega
        simp [slc, cut_one, idxL0, hll', hz]
        rw [lcLoop_ofm _ (fun p => .bool (clashB p.1.cd p.2.cd)) rfl]
        · have hA := anyD_map (fun p : Sp × Sp => clashB p.1.cd p.2.cd) ((a :: l).zip (l ++ [a]))
          have hB : (!((a :: l).zip (l ++ [a])).any fun p => clashB p.1.cd p.2.cd) = cyR ncB (a :: l) := by
            rw [all_any]
            exact cyR_zip ncB a l a
          have hi : isL P ts = cyR ncB (a :: l) := by
            unfold isL; rw [hlo]; simp [hcy]
          rw [hi, ← hB]
          simp only [Res.bind_ok, M.nf_fr, M.lookAll_d, M.lookAll_nil, Option.map_some, optR_some, hA]
          generalize (((a :: l).zip (l ++ [a])).any fun p => clashB p.1.cd p.2.cd) = bb
          simp
        · intro p hp
          have hm : p.1 ∈ a :: l := (List.of_mem_zip hp).1
          have := sp_clash wf n (by omega) (hP.ok p.1 (hn2 p.1 hm)) p.2.cd m
          simp [e4, this]
theorem sp_loose (wf n : Nat) (hn : 4 ≤ n) {P : List Sp} (hP : WQ P) {ts : List Str} (ht : ∀ t ∈ ts, tagOk t = true) (htl : ts.length < 100) (m : Mem) : run T wf n 37 [.d (encP P), .d (encV ts)] m = .ok (.d (.bool (isL P ts))) m := by
  obtain ⟨n, rfl⟩ : ∃ k, n = k + 1 := ⟨n - 1, by omega⟩
  rw [run_succ d__law_loose.fnT rfl rfl (by decide)]
  obtain ⟨v, hv, hvn⟩ := sp_lot wf n (by omega) hP.toWP ht htl m
  simp [d__law_loose, Df.fnT, b__law_loose, hv, hvn]
  cases hlo : lotO P ts with
  | none => simp [lotV, isNone, isL, hlo]
  | some L =>
    obtain ⟨hn1, hn2, hn3⟩ := lot_names hlo
    have hLl : L.length < 100 := by
      have := congrArg List.length hn1
      rw [List.length_map] at this
      omega
    have hrd := sp_rounds wf n (by omega) L (by omega) m
    simp [lotV, isNone, hrd]
    cases hcy : cycB L with
    | false => simp [isL, hlo, hcy]
    | true =>
      have hne : L ≠ [] := by
        rintro rfl
        cases hcy
      have hw : walk .range [.int L.length] = some ((List.range' 0 L.length).map fun i : Nat => PyData.int i) := by
        rw [M.walk_range (by omega)]
        exact congrArg some (range_map L.length 0)
      generalize hrg : List.range' 0 L.length = rg at hw
      simp [hw]
      rw [lcLoop_of (fun i : Nat => PyData.int i) (fun k => !rnR ncB L k) (fun i : Nat => PyData.int i) rfl]
      · simp [isL, hlo, hcy, cyR_iff ncB hne, hrg, allB_eq]
      · intro k hk
        have hk' : k < L.length := by
          rw [← hrg] at hk
          have := (List.mem_range'_1.mp hk).2
          omega
        have hp : predN L.length k < L.length := by unfold predN; split <;> omega
        obtain ⟨a, ha⟩ : ∃ a, L[predN L.length k]? = some a := ⟨_, List.getElem?_eq_getElem hp⟩
        obtain ⟨b, hb⟩ : ∃ b, L[k]? = some b := ⟨_, List.getElem?_eq_getElem hk'⟩
        have hoa := hP.ok a (hn2 a (List.mem_of_getElem? ha))
        have hob := hP.ok b (hn2 b (List.mem_of_getElem? hb))
        have hr : (!rnR ncB L k) = partB a.cd b.cd := by
          unfold rnR
          rw [ha, hb, ← clash_parts hoa hob]
          simp [ncB]
        have i1 := idx_pred hk' ha
        have i2 := idx_at hb
        have hs : bop .sub (.int k) (.int 1) = some (.d (.int ((k : Int) - 1))) := rfl
        have hpt := sp_parts wf n (by omega) a.cd b.cd m
        refine ⟨_, by simp; rfl, ?_, fun _ => ⟨_, by simp; rfl, by simp⟩⟩
        rw [hr]
        simp [hs, i1, i2, e4, hpt]
end Ra.K3


set_option Elab.async false
set_option linter.all false
set_option maxRecDepth 100000
set_option maxHeartbeats 1600000
namespace Ra.K3
open PySem M _root_.K4
/-! a list of names is no row -/
theorem row_list (wf n : Nat) (hn : 6 ≤ n) {x : PyData} {P : List Sp} (hx : Rd x P) (hP : WP P) (xs : List PyData) (m : Mem) : run T wf n 9 [.d x, .d (.list xs)] m = .ok (.d .none) m := by
  obtain ⟨n, rfl⟩ : ∃ k, n = k + 1 := ⟨n - 1, by omega⟩
  rw [run_succ d_named_row.fnT rfl rfl (by decide)]
  simp [d_named_row, Df.fnT, b_named_row, hx.run wf n (by omega)]
  rw [dcLoop_of enc Sp.nm enc rfl (by intro s hs; simp [e0]), dict_P hP]
  simp [isi]
theorem tags_list (wf n : Nat) (hn : 1 ≤ n) (xs : List PyData) (m : Mem) : run T wf n 32 [.d (.list xs)] m = .ok (.d (.bool false)) m := by
  obtain ⟨n, rfl⟩ : ∃ k, n = k + 1 := ⟨n - 1, by omega⟩
  rw [run_succ d__law_tags.fnT rfl rfl (by decide)]
  simp [d__law_tags, Df.fnT, b__law_tags, isi]
theorem lot_list (wf n : Nat) (hn : 2 ≤ n) {P : List Sp} (hP : WP P) (xs : List PyData) (m : Mem) : run T wf n 33 [.d (encP P), .d (.list xs)] m = .ok (.d .none) m := by
  obtain ⟨n, rfl⟩ : ∃ k, n = k + 1 := ⟨n - 1, by omega⟩
  rw [run_succ d__law_lot.fnT rfl rfl (by decide)]
  have htg := tags_list wf n (by omega) xs m
  simp [d__law_lot, Df.fnT, b__law_lot]
  rw [lcLoop_ofm enc (fun s => .tuple [.str s.nm, enc s]) rfl (by intro s hs; simp [e0])]
  simp only [Res.bind_ok, M.nf_fr, M.rdR_d, dmkR_l, pairs_of Sp.nm enc, dict_P hP, optR_some]
  simp [htg]
theorem iso_list (wf n : Nat) (hn : 7 ≤ n) {x : PyData} {P : List Sp} (hx : Rd x P) (hP : WP P) (xs : List PyData) (m : Mem) : run T wf n 12 [.d x, .d (.list xs)] m = .ok (.d (.bool false)) m := by
  obtain ⟨n, rfl⟩ : ∃ k, n = k + 1 := ⟨n - 1, by omega⟩
  rw [run_succ d_is_one_order.fnT rfl rfl (by decide)]
  simp [d_is_one_order, Df.fnT, b_is_one_order, row_list wf n (by omega) hx hP xs m, isNone]
theorem isl_list (wf n : Nat) (hn : 7 ≤ n) {x : PyData} {P : List Sp} (hx : Rd x P) (hP : WP P) (xs : List PyData) (m : Mem) : run T wf n 14 [.d x, .d (.list xs)] m = .ok (.d (.bool false)) m := by
  obtain ⟨n, rfl⟩ : ∃ k, n = k + 1 := ⟨n - 1, by omega⟩
  rw [run_succ d_is_loose_ring.fnT rfl rfl (by decide)]
  simp [d_is_loose_ring, Df.fnT, b_is_loose_ring, row_list wf n (by omega) hx hP xs m, isNone]
theorem ordered_list (wf n : Nat) (hn : 3 ≤ n) {P : List Sp} (hP : WP P) (xs : List PyData) (m : Mem) : run T wf n 36 [.d (encP P), .d (.list xs)] m = .ok (.d (.bool false)) m := by
  obtain ⟨n, rfl⟩ : ∃ k, n = k + 1 := ⟨n - 1, by omega⟩
  rw [run_succ d__law_ordered.fnT rfl rfl (by decide)]
  simp [d__law_ordered, Df.fnT, b__law_ordered, lot_list wf n (by omega) hP xs m, isNone]
theorem loose_list (wf n : Nat) (hn : 3 ≤ n) {P : List Sp} (hP : WP P) (xs : List PyData) (m : Mem) : run T wf n 37 [.d (encP P), .d (.list xs)] m = .ok (.d (.bool false)) m := by
  obtain ⟨n, rfl⟩ : ∃ k, n = k + 1 := ⟨n - 1, by omega⟩
  rw [run_succ d__law_loose.fnT rfl rfl (by decide)]
  simp [d__law_loose, Df.fnT, b__law_loose, lot_list wf n (by omega) hP xs m, isNone]
/-! what is told is right -/
theorem ord_ok {P : List Sp} (hP : WP P) {wf : Nat} (hw : P.length < wf) : (canB P = true → ∃ o, ordP wf P = some o ∧ isO P (o.map Sp.nm) = true ∧ o.Perm P) ∧ (canB P = false → ordP wf P = none) := by
  constructor
  · intro h
    obtain ⟨o, h1, h2, h3⟩ := ord_some (wf - 1) P [] (by omega) (can_iff.mp h) ⟨.nil, by simp⟩ (by simp)
    rw [List.nil_append] at h2
    refine ⟨o, h1, ?_, h2⟩
    unfold isO
    rw [lot_self hP (fun s hs => h2.mem_iff.mp hs) (h2.nodup_iff.mpr hP.nd)]
    have h4 := (idx_take goB o o [] rfl).mpr ⟨⟨h3.self, h3.pw⟩, by simp⟩
    simp only [List.length_nil] at h4
    simp only [h4, h2.length_eq]
    simp
  · intro h
    refine ord_none (wf - 1) P [] (by omega) ?_
    exact Classical.not_not.mp fun q => by
      rw [can_iff.mpr q] at h
      cases h
theorem ring_okL {P : List Sp} (hP : WP P) {r : List Sp} (h : ringL P = some r) : isL P (r.map Sp.nm) = true := by
  have hr := ringL_iff.2 r h
  unfold isL
  rw [lot_self hP hr.sub hr.nd]
  simp only
  have hc := hr.cyc
  cases r with
  | nil => cases hc
  | cons x xs =>
    have h1 : cyR feedB (x :: xs) = true := chR_mono (fun a b q => by unfold goB at q; exact (Bool.and_eq_true_iff.mp q).1) _ hc
    have h2 : cyR ncB (x :: xs) = true := chR_mono (fun a b q => by unfold goB at q; exact (Bool.and_eq_true_iff.mp q).2) _ hc
    rw [cyR_feed] at h1
    rw [h1, h2]
    rfl
end Ra.K3


set_option Elab.async false
set_option linter.all false
set_option maxRecDepth 100000
set_option maxHeartbeats 1600000
namespace Ra.K3
open PySem M _root_.K4
@[simp] theorem t_callk' (call : Call) (env : Env) (m : Mem) (es : List E) (f : Nat) (is : List Nat) : (sem call (.callk f is es)).t env m = ((sem call (.callk f is es)).v env m).bind truR := rfl
/-- an item of the pool: a row of names, or the list of all names -/
def encT (N : List Str) : Option (List Str) → PyData
  | some ts => encV ts
  | none => .list (N.map PyData.str)
def vO (P : List Sp) : Option (List Str) → Bool
  | some ts => isO P ts
  | none => false
def vL (P : List Sp) : Option (List Str) → Bool
  | some ts => isL P ts
  | none => false
def okT : Option (List Str) → Prop
  | some ts => (∀ t ∈ ts, tagOk t = true) ∧ ts.length < 100
  | none => True
section
variable {P : List Sp} (hP : WT P) (wf n : Nat) (hn : 8 ≤ n) (N : List Str) (m : Mem)
include hP hn
theorem it_iso {x : PyData} (hx : Rd x P) (hl : lenD [x] = some (.d (.int P.length))) {i : Option (List Str)} (hi : okT i) : run T wf n 12 [.d x, .d (encT N i)] m = .ok (.d (.bool (vO P i))) m := by
  cases i with
  | some ts => exact sp_iso wf n (by omega) hx hl hP.toWQ hi.1 hi.2 m
  | none => exact iso_list wf n (by omega) hx hP.toWP _ m
theorem it_isl {x : PyData} (hx : Rd x P) {i : Option (List Str)} (hi : okT i) : run T wf n 14 [.d x, .d (encT N i)] m = .ok (.d (.bool (vL P i))) m := by
  cases i with
  | some ts => exact sp_isl wf n (by omega) hx hP.toWQ hi.1 hi.2 m
  | none => exact isl_list wf n (by omega) hx hP.toWP _ m
theorem it_ord {i : Option (List Str)} (hi : okT i) : run T wf n 36 [.d (encP P), .d (encT N i)] m = .ok (.d (.bool (vO P i))) m := by
  cases i with
  | some ts => exact sp_ordered wf n (by omega) hP.toWQ hi.1 hi.2 m
  | none => exact ordered_list wf n (by omega) hP.toWP _ m
theorem it_loo {i : Option (List Str)} (hi : okT i) : run T wf n 37 [.d (encP P), .d (encT N i)] m = .ok (.d (.bool (vL P i))) m := by
  cases i with
  | some ts => exact sp_loose wf n (by omega) hP.toWQ hi.1 hi.2 m
  | none => exact loose_list wf n (by omega) hP.toWP _ m
end
/-- three rows of names are drawn -/
theorem draw_rows (wf n k : Nat) (env : Env) (N : List Str) (hN : N.length < 100) (hE : ∀ x, ∃ env', asg (.nm 11) x env = some env' ∧ getV env' 0 = some (.mr k) ∧ getV env' 2 = some (.d (.list (N.map PyData.str)))) : ∀ (c : Nat) (lo : Int) (B : Nat) (m : Mem), Bx k B m → B + 100 * c < 10000000 →
    ∃ (ls : List (List Str)) (m' : Mem), lcLoop (.nm 11) (sems (run T wf (n + 2)) []) (sem (run T wf (n + 2)) (.bi .tuple [(.call 19 [(.var 0), (.var 2), (.bi .len [(.var 2)])])])) [] env (rangeD lo c) m = .ok (ls.map encV) m' ∧ ls.length = c ∧ (∀ l ∈ ls, l.Perm N) ∧ Bx k (B + 100 * c) m' ∧ Up k m m'
  | 0, lo, B, m, hB, _ => ⟨[], m, rfl, rfl, by simp, by simpa using hB, Up.refl _ _⟩
  | c + 1, lo, B, m, hB, hlt => by
    obtain ⟨env', h1, h2, h3⟩ := hE (.int lo)
    obtain ⟨ys, m1, a1, a2, ⟨rest, a3⟩, a4, a5⟩ := sp_pick wf n k B N.length m (N.map PyData.str) hB (by omega) (by rw [List.length_map]; omega) (by rw [List.length_map]; omega)
    have hrest : rest = [] := by
      have := a3.length_eq
      rw [List.length_append, List.length_map, a2] at this
      exact List.length_eq_zero_iff.mp (by omega)
    subst hrest
    rw [List.append_nil] at a3
    obtain ⟨l, hl, rfl⟩ := perm_map PyData.str a3 N rfl
    obtain ⟨ls, m', b1, b2, b3, b4, b5⟩ := draw_rows wf n k env N hN hE c (lo + 1) (B + 100) m1 (a4.mono (by omega)) (by omega)
    refine ⟨l :: ls, m', ?_, by simp [b2], fun q hq => ?_, b4.mono (by omega), a5.trans b5⟩
    · unfold rangeD lcLoop
      rw [h1]
      simp [h2, h3, a1, b1, encV]
    · rcases List.mem_cons.mp hq with rfl | hq
      · exact hl
      · exact b3 q hq
end Ra.K3


set_option Elab.async false
set_option linter.all false
set_option maxRecDepth 100000
set_option maxHeartbeats 1600000
namespace Ra.K3
open PySem M _root_.K4
theorem cut4 {α : Type} (xs : List α) : cut xs none (some 4) = xs.take 4 := by
  unfold cut
  rw [show (4 : Int) = ((4 : Nat) : Int) from rfl, HT.sIx_nat, HT.sIx_none, Nat.sub_zero, List.drop_zero]
  rcases Nat.le_total 4 xs.length with h | h
  · rw [Nat.min_eq_left h]
  · rw [Nat.min_eq_right h, List.take_of_length_le (Nat.le_refl _), List.take_of_length_le h]
abbrev env12 (k : Nat) (x : PyData) (e2 e3 e4 e5 : Option Val) (x6 : PyData) (c : Bool) (x8 x9 : PyData) : Env := [some (.mr k), some (.d x), e2, e3, e4, e5, some (.d x6), some (.d (.bool c)), some (.d x8), some (.d x9), none, none]
theorem case_tail (wf n k B : Nat) {P : List Sp} (hP : WT P) (m : Mem) (c : Bool) (v8 v9 : PyData) (tm : List Str) (htm : (∀ t ∈ tm, tagOk t = true) ∧ tm.length < 100) (hv : (if c = true then v8 else v9) = encV tm) (hB : Bx k B m) (hlt : B < 1000000) :
    ∃ m', exB (run T wf (n + 11)) wf [cB 4, cB 5, cB 6, cB 7, cB 8] (env12 k (encP P) none none none none (lisD (encP P)) c v8 v9) m = .ok (.ret (.d (.bool true))) m' ∧ Bx k (B + 300) m' ∧ Up k m m' := by
  have hl8 := hP.len
  have hNok : ∀ t ∈ P.map Sp.nm, tagOk t = true := fun t h => by
    obtain ⟨s, h1, rfl⟩ := List.mem_map.mp h
    exact hP.nmok s h1
  have hNl : (P.map Sp.nm).length ≤ 8 := by rw [List.length_map]; omega
  have s4 : exS (run T wf (n + 11)) wf (cB 4) (env12 k (encP P) none none none none (lisD (encP P)) c v8 v9) m = .ok (.next (env12 k (encP P) (some (.d (.list ((P.map Sp.nm).map PyData.str)))) none none none (lisD (encP P)) c v8 v9)) m := by
    simp [cB, b__law_case_right]
    rw [lcLoop_ofm enc (fun s => .str s.nm) rfl]
    · simp [Function.comp_def]
    · intro s hs
      simp [e0]
  generalize P.map Sp.nm = N at *
  obtain ⟨ls, m1, a1, a2, a3, a4, a5⟩ := draw_rows wf (n + 9) k (wipe (env12 k (encP P) (some (.d (.list (N.map PyData.str)))) none none none (lisD (encP P)) c v8 v9) [11]) N (by omega) (fun x => ⟨_, by simp; rfl, by simp, by simp⟩) 3 0 B m hB (by omega)
  obtain ⟨its, hits⟩ : ∃ z, z = ls.map some ++ [some N, some N.reverse, some (N.drop 1), some tm, none] := ⟨_, rfl⟩
  have hok : ∀ i ∈ its, okT i := by
    intro i hi
    rw [hits] at hi
    rcases List.mem_append.mp hi with h | h
    · obtain ⟨l, hl, rfl⟩ := List.mem_map.mp h
      have hp := a3 l hl
      exact ⟨fun t ht => hNok t (hp.mem_iff.mp ht), by rw [hp.length_eq]; omega⟩
    · simp only [List.mem_cons, List.not_mem_nil, or_false] at h
      rcases h with rfl | rfl | rfl | rfl | rfl
      · exact ⟨hNok, by omega⟩
      · exact ⟨fun t ht => hNok t (by simpa using ht), by rw [List.length_reverse]; omega⟩
      · exact ⟨fun t ht => hNok t (List.mem_of_mem_drop ht), by rw [List.length_drop]; omega⟩
      · exact htm
      · trivial
  have hil : its.length = 8 := by rw [hits]; simp [a2]
  have hsl : slc (.list (N.map PyData.str)) (some 1) none = some (.fr ((N.drop 1).map PyData.str)) := by
    show some (Val.fr (cut (N.map PyData.str) (some 1) none)) = _
    rw [cut_one, List.map_drop]
  have hrv : revd (.list (N.map PyData.str)) = some (.fr (N.reverse.map PyData.str)) := by
    show some (Val.fr (N.map PyData.str).reverse) = _
    rw [List.map_reverse]
  have hadd : bop .add (.list (ls.map encV)) (.list [encV N, encV N.reverse, encV (N.drop 1), encV tm, .list (N.map PyData.str)]) = some (.fr (its.map (encT N))) := by
    rw [addL _ _ (by simp [a2]), hits]
    congr 2
    simp [encT, Function.comp_def]
  clear hits
  generalize N.drop 1 = N1 at hsl hadd
  generalize N.reverse = N2 at hrv hadd
  have s5 : exS (run T wf (n + 11)) wf (cB 5) (env12 k (encP P) (some (.d (.list (N.map PyData.str)))) none none none (lisD (encP P)) c v8 v9) m = .ok (.next (env12 k (encP P) (some (.d (.list (N.map PyData.str)))) (some (.d (.list (its.map (encT N))))) none none (lisD (encP P)) c v8 v9)) m1 := by
    have hw := M.walk_range (n := 3) (by omega)
    rw [show ((3 : Nat) : Int) = 3 from rfl] at hw
    generalize rangeD 0 3 = rr at a1 hw
    simp only [wipe_cons, wipe_nil, List.set_cons_succ, List.set_cons_zero] at a1
    simp [cB, b__law_case_right, hw, -List.map_drop, -List.map_reverse]
    rw [a1]
    cases c with
    | true =>
      have hv' : v8 = encV tm := hv
      subst hv'
      simp [hsl, hrv, -List.map_drop, -List.map_reverse]
      have := hadd
      simp only [encV] at this ⊢
      rw [this]
      simp
    | false =>
      have hv' : v9 = encV tm := hv
      subst hv'
      simp [hsl, hrv, -List.map_drop, -List.map_reverse]
      have := hadd
      simp only [encV] at this ⊢
      rw [this]
      simp
  have hu : ∀ (f : Nat) (x : PyData) (g : Option (List Str) → Bool) (js : List (Option (List Str))), (∀ i ∈ js, i ∈ its) → (∀ i, okT i → run T wf (n + 11) f [.d x, .d (encT N i)] m1 = .ok (.d (.bool (g i))) m1) → ∀ (env : Env) (call : E), (∀ y, ∃ env', asg (.nm 10) y env = some env' ∧ ((sem (run T wf (n + 11)) call).v env' m1 = run T wf (n + 11) f [.d x, .d y] m1)) →
      lcLoop (.nm 10) (sems (run T wf (n + 11)) []) (sem (run T wf (n + 11)) call) [] env (js.map (encT N)) m1 = .ok (js.map fun i => .bool (g i)) m1 := by
    intro f x g js hjs hg env call hc
    rw [lcLoop_ofm (encT N) (fun i => .bool (g i)) rfl]
    intro i hi
    obtain ⟨env', h1, h2⟩ := hc (encT N i)
    exact ⟨env', h1, _, by rw [h2]; exact hg i (hok i (hjs i hi)), rfl⟩
  have r1 : ∀ i, okT i → run T wf (n + 11) 12 [.d (encP P), .d (encT N i)] m1 = .ok (.d (.bool (vO P i))) m1 := fun i hi => it_iso hP wf (n + 11) (by omega) N m1 (rdT P) (by simp [encP]) hi
  have r2 : ∀ i, okT i → run T wf (n + 11) 14 [.d (encP P), .d (encT N i)] m1 = .ok (.d (.bool (vL P i))) m1 := fun i hi => it_isl hP wf (n + 11) (by omega) N m1 (rdT P) hi
  have r3 : ∀ i, okT i → run T wf (n + 11) 12 [.d (lisD (encP P)), .d (encT N i)] m1 = .ok (.d (.bool (vO P i))) m1 := fun i hi => it_iso hP wf (n + 11) (by omega) N m1 (rdS P) (by simp [encP, lisD, lisDs_eq]) hi
  have r4 : ∀ i, okT i → run T wf (n + 11) 14 [.d (lisD (encP P)), .d (encT N i)] m1 = .ok (.d (.bool (vL P i))) m1 := fun i hi => it_isl hP wf (n + 11) (by omega) N m1 (rdS P) hi
  have r5 : ∀ i, okT i → run T wf (n + 11) 36 [.d (encP P), .d (encT N i)] m1 = .ok (.d (.bool (vO P i))) m1 := fun i hi => it_ord hP wf (n + 11) (by omega) N m1 hi
  have r6 : ∀ i, okT i → run T wf (n + 11) 37 [.d (encP P), .d (encT N i)] m1 = .ok (.d (.bool (vL P i))) m1 := fun i hi => it_loo hP wf (n + 11) (by omega) N m1 hi
  have hct : slc (.list (its.map (encT N))) none (some 4) = some (.fr ((its.take 4).map (encT N))) := by
    show some (Val.fr (cut (its.map (encT N)) none (some 4))) = _
    rw [cut4, List.map_take]
  have h4 : ∀ i ∈ its.take 4, i ∈ its := fun i hi => List.mem_of_mem_take hi
  have s6 : exS (run T wf (n + 11)) wf (cB 6) (env12 k (encP P) (some (.d (.list (N.map PyData.str)))) (some (.d (.list (its.map (encT N))))) none none (lisD (encP P)) c v8 v9) m1 = .ok (.next (env12 k (encP P) (some (.d (.list (N.map PyData.str)))) (some (.d (.list (its.map (encT N))))) (some (.d (.list [.list (its.map fun i => .bool (vO P i)), .list (its.map fun i => .bool (vL P i)), .list ((its.take 4).map fun i => .bool (vO P i)), .list ((its.take 4).map fun i => .bool (vL P i))]))) none (lisD (encP P)) c v8 v9)) m1 := by
    generalize its.take 4 = it4 at *
    simp [cB, b__law_case_right, hct]
    rw [hu 12 (encP P) (vO P) its (fun _ h => h) r1 _ _ (fun y => ⟨_, by simp; rfl, by simp⟩)]
    simp
    rw [hu 14 (encP P) (vL P) its (fun _ h => h) r2 _ _ (fun y => ⟨_, by simp; rfl, by simp⟩)]
    simp
    rw [hu 12 (lisD (encP P)) (vO P) it4 h4 r3 _ _ (fun y => ⟨_, by simp; rfl, by simp [pick]⟩)]
    simp
    rw [hu 14 (lisD (encP P)) (vL P) it4 h4 r4 _ _ (fun y => ⟨_, by simp; rfl, by simp [pick]⟩)]
    simp
  have s7 : ∀ e4' : Option Val, exS (run T wf (n + 11)) wf (cB 7) (env12 k (encP P) (some (.d (.list (N.map PyData.str)))) (some (.d (.list (its.map (encT N))))) e4' none (lisD (encP P)) c v8 v9) m1 = .ok (.next (env12 k (encP P) (some (.d (.list (N.map PyData.str)))) (some (.d (.list (its.map (encT N))))) e4' (some (.d (.list [.list (its.map fun i => .bool (vO P i)), .list (its.map fun i => .bool (vL P i))]))) (lisD (encP P)) c v8 v9)) m1 := by
    intro e4'
    simp [cB, b__law_case_right]
    rw [hu 36 (encP P) (vO P) its (fun _ h => h) r5 _ _ (fun y => ⟨_, by simp; rfl, by simp⟩)]
    simp
    rw [hu 37 (encP P) (vL P) its (fun _ h => h) r6 _ _ (fun y => ⟨_, by simp; rfl, by simp⟩)]
    simp
  have hda : ∀ f : Option (List Str) → Bool, PyData.depthAll (its.map fun i => .bool (f i)) ≤ 0 := fun f => depthAll_le fun x hx => by
    obtain ⟨i, _, rfl⟩ := List.mem_map.mp hx
    simp [PyData.depth]
  have hd4 : ∀ f : Option (List Str) → Bool, PyData.depthAll ((its.take 4).map fun i => .bool (f i)) ≤ 0 := fun f => depthAll_le fun x hx => by
    obtain ⟨i, _, rfl⟩ := List.mem_map.mp hx
    simp [PyData.depth]
  have hna : ∀ (js : List (Option (List Str))) (f : Option (List Str) → Bool), ndBs (js.map fun i => .bool (f i)) = true := fun js f => ndBs_of fun x hx => by
    obtain ⟨i, _, rfl⟩ := List.mem_map.mp hx
    simp [ndB]
  have hsm := sp_same wf (n + 11) (.list [.list (its.map fun i => .bool (vO P i)), .list (its.map fun i => .bool (vL P i)), .list ((its.take 4).map fun i => .bool (vO P i)), .list ((its.take 4).map fun i => .bool (vL P i)), lisD (encP P)]) m1 (by
    have h1 := hda (vO P)
    have h2 := hda (vL P)
    have h3 := hd4 (vO P)
    have h5 := hd4 (vL P)
    have h6 := (rdS P).dep
    simp only [PyData.depth, PyData.depthAll]
    omega) (by simp only [ndB, ndBs, hna, nd_lis _ (nd_encP P)]; rfl)
  have q1 := sp_lists wf (n + 11) (encP P) m1 (by have := (rdT P).dep; omega)
  have q1f := lisV_frz (encP P) m1
  have c1 : ∀ f : Option (List Str) → Bool, slc (.list (its.map fun i => .bool (f i))) none (some 4) = some (.fr ((its.take 4).map fun i => .bool (f i))) := fun f => by
    show some (Val.fr (cut (its.map fun i => PyData.bool (f i)) none (some 4))) = _
    rw [cut4, List.map_take]
  have s8 : exS (run T wf (n + 11)) wf (cB 8) (env12 k (encP P) (some (.d (.list (N.map PyData.str)))) (some (.d (.list (its.map (encT N))))) (some (.d (.list [.list (its.map fun i => .bool (vO P i)), .list (its.map fun i => .bool (vL P i)), .list ((its.take 4).map fun i => .bool (vO P i)), .list ((its.take 4).map fun i => .bool (vL P i))]))) (some (.d (.list [.list (its.map fun i => .bool (vO P i)), .list (its.map fun i => .bool (vL P i))]))) (lisD (encP P)) c v8 v9) m1 = .ok (.ret (.d (.bool true))) m1 := by
    have cO := c1 (vO P)
    have cL := c1 (vL P)
    generalize ((its.take 4).map fun i => PyData.bool (vO P i)) = AO at *
    generalize ((its.take 4).map fun i => PyData.bool (vL P i)) = AL at *
    generalize (its.map fun i => PyData.bool (vO P i)) = BO at *
    generalize (its.map fun i => PyData.bool (vL P i)) = BL at *
    have ad1 : bop .add (.list [.list BO, .list BL, .list AO, .list AL]) (.list [lisD (encP P)]) = some (.fr [.list BO, .list BL, .list AO, .list AL, lisD (encP P)]) := addL _ _ (by simp)
    have ad2 : bop .add (.list [.list BO, .list BL]) (.list [.list AO, .list AL, lisD (encP P)]) = some (.fr [.list BO, .list BL, .list AO, .list AL, lisD (encP P)]) := addL _ _ (by simp)
    simp [cB, b__law_case_right, idxL0, idxL1, cO, cL, q1, q1f, ad1, ad2, hsm]
  refine ⟨m1, ?_, a4.mono (by omega), a5⟩
  rw [exB_cons, s4, Res.bind_ok, nextF_next, exB_cons, s5, Res.bind_ok, nextF_next, exB_cons, s6, Res.bind_ok, nextF_next, exB_cons, s7, Res.bind_ok, nextF_next, exB_cons, s8, Res.bind_ok, nextF_ret]
end Ra.K3


set_option Elab.async false
set_option linter.all false
set_option maxRecDepth 100000
set_option maxHeartbeats 1600000
namespace Ra.K3
open PySem M _root_.K4
theorem case_right (wf n k B : Nat) (hw : 8 < wf) {P : List Sp} (hP : WT P) (m : Mem) (hB : Bx k B m) (hlt : B < 1000000) : ∃ m', run T wf (n + 12) 39 [.mr k, .d (encP P)] m = .ok (.d (.bool true)) m' ∧ Bx k (B + 300) m' ∧ Up k m m' := by
  have hk := hB.lt
  have hl8 := hP.len
  rw [run_succ (n := n + 11) d__law_case_right.fnT rfl rfl (by decide)]
  have q1 := sp_lists wf (n + 11) (encP P) m (by have := (rdT P).dep; omega)
  have q1n : (lisV (encP P)).nf = .d (lisD (encP P)) := by simp [lisV, encP, lisD]
  have q2 := sp_can wf (n + 11) (by omega) hP.toWQ m
  have q3 := sp_told0 wf (n + 11) (by omega) hw (rdT P) hP.toWQ m
  have q4 := sp_told1 wf (n + 11) (by omega) (rdT P) hP.toWQ m
  have q5 := sp_order wf (n + 11) (by omega) hw (rdS P) hP.toWQ m
  have q6 := sp_looser wf (n + 11) (by omega) (rdS P) hP.toWQ m
  obtain ⟨o1, o2⟩ := ord_ok hP.toWP (wf := wf) (by omega)
  obtain ⟨l1, l2⟩ := ringL_iff (P := P)
  have hnoR : cmp .ne noRing (.list [.str "none", .bool true]) = some false := by decide +kernel
  have hnoO : cmp .ne noOrd (.list [.str "no order", .bool true]) = some false := by decide +kernel
  rw [show d__law_case_right.fnT.body = [cB 0, cB 1, cB 2, cB 3, cB 4, cB 5, cB 6, cB 7, cB 8] from rfl]
  rw [show (List.map some [Val.mr k, Val.d (encP P)] ++ List.replicate (d__law_case_right.fnT.n - d__law_case_right.fnT.ps) none) = [some (.mr k), some (.d (encP P)), none, none, none, none, none, none, none, none, none, none] from rfl]
  have s0 : exS (run T wf (n + 11)) wf (cB 0) [some (.mr k), some (.d (encP P)), none, none, none, none, none, none, none, none, none, none] m = .ok (.next [some (.mr k), some (.d (encP P)), none, none, none, none, some (.d (lisD (encP P))), some (.d (.bool (canB P))), none, none, none, none]) m := by
    simp [cB, b__law_case_right, q1, q1n, q2]
  have s1 : exS (run T wf (n + 11)) wf (cB 1) [some (.mr k), some (.d (encP P)), none, none, none, none, some (.d (lisD (encP P))), some (.d (.bool (canB P))), none, none, none, none] m = .ok (.next (env12 k (encP P) none none none none (lisD (encP P)) (canB P) (told0 wf P) (told1 P))) m := by
    simp [cB, b__law_case_right, q3, q4]
  have fin : ∀ (tm : List Str), ((∀ t ∈ tm, tagOk t = true) ∧ tm.length < 100) → (if canB P = true then told0 wf P else told1 P) = encV tm →
      exS (run T wf (n + 11)) wf (cB 2) (env12 k (encP P) none none none none (lisD (encP P)) (canB P) (told0 wf P) (told1 P)) m = .ok (.next (env12 k (encP P) none none none none (lisD (encP P)) (canB P) (told0 wf P) (told1 P))) m →
      exS (run T wf (n + 11)) wf (cB 3) (env12 k (encP P) none none none none (lisD (encP P)) (canB P) (told0 wf P) (told1 P)) m = .ok (.next (env12 k (encP P) none none none none (lisD (encP P)) (canB P) (told0 wf P) (told1 P))) m →
      ∃ m', ((exB (run T wf (n + 11)) wf [cB 0, cB 1, cB 2, cB 3, cB 4, cB 5, cB 6, cB 7, cB 8] [some (.mr k), some (.d (encP P)), none, none, none, none, none, none, none, none, none, none] m).cutX m.length).bind (endF m.length) = .ok (.d (.bool true)) m' ∧ Bx k (B + 300) m' ∧ Up k m m' := by
    intro tm htm hv s2 s3
    obtain ⟨m', t1, t2, t3⟩ := case_tail wf n k B hP m (canB P) (told0 wf P) (told1 P) tm htm hv hB hlt
    refine ⟨m', ?_, t2, t3⟩
    rw [exB_cons, s0, Res.bind_ok, nextF_next, exB_cons, s1, Res.bind_ok, nextF_next, exB_cons, s2, Res.bind_ok, nextF_next, exB_cons, s3, Res.bind_ok, nextF_next, t1]
    simp [← t3.1]
  have nmok : ∀ L : List Sp, (∀ s ∈ L, s ∈ P) → ∀ t ∈ L.map Sp.nm, tagOk t = true := fun L hs t h => by
    obtain ⟨s, h1, rfl⟩ := List.mem_map.mp h
    exact hP.nmok s (hs s h1)
  cases hc : canB P with
  | true =>
    obtain ⟨o, p1, p2, p3⟩ := o1 hc
    have hso : ∀ s ∈ o, s ∈ P := fun s hs => p3.mem_iff.mp hs
    have hol : (o.map Sp.nm).length < 100 := by rw [List.length_map, p3.length_eq]; omega
    have ht0 : told0 wf P = encV (o.map Sp.nm) := by unfold told0; rw [p1]
    have ht1 : told1 P = noRing := by unfold told1; rw [l1.mpr hc]
    have p4 := sp_ordered wf (n + 11) (by omega) hP.toWQ (nmok o hso) hol m
    rw [p2] at p4
    rw [p1] at q5
    simp only at q5
    rw [hc, ht0, ht1] at fin
    refine fin (o.map Sp.nm) ⟨nmok o hso, hol⟩ rfl ?_ ?_
    · simp [cB, b__law_case_right, p4, hnoR, pick, q5]
    · simp [cB, b__law_case_right]
  | false =>
    have hno := o2 hc
    obtain ⟨r, hr⟩ : ∃ r, ringL P = some r := by
      cases e : ringL P with
      | some r => exact ⟨r, rfl⟩
      | none =>
        rw [l1.mp e] at hc
        cases hc
    have hrg := l2 r hr
    have hrl : (r.map Sp.nm).length < 100 := by
      rw [List.length_map]
      have := nodup_len hrg.nd hrg.sub
      omega
    have ht0 : told0 wf P = noOrd := by unfold told0; rw [hno]
    have ht1 : told1 P = encV (r.map Sp.nm) := by unfold told1; rw [hr]
    have p4 := sp_loose wf (n + 11) (by omega) hP.toWQ (nmok r hrg.sub) hrl m
    rw [ring_okL hP.toWP hr] at p4
    rw [hr] at q6
    simp only at q6
    rw [hc, ht0, ht1] at fin
    refine fin (r.map Sp.nm) ⟨nmok r hrg.sub, hrl⟩ rfl ?_ ?_
    · simp [cB, b__law_case_right]
    · simp [cB, b__law_case_right, p4, hnoO, pick, q6]
end Ra.K3


set_option Elab.async false
set_option linter.all false
set_option maxRecDepth 100000
set_option maxHeartbeats 1600000
namespace Ra.K3
open PySem M _root_.K4
def rtF : S := .set 2 false (.ite (.cmp .lt (.var 1) (.cst (.int 1))) (.call 28 [(.var 0), (.cst (.int 5))]) (.call 29 [(.var 0), (.op .add (.cst (.int 3)) (.call 16 [(.var 0), (.cst (.int 3))]))]))
def rtB : List S := [rtF, (.iff (.band [(.not (.call 26 [(.var 2)])), (.not (.call 39 [(.var 0), (.var 2)]))]) [(.ret (.cst (.bool false)))] [])]
theorem rt_form (wf n k N : Nat) (m : Mem) (i : Nat) (e2' : Option Val) (hB : Bx k N m) (hN : N < 8000) : ∃ (P : List Sp) (m' : Mem), exS (run T wf (n + 14)) wf rtF [some (.mr k), some (.d (.int i)), e2'] m = .ok (.next [some (.mr k), some (.d (.int i)), some (.d (encP P))]) m' ∧ WT P ∧ Bx k (N + 201) m' ∧ Up k m m' := by
  by_cases hi : (i : Int) < 1
  · obtain ⟨P, m', h1, h2, h3, h4, h5⟩ := sp_wild wf (n + 11) k N m hB (by omega)
    refine ⟨P, m', ?_, h2, h4.mono (by omega), h5⟩
    have hi' : i = 0 := by omega
    subst hi'
    simp [rtF, h1]
  · obtain ⟨r, m1, a1, a2, a3, a4, a5⟩ := sp_take wf (n + 13) k N m 3 hB (by omega) (by omega) (by omega)
    obtain ⟨c, rfl⟩ : ∃ c : Nat, r = c := ⟨r.toNat, by omega⟩
    obtain ⟨P, m', h1, h2, h3, h4, h5⟩ := sp_rnd wf (n + 11) k (N + 1) (3 + c) (by omega) m1 a4 (by omega)
    have hb : bop .add (.int 3) (.int c) = some (.d (.int ((3 + c : Nat) : Int))) := by
      show some (Val.d (.int (3 + (c : Int)))) = _
      congr 3
    refine ⟨P, m', ?_, h2, h4.mono (by omega), a5.trans h5⟩
    have hc : cmp .lt (.int i) (.int 1) = some false := by
      show some (decide ((i : Int) < 1)) = _
      rw [decide_eq_false hi]
    simp [rtF, hc, a1, hb, h1, -addI, -Int.natCast_add, -M.cmp_ltI]
theorem rt_body (wf n k N : Nat) (hw : 8 < wf) (m : Mem) (i : Nat) (e2' : Option Val) (hB : Bx k N m) (hN : N < 7000) : ∃ f2 m', exB (run T wf (n + 14)) wf rtB [some (.mr k), some (.d (.int i)), e2'] m = .ok (.next [some (.mr k), some (.d (.int i)), f2]) m' ∧ Bx k (N + 600) m' ∧ Up k m m' := by
  obtain ⟨P, m', h1, h2, h4, h5⟩ := rt_form wf n k N m i e2' hB (by omega)
  have q1 := sp_bad wf (n + 14) (by omega) hw h2.toWQ m'
  cases hb : badP wf P with
  | true =>
    rw [hb] at q1
    refine ⟨some (.d (encP P)), m', ?_, h4.mono (by omega), h5⟩
    rw [rtB, exB_cons, h1, Res.bind_ok, nextF_next]
    simp [q1]
  | false =>
    rw [hb] at q1
    obtain ⟨m2, t1, t2, t3⟩ := case_right wf (n + 2) k (N + 201) hw h2 m' h4 (by omega)
    refine ⟨some (.d (encP P)), m2, ?_, t2.mono (by omega), h5.trans t3⟩
    rw [rtB, exB_cons, h1, Res.bind_ok, nextF_next]
    simp [q1, t1]
theorem sp_right (wf n k : Nat) (hw : 8 < wf) (m : Mem) (hB : Bx k 0 m) : ∃ m', run T wf (n + 15) 41 [.mr k] m = .ok (.d (.bool true)) m' ∧ Up k m m' := by
  rw [run_succ (n := n + 14) d__law_right.fnT rfl rfl (by decide)]
  obtain ⟨env', m', h1, e1', e2', rfl, h2, h3⟩ := forLoop_inv (t := .nm 1) (body := exB (run T wf (n + 14)) wf rtB) (gs := [])
    (fun i env m' => ∃ e1 e2, env = [some (.mr k), e1, e2] ∧ Bx k (600 * i) m' ∧ Up k m m') (xs := rangeD 0 4) 0 (env := [some (.mr k), none, none]) (m := m) (by
      rintro i x hx env m' ⟨e1', e2', rfl, hB', hU⟩
      obtain ⟨rfl, hi⟩ := rangeD_at 4 0 i x hx
      rw [Nat.zero_add] at hB'
      obtain ⟨f2, m'', q1, q2, q3⟩ := rt_body wf n k (600 * i) hw m' i e2' hB' (by omega)
      refine ⟨[some (.mr k), some (.d (.int i)), e2'], _, m'', ?_, q1, rfl, _, _, rfl, q2.mono (by omega), hU.trans q3⟩
      simp) ⟨none, none, rfl, by simpa using hB, Up.refl _ _⟩
  refine ⟨m', ?_, h3⟩
  have hw4 := M.walk_range (n := 4) (by omega)
  rw [show ((4 : Nat) : Int) = 4 from rfl] at hw4
  generalize rangeD 0 4 = rr at h1 hw4
  unfold rtB rtF at h1
  simp [d__law_right, Df.fnT, b__law_right]
  rw [hw4]
  simp
  rw [h1]
  simp [← h3.1]
end Ra.K3


set_option Elab.async false
set_option linter.all false
set_option maxRecDepth 100000
set_option maxHeartbeats 1600000
namespace Ra.K3
open PySem M _root_.K4
theorem hand : ∃ b, run T 1000 29 40 [] [] = .ok b [] ∧ b = .d (.bool true) := by
  have h : (match run T 1000 29 40 [] [] with | .ok (.d (.bool true)) [] => true | _ => false) = true := by decide +kernel
  split at h
  · rename_i e
    exact ⟨_, e, rfl⟩
  · cases h
theorem spec0 (ns : List Int) (h : ns.length ≤ 63) : ∃ m, run T 1000 30 42 [.d (.list (ns.map PyData.int))] [] = .ok (.d (.bool true)) m := by
  refine ⟨[], ?_⟩
  rw [run_succ (n := 29) d_law.fnT rfl rfl (by decide)]
  obtain ⟨b, hh, rfl⟩ := hand
  obtain ⟨cs, h1, h2, h3⟩ := sp_cells 1000 28 ns h []
  have hl : (cs.map PyData.int).length = cs.length := by simp
  have hw := M.walk_range (n := cs.length) (by omega)
  simp [d_law, Df.fnT, b_law, hh, h1]
  rw [hw]
  simp
  rw [lcLoop_map (fun _ => .bool true) rfl]
  · have := all_true (rangeD 0 cs.length)
    simp only [Res.bind_ok, M.nf_fr, M.lookAll_d, M.lookAll_nil, Option.map_some, optR_some, this]
    simp
  · intro x hx
    obtain ⟨i, hi⟩ := List.mem_iff_getElem?.mp hx
    obtain ⟨rfl, hlt⟩ := rangeD_at cs.length 0 i x hi
    obtain ⟨a, b, q1, q2, q3, q4⟩ := sp_box 1000 28 i cs [] hlt h3
    obtain ⟨m', r1, r2⟩ := sp_right 1000 14 0 (by omega) [⟨false, [.int a, .int b, .int 0]⟩] ⟨a, b, 0, rfl, q2, q3, q4, by omega, by omega⟩
    simp [q1, r1]
end Ra.K3
namespace K4
open PySem Ra
theorem spec (ns : List Int) (h : ns.length ≤ 63) : ∃ m, run (D.map Df.fnT) 1000 30 42 [.d (.list (ns.map PyData.int))] [] = .ok (.d (.bool true)) m := Ra.K3.spec0 ns h
end K4


set_option Elab.async false
set_option linter.all false
set_option maxRecDepth 100000
set_option maxHeartbeats 0
namespace K4
open PySem PySem.Spec PyProof.Rows L2 Ra
abbrev fa : List He.Fa := faOfD D free glo xs
abbrev fn : List He.DefD := fnOfD D
abbrev R : PySem.W.OpenRow := PySem.W.OpenLaw.row PySem.Challenge.rw_reportalike_k04_one_order_for_all_varian
abbrev hk : PySem.W.Hook := hookN 4 fa fn xs
def ob (s : PySem.W.SharedT) : He.AlD × Bool := obN 4 fa fn xs (HandSHeadRun.getT s)
theorem ob_eq (s : PySem.W.SharedT) : ob s = hk.obs s.abs := obN_eq (HandSHeadRun.getT_eq s)
def loose : List Str := ([("NoOrder" : Str), ("NoPaper" : Str), ("is_name" : Str), ("tupled" : Str), ("set_of" : Str), ("clash" : Str), ("feeds" : Str), ("goes_ahead" : Str), ("core_of" : Str), ("ring_among" : Str), ("names_of" : Str), ("named_row" : Str), ("goes_round" : Str), ("one_order" : Str), ("is_one_order" : Str), ("loose_ring" : Str), ("is_loose_ring" : Str), ("_law_box" : Str), ("_law_take" : Str), ("_law_cells" : Str), ("_law_of" : Str), ("_law_pick" : Str), ("_law_lists" : Str), ("_law_same" : Str), ("_law_on" : Str), ("_law_sides" : Str), ("_law_flags" : Str), ("_law_live" : Str), ("_law_bad" : Str), ("_law_parts" : Str), ("_law_wild" : Str), ("_law_round" : Str), ("_law_four" : Str), ("_law_page" : Str), ("_law_tags" : Str), ("_law_lot" : Str), ("_law_rounds" : Str), ("_law_told" : Str), ("_law_ordered" : Str), ("_law_loose" : Str)] : List Str) ++ ([("_law_can" : Str), ("_law_case_right" : Str), ("_law_by_hand_right" : Str), ("_law_right" : Str), ("LETTERS" : Str)] : List Str)
theorem run (w : World) : HandSHeadRun.RunEq R (PySem.W.view R.prog [49]) hk ob 4000 loose w := by
  intro os
  kernel_rfl
theorem bn_is_name : BndD d_is_name := ⟨fun _ _ _ _ _ _ _ _ _ _ us h => match us, h with | [_], _ => rfl, List.forall_mem_nil _⟩
theorem bn_tupled : BndD d_tupled := ⟨fun _ _ _ _ _ _ _ _ _ _ us h => match us, h with | [_], _ => rfl, List.forall_mem_nil _⟩
theorem bn_set_of : BndD d_set_of := ⟨fun _ _ _ _ _ _ _ _ _ _ us h => match us, h with | [_], _ => rfl, List.forall_mem_nil _⟩
theorem bn_clash : BndD d_clash := ⟨fun _ _ _ _ _ _ _ _ _ _ us h => match us, h with | [_, _], _ => rfl, List.forall_mem_nil _⟩
theorem bn_feeds : BndD d_feeds := ⟨fun _ _ _ _ _ _ _ _ _ _ us h => match us, h with | [_, _], _ => rfl, List.forall_mem_nil _⟩
theorem bn_goes_ahead : BndD d_goes_ahead := ⟨fun _ _ _ _ _ _ _ _ _ _ us h => match us, h with | [_, _], _ => rfl, List.forall_mem_nil _⟩
theorem bn_core_of : BndD d_core_of := ⟨fun _ _ _ _ _ _ _ _ _ _ us h => match us, h with | [_], _ => rfl, List.forall_mem_nil _⟩
theorem bn_ring_among : BndD d_ring_among := ⟨fun _ _ _ _ _ _ _ _ _ _ us h => match us, h with | [_], _ => rfl, List.forall_mem_nil _⟩
theorem bn_names_of : BndD d_names_of := ⟨fun _ _ _ _ _ _ _ _ _ _ us h => match us, h with | [_], _ => rfl, List.forall_mem_nil _⟩
theorem bn_named_row : BndD d_named_row := ⟨fun _ _ _ _ _ _ _ _ _ _ us h => match us, h with | [_, _], _ => rfl, List.forall_mem_nil _⟩
theorem bn_goes_round : BndD d_goes_round := ⟨fun _ _ _ _ _ _ _ _ _ _ us h => match us, h with | [_], _ => rfl, List.forall_mem_nil _⟩
theorem bn_one_order : BndD d_one_order := ⟨fun _ _ _ _ _ _ _ _ _ _ us h => match us, h with | [_], _ => rfl, List.forall_mem_cons.mpr ⟨fun _ _ _ _ _ _ _ _ _ _ us h => match us, h with | [_], _ => rfl, List.forall_mem_nil _⟩⟩
theorem bn_is_one_order : BndD d_is_one_order := ⟨fun _ _ _ _ _ _ _ _ _ _ us h => match us, h with | [_, _], _ => rfl, List.forall_mem_cons.mpr ⟨fun _ _ _ _ _ _ _ _ _ _ us h => match us, h with | [_, _], _ => rfl, List.forall_mem_nil _⟩⟩
theorem bn_loose_ring : BndD d_loose_ring := ⟨fun _ _ _ _ _ _ _ _ _ _ us h => match us, h with | [_], _ => rfl, List.forall_mem_cons.mpr ⟨fun _ _ _ _ _ _ _ _ _ _ us h => match us, h with | [_], _ => rfl, List.forall_mem_nil _⟩⟩
theorem bn_is_loose_ring : BndD d_is_loose_ring := ⟨fun _ _ _ _ _ _ _ _ _ _ us h => match us, h with | [_, _], _ => rfl, List.forall_mem_cons.mpr ⟨fun _ _ _ _ _ _ _ _ _ _ us h => match us, h with | [_, _], _ => rfl, List.forall_mem_nil _⟩⟩
theorem bn__law_box : BndD d__law_box := ⟨fun _ _ _ _ _ _ _ _ _ _ us h => match us, h with | [_, _], _ => rfl, List.forall_mem_nil _⟩
theorem bn__law_take : BndD d__law_take := ⟨fun _ _ _ _ _ _ _ _ _ _ us h => match us, h with | [_, _], _ => rfl, List.forall_mem_nil _⟩
theorem bn__law_cells : BndD d__law_cells := ⟨fun _ _ _ _ _ _ _ _ _ _ us h => match us, h with | [_, _], _ => rfl, List.forall_mem_nil _⟩
theorem bn__law_of : BndD d__law_of := ⟨fun _ _ _ _ _ _ _ _ _ _ us h => match us, h with | [_, _], _ => rfl, List.forall_mem_nil _⟩
theorem bn__law_pick : BndD d__law_pick := ⟨fun _ _ _ _ _ _ _ _ _ _ us h => match us, h with | [_, _, _], _ => rfl, List.forall_mem_nil _⟩
theorem bn__law_lists : BndD d__law_lists := ⟨fun _ _ _ _ _ _ _ _ _ _ us h => match us, h with | [_], _ => rfl, List.forall_mem_nil _⟩
theorem bn__law_same : BndD d__law_same := ⟨fun _ _ _ _ _ _ _ _ _ _ us h => match us, h with | [_, _], _ => rfl, List.forall_mem_nil _⟩
theorem bn__law_on : BndD d__law_on := ⟨fun _ _ _ _ _ _ _ _ _ _ us h => match us, h with | [_, _], _ => rfl, List.forall_mem_nil _⟩
theorem bn__law_sides : BndD d__law_sides := ⟨fun _ _ _ _ _ _ _ _ _ _ us h => match us, h with | [_], _ => rfl, List.forall_mem_nil _⟩
theorem bn__law_flags : BndD d__law_flags := ⟨fun _ _ _ _ _ _ _ _ _ _ us h => match us, h with | [_], _ => rfl, List.forall_mem_nil _⟩
theorem bn__law_live : BndD d__law_live := ⟨fun _ _ _ _ _ _ _ _ _ _ us h => match us, h with | [_, _], _ => rfl, List.forall_mem_nil _⟩
theorem bn__law_bad : BndD d__law_bad := ⟨fun _ _ _ _ _ _ _ _ _ _ us h => match us, h with | [_], _ => rfl, List.forall_mem_nil _⟩
theorem bn__law_parts : BndD d__law_parts := ⟨fun _ _ _ _ _ _ _ _ _ _ us h => match us, h with | [_, _], _ => rfl, List.forall_mem_nil _⟩
theorem bn__law_wild : BndD d__law_wild := ⟨fun _ _ _ _ _ _ _ _ _ _ us h => match us, h with | [_, _], _ => rfl, List.forall_mem_nil _⟩
theorem bn__law_round : BndD d__law_round := ⟨fun _ _ _ _ _ _ _ _ _ _ us h => match us, h with | [_, _], _ => rfl, List.forall_mem_nil _⟩
theorem bn__law_four : BndD d__law_four := ⟨fun _ _ _ _ _ _ _ _ _ _ us h => match us, h with | [], _ => rfl, List.forall_mem_nil _⟩
theorem bn__law_page : BndD d__law_page := ⟨fun _ _ _ _ _ _ _ _ _ _ us h => match us, h with | [], _ => rfl, List.forall_mem_nil _⟩
theorem bn__law_tags : BndD d__law_tags := ⟨fun _ _ _ _ _ _ _ _ _ _ us h => match us, h with | [_], _ => rfl, List.forall_mem_nil _⟩
theorem bn__law_lot : BndD d__law_lot := ⟨fun _ _ _ _ _ _ _ _ _ _ us h => match us, h with | [_, _], _ => rfl, List.forall_mem_nil _⟩
theorem bn__law_rounds : BndD d__law_rounds := ⟨fun _ _ _ _ _ _ _ _ _ _ us h => match us, h with | [_], _ => rfl, List.forall_mem_nil _⟩
theorem bn__law_told : BndD d__law_told := ⟨fun _ _ _ _ _ _ _ _ _ _ us h => match us, h with | [_, _], _ => rfl, List.forall_mem_nil _⟩
theorem bn__law_ordered : BndD d__law_ordered := ⟨fun _ _ _ _ _ _ _ _ _ _ us h => match us, h with | [_, _], _ => rfl, List.forall_mem_nil _⟩
theorem bn__law_loose : BndD d__law_loose := ⟨fun _ _ _ _ _ _ _ _ _ _ us h => match us, h with | [_, _], _ => rfl, List.forall_mem_nil _⟩
theorem bn__law_can : BndD d__law_can := ⟨fun _ _ _ _ _ _ _ _ _ _ us h => match us, h with | [_], _ => rfl, List.forall_mem_nil _⟩
theorem bn__law_case_right : BndD d__law_case_right := ⟨fun _ _ _ _ _ _ _ _ _ _ us h => match us, h with | [_, _], _ => rfl, List.forall_mem_nil _⟩
theorem bn__law_by_hand_right : BndD d__law_by_hand_right := ⟨fun _ _ _ _ _ _ _ _ _ _ us h => match us, h with | [], _ => rfl, List.forall_mem_nil _⟩
theorem bn__law_right : BndD d__law_right := ⟨fun _ _ _ _ _ _ _ _ _ _ us h => match us, h with | [_], _ => rfl, List.forall_mem_nil _⟩
theorem bn_law : BndD d_law := ⟨fun _ _ _ _ _ _ _ _ _ _ us h => match us, h with | [_], _ => rfl, List.forall_mem_nil _⟩
theorem bnds : ∀ d ∈ D, BndD d := List.forall_mem_cons.mpr ⟨bn_is_name, List.forall_mem_cons.mpr ⟨bn_tupled, List.forall_mem_cons.mpr ⟨bn_set_of, List.forall_mem_cons.mpr ⟨bn_clash, List.forall_mem_cons.mpr ⟨bn_feeds, List.forall_mem_cons.mpr ⟨bn_goes_ahead, List.forall_mem_cons.mpr ⟨bn_core_of, List.forall_mem_cons.mpr ⟨bn_ring_among, List.forall_mem_cons.mpr ⟨bn_names_of, List.forall_mem_cons.mpr ⟨bn_named_row, List.forall_mem_cons.mpr ⟨bn_goes_round, List.forall_mem_cons.mpr ⟨bn_one_order, List.forall_mem_cons.mpr ⟨bn_is_one_order, List.forall_mem_cons.mpr ⟨bn_loose_ring, List.forall_mem_cons.mpr ⟨bn_is_loose_ring, List.forall_mem_cons.mpr ⟨bn__law_box, List.forall_mem_cons.mpr ⟨bn__law_take, List.forall_mem_cons.mpr ⟨bn__law_cells, List.forall_mem_cons.mpr ⟨bn__law_of, List.forall_mem_cons.mpr ⟨bn__law_pick, List.forall_mem_cons.mpr ⟨bn__law_lists, List.forall_mem_cons.mpr ⟨bn__law_same, List.forall_mem_cons.mpr ⟨bn__law_on, List.forall_mem_cons.mpr ⟨bn__law_sides, List.forall_mem_cons.mpr ⟨bn__law_flags, List.forall_mem_cons.mpr ⟨bn__law_live, List.forall_mem_cons.mpr ⟨bn__law_bad, List.forall_mem_cons.mpr ⟨bn__law_parts, List.forall_mem_cons.mpr ⟨bn__law_wild, List.forall_mem_cons.mpr ⟨bn__law_round, List.forall_mem_cons.mpr ⟨bn__law_four, List.forall_mem_cons.mpr ⟨bn__law_page, List.forall_mem_cons.mpr ⟨bn__law_tags, List.forall_mem_cons.mpr ⟨bn__law_lot, List.forall_mem_cons.mpr ⟨bn__law_rounds, List.forall_mem_cons.mpr ⟨bn__law_told, List.forall_mem_cons.mpr ⟨bn__law_ordered, List.forall_mem_cons.mpr ⟨bn__law_loose, List.forall_mem_cons.mpr ⟨bn__law_can, List.forall_mem_cons.mpr ⟨bn__law_case_right, List.forall_mem_cons.mpr ⟨bn__law_by_hand_right, List.forall_mem_cons.mpr ⟨bn__law_right, List.forall_mem_cons.mpr ⟨bn_law, List.forall_mem_nil _⟩⟩⟩⟩⟩⟩⟩⟩⟩⟩⟩⟩⟩⟩⟩⟩⟩⟩⟩⟩⟩⟩⟩⟩⟩⟩⟩⟩⟩⟩⟩⟩⟩⟩⟩⟩⟩⟩⟩⟩⟩⟩⟩
end K4
open PySem PySem.W PySem.Calls PyProof.Rows Ra
theorem PySem.Challenge.cw_reportalike_k04_one_order_for_all_varian_holds : PySem.Challenge.rw_reportalike_k04_one_order_for_all_varian.Holds := by
  w_on; o_law
  refine HandSHeadRun.head_any (r := K4.R) (q := view K4.R.prog [49]) (H := K4.hk) (ob := K4.ob) (M := 4000) (loose := K4.loose) (d := HandSHeadRun.topDef K4.R.prog 49) (kwd := []) K4.ob_eq
    (by kernel_rfl) (fun s => by kernel_rfl) K4.run (by kernel_rfl) (by kernel_rfl) (by kernel_rfl) (by rfl) (by first | assumption | decide +kernel) (by decide +kernel) ⟨rfl, rfl, rfl, rfl, rfl, by decide +kernel⟩ ?hw ?hc
  case hw => w_witness2
  case hc =>
    refine L2.walk_ofE (l := PySem.Challenge.rw_reportalike_k04_one_order_for_all_varian) (n := 63) (k := 30) (x := "_law_script") (CX := Ra.CXe (PySem.Challenge.rw_reportalike_k04_one_order_for_all_varian).prog) rfl (by decide) (by kernel_rfl) ⟨rfl, by decide, by decide⟩ ?F (fun _ _ _ _ z => Ra.cxe_none z)
    intro w mg fa h Y G hmg0
    obtain ⟨K, KX, c, hNx⟩ := Y
    obtain ⟨hN, hxc⟩ := Bool.and_eq_true_iff.mp hNx
    have hmg : mg ("law" : PySem.Str) = some (.ref fa) := by
      rw [← show (HandSHeadRun.topDef K4.R.prog 49).name = ("law" : PySem.Str) by kernel_rfl]
      exact hmg0
    obtain ⟨fd, hb, hF⟩ := head_ok (P := (PySem.Challenge.rw_reportalike_k04_one_order_for_all_varian).prog) (w := w) (D := K4.D) (free := K4.free) (glo := K4.glo) (xs := K4.xs) 1000 30 KX G c hxc K4.bnds (by decide +kernel) K4.chk (l := 42) (dl := K4.d_law) rfl hmg (x := "_law_script") rfl
    exact ⟨K, fd, _, KX, hb, fun H a ns hl hO hS => ⟨rfl, fun hz => sp_end hN hO hz hS (K4.spec ns hl)⟩, fun base _ _ => hF base⟩

