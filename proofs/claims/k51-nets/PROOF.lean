import PyProof.Rows.All
import KE.SortData
import KE.DataCmp
import KE.DataAny
import KE.DataIsa
import KE.DataMinMax
import HandS.ForMost
import HandS.AnyAll
import HandS.ForExc
import HandS.Flow
import HandS.TupAny
import HandS.TupMul
import HandS.Deep
import HandS.Wide
import HandS.IsInst
import HandS.Zip
import KE.KTupSum
import HandS.ExcInit
import HandS.Small
import KE.GoesEnum
import HandS.Comp
import HandS.GenOver
import HandS.TupSets
import KE.KeyNested
import KE.KDictKeyed
import PyProof.Transfer
import HandS.Style
import KE.KRevSl
import HandS.SetFor
import KE.KDictSum
import KE.KDictCopyH
import PyProof.TupleOfSeq
import HandS.ExcValue
import HandS.HeadHook4
import HandS.HeadWalk
import KE.BitLaws
import PyProof.ReprLen
import PySem.Challenge.RW_wholecounts_k51_nets_and_their_grammars
import HandS.Head0
import HandS.Head1
import HandS.Head2
import HandS.HeadEnd
import HandS.HeadHook1
import HandS.HeadHook2
set_option Elab.async false
set_option linter.all false
set_option maxRecDepth 100000
/-! MiA: a small language with values (data by value), its evaluator. -/
namespace Mi
open PySem

abbrev PD := PyData

/-! ### data -/
mutual
/-- no list, no dict within -/
def noL : PD → Bool
  | .list _ => false
  | .dict _ => false
  | .tuple xs => noLs xs
  | _ => true
def noLs : List PD → Bool
  | [] => true
  | x :: r => noL x && noLs r
end

/-- what a name holds -/
inductive Val where
  | d (x : PD)
  | set (xs : List PD)
  | box (i : Nat)
  | exc (c : Str) (x : PD)
  /-- the script -/
  | scr (xs : List Int)
  /-- a new dict by texts, on its way into a box -/
  | dct (kvs : List (Str × PD))
  /-- an own dict whose keys are rows -/
  | kd (kvs : List (PD × PD))

/-- what stands in the own heap -/
inductive Bx where
  | dct (kvs : List (Str × PD))

structure Slot where
  v : Val
  own : Bool

abbrev Env := List (Option Slot)
abbrev Hx := List Bx

/-- an expression's value: is it new at its top; the own slots that it may share with -/
structure Out where
  v : Val
  fr : Bool
  ln : List Nat

inductive R (α : Type) where
  | no
  | ok (a : α) (env : Env) (h : Hx)
  | ex (c : Str) (x : PD) (env : Env) (h : Hx)

def R.bind {α β : Type} (r : R α) (f : α → Env → Hx → R β) : R β :=
  match r with
  | .no => .no
  | .ok a env h => f a env h
  | .ex c x env h => .ex c x env h
@[simp] theorem R.bind_ok {α β : Type} (a : α) (env : Env) (h : Hx) (f : α → Env → Hx → R β) : (R.ok a env h).bind f = f a env h := rfl
@[simp] theorem R.bind_no {α β : Type} (f : α → Env → Hx → R β) : (R.no : R α).bind f = .no := rfl
@[simp] theorem R.bind_ex {α β : Type} (c : Str) (x : PD) (env : Env) (h : Hx) (f : α → Env → Hx → R β) : (R.ex c x env h : R α).bind f = .ex c x env h := rfl

inductive Fl where
  | next | brk | cont
  | ret (o : Out)

/-! ### operators -/
inductive Bop where
  | add | sub | mul | fdiv | mod | pow | shl | shr | band
  deriving DecidableEq
inductive Cop where
  | eq | ne | lt | le | gt | ge | is | isnot | isin | notin
  deriving DecidableEq
inductive Uop where
  | neg | not
  deriving DecidableEq
/-- the classes that isinstance asks for -/
inductive Ty where
  | int | bool | str | tuple | list | dict
  deriving DecidableEq
inductive Bi where
  | len | int | tuple | list | max | min | any | all | sum | repr | abs | sorted
  | isi (t : Ty)
  deriving DecidableEq

def lim : Nat := 16777216

/-- n is small enough for a factor -/
def sm (n : Nat) (i : Int) : Bool := decide (i.natAbs < 2 ^ n)
def mulOk (i j : Int) : Bool := sm 64 i || sm 64 j || (sm 400000 i && sm 400000 j)

def binD (op : Bop) (x y : PD) : Option (PD × Bool) :=
  match op, x, y with
  | .add, .int i, .int j => some (.int (i + j), true)
  | .sub, .int i, .int j => some (.int (i - j), true)
  | .mul, .int i, .int j => if mulOk i j then some (.int (i * j), true) else none
  | .fdiv, .int i, .int j => if j ≠ 0 ∧ j.natAbs.log2 < 9000 then some (.int (i.fdiv j), true) else none
  | .mod, .int i, .int j => if j ≠ 0 then some (.int (i.fmod j), true) else none
  | .pow, .int i, .int j => if 0 ≤ j ∧ j ≤ 1000000 ∧ i.natAbs < 2 ^ 64 then some (.int (i ^ j.toNat), true) else none
  | .shl, .int i, .int j => if 0 ≤ j ∧ j ≤ 1000000 ∧ i.natAbs < 2 ^ 64 then some (.int (i * 2 ^ j.toNat), true) else none
  | .shr, .int i, .int j => if 0 ≤ j then some (.int (i / 2 ^ j.toNat), true) else none
  | .band, .int i, .int j => some (.int (Builtin.bitAnd i j), true)
  | .add, .tuple xs, .tuple ys => if xs.length + ys.length ≤ lim then some (.tuple (xs ++ ys), true) else none
  | .add, .list xs, .list ys => if xs.length + ys.length ≤ lim then some (.list (xs ++ ys), true) else none
  | .mul, .tuple xs, .int k => if k ≤ 1000 ∧ -1000 ≤ k ∧ xs.length ≤ 1000 then some (.tuple (List.replicate k.toNat xs).flatten, true) else none
  | .mul, .list xs, .int k => if k ≤ 1000000 ∧ -1000000 ≤ k ∧ xs.length * k.toNat ≤ lim then some (.list (List.replicate k.toNat xs).flatten, true) else none
  | _, _, _ => none

def isMut : PD → Bool
  | .list _ => true
  | .dict _ => true
  | _ => false

def emp : PD → Bool
  | .none => true
  | .bool b => !b
  | .int i => i == 0
  | .str x => x.length == 0
  | .list xs => xs.isEmpty
  | .tuple xs => xs.isEmpty
  | .dict xs => xs.isEmpty

/-- a value's truth -/
def truth : Val → Option Bool
  | .d (.str x) => if x.length ≤ lim then some (!emp (.str x)) else none
  | .d (.dict _) => none
  | .d x => some (!emp x)
  | _ => none

def okEq (x : PD) : Bool := x.plain && decide (x.depth ≤ 50)

def ltD (x y : PD) : Option Bool :=
  match x, y with
  | .int i, .int j => some (decide (i < j))
  | .tuple xs, .tuple ys => if W.alike (.tuple xs) (.tuple ys) && decide ((PyData.tuple xs).depth ≤ 50) then some (W.dataLt (.tuple xs) (.tuple ys)) else none
  | _, _ => none

def eqD (x y : PD) : Option Bool :=
  match x, y with
  | .int i, .int j => some (decide (i = j))
  | .str a, .str b => some (decide (a = b))
  | x, y => if okEq x && okEq y then some (PyData.eqv x y) else none

def isN : PD → Bool
  | .none => true
  | _ => false
def cmpD (op : Cop) (x y : PD) : Option Bool :=
  match op with
  | .eq => eqD x y
  | .ne => (eqD x y).map (!·)
  | .lt => ltD x y
  | .gt => ltD y x
  | .le => match x, y with | .int i, .int j => some (decide (i ≤ j)) | x, y => (ltD y x).map (!·)
  | .ge => match x, y with | .int i, .int j => some (decide (j ≤ i)) | x, y => (ltD x y).map (!·)
  | .is => match y with | .none => some (isN x) | _ => none
  | .isnot => match y with | .none => some (!isN x) | _ => none
  | .isin => match y with
    | .list ds => if okEq x && okEq (.list ds) then some (ds.any fun z => PyData.eqv z x) else none
    | .tuple ds => if okEq x && okEq (.tuple ds) then some (ds.any fun z => PyData.eqv z x) else none
    | _ => none
  | .notin => match y with
    | .list ds => if okEq x && okEq (.list ds) then some (!ds.any fun z => PyData.eqv z x) else none
    | .tuple ds => if okEq x && okEq (.tuple ds) then some (!ds.any fun z => PyData.eqv z x) else none
    | _ => none

def isTy (t : Ty) (x : PD) : Bool :=
  match t with
  | .int => x.isInt
  | .bool => x.isBool
  | .str => x.isStr
  | .tuple => x.isTuple
  | .list => x.isList
  | .dict => x.isDict

def intsOf : List PD → Option (List Int)
  | [] => some []
  | .int i :: r => (intsOf r).map (i :: ·)
  | _ :: _ => none

def itemsOf : PD → Option (List PD)
  | .list xs => some xs
  | .tuple xs => some xs
  | _ => none

/-! ### rows that may be keys: whole numbers, tuples of such -/
mutual
def keyD : PD → Bool
  | .int _ => true
  | .tuple xs => keyDs xs
  | _ => false
def keyDs : List PD → Bool
  | [] => true
  | x :: r => keyD x && keyDs r
end
def rowD : PD → Bool
  | .tuple (x :: r) => keyDs (x :: r)
  | _ => false
def dedupD : List PD → List PD
  | [] => []
  | x :: r => if r.any (PyData.eqv x) then dedupD r else x :: dedupD r
def leD (x y : PD) : Bool := !W.dataLt y x
/-- sorted(set(xs)) -/
def ssetD (xs : List PD) : Option (List PD) := if decide (xs.length < 64) && xs.all rowD && (xs.all fun x => decide (x.depth ≤ 8)) && (xs.all fun x => xs.all fun y => W.alike x y) then some ((dedupD xs).mergeSort leD) else none
/-- sorted(xs), rows -/
def srtD (xs : List PD) : Option (List PD) := if decide (xs.length < 64) && xs.all rowD && (xs.all fun x => decide (x.depth ≤ 8)) && (xs.all fun x => xs.all fun y => W.alike x y) then some (xs.mergeSort leD) else none
/-- a dict's entry stored -/
def putKd (k v : PD) (kvs : List (PD × PD)) : List (PD × PD) := if kvs.any fun p => PyData.eqv p.1 k then kvs.map fun p => if PyData.eqv p.1 k then (p.1, v) else p else kvs ++ [(k, v)]
/-- a bool, an int, None -/
def num : PD → Bool
  | .none => true
  | .bool _ => true
  | .int _ => true
  | _ => false

/-- a built-in's answer; is it new at its top -/
def biD (b : Bi) (xs : List PD) : Option (PD × Bool) :=
  match b, xs with
  | .len, [.list ds] => some (.int ds.length, true)
  | .len, [.tuple ds] => some (.int ds.length, true)
  | .len, [.str s] => if s.length ≤ lim then some (.int s.length, true) else none
  | .int, [.int i] => some (.int i, true)
  | .int, [.bool b] => some (.int (if b then 1 else 0), true)
  | .tuple, [.list ds] => some (.tuple ds, true)
  | .tuple, [.tuple ds] => some (.tuple ds, false)
  | .list, [.list ds] => some (.list ds, true)
  | .list, [.tuple ds] => some (.list ds, true)
  | .max, [.int i, .int j] => some (.int (if j > i then j else i), true)
  | .min, [.int i, .int j] => some (.int (if j < i then j else i), true)
  | .max, [.list ds] => match intsOf ds with
    | some (i :: r) => some (.int (r.foldl max i), true)
    | _ => none
  | .min, [.list ds] => match intsOf ds with
    | some (i :: r) => some (.int (r.foldl min i), true)
    | _ => none
  | .sum, [.list ds] => match intsOf ds with
    | some ns => some (.int ns.sum, true)
    | none => none
  | .sum, [.tuple ds] => match intsOf ds with
    | some ns => some (.int ns.sum, true)
    | none => none
  | .abs, [.int i] => some (.int (if i < 0 then -i else i), true)
  | .any, [.list ds] => if ds.all num then some (.bool (ds.any PyData.truthy), true) else none
  | .any, [.tuple ds] => if ds.all num then some (.bool (ds.any PyData.truthy), true) else none
  | .all, [.list ds] => if ds.all num then some (.bool (ds.all PyData.truthy), true) else none
  | .all, [.tuple ds] => if ds.all num then some (.bool (ds.all PyData.truthy), true) else none
  | .repr, [x] => if (x.isList || x.isTuple) && x.showable && !x.hasDict && decide (x.shown.length ≤ lim) && decide (x.depth ≤ 60) then some (.str x.shown, true) else none
  | .isi t, [x] => some (.bool (isTy t x), true)
  | _, _ => none

/-! ### syntax -/
inductive Pat where
  | var (i : Nat)
  | tup (is : List Nat)
  /-- targets within targets -/
  | nst (ps : List Pat)

inductive Gk where
  | all | any
  deriving DecidableEq
inductive Mm where
  | append | extend | pop
  deriving DecidableEq

mutual
inductive MX where
  | c (x : PD)
  | var (i : Nat)
  | tup (es : List MX)
  | lst (es : List MX)
  | bin (op : Bop) (a b : MX)
  | un (op : Uop) (a : MX)
  | cmp (op : Cop) (a b : MX)
  | cmp2 (o1 o2 : Cop) (a b c : MX)
  | and (a b : MX)
  | or (a b : MX)
  | ite (c a b : MX)
  | ix (a i : MX)
  | sl (a lo hi : MX)
  | call (f : Nat) (as : List MX)
  /-- with keywords: the parameters take the values perm -/
  | callK (f : Nat) (as bs : List MX) (perm : List Nat)
  | bi (b : Bi) (as : List MX)
  | mm (m : Mm) (i : Nat) (as : List MX)
  /-- [elt for p in it if c] -/
  | lc (own : List Nat) (p : Pat) (it : MI) (c elt : MX)
  | gen (g : Gk) (own : List Nat) (p : Pat) (it : MI) (elt : MX)
  /-- with a test -/
  | genF (g : Gk) (own : List Nat) (p : Pat) (it : MI) (c elt : MX)
  /-- list(name), the name the script's -/
  | lscr (i : Nat)
  /-- sorted(set(e)) -/
  | sset (e : MX)
  /-- e[::-1], a list -/
  | rev (e : MX)
  /-- a.count(b): whole numbers -/
  | cnt (a b : MX)
  /-- {}: a dict by rows -/
  | dnew
  /-- sorted(e): a list of rows; a dict by rows -/
  | srt (e : MX)
inductive MI where
  | val (e : MX)
  | rng1 (a : MX)
  | rng2 (a b : MX)
  | enum (e : MX)
  | zip (a b : MX)
  /-- the script's numbers -/
  | scrI (i : Nat)
end

inductive MS where
  | asg (p : Pat) (e : MX)
  /-- a new dict is from here on a box (at the top alone) -/
  | asgBox (i : Nat) (f : Nat) (as : List MX)
  | par (i j : Nat) (a b : MX)
  | setIx (i : Nat) (k e : MX)
  /-- x[k] = e, x a dict by rows -/
  | setK (i : Nat) (k e : MX)
  | augV (i : Nat) (op : Bop) (e : MX)
  | augIx (i : Nat) (k : MX) (op : Bop) (e : MX)
  | ex (e : MX)
  | ite (c : MX) (a b : List MS)
  | whl (c : MX) (b : List MS)
  | fr (p : Pat) (it : MI) (b : List MS)
  | brk
  | cont
  | pass
  | ret (e : MX)
  /-- a new dict by texts is handed back -/
  | retD (ks : List Str) (es : List MX)
  | raise (c : Str) (e : MX)

/-! ### the evaluator -/
/-- what a def answers -/
inductive FR where
  | no
  | ok (v : Val) (fr : Bool) (h : Hx)
  | ex (c : Str) (x : PD) (h : Hx)
abbrev Fns := Nat → List Val → Hx → FR

def clean (v : Val) (fr : Bool) : Bool :=
  match v with
  | .d (.list xs) => fr && noLs xs
  | .d x => noL x
  | .box _ => true
  | .exc _ x => noL x
  | .set xs => noLs xs
  | .dct _ => false
  | .scr _ => true
  | .kd _ => fr
def lnOf (v : Val) (fr : Bool) (ln : List Nat) : List Nat := if ln.isEmpty then [] else if clean v fr then [] else ln

def frz1 (i : Nat) (env : Env) : Env :=
  match env[i]? with
  | some (some s) => env.set i (some ⟨s.v, false⟩)
  | _ => env
/-- the names at ln are no more theirs alone -/
def frz : List Nat → Env → Env
  | [], env => env
  | i :: r, env => frz r (frz1 i env)

def wipeE (env : Env) : List Nat → Env
  | [] => env
  | i :: r => (wipeE env r).set i none
/-- behind a comprehension: its own names are as they were -/
def back (env env' : Env) : List Nat → Env
  | [] => env'
  | i :: r => match env[i]? with
    | some s => (back env env' r).set i s
    | none => back env env' r

def bindAll : List Nat → List PD → Env → Option Env
  | [], [], env => some env
  | i :: is, x :: xs, env => bindAll is xs (env.set i (some ⟨.d x, false⟩))
  | _, _, _ => none
mutual
/-- an item stored at a target -/
def bindP : Pat → PD → Env → Option Env
  | .var i, x, env => some (env.set i (some ⟨.d x, false⟩))
  | .tup is, x, env => match x with
    | .tuple xs => if is.length = xs.length then bindAll is xs env else none
    | _ => none
  | .nst ps, x, env => match x with
    | .tuple xs => if ps.length = xs.length then bindPs ps xs env else none
    | _ => none
def bindPs : List Pat → List PD → Env → Option Env
  | [], xs, env => match xs with
    | [] => some env
    | _ :: _ => none
  | p :: ps, xs, env => match xs with
    | [] => none
    | x :: xs => match bindP p x env with
      | some env => bindPs ps xs env
      | none => none
end
mutual
def Pat.all : Pat → List Nat
  | .var i => [i]
  | .tup is => is
  | .nst ps => Pat.alls ps
def Pat.alls : List Pat → List Nat
  | [] => []
  | p :: ps => Pat.all p ++ Pat.alls ps
end
/-- a name of l is locked -/
def hit (l lk : List Nat) : Bool := l.any lk.contains

def dataOf : List Out → Option (List PD)
  | [] => some []
  | ⟨.d x, _, _⟩ :: r => (dataOf r).map (x :: ·)
  | _ :: _ => none
def lnsOf : List Out → List Nat
  | [] => []
  | o :: r => o.ln ++ lnsOf r

/-- the parts at the places perm -/
def permL {α : Type} (perm : List Nat) (xs : List α) : List α := perm.filterMap fun i => xs[i]?
/-- behind a call -/
def callR (r : FR) (os : List Out) (env : Env) : R Out :=
  match r with
  | .ok (.dct _) _ _ => .no
  | .ok (.scr _) _ _ => .no
  | .ok (.kd _) _ _ => .no
  | .ok v fr h => .ok ⟨v, fr, lnOf v fr (lnsOf os)⟩ env h
  | .ex c x h => .ex c x (frz (if noL x then [] else lnsOf os) env) h
  | .no => .no
def look (s : Str) : List (Str × PD) → Option PD
  | [] => none
  | (k, x) :: r => if s = k then some x else look s r
def put (s : Str) (x : PD) (kvs : List (Str × PD)) : List (Str × PD) := kvs.map fun kv => if kv.1 = s then (kv.1, x) else kv
/-- a op= b, ints alone -/
def augD (op : Bop) (x y : PD) : Option PD :=
  match op, x, y with
  | .add, .int i, .int j => some (.int (i + j))
  | .sub, .int i, .int j => some (.int (i - j))
  | _, _, _ => none

def ixV (a : Val) (k : Val) (h : Hx) : Option PD :=
  match a, k with
  | .d (.list xs), .d (.int i) => L2.atI xs i
  | .d (.tuple xs), .d (.int i) => L2.atI xs i
  | .box b, .d (.str s) => match h[b]? with
    | some (.dct kvs) => look s kvs
    | none => none
  | _, _ => none

def part : Val → Option (Option Int)
  | .d .none => some none
  | .d (.int i) => some (some i)
  | _ => none
def cutD (xs : List PD) (lo hi : Option Int) : List PD := (xs.drop (HT.sIx xs.length 0 lo)).take (HT.sIx xs.length xs.length hi - HT.sIx xs.length 0 lo)
def slD (x : Val) (l u : Option Int) : Option PD :=
  match x with
  | .d (.list xs) => some (.list (cutD xs l u))
  | .d (.tuple xs) => some (.tuple (cutD xs l u))
  | _ => none

def rngD (lo hi : Int) : List PD := (List.range (hi - lo).toNat).map fun (k : Nat) => PyData.int (lo + k)
def rngOk (i : Int) : Bool := decide (-(2 ^ 62) ≤ i ∧ i < 2 ^ 62)
def enumD (xs : List PD) : List PD := xs.zipIdx.map fun p => PyData.tuple [.int p.2, p.1]
def zipD (xs ys : List PD) : List PD := (xs.zip ys).map fun p => PyData.tuple [p.1, p.2]

/-- a method that changes the list at a name -/
def mutD (m : Mm) (xs : List PD) (as : List PD) : Option (List PD × PD) :=
  match m, as with
  | .append, [x] => if xs.length < lim then some (xs ++ [x], .none) else none
  | .extend, [.list ys] => if xs.length + ys.length < lim then some (xs ++ ys, .none) else none
  | .pop, [] => match xs.getLast? with
    | some x => some (xs.dropLast, x)
    | none => none
  | .pop, [.int i] => if rngOk i then (match L2.ixN xs.length i with
    | some j => match xs[j]? with
      | some x => some (xs.eraseIdx j, x)
      | none => none
    | none => none) else none
  | _, _ => none

/-- what stands at a place that can be written -/
def ixW (s : Slot) (k : Val) (h : Hx) : Option PD :=
  match s with
  | ⟨.d (.list xs), true⟩ => match k with
    | .d (.int n) => L2.atI xs n
    | _ => none
  | ⟨.box b, false⟩ => match k with
    | .d (.str s) => match h[b]? with
      | some (.dct kvs) => look s kvs
      | none => none
    | _ => none
  | _ => none
def bound (env : Env) (i : Nat) : Bool :=
  match env[i]? with
  | some (some _) => true
  | _ => false
/-- a list of its own -/
def ownL (env : Env) (i : Nat) : Bool :=
  match env[i]? with
  | some (some ⟨.d (.list _), true⟩) => true
  | _ => false
def setIxV (i : Nat) (k : Val) (o : Out) (env : Env) (h : Hx) : R Fl :=
  let env := frz o.ln env
  match env[i]?, k, o.v with
  | some (some ⟨.box b, _⟩), .d (.str s), .d x => match h[b]? with
    | some (.dct kvs) => if noL x && (look s kvs).isSome && decide (kvs.length ≤ 1000) then .ok .next env (h.set b (.dct (put s x kvs))) else .no
    | none => .no
  | some (some ⟨.d (.list xs), true⟩), .d (.int n), .d x => match L2.ixN xs.length n with
    | some j => .ok .next (env.set i (some ⟨.d (.list (xs.set j x)), true⟩)) h
    | none => .no
  | _, _, _ => .no
/-- a dict's entry stored -/
def setKV (i : Nat) (k : Val) (o : Out) (env : Env) (h : Hx) : R Fl :=
  match env[i]?, k, o.v with
  | some (some ⟨.kd kvs, true⟩), .d key, .d v => if rowD key && decide (key.depth ≤ 8) && noL v && decide (kvs.length < 60) then .ok .next (env.set i (some ⟨.kd (putKd key v kvs), true⟩)) h else .no
  | _, _, _ => .no

def mmV (m : Mm) (i : Nat) (as : List Out) (env : Env) (h : Hx) : R Out :=
  let env := frz (lnsOf as) env
  match env[i]?, dataOf as with
  | some (some ⟨.d (.list xs), true⟩), some ds => match mutD m xs ds with
    | some (ys, x) => .ok ⟨.d x, false, []⟩ (env.set i (some ⟨.d (.list ys), true⟩)) h
    | none => .no
  | _, _ => .no

def opt {α : Type} (o : Option α) (env : Env) (h : Hx) : R α :=
  match o with
  | some a => .ok a env h
  | none => .no

def frzI (xs : List PD) (ln : List Nat) : List Nat := if noLs xs then [] else ln
/-- nothing is raised -/
def R.calm {α : Type} : R α → R α
  | .ex _ _ _ _ => .no
  | r => r
@[simp] theorem R.calm_ok {α : Type} (a : α) (env : Env) (h : Hx) : (R.ok a env h).calm = .ok a env h := rfl
/-- a block over the items q may be entered -/
def blkOk (own : List Nat) (p : Pat) (lk : List Nat) (q : List PD × List Nat) : Bool := !hit own (q.2 ++ lk) && p.all.all own.contains && decide (q.1.length ≤ lim)
/-- the loop of a list comprehension: c the test, e the element -/
def lcL (p : Pat) (own : List Nat) (c e : Env → Hx → R Out) : List PD → List PD → Env → Hx → R (List PD)
  | [], acc, env, h => .ok acc env h
  | x :: r, acc, env, h => match bindP p x env with
    | none => .no
    | some env => (c env h).calm.bind fun w env h => match truth w.v with
      | some true => (e env h).calm.bind fun o env h => match o.v with
        | .d y => lcL p own c e r (acc ++ [y]) (wipeE (frz o.ln env) own) h
        | _ => .no
      | some false => lcL p own c e r acc (wipeE env own) h
      | none => .no
/-- all (k: false), any (k: true) of a generator -/
def genL (p : Pat) (own : List Nat) (k : Bool) (e : Env → Hx → R Out) : List PD → Env → Hx → R Bool
  | [], env, h => .ok (!k) env h
  | x :: r, env, h => match bindP p x env with
    | none => .no
    | some env => (e env h).calm.bind fun o env h => match o.v with
      | .d (.bool b) => if b = k then .ok k (wipeE env own) h else genL p own k e r (wipeE env own) h
      | _ => .no

/-- .. with a test -/
def genLF (p : Pat) (own : List Nat) (k : Bool) (c e : Env → Hx → R Out) : List PD → Env → Hx → R Bool
  | [], env, h => .ok (!k) env h
  | x :: r, env, h => match bindP p x env with
    | none => .no
    | some env => (c env h).calm.bind fun w env h => match truth w.v with
      | some true => (e env h).calm.bind fun o env h => match o.v with
        | .d (.bool b) => if b = k then .ok k (wipeE env own) h else genLF p own k c e r (wipeE env own) h
        | _ => .no
      | some false => genLF p own k c e r (wipeE env own) h
      | none => .no

def two (o p : Out) (f : PD → PD → Option (PD × Bool)) (env : Env) (h : Hx) : R Out :=
  match o.v, p.v with
  | .d x, .d y => match f x y with
    | some (z, fr) => .ok ⟨.d z, fr, lnOf (.d z) fr (o.ln ++ p.ln)⟩ env h
    | none => .no
  | _, _ => .no
def twoB (o p : Out) (f : PD → PD → Option Bool) (env : Env) (h : Hx) : R Out :=
  match o.v, p.v with
  | .d x, .d y => match f x y with
    | some b => .ok ⟨.d (.bool b), true, []⟩ env h
    | none => .no
  | _, _ => .no

def itemsV (o : Out) (env : Env) (h : Hx) : R (List PD × List Nat) :=
  match o.v with
  | .d x => match itemsOf x with
    | some xs => .ok (xs, o.ln) env h
    | none => .no
  | _ => .no

mutual
def ev (F : Fns) (lk : List Nat) : MX → Env → Hx → R Out
  | .c x, env, h => .ok ⟨.d x, false, []⟩ env h
  | .var i, env, h => match env[i]? with
    | some (some s) => match s.v with
      | .dct _ => .no
      | v => .ok ⟨v, false, if s.own then [i] else []⟩ env h
    | _ => .no
  | .tup es, env, h => (evs F lk es env h).bind fun os env h => match dataOf os with
    | some xs => .ok ⟨.d (.tuple xs), true, lnOf (.d (.tuple xs)) true (lnsOf os)⟩ env h
    | none => .no
  | .lst es, env, h => (evs F lk es env h).bind fun os env h => match dataOf os with
    | some xs => .ok ⟨.d (.list xs), true, lnOf (.d (.list xs)) true (lnsOf os)⟩ env h
    | none => .no
  | .bin op a b, env, h => (ev F lk a env h).bind fun o env h => (ev F (o.ln ++ lk) b env h).bind fun p env h => two o p (binD op) env h
  | .un op a, env, h => (ev F lk a env h).bind fun o env h => match op, o.v with
    | .neg, .d (.int i) => .ok ⟨.d (.int (-i)), true, []⟩ env h
    | .not, v => match truth v with
      | some b => .ok ⟨.d (.bool (!b)), true, []⟩ env h
      | none => .no
    | _, _ => .no
  | .cmp op a b, env, h => (ev F lk a env h).bind fun o env h => (ev F (o.ln ++ lk) b env h).bind fun p env h => twoB o p (cmpD op) env h
  | .cmp2 o1 o2 a b c, env, h => (ev F lk a env h).bind fun o env h => (ev F (o.ln ++ lk) b env h).bind fun p env h =>
      match o.v, p.v with
      | .d x, .d y => match cmpD o1 x y with
        | some true => (ev F ((o.ln ++ p.ln) ++ lk) c env h).bind fun r env h => twoB p r (cmpD o2) env h
        | some false => .ok ⟨.d (.bool false), true, []⟩ env h
        | none => .no
      | _, _ => .no
  | .and a b, env, h => (ev F lk a env h).bind fun o env h => match truth o.v with
    | some true => ev F lk b env h
    | some false => .ok o env h
    | none => .no
  | .or a b, env, h => (ev F lk a env h).bind fun o env h => match truth o.v with
    | some true => .ok o env h
    | some false => ev F lk b env h
    | none => .no
  | .ite c a b, env, h => (ev F lk c env h).bind fun o env h => match truth o.v with
    | some true => ev F lk a env h
    | some false => ev F lk b env h
    | none => .no
  | .ix a i, env, h => (ev F lk a env h).bind fun o env h => (ev F (o.ln ++ lk) i env h).bind fun p env h => match ixV o.v p.v h with
    | some z => .ok ⟨.d z, false, lnOf (.d z) false (o.ln ++ p.ln)⟩ env h
    | none => .no
  | .sl a lo hi, env, h => (ev F lk a env h).bind fun o env h => (ev F (o.ln ++ lk) lo env h).bind fun p env h => match part p.v with
    | none => .no
    | some l => (ev F (o.ln ++ p.ln ++ lk) hi env h).bind fun q env h => match part q.v with
      | none => .no
      | some u => match slD o.v l u with
        | some z => .ok ⟨.d z, true, lnOf (.d z) true (o.ln ++ p.ln)⟩ env h
        | none => .no
  | .call f as, env, h => (evs F lk as env h).bind fun os env h => callR (F f (os.map Out.v) h) os env
  | .callK f as bs perm, env, h => (evs F lk as env h).bind fun os env h => (evs F (lnsOf os ++ lk) bs env h).bind fun ps env h => callR (F f (permL perm ((os ++ ps).map Out.v)) h) (os ++ ps) env
  | .bi b as, env, h => (evs F lk as env h).bind fun os env h => match dataOf os with
    | some xs => match biD b xs with
      | some (z, fr) => .ok ⟨.d z, fr, lnOf (.d z) fr (lnsOf os)⟩ env h
      | none => .no
    | none => .no
  | .lscr i, env, h => match env[i]? with
    | some (some ⟨.scr xs, _⟩) => .ok ⟨.d (.list (xs.map PyData.int)), true, []⟩ env h
    | _ => .no
  | .sset e, env, h => (ev F lk e env h).bind fun o env h => match o.v with
    | .d (.list xs) => match ssetD xs with
      | some ys => .ok ⟨.d (.list ys), true, lnOf (.d (.list ys)) true o.ln⟩ env h
      | none => .no
    | .d (.tuple xs) => match ssetD xs with
      | some ys => .ok ⟨.d (.list ys), true, lnOf (.d (.list ys)) true o.ln⟩ env h
      | none => .no
    | _ => .no
  | .rev e, env, h => (ev F lk e env h).bind fun o env h => match o.v with
    | .d (.list xs) => .ok ⟨.d (.list xs.reverse), true, lnOf (.d (.list xs.reverse)) true o.ln⟩ env h
    | .d (.tuple xs) => .ok ⟨.d (.tuple xs.reverse), true, lnOf (.d (.tuple xs.reverse)) true o.ln⟩ env h
    | _ => .no
  | .cnt a b, env, h => (ev F lk a env h).bind fun o env h => match o.v with
    | .d (.list xs) => (ev F (o.ln ++ lk) b env h).bind fun p env h => match p.v with
      | .d (.int k) => match intsOf xs with
        | some ns => .ok ⟨.d (.int (ns.count k : Nat)), true, []⟩ env h
        | none => .no
      | _ => .no
    | _ => .no
  | .dnew, env, h => .ok ⟨.kd [], true, []⟩ env h
  | .srt e, env, h => (ev F lk e env h).bind fun o env h => match o.v with
    | .d (.list xs) => match srtD xs with
      | some ys => .ok ⟨.d (.list ys), true, lnOf (.d (.list ys)) true o.ln⟩ env h
      | none => .no
    | .kd kvs => match srtD (kvs.map (·.1)) with
      | some ys => .ok ⟨.d (.list ys), true, []⟩ env h
      | none => .no
    | _ => .no
  | .mm m i as, env, h => if ownL env i then (evs F lk as env h).bind fun os env h => if lk.contains i then .no else mmV m i os env h else .no
  | .lc own p it c elt, env, h => (evi F lk it env h).bind fun q env1 h => if blkOk own p lk q then
      (lcL p own (ev F (q.2 ++ own ++ lk) c) (ev F (q.2 ++ own ++ lk) elt) q.1 [] (wipeE (frz (frzI q.1 q.2) env1) own) h).bind fun ys env2 h => .ok ⟨.d (.list ys), true, []⟩ (back (frz (frzI q.1 q.2) env1) env2 own) h
      else .no
  | .gen g own p it elt, env, h => (evi F lk it env h).bind fun q env1 h => if blkOk own p lk q then
      (genL p own (decide (g = .any)) (ev F (q.2 ++ own ++ lk) elt) q.1 (wipeE (frz (frzI q.1 q.2) env1) own) h).bind fun b env2 h => .ok ⟨.d (.bool b), true, []⟩ (back (frz (frzI q.1 q.2) env1) env2 own) h
      else .no
  | .genF g own p it c elt, env, h => (evi F lk it env h).bind fun q env1 h => if blkOk own p lk q then
      (genLF p own (decide (g = .any)) (ev F (q.2 ++ own ++ lk) c) (ev F (q.2 ++ own ++ lk) elt) q.1 (wipeE (frz (frzI q.1 q.2) env1) own) h).bind fun b env2 h => .ok ⟨.d (.bool b), true, []⟩ (back (frz (frzI q.1 q.2) env1) env2 own) h
      else .no
def evs (F : Fns) (lk : List Nat) : List MX → Env → Hx → R (List Out)
  | [], env, h => .ok [] env h
  | e :: r, env, h => (ev F lk e env h).bind fun o env h => (evs F (o.ln ++ lk) r env h).bind fun os env h => .ok (o :: os) env h
/-- the items, and the own slots that they may share with -/
def evi (F : Fns) (lk : List Nat) : MI → Env → Hx → R (List PD × List Nat)
  | .val e, env, h => (ev F lk e env h).bind fun o env h => itemsV o env h
  | .rng1 a, env, h => (ev F lk a env h).bind fun o env h => match o.v with
    | .d (.int j) => if rngOk j then .ok (rngD 0 j, []) env h else .no
    | _ => .no
  | .rng2 a b, env, h => (ev F lk a env h).bind fun o env h => (ev F (o.ln ++ lk) b env h).bind fun p env h => match o.v, p.v with
    | .d (.int i), .d (.int j) => if rngOk i && rngOk j then .ok (rngD i j, []) env h else .no
    | _, _ => .no
  | .enum e, env, h => (ev F lk e env h).bind fun o env h => (itemsV o env h).bind fun (xs, ln) env h => .ok (enumD xs, ln) env h
  | .zip a b, env, h => (ev F lk a env h).bind fun o env h => (ev F (o.ln ++ lk) b env h).bind fun p env h => (itemsV o env h).bind fun (xs, ln) env h => (itemsV p env h).bind fun (ys, ln') env h =>
      .ok (zipD xs ys, ln ++ ln') env h
  | .scrI i, env, h => match env[i]? with
    | some (some ⟨.scr xs, _⟩) => .ok (xs.map PyData.int, []) env h
    | _ => .no
end

/-- the turns of a while, at most so many -/
def whL (c : Env → Hx → R Out) (body : Env → Hx → R Fl) : Nat → Env → Hx → R Fl
  | 0, _, _ => .no
  | n + 1, env, h => (c env h).bind fun o env h => match truth o.v with
    | some true => (body env h).bind fun f env h => match f with
      | .next => whL c body n env h
      | .cont => whL c body n env h
      | .brk => .ok .next env h
      | .ret o => .ok (.ret o) env h
    | some false => .ok .next env h
    | none => .no
def frL (p : Pat) (body : Env → Hx → R Fl) : List PD → Env → Hx → R Fl
  | [], env, h => .ok .next env h
  | x :: r, env, h => match bindP p x env with
    | none => .no
    | some env => (body env h).bind fun f env h => match f with
      | .next => frL p body r env h
      | .cont => frL p body r env h
      | .brk => .ok .next env h
      | .ret o => .ok (.ret o) env h
/-- so many turns at most -/
def many : Nat := 2 ^ 100

/-- a value on its way to a name -/
def slotOf (o : Out) : Option Slot :=
  match o.v with
  | .d x => some ⟨.d x, o.fr && isMut x⟩
  | .box b => some ⟨.box b, false⟩
  | .kd kvs => some ⟨.kd kvs, o.fr⟩
  | _ => none
def asgV (lk : List Nat) (p : Pat) (o : Out) (env : Env) (h : Hx) : R Fl :=
  if hit p.all lk then .no else
  let env := frz o.ln env
  match p with
  | .var i => match slotOf o with
    | some s => .ok .next (env.set i (some s)) h
    | none => .no
  | .tup is => match o.v with
    | .d x => match bindP (.tup is) x env with
      | some env => .ok .next env h
      | none => .no
    | _ => .no
  | .nst ps => match o.v with
    | .d x => match bindP (.nst ps) x env with
      | some env => .ok .next env h
      | none => .no
    | _ => .no
def parV (lk : List Nat) (i j : Nat) (o p : Out) (env : Env) (h : Hx) : R Fl :=
  if i = j ∨ hit [i, j] lk = true then .no else
  match slotOf o, slotOf p with
  | some s, some t => .ok .next (((frz (o.ln ++ p.ln) env).set i (some s)).set j (some t)) h
  | _, _ => .no

mutual
def exS (F : Fns) (tp : Bool) (lk : List Nat) : MS → Env → Hx → R Fl
  | .asg p e, env, h => (ev F lk e env h).bind fun o env h => asgV lk p o env h
  | .asgBox i f as, env, h => (evs F lk as env h).bind fun os env h => match F f (os.map Out.v) h with
    | .ok (.dct kvs) true h => if tp && (lnsOf os).isEmpty && !lk.contains i then .ok .next (env.set i (some ⟨.box h.length, false⟩)) (h ++ [.dct kvs]) else .no
    | .ex c x h => .ex c x (frz (if noL x then [] else lnsOf os) env) h
    | _ => .no
  | .par i j a b, env, h => (ev F lk a env h).bind fun o env h => (ev F (o.ln ++ lk) b env h).bind fun p env h => parV lk i j o p env h
  | .setIx i k e, env, h => (ev F lk e env h).bind fun o env h => if bound env i then (ev F (o.ln ++ lk) k env h).bind fun q env h =>
      if lk.contains i then .no else setIxV i q.v o env h else .no
  | .setK i k e, env, h => (ev F lk e env h).bind fun o env h => if bound env i then (ev F (o.ln ++ lk) k env h).bind fun q env h =>
      if lk.contains i then .no else setKV i q.v o env h else .no
  | .augV i op e, env, h => match env[i]? with
    | some (some ⟨.d x, _⟩) => (ev F lk e env h).bind fun o env h => match o.v with
      | .d y => match augD op x y with
        | some z => if lk.contains i then .no else .ok .next (env.set i (some ⟨.d z, false⟩)) h
        | none => .no
      | _ => .no
    | _ => .no
  | .augIx i k op e, env, h => if bound env i then (ev F (i :: lk) k env h).bind fun q env h => match env[i]? with
    | some (some s) => match ixW s q.v h with
      | some x => (ev F (i :: lk) e env h).bind fun o env h => match o.v with
        | .d y => match augD op x y with
          | some z => if lk.contains i then .no else setIxV i q.v ⟨.d z, false, []⟩ env h
          | none => .no
        | _ => .no
      | none => .no
    | _ => .no
    else .no
  | .ex e, env, h => (ev F lk e env h).bind fun _ env h => .ok .next env h
  | .ite c a b, env, h => (ev F lk c env h).bind fun o env h => match truth o.v with
    | some true => exSs F tp lk a env h
    | some false => exSs F tp lk b env h
    | none => .no
  | .whl c b, env, h => whL (ev F lk c) (exSs F tp lk b) many env h
  | .fr p it b, env, h => (evi F lk it env h).bind fun q env h => if hit p.all (q.2 ++ lk) then .no else frL p (exSs F tp (q.2 ++ lk) b) q.1 (frz (frzI q.1 q.2) env) h
  | .brk, env, h => .ok .brk env h
  | .cont, env, h => .ok .cont env h
  | .pass, env, h => .ok .next env h
  | .ret (.var i), env, h => match env[i]? with
    | some (some s) => .ok (.ret ⟨s.v, s.own, []⟩) env h
    | _ => .no
  | .ret e, env, h => (ev F lk e env h).bind fun o env h => .ok (.ret ⟨o.v, o.fr, []⟩) (frz o.ln env) h
  | .retD ks es, env, h => (evs F lk es env h).bind fun os env h => match dataOf os with
    | some xs => if ks.length = xs.length ∧ ks ≠ [] ∧ ks.length ≤ 15 ∧ ks.Nodup then .ok (.ret ⟨.dct (ks.zip xs), true, []⟩) (frz (lnsOf os) env) h else .no
    | none => .no
  | .raise c e, env, h => (ev F lk e env h).bind fun o env h => match o.v with
    | .d x => .ex c x (frz o.ln env) h
    | _ => .no
def exSs (F : Fns) (tp : Bool) (lk : List Nat) : List MS → Env → Hx → R Fl
  | [], env, h => .ok .next env h
  | s :: r, env, h => (exS F tp lk s env h).bind fun f env h => match f with
    | .next => exSs F tp lk r env h
    | f => .ok f env h
end

/-! ### defs -/
structure Def where
  size : Nat
  args : Nat
  body : List MS

def start (n : Nat) (vs : List Val) : Env := vs.map (fun v => some ⟨v, false⟩) ++ List.replicate (n - vs.length) none

def run (D : Nat → Option Def) : Nat → Fns
  | 0, _, _, _ => .no
  | n + 1, f, vs, h => match D f with
    | none => .no
    | some d => if vs.length = d.args then
        match exSs (run D n) false [] d.body (start d.size vs) h with
        | .ok (.ret o) _ h => .ok o.v o.fr h
        | .ok .next _ h => .ok (.d .none) false h
        | .ok _ _ _ => .no
        | .ex c x _ h => .ex c x h
        | .no => .no
      else .no
/-- the law itself: boxes may be made -/
def runTop (D : Nat → Option Def) (n : Nat) (d : Def) (vs : List Val) : FR :=
  match exSs (run D n) true [] d.body (start d.size vs) [] with
  | .ok (.ret o) _ h => .ok o.v o.fr h
  | _ => .no

end Mi
/-! MiB: how the small language's states stand in the layer's heaps. -/
namespace Mi
open PySem L2

/-! ### views -/
def fz (O : Addr → Bool) (H : Hp) : Hp := fun a => if O a = true then none else H a
theorem fz_some {O : Addr → Bool} {H : Hp} {a : Addr} {o : HO} : fz O H a = some o ↔ O a = false ∧ H a = some o := by
  unfold fz
  cases O a <;> simp
theorem fz_same {O : Addr → Bool} {H : Hp} : Same (fz O H) H := fun _ _ h => (fz_some.mp h).2
/-- an object that data may stand in -/
def solid : HO → Bool
  | .lst _ => true
  | .tup _ => true
  | .dK _ => true
  | .frz _ _ => true
  | .ext _ => true
  | _ => false
/-- what data leans on is the same -/
def Sm (H H' : Hp) : Prop := ∀ a o, solid o = true → H a = some o → H' a = some o
theorem Sm.refl (H : Hp) : Sm H H := fun _ _ _ h => h
theorem Sm.trans {H H1 H2 : Hp} (a : Sm H H1) (b : Sm H1 H2) : Sm H H2 := fun c o z h => b c o z (a c o z h)
theorem Sm.of {H H' : Hp} (h : Same H H') : Sm H H' := fun a o _ e => h a o e
theorem fz_sm {O : Addr → Bool} {H : Hp} : Sm (fz O H) H := fun _ _ _ h => (fz_some.mp h).2
variable {K : PySem.W.Frag}
/-! ### data in a heap: each list, each tuple a tracked object -/
mutual
inductive Dq (H : Hp) : V → PD → Prop
  | non : Dq H .non .none
  | bl (b : Bool) : Dq H (.bl b) (.bool b)
  | int (i : Int) : Dq H (.int i) (.int i)
  | str (x : Str) : Dq H (.str x) (.str x)
  | lst {a : Addr} {xs : List V} {ds : List PD} : H a = some (.lst xs) → DqAll H xs ds → Dq H (.ref a) (.list ds)
  | tup {a : Addr} {xs : List V} {ds : List PD} : H a = some (.tup xs) → DqAll H xs ds → Dq H (.ref a) (.tuple ds)
inductive DqAll (H : Hp) : List V → List PD → Prop
  | nil : DqAll H [] []
  | cons {v : V} {vs : List V} {d : PD} {ds : List PD} : Dq H v d → DqAll H vs ds → DqAll H (v :: vs) (d :: ds)
end
mutual
theorem Dq.up {H H' : Hp} (k : Sm H H') : ∀ {v : V} {d : PD}, Dq H v d → Dq H' v d
  | _, _, .non => .non
  | _, _, .bl b => .bl b
  | _, _, .int i => .int i
  | _, _, .str x => .str x
  | _, _, .lst h a => .lst (k _ _ rfl h) (DqAll.up k a)
  | _, _, .tup h a => .tup (k _ _ rfl h) (DqAll.up k a)
theorem DqAll.up {H H' : Hp} (k : Sm H H') : ∀ {vs : List V} {ds : List PD}, DqAll H vs ds → DqAll H' vs ds
  | _, _, .nil => .nil
  | _, _, .cons h t => .cons (Dq.up k h) (DqAll.up k t)
end
mutual
/-- what holds no list leans on tuples alone -/
theorem Dq.noL {H H' : Hp} (k : ∀ a ys, H a = some (.tup ys) → H' a = some (.tup ys)) : ∀ {v : V} {d : PD}, Dq H v d → noL d = true → Dq H' v d
  | _, _, .non, _ => .non
  | _, _, .bl b, _ => .bl b
  | _, _, .int i, _ => .int i
  | _, _, .str x, _ => .str x
  | _, _, .lst h a, z => by simp [Mi.noL] at z
  | _, _, .tup h a, z => .tup (k _ _ h) (DqAll.noL k a (by simpa [Mi.noL] using z))
theorem DqAll.noL {H H' : Hp} (k : ∀ a ys, H a = some (.tup ys) → H' a = some (.tup ys)) : ∀ {vs : List V} {ds : List PD}, DqAll H vs ds → noLs ds = true → DqAll H' vs ds
  | _, _, .nil, _ => .nil
  | _, _, .cons h t, z => by
    simp only [noLs, Bool.and_eq_true] at z
    exact .cons (Dq.noL k h z.1) (DqAll.noL k t z.2)
end
mutual
theorem Dq.dp {H : Hp} : ∀ {v : V} {d : PD}, Dq H v d → Dp K H v d
  | _, _, .non => .non
  | _, _, .bl b => .bl b
  | _, _, .int i => .int i
  | _, _, .str x => .str x
  | _, _, .lst h a => .lst (SqL.of h) (DqAll.dp a)
  | _, _, .tup h a => .tup (SqT.of h) (DqAll.dp a)
theorem DqAll.dp {H : Hp} : ∀ {vs : List V} {ds : List PD}, DqAll H vs ds → DpAll K H vs ds
  | _, _, .nil => .nil
  | _, _, .cons h t => .cons (Dq.dp h) (DqAll.dp t)
end
theorem DqAll.length {H : Hp} : ∀ {vs : List V} {ds : List PD}, DqAll H vs ds → vs.length = ds.length
  | _, _, .nil => rfl
  | _, _, .cons _ t => by simp [DqAll.length t]
theorem DqAll.get {H : Hp} : ∀ {vs : List V} {ds : List PD} {i : Nat} {d : PD}, DqAll H vs ds → ds[i]? = some d → ∃ v, vs[i]? = some v ∧ Dq H v d
  | _, _, _, _, .nil, e => by simp at e
  | _, _, 0, _, .cons h _, e => by simp at e; subst e; exact ⟨_, rfl, h⟩
  | _, _, i + 1, _, .cons _ t, e => by
    obtain ⟨v, a, b⟩ := DqAll.get (i := i) t (by simpa using e)
    exact ⟨v, by simpa using a, b⟩
theorem DqAll.get' {H : Hp} : ∀ {vs : List V} {ds : List PD} {i : Nat} {v : V}, DqAll H vs ds → vs[i]? = some v → ∃ d, ds[i]? = some d ∧ Dq H v d
  | _, _, _, _, .nil, e => by simp at e
  | _, _, 0, _, .cons h _, e => by simp at e; subst e; exact ⟨_, rfl, h⟩
  | _, _, i + 1, _, .cons _ t, e => by
    obtain ⟨v, a, b⟩ := DqAll.get' (i := i) t (by simpa using e)
    exact ⟨v, by simpa using a, b⟩
theorem DqAll.app {H : Hp} : ∀ {vs us : List V} {ds es : List PD}, DqAll H vs ds → DqAll H us es → DqAll H (vs ++ us) (ds ++ es)
  | _, _, _, _, .nil, h => h
  | _, _, _, _, .cons h t, u => .cons h (DqAll.app t u)
theorem DqAll.take {H : Hp} : ∀ {vs : List V} {ds : List PD} (n : Nat), DqAll H vs ds → DqAll H (vs.take n) (ds.take n)
  | _, _, 0, _ => by simpa using DqAll.nil
  | _, _, n + 1, .nil => .nil
  | _, _, n + 1, .cons h t => .cons h (DqAll.take n t)
theorem DqAll.drop {H : Hp} : ∀ {vs : List V} {ds : List PD} (n : Nat), DqAll H vs ds → DqAll H (vs.drop n) (ds.drop n)
  | _, _, 0, h => h
  | _, _, n + 1, .nil => .nil
  | _, _, n + 1, .cons h t => DqAll.drop n t
theorem DqAll.set {H : Hp} {v : V} {d : PD} (h : Dq H v d) : ∀ {vs : List V} {ds : List PD} (n : Nat), DqAll H vs ds → DqAll H (vs.set n v) (ds.set n d)
  | _, _, _, .nil => .nil
  | _, _, 0, .cons _ t => .cons h t
  | _, _, n + 1, .cons a t => .cons a (DqAll.set h n t)
theorem DqAll.erase {H : Hp} : ∀ {vs : List V} {ds : List PD} (n : Nat), DqAll H vs ds → DqAll H (vs.eraseIdx n) (ds.eraseIdx n)
  | _, _, _, .nil => .nil
  | _, _, 0, .cons _ t => t
  | _, _, n + 1, .cons a t => .cons a (DqAll.erase n t)
theorem DqAll.rep {H : Hp} {vs : List V} {ds : List PD} (h : DqAll H vs ds) : ∀ n : Nat, DqAll H (List.replicate n vs).flatten (List.replicate n ds).flatten
  | 0 => .nil
  | n + 1 => by
    rw [List.replicate_succ, List.replicate_succ, List.flatten_cons, List.flatten_cons]
    exact DqAll.app h (DqAll.rep h n)
theorem DqAll.ints {H : Hp} : ∀ {vs : List V} {ns : List Int}, DqAll H vs (ns.map .int) → vs = ns.map .int
  | [], [], _ => rfl
  | _, _ :: _, .cons (.int _) t => by rw [List.map_cons, ← DqAll.ints t]
  | _ :: _, [], h => nomatch h

/-! ### states -/
structure Gh where
  O : Addr → Bool
  A : Addr → Bool
  ρ : List Addr

def ownAt (env : Env) (σ : St) (i : Nat) (a : Addr) : Prop := (∃ v, env[i]? = some (some ⟨v, true⟩)) ∧ σ[i]? = some (some (.ref a))
def cellAt (env : Env) (σ : St) (i : Nat) : Option Addr :=
  match env[i]?, σ[i]? with
  | some (some s), some (some (.ref b)) => if s.own = true then some b else none
  | _, _ => none
theorem cellAt_iff {env : Env} {σ : St} {i : Nat} {a : Addr} : cellAt env σ i = some a ↔ ownAt env σ i a := by
  unfold cellAt ownAt
  constructor
  · intro h
    split at h
    · rename_i s b e1 e2
      obtain ⟨v, o⟩ := s
      cases o with
      | true =>
        simp only [if_true] at h
        cases h
        exact ⟨⟨v, e1⟩, e2⟩
      | false => simp at h
    · cases h
  · rintro ⟨⟨v, e1⟩, e2⟩
    rw [e1, e2]
    rfl
def lnB (env : Env) (σ : St) (ln : List Nat) (a : Addr) : Bool := ln.any fun i => decide (cellAt env σ i = some a)
theorem lnB_iff {env : Env} {σ : St} {ln : List Nat} {a : Addr} : lnB env σ ln a = true ↔ ∃ i ∈ ln, ownAt env σ i a := by
  simp [lnB, cellAt_iff]
theorem lnB_nil {env : Env} {σ : St} {a : Addr} : lnB env σ [] a = false := rfl
theorem lnB_app {env : Env} {σ : St} {l m : List Nat} {a : Addr} : lnB env σ (l ++ m) a = (lnB env σ l a || lnB env σ m a) := by simp [lnB]

/-- the view in which what stands at ln may be looked at -/
def Gh.vw (g : Gh) (env : Env) (σ : St) (ln : List Nat) (H : Hp) : Hp := fz (fun a => g.O a && !lnB env σ ln a) H
theorem vw_some {g : Gh} {env : Env} {σ : St} {ln : List Nat} {H : Hp} {a : Addr} {o : HO} : g.vw env σ ln H a = some o ↔ (g.O a = false ∨ lnB env σ ln a = true) ∧ H a = some o := by
  unfold Gh.vw
  rw [fz_some]
  cases g.O a <;> cases lnB env σ ln a <;> simp
theorem vw_nil {g : Gh} {env : Env} {σ : St} {H : Hp} : g.vw env σ [] H = fz g.O H := by
  unfold Gh.vw
  congr 1
  funext a
  simp [lnB_nil]
theorem vw_sm {g : Gh} {env : Env} {σ : St} {ln : List Nat} {H : Hp} : Sm (g.vw env σ ln H) H := fz_sm
theorem vw_le {g : Gh} {env : Env} {σ : St} {l m : List Nat} {H : Hp} (h : ∀ i ∈ l, i ∈ m) : Sm (g.vw env σ l H) (g.vw env σ m H) := fun a o _ e => by
  rw [vw_some] at e ⊢
  refine ⟨?_, e.2⟩
  rcases e.1 with z | z
  · exact .inl z
  · obtain ⟨i, hi, q⟩ := lnB_iff.mp z
    exact .inr (lnB_iff.mpr ⟨i, h i hi, q⟩)

inductive KvR (K : PySem.W.Frag) (W : Hp) : List (Key × V) → List (Str × PD) → Prop
  | nil : KvR K W [] []
  | cons {s : Str} {v : V} {x : PD} {es : List (Key × V)} {kvs : List (Str × PD)} : Dq W v x → KvR K W es kvs → KvR K W ((.inr s, v) :: es) ((s, x) :: kvs)
theorem KvR.up {W W' : Hp} (k : Sm W W') : ∀ {es : List (Key × V)} {kvs : List (Str × PD)}, KvR K W es kvs → KvR K W' es kvs
  | _, _, .nil => .nil
  | _, _, .cons h t => .cons (Dq.up k h) (KvR.up k t)

/-! dicts by rows -/
mutual
def hashP : PD → Int
  | .int i => hashInt i
  | .tuple xs => reduceHash (Builtin.Tuple.tupleHashOf (hashPs xs))
  | _ => 0
def hashPs : List PD → List Int
  | [] => []
  | x :: xs => hashP x :: hashPs xs
end
/-- the dict's object: hashes, keys' places, values -/
def DO (a : Addr) (L : List (Addr × PD × V)) : HO := .ext fun h => (a == sysModules) = false ∧ ∃ us : List Value, Vals (L.map (·.2.2)) us ∧ ∃ o es ep, h.get? a = some o ∧ o.ExactDict ∧ o.data = .dict es ep ∧ es.toList = List.zipWith (fun e u => (⟨hashP e.2.1, .ref e.1, u⟩ : DictEntry)) L us
inductive KdR (W : Hp) : List (Addr × PD × V) → List (PD × PD) → Prop
  | nil : KdR W [] []
  | cons {a : Addr} {x y : PD} {v : V} {L : List (Addr × PD × V)} {kvs : List (PD × PD)} : Dq W (.ref a) x → rowD x = true → x.depth ≤ 8 → Dq W v y → noL y = true → KdR W L kvs → KdR W ((a, x, v) :: L) ((x, y) :: kvs)
theorem KdR.up {W W' : Hp} (k : Sm W W') : ∀ {L : List (Addr × PD × V)} {kvs : List (PD × PD)}, KdR W L kvs → KdR W' L kvs
  | _, _, .nil => .nil
  | _, _, .cons h1 h2 h3 h4 h5 t => .cons (Dq.up k h1) h2 h3 (Dq.up k h4) h5 (KdR.up k t)
def KdOk (kvs : List (PD × PD)) : Prop := (kvs.map (·.1)).Nodup ∧ kvs.length ≤ 60
/-- a value that may be looked at -/
def VR (K : PySem.W.Frag) (W : Hp) (ρ : List Addr) : Val → V → Prop
  | .d x, v => Dq W v x
  | .box i, v => ∃ a, ρ[i]? = some a ∧ v = .ref a
  | .scr xs, v => ∃ a, SqL K W a (xs.map V.int) ∧ v = .ref a
  | .kd kvs, v => ∃ a L, v = .ref a ∧ W a = some (DO a L) ∧ KdR W L kvs ∧ KdOk kvs
  | _, _ => False
/-- the object at a is this value's, W its parts' view -/
def CR (K : PySem.W.Frag) (W H : Hp) : Val → Addr → Prop
  | .d (.list xs), a => ∃ vs, H a = some (.lst vs) ∧ DqAll W vs xs
  | .dct kvs, a => ∃ es, H a = some (.dK es) ∧ KvR K W es kvs
  | .kd kvs, a => ∃ L, H a = some (DO a L) ∧ KdR W L kvs ∧ KdOk kvs
  | _, _ => False
def BR (K : PySem.W.Frag) (W H : Hp) : Bx → Addr → Prop
  | .dct kvs, a => ∃ es, H a = some (.dK es) ∧ KvR K W es kvs
theorem SqL.upS {W W' : Hp} (k : Sm W W') {a : Addr} {xs : List V} (h : SqL K W a xs) : SqL K W' a xs := by
  rcases h with (h | ⟨o, h⟩) | h
  · exact .inl (.inl (k _ _ rfl h))
  · exact .inl (.inr ⟨o, k _ _ rfl h⟩)
  · exact .inr h
theorem VR.up {W W' : Hp} {ρ : List Addr} (k : Sm W W') {x : Val} {v : V} (h : VR K W ρ x v) : VR K W' ρ x v := by
  cases x with
  | d x => exact Dq.up k h
  | box i => exact h
  | scr xs =>
    obtain ⟨a, e, q⟩ := h
    exact ⟨a, SqL.upS k e, q⟩
  | kd kvs =>
    obtain ⟨a, L, e, q1, q2, q3⟩ := h
    exact ⟨a, L, e, k _ _ rfl q1, q2.up k, q3⟩
  | _ => exact h
theorem CR.up {W W' H H' : Hp} {x : Val} {a : Addr} (k : Sm W W') (e : H' a = H a) (h : CR K W H x a) : CR K W' H' x a := by
  unfold CR at h ⊢
  split at h
  · obtain ⟨vs, h1, h2⟩ := h
    exact ⟨vs, e.trans h1, DqAll.up k h2⟩
  · obtain ⟨es, h1, h2⟩ := h
    exact ⟨es, e.trans h1, KvR.up k h2⟩
  · obtain ⟨L, h1, h2, h3⟩ := h
    exact ⟨L, e.trans h1, h2.up k, h3⟩
  · exact h.elim
theorem BR.up {W W' H H' : Hp} {x : Bx} {a : Addr} (k : Sm W W') (e : H' a = H a) (h : BR K W H x a) : BR K W' H' x a := by
  cases x with
  | dct kvs =>
    obtain ⟨es, h1, h2⟩ := h
    exact ⟨es, e.trans h1, KvR.up k h2⟩

def celly : HO → Bool
  | .lst _ => true
  | .dK _ => true
  | .ext _ => true
  | _ => false

structure Rel (K : PySem.W.Frag) (T : Addr → Prop) (g : Gh) (env : Mi.Env) (h : Hx) (σ : L2.St) (H : Hp) : Prop where
  len : env.length = σ.length
  slot : ∀ (i : Nat) (v : Val), env[i]? = some (some (Slot.mk v false)) → ∃ u, σ[i]? = some (some u) ∧ VR K (fz g.O H) g.ρ v u
  own : ∀ (i : Nat) (v : Val), env[i]? = some (some (Slot.mk v true)) → ∃ a : Addr, σ[i]? = some (some (V.ref a)) ∧ g.O a = true ∧ CR K (fz g.O H) H v a ∧ (∀ kvs, v ≠ .dct kvs)
  sep : ∀ (i j : Nat) (a : Addr), ownAt env σ i a → ownAt env σ j a → i = j
  nb : ∀ (i : Nat) (a : Addr), ownAt env σ i a → a ∉ g.ρ
  box : ∀ (i : Nat) (b : Bx), h[i]? = some b → ∃ a, g.ρ[i]? = some a ∧ g.O a = true ∧ BR K (fz (fun a => g.O a || g.A a) H) H b a
  rlen : g.ρ.length = h.length
  rnd : g.ρ.Nodup
  dis : ∀ a, g.A a = true → g.O a = false
  kind : ∀ a, (g.O a = true ∨ g.A a = true) → ∃ o, H a = some o ∧ celly o = true
  tab : ∀ P, T P → GxR.TabG H P

/-- what an evaluation leaves as it was; lk: names whose objects stay -/
structure Fram (lk : List Nat) (g : Gh) (env : Mi.Env) (σ : L2.St) (H : Hp) (g' : Gh) (env' : Mi.Env) (σ' : L2.St) (H' : Hp) : Prop where
  rest : ∀ a, g.O a = true → (∀ i, ¬ ownAt env σ i a) → a ∉ g.ρ → g'.O a = true ∧ H' a = H a ∧ (∀ i, ¬ ownAt env' σ' i a) ∧ a ∉ g'.ρ
  keep : ∀ a o, solid o = true → g.O a = false → H a = some o → g'.O a = false ∧ H' a = some o
  pre : ∃ l, g'.ρ = g.ρ ++ l
  al : g'.A = g.A
  lock : ∀ i ∈ lk, σ'[i]? = σ[i]? ∧ ∀ a o, solid o = true → ownAt env σ i a → H a = some o → H' a = some o ∧ (g'.O a = false ∨ ownAt env' σ' i a)
  size : env'.length = env.length
  old : ∀ a, g.O a = false → H a ≠ none → g'.O a = false
  there : ∀ p, H' p = none → H p = none

theorem ownAt_congr {env env' : Mi.Env} {σ σ' : L2.St} {i : Nat} {a : Addr} (e : env'[i]? = env[i]?) (z : σ'[i]? = σ[i]?) : ownAt env' σ' i a ↔ ownAt env σ i a := by
  unfold ownAt
  rw [e, z]
theorem Fram.refl (lk : List Nat) (g : Gh) (env : Mi.Env) (σ : L2.St) (H : Hp) : Fram lk g env σ H g env σ H where
  rest := fun a h1 h2 h3 => ⟨h1, rfl, h2, h3⟩
  keep := fun a o _ h1 h2 => ⟨h1, h2⟩
  pre := ⟨[], by simp⟩
  al := rfl
  lock := fun i hi => ⟨rfl, fun a o _ q e => ⟨e, .inr q⟩⟩
  size := rfl
  old := fun _ e _ => e
  there := fun _ e => e
theorem Fram.trans {lk : List Nat} {g g1 g2 : Gh} {env env1 env2 : Mi.Env} {σ σ1 σ2 : L2.St} {H H1 H2 : Hp} (a : Fram lk g env σ H g1 env1 σ1 H1) (b : Fram lk g1 env1 σ1 H1 g2 env2 σ2 H2) : Fram lk g env σ H g2 env2 σ2 H2 where
  rest := fun c h1 h2 h3 => by
    obtain ⟨p1, p2, p3, p4⟩ := a.rest c h1 h2 h3
    obtain ⟨q1, q2, q3, q4⟩ := b.rest c p1 p3 p4
    exact ⟨q1, q2.trans p2, q3, q4⟩
  keep := fun c o z h1 h2 => by
    obtain ⟨p1, p2⟩ := a.keep c o z h1 h2
    exact b.keep c o z p1 p2
  pre := by
    obtain ⟨l, e⟩ := a.pre
    obtain ⟨m, f⟩ := b.pre
    exact ⟨l ++ m, by rw [f, e, List.append_assoc]⟩
  al := b.al.trans a.al
  lock := fun i hi => by
    obtain ⟨p2, p3⟩ := a.lock i hi
    obtain ⟨q2, q3⟩ := b.lock i hi
    refine ⟨q2.trans p2, fun c o z q e => ?_⟩
    obtain ⟨r1, r2⟩ := p3 c o z q e
    rcases r2 with r2 | r2
    · obtain ⟨w1, w2⟩ := b.keep c o z r2 r1
      exact ⟨w2, .inl w1⟩
    · exact q3 c o z r2 r1
  size := b.size.trans a.size
  old := fun c e z => b.old c (a.old c e z) fun w => z (a.there c w)
  there := fun p e => a.there p (b.there p e)
theorem Fram.sub {lk lk' : List Nat} {g g1 : Gh} {env env1 : Mi.Env} {σ σ1 : L2.St} {H H1 : Hp} (a : Fram lk g env σ H g1 env1 σ1 H1) (h : ∀ i ∈ lk', i ∈ lk) : Fram lk' g env σ H g1 env1 σ1 H1 :=
  ⟨a.rest, a.keep, a.pre, a.al, fun i hi => a.lock i (h i hi), a.size, a.old, a.there⟩

theorem Rel.ownO {T : Addr → Prop} {g : Gh} {env : Mi.Env} {h : Hx} {σ : L2.St} {H : Hp} (r : Rel K T g env h σ H) {i : Nat} {a : Addr} (q : ownAt env σ i a) : g.O a = true := by
  obtain ⟨⟨v, e1⟩, e2⟩ := q
  obtain ⟨b, f1, f2, _⟩ := r.own i v e1
  rw [e2] at f1
  cases f1
  exact f2
/-- the view of what may be shared goes along -/
theorem Fram.view {lk ln : List Nat} {g g1 : Gh} {env env1 : Mi.Env} {σ σ1 : L2.St} {H H1 : Hp} (f : Fram lk g env σ H g1 env1 σ1 H1) (h : ∀ i ∈ ln, i ∈ lk) : Sm (g.vw env σ ln H) (g1.vw env1 σ1 ln H1) := fun a o z e => by
  rw [vw_some] at e ⊢
  rcases e.1 with q | q
  · obtain ⟨p1, p2⟩ := f.keep a o z q e.2
    exact ⟨.inl p1, p2⟩
  · obtain ⟨i, hi, q⟩ := lnB_iff.mp q
    obtain ⟨p2, p3⟩ := f.lock i (h i hi)
    obtain ⟨r1, r2⟩ := p3 a o z q e.2
    exact ⟨r2.imp id fun w => lnB_iff.mpr ⟨i, hi, w⟩, r1⟩
theorem Fram.view0 {lk : List Nat} {g g1 : Gh} {env env1 : Mi.Env} {σ σ1 : L2.St} {H H1 : Hp} (f : Fram lk g env σ H g1 env1 σ1 H1) : Sm (fz g.O H) (fz g1.O H1) := by
  have := f.view (ln := []) (by simp)
  rwa [vw_nil, vw_nil] at this

/-! ### an expression's answer -/
def isMutV : Val → Bool
  | .d x => isMut x
  | .kd _ => true
  | _ => false
/-- H: the heap ahead of the evaluation -/
def OutR (K : PySem.W.Frag) (H : Hp) (g : Gh) (env : Mi.Env) (σ : L2.St) (H' : Hp) (o : Out) (v : V) : Prop :=
  (∀ kvs, o.v ≠ .dct kvs) ∧ if (o.fr && isMutV o.v) = true then ∃ p, v = .ref p ∧ H p = none ∧ g.O p = true ∧ (∀ i, ¬ ownAt env σ i p) ∧ p ∉ g.ρ ∧ CR K (g.vw env σ o.ln H') H' o.v p
  else VR K (g.vw env σ o.ln H') g.ρ o.v v

structure CE (K : PySem.W.Frag) (T : Addr → Prop) (lk : List Nat) (g : Gh) (env : Mi.Env) (σ : L2.St) (H : Hp) (o : Out) (g' : Gh) (env' : Mi.Env) (h' : Hx) (v : V) (H' : Hp) : Prop where
  fr : Fram lk g env σ H g' env' σ H'
  rel : Rel K T g' env' h' σ H'
  own : ∀ i a, ownAt env' σ i a → ownAt env σ i a
  out : OutR K H g' env' σ H' o v

def Gh.drop (g : Gh) (p : Addr) : Gh := { g with O := fun a => g.O a && decide (a ≠ p) }
theorem drop_O {g : Gh} {p a : Addr} : (g.drop p).O a = true ↔ g.O a = true ∧ a ≠ p := by simp [Gh.drop]
theorem drop_O_false {g : Gh} {p a : Addr} : (g.drop p).O a = false ↔ g.O a = false ∨ a = p := by
  unfold Gh.drop
  by_cases h : a = p <;> simp [h]
/-- a cell that is nobody's may be shown to all -/
theorem Rel.drop {T : Addr → Prop} {g : Gh} {env : Mi.Env} {h : Hx} {σ : L2.St} {H : Hp} {p : Addr} (r : Rel K T g env h σ H) (h1 : ∀ i, ¬ ownAt env σ i p) (h2 : p ∉ g.ρ) (h3 : g.A p = false ∨ True) : Rel K T (g.drop p) env h σ H where
  len := r.len
  slot := fun i v e => by
    obtain ⟨u, e1, e2⟩ := r.slot i v e
    exact ⟨u, e1, VR.up (fun a o _ q => by rw [fz_some] at q ⊢; exact ⟨drop_O_false.mpr (.inl q.1), q.2⟩) e2⟩
  own := fun i v e => by
    obtain ⟨a, e1, e2, e3, e9⟩ := r.own i v e
    refine ⟨a, e1, drop_O.mpr ⟨e2, fun z => h1 i (z ▸ ⟨⟨v, e⟩, e1⟩)⟩, CR.up (fun b o _ q => by rw [fz_some] at q ⊢; exact ⟨drop_O_false.mpr (.inl q.1), q.2⟩) rfl e3, e9⟩
  sep := r.sep
  nb := r.nb
  box := fun i b e => by
    obtain ⟨a, e1, e2, e3⟩ := r.box i b e
    refine ⟨a, e1, drop_O.mpr ⟨e2, fun z => h2 (z ▸ List.mem_of_getElem? e1)⟩, BR.up (fun b o _ q => ?_) rfl e3⟩
    rw [fz_some] at q ⊢
    refine ⟨?_, q.2⟩
    have := q.1
    simp only [Bool.or_eq_false_iff] at this ⊢
    exact ⟨drop_O_false.mpr (.inl this.1), this.2⟩
  rlen := r.rlen
  rnd := r.rnd
  dis := fun a q => drop_O_false.mpr (.inl (r.dis a q))
  kind := fun a q => r.kind a (q.imp (fun z => (drop_O.mp z).1) id)
  tab := r.tab
theorem Sm.dropV {g : Gh} {env : Mi.Env} {σ : L2.St} {ln : List Nat} {H : Hp} {p : Addr} : Sm (g.vw env σ ln H) ((g.drop p).vw env σ ln H) := fun a o _ q => by
  rw [vw_some] at q ⊢
  exact ⟨q.1.imp (fun z => drop_O_false.mpr (.inl z)) id, q.2⟩
theorem drop_at {g : Gh} {env : Mi.Env} {σ : L2.St} {ln : List Nat} {H : Hp} {p : Addr} {o : HO} (h : H p = some o) : (g.drop p).vw env σ ln H p = some o := vw_some.mpr ⟨.inl (drop_O_false.mpr (.inr rfl)), h⟩

/-- an answer as an operand: it may be looked at -/
theorem CE.look {T : Addr → Prop} {lk : List Nat} {g g' : Gh} {env env' : Mi.Env} {h' : Hx} {σ : L2.St} {H H' : Hp} {o : Out} {v : V} {x : PD} (c : CE K T lk g env σ H o g' env' h' v H') (e : o.v = .d x) (rel0 : ∀ a, g.O a = true → H a ≠ none) :
    ∃ g1, Fram lk g env σ H g1 env' σ H' ∧ Rel K T g1 env' h' σ H' ∧ Dq (g1.vw env' σ o.ln H') v x := by
  have q := c.out.2
  by_cases hf : (o.fr && isMutV o.v) = true
  · rw [if_pos hf] at q
    obtain ⟨p, rfl, hp, hO, hn, hρ, hc⟩ := q
    refine ⟨g'.drop p, ⟨fun a h1 h2 h3 => ?_, fun a u z h1 h2 => ?_, c.fr.pre, c.fr.al, fun i hi => ?_, c.fr.size, fun a e z => drop_O_false.mpr (.inl (c.fr.old a e z)), c.fr.there⟩, c.rel.drop hn hρ (.inr trivial), ?_⟩
    · obtain ⟨p1, p2, p3, p4⟩ := c.fr.rest a h1 h2 h3
      exact ⟨drop_O.mpr ⟨p1, fun z => rel0 a h1 (z ▸ hp)⟩, p2, p3, p4⟩
    · obtain ⟨p1, p2⟩ := c.fr.keep a u z h1 h2
      exact ⟨drop_O_false.mpr (.inl p1), p2⟩
    · obtain ⟨p2, p3⟩ := c.fr.lock i hi
      refine ⟨p2, fun a o z q e => ?_⟩
      obtain ⟨r1, r2⟩ := p3 a o z q e
      exact ⟨r1, r2.imp (fun w => drop_O_false.mpr (.inl w)) id⟩
    · rw [e] at hc hf
      have hx : isMut x = true := by simpa [isMutV] using (Bool.and_eq_true_iff.mp hf).2
      cases x with
      | list xs =>
        obtain ⟨vs, e1, e2⟩ := hc
        exact .lst (drop_at e1) (DqAll.up Sm.dropV e2)
      | dict kvs => exact hc.elim
      | _ => simp [isMut] at hx
  · rw [if_neg hf] at q
    rw [e] at q
    exact ⟨g', c.fr, c.rel, q⟩

theorem CE.lookK {T : Addr → Prop} {lk : List Nat} {g g' : Gh} {env env' : Mi.Env} {h' : Hx} {σ : L2.St} {H H' : Hp} {o : Out} {v : V} {kvs : List (PD × PD)} (c : CE K T lk g env σ H o g' env' h' v H') (e : o.v = .kd kvs) (rel0 : ∀ a, g.O a = true → H a ≠ none) :
    ∃ g1, Fram lk g env σ H g1 env' σ H' ∧ Rel K T g1 env' h' σ H' ∧ VR K (g1.vw env' σ o.ln H') g1.ρ (.kd kvs) v := by
  have q := c.out.2
  by_cases hf : (o.fr && isMutV o.v) = true
  · rw [if_pos hf] at q
    obtain ⟨p, rfl, hp, hO, hn, hρ, hc⟩ := q
    refine ⟨g'.drop p, ⟨fun a h1 h2 h3 => ?_, fun a u z h1 h2 => ?_, c.fr.pre, c.fr.al, fun i hi => ?_, c.fr.size, fun a e z => drop_O_false.mpr (.inl (c.fr.old a e z)), c.fr.there⟩, c.rel.drop hn hρ (.inr trivial), ?_⟩
    · obtain ⟨p1, p2, p3, p4⟩ := c.fr.rest a h1 h2 h3
      exact ⟨drop_O.mpr ⟨p1, fun z => rel0 a h1 (z ▸ hp)⟩, p2, p3, p4⟩
    · obtain ⟨p1, p2⟩ := c.fr.keep a u z h1 h2
      exact ⟨drop_O_false.mpr (.inl p1), p2⟩
    · obtain ⟨p2, p3⟩ := c.fr.lock i hi
      refine ⟨p2, fun a o z q e => ?_⟩
      obtain ⟨r1, r2⟩ := p3 a o z q e
      exact ⟨r1, r2.imp (fun w => drop_O_false.mpr (.inl w)) id⟩
    · rw [e] at hc
      obtain ⟨L, e1, e2, e3⟩ := hc
      exact ⟨p, L, rfl, drop_at e1, e2.up Sm.dropV, e3⟩
  · rw [if_neg hf] at q
    rw [e] at q
    exact ⟨g', c.fr, c.rel, q⟩

/-! ### own things shown for good -/
theorem frz1_get {i j : Nat} {env : Mi.Env} : (frz1 i env)[j]? = (env[j]?).map fun o => o.map fun s => Slot.mk s.v (s.own && !decide (j = i)) := by
  unfold frz1
  split
  · rename_i s e
    by_cases z : j = i
    · subst z
      rw [List.getElem?_set_self (List.getElem?_eq_some_iff.mp e).1, e]
      simp
    · rw [List.getElem?_set_ne (Ne.symm z)]
      cases q : env[j]? with
      | none => rfl
      | some o =>
        cases o with
        | none => rfl
        | some s => simp [z]
  · rename_i hn
    cases q : env[j]? with
    | none => rfl
    | some o =>
      cases o with
      | none => rfl
      | some s =>
        by_cases z : j = i
        · subst z
          exact absurd q (hn s)
        · simp [z]
theorem frz_get {j : Nat} : ∀ {ln : List Nat} {env : Mi.Env}, (frz ln env)[j]? = (env[j]?).map fun o => o.map fun s => Slot.mk s.v (s.own && !decide (j ∈ ln))
  | [], env => by
    cases q : env[j]? with
    | none => simp [frz, q]
    | some o =>
      cases o with
      | none => simp [frz, q]
      | some s => simp [frz, q]
  | i :: r, env => by
    show (frz r (frz1 i env))[j]? = _
    rw [frz_get, frz1_get]
    cases q : env[j]? with
    | none => rfl
    | some o =>
      cases o with
      | none => rfl
      | some s =>
        simp only [Option.map_some, List.mem_cons]
        by_cases z : j = i <;> by_cases w : j ∈ r <;> simp [z, w]
theorem frz_len : ∀ (ln : List Nat) (env : Mi.Env), (frz ln env).length = env.length
  | [], _ => rfl
  | i :: r, env => by
    show (frz r (frz1 i env)).length = _
    rw [frz_len r]
    unfold frz1
    split
    · simp
    · rfl
theorem ownAt_frz {ln : List Nat} {env : Mi.Env} {σ : L2.St} {i : Nat} {a : Addr} : ownAt (frz ln env) σ i a ↔ ownAt env σ i a ∧ i ∉ ln := by
  unfold ownAt
  rw [frz_get]
  constructor
  · rintro ⟨⟨v, e⟩, e2⟩
    cases q : env[i]? with
    | none => rw [q] at e; cases e
    | some o =>
      cases o with
      | none => rw [q] at e; cases e
      | some s =>
        obtain ⟨sv, so⟩ := s
        rw [q] at e
        simp only [Option.map_some, Option.some.injEq, Slot.mk.injEq, Bool.and_eq_true, Bool.not_eq_true', decide_eq_false_iff_not] at e
        obtain ⟨_, rfl, z⟩ := e
        exact ⟨⟨⟨sv, rfl⟩, e2⟩, z⟩
  · rintro ⟨⟨⟨v, e⟩, e2⟩, z⟩
    rw [e]
    exact ⟨⟨v, by simp [z]⟩, e2⟩
def Gh.cut (g : Gh) (L : Addr → Bool) : Gh := { g with O := fun a => g.O a && !L a }
theorem cut_O {g : Gh} {L : Addr → Bool} {a : Addr} : (g.cut L).O a = true ↔ g.O a = true ∧ L a = false := by simp [Gh.cut]
theorem cut_O_false {g : Gh} {L : Addr → Bool} {a : Addr} : (g.cut L).O a = false ↔ g.O a = false ∨ L a = true := by
  show (g.O a && !L a) = false ↔ _
  cases g.O a <;> cases L a <;> simp
theorem Rel.frz {T : Addr → Prop} {g : Gh} {env : Mi.Env} {h : Hx} {σ : L2.St} {H : Hp} (r : Rel K T g env h σ H) (ln : List Nat) : Rel K T (g.cut (lnB env σ ln)) (frz ln env) h σ H := by
  have kv : Sm (fz g.O H) (fz (g.cut (lnB env σ ln)).O H) := fun a o _ q => by
    rw [fz_some] at q ⊢
    exact ⟨cut_O_false.mpr (.inl q.1), q.2⟩
  refine ⟨by rw [frz_len]; exact r.len, fun i v e => ?_, fun i v e => ?_, fun i j a q q' => r.sep i j a (ownAt_frz.mp q).1 (ownAt_frz.mp q').1, fun i a q => r.nb i a (ownAt_frz.mp q).1, fun i b e => ?_, r.rlen, r.rnd, fun a q => cut_O_false.mpr (.inl (r.dis a q)), fun a q => r.kind a (q.imp (fun z => (cut_O.mp z).1) id), r.tab⟩
  · rw [frz_get] at e
    cases q : env[i]? with
    | none => rw [q] at e; cases e
    | some o =>
      cases o with
      | none => rw [q] at e; cases e
      | some s =>
        obtain ⟨sv, so⟩ := s
        rw [q] at e
        simp only [Option.map_some, Option.some.injEq, Slot.mk.injEq] at e
        obtain ⟨rfl, e⟩ := e
        cases so with
        | false =>
          obtain ⟨u, e1, e2⟩ := r.slot i sv q
          exact ⟨u, e1, VR.up kv e2⟩
        | true =>
          have hi : i ∈ ln := by simpa using e
          obtain ⟨a, e1, e2, e3, e4⟩ := r.own i sv q
          have hL : lnB env σ ln a = true := lnB_iff.mpr ⟨i, hi, ⟨⟨sv, q⟩, e1⟩⟩
          refine ⟨.ref a, e1, ?_⟩
          cases sv with
          | d x =>
            cases x with
            | list xs =>
              obtain ⟨vs, f1, f2⟩ := e3
              exact .lst (fz_some.mpr ⟨cut_O_false.mpr (.inr hL), f1⟩) (f2.up kv)
            | _ => exact e3.elim
          | dct kvs => exact absurd rfl (e4 kvs)
          | kd kvs =>
            obtain ⟨L, f1, f2, f3⟩ := e3
            exact ⟨a, L, rfl, fz_some.mpr ⟨cut_O_false.mpr (.inr hL), f1⟩, f2.up kv, f3⟩
          | _ => exact e3.elim
  · rw [frz_get] at e
    cases q : env[i]? with
    | none => rw [q] at e; cases e
    | some o =>
      cases o with
      | none => rw [q] at e; cases e
      | some s =>
        obtain ⟨sv, so⟩ := s
        rw [q] at e
        simp only [Option.map_some, Option.some.injEq, Slot.mk.injEq, Bool.and_eq_true, Bool.not_eq_true', decide_eq_false_iff_not] at e
        obtain ⟨rfl, rfl, hi⟩ := e
        obtain ⟨a, e1, e2, e3, e4⟩ := r.own i sv q
        refine ⟨a, e1, cut_O.mpr ⟨e2, ?_⟩, CR.up kv rfl e3, e4⟩
        cases z : lnB env σ ln a with
        | false => rfl
        | true =>
          obtain ⟨j, hj, qj⟩ := lnB_iff.mp z
          have := r.sep i j a ⟨⟨sv, q⟩, e1⟩ qj
          subst this
          exact absurd hj hi
  · obtain ⟨a, e1, e2, e3⟩ := r.box i b e
    refine ⟨a, e1, cut_O.mpr ⟨e2, ?_⟩, BR.up (fun c o _ q => ?_) rfl e3⟩
    · cases z : lnB env σ ln a with
      | false => rfl
      | true =>
        obtain ⟨j, _, qj⟩ := lnB_iff.mp z
        exact absurd (List.mem_of_getElem? e1) (r.nb j a qj)
    · rw [fz_some] at q ⊢
      refine ⟨?_, q.2⟩
      have := q.1
      simp only [Bool.or_eq_false_iff] at this ⊢
      exact ⟨cut_O_false.mpr (.inl this.1), this.2⟩
theorem cut_view {g : Gh} {env : Mi.Env} {σ : L2.St} {ln : List Nat} {H : Hp} : fz (g.cut (lnB env σ ln)).O H = g.vw env σ ln H := rfl
theorem Fram.frz {T : Addr → Prop} {lk : List Nat} {g : Gh} {env : Mi.Env} {h : Hx} {σ : L2.St} {H : Hp} (r : Rel K T g env h σ H) (ln : List Nat) : Fram lk g env σ H (g.cut (lnB env σ ln)) (Mi.frz ln env) σ H where
  rest := fun a h1 h2 h3 => ⟨cut_O.mpr ⟨h1, by
    cases z : lnB env σ ln a with
    | false => rfl
    | true =>
      obtain ⟨j, _, q⟩ := lnB_iff.mp z
      exact absurd q (h2 j)⟩, rfl, fun i q => h2 i (ownAt_frz.mp q).1, h3⟩
  keep := fun a o _ h1 h2 => ⟨cut_O_false.mpr (.inl h1), h2⟩
  pre := ⟨[], by simp [Gh.cut]⟩
  al := rfl
  lock := fun i _ => ⟨rfl, fun a o _ q e => ⟨e, by
    by_cases z : i ∈ ln
    · exact .inl (cut_O_false.mpr (.inr (lnB_iff.mpr ⟨i, z, q⟩)))
    · exact .inr (ownAt_frz.mpr ⟨q, z⟩)⟩⟩
  size := frz_len ln env
  old := fun a e _ => cut_O_false.mpr (.inl e)
  there := fun _ e => e
end Mi
/-! MiC: readings of the small language in the layer's judgements; expressions. -/
namespace Mi
open PySem PySem.Spec PyProof.Rows L2
variable {K : PySem.W.Frag} {T : Addr → Prop}

/-! ### new objects -/
theorem sm_upd {H : Hp} {p : Addr} {o : HO} (h : H p = none) : Sm H (upd H p o) := fun a u _ e => by
  rw [upd_ne (ne_of_none e h)]
  exact e
def Gh.add (g : Gh) (p : Addr) : Gh := { g with O := fun a => g.O a || decide (a = p) }
theorem add_O {g : Gh} {p a : Addr} : (g.add p).O a = true ↔ g.O a = true ∨ a = p := by simp [Gh.add]
theorem add_O_false {g : Gh} {p a : Addr} : (g.add p).O a = false ↔ g.O a = false ∧ a ≠ p := by simp [Gh.add]
section
variable {g : Gh} {env : Mi.Env} {h : Hx} {σ : L2.St} {H : Hp} {p : Addr} {o : HO}
theorem Rel.fresh (r : Rel K T g env h σ H) (hp : H p = none) : g.O p = false ∧ g.A p = false ∧ (∀ i, ¬ ownAt env σ i p) ∧ p ∉ g.ρ := by
  have h1 : g.O p = false := by
    cases e : g.O p with
    | false => rfl
    | true =>
      obtain ⟨o, z, _⟩ := r.kind p (.inl e)
      rw [hp] at z
      cases z
  have h2 : g.A p = false := by
    cases e : g.A p with
    | false => rfl
    | true =>
      obtain ⟨o, z, _⟩ := r.kind p (.inr e)
      rw [hp] at z
      cases z
  refine ⟨h1, h2, fun i q => ?_, fun z => ?_⟩
  · rw [r.ownO q] at h1
    cases h1
  · obtain ⟨i, e⟩ := List.mem_iff_getElem?.mp z
    have hi : i < h.length := by
      rw [← r.rlen]
      exact (List.getElem?_eq_some_iff.mp e).1
    obtain ⟨a, e1, e2, _⟩ := r.box i _ (List.getElem?_eq_getElem hi)
    rw [e] at e1
    cases e1
    rw [e2] at h1
    cases h1
theorem tab_upd (r : Rel K T g env h σ H) (hp : H p = none) : ∀ P, T P → GxR.TabG (upd H p o) P := fun P z => by
  obtain ⟨ps, e, t⟩ := r.tab P z
  exact ⟨ps, by rw [upd_ne (ne_of_none e hp)]; exact e, t⟩
theorem Rel.ne (r : Rel K T g env h σ H) (hp : H p = none) {a : Addr} (ha : g.O a = true) : a ≠ p := fun z => by
  rw [z, (r.fresh hp).1] at ha
  cases ha
theorem Rel.grow (r : Rel K T g env h σ H) (hp : H p = none) : Rel K T g env h σ (upd H p o) where
  len := r.len
  slot := fun i v e => by
    obtain ⟨u, e1, e2⟩ := r.slot i v e
    exact ⟨u, e1, VR.up (fun a o _ q => by rw [fz_some] at q ⊢; exact ⟨q.1, by rw [upd_ne (ne_of_none q.2 hp)]; exact q.2⟩) e2⟩
  own := fun i v e => by
    obtain ⟨a, e1, e2, e3, e9⟩ := r.own i v e
    exact ⟨a, e1, e2, CR.up (fun b o _ q => by rw [fz_some] at q ⊢; exact ⟨q.1, by rw [upd_ne (ne_of_none q.2 hp)]; exact q.2⟩) (upd_ne (r.ne hp e2)) e3, e9⟩
  sep := r.sep
  nb := r.nb
  box := fun i b e => by
    obtain ⟨a, e1, e2, e3⟩ := r.box i b e
    exact ⟨a, e1, e2, BR.up (fun b o _ q => by rw [fz_some] at q ⊢; exact ⟨q.1, by rw [upd_ne (ne_of_none q.2 hp)]; exact q.2⟩) (upd_ne (r.ne hp e2)) e3⟩
  rlen := r.rlen
  rnd := r.rnd
  dis := r.dis
  kind := fun a q => by
    obtain ⟨u, e1, e2⟩ := r.kind a q
    exact ⟨u, by rw [upd_ne (ne_of_none e1 hp)]; exact e1, e2⟩
  tab := tab_upd r hp
theorem Rel.growO (r : Rel K T g env h σ H) (hp : H p = none) (hc : celly o = true) : Rel K T (g.add p) env h σ (upd H p o) := by
  have f := r.fresh hp
  have kv : Sm (fz g.O H) (fz (g.add p).O (upd H p o)) := fun a u _ q => by
    rw [fz_some] at q ⊢
    have ne := ne_of_none q.2 hp
    exact ⟨add_O_false.mpr ⟨q.1, ne⟩, by rw [upd_ne ne]; exact q.2⟩
  refine ⟨r.len, fun i v e => ?_, fun i v e => ?_, r.sep, r.nb, fun i b e => ?_, r.rlen, r.rnd, fun a q => add_O_false.mpr ⟨r.dis a q, fun z => ?_⟩, fun a q => ?_, tab_upd r hp⟩
  · obtain ⟨u, e1, e2⟩ := r.slot i v e
    exact ⟨u, e1, VR.up kv e2⟩
  · obtain ⟨a, e1, e2, e3, e9⟩ := r.own i v e
    exact ⟨a, e1, add_O.mpr (.inl e2), CR.up kv (upd_ne (r.ne hp e2)) e3, e9⟩
  · obtain ⟨a, e1, e2, e3⟩ := r.box i b e
    refine ⟨a, e1, add_O.mpr (.inl e2), BR.up (fun c u _ q => ?_) (upd_ne (r.ne hp e2)) e3⟩
    rw [fz_some] at q ⊢
    have ne := ne_of_none q.2 hp
    have q1 := q.1
    simp only [Bool.or_eq_false_iff] at q1 ⊢
    exact ⟨⟨add_O_false.mpr ⟨q1.1, ne⟩, q1.2⟩, by rw [upd_ne ne]; exact q.2⟩
  · rw [z] at q
    have q' : g.A p = true := q
    rw [f.2.1] at q'
    cases q'
  · by_cases z : a = p
    · subst z
      exact ⟨o, upd_same, hc⟩
    · have q' : g.O a = true ∨ g.A a = true := q.imp (fun w => (add_O.mp w).resolve_right z) id
      obtain ⟨u, e1, e2⟩ := r.kind a q'
      exact ⟨u, by rw [upd_ne z]; exact e1, e2⟩
theorem Fram.grow (r : Rel K T g env h σ H) (lk : List Nat) (hp : H p = none) : Fram lk g env σ H g env σ (upd H p o) where
  rest := fun a h1 h2 h3 => ⟨h1, upd_ne (r.ne hp h1), h2, h3⟩
  keep := fun a u _ h1 h2 => ⟨h1, by rw [upd_ne (ne_of_none h2 hp)]; exact h2⟩
  pre := ⟨[], by simp⟩
  al := rfl
  lock := fun i _ => ⟨rfl, fun a u _ q e => ⟨by rw [upd_ne (r.ne hp (r.ownO q))]; exact e, .inr q⟩⟩
  size := rfl
  old := fun _ e _ => e
  there := fun q e => by
    by_cases z : q = p
    · rw [z]; exact hp
    · rw [upd_ne z] at e; exact e
theorem Fram.growO (r : Rel K T g env h σ H) (lk : List Nat) (hp : H p = none) : Fram lk g env σ H (g.add p) env σ (upd H p o) where
  rest := fun a h1 h2 h3 => ⟨add_O.mpr (.inl h1), upd_ne (r.ne hp h1), h2, h3⟩
  keep := fun a u _ h1 h2 => by
    have ne := ne_of_none h2 hp
    exact ⟨add_O_false.mpr ⟨h1, ne⟩, by rw [upd_ne ne]; exact h2⟩
  pre := ⟨[], by simp [Gh.add]⟩
  al := rfl
  lock := fun i _ => ⟨rfl, fun a u _ q e => ⟨by rw [upd_ne (r.ne hp (r.ownO q))]; exact e, .inr q⟩⟩
  size := rfl
  old := fun a e z => add_O_false.mpr ⟨e, fun w => z (w ▸ hp)⟩
  there := fun q e => by
    by_cases z : q = p
    · rw [z]; exact hp
    · rw [upd_ne z] at e; exact e
end

/-! ### what an operation hands on -/
/-- z is the answer, new at its top or not; W: the view in which its parts stand -/
structure Got (W H : Hp) (z : PD) (fr : Bool) (Q : VK) : Prop where
  old : ∀ v, (fr && isMut z) = false → Dq W v z → Q v H
  lst : ∀ p vs ds, fr = true → z = .list ds → H p = none → DqAll W vs ds → Q (.ref p) (upd H p (.lst vs))
  tup : ∀ p vs ds, z = .tuple ds → H p = none → DqAll W vs ds → Q (.ref p) (upd H p (.tup vs))

/-- the state behind the operands -/
structure At (K : PySem.W.Frag) (T : Addr → Prop) (lk : List Nat) (g : Gh) (env : Mi.Env) (σ : L2.St) (H : Hp) (g1 : Gh) (env1 : Mi.Env) (h1 : Hx) (H1 : Hp) : Prop where
  fr : Fram lk g env σ H g1 env1 σ H1
  rel : Rel K T g1 env1 h1 σ H1
  own : ∀ i a, ownAt env1 σ i a → ownAt env σ i a

theorem no_tup {g : Gh} {env : Mi.Env} {h : Hx} {σ : L2.St} {H : Hp} (r : Rel K T g env h σ H) {ln : List Nat} : ∀ a ys, g.vw env σ ln H a = some (.tup ys) → fz g.O H a = some (.tup ys) := fun a ys e => by
  rw [vw_some] at e
  rw [fz_some]
  refine ⟨?_, e.2⟩
  cases q : g.O a with
  | false => rfl
  | true =>
    obtain ⟨u, e1, e2⟩ := r.kind a (.inl q)
    rw [e.2] at e1
    cases e1
    simp [celly] at e2
theorem Dq.clean {g : Gh} {env : Mi.Env} {h : Hx} {σ : L2.St} {H : Hp} (r : Rel K T g env h σ H) {ln : List Nat} {v : V} {x : PD} {fr : Bool} (c : fr = true → isMut x = false) (d : Dq (g.vw env σ ln H) v x) : Dq (g.vw env σ (lnOf (.d x) fr ln) H) v x := by
  unfold lnOf
  by_cases e : ln.isEmpty = true
  · rw [if_pos e]
    rw [List.isEmpty_iff.mp e] at d
    exact d
  · rw [if_neg e]
    by_cases q : Mi.clean (.d x) fr = true
    · rw [if_pos q, vw_nil]
      refine Dq.noL (no_tup r) d ?_
      cases x with
      | list xs =>
        simp only [Mi.clean, Bool.and_eq_true] at q
        have := c q.1
        simp [isMut] at this
      | _ => simpa [Mi.clean] using q
    · rw [if_neg q]
      exact d
theorem DqAll.clean {g : Gh} {env : Mi.Env} {h : Hx} {σ : L2.St} {H : Hp} (r : Rel K T g env h σ H) {ln : List Nat} {vs : List V} {ds : List PD} (d : DqAll (g.vw env σ ln H) vs ds) : DqAll (g.vw env σ (lnOf (.d (.list ds)) true ln) H) vs ds := by
  unfold lnOf
  by_cases e : ln.isEmpty = true
  · rw [if_pos e]
    rw [List.isEmpty_iff.mp e] at d
    exact d
  · rw [if_neg e]
    by_cases q : Mi.clean (.d (.list ds)) true = true
    · rw [if_pos q, vw_nil]
      exact DqAll.noL (no_tup r) d (by simpa [Mi.clean] using q)
    · rw [if_neg q]
      exact d
theorem vw_grow {g : Gh} {env : Mi.Env} {σ : L2.St} {ln : List Nat} {H : Hp} {p : Addr} {o : HO} (hp : H p = none) : Sm (g.vw env σ ln H) (g.vw env σ ln (upd H p o)) := fun a u _ e => by
  rw [vw_some] at e ⊢
  exact ⟨e.1, by rw [upd_ne (ne_of_none e.2 hp)]; exact e.2⟩
theorem vw_growO {g : Gh} {env : Mi.Env} {σ : L2.St} {ln : List Nat} {H : Hp} {p : Addr} {o : HO} (hp : H p = none) : Sm (g.vw env σ ln H) ((g.add p).vw env σ ln (upd H p o)) := fun a u _ e => by
  rw [vw_some] at e ⊢
  have ne := ne_of_none e.2 hp
  exact ⟨e.1.imp (fun z => add_O_false.mpr ⟨z, ne⟩) id, by rw [upd_ne ne]; exact e.2⟩

section
variable {lk : List Nat} {g g1 : Gh} {env env1 : Mi.Env} {h1 : Hx} {σ : L2.St} {H H1 : Hp}
/-- an operation's answer is the evaluation's -/
theorem At.got (a : At K T lk g env σ H g1 env1 h1 H1) {ln : List Nat} {z : PD} {fr : Bool} {Q : VK} (k : ∀ g' v H', CE K T lk g env σ H ⟨.d z, fr, lnOf (.d z) fr ln⟩ g' env1 h1 v H' → Q v H') : Got (g1.vw env1 σ ln H1) H1 z fr Q where
  old := fun v hf d => by
    refine k g1 v H1 ⟨a.fr, a.rel, a.own, ?_⟩
    unfold OutR
    refine ⟨fun kvs z => (by cases z), ?_⟩
    rw [if_neg (by simpa [isMutV] using hf)]
    refine Dq.clean a.rel (fun e => ?_) d
    rw [e] at hf
    simpa using hf
  lst := fun p vs ds e1 e2 hp d => by
    subst e1 e2
    have f := a.rel.fresh hp
    refine k (g1.add p) _ _ ⟨a.fr.trans (Fram.growO a.rel lk hp), a.rel.growO hp rfl, a.own, ?_⟩
    unfold OutR
    refine ⟨fun kvs z => (by cases z), ?_⟩
    rw [if_pos (by rfl)]
    exact ⟨p, rfl, a.fr.there p hp, add_O.mpr (.inr rfl), f.2.2.1, f.2.2.2, vs, upd_same, DqAll.up (vw_growO hp) (DqAll.clean a.rel d)⟩
  tup := fun p vs ds e2 hp d => by
    subst e2
    refine k g1 _ _ ⟨a.fr.trans (Fram.grow a.rel lk hp), a.rel.grow hp, a.own, ?_⟩
    unfold OutR
    refine ⟨fun kvs z => (by cases z), ?_⟩
    rw [if_neg (by simp [isMutV, isMut])]
    have r' := a.rel.grow (o := .tup vs) hp
    refine Dq.clean r' (fun _ => rfl) (.tup (vw_some.mpr ⟨.inl (a.rel.fresh hp).1, upd_same⟩) (DqAll.up (vw_grow hp) d))
theorem Got.int {W : Hp} {i : Int} {fr : Bool} {Q : VK} (k : Got W H (.int i) fr Q) : Q (.int i) H := k.old _ (by simp [isMut]) (.int i)
theorem Got.bl {W : Hp} {i : Bool} {fr : Bool} {Q : VK} (k : Got W H (.bool i) fr Q) : Q (.bl i) H := k.old _ (by simp [isMut]) (.bl i)
theorem Got.str {W : Hp} {i : Str} {fr : Bool} {Q : VK} (k : Got W H (.str i) fr Q) : Q (.str i) H := k.old _ (by simp [isMut]) (.str i)
theorem Got.non {W : Hp} {fr : Bool} {Q : VK} (k : Got W H .none fr Q) : Q .non H := k.old _ (by simp [isMut]) .non
end

/-! ### readings -/
/-- an error of the class c that holds x -/
def XR (K : PySem.W.Frag) (mg : Str → Option Value) (g : Gh) (H : Hp) (c : Str) (x : PD) (cls : Value) (d : Option Addr) : Prop :=
  mg c = some cls ∧ ∃ dd v, d = some dd ∧ H dd = some (.xd [(Str.ofString "value", v)]) ∧ Dq (fz g.O H) v x
def AnsX (K : PySem.W.Frag) (T : Addr → Prop) (mg : Str → Option Value) (W : WX) (lk : List Nat) (g : Gh) (env : Mi.Env) (σ : L2.St) (H : Hp) (c : Str) (x : PD) (env' : Mi.Env) (h' : Hx) : Prop :=
  ∀ g' H' cls d, Fram lk g env σ H g' env' σ H' → Rel K T g' env' h' σ H' → (∀ i a, ownAt env' σ i a → ownAt env σ i a) → XR K mg g' H' c x cls d → W cls d σ H'
def AnsE (K : PySem.W.Frag) (T : Addr → Prop) (mg : Str → Option Value) (W : WX) (lk : List Nat) (g : Gh) (env : Mi.Env) (σ : L2.St) (H : Hp) (r : R Out) (Q : VK) : Prop :=
  match r with
  | .no => False
  | .ok o env' h' => ∀ g' v H', CE K T lk g env σ H o g' env' h' v H' → Q v H'
  | .ex c x env' h' => AnsX K T mg W lk g env σ H c x env' h'
def tE (K : PySem.W.Frag) (T : Addr → Prop) (mg : Str → Option Value) (W : WX) (F : Fns) (m : MX) : TE := fun σ H Q =>
  ∃ lk g env h, Rel K T g env h σ H ∧ AnsE K T mg W lk g env σ H (ev F lk m env h) Q

inductive VRs (K : PySem.W.Frag) (W : Hp) (ρ : List Addr) : List Val → List V → Prop
  | nil : VRs K W ρ [] []
  | cons {x : Val} {v : V} {xs : List Val} {vs : List V} : VR K W ρ x v → VRs K W ρ xs vs → VRs K W ρ (x :: xs) (v :: vs)
def AnsA (K : PySem.W.Frag) (T : Addr → Prop) (mg : Str → Option Value) (W : WX) (lk : List Nat) (g : Gh) (env : Mi.Env) (σ : L2.St) (H : Hp) (r : R (List Out)) (Q : List V → Hp → Prop) : Prop :=
  match r with
  | .no => False
  | .ok os env' h' => ∀ g' vs H', At K T lk g env σ H g' env' h' H' → VRs K (g'.vw env' σ (lnsOf os) H') g'.ρ (os.map Out.v) vs → Q vs H'
  | .ex c x env' h' => AnsX K T mg W lk g env σ H c x env' h'
def tAs (K : PySem.W.Frag) (T : Addr → Prop) (mg : Str → Option Value) (W : WX) (F : Fns) (ms : List MX) : TA := fun σ H Q =>
  ∃ lk g env h, Rel K T g env h σ H ∧ AnsA K T mg W lk g env σ H (evs F lk ms env h) Q

theorem PE.imp {X : Cx} {e : Expr} {t t' : TE} (h : PE X e t) (k : ∀ σ H Q, t' σ H Q → t σ H Q) : PE X e t' := ⟨fun pins s σ H Q I q => h.run pins s σ H Q I (k σ H Q q)⟩
theorem PT.imp {X : Cx} {e : Expr} {t t' : TT} (h : PT X e t) (k : ∀ σ H Q, t' σ H Q → t σ H Q) : PT X e t' := ⟨fun pins s σ H Q I q => h.run pins s σ H Q I (k σ H Q q)⟩
theorem PA.imp {X : Cx} {es : List Expr} {t t' : TA} (h : PA X es t) (k : ∀ σ H Q, t' σ H Q → t σ H Q) : PA X es t' := ⟨fun pos pins s σ H Q I q => h.run pos pins s σ H Q I (k σ H Q q)⟩
theorem PS.imp {X : Cx} {e : Stmt} {t t' : TS} (h : PS X e t) (k : ∀ D σ H, t' D σ H → t D σ H) : PS X e t' := ⟨fun pins s σ H D I q => h.run pins s σ H D I (k D σ H q)⟩

section
variable {mg : Str → Option Value} {W : WX} {F : Fns} {lk : List Nat} {g : Gh} {env : Mi.Env} {h : Hx} {σ : L2.St} {H : Hp} {Q : VK}
theorem AnsX.pre {g1 : Gh} {env1 : Mi.Env} {h1 : Hx} {H1 : Hp} (a : At K T lk g env σ H g1 env1 h1 H1) {lk' : List Nat} (hl : ∀ i ∈ lk, i ∈ lk') {c : Str} {x : PD} {env' : Mi.Env} {h' : Hx} (q : AnsX K T mg W lk g env σ H c x env' h') : AnsX K T mg W lk' g1 env1 σ H1 c x env' h' :=
  fun g' H' cls d f r o z => q g' H' cls d (a.fr.trans (f.sub hl)) r (fun i b w => a.own i b (o i b w)) z
theorem Rel.nn (r : Rel K T g env h σ H) : ∀ a, g.O a = true → H a ≠ none := fun a e z => by
  obtain ⟨o, q, _⟩ := r.kind a (.inl e)
  rw [z] at q
  cases q
theorem Rel.at (r : Rel K T g env h σ H) : At K T lk g env σ H g env h H := ⟨Fram.refl lk g env σ H, r, fun _ _ q => q⟩
theorem At.trans {g1 g2 : Gh} {env1 env2 : Mi.Env} {h1 h2 : Hx} {H1 H2 : Hp} {lk' : List Nat} (a : At K T lk g env σ H g1 env1 h1 H1) (b : At K T lk' g1 env1 σ H1 g2 env2 h2 H2) (hl : ∀ i ∈ lk, i ∈ lk') : At K T lk g env σ H g2 env2 h2 H2 :=
  ⟨a.fr.trans (b.fr.sub hl), b.rel, fun i c q => a.own i c (b.own i c q)⟩
theorem At.frz {g1 : Gh} {env1 : Mi.Env} {h1 : Hx} {H1 : Hp} (a : At K T lk g env σ H g1 env1 h1 H1) (ln : List Nat) : At K T lk g env σ H (g1.cut (lnB env1 σ ln)) (Mi.frz ln env1) h1 H1 :=
  ⟨a.fr.trans (Fram.frz a.rel ln), a.rel.frz ln, fun i c q => a.own i c (ownAt_frz.mp q).1⟩
theorem CE.look' {g' : Gh} {env' : Mi.Env} {h' : Hx} {H' : Hp} {o : Out} {v : V} (r : Rel K T g env h σ H) (c : CE K T lk g env σ H o g' env' h' v H') :
    ∃ g1, At K T lk g env σ H g1 env' h' H' ∧ VR K (g1.vw env' σ o.ln H') g1.ρ o.v v := by
  obtain ⟨ov, fr, ln⟩ := o
  cases ov with
  | d x =>
    obtain ⟨g1, a, b, d⟩ := c.look rfl r.nn
    exact ⟨g1, ⟨a, b, c.own⟩, d⟩
  | dct kvs => exact absurd rfl (c.out.1 kvs)
  | kd kvs =>
    obtain ⟨g1, a, b, d⟩ := c.lookK rfl r.nn
    exact ⟨g1, ⟨a, b, c.own⟩, d⟩
  | _ =>
    have q := c.out.2
    rw [if_neg (by simp [isMutV])] at q
    exact ⟨g', ⟨c.fr, c.rel, c.own⟩, q⟩
end
end Mi
/-! MiD: operators by data. -/
namespace Mi
open PySem PySem.Spec PyProof.Rows L2
variable {X : Cx}

theorem lim_eq : lim = sizeLine := by rw [sizeLine_eq]; rfl
def opB : Bop → Operator
  | .add => .Add | .sub => .Sub | .mul => .Mult | .fdiv => .FloorDiv | .mod => .Mod | .pow => .Pow | .shl => .LShift | .shr => .RShift | .band => .BitAnd

/-! ### tuple * int at its edges -/
section
variable {l : Addr} {items : Array Value} {n : Nat} {sl : Array (Option Value)} {dd : Option Addr}
theorem tup_mul_same (x : Int) (u : Tok) (c0 : (decide (x < -(2 ^ 63)) || decide (x ≥ 2 ^ 63)) = false) (c1 : (items.isEmpty || x == 1) = true) :
    Meets (Builtin.«tuple.__mul__» ⟨[.ref l, .int x u], []⟩) (fun _ R s => s.heap.get? l = some { cls := .type "tuple", dict := dd, data := .seq items n, slots := sl } ∧ R (.ok (.ret (Value.ref l))) s) :=
  .of_wp fun prog w A R s h => by
    obtain ⟨hp, g, d, tk, os⟩ := s
    obtain ⟨hl, h⟩ := h
    have f1 := AutoSeq1.idx_int
    wp_walk using wpAny_loadPart' hl
    repeat (first
      | (refine wpAny_ite_false (decide_eq_false (by rw [c0]; exact Bool.false_ne_true)) ?_; wp_walk using wpAny_loadPart' hl)
      | (refine wpAny_ite_true (decide_eq_true c1) ?_; wp_walk using wpAny_loadPart' hl))
    exact ⟨_, rfl, h⟩
theorem tup_mul_zero (x : Int) (u : Tok) (c0 : (decide (x < -(2 ^ 63)) || decide (x ≥ 2 ^ 63)) = false) (c1 : (items.isEmpty || x == 1) = false) (c2 : (decide (x ≤ 0) || items.isEmpty) = true) :
    Meets (Builtin.«tuple.__mul__» ⟨[.ref l, .int x u], []⟩) (fun _ R s => s.heap.get? l = some { cls := .type "tuple", dict := dd, data := .seq items n, slots := sl } ∧
      R (.ok (.ret (Value.ref s.heap.objs.size))) { s with heap := s.heap.push { cls := Value.type "tuple", data := Data.seq #[] }, toks := s.toks }) :=
  .of_wp fun prog w A R s h => by
    obtain ⟨hp, g, d, tk, os⟩ := s
    obtain ⟨hl, h⟩ := h
    have f1 := AutoSeq1.idx_int
    wp_walk using wpAny_loadPart' hl
    repeat (first
      | (refine wpAny_ite_false (decide_eq_false (by rw [c0]; exact Bool.false_ne_true)) ?_; wp_walk using wpAny_loadPart' hl)
      | (refine wpAny_ite_false (decide_eq_false (by rw [c1]; exact Bool.false_ne_true)) ?_; wp_walk using wpAny_loadPart' hl)
      | (refine wpAny_ite_true (decide_eq_true c2) ?_; wp_walk using wpAny_loadPart' hl))
    exact ⟨_, rfl, h⟩
end
/-- a tuple times an int -/
def rRepA (K : PySem.W.Frag) : R2 := fun x y H Q => ∃ l k xs, x = .ref l ∧ y = .int k ∧ SqT K H l xs ∧ -1000 ≤ k ∧ k ≤ 1000 ∧ xs.length ≤ 1000 ∧
  ((List.replicate k.toNat xs).flatten = xs → Q (.ref l) H) ∧ ∀ p, H p = none → Q (.ref p) (upd H p (.tup (List.replicate k.toNat xs).flatten))
theorem op_repA : OpR X (binaryOp .Mult) (rRepA X.K) := by
  intro pins s σ H x y v u Q I rx ry h
  obtain ⟨l, k, xs, rfl, rfl, hT, h1, h2, hz, q1, q2⟩ := h
  by_cases hbig : xs ≠ [] ∧ 2 ≤ k
  · exact op_repT pins s σ H _ _ v u Q I rx ry ⟨l, k, xs, rfl, rfl, hT, hbig.1, hbig.2, h2, hz, q2⟩
  cases rx
  obtain ⟨t, rfl⟩ := ry
  obtain ⟨its, r, ⟨⟨cls, dd, data, sl⟩, ho, hc, n, hd⟩, hs⟩ := I.tuple hT
  simp only at hc hd
  subst hc hd
  have hle : its.length = xs.length := r.length.symm
  have c0 : (decide (k < -(2 ^ 63)) || decide (k ≥ 2 ^ 63)) = false := by
    rw [decide_eq_false (by omega), decide_eq_false (by omega)] <;> rfl
  refine wpAny_binaryOp_repeat_ref (T := "tuple") (U := "int") (by decide) ⟨_, ho, rfl⟩ (fun s' => typeIs_int s' k t) noFill_tuple_mul F.fills_int_mul F.slot_int_rmul repeat_tuple F.slot_int_index.lookup
    (call_meets F.slot_int_rmul (typeIs_int s k t) F.entry_int_rmul (F.args_int_rmul_2 _ _) (int_rmul_tuple k t l its.toArray n dd sl) ⟨ho, rfl, ⟨_, ho, rfl⟩, ?_⟩)
  have he : its.toArray.isEmpty = xs.isEmpty := by
    cases its <;> cases xs <;> simp_all
  by_cases c1 : (its.toArray.isEmpty || k == 1) = true
  · refine call_meets F.slot_tuple_mul ⟨_, ho, rfl⟩ F.entry_tuple_mul (F.args_tuple_mul_2 _ _) (tup_mul_same k t c0 c1) ⟨ho, ⟨.ref l, H, I, rfl, q1 ?_⟩⟩
    rw [he, Bool.or_eq_true] at c1
    rcases c1 with c1 | c1
    · rw [List.isEmpty_iff.mp c1]
      simp
    · have : k = 1 := by simpa using c1
      subst this
      simp
  · have c1' : (its.toArray.isEmpty || k == 1) = false := by simpa using c1
    have hne : xs ≠ [] := fun e => by
      rw [he, e] at c1'
      simp at c1'
    have hk : k ≠ 1 := fun e => by
      rw [e] at c1'
      simp at c1'
    have k0 : k ≤ 0 := by
      have : ¬ 2 ≤ k := fun z => hbig ⟨hne, z⟩
      omega
    refine call_meets F.slot_tuple_mul ⟨_, ho, rfl⟩ F.entry_tuple_mul (F.args_tuple_mul_2 _ _) (tup_mul_zero k t c0 c1' (by rw [decide_eq_true k0]; rfl)) ⟨ho, ?_⟩
    have e0 : k.toNat = 0 := by omega
    have q3 := q2 _ (I.hok.fresh (Nat.le_refl _))
    rw [e0] at q3
    exact ⟨.ref s.heap.objs.size, _, I.laid (t' := s.toks) (o := .tup []) (fun b ob q => Heap.get?_push_of_some _ q) (Nat.le_refl _) ⟨by simp, [], .nil, IsTup.new _ _⟩, rfl, q3⟩

theorem cut_all {xs : List PD} {l u : Option Int} (h1 : HT.sIx xs.length 0 l = 0) (h2 : HT.sIx xs.length xs.length u = xs.length) : cutD xs l u = xs := by
  unfold cutD
  rw [h1, h2]
  simp
/-- what a two-place operation asks -/
def rTwo (f : PD → PD → Option (PD × Bool)) : R2 := fun x y H Q => ∃ W dx dy z fr, Sm W H ∧ Dq W x dx ∧ Dq W y dy ∧ f dx dy = some (z, fr) ∧ Got W H z fr Q

theorem flat_eq {W : Hp} {vs : List V} {ds : List PD} (h : DqAll W vs ds) (n : Nat) (e : (List.replicate n vs).flatten = vs) : (List.replicate n ds).flatten = ds := by
  have l := DqAll.length h
  have e2 := congrArg List.length e
  rw [PyProof.Rows.lm_len_rep_flat, l] at e2
  by_cases hz : ds.length = 0
  · rw [List.eq_nil_of_length_eq_zero hz]
    simp
  · have : n = 1 := by
      have h3 : n * ds.length = 1 * ds.length := by omega
      exact Nat.eq_of_mul_eq_mul_right (by omega) h3
    subst this
    simp
section
variable {W H : Hp} {Q : VK}
theorem two_int {f : PD → PD → Option (PD × Bool)} {dx dy : PD} {x y : V} (hx : Dq W x dx) (hy : Dq W y dy) {i j : Int} (ex : dx = .int i) (ey : dy = .int j) : x = .int i ∧ y = .int j := by
  subst ex ey
  cases hx
  cases hy
  exact ⟨rfl, rfl⟩
end
theorem sm_ok {n : Nat} {i : Int} (h : sm n i = true) : i.natAbs < 2 ^ n := of_decide_eq_true h
theorem natAbs64 {i : Int} (h : i.natAbs < 2 ^ 64) : -(2 ^ 64) < i ∧ i < 2 ^ 64 := by
  have e : ((2 : Int) ^ 64) = ((2 ^ 64 : Nat) : Int) := by norm_cast
  rw [e]
  omega
theorem op_fdivX : OpR X (binaryOp .FloorDiv) (rI (fun _ j => j ≠ 0 ∧ j.natAbs.log2 < 9000) fun i j => .int (i.fdiv j)) := opI fun _ _ _ _ _ _ _ hc q => floordiv_int hc.1 q (.inl (PyProof.noPylong_of_log2 hc.2))
theorem op_bin (op : Bop) : OpR X (binaryOp (opB op)) (rTwo (binD op)) := by
  intro pins s σ H x y v u Q I rx ry h
  obtain ⟨W, dx, dy, z, fr, sm, hx, hy, e, got⟩ := h
  cases hx with
  | int i =>
    cases hy with
    | int j =>
      cases op with
      | add =>
        simp only [binD, Option.some.injEq, Prod.mk.injEq] at e
        obtain ⟨rfl, rfl⟩ := e
        exact op_add pins s σ H _ _ v u Q I rx ry ⟨i, j, rfl, rfl, got.int⟩
      | sub =>
        simp only [binD, Option.some.injEq, Prod.mk.injEq] at e
        obtain ⟨rfl, rfl⟩ := e
        exact op_sub pins s σ H _ _ v u Q I rx ry ⟨i, j, rfl, rfl, got.int⟩
      | mul =>
        simp only [binD] at e
        split at e
        · rename_i hm
          cases e
          unfold mulOk at hm
          simp only [Bool.or_eq_true, Bool.and_eq_true] at hm
          rcases hm with (hm | hm) | hm
          · exact op_mul pins s σ H _ _ v u Q I rx ry ⟨i, j, rfl, rfl, .inl (natAbs64 (sm_ok hm)), got.int⟩
          · exact op_mul pins s σ H _ _ v u Q I rx ry ⟨i, j, rfl, rfl, .inr (natAbs64 (sm_ok hm)), got.int⟩
          · exact op_mulW pins s σ H _ _ v u Q I rx ry ⟨i, j, rfl, rfl, wide_mul (sm_ok hm.1) (sm_ok hm.2) (by decide) (by decide) (by decide), got.int⟩
        · cases e
      | fdiv =>
        simp only [binD] at e
        split at e
        · rename_i hm
          cases e
          exact op_fdivX pins s σ H _ _ v u Q I rx ry ⟨i, j, rfl, rfl, hm, got.int⟩
        · cases e
      | mod =>
        simp only [binD] at e
        split at e
        · rename_i hm
          cases e
          exact op_modN pins s σ H _ _ v u Q I rx ry ⟨i, j, rfl, rfl, hm, got.int⟩
        · cases e
      | pow =>
        simp only [binD] at e
        split at e
        · rename_i hm
          cases e
          exact op_pow pins s σ H _ _ v u Q I rx ry ⟨i, j, rfl, rfl, hm, got.int⟩
        · cases e
      | shl =>
        simp only [binD] at e
        split at e
        · rename_i hm
          cases e
          exact op_shl pins s σ H _ _ v u Q I rx ry ⟨i, j, rfl, rfl, hm, got.int⟩
        · cases e
      | shr =>
        simp only [binD] at e
        split at e
        · rename_i hm
          cases e
          exact op_shr pins s σ H _ _ v u Q I rx ry ⟨i, j, rfl, rfl, hm, got.int⟩
        · cases e
      | band =>
        simp only [binD, Option.some.injEq, Prod.mk.injEq] at e
        obtain ⟨rfl, rfl⟩ := e
        exact op_and pins s σ H _ _ v u Q I rx ry ⟨i, j, rfl, rfl, got.int⟩
    | _ => cases op <;> simp [binD] at e
  | tup ha da =>
    rename_i a xs ds
    cases hy with
    | tup hb db =>
      rename_i b ys es
      cases op with
      | add =>
        simp only [binD] at e
        split at e
        · rename_i hm
          cases e
          have l1 := DqAll.length da
          have l2 := DqAll.length db
          rw [← l1, ← l2, lim_eq] at hm
          refine op_catA pins s σ H _ _ v u Q I rx ry ⟨a, b, xs, ys, rfl, rfl, SqT.of (sm _ _ rfl ha), SqT.of (sm _ _ rfl hb), hm, fun z => ?_, fun z1 z2 => ?_, fun _ _ p hp => got.tup p _ _ rfl hp (da.app db)⟩
          · subst z
            cases da
            exact got.old _ (by simp [isMut]) (.tup hb db)
          · subst z2
            cases db
            rw [List.append_nil] at got
            exact got.old _ (by simp [isMut]) (.tup ha da)
        · cases e
      | _ => simp [binD] at e
    | int k =>
      cases op with
      | mul =>
        simp only [binD] at e
        split at e
        · rename_i hm
          cases e
          have l1 := DqAll.length da
          refine op_repA pins s σ H _ _ v u Q I rx ry ⟨a, k, xs, rfl, rfl, SqT.of (sm _ _ rfl ha), hm.2.1, hm.1, by omega, fun z => ?_, fun p hp => got.tup p _ _ rfl hp (da.rep _)⟩
          have := flat_eq da _ z
          rw [this] at got
          exact got.old _ (by simp [isMut]) (.tup ha da)
        · cases e
      | _ => simp [binD] at e
    | _ => cases op <;> simp [binD] at e
  | lst ha da =>
    rename_i a xs ds
    cases hy with
    | lst hb db =>
      rename_i b ys es
      cases op with
      | add =>
        simp only [binD] at e
        split at e
        · rename_i hm
          cases e
          have l1 := DqAll.length da
          have l2 := DqAll.length db
          rw [← l1, ← l2, lim_eq] at hm
          exact op_cat pins s σ H _ _ v u Q I rx ry ⟨a, b, xs, ys, rfl, rfl, sm _ _ rfl ha, sm _ _ rfl hb, hm, fun p hp => got.lst p _ _ rfl rfl hp (da.app db)⟩
        · cases e
      | _ => simp [binD] at e
    | int k =>
      cases op with
      | mul =>
        simp only [binD] at e
        split at e
        · rename_i hm
          cases e
          have l1 := DqAll.length da
          refine op_rep pins s σ H _ _ v u Q I rx ry ⟨a, k, xs, rfl, rfl, sm _ _ rfl ha, by omega, by omega, by rw [l1, ← lim_eq]; exact hm.2.2, fun p hp => got.lst p _ _ rfl rfl hp (da.rep _)⟩
        · cases e
      | _ => simp [binD] at e
    | _ => cases op <;> simp [binD] at e
  | non => cases hy <;> cases op <;> simp [binD] at e
  | bl b => cases hy <;> cases op <;> simp [binD] at e
  | str x => cases hy <;> cases op <;> simp [binD] at e

/-! ### comparisons -/
def opC : Cop → CmpOp
  | .eq => .Eq | .ne => .NotEq | .lt => .Lt | .le => .LtE | .gt => .Gt | .ge => .GtE | .is => .Is | .isnot => .IsNot | .isin => .In | .notin => .NotIn
def rTwoB (f : PD → PD → Option Bool) : R2 := fun x y H Q => ∃ W dx dy b, Sm W H ∧ Dq W x dx ∧ Dq W y dy ∧ f dx dy = some b ∧ Q (.bl b) H
theorem Dq.non_iff {W : Hp} {x : V} {d : PD} (h : Dq W x d) : decide (x = .non) = isN d := by
  cases h <;> simp [isN]
section
variable {pins : List (Addr × Obj)} {s : Shared} {σ : L2.St} {H W : Hp} {x y : V} {v u : Value} {dx dy : PD} {Q : VK}
theorem lt_ok (hu : X.A.units + 65 < cLine) (I : Inv X pins σ H s) (rx : RelV x v) (ry : RelV y u) (hx : Dq H x dx) (hy : Dq H y dy) {b : Bool} (e : ltD dx dy = some b) :
    (∃ i j, dx = .int i ∧ dy = .int j ∧ b = decide (i < j)) ∨ (∃ as bs, Reads s.heap v dx as ∧ Reads s.heap u dy bs ∧ PySem.W.alike dx dy = true ∧ dx ≠ .none ∧ X.A.units + min dx.depth dy.depth < cLine ∧ b = PySem.W.dataLt dx dy) := by
  unfold ltD at e
  split at e
  · exact .inl ⟨_, _, rfl, rfl, (Option.some.inj e).symm⟩
  · split at e
    · rename_i xs ys hm
      simp only [Bool.and_eq_true, decide_eq_true_eq] at hm
      obtain ⟨as, r1⟩ := L2.Dp.reads I _ x v hx.dp rx
      obtain ⟨bs, r2⟩ := L2.Dp.reads I _ y u hy.dp ry
      refine .inr ⟨as, bs, r1, r2, hm.1, (fun z => by cases z), ?_, (Option.some.inj e).symm⟩
      have := Nat.min_le_left (PyData.tuple xs).depth (PyData.tuple ys).depth
      omega
    · cases e
  · cases e
theorem alike_symm_lt (hu : X.A.units + 65 < cLine) (I : Inv X pins σ H s) (rx : RelV x v) (ry : RelV y u) (hx : Dq H x dx) (hy : Dq H y dy) {b : Bool} (e : ltD dy dx = some b) :
    (∃ i j, dx = .int i ∧ dy = .int j ∧ b = decide (j < i)) ∨ (∃ as bs, Reads s.heap v dx as ∧ Reads s.heap u dy bs ∧ PySem.W.alike dy dx = true ∧ dx ≠ .none ∧ X.A.units + min dx.depth dy.depth < cLine ∧ b = PySem.W.dataLt dy dx) := by
  unfold ltD at e
  split at e
  · exact .inl ⟨_, _, rfl, rfl, (Option.some.inj e).symm⟩
  · split at e
    · rename_i xs ys hm
      simp only [Bool.and_eq_true, decide_eq_true_eq] at hm
      obtain ⟨as, r1⟩ := L2.Dp.reads I _ x v hx.dp rx
      obtain ⟨bs, r2⟩ := L2.Dp.reads I _ y u hy.dp ry
      refine .inr ⟨as, bs, r1, r2, hm.1, (fun z => by cases z), ?_, (Option.some.inj e).symm⟩
      have := Nat.min_le_right (PyData.tuple ys).depth (PyData.tuple xs).depth
      omega
    · cases e
  · cases e
end
mutual
theorem alike_symm : ∀ x y : PD, PySem.W.alike x y = PySem.W.alike y x
  | .none, y => by cases y <;> simp [PySem.W.alike]
  | .bool _, y => by cases y <;> simp [PySem.W.alike]
  | .int _, y => by cases y <;> simp [PySem.W.alike]
  | .str _, y => by cases y <;> simp [PySem.W.alike]
  | .dict _, y => by cases y <;> simp [PySem.W.alike]
  | .list xs, y => by cases y <;> simp [PySem.W.alike, alikeAll_symm xs]
  | .tuple xs, y => by cases y <;> simp [PySem.W.alike, alikeAll_symm xs]
theorem alikeAll_symm : ∀ xs ys : List PD, PySem.W.alikeAll xs ys = PySem.W.alikeAll ys xs
  | [], ys => by cases ys <;> simp [PySem.W.alikeAll]
  | x :: xs, ys => by cases ys <;> simp [PySem.W.alikeAll, alike_symm x, alikeAll_symm xs]
end
theorem op_cmpD (hu : X.A.units + 65 < cLine) (op : Cop) : OpR X (compareOp (opC op)) (rTwoB (cmpD op)) := by
  intro pins s σ H x y v u Q I rx ry h
  obtain ⟨W, dx, dy, b, sm, hx, hy, e, q⟩ := h
  replace hx := hx.up sm
  replace hy := hy.up sm
  have dmin : ∀ {a b : PD}, a.depth ≤ 50 → X.A.units + min a.depth b.depth < cLine := fun {a b} h => by
    have := Nat.min_le_left a.depth b.depth
    omega
  have dmin1 : ∀ {n : Nat} {b : PD}, b.depth ≤ 50 → X.A.units + 1 + min n b.depth < cLine := fun {n b} h => by
    have := Nat.min_le_right n b.depth
    omega
  have eqc : ∀ b, eqD dx dy = some b → (scal x y = true ∧ b = decide (x = y)) ∨ (dx.plain = true ∧ dy.plain = true ∧ dx.depth ≤ 50 ∧ b = PyData.eqv dx dy) := fun b e => by
    unfold eqD at e
    split at e
    · cases hx
      cases hy
      exact .inl ⟨rfl, by rw [← Option.some.inj e]; simp⟩
    · cases hx
      cases hy
      exact .inl ⟨rfl, by rw [← Option.some.inj e]; simp⟩
    · split at e
      · rename_i hm
        simp only [okEq, Bool.and_eq_true] at hm
        simp only [decide_eq_true_eq] at hm
        exact .inr ⟨hm.1.1, hm.2.1, hm.1.2, (Option.some.inj e).symm⟩
      · cases e
  cases op with
  | eq =>
    rcases eqc b e with ⟨h1, rfl⟩ | ⟨h1, h2, h3, rfl⟩
    · exact op_eq pins s σ H _ _ v u Q I rx ry ⟨h1, q⟩
    · obtain ⟨as, r1⟩ := L2.Dp.reads I dx x v hx.dp rx
      obtain ⟨bs, r2⟩ := L2.Dp.reads I dy y u hy.dp ry
      exact SeqAt.eq_plain r1 r2 h1 h2 (dmin h3) ⟨.bl _, H, I, rfl, q⟩
  | ne =>
    simp only [cmpD, Option.map_eq_some_iff] at e
    obtain ⟨b', e, rfl⟩ := e
    rcases eqc b' e with ⟨h1, rfl⟩ | ⟨h1, h2, h3, rfl⟩
    · exact op_ne pins s σ H _ _ v u Q I rx ry ⟨h1, q⟩
    · obtain ⟨as, r1⟩ := L2.Dp.reads I dx x v hx.dp rx
      obtain ⟨bs, r2⟩ := L2.Dp.reads I dy y u hy.dp ry
      exact SeqAt.ne_plain r1 r2 h1 h2 (dmin h3) ⟨.bl _, H, I, rfl, q⟩
  | lt =>
    rcases lt_ok hu I rx ry hx hy e with ⟨i, j, rfl, rfl, rfl⟩ | ⟨as, bs, r1, r2, h1, h2, h3, rfl⟩
    · cases hx
      cases hy
      exact op_lt pins s σ H _ _ v u Q I rx ry ⟨i, j, rfl, rfl, q⟩
    · exact PySem.W.lt_data r1 r2 h1 h2 h3 ⟨.bl _, H, I, rfl, q⟩
  | gt =>
    rcases alike_symm_lt hu I rx ry hx hy e with ⟨i, j, rfl, rfl, rfl⟩ | ⟨as, bs, r1, r2, h1, h2, h3, rfl⟩
    · cases hx
      cases hy
      exact op_gt pins s σ H _ _ v u Q I rx ry ⟨i, j, rfl, rfl, q⟩
    · exact PySem.W.gt_data r1 r2 (by rw [alike_symm]; exact h1) h2 h3 ⟨.bl _, H, I, rfl, q⟩
  | le =>
    simp only [cmpD] at e
    split at e
    · cases hx
      cases hy
      rw [← Option.some.inj e] at q
      exact op_le pins s σ H _ _ v u Q I rx ry ⟨_, _, rfl, rfl, q⟩
    · rename_i hne
      simp only [Option.map_eq_some_iff] at e
      obtain ⟨b', e, rfl⟩ := e
      rcases alike_symm_lt hu I rx ry hx hy e with ⟨i, j, rfl, rfl, rfl⟩ | ⟨as, bs, r1, r2, h1, h2, h3, rfl⟩
      · exact absurd rfl (hne i j rfl)
      · exact PySem.W.le_data r1 r2 (by rw [alike_symm]; exact h1) h2 h3 ⟨.bl _, H, I, rfl, q⟩
  | ge =>
    simp only [cmpD] at e
    split at e
    · cases hx
      cases hy
      rw [← Option.some.inj e] at q
      exact op_ge pins s σ H _ _ v u Q I rx ry ⟨_, _, rfl, rfl, q⟩
    · rename_i hne
      simp only [Option.map_eq_some_iff] at e
      obtain ⟨b', e, rfl⟩ := e
      rcases lt_ok hu I rx ry hx hy e with ⟨i, j, rfl, rfl, rfl⟩ | ⟨as, bs, r1, r2, h1, h2, h3, rfl⟩
      · exact absurd rfl (hne i j rfl)
      · exact PySem.W.ge_data r1 r2 h1 h2 h3 ⟨.bl _, H, I, rfl, q⟩
  | is =>
    simp only [cmpD] at e
    split at e
    · cases hy
      refine op_isN pins s σ H _ _ v u Q I rx ry ⟨rfl, ?_⟩
      rw [hx.non_iff, Option.some.inj e]
      exact q
    · cases e
  | isnot =>
    simp only [cmpD] at e
    split at e
    · cases hy
      refine op_notN pins s σ H _ _ v u Q I rx ry ⟨rfl, ?_⟩
      have : (!decide (x = .non)) = b := by
        rw [hx.non_iff, ← Option.some.inj e]
      rw [this]
      exact q
    · cases e
  | isin =>
    simp only [cmpD] at e
    split at e
    · split at e
      · rename_i hm
        simp only [okEq, Bool.and_eq_true] at hm
        rw [← Option.some.inj e] at q
        simp only [decide_eq_true_eq] at hm
        obtain ⟨as, r1⟩ := L2.Dp.reads I dx x v hx.dp rx
        obtain ⟨bs, r2⟩ := L2.Dp.reads I _ y u hy.dp ry
        exact SeqAt.in_list_data r2 r1 hm.2.1 hm.1.1 (dmin1 hm.1.2) ⟨.bl _, H, I, rfl, q⟩
      · cases e
    · split at e
      · rename_i hm
        simp only [okEq, Bool.and_eq_true] at hm
        rw [← Option.some.inj e] at q
        obtain ⟨as, r1⟩ := L2.Dp.reads I dx x v hx.dp rx
        obtain ⟨bs, r2⟩ := L2.Dp.reads I _ y u hy.dp ry
        simp only [decide_eq_true_eq] at hm
        exact SeqAt.in_tuple_data r2 r1 hm.2.1 hm.1.1 (dmin1 hm.1.2) ⟨.bl _, H, I, rfl, q⟩
      · cases e
    · cases e
  | notin =>
    simp only [cmpD] at e
    split at e
    · split at e
      · rename_i hm
        simp only [okEq, Bool.and_eq_true] at hm
        rw [← Option.some.inj e] at q
        simp only [decide_eq_true_eq] at hm
        obtain ⟨as, r1⟩ := L2.Dp.reads I dx x v hx.dp rx
        obtain ⟨bs, r2⟩ := L2.Dp.reads I _ y u hy.dp ry
        exact SeqAt.notIn_list_data r2 r1 hm.2.1 hm.1.1 (dmin1 hm.1.2) ⟨.bl _, H, I, rfl, q⟩
      · cases e
    · split at e
      · rename_i hm
        simp only [okEq, Bool.and_eq_true] at hm
        rw [← Option.some.inj e] at q
        obtain ⟨as, r1⟩ := L2.Dp.reads I dx x v hx.dp rx
        obtain ⟨bs, r2⟩ := L2.Dp.reads I _ y u hy.dp ry
        simp only [decide_eq_true_eq] at hm
        exact SeqAt.notIn_tuple_data r2 r1 hm.2.1 hm.1.1 (dmin1 hm.1.2) ⟨.bl _, H, I, rfl, q⟩
      · cases e
    · cases e
end Mi
/-! MiE: truth, subscripts, slices, built-ins by data. -/
namespace Mi
open PySem PySem.Spec PyProof.Rows L2
variable {X : Cx} {K : PySem.W.Frag}

theorem truV {Wv H : Hp} {v : V} {x : PD} {b : Bool} (sm : Sm Wv H) (h : Dq Wv v x) (e : truth (.d x) = some b) : TruV K v H b := by
  cases h with
  | non =>
    simp only [truth, emp, Option.some.injEq] at e
    exact e.symm
  | bl c =>
    simp only [truth, emp, Option.some.injEq, Bool.not_not] at e
    exact e.symm
  | int i =>
    simp only [truth, emp, Option.some.injEq] at e
    exact e.symm
  | str z =>
    simp only [truth] at e
    split at e
    · rename_i hz
      rw [lim_eq] at hz
      refine ⟨hz, ?_⟩
      rw [← Option.some.inj e]
      simp only [emp]
      show _ = !((z.length : Int) == 0)
      congr 1
      rw [Bool.eq_iff_iff]
      simp
    · cases e
  | @lst a vs ds ha da =>
    simp only [truth, emp, Option.some.injEq] at e
    refine .inl ⟨vs, SqL.of (sm _ _ rfl ha), ?_⟩
    rw [← e]
    have := DqAll.length da
    cases vs <;> cases ds <;> simp_all
  | @tup a vs ds ha da =>
    simp only [truth, emp, Option.some.injEq] at e
    refine .inr (.inl ⟨vs, SqT.of (sm _ _ rfl ha), ?_⟩)
    rw [← e]
    have := DqAll.length da
    cases vs <;> cases ds <;> simp_all

/-! ### subscripts -/
theorem atI_dq {Wv : Hp} {vs : List V} {ds : List PD} {i : Int} {z : PD} (h : DqAll Wv vs ds) (e : atI ds i = some z) : ∃ v, atI vs i = some v ∧ Dq Wv v z := by
  unfold atI at e ⊢
  rw [DqAll.length h]
  cases q : ixN ds.length i with
  | none => rw [q] at e; cases e
  | some j =>
    rw [q] at e
    exact DqAll.get h e
theorem kv_look {Wv : Hp} : ∀ {es : List (Key × V)} {kvs : List (Str × PD)} {s : Str} {z : PD}, KvR K Wv es kvs → look s kvs = some z → ∃ v, valV es (.inr s) = some v ∧ Dq Wv v z
  | _, _, _, _, .nil, e => by simp [look] at e
  | _, _, s, z, .cons (s := s') (v := v) h t, e => by
    simp only [look] at e
    by_cases q : s = s'
    · rw [if_pos q] at e
      cases e
      exact ⟨v, by rw [valV_pos (by simp [q])], h⟩
    · rw [if_neg q] at e
      obtain ⟨v', a, b⟩ := kv_look t e
      refine ⟨v', ?_, b⟩
      unfold valV at a ⊢
      rw [List.find?_cons]
      have : decide ((Sum.inr s' : Key) = Sum.inr s) = false := by simp [Ne.symm q]
      rw [this]
      exact a
/-- a dict with text keys at a written place -/
def rIxK : R2 := fun x y H Q => ∃ a es s v, x = .ref a ∧ y = .str s ∧ H a = some (.dK es) ∧ valV es (.inr s) = some v ∧ Q v H
theorem ix_dict (hu : X.A.units + 1 < cLine) : IxR X rIxK := by
  intro value slice pins s σ H x y v u Q I rx ry h hs
  obtain ⟨a, es, k, z, rfl, rfl, ha, hv, q⟩ := h
  have g : DGet H a (.str k) (some z) := by
    have := DGet.k (k := Sum.inr k) ha
    rw [hv] at this
    exact this
  cases rx
  have hT := dict_typeIs I g
  unfold subscriptTail
  refine wpAny_bind ?_
  rw [getitemInPython_of_ne hT.not_modules]
  refine wpAny_bind (wpAny_specialOf hT PySem.F.slot_dict_getitem.lookup ?_)
  have done : wpAny (model X.prog X.w) X.A (subscripted slice false (.ref a) u) (fun r s3 => wpAny (model X.prog X.w) X.A (letTemporaryGo value (.ref a) r >>= fun _ => pure r) (EP X pins σ Q) X.xe s3) X.xe s := by
    rw [hs]
    exact wpAny_operating (wpAny_mono (d_getItem hu I g ry fun w' s' I' rw' => (⟨z, H, I', rw', q⟩ : EP X pins σ Q w' s')) (fun r s3 h3 => wpAny_bind (wpAny_letTemporaryGo (wpAny_pure h3))) fun _ _ w => w)
  first
    | exact wpAny_pure (wpAny_bind done)
    | exact wpAny_bind done
    | exact done

/-- the boxes as they stand -/
def BxR (K : PySem.W.Frag) (Wv H : Hp) (ρ : List Addr) (h : Hx) : Prop := ∀ (i : Nat) (b : Bx), h[i]? = some b → ∃ a, ρ[i]? = some a ∧ BR K Wv H b a
def rIxV (K : PySem.W.Frag) : R2 := fun x y H Q => ∃ Wv ρ a k h z, Sm Wv H ∧ VR K Wv ρ a x ∧ VR K Wv ρ k y ∧ BxR K Wv H ρ h ∧ ixV a k h = some z ∧ ∀ v, Dq Wv v z → Q v H
theorem ix_V (hu : X.A.units + 1 < cLine) : IxR X (rIxV X.K) := by
  intro value slice pins s σ H x y v u Q I rx ry h hs
  obtain ⟨Wv, ρ, a, k, hx, z, sm, ha, hk, hb, e, q⟩ := h
  unfold ixV at e
  split at e
  · rename_i xs i
    cases hk
    cases ha with
    | lst h1 h2 =>
      obtain ⟨w', e1, e2⟩ := atI_dq h2 e
      exact ix_list value slice pins s σ H _ _ v u Q I rx ry ⟨_, _, _, _, rfl, rfl, SqL.of (sm _ _ rfl h1), e1, q w' e2⟩ hs
  · rename_i xs i
    cases hk
    cases ha with
    | tup h1 h2 =>
      obtain ⟨w', e1, e2⟩ := atI_dq h2 e
      exact ix_tup value slice pins s σ H _ _ v u Q I rx ry ⟨_, _, _, _, rfl, rfl, SqT.of (sm _ _ rfl h1), e1, q w' e2⟩ hs
  · rename_i b st
    cases hk
    split at e
    · rename_i kvs e0
      obtain ⟨p, e1, rfl⟩ := ha
      obtain ⟨p', e2, es, e3, e4⟩ := hb b _ e0
      rw [e1] at e2
      cases e2
      obtain ⟨w', f1, f2⟩ := kv_look e4 e
      exact ix_dict hu value slice pins s σ H _ _ v u Q I rx ry ⟨_, es, st, w', rfl, rfl, e3, f1, q w' f2⟩ hs
    · cases e
  · cases e

/-! ### slices -/
def rSlV : V → Option Int → Option Int → Hp → VK → Prop := fun x lo hi H Q => ∃ Wv dx z fr, Sm Wv H ∧ Dq Wv x dx ∧
  ((∃ xs, dx = .list xs ∧ z = .list (cutD xs lo hi)) ∨ ∃ xs, dx = .tuple xs ∧ z = .tuple (cutD xs lo hi)) ∧ fr = true ∧ Got Wv H z fr Q
theorem cut_dq {Wv : Hp} {vs : List V} {ds : List PD} (h : DqAll Wv vs ds) (lo hi : Option Int) : DqAll Wv (cutV vs lo hi) (cutD ds lo hi) := by
  unfold cutV cutD
  rw [DqAll.length h]
  exact (h.drop _).take _
theorem sl_V : SlR X rSlV := by
  intro pins s σ H x v vl vu lo hi sl Q I rx hs pl pu h
  obtain ⟨Wv, dx, z, fr, sm, hx, hz, rfl, got⟩ := h
  rcases hz with ⟨xs, rfl, rfl⟩ | ⟨xs, rfl, rfl⟩
  · cases hx with
    | lst h1 h2 => exact sl_list pins s σ H _ v vl vu lo hi sl Q I rx hs pl pu ⟨_, _, rfl, SqL.of (sm _ _ rfl h1), fun p hp => got.lst p _ _ rfl rfl hp (cut_dq h2 lo hi)⟩
  · cases hx with
    | tup h1 h2 =>
      refine sl_tupA pins s σ H _ v vl vu lo hi sl Q I rx hs pl pu ⟨_, _, rfl, SqT.of (sm _ _ rfl h1), fun ⟨e1, e2⟩ => ?_, fun _ p hp => got.tup p _ _ rfl hp (cut_dq h2 lo hi)⟩
      have l := DqAll.length h2
      rw [l] at e1 e2
      have e := cut_all e1 e2
      rw [e] at got
      exact got.old _ (by simp [isMut]) (.tup h1 h2)

/-! ### built-ins -/
def biV : Bi → Value
  | .len => .builtin "len" | .int => .type "int" | .tuple => .type "tuple" | .list => .type "list" | .max => .builtin "max" | .min => .builtin "min"
  | .any => .builtin "any" | .all => .builtin "all" | .sum => .builtin "sum" | .repr => .builtin "repr" | .abs => .builtin "abs" | .sorted => .builtin "sorted"
  | .isi _ => .builtin "isinstance"
def tyN : Ty → String
  | .int => "int" | .bool => "bool" | .str => "str" | .tuple => "tuple" | .list => "list" | .dict => "dict"
/-- what a built-in is handed behind its data: a class for isinstance -/
def biMore : Bi → List V
  | .isi t => [.ty (tyN t)]
  | _ => []
def rBi (b : Bi) : List V → Hp → VK → Prop := fun vs H Q => ∃ Wv us ds z fr, vs = us ++ biMore b ∧ Sm Wv H ∧ DqAll Wv us ds ∧ biD b ds = some (z, fr) ∧ Got Wv H z fr Q

theorem num_ok {ds : List PD} (h : ds.all num = true) : PyData.plainAll ds = true ∧ ∀ x ∈ ds, x.fits63 := by
  induction ds with
  | nil => exact ⟨rfl, by simp⟩
  | cons x r ih =>
    simp only [List.all_cons, Bool.and_eq_true] at h
    obtain ⟨i1, i2⟩ := ih h.2
    have hx := h.1
    refine ⟨?_, fun y hy => ?_⟩
    · cases x <;> simp_all [num, PyData.plainAll, PyData.plain]
    · rcases List.mem_cons.mp hy with rfl | hy
      · cases y <;> simp_all [num, PyData.fits63]
      · exact i2 y hy
theorem intsOf_eq : ∀ {ds : List PD} {ns : List Int}, intsOf ds = some ns → ds = ns.map .int
  | [], _, e => by
    simp only [intsOf, Option.some.injEq] at e
    subst e
    rfl
  | x :: r, ns, e => by
    cases x with
    | int i =>
      simp only [intsOf, Option.map_eq_some_iff] at e
      obtain ⟨m, e1, rfl⟩ := e
      rw [intsOf_eq e1]
      rfl
    | _ => simp [intsOf] at e
theorem alike_ints (ns : List Int) : PySem.W.AlikeAll (ns.map PyData.int) := by
  refine ⟨fun x hx y hy => ?_, fun x hx => ?_⟩
  · obtain ⟨i, _, rfl⟩ := List.mem_map.mp hx
    obtain ⟨j, _, rfl⟩ := List.mem_map.mp hy
    rfl
  · obtain ⟨i, _, rfl⟩ := List.mem_map.mp hx
    simp
theorem depth_ints : ∀ ns : List Int, PyData.depthAll (ns.map PyData.int) = 0
  | [] => rfl
  | n :: r => by
    simp [PyData.depthAll, PyData.depth, depth_ints r]
theorem reads_int {h : Heap} {v : Value} {i : Int} {as : List Addr} (r : Reads h v (.int i) as) : ∃ t, v = .int i t := by
  cases r
  exact ⟨_, rfl⟩
theorem isi_ok {pins : List (Addr × Obj)} {σ : L2.St} {H : Hp} {s : Shared} {Q : VK} {v : Value} {d : PD} {as : List Addr} (I : Inv X pins σ H s) (r : Reads s.heap v d as) (t : Ty) (q : Q (.bl (isTy t d)) H) :
    wpAny (model X.prog X.w) X.A (call (.builtin "isinstance") [v, .type (tyN t)]) (EP X pins σ Q) X.xe s := by
  have fin : ∀ tk, EP X pins σ Q (.bool (isTy t d)) { s with toks := tk } := fun tk => ⟨.bl _, H, I.tok tk, rfl, q⟩
  cases t with
  | int => exact PySem.W.isinstance_int_data r fun tk _ => fin tk
  | bool => exact PySem.W.isinstance_bool_data r fun tk _ => fin tk
  | str => exact PySem.W.isinstance_str_data r fun tk _ => fin tk
  | tuple => exact PySem.W.isinstance_tuple_data r fun tk _ => fin tk
  | list => exact PySem.W.isinstance_list_data r fun tk _ => fin tk
  | dict => exact PySem.W.isinstance_dict_data r fun tk _ => fin tk

section
variable {pins : List (Addr × Obj)} {σ : L2.St} {H Wv : Hp} {s : Shared} {Q : VK}
theorem one_lst {a : Addr} {vs : List V} {ds : List PD} {u : Value} (I : Inv X pins σ H s) (ha : H a = some (.lst vs)) (hd : DqAll H vs ds) (ru : RelV (.ref a) u) : u = .ref a ∧ ∃ its as, s.heap.IsList a its ∧ ReadsAll s.heap its.toList ds as := by
  cases ru
  obtain ⟨its, r, pl, _⟩ := I.list (SqL.of ha)
  obtain ⟨as, ra⟩ := L2.Dp.readsAll I ds vs its hd.dp r
  exact ⟨rfl, its.toArray, as, pl.isList, by simpa using ra⟩
theorem one_tup {a : Addr} {vs : List V} {ds : List PD} {u : Value} (I : Inv X pins σ H s) (ha : H a = some (.tup vs)) (hd : DqAll H vs ds) (ru : RelV (.ref a) u) : u = .ref a ∧ ∃ its as, s.heap.IsTuple a its ∧ ReadsAll s.heap its.toList ds as := by
  cases ru
  obtain ⟨its, r, pl, _⟩ := I.tuple (SqT.of ha)
  obtain ⟨as, ra⟩ := L2.Dp.readsAll I ds vs its hd.dp r
  exact ⟨rfl, its.toArray, as, pl, by simpa using ra⟩
end
theorem vals_one {x : V} {us : List Value} (r : Vals [x] us) : ∃ u, us = [u] ∧ RelV x u := vals1 r
theorem call_bi (hr : X.A.units + 65 < cLine) (hh : X.A.handled = none) (hc : X.calm = true) (b : Bi) (hG : b = .repr → X.A.guards = some []) : CallR X (biV b) (rBi b) := by
  intro pins s σ H vs us Q I r h
  obtain ⟨Wv, ws, ds, z, fr, rfl, sm, hd, e, got⟩ := h
  have fin : ∀ {v : V} {u : Value} {s' : Shared}, (∃ h' tk, s' = { s with heap := h', toks := tk } ∧ ∀ b o, s.heap.get? b = some o → h'.get? b = some o) → RelV v u → Q v H → EP X pins σ Q u s' := fun {v u s'} ⟨h', tk, e, k⟩ rv q => by
    subst e
    exact ⟨v, H, I.kept (t' := tk) k, rv, q⟩
  cases b with
  | isi t =>
    cases hd with
    | nil => simp [biD] at e
    | cons hx ht =>
      cases ht with
      | cons _ _ => simp [biD] at e
      | nil =>
        simp only [biD, Option.some.injEq, Prod.mk.injEq] at e
        obtain ⟨rfl, rfl⟩ := e
        obtain ⟨u1, u2, rfl, r1, r2⟩ := vals2 r
        obtain rfl : u2 = Value.type (tyN t) := r2
        obtain ⟨as, rd⟩ := L2.Dp.reads I _ _ _ (hx.up sm).dp r1
        exact isi_ok I rd t got.bl
  | len =>
    cases hd with
    | nil => simp [biD] at e
    | cons hx ht =>
      cases ht with
      | cons _ _ => rename_i q1 q2; simp [biD] at e
      | nil =>
        cases hx with
        | lst h1 h2 =>
          simp only [biD, Option.some.injEq, Prod.mk.injEq] at e
          obtain ⟨rfl, rfl⟩ := e
          have g := got.int
          rw [← DqAll.length h2] at g
          exact call_len_seq pins s σ H _ us Q I r ⟨_, _, rfl, .inl (SqL.of (sm _ _ rfl h1)), g⟩
        | tup h1 h2 =>
          simp only [biD, Option.some.injEq, Prod.mk.injEq] at e
          obtain ⟨rfl, rfl⟩ := e
          have g := got.int
          rw [← DqAll.length h2] at g
          exact call_len_seq pins s σ H _ us Q I r ⟨_, _, rfl, .inr (SqT.of (sm _ _ rfl h1)), g⟩
        | str y =>
          simp only [biD] at e
          split at e
          · rename_i hz
            cases e
            exact call_len_str pins s σ H _ us Q I r ⟨y, rfl, by rw [← lim_eq]; exact hz, got.int⟩
          · cases e
        | _ => simp [biD] at e
  | int =>
    cases hd with
    | nil => simp [biD] at e
    | cons hx ht =>
      cases ht with
      | cons _ _ => simp [biD] at e
      | nil =>
        cases hx with
        | int i =>
          simp only [biD, Option.some.injEq, Prod.mk.injEq] at e
          obtain ⟨rfl, rfl⟩ := e
          exact call_int1 pins s σ H _ us Q I r (.inl ⟨i, rfl, got.int⟩)
        | bl c =>
          simp only [biD, Option.some.injEq, Prod.mk.injEq] at e
          obtain ⟨rfl, rfl⟩ := e
          exact call_int1 pins s σ H _ us Q I r (.inr ⟨c, rfl, got.int⟩)
        | _ => simp [biD] at e
  | tuple =>
    cases hd with
    | nil => simp [biD] at e
    | cons hx ht =>
      cases ht with
      | cons _ _ => simp [biD] at e
      | nil =>
        cases hx with
        | lst h1 h2 =>
          simp only [biD, Option.some.injEq, Prod.mk.injEq] at e
          obtain ⟨rfl, rfl⟩ := e
          exact call_tuple_of pins s σ H _ us Q I r ⟨_, _, rfl, .inl ⟨SqL.of (sm _ _ rfl h1), fun p hp => got.tup p _ _ rfl hp h2⟩⟩
        | tup h1 h2 =>
          simp only [biD, Option.some.injEq, Prod.mk.injEq] at e
          obtain ⟨rfl, rfl⟩ := e
          exact call_tuple_of pins s σ H _ us Q I r ⟨_, _, rfl, .inr ⟨SqT.of (sm _ _ rfl h1), got.old _ rfl (.tup h1 h2)⟩⟩
        | _ => simp [biD] at e
  | list =>
    cases hd with
    | nil => simp [biD] at e
    | cons hx ht =>
      cases ht with
      | cons _ _ => simp [biD] at e
      | nil =>
        cases hx with
        | lst h1 h2 =>
          simp only [biD, Option.some.injEq, Prod.mk.injEq] at e
          obtain ⟨rfl, rfl⟩ := e
          exact call_list_of pins s σ H _ us Q I r ⟨_, _, rfl, .inl (SqL.of (sm _ _ rfl h1)), fun p hp => got.lst p _ _ rfl rfl hp h2⟩
        | tup h1 h2 =>
          simp only [biD, Option.some.injEq, Prod.mk.injEq] at e
          obtain ⟨rfl, rfl⟩ := e
          exact call_list_of pins s σ H _ us Q I r ⟨_, _, rfl, .inr (SqT.of (sm _ _ rfl h1)), fun p hp => got.lst p _ _ rfl rfl hp h2⟩
        | _ => simp [biD] at e
  | max =>
    unfold biD at e
    split at e <;> try (simp at *; done)
    · cases hd with
      | cons hx ht =>
        cases ht with
        | cons hy ht =>
          cases ht
          cases hx
          cases hy
          simp only [Option.some.injEq, Prod.mk.injEq] at e
          obtain ⟨rfl, rfl⟩ := e
          exact call_max2 hc pins s σ H _ us Q I r ⟨_, _, rfl, got.int⟩
    · rename_i ds' _
      split at e
      · rename_i i0 r0 e0
        cases e
        have e1 := intsOf_eq e0
        subst e1
        cases hd with
        | cons hx ht =>
          cases ht
          cases hx with
          | lst h1 h2 =>
            obtain ⟨u, rfl, ru⟩ := vals_one r
            obtain ⟨rfl, its, as, hl, ra⟩ := one_lst I (sm _ _ rfl h1) (h2.up sm) ru
            refine PySem.W.max_list_data (xs := r0.map .int) (x := .int i0) hh hl ra (alike_ints (i0 :: r0)) (by have := depth_ints (i0 :: r0); rw [List.map_cons] at this; rw [this]; omega) fun i v h' tk bs _ rv k => ?_
            rw [PySem.W.maxD_ints] at rv
            obtain ⟨t, rfl⟩ := reads_int rv
            exact fin (v := .int _) ⟨h', tk, rfl, k⟩ ⟨t, rfl⟩ got.int
      · cases e
  | min =>
    unfold biD at e
    split at e <;> try (simp at *; done)
    · cases hd with
      | cons hx ht =>
        cases ht with
        | cons hy ht =>
          cases ht
          cases hx
          cases hy
          simp only [Option.some.injEq, Prod.mk.injEq] at e
          obtain ⟨rfl, rfl⟩ := e
          exact call_min2 hc pins s σ H _ us Q I r ⟨_, _, rfl, got.int⟩
    · rename_i ds' _
      split at e
      · rename_i i0 r0 e0
        cases e
        have e1 := intsOf_eq e0
        subst e1
        cases hd with
        | cons hx ht =>
          cases ht
          cases hx with
          | lst h1 h2 =>
            obtain ⟨u, rfl, ru⟩ := vals_one r
            obtain ⟨rfl, its, as, hl, ra⟩ := one_lst I (sm _ _ rfl h1) (h2.up sm) ru
            refine PySem.W.min_list_data (xs := r0.map .int) (x := .int i0) hh hl ra (alike_ints (i0 :: r0)) (by have := depth_ints (i0 :: r0); rw [List.map_cons] at this; rw [this]; omega) fun i v h' tk bs _ rv k => ?_
            rw [PySem.W.minD_ints] at rv
            obtain ⟨t, rfl⟩ := reads_int rv
            exact fin (v := .int _) ⟨h', tk, rfl, k⟩ ⟨t, rfl⟩ got.int
      · cases e
  | sum =>
    cases hd with
    | nil => simp [biD] at e
    | cons hx ht =>
      cases ht with
      | cons _ _ => simp [biD] at e
      | nil =>
        cases hx with
        | lst h1 h2 =>
          simp only [biD] at e
          split at e
          · rename_i ns e0
            cases e
            have e1 := intsOf_eq e0
            subst e1
            have e2 := h2.ints
            subst e2
            exact cr_sum hc pins s σ H _ us Q I r ⟨_, ns, rfl, SqL.of (sm _ _ rfl h1), got.int⟩
          · cases e
        | tup h1 h2 =>
          simp only [biD] at e
          split at e
          · rename_i ns e0
            cases e
            have e1 := intsOf_eq e0
            subst e1
            have e2 := h2.ints
            subst e2
            obtain ⟨u, rfl, ru⟩ := vals_one r
            cases ru
            obtain ⟨its, rv, pl, _⟩ := I.tuple (SqT.of (sm _ _ rfl h1))
            have hi : IntsAre its ns := rv.ints
            obtain ⟨xs, ex⟩ := hi.allInts.items
            have hn : numsOf (intItems xs).toList = ns := by rw [← ex]; exact hi.numsOf
            rw [nums_intItems] at hn
            rw [ex] at pl
            refine PySem.W.ktm_sumG hh pl fun h' tk t' k => ?_
            rw [preSum_eq, List.take_of_length_le (by simp), hn]
            exact fin (v := .int _) ⟨h', tk, rfl, k⟩ ⟨t', rfl⟩ got.int
          · cases e
        | _ => simp [biD] at e
  | abs =>
    cases hd with
    | nil => simp [biD] at e
    | cons hx ht =>
      cases ht with
      | cons _ _ => simp [biD] at e
      | nil =>
        cases hx with
        | int i =>
          simp only [biD, Option.some.injEq, Prod.mk.injEq] at e
          obtain ⟨rfl, rfl⟩ := e
          exact call_abs pins s σ H _ us Q I r ⟨i, rfl, got.int⟩
        | _ => simp [biD] at e
  | any =>
    cases hd with
    | nil => simp [biD] at e
    | cons hx ht =>
      cases ht with
      | cons _ _ => simp [biD] at e
      | nil =>
        cases hx with
        | lst h1 h2 =>
          simp only [biD] at e
          split at e
          · rename_i hn
            cases e
            obtain ⟨n1, n2⟩ := num_ok hn
            obtain ⟨u, rfl, ru⟩ := vals_one r
            obtain ⟨rfl, its, as, hl, ra⟩ := one_lst I (sm _ _ rfl h1) (h2.up sm) ru
            exact PySem.W.any_list_data hh hl ra n1 n2 fun h' tk k => fin (v := .bl _) ⟨h', tk, rfl, k⟩ rfl got.bl
          · cases e
        | tup h1 h2 =>
          simp only [biD] at e
          split at e
          · rename_i hn
            cases e
            obtain ⟨n1, n2⟩ := num_ok hn
            obtain ⟨u, rfl, ru⟩ := vals_one r
            obtain ⟨rfl, its, as, hl, ra⟩ := one_tup I (sm _ _ rfl h1) (h2.up sm) ru
            exact PySem.W.any_tuple_data hh hl ra n1 n2 fun h' tk k => fin (v := .bl _) ⟨h', tk, rfl, k⟩ rfl got.bl
          · cases e
        | _ => simp [biD] at e
  | all =>
    cases hd with
    | nil => simp [biD] at e
    | cons hx ht =>
      cases ht with
      | cons _ _ => simp [biD] at e
      | nil =>
        cases hx with
        | lst h1 h2 =>
          simp only [biD] at e
          split at e
          · rename_i hn
            cases e
            obtain ⟨n1, n2⟩ := num_ok hn
            obtain ⟨u, rfl, ru⟩ := vals_one r
            obtain ⟨rfl, its, as, hl, ra⟩ := one_lst I (sm _ _ rfl h1) (h2.up sm) ru
            exact PySem.W.all_list_data hh hl ra n1 n2 fun h' tk k => fin (v := .bl _) ⟨h', tk, rfl, k⟩ rfl got.bl
          · cases e
        | tup h1 h2 =>
          simp only [biD] at e
          split at e
          · rename_i hn
            cases e
            obtain ⟨n1, n2⟩ := num_ok hn
            obtain ⟨u, rfl, ru⟩ := vals_one r
            obtain ⟨rfl, its, as, hl, ra⟩ := one_tup I (sm _ _ rfl h1) (h2.up sm) ru
            exact PySem.W.all_tuple_data hh hl ra n1 n2 fun h' tk k => fin (v := .bl _) ⟨h', tk, rfl, k⟩ rfl got.bl
          · cases e
        | _ => simp [biD] at e
  | repr =>
    cases hd with
    | nil => simp [biD] at e
    | cons hx ht =>
      cases ht with
      | cons _ _ => simp [biD] at e
      | nil =>
        simp only [biD] at e
        split at e
        · rename_i hn
          simp only [Bool.and_eq_true, decide_eq_true_eq, Bool.not_eq_true'] at hn
          cases e
          obtain ⟨u, rfl, ru⟩ := vals_one r
          obtain ⟨as, rd⟩ := L2.Dp.reads I _ _ _ (hx.up sm).dp ru
          have g0 := hG rfl
          have go : ∀ a, u = .ref a → wpAny (model X.prog X.w) X.A (call (.builtin "repr") [u]) (EP X pins σ Q) X.xe s := fun a ea => by
            subst ea
            exact repr_of_reads' rd hn.1.1.1.2 (PyData.noDict_hsm hn.1.1.2) g0 (by omega) (fun _ _ e => e) (fun h' u tk k => fin (v := .str _) ⟨h', tk, rfl, k⟩ ⟨u, rfl⟩ got.str) (by rw [← lim_eq]; exact hn.1.2)
          cases hx with
          | lst _ _ => exact go _ ru
          | tup _ _ => exact go _ ru
          | _ => simp [PyData.isList, PyData.isTuple] at hn
        · cases e
  | sorted => simp [biD] at e
end Mi
/-! MiF: expressions. -/
namespace Mi
open PySem PySem.Spec PyProof.Rows L2
variable {X : Cx} {K : PySem.W.Frag} {T : Addr → Prop} {mg : Str → Option Value} {W : WX} {F : Fns}

section
variable {lk : List Nat} {g g1 : Gh} {env env1 : Mi.Env} {h h1 : Hx} {σ : L2.St} {H H1 : Hp} {Q : VK}
theorem AnsE.pre (a : At K T lk g env σ H g1 env1 h1 H1) {lk' : List Nat} (hl : ∀ i ∈ lk, i ∈ lk') {r : R Out} (q : AnsE K T mg W lk g env σ H r Q) : AnsE K T mg W lk' g1 env1 σ H1 r Q := by
  cases r with
  | no => exact q
  | ex c x env' h' => exact AnsX.pre a hl q
  | ok o env' h' =>
    refine fun g' v H' c => q g' v H' ⟨a.fr.trans (c.fr.sub hl), c.rel, fun i b z => a.own i b (c.own i b z), ?_⟩
    obtain ⟨n, z⟩ := c.out
    refine ⟨n, ?_⟩
    split
    · rename_i hf
      rw [if_pos hf] at z
      obtain ⟨p, e, hp, r⟩ := z
      exact ⟨p, e, a.fr.there p hp, r⟩
    · rename_i hf
      rw [if_neg hf] at z
      exact z
theorem VR.grow {Wv Wv' : Hp} {ρ ρ' : List Addr} {x : Val} {v : V} (h : VR K Wv ρ x v) (k : Sm Wv Wv') (hp : ∃ l, ρ' = ρ ++ l) : VR K Wv' ρ' x v := by
  cases x with
  | d x => exact Dq.up k h
  | box i =>
    obtain ⟨a, e1, e2⟩ := h
    obtain ⟨l, rfl⟩ := hp
    exact ⟨a, by rw [List.getElem?_append_left (List.getElem?_eq_some_iff.mp e1).1]; exact e1, e2⟩
  | scr xs =>
    obtain ⟨a, e, q⟩ := h
    exact ⟨a, SqL.upS k e, q⟩
  | kd kvs =>
    obtain ⟨a, L, e, q1, q2, q3⟩ := h
    exact ⟨a, L, e, k _ _ rfl q1, q2.up k, q3⟩
  | _ => exact h
theorem mem_app_r {l lk : List Nat} : ∀ i ∈ lk, i ∈ l ++ lk := fun i hi => List.mem_append_right _ hi
theorem mem_app_l {l lk : List Nat} : ∀ i ∈ l, i ∈ l ++ lk := fun i hi => List.mem_append_left _ hi

/-- one operand -/
theorem seq1 {a : MX} {body : Out → Mi.Env → Hx → R Out} (r : Rel K T g env h σ H) (q : AnsE K T mg W lk g env σ H ((ev F lk a env h).bind body) Q) {P : V → Hp → Prop}
    (k : ∀ o env1 h1 g1 x H1, At K T lk g env σ H g1 env1 h1 H1 → VR K (g1.vw env1 σ o.ln H1) g1.ρ o.v x → AnsE K T mg W lk g env σ H (body o env1 h1) Q → P x H1) : tE K T mg W F a σ H P := by
  refine ⟨lk, g, env, h, r, ?_⟩
  cases e : ev F lk a env h with
  | no => rw [e] at q; exact q
  | ex c x env' h' => rw [e] at q; exact q
  | ok o env1 h1 =>
    rw [e] at q
    intro g' v H' c
    obtain ⟨g1, at1, v1⟩ := c.look' r
    exact k o env1 h1 g1 v H' at1 v1 q
/-- two operands -/
theorem seq2 {a b : MX} {body : Out → Out → Mi.Env → Hx → R Out} (r : Rel K T g env h σ H)
    (q : AnsE K T mg W lk g env σ H ((ev F lk a env h).bind fun o env h => (ev F (o.ln ++ lk) b env h).bind fun p env h => body o p env h) Q) {P : V → V → Hp → Prop}
    (k : ∀ o p env2 h2 g2 x y H2, At K T lk g env σ H g2 env2 h2 H2 → VR K (g2.vw env2 σ (o.ln ++ p.ln) H2) g2.ρ o.v x → VR K (g2.vw env2 σ (o.ln ++ p.ln) H2) g2.ρ p.v y → AnsE K T mg W lk g env σ H (body o p env2 h2) Q → P x y H2) :
    tE K T mg W F a σ H fun x H1 => tE K T mg W F b σ H1 fun y H2 => P x y H2 := by
  refine seq1 r q fun o env1 h1 g1 x H1 at1 v1 q1 => ?_
  refine ⟨o.ln ++ lk, g1, env1, h1, at1.rel, ?_⟩
  cases e : ev F (o.ln ++ lk) b env1 h1 with
  | no => rw [e] at q1; exact q1
  | ex c x env' h' => rw [e] at q1; exact AnsX.pre at1 mem_app_r q1
  | ok p env2 h2 =>
    rw [e] at q1
    intro g' v H' c
    obtain ⟨g2, at2, v2⟩ := c.look' at1.rel
    exact k o p env2 h2 g2 x v H' (at1.trans at2 mem_app_r) ((v1.grow (at2.fr.view mem_app_l) at2.fr.pre).up (vw_le fun i hi => List.mem_append_left _ hi)) (v2.up (vw_le fun i hi => List.mem_append_right _ hi)) q1
end

theorem PE.ok {e : Expr} {t : TE} {m : MX} (h : PE X e t) (k : ∀ lk g env h σ H Q, Rel X.K T g env h σ H → AnsE X.K T X.mg W lk g env σ H (ev F lk m env h) Q → t σ H Q) : PE X e (tE X.K T X.mg W F m) :=
  PE.imp h fun σ H Q ⟨lk, g, env, hx, r, q⟩ => k lk g env hx σ H Q r q

section
variable {ea eb : Expr} {a b : MX} {pos : Pos}
theorem n_bin (ha : PE X ea (tE X.K T X.mg W F a)) (hb : PE X eb (tE X.K T X.mg W F b)) (op : Bop) : PE X (.BinOp ea (opB op) eb pos) (tE X.K T X.mg W F (.bin op a b)) := by
  refine PE.ok (pe_op (op_bin op) ha hb) fun lk g env h σ H Q r q => ?_
  simp only [ev] at q
  refine seq2 r q fun o p env2 h2 g2 x y H2 at2 v1 v2 q2 => ?_
  unfold two at q2
  split at q2
  · rename_i dx dy e1 e2
    rw [e1] at v1
    rw [e2] at v2
    split at q2
    · rename_i z fr e3
      exact ⟨_, dx, dy, z, fr, vw_sm, v1, v2, e3, at2.got q2⟩
    · exact q2.elim
  · exact q2.elim
theorem rd_cmp {op : Cop} {lk : List Nat} {g : Gh} {env : Mi.Env} {h : Hx} {σ : L2.St} {H : Hp} {Q : VK} (r : Rel K T g env h σ H) (q : AnsE K T mg W lk g env σ H (ev F lk (.cmp op a b) env h) Q) : tOp (rTwoB (cmpD op)) (tE K T mg W F a) (tE K T mg W F b) σ H Q := by
  simp only [ev] at q
  refine seq2 r q fun o p env2 h2 g2 x y H2 at2 v1 v2 q2 => ?_
  unfold twoB at q2
  split at q2
  · rename_i dx dy e1 e2
    rw [e1] at v1
    rw [e2] at v2
    split at q2
    · rename_i z e3
      exact ⟨_, dx, dy, z, vw_sm, v1, v2, e3, (at2.got (ln := []) (fr := true) q2).bl⟩
    · exact q2.elim
  · exact q2.elim
theorem n_cmp (hu : X.A.units + 65 < cLine) (ha : PE X ea (tE X.K T X.mg W F a)) (hb : PE X eb (tE X.K T X.mg W F b)) (op : Cop) (hm : behindInMarks (opC op) eb = false) : PE X (.Compare ea [opC op] [eb] pos) (tE X.K T X.mg W F (.cmp op a b)) :=
  PE.ok (pe_cmpR (op_cmpD hu op) ha hb hm) fun lk g env h σ H Q r q => rd_cmp r q
theorem n_ix (hu : X.A.units + 1 < cLine) (ha : PE X ea (tE X.K T X.mg W F a)) (hb : PE X eb (tE X.K T X.mg W F b)) (hs : PlainIx eb) : PE X (.Subscript ea eb pos) (tE X.K T X.mg W F (.ix a b)) := by
  refine PE.ok (pe_ix (ix_V hu) ha hb hs) fun lk g env h σ H Q r q => ?_
  simp only [ev] at q
  refine seq2 r q fun o p env2 h2 g2 x y H2 at2 v1 v2 q2 => ?_
  split at q2
  · rename_i z e3
    refine ⟨_, g2.ρ, o.v, p.v, h2, z, vw_sm, v1, v2, fun i b e => ?_, e3, ?_⟩
    · obtain ⟨c, e1, e2, e4⟩ := at2.rel.box i b e
      refine ⟨c, e1, BR.up (fun d u _ w => ?_) rfl e4⟩
      rw [fz_some] at w
      rw [vw_some]
      have := w.1
      simp only [Bool.or_eq_false_iff] at this
      exact ⟨.inl this.1, w.2⟩
    · intro v d
      exact (at2.got q2).old v rfl d
  · exact q2.elim
theorem rd_cmp2 {c : MX} {o1 o2 : Cop} {lk : List Nat} {g : Gh} {env : Mi.Env} {h : Hx} {σ : L2.St} {H : Hp} {Q : VK} (r : Rel K T g env h σ H) (q : AnsE K T mg W lk g env σ H (ev F lk (.cmp2 o1 o2 a b c) env h) Q) : tChain (rTwoB (cmpD o1)) (rTwoB (cmpD o2)) (tE K T mg W F a) (tE K T mg W F b) (tE K T mg W F c) σ H Q := by
  simp only [ev] at q
  refine seq2 r q fun o p env2 h2 g2 x y H2 at2 v1 v2 q2 => ?_
  split at q2
  · rename_i dx dy e1 e2
    rw [e1] at v1
    rw [e2] at v2
    split at q2
    · rename_i e3
      refine ⟨_, dx, dy, true, vw_sm, v1, v2, e3, true, rfl, ?_⟩
      rw [if_pos rfl]
      refine seq1 at2.rel (AnsE.pre at2 mem_app_r q2) fun o3 env3 h3 g3 z H3 at3 v3 q3 => ?_
      unfold twoB at q3
      rw [e2] at q3
      split at q3
      · rename_i dz e4 e5
        cases e4
        rw [e5] at v3
        split at q3
        · rename_i b e6
          refine ⟨_, dy, dz, b, Sm.refl H3, ?_, v3.up vw_sm, e6, ?_⟩
          · exact (v2.up (at2.fr.view0.trans (Sm.refl _) |> fun _ => (at3.fr.view mem_app_l))).up vw_sm
          · exact (at3.got (ln := []) (fr := true) q3).bl
        · exact q3.elim
      · exact q3.elim
    · rename_i e3
      refine ⟨_, dx, dy, false, vw_sm, v1, v2, e3, false, rfl, ?_⟩
      rw [if_neg Bool.false_ne_true]
      exact (at2.got (ln := []) (fr := true) q2).bl
    · exact q2.elim
  · exact q2.elim
theorem n_cmp2 {ec : Expr} {c : MX} (hu : X.A.units + 65 < cLine) (ha : PE X ea (tE X.K T X.mg W F a)) (hb : PE X eb (tE X.K T X.mg W F b)) (hc : PE X ec (tE X.K T X.mg W F c)) (o1 o2 : Cop) (hm : lastMarks [opC o1, opC o2] [eb, ec] = false) :
    PE X (.Compare ea [opC o1, opC o2] [eb, ec] pos) (tE X.K T X.mg W F (.cmp2 o1 o2 a b c)) :=
  PE.ok (pe_chain (op_cmpD hu o1) (op_cmpD hu o2) ha hb hc (hm := hm)) fun lk g env h σ H Q r q => rd_cmp2 r q
/-- an optional part of a slice -/
def tPo (t : TE) : TO := fun σ H Q => t σ H fun x H1 => (x = .non ∧ Q none H1) ∨ ∃ i, x = .int i ∧ Q (some i) H1
inductive PoOk (X : Cx) (T : Addr → Prop) (W : WX) (F : Fns) : Option Expr → MX → Prop
  | nop : PoOk X T W F none (.c .none)
  | hav {e : Expr} {m : MX} : PE X e (tE X.K T X.mg W F m) → PoOk X T W F (some e) m
theorem Rel.ceOld {lk : List Nat} {g : Gh} {env : Mi.Env} {h : Hx} {σ : L2.St} {H : Hp} {x : PD} {v : V} (r : Rel K T g env h σ H) (d : Dq (fz g.O H) v x) : CE K T lk g env σ H ⟨.d x, false, []⟩ g env h v H := by
  refine ⟨Fram.refl lk g env σ H, r, fun _ _ q => q, ?_⟩
  unfold OutR
  refine ⟨fun kvs z => (by cases z), ?_⟩
  rw [if_neg (by simp), vw_nil]
  exact d
theorem tE_none {σ : L2.St} {H : Hp} {Q : VK} (h : tE K T mg W F (.c .none) σ H Q) : Q .non H := by
  obtain ⟨lk, g, env, hx, r, q⟩ := h
  simp only [ev] at q
  exact q g .non H (r.ceOld .non)
theorem PoOk.po {e : Option Expr} {m : MX} (h : PoOk X T W F e m) : PO X e (tPo (tE X.K T X.mg W F m)) := by
  cases h with
  | nop =>
    refine ⟨fun pins s σ H Q I q => ?_⟩
    rcases tE_none q with ⟨_, q'⟩ | ⟨i, e, _⟩
    · exact po_none.run pins s σ H Q I q'
    · cases e
  | hav h =>
    refine ⟨fun pins s σ H Q I q => ?_⟩
    rw [evalPart_some]
    refine thn (h.run pins s σ H _ I q) fun u s1 ⟨x, H1, I1, r1, q1⟩ => ?_
    rcases q1 with ⟨rfl, q1⟩ | ⟨i, rfl, q1⟩
    · cases r1
      exact ⟨Option.none, H1, I1, .none, q1⟩
    · obtain ⟨t, rfl⟩ := r1
      exact ⟨Option.some i, H1, I1, .int i t, q1⟩
theorem part_v {Wv : Hp} {ρ : List Addr} {x : V} {d : Val} {o : Option Int} (h : VR K Wv ρ d x) (e : part d = some o) {P : Option Int → Prop} (k : P o) : (x = .non ∧ P none) ∨ ∃ i, x = .int i ∧ P (some i) := by
  unfold part at e
  split at e
  · cases h
    cases e
    exact .inl ⟨rfl, k⟩
  · cases h
    cases e
    exact .inr ⟨_, rfl, k⟩
  · cases e
theorem n_sl {el eh : Option Expr} {lo hi : MX} {p2 : Pos} (ha : PE X ea (tE X.K T X.mg W F a)) (hl : PoOk X T W F el lo) (hh : PoOk X T W F eh hi) :
    PE X (.Subscript ea (.Slice el eh none p2) pos) (tE X.K T X.mg W F (.sl a lo hi)) := by
  refine PE.ok (pe_slice sl_V ha hl.po hh.po) fun lk g env h σ H Q r q => ?_
  simp only [ev] at q
  refine seq2 r q fun o p env2 h2 g2 x y H2 at2 v1 v2 q2 => ?_
  split at q2
  · exact q2.elim
  · rename_i l e1
    refine part_v v2 e1 (P := fun l => tPo (tE X.K T X.mg W F hi) σ H2 fun u H3 => rSlV x l u H3 Q) ?_
    refine seq1 (lk := o.ln ++ p.ln ++ lk) at2.rel (AnsE.pre at2 mem_app_r q2) fun o3 env3 h3 g3 z H3 at3 v3 q3 => ?_
    split at q3
    · exact q3.elim
    · rename_i u e2
      refine part_v v3 e2 (P := fun u => rSlV x l u H3 Q) ?_
      split at q3
      · rename_i zz e4
        have v1' := v1.grow (at3.fr.view mem_app_l) at3.fr.pre
        have got := at3.got (ln := o.ln ++ p.ln) (z := zz) (fr := true) q3
        unfold slD at e4
        split at e4
        · rename_i xs f1
          rw [f1] at v1'
          cases e4
          exact ⟨_, .list xs, _, true, vw_sm, v1', .inl ⟨xs, rfl, rfl⟩, rfl, got⟩
        · rename_i xs f1
          rw [f1] at v1'
          cases e4
          exact ⟨_, .tuple xs, _, true, vw_sm, v1', .inr ⟨xs, rfl, rfl⟩, rfl, got⟩
        · cases e4
      · exact q3.elim
end
end Mi
/-! MiG: names, constants, tests, displays. -/
namespace Mi
open PySem PySem.Spec PyProof.Rows L2
variable {X : Cx} {K : PySem.W.Frag} {T : Addr → Prop} {mg : Str → Option Value} {W : WX} {F : Fns}

theorem n_const {e : Expr} {v : V} {x : PD} (h : PE X e (tC v)) (d : ∀ Wv, Dq Wv v x) : PE X e (tE X.K T X.mg W F (.c x)) := by
  refine PE.ok h fun lk g env hx σ H Q r q => ?_
  simp only [ev] at q
  exact q g v H (r.ceOld (d _))
theorem n_var {i : Nat} {x : Str} {pos : Pos} (hN : X.N[i]? = some x) (hv : Vis X.env.scope x) (hd : (x == ("__debug__" : Str)) = false) (hcd : (x == ("__classdict__" : Str)) = false) : PE X (.Name x pos) (tE X.K T X.mg W F (.var i)) := by
  refine PE.ok (pe_var hN hv hd hcd) fun lk g env hx σ H Q r q => ?_
  simp only [ev] at q
  split at q
  · rename_i s e
    obtain ⟨sv, so⟩ := s
    have fin : ∀ v (ln : List Nat), OutR X.K H g env σ H ⟨sv, false, ln⟩ v → CE X.K T lk g env σ H ⟨sv, false, ln⟩ g env hx v H := fun v ln o => ⟨Fram.refl lk g env σ H, r, fun _ _ q => q, o⟩
    cases so with
    | false =>
      obtain ⟨u, e1, e2⟩ := r.slot i sv e
      refine ⟨u, e1, ?_⟩
      cases sv with
      | dct kvs => exact e2.elim
      | _ =>
        refine q g u H (fin u [] ?_)
        unfold OutR
        refine ⟨fun kvs z => (by cases z), ?_⟩
        rw [if_neg (by simp), vw_nil]
        exact e2
    | true =>
      obtain ⟨a, e1, e2, e3, _⟩ := r.own i sv e
      refine ⟨.ref a, e1, ?_⟩
      cases sv with
      | d x =>
        refine q g (.ref a) H (fin (.ref a) [i] ?_)
        unfold OutR
        refine ⟨fun kvs z => (by cases z), ?_⟩
        rw [if_neg (by simp)]
        cases x with
        | list xs =>
          obtain ⟨vs, e4, e5⟩ := e3
          refine .lst (vw_some.mpr ⟨.inr (lnB_iff.mpr ⟨i, by simp, ⟨⟨_, e⟩, e1⟩⟩), e4⟩) (e5.up ?_)
          have := vw_le (g := g) (env := env) (σ := σ) (l := []) (m := [i]) (H := H) (by simp)
          rwa [vw_nil] at this
        | _ => exact e3.elim
      | dct kvs => exact q.elim
      | kd kvs =>
        refine q g (.ref a) H (fin (.ref a) [i] ?_)
        unfold OutR
        refine ⟨fun kvs z => (by cases z), ?_⟩
        rw [if_neg (by simp)]
        obtain ⟨L, e4, e5, e6⟩ := e3
        refine ⟨a, L, rfl, vw_some.mpr ⟨.inr (lnB_iff.mpr ⟨i, by simp, ⟨⟨_, e⟩, e1⟩⟩), e4⟩, e5.up ?_, e6⟩
        have := vw_le (g := g) (env := env) (σ := σ) (l := []) (m := [i]) (H := H) (by simp)
        rwa [vw_nil] at this
      | _ => exact e3.elim
  · exact q.elim

/-! ### unary -/
section
variable {ea eb ec : Expr} {a b c : MX} {pos : Pos}
theorem n_neg (ha : PE X ea (tE X.K T X.mg W F a)) : PE X (.UnaryOp .USub ea pos) (tE X.K T X.mg W F (.un .neg a)) := by
  refine PE.ok (pe_un un_neg ha) fun lk g env h σ H Q r q => ?_
  simp only [ev] at q
  refine seq1 r q fun o env1 h1 g1 x H1 at1 v1 q1 => ?_
  split at q1
  · rename_i i e1 e2
    rw [e2] at v1
    cases v1
    exact ⟨i, rfl, (at1.got (ln := []) (fr := true) q1).int⟩
  · rename_i v h1; cases h1
  · exact q1.elim
theorem VR.tru {Wv H : Hp} {ρ : List Addr} {x : Val} {v : V} {k : Bool} (h : VR K Wv ρ x v) (sm : Sm Wv H) (e : truth x = some k) : TruV K v H k := by
  cases x with
  | d x => exact truV sm h e
  | _ => simp [truth] at e
theorem n_not (ha : PE X ea (tE X.K T X.mg W F a)) : PE X (.UnaryOp .Not ea pos) (tE X.K T X.mg W F (.un .not a)) := by
  refine PE.ok (pe_notT ha) fun lk g env h σ H Q r q => ?_
  simp only [ev] at q
  refine seq1 r q fun o env1 h1 g1 x H1 at1 v1 q1 => ?_
  split at q1
  · rename_i k e
    exact ⟨k, v1.tru vw_sm e, (at1.got (ln := []) (fr := true) q1).bl⟩
  · exact q1.elim
theorem ite_b {A B : Prop} {k : Bool} (h : if k = true then A else B) : (k = true → A) ∧ (k = false → B) := by
  cases k with
  | true => exact ⟨fun _ => (by simpa using h), fun z => (by cases z)⟩
  | false => exact ⟨fun z => (by cases z), fun _ => (by simpa using h)⟩
theorem n_and {rest : List Expr} (ha : PE X ea (tE X.K T X.mg W F a)) (hb : PE X (.BoolOp .And (eb :: rest) pos) (tE X.K T X.mg W F b)) : PE X (.BoolOp .And (ea :: eb :: rest) pos) (tE X.K T X.mg W F (.and a b)) := by
  refine PE.ok (pe_andT ha hb) fun lk g env h σ H Q r q => ?_
  simp only [ev] at q
  refine ⟨lk, g, env, h, r, ?_⟩
  cases e : ev F lk a env h with
  | no => rw [e] at q; exact q
  | ex c x env' h' => rw [e] at q; exact q
  | ok o env1 h1 =>
    rw [e] at q
    intro g' v H' ce
    obtain ⟨g1, at1, v1⟩ := ce.look' r
    simp only [R.bind] at q
    split at q
    · rename_i e2
      refine ⟨true, v1.tru vw_sm e2, ?_⟩
      rw [if_pos rfl]
      exact ⟨lk, g1, env1, h1, at1.rel, AnsE.pre at1 (fun _ z => z) q⟩
    · rename_i e2
      refine ⟨false, v1.tru vw_sm e2, ?_⟩
      rw [if_neg Bool.false_ne_true]
      exact q g' v H' ce
    · exact q.elim
theorem n_or {rest : List Expr} (ha : PE X ea (tE X.K T X.mg W F a)) (hb : PE X (.BoolOp .Or (eb :: rest) pos) (tE X.K T X.mg W F b)) : PE X (.BoolOp .Or (ea :: eb :: rest) pos) (tE X.K T X.mg W F (.or a b)) := by
  refine PE.ok (pe_orT ha hb) fun lk g env h σ H Q r q => ?_
  simp only [ev] at q
  refine ⟨lk, g, env, h, r, ?_⟩
  cases e : ev F lk a env h with
  | no => rw [e] at q; exact q
  | ex c x env' h' => rw [e] at q; exact q
  | ok o env1 h1 =>
    rw [e] at q
    intro g' v H' ce
    obtain ⟨g1, at1, v1⟩ := ce.look' r
    simp only [R.bind] at q
    split at q
    · rename_i e2
      refine ⟨true, v1.tru vw_sm e2, ?_⟩
      rw [if_pos rfl]
      exact q g' v H' ce
    · rename_i e2
      refine ⟨false, v1.tru vw_sm e2, ?_⟩
      rw [if_neg Bool.false_ne_true]
      exact ⟨lk, g1, env1, h1, at1.rel, AnsE.pre at1 (fun _ z => z) q⟩
    · exact q.elim
end

/-! ### tests -/
def AnsT (K : PySem.W.Frag) (T : Addr → Prop) (mg : Str → Option Value) (W : WX) (lk : List Nat) (g : Gh) (env : Mi.Env) (σ : L2.St) (H : Hp) (r : R Out) (Q : Bool → Hp → Prop) : Prop :=
  match r with
  | .no => False
  | .ok o env' h' => ∃ k, truth o.v = some k ∧ ∀ g' H', At K T lk g env σ H g' env' h' H' → Q k H'
  | .ex c x env' h' => AnsX K T mg W lk g env σ H c x env' h'
def tT (K : PySem.W.Frag) (T : Addr → Prop) (mg : Str → Option Value) (W : WX) (F : Fns) (m : MX) : TT := fun σ H Q =>
  ∃ lk g env h, Rel K T g env h σ H ∧ AnsT K T mg W lk g env σ H (ev F lk m env h) Q
section
variable {lk : List Nat} {g g1 : Gh} {env env1 : Mi.Env} {h h1 : Hx} {σ : L2.St} {H H1 : Hp} {Q : Bool → Hp → Prop}
theorem AnsT.pre (a : At K T lk g env σ H g1 env1 h1 H1) {lk' : List Nat} (hl : ∀ i ∈ lk, i ∈ lk') {r : R Out} (q : AnsT K T mg W lk g env σ H r Q) : AnsT K T mg W lk' g1 env1 σ H1 r Q := by
  cases r with
  | no => exact q
  | ex c x env' h' => exact AnsX.pre a hl q
  | ok o env' h' =>
    obtain ⟨k, e, q⟩ := q
    exact ⟨k, e, fun g' H' c => q g' H' (a.trans c hl)⟩
theorem PT.ok {e : Expr} {t : TT} {m : MX} (h : PT X e t) (k : ∀ lk g env h σ H Q, Rel X.K T g env h σ H → AnsT X.K T X.mg W lk g env σ H (ev F lk m env h) Q → t σ H Q) : PT X e (tT X.K T X.mg W F m) :=
  PT.imp h fun σ H Q ⟨lk, g, env, hx, r, q⟩ => k lk g env hx σ H Q r q
theorem PW.ok {e : Expr} {t : TT} {m : MX} (h : PW X e t) (k : ∀ lk g env h σ H Q, Rel X.K T g env h σ H → AnsT X.K T X.mg W lk g env σ H (ev F lk m env h) Q → t σ H Q) : PW X e (tT X.K T X.mg W F m) :=
  ⟨fun whole pins s σ H Q I ⟨lk, g, env, hx, r, q⟩ => h.run whole pins s σ H Q I (k lk g env hx σ H Q r q)⟩
/-- from a test to its value's evaluation -/
theorem tE_of_T {m : MX} (r : Rel K T g env h σ H) (q : AnsT K T mg W lk g env σ H (ev F lk m env h) Q) {P : V → Hp → Prop}
    (k : ∀ (o : Out) env1 h1 g1 x H1 b, At K T lk g env σ H g1 env1 h1 H1 → VR K (g1.vw env1 σ o.ln H1) g1.ρ o.v x → truth o.v = some b → Q b H1 → P x H1) : tE K T mg W F m σ H P := by
  refine ⟨lk, g, env, h, r, ?_⟩
  cases e : ev F lk m env h with
  | no => rw [e] at q; exact q
  | ex c x env' h' => rw [e] at q; exact q
  | ok o env1 h1 =>
    rw [e] at q
    obtain ⟨b, e2, q⟩ := q
    intro g' v H' c
    obtain ⟨g1, at1, v1⟩ := c.look' r
    exact k o env1 h1 g1 v H' b at1 v1 e2 (q g1 H' at1)
theorem t_plain {e : Expr} {m : MX} (he : PE X e (tE X.K T X.mg W F m)) (hw : ∀ whole, isTrue e X.env whole = (do let v ← whole; standAt e.pos; holding [v] (truthy v))) : PT X e (tT X.K T X.mg W F m) := by
  refine PT.ok (pt_truth he hw) fun lk g env h σ H Q r q => ?_
  exact tE_of_T r q fun o env1 h1 g1 x H1 b at1 v1 e2 q => ⟨b, v1.tru vw_sm e2, q⟩
theorem seqT {m : MX} {body : Out → Mi.Env → Hx → R Out} (r : Rel K T g env h σ H) (q : AnsT K T mg W lk g env σ H ((ev F lk m env h).bind body) Q) {P : Bool → Hp → Prop}
    (nn : ∀ o env1 h1, truth o.v = none → body o env1 h1 = .no)
    (k : ∀ o env1 h1 g1 H1 b, At K T lk g env σ H g1 env1 h1 H1 → truth o.v = some b → AnsT K T mg W lk g env σ H (body o env1 h1) Q → P b H1) : tT K T mg W F m σ H P := by
  refine ⟨lk, g, env, h, r, ?_⟩
  cases e : ev F lk m env h with
  | no => rw [e] at q; exact q
  | ex c x env' h' => rw [e] at q; exact q
  | ok o env1 h1 =>
    rw [e] at q
    simp only [R.bind] at q
    cases e2 : truth o.v with
    | none =>
      rw [nn o env1 h1 e2] at q
      exact q.elim
    | some b => exact ⟨b, e2, fun g1 H1 at1 => k o env1 h1 g1 H1 b at1 e2 q⟩
end
section
variable {ea eb ec : Expr} {a b c : MX} {pos : Pos}
theorem t_not (ha : PT X ea (tT X.K T X.mg W F a)) : PT X (.UnaryOp .Not ea pos) (tT X.K T X.mg W F (.un .not a)) := by
  refine PT.ok (pt_not ha) fun lk g env h σ H Q r q => ?_
  simp only [ev] at q
  refine seqT r q (fun o env1 h1 e => by simp [e]) fun o env1 h1 g1 H1 k at1 e q1 => ?_
  simp only [e] at q1
  obtain ⟨k', e', q1⟩ := q1
  simp only [truth, emp, Option.some.injEq, Bool.not_not] at e'
  subst e'
  exact q1 g1 H1 at1
theorem t_and1 (ha : PT X ea (tT X.K T X.mg W F a)) : PW X (.BoolOp .And [ea] pos) (tT X.K T X.mg W F a) := pw_and1 ha
theorem t_or1 (ha : PT X ea (tT X.K T X.mg W F a)) : PW X (.BoolOp .Or [ea] pos) (tT X.K T X.mg W F a) := pw_or1 ha
theorem t_and {rest : List Expr} (ha : PT X ea (tT X.K T X.mg W F a)) (hb : PW X (.BoolOp .And (eb :: rest) pos) (tT X.K T X.mg W F b)) : PW X (.BoolOp .And (ea :: eb :: rest) pos) (tT X.K T X.mg W F (.and a b)) := by
  refine PW.ok (pw_and ha hb) fun lk g env h σ H Q r q => ?_
  simp only [ev] at q
  refine seqT r q (fun o env1 h1 e => by simp [e]) fun o env1 h1 g1 H1 k at1 e q1 => ?_
  simp only [e] at q1
  cases k with
  | true =>
    rw [if_pos rfl]
    exact ⟨lk, g1, env1, h1, at1.rel, AnsT.pre at1 (fun _ z => z) q1⟩
  | false =>
    rw [if_neg Bool.false_ne_true]
    obtain ⟨k', e', q1⟩ := q1
    rw [e] at e'
    cases e'
    exact q1 g1 H1 at1
theorem t_or {rest : List Expr} (ha : PT X ea (tT X.K T X.mg W F a)) (hb : PW X (.BoolOp .Or (eb :: rest) pos) (tT X.K T X.mg W F b)) : PW X (.BoolOp .Or (ea :: eb :: rest) pos) (tT X.K T X.mg W F (.or a b)) := by
  refine PW.ok (pw_or ha hb) fun lk g env h σ H Q r q => ?_
  simp only [ev] at q
  refine seqT r q (fun o env1 h1 e => by simp [e]) fun o env1 h1 g1 H1 k at1 e q1 => ?_
  simp only [e] at q1
  cases k with
  | false =>
    rw [if_neg Bool.false_ne_true]
    exact ⟨lk, g1, env1, h1, at1.rel, AnsT.pre at1 (fun _ z => z) q1⟩
  | true =>
    rw [if_pos rfl]
    obtain ⟨k', e', q1⟩ := q1
    rw [e] at e'
    cases e'
    exact q1 g1 H1 at1
/-- the value's reading gives the test's -/
theorem AnsT.toE {lk : List Nat} {g : Gh} {env : Mi.Env} {h : Hx} {σ : L2.St} {H : Hp} {Q : Bool → Hp → Prop} {r : R Out} (rel : Rel K T g env h σ H) (hb : ∀ o env' h', r = .ok o env' h' → ∃ k, o = ⟨.d (.bool k), true, []⟩) (q : AnsT K T mg W lk g env σ H r Q) : AnsE K T mg W lk g env σ H r fun x H' => ∃ k, x = .bl k ∧ Q k H' := by
  cases r with
  | no => exact q
  | ex c x env' h' => exact q
  | ok o env' h' =>
    obtain ⟨k, e, q⟩ := q
    obtain ⟨k', rfl⟩ := hb o env' h' rfl
    simp only [truth, emp, Option.some.injEq, Bool.not_not] at e
    subst e
    intro g' v H' c
    obtain ⟨g1, at1, v1⟩ := c.look' rel
    cases v1
    exact ⟨_, rfl, q g1 H' at1⟩
theorem R.bind_form {α β : Type} {P : β → Prop} {r : R α} {f : α → Mi.Env → Hx → R β} (k : ∀ a env h o env' h', f a env h = .ok o env' h' → P o) : ∀ o env' h', r.bind f = .ok o env' h' → P o := fun o env' h' e => by
  cases r with
  | no => cases e
  | ex c x env h => cases e
  | ok a env h => exact k a env h o env' h' e
theorem twoB_form {f : PD → PD → Option Bool} {o p : Out} {env : Mi.Env} {h : Hx} {q : Out} {env' : Mi.Env} {h' : Hx} (e : twoB o p f env h = .ok q env' h') : ∃ k, q = ⟨.d (.bool k), true, []⟩ := by
  unfold twoB at e
  split at e
  · split at e
    · cases e
      exact ⟨_, rfl⟩
    · cases e
  · cases e
theorem t_cmp (hu : X.A.units + 65 < cLine) (ha : PE X ea (tE X.K T X.mg W F a)) (hb : PE X eb (tE X.K T X.mg W F b)) (op : Cop) (hm : behindInMarks (opC op) eb = false) : PT X (.Compare ea [opC op] [eb] pos) (tT X.K T X.mg W F (.cmp op a b)) := by
  refine PT.ok (pt_cmpR (op_cmpD hu op) ha hb hm) fun lk g env h σ H Q r q => ?_
  refine rd_cmp r (AnsT.toE r ?_ q)
  simp only [ev]
  exact R.bind_form fun o env h => R.bind_form fun p env h q env' h' e => twoB_form e
theorem t_cmp2 (hu : X.A.units + 65 < cLine) (ha : PE X ea (tE X.K T X.mg W F a)) (hb : PE X eb (tE X.K T X.mg W F b)) (hc : PE X ec (tE X.K T X.mg W F c)) (o1 o2 : Cop) (hm : lastMarks [opC o1, opC o2] [eb, ec] = false) :
    PT X (.Compare ea [opC o1, opC o2] [eb, ec] pos) (tT X.K T X.mg W F (.cmp2 o1 o2 a b c)) := by
  refine PT.ok (pt_chain (op_cmpD hu o1) (op_cmpD hu o2) ha hb hc (hm := hm)) fun lk g env h σ H Q r q => ?_
  refine rd_cmp2 r (AnsT.toE r ?_ q)
  simp only [ev]
  refine R.bind_form fun o env h => R.bind_form fun p env h q env' h' e => ?_
  split at e
  · split at e
    · exact R.bind_form (P := fun q => ∃ k, q = ⟨.d (.bool k), true, []⟩) (fun z env h q env' h' e => twoB_form e) q env' h' e
    · cases e
      exact ⟨_, rfl⟩
    · cases e
  · cases e
theorem n_ite (hc : PT X ec (tT X.K T X.mg W F c)) (ha : PE X ea (tE X.K T X.mg W F a)) (hb : PE X eb (tE X.K T X.mg W F b)) : PE X (.IfExp ec ea eb pos) (tE X.K T X.mg W F (.ite c a b)) := by
  refine PE.ok (pe_ifExp hc ha hb) fun lk g env h σ H Q r q => ?_
  simp only [ev] at q
  refine ⟨lk, g, env, h, r, ?_⟩
  cases e : ev F lk c env h with
  | no => rw [e] at q; exact q
  | ex c x env' h' => rw [e] at q; exact q
  | ok o env1 h1 =>
    rw [e] at q
    simp only [R.bind] at q
    split at q
    · rename_i e2
      refine ⟨true, e2, fun g1 H1 at1 => ?_⟩
      refine iteT ?_
      exact ⟨lk, g1, env1, h1, at1.rel, AnsE.pre at1 (fun _ z => z) q⟩
    · rename_i e2
      refine ⟨false, e2, fun g1 H1 at1 => ?_⟩
      refine iteF ?_
      exact ⟨lk, g1, env1, h1, at1.rel, AnsE.pre at1 (fun _ z => z) q⟩
    · exact q.elim
theorem t_ite (hc : PT X ec (tT X.K T X.mg W F c)) (ha : PT X ea (tT X.K T X.mg W F a)) (hb : PT X eb (tT X.K T X.mg W F b)) : PT X (.IfExp ec ea eb pos) (tT X.K T X.mg W F (.ite c a b)) := by
  refine ⟨fun pins s σ H Q I ⟨lk, g, env, h, r, q⟩ => ?_⟩
  simp only [ev] at q
  have q0 : tT X.K T X.mg W F c σ H fun k H1 => if k = true then tT X.K T X.mg W F a σ H1 Q else tT X.K T X.mg W F b σ H1 Q := by
    refine seqT r q (fun o env1 h1 e => by simp [e]) fun o env1 h1 g1 H1 k at1 e q1 => ?_
    simp only [e] at q1
    cases k with
    | true =>
      rw [if_pos rfl]
      exact ⟨lk, g1, env1, h1, at1.rel, AnsT.pre at1 (fun _ z => z) q1⟩
    | false =>
      rw [if_neg Bool.false_ne_true]
      exact ⟨lk, g1, env1, h1, at1.rel, AnsT.pre at1 (fun _ z => z) q1⟩
  unfold PySem.isTrue
  refine wpAny_bind (thn (hc.run pins s σ H _ I q0) fun k s1 ⟨H1, I1, q1⟩ => ?_)
  cases k with
  | true =>
    simp only [if_true] at q1 ⊢
    exact ha.run pins s1 σ H1 Q I1 q1
  | false =>
    simp only [Bool.false_eq_true, if_false] at q1 ⊢
    exact hb.run pins s1 σ H1 Q I1 q1
end
end Mi
/-! MiH: argument lists, displays, calls of built-ins and of defs. -/
namespace Mi
open PySem PySem.Spec PyProof.Rows L2
variable {X : Cx} {K : PySem.W.Frag} {T : Addr → Prop} {mg : Str → Option Value} {W : WX} {F : Fns}

theorem VRs.grow {Wv Wv' : Hp} {ρ ρ' : List Addr} (k : Sm Wv Wv') (hp : ∃ l, ρ' = ρ ++ l) : ∀ {xs : List Val} {vs : List V}, VRs K Wv ρ xs vs → VRs K Wv' ρ' xs vs
  | _, _, .nil => .nil
  | _, _, .cons h t => .cons (VR.grow h k hp) (VRs.grow k hp t)
theorem VRs.data {Wv : Hp} {ρ : List Addr} : ∀ {os : List Out} {ds : List PD} {vs : List V}, VRs K Wv ρ (os.map Out.v) vs → dataOf os = some ds → DqAll Wv vs ds
  | [], _, _, h, e => by
    simp only [dataOf, Option.some.injEq] at e
    subst e
    cases h
    exact .nil
  | ⟨ov, fr, ln⟩ :: r, ds, vs, h, e => by
    cases ov with
    | d x =>
      simp only [dataOf, Option.map_eq_some_iff] at e
      obtain ⟨m, e1, rfl⟩ := e
      cases h with
      | cons h1 h2 => exact .cons h1 (VRs.data h2 e1)
    | _ => simp [dataOf] at e
section
variable {lk : List Nat} {g g1 : Gh} {env env1 : Mi.Env} {h h1 : Hx} {σ : L2.St} {H H1 : Hp}
theorem AnsA.pre (a : At K T lk g env σ H g1 env1 h1 H1) {lk' : List Nat} (hl : ∀ i ∈ lk, i ∈ lk') {r : R (List Out)} {Q : List V → Hp → Prop} (q : AnsA K T mg W lk g env σ H r Q) : AnsA K T mg W lk' g1 env1 σ H1 r Q := by
  cases r with
  | no => exact q
  | ex c x env' h' => exact AnsX.pre a hl q
  | ok os env' h' => exact fun g' vs H' b v => q g' vs H' (a.trans b hl) v
end
theorem PA.ok {es : List Expr} {t : TA} {ms : List MX} (h : PA X es t) (k : ∀ lk g env h σ H Q, Rel X.K T g env h σ H → AnsA X.K T X.mg W lk g env σ H (evs F lk ms env h) Q → t σ H Q) : PA X es (tAs X.K T X.mg W F ms) :=
  PA.imp h fun σ H Q ⟨lk, g, env, hx, r, q⟩ => k lk g env hx σ H Q r q
theorem n_nil : PA X [] (tAs X.K T X.mg W F []) := by
  refine PA.ok pa_nil fun lk g env h σ H Q r q => ?_
  simp only [evs] at q
  exact q g [] H r.at .nil
theorem n_cons {e : Expr} {es : List Expr} {m : MX} {ms : List MX} (he : PE X e (tE X.K T X.mg W F m)) (hs : PA X es (tAs X.K T X.mg W F ms)) (st : starEach (e :: es) X.env = (false, eval e X.env) :: starEach es X.env) : PA X (e :: es) (tAs X.K T X.mg W F (m :: ms)) := by
  refine PA.ok (pa_cons he hs st) fun lk g env h σ H Q r q => ?_
  simp only [evs] at q
  refine ⟨lk, g, env, h, r, ?_⟩
  cases e1 : ev F lk m env h with
  | no => rw [e1] at q; exact q
  | ex c x env' h' => rw [e1] at q; exact q
  | ok o env1 h1 =>
    rw [e1] at q
    simp only [R.bind] at q
    intro g' v H' c
    obtain ⟨g1, at1, v1⟩ := c.look' r
    refine ⟨o.ln ++ lk, g1, env1, h1, at1.rel, ?_⟩
    cases e2 : evs F (o.ln ++ lk) ms env1 h1 with
    | no => rw [e2] at q; exact q
    | ex c x env' h' => rw [e2] at q; exact AnsX.pre at1 mem_app_r q
    | ok os env2 h2 =>
      rw [e2] at q
      intro g2 vs H2 at2 v2
      refine q g2 (v :: vs) H2 (at1.trans at2 mem_app_r) (.cons ?_ ?_)
      · exact (v1.grow (at2.fr.view mem_app_l) at2.fr.pre).up (vw_le fun i hi => List.mem_append_left _ hi)
      · exact v2.grow (vw_le fun i hi => List.mem_append_right _ hi) ⟨[], by simp⟩

/-- all operands -/
theorem seqA {ms : List MX} {body : List Out → Mi.Env → Hx → R Out} {lk : List Nat} {g : Gh} {env : Mi.Env} {h : Hx} {σ : L2.St} {H : Hp} {Q : VK} (r : Rel K T g env h σ H) (q : AnsE K T mg W lk g env σ H ((evs F lk ms env h).bind body) Q) {P : List V → Hp → Prop}
    (k : ∀ os env1 h1 g1 vs H1, At K T lk g env σ H g1 env1 h1 H1 → VRs K (g1.vw env1 σ (lnsOf os) H1) g1.ρ (os.map Out.v) vs → AnsE K T mg W lk g env σ H (body os env1 h1) Q → P vs H1) : tAs K T mg W F ms σ H P := by
  refine ⟨lk, g, env, h, r, ?_⟩
  cases e : evs F lk ms env h with
  | no => rw [e] at q; exact q
  | ex c x env' h' => rw [e] at q; exact q
  | ok os env1 h1 =>
    rw [e] at q
    exact fun g1 vs H1 at1 v1 => k os env1 h1 g1 vs H1 at1 v1 q
theorem evs_len : ∀ {ms : List MX} {lk : List Nat} {env : Mi.Env} {h : Hx} {os : List Out} {env' : Mi.Env} {h' : Hx}, evs F lk ms env h = .ok os env' h' → os.length = ms.length
  | [], _, _, _, _, _, _, e => by
    simp only [evs] at e
    cases e
    rfl
  | m :: ms, lk, env, h, os, env', h', e => by
    simp only [evs] at e
    cases e1 : ev F lk m env h with
    | no => rw [e1] at e; cases e
    | ex c x env1 h1 => rw [e1] at e; cases e
    | ok o env1 h1 =>
      rw [e1] at e
      simp only [R.bind] at e
      cases e2 : evs F (o.ln ++ lk) ms env1 h1 with
      | no => rw [e2] at e; cases e
      | ex c x env1 h1 => rw [e2] at e; cases e
      | ok os2 env2 h2 =>
        rw [e2] at e
        cases e
        rw [List.length_cons, List.length_cons, evs_len e2]
theorem dataOf_len : ∀ {os : List Out} {ds : List PD}, dataOf os = some ds → ds.length = os.length
  | [], _, e => by
    simp only [dataOf, Option.some.injEq] at e
    subst e
    rfl
  | ⟨ov, fr, ln⟩ :: r, ds, e => by
    cases ov with
    | d x =>
      simp only [dataOf, Option.map_eq_some_iff] at e
      obtain ⟨m, e1, rfl⟩ := e
      simp [dataOf_len e1]
    | _ => simp [dataOf] at e
theorem seqA' {ms : List MX} {body : List Out → Mi.Env → Hx → R Out} {lk : List Nat} {g : Gh} {env : Mi.Env} {h : Hx} {σ : L2.St} {H : Hp} {Q : VK} (r : Rel K T g env h σ H) (q : AnsE K T mg W lk g env σ H ((evs F lk ms env h).bind body) Q) {P : List V → Hp → Prop}
    (k : ∀ os env1 h1 g1 vs H1, os.length = ms.length → At K T lk g env σ H g1 env1 h1 H1 → VRs K (g1.vw env1 σ (lnsOf os) H1) g1.ρ (os.map Out.v) vs → AnsE K T mg W lk g env σ H (body os env1 h1) Q → P vs H1) : tAs K T mg W F ms σ H P := by
  refine ⟨lk, g, env, h, r, ?_⟩
  cases e : evs F lk ms env h with
  | no => rw [e] at q; exact q
  | ex c x env' h' => rw [e] at q; exact q
  | ok os env1 h1 =>
    rw [e] at q
    exact fun g1 vs H1 at1 v1 => k os env1 h1 g1 vs H1 (evs_len e) at1 v1 q

section
variable {es : List Expr} {ms : List MX} {pos : Pos}
theorem line1000 {n : Nat} (h : n ≤ 1000) : n ≤ sizeLine := by
  rw [sizeLine_eq]
  omega
theorem n_tup {n : Nat} (hs : PA X es (tAs X.K T X.mg W F ms)) (hl : ms.length ≤ 1000) : PE X (.Tuple es n pos) (tE X.K T X.mg W F (.tup ms)) := by
  refine PE.ok (pe_tup hs) fun lk g env h σ H Q r q => ?_
  simp only [ev] at q
  refine seqA' r q fun os env1 h1 g1 vs H1 l at1 v1 q1 => ?_
  split at q1
  · rename_i ds e
    have d := v1.data e
    refine ⟨line1000 (by rw [DqAll.length d, dataOf_len e]; omega), fun p hp => (at1.got q1).tup p vs ds rfl hp d⟩
  · exact q1.elim
theorem n_lst (hs : PA X es (tAs X.K T X.mg W F ms)) (hl : ms.length ≤ 1000) : PE X (.List es pos) (tE X.K T X.mg W F (.lst ms)) := by
  refine PE.ok (pe_lst hs) fun lk g env h σ H Q r q => ?_
  simp only [ev] at q
  refine seqA' r q fun os env1 h1 g1 vs H1 l at1 v1 q1 => ?_
  split at q1
  · rename_i ds e
    have d := v1.data e
    refine ⟨line1000 (by rw [DqAll.length d, dataOf_len e]; omega), fun p hp => (at1.got q1).lst p vs ds rfl rfl hp d⟩
  · exact q1.elim
/-! ### built-ins -/
theorem rd_bi {b : Bi} {lk : List Nat} {g : Gh} {env : Mi.Env} {h : Hx} {σ : L2.St} {H : Hp} {Q : VK} (r : Rel K T g env h σ H) (q : AnsE K T mg W lk g env σ H (ev F lk (.bi b ms) env h) Q) : tAs K T mg W F ms σ H fun vs H1 => rBi b (vs ++ biMore b) H1 Q := by
  simp only [ev] at q
  refine seqA r q fun os env1 h1 g1 vs H1 at1 v1 q1 => ?_
  split at q1
  · rename_i ds e
    split at q1
    · rename_i z fr e2
      exact ⟨_, vs, ds, z, fr, rfl, vw_sm, v1.data e, e2, at1.got q1⟩
    · exact q1.elim
  · exact q1.elim
/-- built-in functions and types but isinstance -/
theorem n_biF {b : Bi} {id : String} {x : Str} {e : Expr} {p : Pos} (hb : biV b = .builtin id) (hmore : biMore b = []) (hc : CallR X (biV b) (rBi b)) (hg : Gl X x) (hm : X.mg x = none) (hv : bootBuiltins x = some (.builtin id)) (ha : PA X (e :: es) (tAs X.K T X.mg W F ms)) (hn : x ≠ "__name__") (hdb : (x == ("__debug__" : Str)) = false)
    (he : starEach (e :: es) X.env = (false, eval e X.env) :: starEach es X.env) (hpl : (backTo pos (starEach es X.env)).any (·.1) = false) : PE X (.Call (.Name x p) (e :: es) [] pos) (tE X.K T X.mg W F (.bi b ms)) := by
  rw [hb] at hc
  refine PE.ok (pe_callB hc hg hm hv ha hn hdb he hpl) fun lk g env h σ H Q r q => ?_
  have q' := rd_bi r q
  rw [hmore] at q'
  simpa [tCB] using q'
theorem n_biT {b : Bi} {t : String} {x : Str} {e : Expr} {p : Pos} (hb : biV b = .type t) (hmore : biMore b = []) (hc : CallR X (biV b) (rBi b)) (hg : Gl X x) (hm : X.mg x = none) (hv : bootBuiltins x = some (.type t)) (ha : PA X (e :: es) (tAs X.K T X.mg W F ms)) (hn : x ≠ "__name__") (hdb : (x == ("__debug__" : Str)) = false)
    (he : starEach (e :: es) X.env = (false, eval e X.env) :: starEach es X.env) (hpl : (backTo pos (starEach es X.env)).any (·.1) = false) : PE X (.Call (.Name x p) (e :: es) [] pos) (tE X.K T X.mg W F (.bi b ms)) := by
  rw [hb] at hc
  refine PE.ok (pe_callTy hc hg hm hv ha hn hdb he hpl) fun lk g env h σ H Q r q => ?_
  have q' := rd_bi r q
  rw [hmore] at q'
  simpa [tCB] using q'
/-- isinstance(e, C) -/
theorem n_isi {t : Ty} {y : Str} {e : Expr} {m : MX} {p p2 : Pos} (hc : CallR X (biV (.isi t)) (rBi (.isi t))) (hg : Gl X "isinstance") (hm : X.mg "isinstance" = none) (hv : bootBuiltins "isinstance" = some (.builtin "isinstance")) (hg2 : Gl X y) (hm2 : X.mg y = none) (hv2 : bootBuiltins y = some (.type (tyN t)))
    (hn : y ≠ "__name__") (hdb : (y == ("__debug__" : Str)) = false) (ha : PE X e (tE X.K T X.mg W F m)) (he : starEach [e, .Name y p2] X.env = (false, eval e X.env) :: starEach [.Name y p2] X.env) :
    PE X (.Call (.Name "isinstance" p) [e, .Name y p2] [] pos) (tE X.K T X.mg W F (.bi (.isi t) [m])) := by
  have hy : PE X (.Name y p2) (tC (.ty (tyN t))) := pe_bltn hg2 hm2 hv2 rfl hn hdb
  refine PE.ok (pe_callB hc hg hm hv (pa_cons ha (pa_cons hy pa_nil) he) (by decide) (by decide) he (by rfl)) fun lk g env h σ H Q r q => ?_
  have q' := rd_bi r q
  obtain ⟨lk', g', env', h', r', q'⟩ := q'
  refine ⟨lk', g', env', h', r', ?_⟩
  simp only [evs] at q'
  cases e1 : ev F lk' m env' h' with
  | no => rw [e1] at q'; exact q'
  | ex c x env1 h1 => rw [e1] at q'; exact q'
  | ok o env1 h1 =>
    rw [e1] at q'
    simp only [R.bind] at q'
    intro g2 v H2 c
    obtain ⟨g1, at1, v1⟩ := c.look' r'
    exact q' g1 [v] H2 at1 (.cons (v1.up (vw_le fun i hi => List.mem_append_left _ hi)) .nil)
end
end Mi
/-! MiI: calls of defs. -/
namespace Mi
open PySem PySem.Spec PyProof.Rows L2
variable {X : Cx} {K : PySem.W.Frag} {T : Addr → Prop} {mg : Str → Option Value} {W : WX} {F : Fns}

/-- what a def hands back; H: the heap at the call -/
def RetR (K : PySem.W.Frag) (H : Hp) (g : Gh) (H' : Hp) (v : Val) (fr : Bool) (u : V) : Prop :=
  match v with
  | .dct kvs => fr = true ∧ ∃ p, u = .ref p ∧ H p = none ∧ g.O p = true ∧ p ∉ g.ρ ∧ CR K (fz g.O H') H' (.dct kvs) p
  | v => OutR K H g [] [] H' ⟨v, fr, []⟩ u
/-- a def's promise -/
def AnsF (K : PySem.W.Frag) (T : Addr → Prop) (mg : Str → Option Value) (g : Gh) (H : Hp) (r : FR) (Q : VK) (E : XK) : Prop :=
  match r with
  | .no => False
  | .ok v fr h' => ∀ g' u H', Fram [] g [] [] H g' [] [] H' → Rel K T g' [] h' [] H' → RetR K H g' H' v fr u → Q u H'
  | .ex c x h' => ∀ g' H' cls d, Fram [] g [] [] H g' [] [] H' → Rel K T g' [] h' [] H' → XR K mg g' H' c x cls d → E cls d H'
def spR (K : PySem.W.Frag) (T : Addr → Prop) (mg : Str → Option Value) (f : List Val → Hx → FR) : Sp := fun vs H Q E =>
  ∃ g h xs, Rel K T g [] h [] H ∧ VRs K (fz g.O H) g.ρ xs vs ∧ AnsF K T mg g H (f xs h) Q E

theorem no_own {i : Nat} {a : Addr} : ¬ ownAt [] [] i a := fun ⟨⟨v, e⟩, _⟩ => by simp at e

/-! ### the caller's own things lent -/
section
variable {g g' : Gh} {env : Mi.Env} {h h' : Hx} {σ : L2.St} {H H' : Hp} {ln : List Nat}
def Gh.lend (g : Gh) (L : Addr → Bool) : Gh := { g with O := fun a => g.O a && !L a, A := fun a => g.A a || L a }
def Gh.back (g g' : Gh) (L : Addr → Bool) : Gh := { O := fun a => g'.O a || L a, A := g.A, ρ := g'.ρ }
theorem lend_O {L : Addr → Bool} {a : Addr} : (g.lend L).O a = true ↔ g.O a = true ∧ L a = false := by simp [Gh.lend]
theorem lend_O_false {L : Addr → Bool} {a : Addr} : (g.lend L).O a = false ↔ g.O a = false ∨ L a = true := by
  show (g.O a && !L a) = false ↔ _
  cases g.O a <;> cases L a <;> simp
theorem lnB_own (r : Rel K T g env h σ H) {a : Addr} (e : lnB env σ ln a = true) : g.O a = true ∧ a ∉ g.ρ ∧ ∃ o, H a = some o ∧ celly o = true := by
  obtain ⟨i, _, q⟩ := lnB_iff.mp e
  have h1 := r.ownO q
  exact ⟨h1, r.nb i a q, r.kind a (.inl h1)⟩
theorem celly_solid {o : HO} (h : celly o = true) : solid o = true := by cases o <;> simp_all [celly, solid]
theorem Rel.lend (r : Rel K T g env h σ H) (ln : List Nat) : Rel K T (g.lend (lnB env σ ln)) [] h [] H where
  len := rfl
  slot := fun i v e => by simp at e
  own := fun i v e => by simp at e
  sep := fun i j a q => absurd q no_own
  nb := fun i a q => absurd q no_own
  box := fun i b e => by
    obtain ⟨a, e1, e2, e3⟩ := r.box i b e
    refine ⟨a, e1, lend_O.mpr ⟨e2, ?_⟩, BR.up (fun c o _ q => ?_) rfl e3⟩
    · cases q : lnB env σ ln a with
      | false => rfl
      | true => exact absurd (List.mem_of_getElem? e1) (lnB_own r q).2.1
    · rw [fz_some] at q ⊢
      refine ⟨?_, q.2⟩
      have := q.1
      simp only [Bool.or_eq_false_iff] at this
      show ((g.O c && !lnB env σ ln c) || (g.A c || lnB env σ ln c)) = false
      cases z : lnB env σ ln c with
      | false => simp [this.1, this.2]
      | true =>
        have := (lnB_own r z).1
        simp_all
  rlen := r.rlen
  rnd := r.rnd
  dis := fun a q => by
    have q' : (g.A a || lnB env σ ln a) = true := q
    rw [Bool.or_eq_true] at q'
    rcases q' with z | z
    · exact lend_O_false.mpr (.inl (r.dis a z))
    · exact lend_O_false.mpr (.inr z)
  kind := fun a q => by
    rcases q with z | z
    · exact r.kind a (.inl (lend_O.mp z).1)
    · have z' : (g.A a || lnB env σ ln a) = true := z
      rw [Bool.or_eq_true] at z'
      rcases z' with z' | z'
      · exact r.kind a (.inr z')
      · exact (lnB_own r z').2.2
  tab := r.tab
theorem back_O {L : Addr → Bool} {a : Addr} : (g.back g' L).O a = true ↔ g'.O a = true ∨ L a = true := by simp [Gh.back]
theorem back_O_false {L : Addr → Bool} {a : Addr} : (g.back g' L).O a = false ↔ g'.O a = false ∧ L a = false := by simp [Gh.back]
/-- behind the call the caller has its own again -/
theorem back_ok (r : Rel K T g env h σ H) (f : Fram [] (g.lend (lnB env σ ln)) [] [] H g' [] [] H') (r' : Rel K T g' [] h' [] H') (lk : List Nat) : At K T lk g env σ H (g.back g' (lnB env σ ln)) env h' H' := by
  -- what becomes of the caller's own objects
  have own1 : ∀ i a, ownAt env σ i a → (g.back g' (lnB env σ ln)).O a = true ∧ H' a = H a ∧ a ∉ g'.ρ := fun i a q => by
    have hO := r.ownO q
    cases z : lnB env σ ln a with
    | false =>
      obtain ⟨p1, p2, _, p4⟩ := f.rest a (lend_O.mpr ⟨hO, z⟩) (fun _ => no_own) (r.nb i a q)
      exact ⟨back_O.mpr (.inl p1), p2, p4⟩
    | true =>
      obtain ⟨o, e, c⟩ := (lnB_own r z).2.2
      obtain ⟨p1, p2⟩ := f.keep a o (celly_solid c) (lend_O_false.mpr (.inr z)) e
      refine ⟨back_O.mpr (.inr z), p2.trans e.symm, fun w => ?_⟩
      obtain ⟨j, e2⟩ := List.mem_iff_getElem?.mp w
      have hj : j < h'.length := by
        rw [← r'.rlen]
        exact (List.getElem?_eq_some_iff.mp e2).1
      obtain ⟨b, e3, e4, _⟩ := r'.box j _ (List.getElem?_eq_getElem hj)
      rw [e2] at e3
      cases e3
      rw [p1] at e4
      cases e4
  have kv : Sm (fz g.O H) (fz (g.back g' (lnB env σ ln)).O H') := fun a o z q => by
    rw [fz_some] at q ⊢
    obtain ⟨p1, p2⟩ := f.keep a o z (lend_O_false.mpr (.inl q.1)) q.2
    refine ⟨back_O_false.mpr ⟨p1, ?_⟩, p2⟩
    cases w : lnB env σ ln a with
    | false => rfl
    | true =>
      rw [(lnB_own r w).1] at q
      cases q.1
  refine ⟨⟨fun a h1 h2 h3 => ?_, fun a o z h1 h2 => ?_, f.pre, rfl, fun i _ => ⟨rfl, fun a o _ q e => ⟨(own1 i a q).2.1.trans e, .inr q⟩⟩, rfl, fun a e z => back_O_false.mpr ⟨f.old a (lend_O_false.mpr (.inl e)) z, by
    cases w : lnB env σ ln a with
    | false => rfl
    | true =>
      rw [(lnB_own r w).1] at e
      cases e⟩, f.there⟩, ⟨r.len, fun i v e => ?_, fun i v e => ?_, r.sep, fun i a q => (own1 i a q).2.2, fun i b e => ?_, r'.rlen, r'.rnd, fun a q => ?_, fun a q => ?_, r'.tab⟩, fun _ _ q => q⟩
  · have z : lnB env σ ln a = false := by
      cases w : lnB env σ ln a with
      | false => rfl
      | true =>
        obtain ⟨i, _, q⟩ := lnB_iff.mp w
        exact absurd q (h2 i)
    obtain ⟨p1, p2, _, p4⟩ := f.rest a (lend_O.mpr ⟨h1, z⟩) (fun _ => no_own) h3
    exact ⟨back_O.mpr (.inl p1), p2, h2, p4⟩
  · obtain ⟨p1, p2⟩ := f.keep a o z (lend_O_false.mpr (.inl h1)) h2
    refine ⟨back_O_false.mpr ⟨p1, ?_⟩, p2⟩
    cases w : lnB env σ ln a with
    | false => rfl
    | true =>
      rw [(lnB_own r w).1] at h1
      cases h1
  · obtain ⟨u, e1, e2⟩ := r.slot i v e
    exact ⟨u, e1, e2.grow kv f.pre⟩
  · obtain ⟨a, e1, e2, e3, e9⟩ := r.own i v e
    obtain ⟨p1, p2, _⟩ := own1 i a ⟨⟨v, e⟩, e1⟩
    exact ⟨a, e1, p1, CR.up kv p2 e3, e9⟩
  · obtain ⟨a, e1, e2, e3⟩ := r'.box i b e
    refine ⟨a, e1, back_O.mpr (.inl e2), BR.up (fun c o _ q => ?_) rfl e3⟩
    rw [fz_some] at q ⊢
    refine ⟨?_, q.2⟩
    have q1 := q.1
    rw [f.al] at q1
    have q2 : (g'.O c || (g.A c || lnB env σ ln c)) = false := q1
    show ((g'.O c || lnB env σ ln c) || g.A c) = false
    simp only [Bool.or_eq_false_iff] at q2 ⊢
    exact ⟨⟨q2.1, q2.2.2⟩, q2.2.1⟩
  · have q' : g.A a = true := q
    refine back_O_false.mpr ⟨r'.dis a ?_, ?_⟩
    · rw [f.al]
      show (g.A a || lnB env σ ln a) = true
      rw [q']
      rfl
    · cases w : lnB env σ ln a with
      | false => rfl
      | true =>
        have := (lnB_own r w).1
        rw [r.dis a q'] at this
        cases this
  · have key : g'.O a = true ∨ g'.A a = true := by
      rcases q with z | z
      · rcases back_O.mp z with z | z
        · exact .inl z
        · refine .inr ?_
          rw [f.al]
          show (g.A a || lnB env σ ln a) = true
          rw [z]
          simp
      · refine .inr ?_
        rw [f.al]
        have z' : g.A a = true := z
        show (g.A a || lnB env σ ln a) = true
        rw [z']
        rfl
    exact r'.kind a key
theorem lend_view : fz (g.lend (lnB env σ ln)).O H = g.vw env σ ln H := rfl
theorem back_view (r : Rel K T g env h σ H) (f : Fram [] (g.lend (lnB env σ ln)) [] [] H g' [] [] H') : Sm (fz g'.O H') ((g.back g' (lnB env σ ln)).vw env σ ln H') := fun a o z q => by
  rw [fz_some] at q
  rw [vw_some]
  refine ⟨?_, q.2⟩
  cases w : lnB env σ ln a with
  | true => exact .inr rfl
  | false => exact .inl (back_O_false.mpr ⟨q.1, w⟩)
end

/-- what came back, for the caller -/
theorem At.ret {lk : List Nat} {g g1 g' : Gh} {env env1 : Mi.Env} {h1 h' : Hx} {σ : L2.St} {H H1 H' : Hp} {ln : List Nat} (a : At K T lk g env σ H g1 env1 h1 H1) (f : Fram [] (g1.lend (lnB env1 σ ln)) [] [] H1 g' [] [] H') (r' : Rel K T g' [] h' [] H')
    {v : Val} {fr : Bool} {u : V} (nd : ∀ kvs, v ≠ .dct kvs) (ns : ∀ xs, v ≠ .scr xs) (nk : ∀ xs, v ≠ .kd xs) (ret : RetR K H1 g' H' v fr u) {Q : VK} (k : ∀ g' w H', CE K T lk g env σ H ⟨v, fr, lnOf v fr ln⟩ g' env1 h' w H' → Q w H') : Q u H' := by
  have b := back_ok a.rel f r' lk
  have ab := a.trans b (fun _ z => z)
  have sv := back_view a.rel f
  refine k (g1.back g' (lnB env1 σ ln)) u H' ⟨ab.fr, ab.rel, ab.own, ?_⟩
  have out : OutR K H1 g' [] [] H' ⟨v, fr, []⟩ u := by
    cases v with
    | dct kvs => exact absurd rfl (nd kvs)
    | _ => exact ret
  obtain ⟨_, out⟩ := out
  refine ⟨nd, ?_⟩
  split at out
  · rename_i hf
    rw [if_pos hf]
    obtain ⟨p, e, hp, hO, hn, hρ, c⟩ := out
    refine ⟨p, e, a.fr.there p hp, back_O.mpr (.inl hO), fun i q => ?_, hρ, ?_⟩
    · obtain ⟨⟨w, e1⟩, e2⟩ := q
      have hi := ab.rel.ownO ⟨⟨w, e1⟩, e2⟩
      have : H1 p ≠ none := by
        obtain ⟨c', e3, e4, _⟩ := a.rel.own i w e1
        rw [e2] at e3
        cases e3
        exact a.rel.nn p e4
      exact this hp
    · rw [vw_nil] at c
      cases v with
      | d x =>
        cases x with
        | list xs =>
          have hfr : fr = true := (Bool.and_eq_true_iff.mp hf).1
          subst hfr
          obtain ⟨vs, e1, e2⟩ := c
          exact ⟨vs, e1, DqAll.clean ab.rel (e2.up sv)⟩
        | _ => exact c.elim
      | dct kvs => exact absurd rfl (nd kvs)
      | kd kvs => exact absurd rfl (nk kvs)
      | _ => exact c.elim
  · rename_i hf
    rw [if_neg hf]
    rw [vw_nil] at out
    cases v with
    | d x => exact Dq.clean ab.rel (fun e => by simpa [isMutV, e] using hf) (Dq.up sv out)
    | scr xs => exact absurd rfl (ns xs)
    | kd xs => exact absurd rfl (nk xs)
    | box i => exact out
    | _ => exact out.elim

theorem VRs.nd {Wv : Hp} {ρ : List Addr} : ∀ {xs : List Val} {vs : List V}, VRs K Wv ρ xs vs → ∀ v ∈ xs, ∀ kvs, v ≠ .dct kvs
  | _, _, .nil => fun v hv => by simp at hv
  | _, _, .cons h t => fun v hv kvs e => by
    rcases List.mem_cons.mp hv with rfl | hv
    · subst e
      exact h.elim
    · exact VRs.nd t v hv kvs e
/-- the promise is asked -/
theorem At.ask {lk : List Nat} {g g1 : Gh} {env env1 : Mi.Env} {h1 : Hx} {σ : L2.St} {H H1 : Hp} {f : Nat} {os : List Out} {vs : List V} {Q : VK} (a : At K T lk g env σ H g1 env1 h1 H1) (v1 : VRs K (g1.vw env1 σ (lnsOf os) H1) g1.ρ (os.map Out.v) vs) {xs : List Val} {vs' : List V}
    (v2 : VRs K (g1.vw env1 σ (lnsOf os) H1) g1.ρ xs vs')
    (q : AnsE K T mg W lk g env σ H (callR (F f xs h1) os env1) Q) : spR K T mg (F f) vs' H1 Q (WE W σ) := by
  refine ⟨g1.lend (lnB env1 σ (lnsOf os)), h1, xs, a.rel.lend (lnsOf os), v2, ?_⟩
  unfold callR at q
  cases e : F f xs h1 with
  | no => rw [e] at q; exact q
  | ex c x h' =>
    rw [e] at q
    intro g' H' cls d fr' r' xr
    have b := back_ok a.rel fr' r' lk
    have ab := a.trans b (fun _ z => z)
    obtain ⟨m, dd, v, e1, e2, e3⟩ := xr
    have az := ab.frz (if noL x then [] else lnsOf os)
    refine q _ H' cls d az.fr az.rel az.own ⟨m, dd, v, e1, e2, ?_⟩
    have d1 := Dq.up (back_view a.rel fr') e3
    rw [cut_view]
    by_cases z : noL x = true
    · rw [if_pos z, vw_nil]
      exact Dq.noL (no_tup ab.rel) d1 z
    · rw [if_neg z]
      exact d1
  | ok v fr h' =>
    rw [e] at q
    intro g' u H' fr' r' ret
    cases v with
    | dct kvs => exact q.elim
    | scr xs => exact q.elim
    | kd xs => exact q.elim
    | _ => exact a.ret fr' r' (fun kvs z => by cases z) (fun xs z => by cases z) (fun xs z => by cases z) ret q
end Mi
/-! MiJ: calls of defs. -/
namespace Mi
open PySem PySem.Spec PyProof.Rows L2
variable {X : Cx} {K : PySem.W.Frag} {T : Addr → Prop} {mg : Str → Option Value} {W : WX} {F : Fns}

/-- how n values by place and the keywords ks are bound -/
def KB (K : PySem.W.Frag) (fd : FuncData) (ps : List Str) (n : Nat) (ks : List Str) (perm : List Nat) : Prop :=
  ∀ (s : Shared) (us ws : List Value), K.In s.heap → us.length = n → ws.length = ks.length → BindsTo s fd ⟨us, ks.zip ws⟩ (ps.zip (permL perm (us ++ ws)))
/-- where a def of the text stands -/
structure FnAt (X : Cx) (T : Addr → Prop) (F : Fns) (k : Nat) (x : Str) (f : Nat) (n : Nat) (ks : List Str) (perm : List Nat) : Prop where
  ex : ∃ addr fd ps, X.mg x = some (.ref addr) ∧ PySem.W.keepIn X.K (.ref addr) = true ∧ FnOk X.prog X.w X.K X.mg X.base (L2.CX X.prog X.w) k addr fd ps (spR X.K T X.mg (F f)) ∧ KB X.K fd ps n ks perm

theorem Vals.at {vs : List V} {us : List Value} (h : Vals vs us) : ∀ i : Nat, (vs[i]? = none ∧ us[i]? = none) ∨ ∃ v u, vs[i]? = some v ∧ us[i]? = some u ∧ RelV v u := by
  induction h with
  | nil => intro i; exact .inl ⟨by simp, by simp⟩
  | cons h t ih =>
    intro i
    cases i with
    | zero => exact .inr ⟨_, _, rfl, rfl, h⟩
    | succ j => simpa using ih j
theorem Vals.perm {vs : List V} {us : List Value} (h : Vals vs us) : ∀ p : List Nat, Vals (permL p vs) (permL p us)
  | [] => .nil
  | i :: r => by
    unfold permL
    rw [List.filterMap_cons, List.filterMap_cons]
    rcases Vals.at h i with ⟨e1, e2⟩ | ⟨v, u, e1, e2, q⟩
    · rw [e1, e2]
      exact Vals.perm h r
    · rw [e1, e2]
      exact .cons q (Vals.perm h r)
theorem VRs.at {Wv : Hp} {ρ : List Addr} {xs : List Val} {vs : List V} (h : VRs K Wv ρ xs vs) : ∀ i : Nat, (xs[i]? = none ∧ vs[i]? = none) ∨ ∃ x v, xs[i]? = some x ∧ vs[i]? = some v ∧ VR K Wv ρ x v := by
  induction h with
  | nil => intro i; exact .inl ⟨by simp, by simp⟩
  | cons h t ih =>
    intro i
    cases i with
    | zero => exact .inr ⟨_, _, rfl, rfl, h⟩
    | succ j => simpa using ih j
theorem VRs.perm {Wv : Hp} {ρ : List Addr} {xs : List Val} {vs : List V} (h : VRs K Wv ρ xs vs) : ∀ p : List Nat, VRs K Wv ρ (permL p xs) (permL p vs)
  | [] => .nil
  | i :: r => by
    unfold permL
    rw [List.filterMap_cons, List.filterMap_cons]
    rcases VRs.at h i with ⟨e1, e2⟩ | ⟨v, u, e1, e2, q⟩
    · rw [e1, e2]
      exact VRs.perm h r
    · rw [e1, e2]
      exact .cons q (VRs.perm h r)
theorem VRs.app {Wv : Hp} {ρ : List Addr} : ∀ {xs ys : List Val} {vs ws : List V}, VRs K Wv ρ xs vs → VRs K Wv ρ ys ws → VRs K Wv ρ (xs ++ ys) (vs ++ ws)
  | _, _, _, _, .nil, h => h
  | _, _, _, _, .cons a t, h => .cons a (VRs.app t h)
theorem VRs.len {Wv : Hp} {ρ : List Addr} : ∀ {xs : List Val} {vs : List V}, VRs K Wv ρ xs vs → xs.length = vs.length
  | _, _, .nil => rfl
  | _, _, .cons _ t => congrArg Nat.succ t.len
theorem permL_range {α : Type} : ∀ (xs : List α), permL (List.range xs.length) xs = xs
  | [] => rfl
  | x :: r => by
    have ih := permL_range r
    unfold permL at ih ⊢
    rw [List.length_cons, List.range_succ_eq_map, List.filterMap_cons, List.filterMap_map]
    show x :: List.filterMap (fun i => (x :: r)[i + 1]?) (List.range r.length) = _
    simpa using ih
section
variable {k : Nat} {x : Str} {f n : Nat} {ks : List Str} {perm : List Nat} {pins : List (Addr × Obj)} {σ : L2.St} {H : Hp} {s : Shared} {Q : VK} {us ws : List Value} {vs zs : List V}
theorem run_at {addr : Addr} {fd : FuncData} {ps : List Str} {sp : Sp} (Fk : FnOk X.prog X.w X.K X.mg X.base (L2.CX X.prog X.w) k addr fd ps sp) (hb : KB X.K fd ps n ks perm) (hr : Room k X.A) (tk : Takes X W)
    (I : Inv X pins σ H s) (r : Vals vs us) (rz : Vals zs ws) (l1 : us.length = n) (l2 : ws.length = ks.length) (h : sp (permL perm (vs ++ zs)) H Q (WE W σ)) : wpAny (model X.prog X.w) X.A (call (.ref addr) us (ks.zip ws)) (EP X pins σ Q) X.xe s := by
  have r2 := Vals.perm (r.append rz) perm
  refine wpAny_call (codeAny_mono (Fk.run X.A X.stack s H ⟨us, ks.zip ws⟩ _ _ Q (WE W σ) hr I.env0 (hb s us ws I.kIn l1 l2) r2 h) fun r s' hq => ?_)
  cases r with
  | error e => exact passAt tk σ pins H s e s' I hq
  | ok fl =>
    cases fl with
    | ret u => exact I.after hq
    | next => exact False.elim hq
    | brk => exact False.elim hq
    | cont => exact False.elim hq
end

/-! ### the nodes -/
section
variable {k : Nat} {x : Str} {f : Nat} {p pos : Pos} {e : Expr} {es : List Expr} {ms bs : List MX} {kws : List Keyword} {ks : List Str} {perm : List Nat}
/-- the values of the keywords -/
structure NK (X : Cx) (T : Addr → Prop) (W : WX) (F : Fns) (kws : List Keyword) (bs : List MX) : Prop where
  pk : PK X kws (tAs X.K T X.mg W F bs)
  len : kws.length = bs.length
theorem PK.imp {t t' : TA} (h : PK X kws t) (q : ∀ σ H Q, t' σ H Q → t σ H Q) : PK X kws t' := ⟨fun pos pins s σ H Q I z => h.run pos pins s σ H Q I (q σ H Q z)⟩
theorem nk_nil : NK X T W F [] [] := by
  refine ⟨PK.imp pk_nil fun σ H Q ⟨lk, g, env, h, r, q⟩ => ?_, rfl⟩
  simp only [evs] at q
  exact q g [] H r.at .nil
theorem tAs_cons {m : MX} {ms : List MX} {σ : L2.St} {H : Hp} {Q : List V → Hp → Prop} (q : tAs K T mg W F (m :: ms) σ H Q) : tCons (tE K T mg W F m) (tAs K T mg W F ms) σ H Q := by
  obtain ⟨lk, g, env, h, r, q⟩ := q
  simp only [evs] at q
  refine ⟨lk, g, env, h, r, ?_⟩
  cases e1 : ev F lk m env h with
  | no => rw [e1] at q; exact q
  | ex c x env' h' => rw [e1] at q; exact q
  | ok o env1 h1 =>
    rw [e1] at q
    simp only [R.bind] at q
    intro g' v H' c
    obtain ⟨g1, at1, v1⟩ := c.look' r
    refine ⟨o.ln ++ lk, g1, env1, h1, at1.rel, ?_⟩
    cases e2 : evs F (o.ln ++ lk) ms env1 h1 with
    | no => rw [e2] at q; exact q
    | ex c x env' h' => rw [e2] at q; exact AnsX.pre at1 mem_app_r q
    | ok os env2 h2 =>
      rw [e2] at q
      intro g2 vs H2 at2 v2
      refine q g2 (v :: vs) H2 (at1.trans at2 mem_app_r) (.cons ?_ ?_)
      · exact (v1.grow (at2.fr.view mem_app_l) at2.fr.pre).up (vw_le fun i hi => List.mem_append_left _ hi)
      · exact v2.grow (vw_le fun i hi => List.mem_append_right _ hi) ⟨[], by simp⟩
theorem nk_cons {m : MX} {nm : Option Str} {kp : Pos} (ha : PE X e (tE X.K T X.mg W F m)) (hr : NK X T W F kws bs) : NK X T W F (⟨nm, e, kp⟩ :: kws) (m :: bs) :=
  ⟨PK.imp (pk_cons ha hr.pk) fun σ H Q q => tAs_cons q, by rw [List.length_cons, List.length_cons, hr.len]⟩

theorem vals_len {vs : List V} {us : List Value} (h : Vals vs us) : vs.length = us.length := h.length
theorem n_call (A : FnAt X T F k x f (e :: es).length [] (List.range (e :: es).length)) (hr : Room k X.A) (tk : Takes X W) (hg : Gl X x) (ha : PA X (e :: es) (tAs X.K T X.mg W F ms)) (hl : ms.length = (e :: es).length) (hdb : (x == ("__debug__" : Str)) = false)
    (he : starEach (e :: es) X.env = (false, eval e X.env) :: starEach es X.env) (hpl : (backTo pos (starEach es X.env)).any (·.1) = false) : PE X (.Call (.Name x p) (e :: es) [] pos) (tE X.K T X.mg W F (.call f ms)) := by
  obtain ⟨addr, fd, ps, hm, hk, Fk, hb⟩ := A.ex
  have h0 : PE X (.Call (.Name x p) (e :: es) [] pos) (fun σ H Q => tAs X.K T X.mg W F ms σ H fun vs H1 => vs.length = (e :: es).length ∧ spR X.K T X.mg (F f) vs H1 Q (WE W σ)) := by
    refine ⟨fun pins s σ H Q I h => ?_⟩
    refine wpAny_Call_Name_kw (ld_glob I hg hm ?_ hdb)
    refine PySem.W.callWith_K (h₀ := X.base) I.ok.mod.kin hk (thn (ha.run pos pins s σ H _ I h) fun us s1 ⟨vs, H1, I1, r, l, q⟩ => ⟨I1.kIn, ?_⟩) he hpl
    have := run_at (zs := []) (ws := []) Fk hb hr tk I1 r .nil (by rw [← vals_len r]; exact l) rfl (by rw [List.append_nil, ← l, permL_range]; exact q)
    simpa using this
  refine PE.ok h0 fun lk g env h σ H Q r q => ?_
  simp only [ev] at q
  refine seqA' r q fun os env1 h1 g1 vs H1 l at1 v1 q1 => ⟨?_, at1.ask v1 v1 q1⟩
  rw [← v1.len, List.length_map, l, hl]
theorem lnsOf_app : ∀ {os ps : List Out}, lnsOf (os ++ ps) = lnsOf os ++ lnsOf ps
  | [], _ => rfl
  | o :: r, ps => by
    show o.ln ++ lnsOf (r ++ ps) = _
    rw [lnsOf_app]
    exact (List.append_assoc ..).symm
/-- keywords behind none or some values -/
theorem rd_callK {lk : List Nat} {g : Gh} {env : Mi.Env} {h : Hx} {σ : L2.St} {H : Hp} {Q : VK} (r : Rel K T g env h σ H) (q : AnsE K T mg W lk g env σ H (ev F lk (.callK f ms bs perm) env h) Q) :
    tAs K T mg W F ms σ H fun vs H1 => vs.length = ms.length ∧ tAs K T mg W F bs σ H1 fun zs H2 => zs.length = bs.length ∧ spR K T mg (F f) (permL perm (vs ++ zs)) H2 Q (WE W σ) := by
  simp only [ev] at q
  refine seqA' r q fun os env1 h1 g1 vs H1 l at1 v1 q1 => ⟨by rw [← v1.len, List.length_map, l], ?_⟩
  refine ⟨lnsOf os ++ lk, g1, env1, h1, at1.rel, ?_⟩
  cases e : evs F (lnsOf os ++ lk) bs env1 h1 with
  | no => rw [e] at q1; exact q1
  | ex c x env' h' => rw [e] at q1; exact AnsX.pre at1 mem_app_r q1
  | ok ps env2 h2 =>
    rw [e] at q1
    intro g2 zs H2 at2 v2
    refine ⟨by rw [← v2.len, List.length_map, evs_len e], ?_⟩
    have w1 := (v1.grow (at2.fr.view mem_app_l) at2.fr.pre).grow (ρ' := g2.ρ) (vw_le (m := lnsOf (os ++ ps)) fun i hi => by rw [lnsOf_app]; exact List.mem_append_left _ hi) ⟨[], by simp⟩
    have w2 := v2.grow (ρ' := g2.ρ) (vw_le (m := lnsOf (os ++ ps)) fun i hi => by rw [lnsOf_app]; exact List.mem_append_right _ hi) ⟨[], by simp⟩
    have w3 := w1.app w2
    rw [← List.map_append] at w3
    exact (at1.trans at2 mem_app_r).ask w3 (w3.perm perm) q1
theorem n_callK (A : FnAt X T F k x f (e :: es).length ks perm) (hr : Room k X.A) (tk : Takes X W) (hg : Gl X x) (ha : PA X (e :: es) (tAs X.K T X.mg W F ms)) (hl : ms.length = (e :: es).length) (hk2 : NK X T W F kws bs) (hlk : bs.length = ks.length) (hdb : (x == ("__debug__" : Str)) = false)
    (he : starEach (e :: es) X.env = (false, eval e X.env) :: starEach es X.env) (hall : (backToKw pos (keywordEach kws X.env)).all (·.1.isSome) = true) (hks : (backToKw pos (keywordEach kws X.env)).filterMap (·.1) = ks)
    (hpl : ((backTo pos (starEach (e :: es) X.env)).any (·.1) || (backToKw pos (keywordEach kws X.env)).any (·.1.isNone)) = false) : PE X (.Call (.Name x p) (e :: es) kws pos) (tE X.K T X.mg W F (.callK f ms bs perm)) := by
  obtain ⟨addr, fd, ps, hm, hk, Fk, hb⟩ := A.ex
  have h0 : PE X (.Call (.Name x p) (e :: es) kws pos) (fun σ H Q => tAs X.K T X.mg W F ms σ H fun vs H1 => vs.length = ms.length ∧ tAs X.K T X.mg W F bs σ H1 fun zs H2 => zs.length = bs.length ∧ spR X.K T X.mg (F f) (permL perm (vs ++ zs)) H2 Q (WE W σ)) := by
    refine ⟨fun pins s σ H Q I h => ?_⟩
    refine wpAny_Call_Name_kw (ld_glob I hg hm ?_ hdb)
    refine PySem.W.callWith_KW (h₀ := X.base) I.ok.mod.kin hk hall (thn (ha.run pos pins s σ H _ I h) fun us s1 ⟨vs, H1, I1, r, l, q⟩ => ?_) hpl he
    refine thn (hk2.pk.run pos pins s1 σ H1 _ I1 q) fun ws s2 ⟨zs, H2, I2, rz, lz, q2⟩ => ⟨I2.kIn, ?_⟩
    rw [hks]
    exact run_at (us := us) Fk hb hr tk I2 r rz (by rw [← vals_len r, l, hl]) (by rw [← vals_len rz, lz, hlk]) q2
  exact PE.ok h0 fun lk g env h σ H Q r q => rd_callK r q
theorem n_callK0 (A : FnAt X T F k x f 0 ks perm) (hr : Room k X.A) (tk : Takes X W) (hg : Gl X x) (hk2 : NK X T W F kws bs) (hlk : bs.length = ks.length) (hdb : (x == ("__debug__" : Str)) = false)
    (hall : (backToKw pos (keywordEach kws X.env)).all (·.1.isSome) = true) (hks : (backToKw pos (keywordEach kws X.env)).filterMap (·.1) = ks)
    (hpl : ((backTo pos (starEach [] X.env)).any (·.1) || (backToKw pos (keywordEach kws X.env)).any (·.1.isNone)) = false) : PE X (.Call (.Name x p) [] kws pos) (tE X.K T X.mg W F (.callK f [] bs perm)) := by
  obtain ⟨addr, fd, ps, hm, hk, Fk, hb⟩ := A.ex
  have h0 : PE X (.Call (.Name x p) [] kws pos) (fun σ H Q => tAs X.K T X.mg W F bs σ H fun zs H2 => zs.length = bs.length ∧ spR X.K T X.mg (F f) (permL perm ([] ++ zs)) H2 Q (WE W σ)) := by
    refine ⟨fun pins s σ H Q I h => ?_⟩
    refine wpAny_Call_Name_kw (ld_glob I hg hm ?_ hdb)
    refine PySem.W.callWith_KW0 (h₀ := X.base) I.ok.mod.kin hk hall (thn (hk2.pk.run pos pins s σ H _ I h) fun ws s2 ⟨zs, H2, I2, rz, lz, q2⟩ => ⟨I2.kIn, ?_⟩) hpl
    rw [hks]
    exact run_at (us := []) Fk hb hr tk I2 .nil rz rfl (by rw [← vals_len rz, lz, hlk]) q2
  refine PE.ok h0 fun lk g env h σ H Q r q => ?_
  have := rd_callK r q
  obtain ⟨lk', g', env', h', r', q'⟩ := this
  simp only [evs] at q'
  exact (q' g' [] H r'.at .nil).2
theorem n_call0 (A : FnAt X T F k x f 0 [] []) (hr : Room k X.A) (tk : Takes X W) (hg : Gl X x) (hdb : (x == ("__debug__" : Str)) = false) : PE X (.Call (.Name x p) [] [] pos) (tE X.K T X.mg W F (.call f [])) := by
  obtain ⟨addr, fd, ps, hm, hk, Fk, hb⟩ := A.ex
  have h0 : PE X (.Call (.Name x p) [] [] pos) (fun σ H Q => spR X.K T X.mg (F f) [] H Q (WE W σ)) := by
    refine ⟨fun pins s σ H Q I h => ?_⟩
    refine wpAny_Call_Name_kw (ld_glob I hg hm ?_ hdb)
    exact PySem.W.callWith_K0 I.kIn hk (run_at (us := []) (ws := []) (vs := []) (zs := []) Fk hb hr tk I .nil .nil rfl rfl h)
  refine PE.ok h0 fun lk g env h σ H Q r q => ?_
  simp only [ev, evs, R.bind] at q
  exact r.at.ask (os := []) .nil .nil q
end
end Mi
/-! MiK: statements. -/
namespace Mi
open PySem PySem.Spec PyProof.Rows L2
variable {X : Cx} {K : PySem.W.Frag} {T : Addr → Prop} {mg : Str → Option Value} {W : WX} {F : Fns} {tp : Bool}

/-- the state behind statements -/
structure AtS (K : PySem.W.Frag) (T : Addr → Prop) (lk : List Nat) (g : Gh) (env : Mi.Env) (σ : L2.St) (H : Hp) (g1 : Gh) (env1 : Mi.Env) (h1 : Hx) (σ1 : L2.St) (H1 : Hp) : Prop where
  fr : Fram lk g env σ H g1 env1 σ1 H1
  rel : Rel K T g1 env1 h1 σ1 H1
/-- what goes back; H: the heap at the begin -/
def RetO (K : PySem.W.Frag) (H : Hp) (g : Gh) (env : Mi.Env) (σ : L2.St) (H' : Hp) (o : Out) (u : V) : Prop :=
  match o.v with
  | .dct kvs => o.fr = true ∧ ∃ p, u = .ref p ∧ H p = none ∧ g.O p = true ∧ p ∉ g.ρ ∧ CR K (fz g.O H') H' (.dct kvs) p
  | v => if (o.fr && isMutV v) = true then ∃ p, u = .ref p ∧ g.O p = true ∧ p ∉ g.ρ ∧ (H p = none ∨ ∃ i, ownAt env σ i p) ∧ CR K (fz g.O H') H' v p
    else VR K (fz g.O H') g.ρ v u
def AnsS (K : PySem.W.Frag) (T : Addr → Prop) (mg : Str → Option Value) (W : WX) (lk : List Nat) (g : Gh) (env : Mi.Env) (σ : L2.St) (H : Hp) (r : R Fl) (D : Ends) : Prop :=
  match r with
  | .no => False
  | .ok .next env' h' => ∀ g' σ' H', AtS K T lk g env σ H g' env' h' σ' H' → D.nx σ' H'
  | .ok .brk env' h' => ∀ g' σ' H', AtS K T lk g env σ H g' env' h' σ' H' → D.bk σ' H'
  | .ok .cont env' h' => ∀ g' σ' H', AtS K T lk g env σ H g' env' h' σ' H' → D.ct σ' H'
  | .ok (.ret o) env' h' => ∀ g' σ' H' u, AtS K T lk g env σ H g' env' h' σ' H' → RetO K H g' env' σ' H' o u → D.rt u H'
  | .ex c x env' h' => ∀ g' σ' H' cls d, AtS K T lk g env σ H g' env' h' σ' H' → XR K mg g' H' c x cls d → W cls d σ' H'
/-- where boxes may be made nothing is lent -/
def Top (tp : Bool) (g : Gh) : Prop := tp = true → ∀ a, g.A a = false
theorem Top.of {tp : Bool} {lk : List Nat} {g g1 : Gh} {env env1 : Mi.Env} {σ σ1 : L2.St} {H H1 : Hp} (t : Top tp g) (f : Fram lk g env σ H g1 env1 σ1 H1) : Top tp g1 := fun e a => by
  rw [f.al]
  exact t e a
def tS (K : PySem.W.Frag) (T : Addr → Prop) (mg : Str → Option Value) (W : WX) (F : Fns) (tp : Bool) (m : MS) : TS := fun D σ H =>
  ∃ lk g env h, Top tp g ∧ Rel K T g env h σ H ∧ AnsS K T mg W lk g env σ H (exS F tp lk m env h) D
def tSs (K : PySem.W.Frag) (T : Addr → Prop) (mg : Str → Option Value) (W : WX) (F : Fns) (tp : Bool) (ms : List MS) : TS := fun D σ H =>
  ∃ lk g env h, Top tp g ∧ Rel K T g env h σ H ∧ AnsS K T mg W lk g env σ H (exSs F tp lk ms env h) D

section
variable {lk : List Nat} {g g1 g2 : Gh} {env env1 env2 : Mi.Env} {h h1 h2 : Hx} {σ σ1 σ2 : L2.St} {H H1 H2 : Hp} {D : Ends}
theorem AtS.trans {lk' : List Nat} (a : AtS K T lk g env σ H g1 env1 h1 σ1 H1) (b : AtS K T lk' g1 env1 σ1 H1 g2 env2 h2 σ2 H2) (hl : ∀ i ∈ lk, i ∈ lk') : AtS K T lk g env σ H g2 env2 h2 σ2 H2 :=
  ⟨a.fr.trans (b.fr.sub hl), b.rel⟩
theorem Rel.ats (r : Rel K T g env h σ H) : AtS K T lk g env σ H g env h σ H := ⟨Fram.refl lk g env σ H, r⟩
theorem CE.ats {o : Out} {v : V} (c : CE K T lk g env σ H o g1 env1 h1 v H1) : AtS K T lk g env σ H g1 env1 h1 σ H1 := ⟨c.fr, c.rel⟩
theorem At.ats (c : At K T lk g env σ H g1 env1 h1 H1) : AtS K T lk g env σ H g1 env1 h1 σ H1 := ⟨c.fr, c.rel⟩
theorem AtS.frz (a : AtS K T lk g env σ H g1 env1 h1 σ1 H1) (ln : List Nat) : AtS K T lk g env σ H (g1.cut (lnB env1 σ1 ln)) (Mi.frz ln env1) h1 σ1 H1 :=
  ⟨a.fr.trans (Fram.frz a.rel ln), a.rel.frz ln⟩
theorem AnsS.pre (a : AtS K T lk g env σ H g1 env1 h1 σ1 H1) {lk' : List Nat} (hl : ∀ i ∈ lk, i ∈ lk') {r : R Fl} (q : AnsS K T mg W lk g env σ H r D) : AnsS K T mg W lk' g1 env1 σ1 H1 r D := by
  cases r with
  | no => exact q
  | ex c x env' h' => exact fun g' σ' H' cls d b z => q g' σ' H' cls d (a.trans b hl) z
  | ok f env' h' =>
    cases f with
    | next => exact fun g' σ' H' b => q g' σ' H' (a.trans b hl)
    | brk => exact fun g' σ' H' b => q g' σ' H' (a.trans b hl)
    | cont => exact fun g' σ' H' b => q g' σ' H' (a.trans b hl)
    | ret o =>
      refine fun g' σ' H' u b z => q g' σ' H' u (a.trans b hl) ?_
      unfold RetO at z ⊢
      split at z
      · obtain ⟨e, p, e1, e2, r⟩ := z
        exact ⟨e, p, e1, a.fr.there p e2, r⟩
      · split at z
        · rename_i hf
          rw [if_pos hf]
          obtain ⟨p, e1, e2, e3, e4, r⟩ := z
          exact ⟨p, e1, e2, e3, e4.imp (a.fr.there p) id, r⟩
        · rename_i hf
          rw [if_neg hf]
          exact z
theorem AnsS.toX {c : Str} {x : PD} (q : AnsS K T mg W lk g env σ H (.ex c x env1 h1) D) : AnsX K T mg W lk g env σ H c x env1 h1 := fun g' H' cls d f r _ z => q g' σ H' cls d ⟨f, r⟩ z
/-- an expression ahead -/
theorem seqS {m : MX} {body : Out → Mi.Env → Hx → R Fl} (r : Rel K T g env h σ H) (q : AnsS K T mg W lk g env σ H ((ev F lk m env h).bind body) D) {P : V → Hp → Prop}
    (k : ∀ o env1 h1 g1 v H1, CE K T lk g env σ H o g1 env1 h1 v H1 → AnsS K T mg W lk g env σ H (body o env1 h1) D → P v H1) : tE K T mg W F m σ H P := by
  refine ⟨lk, g, env, h, r, ?_⟩
  cases e : ev F lk m env h with
  | no => rw [e] at q; exact q
  | ex c x env' h' => rw [e] at q; exact q.toX
  | ok o env1 h1 =>
    rw [e] at q
    exact fun g1 v H1 c => k o env1 h1 g1 v H1 c q
theorem seqSA {ms : List MX} {body : List Out → Mi.Env → Hx → R Fl} (r : Rel K T g env h σ H) (q : AnsS K T mg W lk g env σ H ((evs F lk ms env h).bind body) D) {P : List V → Hp → Prop}
    (k : ∀ os env1 h1 g1 vs H1, os.length = ms.length → At K T lk g env σ H g1 env1 h1 H1 → VRs K (g1.vw env1 σ (lnsOf os) H1) g1.ρ (os.map Out.v) vs → AnsS K T mg W lk g env σ H (body os env1 h1) D → P vs H1) : tAs K T mg W F ms σ H P := by
  refine ⟨lk, g, env, h, r, ?_⟩
  cases e : evs F lk ms env h with
  | no => rw [e] at q; exact q
  | ex c x env' h' => rw [e] at q; exact q.toX
  | ok os env1 h1 =>
    rw [e] at q
    exact fun g1 vs H1 at1 v1 => k os env1 h1 g1 vs H1 (evs_len e) at1 v1 q
/-- a test ahead -/
theorem seqSC {m : MX} {A B : Mi.Env → Hx → R Fl} (r : Rel K T g env h σ H) (q : AnsS K T mg W lk g env σ H ((ev F lk m env h).bind fun o env h => match truth o.v with | some true => A env h | some false => B env h | none => .no) D) {P : Bool → Hp → Prop}
    (k : ∀ b env1 h1 g1 H1, At K T lk g env σ H g1 env1 h1 H1 → AnsS K T mg W lk g env σ H (if b = true then A env1 h1 else B env1 h1) D → P b H1) : tT K T mg W F m σ H P := by
  refine ⟨lk, g, env, h, r, ?_⟩
  cases e : ev F lk m env h with
  | no => rw [e] at q; exact q
  | ex c x env' h' => rw [e] at q; exact q.toX
  | ok o env1 h1 =>
    rw [e] at q
    simp only [R.bind] at q
    split at q
    · rename_i e2
      exact ⟨true, e2, fun g1 H1 a => k true env1 h1 g1 H1 a (by rw [if_pos rfl]; exact q)⟩
    · rename_i e2
      exact ⟨false, e2, fun g1 H1 a => k false env1 h1 g1 H1 a (by rw [if_neg Bool.false_ne_true]; exact q)⟩
    · exact q.elim
end
theorem PS.ok {s : Stmt} {t : TS} {m : MS} (h : PS X s t) (k : ∀ lk g env h σ H D, Top tp g → Rel X.K T g env h σ H → AnsS X.K T X.mg W lk g env σ H (exS F tp lk m env h) D → t D σ H) : PS X s (tS X.K T X.mg W F tp m) :=
  PS.imp h fun D σ H ⟨lk, g, env, hx, tq, r, q⟩ => k lk g env hx σ H D tq r q
theorem PSs.imp {e : List Stmt} {t t' : TS} (h : PSs X e t) (k : ∀ D σ H, t' D σ H → t D σ H) : PSs X e t' := ⟨fun pins s σ H D I q => h.run pins s σ H D I (k D σ H q)⟩
theorem PSs.ok {s : List Stmt} {t : TS} {m : List MS} (h : PSs X s t) (k : ∀ lk g env h σ H D, Top tp g → Rel X.K T g env h σ H → AnsS X.K T X.mg W lk g env σ H (exSs F tp lk m env h) D → t D σ H) : PSs X s (tSs X.K T X.mg W F tp m) :=
  PSs.imp h fun D σ H ⟨lk, g, env, hx, tq, r, q⟩ => k lk g env hx σ H D tq r q

section
variable {e : Expr} {m : MX} {pos : Pos} {st : Stmt} {rest : List Stmt} {s : MS} {ss : List MS}
theorem n_end : PSs X [] (tSs X.K T X.mg W F tp []) := by
  refine PSs.ok pss_nil fun lk g env h σ H D tq r q => ?_
  simp only [exSs] at q
  exact q g σ H r.ats
theorem n_seq (h1 : PS X st (tS X.K T X.mg W F tp s)) (h2 : PSs X rest (tSs X.K T X.mg W F tp ss)) : PSs X (st :: rest) (tSs X.K T X.mg W F tp (s :: ss)) := by
  refine PSs.ok (pss_cons h1 h2) fun lk g env h σ H D tq r q => ?_
  simp only [exSs] at q
  refine ⟨lk, g, env, h, tq, r, ?_⟩
  cases e1 : exS F tp lk s env h with
  | no => rw [e1] at q; exact q
  | ex c x env' h' => rw [e1] at q; exact q
  | ok f env1 h1 =>
    rw [e1] at q
    cases f with
    | next => exact fun g1 σ1 H1 a => ⟨lk, g1, env1, h1, tq.of a.fr, a.rel, AnsS.pre a (fun _ z => z) q⟩
    | brk => exact q
    | cont => exact q
    | ret o => exact q
theorem n_pass : PS X (.Pass pos) (tS X.K T X.mg W F tp .pass) := by
  refine PS.ok ps_pass fun lk g env h σ H D tq r q => ?_
  simp only [exS] at q
  exact q g σ H r.ats
theorem n_brk : PS X (.Break pos) (tS X.K T X.mg W F tp .brk) := by
  refine PS.ok ps_break fun lk g env h σ H D tq r q => ?_
  simp only [exS] at q
  exact q g σ H r.ats
theorem n_cont : PS X (.Continue pos) (tS X.K T X.mg W F tp .cont) := by
  refine PS.ok ps_continue fun lk g env h σ H D tq r q => ?_
  simp only [exS] at q
  exact q g σ H r.ats
theorem n_ex (he : PE X e (tE X.K T X.mg W F m)) (hs : swapsWith e none pos.line X.env = pure false) : PS X (.Expr e pos) (tS X.K T X.mg W F tp (.ex m)) := by
  refine PS.ok (ps_expr he hs) fun lk g env h σ H D tq r q => ?_
  simp only [exS] at q
  exact seqS r q fun o env1 h1 g1 v H1 c q1 => q1 g1 σ H1 c.ats
theorem n_if {c : Expr} {mc : MX} {a b : List Stmt} {ma mb : List MS} (hc : PT X c (tT X.K T X.mg W F mc)) (ha : PSs X a (tSs X.K T X.mg W F tp ma)) (hb : PSs X b (tSs X.K T X.mg W F tp mb)) : PS X (.If c a b pos) (tS X.K T X.mg W F tp (.ite mc ma mb)) := by
  refine PS.ok (ps_if hc ha hb) fun lk g env h σ H D tq r q => ?_
  simp only [exS] at q
  refine seqSC r q fun b env1 h1 g1 H1 a1 q1 => ?_
  cases b with
  | true =>
    rw [if_pos rfl] at q1 ⊢
    exact ⟨lk, g1, env1, h1, tq.of a1.fr, a1.rel, AnsS.pre a1.ats (fun _ z => z) q1⟩
  | false =>
    rw [if_neg Bool.false_ne_true] at q1 ⊢
    exact ⟨lk, g1, env1, h1, tq.of a1.fr, a1.rel, AnsS.pre a1.ats (fun _ z => z) q1⟩
end

/-! ### stores -/
section
variable {lk : List Nat} {g g1 g2 : Gh} {env env1 env2 : Mi.Env} {h h1 h2 : Hx} {σ σ1 σ2 : L2.St} {H H1 H2 : Hp} {D : Ends} {i : Nat} {s : Slot} {v : V}
def SlotR (K : PySem.W.Frag) (H : Hp) (g : Gh) (env : Mi.Env) (σ : L2.St) (H1 : Hp) (s : Slot) (v : V) : Prop :=
  if s.own = true then ∃ p, v = .ref p ∧ H p = none ∧ g.O p = true ∧ (∀ j, ¬ ownAt env σ j p) ∧ p ∉ g.ρ ∧ CR K (fz g.O H1) H1 s.v p ∧ ∀ kvs, s.v ≠ .dct kvs
  else VR K (fz g.O H1) g.ρ s.v v
theorem ownAt_set {j : Nat} {a : Addr} (q : ownAt (env.set i (some s)) (σ.set i (some v)) j a) : (j = i ∧ s.own = true ∧ v = .ref a) ∨ (j ≠ i ∧ ownAt env σ j a) := by
  obtain ⟨⟨w, e1⟩, e2⟩ := q
  by_cases z : j = i
  · subst z
    rw [List.getElem?_set_self' ] at e1 e2
    cases e3 : env[j]? with
    | none => rw [e3] at e1; cases e1
    | some o =>
      cases e4 : σ[j]? with
      | none => rw [e4] at e2; cases e2
      | some o' =>
        rw [e3] at e1
        rw [e4] at e2
        cases e1
        cases e2
        exact .inl ⟨rfl, rfl, rfl⟩
  · rw [List.getElem?_set_ne (Ne.symm z)] at e1 e2
    exact .inr ⟨z, ⟨w, e1⟩, e2⟩
theorem AtS.put (a : AtS K T lk g env σ H g1 env1 h1 σ1 H1) (r : Rel K T g env h σ H) (hi : i ∉ lk) (hs : SlotR K H g1 env1 σ1 H1 s v) : AtS K T lk g env σ H g1 (env1.set i (some s)) h1 (σ1.set i (some v)) H1 := by
  obtain ⟨sv, so⟩ := s
  have keep : ∀ j b, ownAt (env1.set i (some ⟨sv, so⟩)) (σ1.set i (some v)) j b → (so = true ∧ j = i ∧ v = .ref b ∧ H b = none ∧ g1.O b = true ∧ (∀ j, ¬ ownAt env1 σ1 j b) ∧ b ∉ g1.ρ) ∨ (j ≠ i ∧ ownAt env1 σ1 j b) := fun j b q => by
    rcases ownAt_set q with ⟨e1, e2, e3⟩ | q
    · have e2' : so = true := e2
      subst e2'
      unfold SlotR at hs
      rw [if_pos rfl] at hs
      obtain ⟨p, f1, f2, f3, f4, f5, _⟩ := hs
      rw [f1] at e3
      cases e3
      exact .inl ⟨rfl, e1, f1, f2, f3, f4, f5⟩
    · exact .inr q
  refine ⟨⟨fun b b1 b2 b3 => ?_, a.fr.keep, a.fr.pre, a.fr.al, fun j hj => ?_, by rw [List.length_set]; exact a.fr.size, a.fr.old, a.fr.there⟩, ⟨by rw [List.length_set, List.length_set]; exact a.rel.len, fun j w e => ?_, fun j w e => ?_, fun j j' b q q' => ?_, fun j b q => ?_, a.rel.box, a.rel.rlen, a.rel.rnd, a.rel.dis, a.rel.kind, a.rel.tab⟩⟩
  · obtain ⟨q1, q2, q3, q4⟩ := a.fr.rest b b1 b2 b3
    refine ⟨q1, q2, fun j q => ?_, q4⟩
    rcases keep j b q with ⟨_, _, _, z, _⟩ | ⟨_, q⟩
    · exact r.nn b b1 z
    · exact q3 j q
  · obtain ⟨q1, q2⟩ := a.fr.lock j hj
    have ne : j ≠ i := fun z => hi (z ▸ hj)
    refine ⟨by rw [List.getElem?_set_ne (Ne.symm ne)]; exact q1, fun b o z q e => ?_⟩
    obtain ⟨r1, r2⟩ := q2 b o z q e
    refine ⟨r1, r2.imp id fun w => ?_⟩
    obtain ⟨⟨x, e1⟩, e2⟩ := w
    exact ⟨⟨x, by rw [List.getElem?_set_ne (Ne.symm ne)]; exact e1⟩, by rw [List.getElem?_set_ne (Ne.symm ne)]; exact e2⟩
  · by_cases z : j = i
    · subst z
      have hlt : j < env1.length := by
        have := (List.getElem?_eq_some_iff.mp e).1
        rwa [List.length_set] at this
      rw [List.getElem?_set_self hlt] at e
      cases e
      unfold SlotR at hs
      rw [if_neg (by simp)] at hs
      exact ⟨v, by rw [List.getElem?_set_self (by rw [← a.rel.len]; exact hlt)], hs⟩
    · rw [List.getElem?_set_ne (Ne.symm z)] at e
      obtain ⟨u, e1, e2⟩ := a.rel.slot j w e
      exact ⟨u, by rw [List.getElem?_set_ne (Ne.symm z)]; exact e1, e2⟩
  · by_cases z : j = i
    · subst z
      have hlt : j < env1.length := by
        have := (List.getElem?_eq_some_iff.mp e).1
        rwa [List.length_set] at this
      rw [List.getElem?_set_self hlt] at e
      cases e
      unfold SlotR at hs
      rw [if_pos rfl] at hs
      obtain ⟨p, f1, f2, f3, f4, f5, f6, f7⟩ := hs
      exact ⟨p, by rw [List.getElem?_set_self (by rw [← a.rel.len]; exact hlt), f1], f3, f6, f7⟩
    · rw [List.getElem?_set_ne (Ne.symm z)] at e
      obtain ⟨b, e1, e2⟩ := a.rel.own j w e
      exact ⟨b, by rw [List.getElem?_set_ne (Ne.symm z)]; exact e1, e2⟩
  · rcases keep j b q with ⟨_, z1, _, _, _, f, _⟩ | ⟨_, q1⟩
    · rcases keep j' b q' with ⟨_, z2, _⟩ | ⟨_, q2⟩
      · rw [z1, z2]
      · exact absurd q2 (f j')
    · rcases keep j' b q' with ⟨_, _, _, _, _, f, _⟩ | ⟨_, q2⟩
      · exact absurd q1 (f j)
      · exact a.rel.sep j j' b q1 q2
  · rcases keep j b q with ⟨_, _, _, _, _, _, f⟩ | ⟨_, q1⟩
    · exact f
    · exact a.rel.nb j b q1
/-- an answer in a name -/
theorem CE.slot {o : Out} (c : CE K T lk g env σ H o g1 env1 h1 v H1) (hs : slotOf o = some s) {ln : List Nat} (hl : ∀ i ∈ o.ln, i ∈ ln) : SlotR K H (g1.cut (lnB env1 σ ln)) (Mi.frz ln env1) σ H1 s v := by
  obtain ⟨ov, fr, oln⟩ := o
  have q := c.out.2
  have up : Sm (g1.vw env1 σ oln H1) (fz (g1.cut (lnB env1 σ ln)).O H1) := by
    rw [cut_view]
    exact vw_le hl
  cases ov with
  | d x =>
    simp only [slotOf, Option.some.injEq] at hs
    subst hs
    unfold SlotR
    have e0 : (fr && isMutV (.d x)) = (fr && isMut x) := rfl
    dsimp only at q ⊢
    rw [e0] at q
    split at q
    · rename_i hf
      rw [if_pos hf]
      obtain ⟨p, e1, e2, e3, e4, e5, e6⟩ := q
      refine ⟨p, e1, e2, cut_O.mpr ⟨e3, ?_⟩, fun j w => e4 j (ownAt_frz.mp w).1, e5, CR.up up rfl e6, fun kvs z => by cases z⟩
      cases w : lnB env1 σ ln p with
      | false => rfl
      | true =>
        obtain ⟨j, _, w⟩ := lnB_iff.mp w
        exact absurd w (e4 j)
    · rename_i hf
      rw [if_neg hf]
      exact Dq.up up q
  | box b =>
    simp only [slotOf, Option.some.injEq] at hs
    subst hs
    unfold SlotR
    rw [if_neg (by simp)]
    rw [if_neg (by simp [isMutV])] at q
    exact q
  | kd kvs =>
    simp only [slotOf, Option.some.injEq] at hs
    subst hs
    unfold SlotR
    have e0 : (fr && isMutV (.kd kvs)) = fr := Bool.and_true fr
    dsimp only at q ⊢
    rw [e0] at q
    split at q
    · rename_i hf
      rw [if_pos hf]
      obtain ⟨p, e1, e2, e3, e4, e5, e6⟩ := q
      refine ⟨p, e1, e2, cut_O.mpr ⟨e3, ?_⟩, fun j w => e4 j (ownAt_frz.mp w).1, e5, CR.up up rfl e6, fun kvs z => by cases z⟩
      cases w : lnB env1 σ ln p with
      | false => rfl
      | true =>
        obtain ⟨j, _, w⟩ := lnB_iff.mp w
        exact absurd w (e4 j)
    · rename_i hf
      rw [if_neg hf]
      exact VR.up up q
  | _ => simp [slotOf] at hs
theorem hit_not {l lk : List Nat} (h : ¬ hit l lk = true) : ∀ i ∈ l, i ∉ lk := fun i hi q => h (List.any_eq_true.mpr ⟨i, hi, by simpa using q⟩)

/-! targets -/
def gNames : List Nat → TGs
  | [] => gNil
  | i :: r => gCons (gName i) (gNames r)
mutual
def gP (K : PySem.W.Frag) : Pat → TG
  | .var i => gName i
  | .tup is => gTup K is.length (gNames is)
  | .nst ps => gTup K ps.length (gPs K ps)
def gPs (K : PySem.W.Frag) : List Pat → TGs
  | [] => gNil
  | p :: ps => gCons (gP K p) (gPs K ps)
end
theorem bindAll_ok (r : Rel K T g env h σ H) : ∀ {is : List Nat} {ds : List PD} {vs : List V} {env1 env2 : Mi.Env} {σ1 : L2.St}, AtS K T lk g env σ H g1 env1 h1 σ1 H1 → (∀ i ∈ is, i ∉ lk) → DqAll (fz g1.O H1) vs ds → bindAll is ds env1 = some env2 → {Q : L2.St → Hp → Prop} →
    (∀ σ2, AtS K T lk g env σ H g1 env2 h1 σ2 H1 → Q σ2 H1) → gNames is vs σ1 H1 Q
  | [], ds, vs, env1, env2, σ1, a, hi, d, e, Q, k => by
    cases ds with
    | nil =>
      cases d
      simp only [bindAll, Option.some.injEq] at e
      subst e
      exact ⟨rfl, k σ1 a⟩
    | cons x xs => simp [bindAll] at e
  | i :: is, ds, vs, env1, env2, σ1, a, hi, d, e, Q, k => by
    cases ds with
    | nil => simp [bindAll] at e
    | cons x xs =>
      cases d with
      | cons d1 d2 =>
        simp only [bindAll] at e
        refine ⟨_, _, rfl, ?_⟩
        have a2 := a.put r (i := i) (s := ⟨.d x, false⟩) (hi i List.mem_cons_self) (by unfold SlotR; rw [if_neg (by simp)]; exact d1)
        exact bindAll_ok r a2 (fun j hj => hi j (List.mem_cons_of_mem _ hj)) d2 e k
mutual
theorem bindP_ok (r : Rel K T g env h σ H) : ∀ {p : Pat} {x : PD} {v : V} {env1 env2 : Mi.Env} {σ1 : L2.St}, AtS K T lk g env σ H g1 env1 h1 σ1 H1 → (∀ i ∈ p.all, i ∉ lk) → Dq (fz g1.O H1) v x → bindP p x env1 = some env2 → {Q : L2.St → Hp → Prop} →
    (∀ σ2, AtS K T lk g env σ H g1 env2 h1 σ2 H1 → Q σ2 H1) → gP K p v σ1 H1 Q
  | .var i, x, v, env1, env2, σ1, a, hi, d, e, Q, k => by
    simp only [bindP, Option.some.injEq] at e
    subst e
    exact k _ (a.put r (i := i) (s := ⟨.d x, false⟩) (hi i (by simp [Pat.all])) (by unfold SlotR; rw [if_neg (by simp)]; exact d))
  | .tup is, x, v, env1, env2, σ1, a, hi, d, e, Q, k => by
    cases x with
    | tuple xs =>
      simp only [bindP] at e
      split at e
      · rename_i l
        cases d with
        | tup e1 e2 =>
          exact ⟨_, _, rfl, SqT.of (fz_some.mp e1).2, by rw [DqAll.length e2, l], bindAll_ok r a (fun i hj => hi i (by simpa [Pat.all] using hj)) e2 e k⟩
      · cases e
    | _ => simp [bindP] at e
  | .nst ps, x, v, env1, env2, σ1, a, hi, d, e, Q, k => by
    cases x with
    | tuple xs =>
      simp only [bindP] at e
      split at e
      · rename_i l
        cases d with
        | tup e1 e2 =>
          exact ⟨_, _, rfl, SqT.of (fz_some.mp e1).2, by rw [DqAll.length e2, l], bindPs_ok r a (fun i hj => hi i (by simpa [Pat.all] using hj)) e2 e k⟩
      · cases e
    | _ => simp [bindP] at e
theorem bindPs_ok (r : Rel K T g env h σ H) : ∀ {ps : List Pat} {ds : List PD} {vs : List V} {env1 env2 : Mi.Env} {σ1 : L2.St}, AtS K T lk g env σ H g1 env1 h1 σ1 H1 → (∀ i ∈ Pat.alls ps, i ∉ lk) → DqAll (fz g1.O H1) vs ds → bindPs ps ds env1 = some env2 → {Q : L2.St → Hp → Prop} →
    (∀ σ2, AtS K T lk g env σ H g1 env2 h1 σ2 H1 → Q σ2 H1) → gPs K ps vs σ1 H1 Q
  | [], ds, vs, env1, env2, σ1, a, hi, d, e, Q, k => by
    cases ds with
    | nil =>
      cases d
      simp only [bindPs, Option.some.injEq] at e
      subst e
      exact ⟨rfl, k σ1 a⟩
    | cons x xs => simp [bindPs] at e
  | p :: ps, ds, vs, env1, env2, σ1, a, hi, d, e, Q, k => by
    cases ds with
    | nil => simp [bindPs] at e
    | cons x xs =>
      cases d with
      | cons d1 d2 =>
        simp only [bindPs] at e
        cases e1 : bindP p x env1 with
        | none => rw [e1] at e; cases e
        | some env' =>
          rw [e1] at e
          refine ⟨_, _, rfl, ?_⟩
          exact bindP_ok r a (fun j hj => hi j (by simp [Pat.alls, hj])) d1 e1 fun σ2 a2 => bindPs_ok r a2 (fun j hj => hi j (by simp [Pat.alls, hj])) d2 e k
end
end
section
variable {e ea eb : Expr} {m ma mb : MX} {pos p2 : Pos} {i j : Nat} {x y : Str}
theorem n_asg (hN : X.N.Nodup) (hi : X.N[i]? = some x) (hx : Loc X.env.scope x) (he : PE X e (tE X.K T X.mg W F m)) (hs : swapsWith e (some (.Name x p2)) pos.line X.env = pure false) (hf : X.fn x = true ∨ X.env.scope.names.lookup x = some .local) :
    PS X (.Assign [.Name x p2] e pos) (tS X.K T X.mg W F tp (.asg (.var i) m)) := by
  refine PS.ok (ps_set hN hi hx he hs hf) fun lk g env h σ H D tq r q => ?_
  simp only [exS] at q
  refine seqS r q fun o env1 h1 g1 v H1 c q1 => ?_
  unfold asgV at q1
  split at q1
  · exact q1.elim
  · rename_i hh
    dsimp only at q1
    split at q1
    · rename_i s es
      exact q1 _ _ _ ((c.ats.frz o.ln).put r (hit_not hh i (by simp [Pat.all])) (c.slot es fun _ z => z))
    · exact q1.elim
theorem n_asgT {tg : Expr} {is : List Nat} (hg : PG X tg (gP X.K (.tup is))) (he : PE X e (tE X.K T X.mg W F m)) (hs : swapsWithSole [tg] e pos.line X.env = pure false) (hw : swappedStores [tg] e X.env = pure none) (h1 : (assignEach [tg] X.env).map (·.2) = [assign tg X.env]) :
    PS X (.Assign [tg] e pos) (tS X.K T X.mg W F tp (.asg (.tup is) m)) := by
  refine PS.ok (ps_asg he hg hs hw h1) fun lk g env h σ H D tq r q => ?_
  simp only [exS] at q
  refine seqS r q fun o env1 h1 g1 v H1 c q1 => ?_
  unfold asgV at q1
  split at q1
  · exact q1.elim
  · rename_i hh
    dsimp only at q1
    split at q1
    · rename_i x ex
      split at q1
      · rename_i env2 e2
        have cut := c.look' r
        obtain ⟨g2, a2, v2⟩ := cut
        rw [ex] at v2
        refine bindP_ok r (a2.ats.frz o.ln) (hit_not hh) ?_ e2 fun σ2 a3 => q1 _ _ _ a3
        rw [cut_view]
        exact v2
      · exact q1.elim
    · exact q1.elim
theorem n_asgN {tg : Expr} {ps : List Pat} (hg : PG X tg (gP X.K (.nst ps))) (he : PE X e (tE X.K T X.mg W F m)) (hs : swapsWithSole [tg] e pos.line X.env = pure false) (hw : swappedStores [tg] e X.env = pure none) (h1 : (assignEach [tg] X.env).map (·.2) = [assign tg X.env]) :
    PS X (.Assign [tg] e pos) (tS X.K T X.mg W F tp (.asg (.nst ps) m)) := by
  refine PS.ok (ps_asg he hg hs hw h1) fun lk g env h σ H D tq r q => ?_
  simp only [exS] at q
  refine seqS r q fun o env1 h1 g1 v H1 c q1 => ?_
  unfold asgV at q1
  split at q1
  · exact q1.elim
  · rename_i hh
    dsimp only at q1
    split at q1
    · rename_i x ex
      split at q1
      · rename_i env2 e2
        have cut := c.look' r
        obtain ⟨g2, a2, v2⟩ := cut
        rw [ex] at v2
        refine bindP_ok r (a2.ats.frz o.ln) (hit_not hh) ?_ e2 fun σ2 a3 => q1 _ _ _ a3
        rw [cut_view]
        exact v2
      · exact q1.elim
    · exact q1.elim
end
end Mi
/-! MiL: more statements: two names at once, what goes back, own errors, stores at places. -/
namespace Mi
open PySem PySem.Spec PyProof.Rows L2
variable {X : Cx} {K : PySem.W.Frag} {T : Addr → Prop} {mg : Str → Option Value} {W : WX} {F : Fns} {tp : Bool}

section
variable {lk : List Nat} {g g1 g2 : Gh} {env env1 env2 : Mi.Env} {h h1 h2 : Hx} {σ σ1 σ2 : L2.St} {H H1 H2 : Hp} {D : Ends}
theorem CR.there {Wv : Hp} {x : Val} {a : Addr} (c : CR K Wv H x a) : H a ≠ none := fun z => by
  unfold CR at c
  split at c
  · obtain ⟨vs, e, _⟩ := c
    rw [z] at e
    cases e
  · obtain ⟨es, e, _⟩ := c
    rw [z] at e
    cases e
  · obtain ⟨L, e, _⟩ := c
    rw [z] at e
    cases e
  · exact c
/-- an answer behind a further evaluation -/
theorem CE.later {o : Out} {v : V} (c : CE K T lk g env σ H o g1 env1 h1 v H1) (r : Rel K T g env h σ H) (b : At K T (o.ln ++ lk) g1 env1 σ H1 g2 env2 h2 H2) : CE K T lk g env σ H o g2 env2 h2 v H2 := by
  refine ⟨c.fr.trans (b.fr.sub mem_app_r), b.rel, fun i a z => c.own i a (b.own i a z), c.out.1, ?_⟩
  have q := c.out.2
  have up : Sm (g1.vw env1 σ o.ln H1) (g2.vw env2 σ o.ln H2) := b.fr.view mem_app_l
  split at q
  · rename_i hf
    rw [if_pos hf]
    obtain ⟨p, e1, e2, e3, e4, e5, e6⟩ := q
    obtain ⟨q1, q2, q3, q4⟩ := b.fr.rest p e3 e4 e5
    exact ⟨p, e1, e2, q1, q3, q4, CR.up up q2 e6⟩
  · rename_i hf
    rw [if_neg hf]
    exact VR.grow q up b.fr.pre
theorem SlotR.there {s : Slot} {v : V} (h : SlotR K H1 g1 env1 σ1 H2 s v) (k : ∀ p, H1 p = none → H p = none) : SlotR K H g1 env1 σ1 H2 s v := by
  unfold SlotR at h ⊢
  split at h
  · rename_i hs
    rw [if_pos hs]
    obtain ⟨p, e1, e2, r⟩ := h
    exact ⟨p, e1, k p e2, r⟩
  · rename_i hs
    rw [if_neg hs]
    exact h
theorem SlotR.behind {s t : Slot} {v w : V} {i : Nat} (hs : SlotR K H g1 env1 σ1 H2 s v) (ht : SlotR K H1 g1 env1 σ1 H2 t w) (hv : s.own = true → ∀ p, v = .ref p → H1 p ≠ none) : SlotR K H1 g1 (env1.set i (some s)) (σ1.set i (some v)) H2 t w := by
  unfold SlotR at ht ⊢
  split at ht
  · rename_i hs'
    rw [if_pos hs']
    obtain ⟨p, e1, e2, e3, e4, r⟩ := ht
    refine ⟨p, e1, e2, e3, fun j q => ?_, r⟩
    rcases ownAt_set q with ⟨_, z1, z2⟩ | ⟨_, q⟩
    · exact hv z1 p z2 e2
    · exact e4 j q
  · rename_i hs'
    rw [if_neg hs']
    exact ht
/-- a further expression ahead -/
theorem seqS2 {m : MX} {body : Out → Mi.Env → Hx → R Fl} (a : At K T lk g env σ H g1 env1 h1 H1) {lk' : List Nat} (hl : ∀ i ∈ lk, i ∈ lk') (q : AnsS K T mg W lk g env σ H ((ev F lk' m env1 h1).bind body) D) {P : V → Hp → Prop}
    (k : ∀ o env2 h2 g2 v H2, CE K T lk' g1 env1 σ H1 o g2 env2 h2 v H2 → AnsS K T mg W lk g env σ H (body o env2 h2) D → P v H2) : tE K T mg W F m σ H1 P := by
  refine ⟨lk', g1, env1, h1, a.rel, ?_⟩
  cases e : ev F lk' m env1 h1 with
  | no => rw [e] at q; exact q
  | ex c x env' h' => rw [e] at q; exact AnsX.pre a hl q.toX
  | ok o env2 h2 =>
    rw [e] at q
    exact fun g2 v H2 c => k o env2 h2 g2 v H2 c q
theorem CE.at {o : Out} {v : V} (c : CE K T lk g env σ H o g1 env1 h1 v H1) : At K T lk g env σ H g1 env1 h1 H1 := ⟨c.fr, c.rel, c.own⟩
end
section
variable {e ea eb : Expr} {m ma mb : MX} {pos p2 : Pos} {i j : Nat} {x y : Str}
theorem n_par {px py pt : Pos} {kt k2 : Nat} {pt2 : Pos} (hc : X.calm = true) (hN : X.N.Nodup) (hi : X.N[i]? = some x) (hj : X.N[j]? = some y) (hij : i ≠ j) (hx : X.env.scope.names.lookup x = some .local) (hy : X.env.scope.names.lookup y = some .local)
    (ha : PE X ea (tE X.K T X.mg W F ma)) (hb : PE X eb (tE X.K T X.mg W F mb)) (st : starEach [ea, eb] X.env = (false, eval ea X.env) :: starEach [eb] X.env) (st2 : starEach [eb] X.env = (false, eval eb X.env) :: starEach [] X.env)
    (hw : swappedStores [.Tuple [.Name x px, .Name y py] kt pt] (.Tuple [ea, eb] k2 pt2) X.env = pure (some [x, y]))
    (hs : swapsWithSole [.Tuple [.Name x px, .Name y py] kt pt] (.Tuple [ea, eb] k2 pt2) pos.line X.env = pure false) :
    PS X (.Assign [.Tuple [.Name x px, .Name y py] kt pt] (.Tuple [ea, eb] k2 pt2) pos) (tS X.K T X.mg W F tp (.par i j ma mb)) := by
  refine PS.ok (ps_par hc hN hi hj hij hx hy (pa_cons ha (pa_cons hb pa_nil st2) st) hw hs) fun lk g env h σ H D tq r q => ?_
  simp only [exS] at q
  refine seqS r q fun o env1 h1 g1 v H1 c q1 => ?_
  refine seqS2 c.at mem_app_r q1 fun p env2 h2 g2 w H2 c2 q2 => ?_
  refine ⟨v, w, rfl, ?_⟩
  have cl := c.later r c2.at
  unfold parV at q2
  split at q2
  · exact q2.elim
  · rename_i hh
    split at q2
    · rename_i s t es et
      have hit2 := hit_not (l := [i, j]) (lk := lk) fun z => hh (.inr z)
      have s1 := cl.slot es (ln := o.ln ++ p.ln) fun i hi => List.mem_append_left _ hi
      have s2 := c2.slot et (ln := o.ln ++ p.ln) fun i hi => List.mem_append_right _ hi
      have a0 := cl.ats.frz (o.ln ++ p.ln)
      have a1 := a0.put r (hit2 i (by simp)) s1
      have s2' : SlotR X.K H _ _ _ H2 t w := (SlotR.behind (i := i) s1 s2 fun hs p' e => ?_).there c.fr.there
      · exact q2 _ _ _ (a1.put r (hit2 j (by simp)) s2')
      · have s0 := c.slot es (ln := o.ln) fun _ z => z
        unfold SlotR at s0
        rw [if_pos hs] at s0
        obtain ⟨p0, e1, _, _, _, _, e2, _⟩ := s0
        rw [e] at e1
        cases e1
        exact e2.there
    · exact q2.elim
theorem exS_ret {lk : List Nat} {env : Mi.Env} {h : Hx} (hm : ∀ i, m ≠ .var i) : exS F tp lk (.ret m) env h = (ev F lk m env h).bind fun o env h => .ok (.ret ⟨o.v, o.fr, []⟩) (Mi.frz o.ln env) h := by
  cases m with
  | var i => exact absurd rfl (hm i)
  | _ => simp only [exS]
theorem CE.ret {lk : List Nat} {g g1 : Gh} {env env1 : Mi.Env} {h1 : Hx} {σ : L2.St} {H H1 : Hp} {o : Out} {v : V} (c : CE K T lk g env σ H o g1 env1 h1 v H1) : RetO K H (g1.cut (lnB env1 σ o.ln)) (Mi.frz o.ln env1) σ H1 ⟨o.v, o.fr, []⟩ v := by
  obtain ⟨ov, fr, ln⟩ := o
  have q := c.out.2
  unfold RetO
  split
  · rename_i kvs e
    have e' : ov = .dct kvs := e
    exact absurd e' (c.out.1 kvs)
  · split at q
    · rename_i hf
      rw [if_pos hf]
      obtain ⟨p, e1, e2, e3, e4, e5, e6⟩ := q
      refine ⟨p, e1, cut_O.mpr ⟨e3, ?_⟩, e5, .inl e2, ?_⟩
      · cases w : lnB env1 σ ln p with
        | false => rfl
        | true =>
          obtain ⟨j, _, w⟩ := lnB_iff.mp w
          exact absurd w (e4 j)
      · rw [cut_view]
        exact e6
    · rename_i hf
      rw [if_neg hf]
      rw [cut_view]
      exact q
theorem n_ret (hm : ∀ i, m ≠ .var i) (he : PE X e (tE X.K T X.mg W F m)) : PS X (.Return (some e) pos) (tS X.K T X.mg W F tp (.ret m)) := by
  refine PS.ok (ps_ret he) fun lk g env h σ H D tq r q => ?_
  rw [exS_ret hm] at q
  exact seqS r q fun o env1 h1 g1 v H1 c q1 => q1 _ _ _ v (c.ats.frz o.ln) c.ret
theorem n_retV (hN : X.N[i]? = some x) (hv : Vis X.env.scope x) (hd : (x == ("__debug__" : Str)) = false) (hcd : (x == ("__classdict__" : Str)) = false) : PS X (.Return (some (.Name x p2)) pos) (tS X.K T X.mg W F tp (.ret (.var i))) := by
  refine PS.ok (ps_ret (pe_var hN hv hd hcd)) fun lk g env h σ H D tq r q => ?_
  simp only [exS] at q
  split at q
  · rename_i s es
    obtain ⟨sv, so⟩ := s
    cases so with
    | false =>
      obtain ⟨u, e1, e2⟩ := r.slot i sv es
      refine ⟨u, e1, q g σ H u r.ats ?_⟩
      unfold RetO
      split
      · rename_i kvs e
        have e' : sv = .dct kvs := e
        subst e'
        exact e2.elim
      · rw [if_neg (by simp)]
        exact e2
    | true =>
      obtain ⟨a, e1, e2, e3, e4⟩ := r.own i sv es
      have hO : ownAt env σ i a := ⟨⟨sv, es⟩, e1⟩
      refine ⟨.ref a, e1, q g σ H _ r.ats ?_⟩
      unfold RetO
      split
      · rename_i kvs e
        have e' : sv = .dct kvs := e
        exact absurd e' (e4 kvs)
      · cases sv with
        | d x =>
          cases x with
          | list xs =>
            rw [if_pos (by rfl)]
            exact ⟨a, rfl, e2, r.nb i a hO, .inr ⟨i, hO⟩, e3⟩
          | _ => exact e3.elim
        | dct kvs => exact absurd rfl (e4 kvs)
        | kd kvs =>
          rw [if_pos (by rfl)]
          exact ⟨a, rfl, e2, r.nb i a hO, .inr ⟨i, hO⟩, e3⟩
        | _ => exact e3.elim
  · exact q.elim
theorem n_retN : PS X (.Return none pos) (tS X.K T X.mg W F tp (.ret (.c .none))) := by
  refine PS.ok ps_retN fun lk g env h σ H D tq r q => ?_
  rw [exS_ret (fun i z => by cases z)] at q
  simp only [ev, R.bind, frz] at q
  refine q g σ H .non r.ats ?_
  unfold RetO
  simp only [Bool.false_and, if_neg Bool.false_ne_true]
  exact Dq.non

/-! ### own errors -/
/-- __init__ keeps its value -/
def spI (K : PySem.W.Frag) : Sp := fun vs H Q _ => ∃ a C v, vs = [.ref a, v] ∧ OexC K C ∧ PySem.W.findIn K (.ref C) "value" = some none ∧ H a = some (exo a C none) ∧ ∀ dx, H dx = none → dx ≠ a → Q .non (upd (upd H dx (exd dx [(Str.ofString "value", v)])) a (exo a C (some dx)))
/-- an own error class of the text -/
structure ExAt (X : Cx) (k : Nat) (x : Str) : Prop where
  ex : ∃ (C fI : Addr) (fd : FuncData) (ps : List Str), X.mg x = some (.ref C) ∧ OexC X.K C ∧ PySem.W.findIn X.K (.ref C) "value" = some none ∧ PySem.W.findIn X.K (.ref C) "__init__" = some (some (.ref fI)) ∧ PySem.W.typeIn X.K (.ref fI) = some (.type "function") ∧
    FnOk X.prog X.w X.K X.mg X.base (L2.CX X.prog X.w) k fI fd ps (spI X.K) ∧ Binds X.K fd ps []
theorem CX_no {H : Hp} {s : Shared} {outer : List PySem.Env} {e : Value} {s' : Shared} : ¬ L2.CX X.prog X.w outer H s (fun _ _ _ => False) e s' := fun ⟨_, _, _, _, _, _, _, _, _, _, _, _, z⟩ => z
theorem n_raise {k : Nat} {c : Str} {p rp : Pos} (hc : X.calm = true) (tk : Takes X W) (A : ExAt X k c) (hr : Room (k + 1) X.A) (hg : Gl X c) (he : PE X e (tE X.K T X.mg W F m)) (st : starEach [e] X.env = (false, eval e X.env) :: starEach [] X.env) (hdb : (c == ("__debug__" : Str)) = false)
    (hpl : (backTo pos (starEach [] X.env)).any (·.1) = false) : PS X (.Raise (some (.Call (.Name c p) [e] [] pos)) none rp) (tS X.K T X.mg W F tp (.raise c m)) := by
  obtain ⟨C, fI, fd, ps, hm, hO, hv, hi, ht, Fk, hb⟩ := A.ex
  have mk := pmk_oex (dvs := []) (ds := []) (p := p) (pos := pos) hO hi ht Fk hr hb .nil (fun _ _ _ _ _ _ _ z => (CX_no z).elim) hg hm (pa_cons he pa_nil st) hdb st hpl
  refine PS.ok (ps_raise hc tk mk) fun lk g env h σ H D tq r q => ?_
  simp only [exS] at q
  refine seqS r q fun o env1 h1 g1 v H1 ce q1 => ?_
  refine ⟨by simp, fun a ha => ?_⟩
  split at q1
  · rename_i x ex
    obtain ⟨g2, a2, v2⟩ := ce.look' r
    rw [ex] at v2
    refine ⟨a, C, v, by simp, hO, hv, upd_same, fun dx hd hne => ⟨rfl, dx, [(Str.ofString "value", v)], upd_same, ?_, ?_, ?_⟩⟩
    · rw [upd_ne hne, upd_same]
    · rw [upd_ne hne] at hd
      exact hd
    · rw [upd_ne hne] at hd
      have eH : upd (del (upd (upd (upd H1 a (exo a C none)) dx (exd dx [(Str.ofString "value", v)])) a (exo a C (some dx))) a) dx (.xd [(Str.ofString "value", v)]) = upd H1 dx (.xd [(Str.ofString "value", v)]) := by
        funext b
        by_cases z : b = dx
        · rw [z, upd_same, upd_same]
        · rw [upd_ne z, upd_ne z]
          by_cases w : b = a
          · rw [w, del_same, ha]
          · rw [del_ne w, upd_ne w, upd_ne z, upd_ne w]
      rw [eH]
      have a3 := a2.ats.frz o.ln
      have a4 : AtS X.K T lk g env σ H _ _ h1 σ (upd H1 dx (.xd [(Str.ofString "value", v)])) := ⟨a3.fr.trans (Fram.grow a3.rel lk hd), a3.rel.grow hd⟩
      refine q1 _ _ _ _ _ a4 ⟨hm, dx, v, rfl, upd_same, Dq.up ?_ v2⟩
      have := vw_grow (g := g2) (env := env1) (σ := σ) (ln := o.ln) (o := .xd [(Str.ofString "value", v)]) hd
      rwa [← cut_view, ← cut_view] at this
  · exact q1.elim
end
end Mi
/-! MiM: own lists and boxes are written. -/
namespace Mi
open PySem PySem.Spec PyProof.Rows L2
variable {X : Cx} {K : PySem.W.Frag} {T : Addr → Prop} {mg : Str → Option Value} {W : WX} {F : Fns} {tp : Bool}

section
variable {lk : List Nat} {g g1 g2 : Gh} {env env1 env2 : Mi.Env} {h h1 h2 : Hx} {σ σ1 σ2 : L2.St} {H H1 H2 : Hp} {D : Ends} {i : Nat} {p : Addr}
theorem nodup_inj {α : Type} {xs : List α} {i j : Nat} {x : α} (n : xs.Nodup) (e1 : xs[i]? = some x) (e2 : xs[j]? = some x) : i = j := by
  obtain ⟨l1, f1⟩ := List.getElem?_eq_some_iff.mp e1
  obtain ⟨l2, f2⟩ := List.getElem?_eq_some_iff.mp e2
  have pw := List.pairwise_iff_getElem.mp n
  rcases Nat.lt_trichotomy i j with h | h | h
  · exact absurd (f1.trans f2.symm) (pw i j l1 l2 h)
  · exact h
  · exact absurd (f2.trans f1.symm) (pw j i l2 l1 h)
theorem set_get {α : Type} {xs : List α} {j : Nat} {x y : α} (e : (xs.set i x)[j]? = some y) : (j = i ∧ y = x) ∨ (j ≠ i ∧ xs[j]? = some y) := by
  by_cases z : j = i
  · subst z
    have hlt : j < xs.length := by
      have := (List.getElem?_eq_some_iff.mp e).1
      rwa [List.length_set] at this
    rw [List.getElem?_set_self hlt] at e
    exact .inl ⟨rfl, (Option.some.inj e).symm⟩
  · rw [List.getElem?_set_ne (Ne.symm z)] at e
    exact .inr ⟨z, e⟩
theorem fz_upd {O : Addr → Bool} {Hh : Hp} {o : HO} (hp : O p = true) : fz O (upd Hh p o) = fz O Hh := by
  funext a
  unfold fz
  by_cases z : a = p
  · rw [z, hp, if_pos rfl, if_pos rfl]
  · rw [upd_ne z]
/-- what stands at an own name is written -/
theorem AtS.own_updG (a : AtS K T lk g env σ H g1 env1 h1 σ1 H1) (r : Rel K T g env h σ H) (hi : i ∉ lk) (ho : ownAt env1 σ1 i p) {wn : Val} {on : HO} (nd : ∀ kvs, wn ≠ .dct kvs) (hcel : celly on = true) (d : CR K (fz g1.O H1) (upd H1 p on) wn p) :
    AtS K T lk g env σ H g1 (env1.set i (some ⟨wn, true⟩)) h1 σ1 (upd H1 p on) := by
  have hO := a.rel.ownO ho
  obtain ⟨⟨w0, e0⟩, es⟩ := ho
  have hlt := (List.getElem?_eq_some_iff.mp e0).1
  have ev : fz g1.O (upd H1 p on) = fz g1.O H1 := fz_upd hO
  have own1 : ∀ j b, ownAt (env1.set i (some ⟨wn, true⟩)) σ1 j b → ownAt env1 σ1 j b := fun j b q => by
    obtain ⟨⟨w, e1⟩, e2⟩ := q
    rcases set_get e1 with ⟨z, _⟩ | ⟨_, e1⟩
    · subst z
      exact ⟨⟨w0, e0⟩, e2⟩
    · exact ⟨⟨w, e1⟩, e2⟩
  have own2 : ∀ j b, ownAt env1 σ1 j b → ownAt (env1.set i (some ⟨wn, true⟩)) σ1 j b := fun j b q => by
    obtain ⟨⟨w, e1⟩, e2⟩ := q
    by_cases z : j = i
    · subst z
      exact ⟨⟨_, List.getElem?_set_self hlt⟩, e2⟩
    · exact ⟨⟨w, by rw [List.getElem?_set_ne (Ne.symm z)]; exact e1⟩, e2⟩
  have hp' : ownAt env1 σ1 i p := ⟨⟨w0, e0⟩, es⟩
  have hlst : ∃ us, H1 p = some us ∧ celly us = true := a.rel.kind p (.inl hO)
  obtain ⟨us, hus, hcu⟩ := hlst
  refine ⟨⟨fun b b1 b2 b3 => ?_, fun b o z b1 b2 => ?_, a.fr.pre, a.fr.al, fun j hj => ?_, by rw [List.length_set]; exact a.fr.size, a.fr.old, fun b e => ?_⟩,
    ⟨by rw [List.length_set]; exact a.rel.len, fun j w e => ?_, fun j w e => ?_, fun j j' b q q' => a.rel.sep j j' b (own1 j b q) (own1 j' b q'), fun j b q => a.rel.nb j b (own1 j b q), fun j b e => ?_, a.rel.rlen, a.rel.rnd, a.rel.dis, fun b q => ?_, fun P hP => ?_⟩⟩
  · obtain ⟨q1, q2, q3, q4⟩ := a.fr.rest b b1 b2 b3
    refine ⟨q1, ?_, fun j q => q3 j (own1 j b q), q4⟩
    rw [upd_ne fun (z : b = p) => q3 i (by rw [z]; exact hp')]
    exact q2
  · obtain ⟨q1, q2⟩ := a.fr.keep b o z b1 b2
    refine ⟨q1, ?_⟩
    rw [upd_ne fun w => by rw [w, hO] at q1; cases q1]
    exact q2
  · obtain ⟨q1, q2⟩ := a.fr.lock j hj
    refine ⟨q1, fun b o z q e => ?_⟩
    obtain ⟨r1, r2⟩ := q2 b o z q e
    refine ⟨?_, r2.imp id (own2 j b)⟩
    rw [upd_ne fun w => ?_]
    · exact r1
    · rcases r2 with r2 | r2
      · rw [w, hO] at r2
        cases r2
      · have := a.rel.sep j i p (w ▸ r2) hp'
        exact hi (this ▸ hj)
  · by_cases z : b = p
    · rw [z, upd_same] at e
      cases e
    · rw [upd_ne z] at e
      exact a.fr.there b e
  · rcases set_get e with ⟨_, z⟩ | ⟨_, e⟩
    · cases z
    · obtain ⟨u, e1, e2⟩ := a.rel.slot j w e
      exact ⟨u, e1, by rw [ev]; exact e2⟩
  · rcases set_get e with ⟨z, y⟩ | ⟨z, e⟩
    · cases y
      subst z
      refine ⟨p, es, hO, by rw [ev]; exact d, nd⟩
    · obtain ⟨b, e1, e2, e3, e4⟩ := a.rel.own j w e
      refine ⟨b, e1, e2, ?_, e4⟩
      rw [ev]
      refine CR.up (Sm.refl _) (upd_ne fun y => ?_) e3
      have : ownAt env1 σ1 j p := ⟨⟨w, e⟩, y ▸ e1⟩
      exact z (a.rel.sep j i p this hp')
  · obtain ⟨b', e1, e2, e3⟩ := a.rel.box j b e
    refine ⟨b', e1, e2, ?_⟩
    rw [fz_upd (by simp [hO])]
    exact BR.up (Sm.refl _) (upd_ne fun y => a.rel.nb i p hp' (y ▸ List.mem_of_getElem? e1)) e3
  · by_cases z : b = p
    · exact ⟨_, by rw [z]; exact upd_same, hcel⟩
    · obtain ⟨o, e1, e2⟩ := a.rel.kind b q
      exact ⟨o, by rw [upd_ne z]; exact e1, e2⟩
  · obtain ⟨ps, e1, e2⟩ := a.rel.tab P hP
    refine ⟨ps, ?_, e2⟩
    rw [upd_ne fun z => by rw [z, hus] at e1; cases e1; cases hcu]
    exact e1
/-- the list at an own name is written -/
theorem AtS.own_upd (a : AtS K T lk g env σ H g1 env1 h1 σ1 H1) (r : Rel K T g env h σ H) (hi : i ∉ lk) (ho : ownAt env1 σ1 i p) {vs : List V} {ys : List PD} (d : DqAll (fz g1.O H1) vs ys) :
    AtS K T lk g env σ H g1 (env1.set i (some ⟨.d (.list ys), true⟩)) h1 σ1 (upd H1 p (.lst vs)) := a.own_updG r hi ho (fun _ z => by cases z) rfl ⟨vs, upd_same, d⟩
theorem own_upd_own (ho : ownAt env1 σ1 i p) {s : Slot} : ∀ j b, ownAt (env1.set i (some s)) σ1 j b → ownAt env1 σ1 j b := fun j b q => by
  obtain ⟨⟨w0, e0⟩, es⟩ := ho
  obtain ⟨⟨w, e1⟩, e2⟩ := q
  rcases set_get e1 with ⟨z, _⟩ | ⟨_, e1⟩
  · subst z
    exact ⟨⟨w0, e0⟩, e2⟩
  · exact ⟨⟨w, e1⟩, e2⟩
/-- a text's place in a box is written -/
theorem kv_put {Wv : Hp} {s : Str} {v : V} {x : PD} (d : Dq Wv v x) : ∀ {es : List (Key × V)} {kvs : List (Str × PD)}, KvR K Wv es kvs → KvR K Wv (es.map fun kv => if kv.1 = .inr s then (kv.1, v) else kv) (put s x kvs)
  | _, _, .nil => .nil
  | _, _, .cons (s := s') h t => by
    unfold put
    rw [List.map_cons, List.map_cons]
    by_cases z : s' = s
    · rw [if_pos (by simp [z]), if_pos z]
      exact .cons d (kv_put d t)
    · rw [if_neg (by simp [z]), if_neg z]
      exact .cons h (kv_put d t)
theorem kv_len {Wv : Hp} : ∀ {es : List (Key × V)} {kvs : List (Str × PD)}, KvR K Wv es kvs → es.length = kvs.length
  | _, _, .nil => rfl
  | _, _, .cons _ t => by rw [List.length_cons, List.length_cons, kv_len t]
theorem AtS.box_upd (a : AtS K T lk g env σ H g1 env1 h1 σ1 H1) {b : Nat} {kvs kvs' : List (Str × PD)} {es : List (Key × V)} (hb : h1[b]? = some (.dct kvs)) (hp : g1.ρ[b]? = some p) (d : KvR K (fz (fun c => g1.O c || g1.A c) H1) es kvs') :
    AtS K T lk g env σ H g1 env1 (h1.set b (.dct kvs')) σ1 (upd H1 p (.dK es)) := by
  obtain ⟨p', f1, hO, f3⟩ := a.rel.box b _ hb
  rw [hp] at f1
  cases f1
  obtain ⟨es0, f4, f5⟩ := f3
  have ev : fz g1.O (upd H1 p (.dK es)) = fz g1.O H1 := fz_upd hO
  have mem : p ∈ g1.ρ := List.mem_of_getElem? hp
  have hlt := (List.getElem?_eq_some_iff.mp hb).1
  refine ⟨⟨fun c b1 b2 b3 => ?_, fun c o z b1 b2 => ?_, a.fr.pre, a.fr.al, fun j hj => ?_, a.fr.size, a.fr.old, fun c e => ?_⟩,
    ⟨a.rel.len, fun j w e => ?_, fun j w e => ?_, a.rel.sep, a.rel.nb, fun j c e => ?_, by rw [List.length_set]; exact a.rel.rlen, a.rel.rnd, a.rel.dis, fun c q => ?_, fun P hP => ?_⟩⟩
  · obtain ⟨q1, q2, q3, q4⟩ := a.fr.rest c b1 b2 b3
    refine ⟨q1, ?_, q3, q4⟩
    rw [upd_ne fun (z : c = p) => q4 (by rw [z]; exact mem)]
    exact q2
  · obtain ⟨q1, q2⟩ := a.fr.keep c o z b1 b2
    refine ⟨q1, ?_⟩
    rw [upd_ne fun w => by rw [w, hO] at q1; cases q1]
    exact q2
  · obtain ⟨q1, q2⟩ := a.fr.lock j hj
    refine ⟨q1, fun c o z q e => ?_⟩
    obtain ⟨r1, r2⟩ := q2 c o z q e
    refine ⟨?_, r2⟩
    rw [upd_ne fun w => ?_]
    · exact r1
    · rcases r2 with r2 | r2
      · rw [w, hO] at r2
        cases r2
      · exact a.rel.nb j c r2 (w ▸ mem)
  · by_cases z : c = p
    · rw [z, upd_same] at e
      cases e
    · rw [upd_ne z] at e
      exact a.fr.there c e
  · obtain ⟨u, e1, e2⟩ := a.rel.slot j w e
    exact ⟨u, e1, by rw [ev]; exact e2⟩
  · obtain ⟨c, e1, e2, e3, e4⟩ := a.rel.own j w e
    refine ⟨c, e1, e2, ?_, e4⟩
    rw [ev]
    exact CR.up (Sm.refl _) (upd_ne fun y => a.rel.nb j c ⟨⟨w, e⟩, e1⟩ (y ▸ mem)) e3
  · have ev2 : fz (fun c => g1.O c || g1.A c) (upd H1 p (.dK es)) = fz (fun c => g1.O c || g1.A c) H1 := fz_upd (by simp [hO])
    rcases set_get e with ⟨z, y⟩ | ⟨z, e⟩
    · subst y z
      exact ⟨p, hp, hO, es, upd_same, by rw [ev2]; exact d⟩
    · obtain ⟨c', e1, e2, e3⟩ := a.rel.box j c e
      refine ⟨c', e1, e2, ?_⟩
      rw [ev2]
      refine BR.up (Sm.refl _) (upd_ne fun y => ?_) e3
      subst y
      exact z (nodup_inj a.rel.rnd e1 hp)
  · by_cases z : c = p
    · exact ⟨_, by rw [z]; exact upd_same, rfl⟩
    · obtain ⟨o, e1, e2⟩ := a.rel.kind c q
      exact ⟨o, by rw [upd_ne z]; exact e1, e2⟩
  · obtain ⟨ps, e1, e2⟩ := a.rel.tab P hP
    refine ⟨ps, ?_, e2⟩
    rw [upd_ne fun z => by rw [z, f4] at e1; cases e1]
    exact e1
end
end Mi
/-! MiN: methods of own lists; stores at places. -/
namespace Mi
open PySem PySem.Spec PyProof.Rows L2
variable {X : Cx} {K : PySem.W.Frag} {T : Addr → Prop} {mg : Str → Option Value} {W : WX} {F : Fns} {tp : Bool}

/-! ### methods -/
def mmS : Mm → Str
  | .append => "append"
  | .extend => "extend"
  | .pop => "pop"
def mmI : Mm → String
  | .append => "list.append"
  | .extend => "list.extend"
  | .pop => "list.pop"
def rMm : Mm → V → List V → Hp → VK → Prop
  | .append => rAppend
  | .extend => rExtend
  | .pop => fun x vs H Q => rPop x vs H Q ∨ rPopAt x vs H Q
theorem mt_mm (m : Mm) : MtR X (mmI m) (rMm m) := by
  cases m with
  | append => exact mt_append
  | extend => exact mt_extend
  | pop =>
    intro pins s σ H x xs v us Q I rx rs q
    rcases q with q | q
    · exact mt_pop pins s σ H x xs v us Q I rx rs q
    · exact mt_popAt pins s σ H x xs v us Q I rx rs q
theorem sl_mm (m : Mm) : _root_.PySem.Slot "list" (mmS m) (mmI m) := by
  cases m with
  | append => exact PySem.F.slot_list_append
  | extend => exact PySem.F.slot_list_extend
  | pop => exact PySem.F.slot_list_pop
theorem ty_mm (m : Mm) : typeOf (.builtin (mmI m)) = pure (.type "method_descriptor") := by
  cases m with
  | append => exact PySem.F.type_list_append
  | extend => exact PySem.F.type_list_extend
  | pop => exact PySem.F.type_list_pop
theorem DqAll.nil_inv {Wv : Hp} {vs : List V} (h : DqAll Wv vs []) : vs = [] := by
  cases h
  rfl
theorem DqAll.one_inv {Wv : Hp} {vs : List V} {x : PD} (h : DqAll Wv vs [x]) : ∃ v, vs = [v] ∧ Dq Wv v x := by
  cases h with
  | cons a t =>
    cases t
    exact ⟨_, rfl, a⟩
theorem DqAll.dropLast {Wv : Hp} : ∀ {vs : List V} {ds : List PD}, DqAll Wv vs ds → DqAll Wv vs.dropLast ds.dropLast
  | _, _, .nil => .nil
  | _, _, .cons _ .nil => .nil
  | _, _, .cons a (.cons b t) => .cons a (DqAll.dropLast (.cons b t))
theorem getLast_get {α : Type} : ∀ {xs : List α} {x : α}, xs.getLast? = some x → xs[xs.length - 1]? = some x
  | xs, x, e => by rwa [List.getLast?_eq_getElem?] at e
theorem mut_ok {m : Mm} {Wv Hh : Hp} {p : Addr} {vs us : List V} {xs ys ds : List PD} {x : PD} {Q : VK} (sm : Sm Wv Hh) (hp : Hh p = some (.lst vs)) (d : DqAll Wv vs xs) (da : DqAll Wv us ds) (e : mutD m xs ds = some (ys, x))
    (k : ∀ vs' v, DqAll Wv vs' ys → Dq Wv v x → Q v (upd Hh p (.lst vs'))) : rMm m (.ref p) us Hh Q := by
  have hl := DqAll.length d
  unfold mutD at e
  split at e
  · rename_i y
    split at e
    · rename_i hlt
      obtain ⟨e1, e2⟩ := Prod.mk.inj (Option.some.inj e)
      subst e1 e2
      obtain ⟨v, rfl, dv⟩ := da.one_inv
      refine ⟨p, vs, v, rfl, rfl, hp, ?_, k _ _ (d.app (.cons dv .nil)) .non⟩
      rw [hl, ← lim_eq]
      exact hlt
    · cases e
  · rename_i zs
    split at e
    · rename_i hlt
      obtain ⟨e1, e2⟩ := Prod.mk.inj (Option.some.inj e)
      subst e1 e2
      obtain ⟨v, rfl, dv⟩ := da.one_inv
      cases dv with
      | @lst b ws _ hb db =>
        refine ⟨p, b, vs, ws, rfl, rfl, hp, sm _ _ rfl hb, ?_, k _ _ (d.app db) .non⟩
        rw [hl, DqAll.length db, ← lim_eq]
        omega
    · cases e
  · have hn := da.nil_inv
    subst hn
    split at e
    · rename_i y hy
      obtain ⟨e1, e2⟩ := Prod.mk.inj (Option.some.inj e)
      subst e1 e2
      obtain ⟨v, ev, dv⟩ := DqAll.get d (getLast_get hy)
      exact .inl ⟨p, vs, v, rfl, rfl, hp, by rw [hl]; exact ev, k _ _ d.dropLast dv⟩
    · cases e
  · rename_i i
    obtain ⟨v0, rfl, dv0⟩ := da.one_inv
    cases dv0
    split at e
    · rename_i hr
      split at e
      · rename_i j hj
        split at e
        · rename_i y hy
          obtain ⟨e1, e2⟩ := Prod.mk.inj (Option.some.inj e)
          subst e1 e2
          obtain ⟨v, ev, dv⟩ := DqAll.get d hy
          obtain ⟨h1, _⟩ := ixN_seq hj
          have hr' : -(2 ^ 62) ≤ i ∧ i < 2 ^ 62 := of_decide_eq_true hr
          exact .inr ⟨p, vs, i, j, v, rfl, rfl, hp, by omega, by omega, by rw [hl]; exact h1, ev, k _ _ (d.erase j) dv⟩
        · cases e
      · cases e
    · cases e
  · cases e
theorem ownL_get {env : Mi.Env} {i : Nat} (h : ownL env i = true) : ∃ xs, env[i]? = some (some ⟨.d (.list xs), true⟩) := by
  unfold ownL at h
  split at h
  · exact ⟨_, by assumption⟩
  · cases h
theorem bound_get {lk : List Nat} {g : Gh} {env : Mi.Env} {h : Hx} {σ : L2.St} {H : Hp} {i : Nat} (r : Rel K T g env h σ H) (hb : bound env i = true) : ∃ v, σ[i]? = some (some v) := by
  unfold bound at hb
  split at hb
  · rename_i s e
    obtain ⟨sv, so⟩ := s
    cases so with
    | false =>
      obtain ⟨u, e1, _⟩ := r.slot i sv e
      exact ⟨u, e1⟩
    | true =>
      obtain ⟨a, e1, _⟩ := r.own i sv e
      exact ⟨_, e1⟩
  · cases hb
theorem rd_mm {m : Mm} {i : Nat} {ms : List MX} {lk : List Nat} {g : Gh} {env : Mi.Env} {h : Hx} {σ : L2.St} {H : Hp} {Q : VK} (r : Rel K T g env h σ H) (q : AnsE K T mg W lk g env σ H (ev F lk (.mm m i ms) env h) Q) :
    ∃ v, σ[i]? = some (some v) ∧ tyV K "list" v H ∧ tAs K T mg W F ms σ H fun vs H1 => rMm m v vs H1 Q := by
  simp only [ev] at q
  split at q
  · rename_i hown
    obtain ⟨xs0, e0⟩ := ownL_get hown
    obtain ⟨a, e1, e2, ⟨vs0, e3, _⟩, _⟩ := r.own i _ e0
    refine ⟨.ref a, e1, .inl ⟨rfl, vs0, SqL.of e3⟩, seqA' r q fun os env1 h1 g1 vs H1 l at1 v1 q1 => ?_⟩
    split at q1
    · exact q1.elim
    · rename_i hlk
      have hi : i ∉ lk := by simpa using hlk
      unfold mmV at q1
      dsimp only at q1
      split at q1
      · rename_i xs ds es ed
        split at q1
        · rename_i ys x em
          have a2 := at1.frz (lnsOf os)
          obtain ⟨b, f1, f2, ⟨vs1, f3, f4⟩, _⟩ := a2.rel.own i _ es
          rw [e1] at f1
          cases f1
          have d := v1.data ed
          rw [← cut_view] at d
          have ho : ownAt (Mi.frz (lnsOf os) env1) σ i a := ⟨⟨_, es⟩, e1⟩
          refine mut_ok fz_sm f3 f4 d em fun vs' v dv dx => ?_
          have a3 := a2.ats.own_upd r hi ho dv
          refine q1 _ v _ ⟨a3.fr, a3.rel, fun j c w => a2.own j c (own_upd_own ho j c w), ⟨fun kvs z => (by cases z), ?_⟩⟩
          rw [if_neg (by simp)]
          show Dq (Gh.vw _ _ σ [] _) v x
          rw [vw_nil, fz_upd f2]
          exact dx
        · exact q1.elim
      · exact q1.elim
  · exact q.elim
section
variable {m : Mm} {i : Nat} {x : Str} {e : Expr} {es : List Expr} {ms : List MX} {np apos cpos : Pos}
theorem n_mm (hN : X.N[i]? = some x) (hv : Vis X.env.scope x) (hd : (x == ("__debug__" : Str)) = false) (hcd : (x == ("__classdict__" : Str)) = false) (ha : PA X (e :: es) (tAs X.K T X.mg W F ms))
    (hbase : attributeBase (.Name x np) (mmS m) X.env (eval (.Name x np) X.env) = eval (.Name x np) X.env)
    (hfew : ((backTo cpos (starEach (e :: es) X.env)).all (fun x => !x.1) && (backToKw cpos (keywordEach [] X.env)).all (fun x => x.1.isSome) && decide ((e :: es).length + ([] : List Keyword).length + (if ([] : List Keyword).isEmpty then 0 else 1) < 30)) = true)
    (hline : (apos.endLine == cpos.line) = true) (hs : starEach (e :: es) X.env = (false, eval e X.env) :: starEach es X.env) (hplain : (backTo cpos (starEach es X.env)).any (·.1) = false) :
    PE X (.Call (.Attribute (.Name x np) (mmS m) apos) (e :: es) [] cpos) (tE X.K T X.mg W F (.mm m i ms)) :=
  PE.ok (pe_bm PySem.F.plainAttrs_list (sl_mm m) (ty_mm m) (mt_mm m) (pe_var hN hv hd hcd) ha hbase hfew hline hs hplain) fun lk g env h σ H Q r q => rd_mm r q
theorem n_mm0 (hN : X.N[i]? = some x) (hv : Vis X.env.scope x) (hd : (x == ("__debug__" : Str)) = false) (hcd : (x == ("__classdict__" : Str)) = false)
    (hbase : attributeBase (.Name x np) (mmS m) X.env (eval (.Name x np) X.env) = eval (.Name x np) X.env) (hline : (apos.endLine == cpos.line) = true) :
    PE X (.Call (.Attribute (.Name x np) (mmS m) apos) [] [] cpos) (tE X.K T X.mg W F (.mm m i [])) := by
  refine PE.ok (pe_bm0 PySem.F.plainAttrs_list (sl_mm m) (ty_mm m) (mt_mm m) (pe_var hN hv hd hcd) hbase hline) fun lk g env h σ H Q r q => ?_
  obtain ⟨v, e1, e2, lk', g', env', h', r', q'⟩ := rd_mm r q
  simp only [evs] at q'
  exact ⟨v, e1, e2, q' g' [] H r'.at .nil⟩
end

/-! ### stores at places -/
def rSetV : V → V → V → Hp → (Hp → Prop) → Prop := fun o i v H Q => rSetL o i v H Q ∨ rSetD o i v H Q
theorem set_V (hu : X.A.units + 1 < cLine) : PSet X rSetV := by
  intro pins s σ H o i v ov iv u Q I ro ri rv h
  rcases h with h | h
  · exact set_list pins s σ H o i v ov iv u Q I ro ri rv h
  · exact set_dict hu pins s σ H o i v ov iv u Q I ro ri rv h
theorem no_tupA {g : Gh} {env : Mi.Env} {h : Hx} {σ : L2.St} {H : Hp} (r : Rel K T g env h σ H) {ln : List Nat} : ∀ a ys, g.vw env σ ln H a = some (.tup ys) → fz (fun c => g.O c || g.A c) H a = some (.tup ys) := fun a ys e => by
  have e2 := (vw_some.mp e).2
  refine fz_some.mpr ⟨?_, e2⟩
  cases q : (g.O a || g.A a) with
  | false => rfl
  | true =>
    obtain ⟨u, e1, z⟩ := r.kind a (by simpa using q)
    rw [e2] at e1
    cases e1
    simp [celly] at z
/-- a place -/
def KeyR (k : Val) (kv : V) : Prop := (∀ n, k = .d (.int n) → kv = .int n) ∧ ∀ s, k = .d (.str s) → kv = .str s
theorem VR.key {Wv : Hp} {ρ : List Addr} {k : Val} {kv : V} (h : VR K Wv ρ k kv) : KeyR k kv := by
  refine ⟨fun n e => ?_, fun s e => ?_⟩
  · subst e
    cases h
    rfl
  · subst e
    cases h
    rfl
/-- what is at hand stores the value -/
theorem setIx_ok {lk : List Nat} {g g1 : Gh} {env env1 : Mi.Env} {h h1 : Hx} {σ : L2.St} {H H1 : Hp} {D : Ends} {i : Nat} {o : Out} {k : Val} {ov kv v : V} (r : Rel K T g env h σ H) (a : AtS K T lk g env σ H g1 env1 h1 σ H1) (hi : i ∉ lk) (eo : σ[i]? = some (some ov))
    (dk : KeyR k kv) (dv : VR K (g1.vw env1 σ o.ln H1) g1.ρ o.v v) (q : AnsS K T mg W lk g env σ H (setIxV i k o env1 h1) D) : rSetV ov kv v H1 fun H2 => D.nx σ H2 := by
  unfold setIxV at q
  dsimp only at q
  have a2 := a.frz o.ln
  split at q
  · rename_i bi own s x es ex
    split at q
    · rename_i kvs hb
      split at q
      · rename_i hc
        simp only [Bool.and_eq_true, decide_eq_true_eq] at hc
        obtain ⟨⟨hx, hsome⟩, hlen⟩ := hc
        have dk0 := dk.2 _ rfl
        subst dk0
        obtain ⟨p, f1, f2, es1, f3, f4⟩ := a2.rel.box bi _ hb
        have eov : ov = .ref p := by
          cases own with
          | false =>
            obtain ⟨u, e1, p', e2, e3⟩ := a2.rel.slot i _ es
            rw [eo] at e1
            rw [f1] at e2
            cases e1
            cases e2
            exact e3
          | true =>
            obtain ⟨_, _, _, z, _⟩ := a2.rel.own i _ es
            exact z.elim
        rw [ex] at dv
        have dx : Dq _ v x := Dq.noL (no_tupA a2.rel (ln := [])) (Dq.noL (no_tup a.rel) dv hx |> fun z => Dq.up (by rw [vw_nil]; exact fun c u _ w => by rw [fz_some] at w ⊢; exact ⟨cut_O_false.mpr (.inl w.1), w.2⟩) z) hx
        obtain ⟨z0, hz0⟩ := Option.isSome_iff_exists.mp hsome
        obtain ⟨v0, hv0, _⟩ := kv_look f4 hz0
        have hany : (es1.any fun kv => decide (kv.1 = (Sum.inr s : Key))) = true := by rw [valV_any, hv0]; rfl
        refine .inr ⟨p, _, eov, DPut.k (k := .inr s) f3 (by rw [kv_len f4, sizeLine_eq]; omega), ?_⟩
        unfold putK
        rw [if_pos hany]
        exact q _ _ _ (a2.box_upd hb f1 (kv_put dx f4))
      · exact q.elim
    · exact q.elim
  · rename_i xs n x es ex
    have dk0 := dk.1 _ rfl
    subst dk0
    split at q
    · rename_i j hj
      obtain ⟨b, f1, f2, ⟨vs1, f3, f4⟩, _⟩ := a2.rel.own i _ es
      rw [eo] at f1
      cases f1
      rw [ex] at dv
      have dx : Dq (fz (g1.cut (lnB env1 σ o.ln)).O H1) v x := by
        rw [cut_view]
        exact dv
      exact .inl ⟨b, vs1, n, j, rfl, rfl, f3, by rw [DqAll.length f4]; exact hj, q _ _ _ (a2.own_upd r hi ⟨⟨_, es⟩, eo⟩ (f4.set dx j))⟩
    · exact q.elim
  · exact q.elim
section
variable {e k : Expr} {m mk : MX} {pos tpos np : Pos} {i : Nat} {x : Str}
theorem n_setIx (hu : X.A.units + 1 < cLine) (hN : X.N[i]? = some x) (hv : Vis X.env.scope x) (hd : (x == ("__debug__" : Str)) = false) (hcd : (x == ("__classdict__" : Str)) = false) (he : PE X e (tE X.K T X.mg W F m)) (hk : PE X k (tE X.K T X.mg W F mk))
    (ha : ∀ v, assign (.Subscript (.Name x np) k tpos) X.env v = (do
      let ov ← holding [v] (eval (.Name x np) X.env)
      let iv ← holding [v, ov] (eval k X.env)
      standAt tpos
      holding [v, ov, iv] (setItem ov iv v)
      release [v, ov, iv] []))
    (hs : swapsWithSole [.Subscript (.Name x np) k tpos] e pos.line X.env = pure false) (hw : swappedStores [.Subscript (.Name x np) k tpos] e X.env = pure none) (h1 : (assignEach [.Subscript (.Name x np) k tpos] X.env).map (·.2) = [assign (.Subscript (.Name x np) k tpos) X.env]) :
    PS X (.Assign [.Subscript (.Name x np) k tpos] e pos) (tS X.K T X.mg W F tp (.setIx i mk m)) := by
  refine PS.ok (ps_asg he (pg_sub (pe_var hN hv hd hcd) hk (set_V hu) ha) hs hw h1) fun lk g env h σ H D tq r q => ?_
  simp only [exS] at q
  refine seqS r q fun o env1 h1 g1 v H1 c q1 => ?_
  split at q1
  · rename_i hb
    obtain ⟨ov, eo⟩ := bound_get (lk := lk) c.rel hb
    refine ⟨ov, eo, ?_⟩
    obtain ⟨g1', at1, v1⟩ := c.look' r
    refine seqS2 at1 (lk' := o.ln ++ lk) mem_app_r q1 fun p env2 h2 g2 w H2 c2 q2 => ?_
    split at q2
    · exact q2.elim
    · rename_i hlk
      have hi : i ∉ lk := by simpa using hlk
      obtain ⟨g2', at2, v2⟩ := c2.look' at1.rel
      exact setIx_ok r (at1.trans at2 mem_app_r).ats hi eo v2.key (v1.grow (at2.fr.view mem_app_l) at2.fr.pre) q2
  · exact q1.elim
theorem n_augV {op : Bop} {ho : Operator} (hop : (op = .add ∧ ho = .Add) ∨ (op = .sub ∧ ho = .Sub)) (hNd : X.N.Nodup) (hN : X.N[i]? = some x) (hx : Loc X.env.scope x) (hf : X.fn x = true ∨ X.env.scope.names.lookup x = some .local) (he : PE X e (tE X.K T X.mg W F m)) :
    PS X (.AugAssign (.Name x np) ho e pos) (tS X.K T X.mg W F tp (.augV i op m)) := by
  have hip : ∃ ti : TIp, PIp X ho ti ∧ ∀ a b z H Q, augD op (.int a) (.int b) = some z → (∃ c, z = .int c ∧ Q (.int c) H) → ti (.int a) (.int b) H Q := by
    rcases hop with ⟨rfl, rfl⟩ | ⟨rfl, rfl⟩
    · refine ⟨_, ip_add, fun a b z H Q e q => ?_⟩
      obtain ⟨c, rfl, q⟩ := q
      simp only [augD, Option.some.injEq, PyData.int.injEq] at e
      subst e
      exact ⟨a, b, rfl, rfl, q⟩
    · refine ⟨_, ip_sub, fun a b z H Q e q => ?_⟩
      obtain ⟨c, rfl, q⟩ := q
      simp only [augD, Option.some.injEq, PyData.int.injEq] at e
      subst e
      exact ⟨a, b, rfl, rfl, q⟩
  obtain ⟨ti, hi1, hi2⟩ := hip
  refine PS.ok (ps_aug hNd hN hx he hi1 hf) fun lk g env h σ H D tq r q => ?_
  simp only [exS] at q
  split at q
  · rename_i a own es
    have key : ∃ v, σ[i]? = some (some v) ∧ ∀ n, a = .int n → v = .int n := by
      cases own with
      | false =>
        obtain ⟨u, e1, e2⟩ := r.slot i _ es
        refine ⟨u, e1, fun n z => ?_⟩
        subst z
        cases e2
        rfl
      | true =>
        obtain ⟨b, e1, _, e3, _⟩ := r.own i _ es
        refine ⟨_, e1, fun n z => ?_⟩
        subst z
        exact e3.elim
    obtain ⟨v, e1, e2⟩ := key
    refine ⟨v, e1, seqS r q fun o env1 h1 g1 w H1 c q1 => ?_⟩
    split at q1
    · rename_i b eb
      obtain ⟨g2, a2, v2⟩ := c.look' r
      rw [eb] at v2
      split at q1
      · rename_i z ez
        split at q1
        · exact q1.elim
        · rename_i hlk
          have hi : i ∉ lk := by simpa using hlk
          have form : ∃ n n' n'', a = .int n ∧ b = .int n' ∧ z = .int n'' := by
            cases op <;> cases a <;> cases b <;> simp [augD] at ez
            · exact ⟨_, _, _, rfl, rfl, ez.symm⟩
            · exact ⟨_, _, _, rfl, rfl, ez.symm⟩
          obtain ⟨n, n', n'', rfl, rfl, rfl⟩ := form
          obtain rfl := e2 _ rfl
          cases v2
          exact hi2 _ _ _ _ _ ez ⟨n'', rfl, q1 _ _ _ (a2.ats.put r hi (s := ⟨.d (.int n''), false⟩) (v := .int n'') (by unfold SlotR; rw [if_neg (by simp)]; exact .int n''))⟩
      · exact q1.elim
    · exact q1.elim
  · exact q.elim
/-- what stands at a place, by values -/
def rGetV : V → V → Hp → VK → Prop := fun o i H Q => (∃ p xs k v, o = .ref p ∧ i = .int k ∧ H p = some (.lst xs) ∧ atI xs k = some v ∧ Q v H) ∨ ∃ a v, o = .ref a ∧ DGet H a i (some v) ∧ Q v H
theorem get_V (hu : X.A.units + 1 < cLine) : PGet X rGetV := by
  intro pins s σ H o i ov iv Q I ro ri h
  rcases h with ⟨p, xs, k, z, rfl, rfl, hp, he, q⟩ | ⟨a, v, rfl, g, q⟩
  · cases ro
    obtain ⟨t, rfl⟩ := ri
    obtain ⟨its, r, pl, hz⟩ := I.list (SqL.of hp)
    obtain ⟨j, h1, h2, h3, h4, h5⟩ := atI_get he
    obtain ⟨w, ew, rw'⟩ := r.get h2
    have hl := r.length
    have hn := line63
    have fin : EP X pins σ Q w s := ⟨z, H, I, rw', q⟩
    by_cases h0 : 0 ≤ k
    · have hj : k.toNat = j := by
        rw [seqIndex_of h0 h5] at h1
        exact Option.some.inj h1
      exact wpAny_getItem_list pl.isList h0 (by omega) (by rw [hj]; simpa using ew) fin
    · have hj : (k + (its.toArray.size : Int)).toNat = j := by
        rw [seqIndex_neg (by omega) h4] at h1
        rw [List.size_toArray, ← hl]
        exact Option.some.inj h1
      exact wpAny_getItem_list_neg pl.isList (by omega) (by rw [List.size_toArray] <;> omega) (by omega) (by rw [hj]; simpa using ew) fin
  · cases ro
    exact d_getItem hu I g ri fun w' s' I' rw' => ⟨v, H, I', rw', q⟩
theorem n_augIx {op : Bop} {ho : Operator} (hop : (op = .add ∧ ho = .Add) ∨ (op = .sub ∧ ho = .Sub)) (hu : X.A.units + 1 < cLine) (hN : X.N[i]? = some x) (hv : Vis X.env.scope x) (hd : (x == ("__debug__" : Str)) = false) (hcd : (x == ("__classdict__" : Str)) = false) (he : PE X e (tE X.K T X.mg W F m)) (hk : PE X k (tE X.K T X.mg W F mk))
    (ha : ∀ ov iv new, augStore k ov iv new = (do holding [new, ov, iv] (setItem ov iv new); release [new, ov, iv] []; pure .next)) :
    PS X (.AugAssign (.Subscript (.Name x np) k tpos) ho e pos) (tS X.K T X.mg W F tp (.augIx i mk op m)) := by
  have hip : ∃ ti : TIp, PIp X ho ti ∧ ∀ a b z H Q, augD op (.int a) (.int b) = some z → (∃ c, z = .int c ∧ Q (.int c) H) → ti (.int a) (.int b) H Q := by
    rcases hop with ⟨rfl, rfl⟩ | ⟨rfl, rfl⟩
    · refine ⟨_, ip_add, fun a b z H Q e q => ?_⟩
      obtain ⟨c, rfl, q⟩ := q
      simp only [augD, Option.some.injEq, PyData.int.injEq] at e
      subst e
      exact ⟨a, b, rfl, rfl, q⟩
    · refine ⟨_, ip_sub, fun a b z H Q e q => ?_⟩
      obtain ⟨c, rfl, q⟩ := q
      simp only [augD, Option.some.injEq, PyData.int.injEq] at e
      subst e
      exact ⟨a, b, rfl, rfl, q⟩
  obtain ⟨ti, hi1, hi2⟩ := hip
  refine PS.ok (ps_augS (pe_var hN hv hd hcd) hk (get_V hu) he hi1 (set_V hu) ha) fun lk g env h σ H D tq r q => ?_
  simp only [exS] at q
  split at q
  · rename_i hb
    obtain ⟨ov, eo⟩ := bound_get (lk := lk) r hb
    refine ⟨ov, eo, ?_⟩
    refine seqS2 (lk := lk) r.at (lk' := i :: lk) (fun j hj => List.mem_cons_of_mem _ hj) q fun p env1 h1 g1 kv H1 c1 q1 => ?_
    obtain ⟨g1', at1, v1⟩ := c1.look' r
    have at1' := (Rel.at (lk := lk) r).trans at1 fun j hj => List.mem_cons_of_mem _ hj
    split at q1
    · rename_i s es
      split at q1
      · rename_i a ea
        have key : ∃ v, (∀ {Q : VK}, Q v H1 → rGetV ov kv H1 Q) ∧ ∀ n, a = .int n → v = .int n := by
          unfold ixW at ea
          split at ea
          · rename_i xs
            split at ea
            · rename_i n ek
              obtain ⟨b, f1, f2, ⟨vs, f3, f4⟩, _⟩ := at1.rel.own i _ es
              rw [eo] at f1
              cases f1
              obtain ⟨v, e1, e2⟩ := atI_dq f4 ea
              refine ⟨v, fun q => .inl ⟨b, vs, n, v, rfl, v1.key.1 n ek, f3, e1, q⟩, fun n z => ?_⟩
              subst z
              cases e2
              rfl
            · cases ea
          · rename_i b
            split at ea
            · rename_i s ek
              split at ea
              · rename_i kvs eb
                obtain ⟨u, e1, p', e2, e3⟩ := at1.rel.slot i _ es
                rw [eo] at e1
                cases e1
                obtain ⟨p2, f1, f2, es1, f3, f4⟩ := at1.rel.box b _ eb
                rw [e2] at f1
                cases f1
                obtain ⟨v, g1, g2⟩ := kv_look f4 ea
                have gg : DGet H1 p' (.str s) (some v) := by
                  have := DGet.k (k := Sum.inr s) f3
                  rw [g1] at this
                  exact this
                refine ⟨v, fun q => .inr ⟨p', v, e3, by rw [v1.key.2 s ek]; exact gg, q⟩, fun n z => ?_⟩
                subst z
                cases g2
                rfl
              · cases ea
            · cases ea
          · cases ea
        obtain ⟨v, k1, k2⟩ := key
        refine k1 ?_
        refine seqS2 at1' (lk' := i :: lk) (fun j hj => List.mem_cons_of_mem _ hj) q1 fun o env2 h2 g2 w H2 c2 q2 => ?_
        split at q2
        · rename_i y ey
          obtain ⟨g2', at2, v2⟩ := c2.look' at1.rel
          rw [ey] at v2
          split at q2
          · rename_i z ez
            split at q2
            · exact q2.elim
            · rename_i hlk
              have hi : i ∉ lk := by simpa using hlk
              have form : ∃ n n' n'', a = .int n ∧ y = .int n' ∧ z = .int n'' := by
                cases op <;> cases a <;> cases y <;> simp [augD] at ez
                · exact ⟨_, _, _, rfl, rfl, ez.symm⟩
                · exact ⟨_, _, _, rfl, rfl, ez.symm⟩
              obtain ⟨n, n', n'', rfl, rfl, rfl⟩ := form
              obtain rfl := k2 _ rfl
              cases v2
              refine hi2 _ _ _ _ _ ez ⟨n'', rfl, ?_⟩
              exact setIx_ok (o := ⟨.d (.int n''), false, []⟩) r (at1'.trans at2 fun j hj => List.mem_cons_of_mem _ hj).ats hi eo v1.key (.int n'') q2
          · exact q2.elim
        · exact q2.elim
      · exact q1.elim
    · exact q1.elim
  · exact q.elim
end
end Mi
/-! MiO: loops. -/
namespace Mi
open PySem PySem.Spec PyProof.Rows L2
variable {X : Cx} {K : PySem.W.Frag} {T : Addr → Prop} {mg : Str → Option Value} {W : WX} {F : Fns} {tp : Bool}

theorem AtS.sub {lk lk' : List Nat} {g g1 : Gh} {env env1 : Mi.Env} {h1 : Hx} {σ σ1 : L2.St} {H H1 : Hp} (a : AtS K T lk' g env σ H g1 env1 h1 σ1 H1) (hl : ∀ i ∈ lk, i ∈ lk') : AtS K T lk g env σ H g1 env1 h1 σ1 H1 := ⟨a.fr.sub hl, a.rel⟩
/-- what a loop's turn makes of its body's answer -/
def turnF (nx : Mi.Env → Hx → R Fl) (f : Fl) (env : Mi.Env) (h : Hx) : R Fl :=
  match f with
  | .next => nx env h
  | .cont => nx env h
  | .brk => .ok .next env h
  | .ret o => .ok (.ret o) env h
/-- the body's answer, in a loop -/
theorem turn_ok {lk lk' : List Nat} (hl : ∀ i ∈ lk, i ∈ lk') {g : Gh} {env : Mi.Env} {σ : L2.St} {H : Hp} {D : Ends} {r : R Fl} {nx : Mi.Env → Hx → R Fl} {N : L2.St → Hp → Prop} (q : AnsS K T mg W lk g env σ H (r.bind (turnF nx)) D)
    (hN : ∀ g1 env1 h1 σ1 H1, AtS K T lk' g env σ H g1 env1 h1 σ1 H1 → AnsS K T mg W lk g1 env1 σ1 H1 (nx env1 h1) D → N σ1 H1) : AnsS K T mg W lk' g env σ H r { D with nx := N, ct := N, bk := D.nx } := by
  cases r with
  | no => exact q
  | ex c x env' h' => exact fun g' σ' H' cls d a z => q g' σ' H' cls d (a.sub hl) z
  | ok f env' h' =>
    cases f with
    | next => exact fun g' σ' H' a => hN g' env' h' σ' H' a (AnsS.pre (a.sub hl) (fun _ z => z) q)
    | cont => exact fun g' σ' H' a => hN g' env' h' σ' H' a (AnsS.pre (a.sub hl) (fun _ z => z) q)
    | brk => exact fun g' σ' H' a => q g' σ' H' (a.sub hl)
    | ret o => exact fun g' σ' H' u a z => q g' σ' H' u (a.sub hl) z
theorem whL_eq {c : Mi.Env → Hx → R Out} {body : Mi.Env → Hx → R Fl} {n : Nat} {env : Mi.Env} {h : Hx} : whL c body (n + 1) env h = (c env h).bind fun o env h => match truth o.v with | some true => (body env h).bind (turnF (whL c body n)) | some false => .ok .next env h | none => .no := rfl
theorem n_whl {c : Expr} {mc : MX} {b : List Stmt} {mb : List MS} {pos : Pos} (hp : PassesOwn (model X.prog X.w) X.A X.env X.xe) (hc : PT X c (tT X.K T X.mg W F mc)) (hb : PSs X b (tSs X.K T X.mg W F tp mb)) : PS X (.While c b [] pos) (tS X.K T X.mg W F tp (.whl mc mb)) := by
  refine PS.ok (ps_while hp hc hb) fun lk g env h σ H D tq r q => ?_
  simp only [exS] at q
  refine ⟨fun n σ' H' => ∃ g' env' h', Top tp g' ∧ Rel X.K T g' env' h' σ' H' ∧ AnsS X.K T X.mg W lk g' env' σ' H' (whL (ev F lk mc) (exSs F tp lk mb) n env' h') D, ⟨many, g, env, h, tq, r, q⟩, ?_⟩
  rintro n σ' H' ⟨g', env', h', tq', r', q'⟩
  cases n with
  | zero => exact q'.elim
  | succ n =>
    rw [whL_eq] at q'
    refine seqSC r' q' fun k env1 h1 g1 H1 a1 q1 => ?_
    cases k with
    | false =>
      rw [if_neg Bool.false_ne_true] at q1 ⊢
      exact q1 _ _ _ a1.ats
    | true =>
      rw [if_pos rfl] at q1 ⊢
      refine ⟨fun σ2 H2 => ∃ g2 env2 h2, Top tp g2 ∧ Rel X.K T g2 env2 h2 σ2 H2 ∧ AnsS X.K T X.mg W lk g2 env2 σ2 H2 (whL (ev F lk mc) (exSs F tp lk mb) n env2 h2) D, fun σ2 H2 z => ⟨n, Nat.lt_succ_self n, z⟩, lk, g1, env1, h1, tq'.of a1.fr, a1.rel, ?_⟩
      exact turn_ok (fun _ z => z) (AnsS.pre a1.ats (fun _ z => z) q1) fun g2 env2 h2 σ2 H2 a2 q2 => ⟨g2, env2, h2, (tq'.of a1.fr).of a2.fr, a2.rel, q2⟩

/-! ### what is walked -/
/-- the walk J yields xs, as long as what is locked stays -/
structure IterOk (K : PySem.W.Frag) (T : Addr → Prop) (lk : List Nat) (g : Gh) (env : Mi.Env) (σ : L2.St) (H : Hp) (J : It) (xs : List PD) : Prop where
  go : ∀ g' env' h' σ' H' i x, AtS K T lk g env σ H g' env' h' σ' H' → xs[i]? = some x → J.go i H' ∧ ∀ v H2, J.yld i H' v H2 → Dq (fz g'.O H2) v x ∧ AtS K T lk g' env' σ' H' g' env' h' σ' H2
  stop : ∀ g' env' h' σ' H' i, AtS K T lk g env σ H g' env' h' σ' H' → i = xs.length → J.stop i H'
def AnsI (K : PySem.W.Frag) (T : Addr → Prop) (mg : Str → Option Value) (W : WX) (lk : List Nat) (g : Gh) (env : Mi.Env) (σ : L2.St) (H : Hp) (r : R (List PD × List Nat)) (Q : It → Hp → Prop) : Prop :=
  match r with
  | .no => False
  | .ok q env' h' => ∀ g' H' J, At K T lk g env σ H g' env' h' H' → IterOk K T (q.2 ++ lk) (g'.cut (lnB env' σ (frzI q.1 q.2))) (Mi.frz (frzI q.1 q.2) env') σ H' J q.1 → Q J H'
  | .ex c x env' h' => AnsX K T mg W lk g env σ H c x env' h'
def tI (K : PySem.W.Frag) (T : Addr → Prop) (mg : Str → Option Value) (W : WX) (F : Fns) (it : MI) : TI := fun σ H Q =>
  ∃ lk g env h, Rel K T g env h σ H ∧ AnsI K T mg W lk g env σ H (evi F lk it env h) Q
theorem frL_eq {p : Pat} {body : Mi.Env → Hx → R Fl} {x : PD} {xs : List PD} {env : Mi.Env} {h : Hx} : frL p body (x :: xs) env h = match bindP p x env with | none => .no | some env => (body env h).bind (turnF (frL p body xs)) := rfl
theorem n_for {tg iter : Expr} {p : Pat} {it : MI} {b : List Stmt} {mb : List MS} {pos : Pos} (hp : PassesOwn (model X.prog X.w) X.A X.env X.xe) (hc : X.calm = true) (hi : PI X tg iter (tI X.K T X.mg W F it)) (hg : PG X tg (gP X.K p)) (hb : PSs X b (tSs X.K T X.mg W F tp mb))
    (hs : ∀ x, foldedSetIterable iter X.env x = pure x) : PS X (.For tg iter b [] pos) (tS X.K T X.mg W F tp (.fr p it mb)) := by
  refine PS.ok (ps_for hp hc hi hg hb hs) fun lk g env h σ H D tq r q => ?_
  simp only [exS] at q
  refine ⟨lk, g, env, h, r, ?_⟩
  cases e : evi F lk it env h with
  | no => rw [e] at q; exact q
  | ex c x env' h' => rw [e] at q; exact q.toX
  | ok w env1 h1 =>
    obtain ⟨xs, ln⟩ := w
    rw [e] at q
    simp only [R.bind] at q
    intro g1 H1 J at1 io
    split at q
    · exact q.elim
    · rename_i hh
      have hit := hit_not hh
      have a2 := at1.ats.frz (frzI xs ln)
      have q' : AnsS X.K T X.mg W lk _ _ σ H1 _ D := AnsS.pre a2 (fun _ z => z) q
      have go : ∀ (i : Nat) (σ' : L2.St) (H' : Hp), i ≤ xs.length → (∃ g' env' h', AtS X.K T (ln ++ lk) (g1.cut (lnB env1 σ (frzI xs ln))) (Mi.frz (frzI xs ln) env1) σ H1 g' env' h' σ' H' ∧ AnsS X.K T X.mg W lk g' env' σ' H' (frL p (exSs F tp (ln ++ lk) mb) (xs.drop i) env' h') D) →
          (J.stop i H' ∧ D.nx σ' H') ∨ (i < xs.length ∧ J.go i H' ∧ ∀ x H2, J.yld i H' x H2 → gP X.K p x σ' H2 fun σ2 H2 => tSs X.K T X.mg W F tp mb
            { D with nx := fun σ' H' => ∃ g' env' h', AtS X.K T (ln ++ lk) (g1.cut (lnB env1 σ (frzI xs ln))) (Mi.frz (frzI xs ln) env1) σ H1 g' env' h' σ' H' ∧ AnsS X.K T X.mg W lk g' env' σ' H' (frL p (exSs F tp (ln ++ lk) mb) (xs.drop (i + 1)) env' h') D,
                     ct := fun σ' H' => ∃ g' env' h', AtS X.K T (ln ++ lk) (g1.cut (lnB env1 σ (frzI xs ln))) (Mi.frz (frzI xs ln) env1) σ H1 g' env' h' σ' H' ∧ AnsS X.K T X.mg W lk g' env' σ' H' (frL p (exSs F tp (ln ++ lk) mb) (xs.drop (i + 1)) env' h') D, bk := D.nx } σ2 H2) := by
        rintro i σ' H' hle ⟨g', env', h', a', q'⟩
        cases hx : xs[i]? with
        | none =>
          refine .inl ⟨io.stop _ _ _ _ _ i a' (Nat.le_antisymm hle (by simpa using hx)), ?_⟩
          have : xs.drop i = [] := List.drop_eq_nil_of_le (by simpa using hx)
          rw [this] at q'
          exact q' _ _ _ a'.rel.ats
        | some x =>
          have hlt := (List.getElem?_eq_some_iff.mp hx).1
          obtain ⟨jg, jy⟩ := io.go _ _ _ _ _ i x a' hx
          refine .inr ⟨hlt, jg, fun v H2 y => ?_⟩
          obtain ⟨dv, ay⟩ := jy v H2 y
          have hd : xs.drop i = x :: xs.drop (i + 1) := by
            rw [List.drop_eq_getElem_cons hlt]
            congr 1
            have := (List.getElem?_eq_some_iff.mp hx).2
            exact this
          rw [hd, frL_eq] at q'
          cases eb : bindP p x env' with
          | none => rw [eb] at q'; exact q'.elim
          | some env3 =>
            rw [eb] at q'
            refine bindP_ok a'.rel ay hit dv eb fun σ3 a3 => ?_
            refine ⟨ln ++ lk, g', env3, h', (tq.of a2.fr).of a'.fr, a3.rel, ?_⟩
            exact turn_ok mem_app_r (AnsS.pre (a3.sub mem_app_r) (fun _ z => z) q') fun g4 env4 h4 σ4 H4 a4 q4 => ⟨g4, env4, h4, (a'.trans a3 fun _ z => z).trans a4 fun _ z => z, q4⟩
      refine ⟨fun i m σ' H' => m = xs.length - i ∧ i ≤ xs.length ∧ ∃ g' env' h', AtS X.K T (ln ++ lk) (g1.cut (lnB env1 σ (frzI xs ln))) (Mi.frz (frzI xs ln) env1) σ H1 g' env' h' σ' H' ∧ AnsS X.K T X.mg W lk g' env' σ' H' (frL p (exSs F tp (ln ++ lk) mb) (xs.drop i) env' h') D,
        ⟨xs.length, rfl, Nat.zero_le _, _, _, _, a2.rel.ats, q'⟩, ?_⟩
      rintro i m σ' H' ⟨rfl, hle, w⟩
      rcases go i σ' H' hle w with z | ⟨hlt, z1, z2⟩
      · exact .inl z
      · exact .inr ⟨z1, _, fun σ2 H2 n2 => ⟨xs.length - (i + 1), by omega, rfl, hlt, n2⟩, z2⟩
end Mi
/-! MiP: what loops walk. -/
namespace Mi
open PySem PySem.Spec PyProof.Rows L2
variable {X : Cx} {K : PySem.W.Frag} {T : Addr → Prop} {mg : Str → Option Value} {W : WX} {F : Fns} {tp : Bool}

section
variable {lk ln : List Nat} {g g1 g' : Gh} {env env1 env' : Mi.Env} {h h1 h' : Hx} {σ σ' : L2.St} {H H1 H' : Hp} {xs : List PD}
/-- what may be looked at stays, while the names are locked -/
theorem keep_vw {fl : List Nat} (a : AtS K T (ln ++ lk) (g1.cut (lnB env1 σ fl)) (Mi.frz fl env1) σ H1 g' env' h' σ' H') : ∀ b o, solid o = true → g1.vw env1 σ ln H1 b = some o → H' b = some o := fun b o z e => by
  obtain ⟨e1, e2⟩ := vw_some.mp e
  cases hc : (g1.cut (lnB env1 σ fl)).O b with
  | false => exact (a.fr.keep b o z hc e2).2
  | true =>
    obtain ⟨c1, c2⟩ := cut_O.mp hc
    have hL : lnB env1 σ ln b = true := e1.resolve_left fun w => by rw [c1] at w; cases w
    obtain ⟨i, hi, q⟩ := lnB_iff.mp hL
    have hf : i ∉ fl := fun w => by
      have : lnB env1 σ fl b = true := lnB_iff.mpr ⟨i, w, q⟩
      rw [c2] at this
      cases this
    exact ((a.fr.lock i (List.mem_append_left _ hi)).2 b o z (ownAt_frz.mpr ⟨q, hf⟩) e2).1
theorem items_keep (r : Rel K T g1 env1 h1 σ H1) {vs : List V} (d : DqAll (g1.vw env1 σ ln H1) vs xs) (a : AtS K T (ln ++ lk) (g1.cut (lnB env1 σ (frzI xs ln))) (Mi.frz (frzI xs ln) env1) σ H1 g' env' h' σ' H') : DqAll (fz g'.O H') vs xs := by
  by_cases z : noLs xs = true
  · refine DqAll.noL (fun b ys e => ?_) d z
    have e2 := keep_vw a b _ rfl e
    refine fz_some.mpr ⟨?_, e2⟩
    cases q : g'.O b with
    | false => rfl
    | true =>
      obtain ⟨u, f1, f2⟩ := a.rel.kind b (.inl q)
      rw [e2] at f1
      cases f1
      simp [celly] at f2
  · have e : frzI xs ln = ln := by
      unfold frzI
      rw [if_neg z]
    rw [e] at a
    have := a.fr.view0
    rw [cut_view] at this
    exact d.up this
end

/-! ### a list or a tuple -/
def iSeq (K : PySem.W.Frag) (tl : TE) : TI := fun σ H R => tl σ H fun x H1 => ∃ a vs, x = .ref a ∧ ((H1 a = some (.lst vs) ∧ R (Itl K a) H1) ∨ (H1 a = some (.tup vs) ∧ R (Itt K a) H1))
theorem pi_seq {tg l : Expr} {tl : TE} (hl : PE X l tl) : PI X tg l (iSeq X.K tl) := by
  refine ⟨fun pins s σ H R I hw => ?_⟩
  refine thn (hl.run pins s σ H _ I hw) fun v s1 hs1 => ?_
  obtain ⟨x, H1, I1, r1, a, vs, e, q1⟩ := hs1
  subst e
  cases r1
  have fp1 : ∀ b, b ∈ [s1.heap.objs.size] → FpOk X pins H1 b := fun b hb => by
    obtain rfl : b = s1.heap.objs.size := by simpa using hb
    exact I1.fpOk (Nat.le_refl _) (I1.hok.fresh (Nat.le_refl _))
  rcases q1 with ⟨ha, q⟩ | ⟨ha, q⟩
  · obtain ⟨its, _, p, _⟩ := I1.list (SqL.of ha)
    exact wpAny_pyIter_list p.isList ⟨_, [s1.heap.objs.size], _, _, H1, rfl, I1.kept (t' := s1.toks) (fun b o w => Heap.get?_push_of_some _ w), turn_list a _, ⟨_, Heap.get?_push_size _ rfl, rfl, rfl⟩, fp1, q⟩
  · obtain ⟨its, _, p, _⟩ := I1.tuple (SqT.of ha)
    exact wpAny_pyIter_tuple p ⟨_, [s1.heap.objs.size], _, _, H1, rfl, I1.kept (t' := s1.toks) (fun b o w => Heap.get?_push_of_some _ w), turn_tuple a _, ⟨_, Heap.get?_push_size _ rfl, rfl, rfl⟩, fp1, q⟩
section
variable {lk ln : List Nat} {g g1 : Gh} {env env1 : Mi.Env} {h h1 : Hx} {σ : L2.St} {H H1 : Hp} {xs : List PD}
theorem iter_list (r : Rel K T g1 env1 h1 σ H1) {a : Addr} {vs : List V} (ha : g1.vw env1 σ ln H1 a = some (.lst vs)) (d : DqAll (g1.vw env1 σ ln H1) vs xs) :
    IterOk K T (ln ++ lk) (g1.cut (lnB env1 σ (frzI xs ln))) (Mi.frz (frzI xs ln) env1) σ H1 (Itl K a) xs where
  go := fun g' env' h' σ' H' i x a' hx => by
    have e1 := keep_vw a' a _ rfl ha
    have d1 := items_keep r d a'
    obtain ⟨v, e2, e3⟩ := DqAll.get d1 hx
    refine ⟨⟨vs, v, SqL.of e1, e2⟩, fun v' H2 y => ?_⟩
    obtain ⟨rfl, y⟩ := y
    have := y vs (SqL.of e1)
    rw [e2] at this
    cases this
    exact ⟨e3, a'.rel.ats⟩
  stop := fun g' env' h' σ' H' i a' hx => ⟨vs, SqL.of (keep_vw a' a _ rfl ha), by rw [DqAll.length d, hx]; exact Nat.le_refl _⟩
theorem iter_tup (r : Rel K T g1 env1 h1 σ H1) {a : Addr} {vs : List V} (ha : g1.vw env1 σ ln H1 a = some (.tup vs)) (d : DqAll (g1.vw env1 σ ln H1) vs xs) :
    IterOk K T (ln ++ lk) (g1.cut (lnB env1 σ (frzI xs ln))) (Mi.frz (frzI xs ln) env1) σ H1 (Itt K a) xs where
  go := fun g' env' h' σ' H' i x a' hx => by
    have e1 := keep_vw a' a _ rfl ha
    have d1 := items_keep r d a'
    obtain ⟨v, e2, e3⟩ := DqAll.get d1 hx
    refine ⟨⟨vs, v, SqT.of e1, e2⟩, fun v' H2 y => ?_⟩
    obtain ⟨rfl, y⟩ := y
    have := y vs (SqT.of e1)
    rw [e2] at this
    cases this
    exact ⟨e3, a'.rel.ats⟩
  stop := fun g' env' h' σ' H' i a' hx => ⟨vs, SqT.of (keep_vw a' a _ rfl ha), by rw [DqAll.length d, hx]; exact Nat.le_refl _⟩
theorem rngD_get {lo hi : Int} {i : Nat} {x : PD} (e : (rngD lo hi)[i]? = some x) : i < (hi - lo).toNat ∧ x = .int (lo + i) := by
  unfold rngD at e
  rw [List.getElem?_map] at e
  cases q : (List.range (hi - lo).toNat)[i]? with
  | none => rw [q] at e; cases e
  | some k =>
    rw [q] at e
    obtain ⟨h1, h2⟩ := List.getElem?_eq_some_iff.mp q
    rw [List.getElem_range] at h2
    subst h2
    rw [List.length_range] at h1
    exact ⟨h1, (Option.some.inj e).symm⟩
theorem iter_rng {lo hi : Int} {n : Nat} (hn : n = (hi - lo).toNat) {g2 : Gh} {env2 : Mi.Env} : IterOk K T lk g2 env2 σ H1 (Itr lo n) (rngD lo hi) where
  go := fun g' env' h' σ' H' i x a' hx => by
    obtain ⟨h1, rfl⟩ := rngD_get hx
    refine ⟨by rw [hn]; exact h1, fun v H2 y => ?_⟩
    obtain ⟨rfl, rfl⟩ := y
    exact ⟨.int _, a'.rel.ats⟩
  stop := fun g' env' h' σ' H' i a' hx => by
    unfold rngD at hx
    rw [List.length_map, List.length_range] at hx
    show n ≤ i
    omega
/-- an expression ahead of a walk -/
theorem seqI {m : MX} {body : Out → Mi.Env → Hx → R (List PD × List Nat)} {Q : It → Hp → Prop} {g0 : Gh} {env0 : Mi.Env} {h0 : Hx} {H0 : Hp} {lk' : List Nat} (a0 : At K T lk g env σ H g0 env0 h0 H0) (hl : ∀ i ∈ lk, i ∈ lk') (q : AnsI K T mg W lk g env σ H ((ev F lk' m env0 h0).bind body) Q) {P : V → Hp → Prop}
    (k : ∀ o env1 h1 g1 v H1, At K T lk' g0 env0 σ H0 g1 env1 h1 H1 → VR K (g1.vw env1 σ o.ln H1) g1.ρ o.v v → AnsI K T mg W lk g env σ H (body o env1 h1) Q → P v H1) : tE K T mg W F m σ H0 P := by
  refine ⟨lk', g0, env0, h0, a0.rel, ?_⟩
  cases e : ev F lk' m env0 h0 with
  | no => rw [e] at q; exact q
  | ex c x env' h' => rw [e] at q; exact AnsX.pre a0 hl q
  | ok o env1 h1 =>
    rw [e] at q
    intro g1 v H1 c
    obtain ⟨g1', a1, v1⟩ := c.look' a0.rel
    exact k o env1 h1 g1' v H1 a1 v1 q
end
theorem PI.imp {tg e : Expr} {t t' : TI} (h : PI X tg e t) (k : ∀ σ H Q, t' σ H Q → t σ H Q) : PI X tg e t' := ⟨fun pins s σ H Q I q => h.run pins s σ H Q I (k σ H Q q)⟩
theorem items_of {Wv : Hp} {v : V} {x : PD} {xs : List PD} (d : Dq Wv v x) (e : itemsOf x = some xs) : ∃ a vs, v = .ref a ∧ DqAll Wv vs xs ∧ ((x = .list xs ∧ Wv a = some (.lst vs)) ∨ (x = .tuple xs ∧ Wv a = some (.tup vs))) := by
  cases x with
  | list ys =>
    simp only [itemsOf, Option.some.injEq] at e
    subst e
    cases d with
    | lst h1 h2 => exact ⟨_, _, rfl, h2, .inl ⟨rfl, h1⟩⟩
  | tuple ys =>
    simp only [itemsOf, Option.some.injEq] at e
    subst e
    cases d with
    | tup h1 h2 => exact ⟨_, _, rfl, h2, .inr ⟨rfl, h1⟩⟩
  | _ => simp [itemsOf] at e
section
variable {tg e e2 : Expr} {m m2 : MX} {p pos : Pos}
theorem i_val (he : PE X e (tE X.K T X.mg W F m)) : PI X tg e (tI X.K T X.mg W F (.val m)) := by
  refine PI.imp (pi_seq he) fun σ H Q ⟨lk, g, env, h, r, q⟩ => ?_
  simp only [evi] at q
  refine seqI r.at (fun _ z => z) q fun o env1 h1 g1 v H1 a1 v1 q1 => ?_
  unfold itemsV at q1
  split at q1
  · rename_i x ex
    rw [ex] at v1
    split at q1
    · rename_i xs exs
      obtain ⟨a, vs, rfl, d, z⟩ := items_of v1 exs
      refine ⟨a, vs, rfl, ?_⟩
      rcases z with ⟨_, z⟩ | ⟨_, z⟩
      · exact .inl ⟨(vw_some.mp z).2, q1 _ _ _ a1 (iter_list a1.rel z d)⟩
      · exact .inr ⟨(vw_some.mp z).2, q1 _ _ _ a1 (iter_tup a1.rel z d)⟩
    · exact q1.elim
  · exact q1.elim
theorem i_rng1 (hg : Gl X "range") (hm : X.mg "range" = none) (he : PE X e (tE X.K T X.mg W F m)) (hs : starEach [e] X.env = [(false, eval e X.env)]) : PI X tg (.Call (.Name "range" p) [e] [] pos) (tI X.K T X.mg W F (.rng1 m)) := by
  refine PI.imp (pi_range1 hg hm (pa_cons he pa_nil hs) hs) fun σ H Q ⟨lk, g, env, h, r, q⟩ => ?_
  simp only [evi] at q
  refine seqI r.at (fun _ z => z) q fun o env1 h1 g1 v H1 a1 v1 q1 => ?_
  split at q1
  · rename_i j ej
    rw [ej] at v1
    cases v1
    split at q1
    · rename_i hr
      have hr' : -(2 ^ 62) ≤ j ∧ j < 2 ^ 62 := of_decide_eq_true hr
      exact ⟨j, rfl, hr'.1, hr'.2, q1 _ _ _ a1 (iter_rng (by simp))⟩
    · exact q1.elim
  · exact q1.elim
theorem i_rng2 (hg : Gl X "range") (hm : X.mg "range" = none) (he : PE X e (tE X.K T X.mg W F m)) (he2 : PE X e2 (tE X.K T X.mg W F m2)) (hs : starEach [e, e2] X.env = [(false, eval e X.env), (false, eval e2 X.env)]) (hs2 : starEach [e2] X.env = [(false, eval e2 X.env)]) :
    PI X tg (.Call (.Name "range" p) [e, e2] [] pos) (tI X.K T X.mg W F (.rng2 m m2)) := by
  refine PI.imp (pi_range2 hg hm (pa_cons he (pa_cons he2 pa_nil hs2) (by rw [hs, hs2])) hs hs2) fun σ H Q ⟨lk, g, env, h, r, q⟩ => ?_
  simp only [evi] at q
  refine seqI r.at (fun _ z => z) q fun o env1 h1 g1 v H1 a1 v1 q1 => ?_
  refine seqI a1 mem_app_r q1 fun o2 env2 h2 g2 v2 H2 a2 w2 q2 => ?_
  split at q2
  · rename_i i j ei ej
    rw [ei] at v1
    rw [ej] at w2
    cases v1
    cases w2
    split at q2
    · rename_i hr
      rw [Bool.and_eq_true] at hr
      have h1' : -(2 ^ 62) ≤ i ∧ i < 2 ^ 62 := of_decide_eq_true hr.1
      have h2' : -(2 ^ 62) ≤ j ∧ j < 2 ^ 62 := of_decide_eq_true hr.2
      exact ⟨i, j, rfl, ⟨h1'.1, h1'.2, h2'.1, h2'.2⟩, q2 _ _ _ (a1.trans a2 mem_app_r) (iter_rng rfl)⟩
    · exact q2.elim
  · exact q2.elim
end
end Mi
/-! MiQ: enumerate and zip. -/
namespace Mi
open PySem PySem.Spec PyProof.Rows L2
variable {X : Cx} {K : PySem.W.Frag} {T : Addr → Prop} {mg : Str → Option Value} {W : WX} {F : Fns} {tp : Bool}

/-! ### enumerate(a tuple) -/
theorem enum_newA {v : Value} {o : Obj} {G : Heap → Prop} (B : Begins v o G) :
    Meets (Builtin.«enumerate.__new__» ⟨[.type "enumerate", v], []⟩) (fun _ R s => G s.heap ∧
      R (.ok (.ret (.ref (s.heap.push o).objs.size))) { s with heap := (s.heap.push o).push { cls := .type "enumerate", data := .fields #[.none, .bool false, .ref s.heap.objs.size, rawInt 0, .none, .none] } }) :=
  .of_wp fun prog w A R s h => by
    obtain ⟨hp, gs, dr, tk, os⟩ := s
    obtain ⟨hG, h⟩ := h
    have hsub := sub_enumerate
    have it : ∀ {A' : Around} {E : Value → Shared → Prop} {Q : Value → Shared → Prop}, Q (.ref hp.objs.size) ⟨hp.push o, gs, dr, tk, os⟩ → wpAny (model prog w) A' (pyIter v) Q E ⟨hp, gs, dr, tk, os⟩ :=
      fun q => B.iter prog w _ _ ⟨hp, gs, dr, tk, os⟩ _ hG q
    wp_walk
    refine wpAny_stack_any fun st => wpAny_pure ?_
    split
    · rename_i c _ _ _ _ _
      cases (c == Value.type "enumerate") <;>
      · wp_walk using it
        exact ⟨_, rfl, h⟩
    · wp_walk using it
      exact ⟨_, rfl, h⟩
theorem call_enumA {prog : Program} {w : World} {A : Around} {E : Value → Shared → Prop} {s : Shared} {v : Value} {o : Obj} {G : Heap → Prop} {Q : Value → Shared → Prop} (B : Begins v o G) (hG : G s.heap)
    (h : ∀ h', IsEnum h' (s.heap.objs.size + 1) s.heap.objs.size 0 .none → h'.get? s.heap.objs.size = some o → h'.objs.size = s.heap.objs.size + 2 → (∀ b u, s.heap.get? b = some u → h'.get? b = some u) → Q (.ref (s.heap.objs.size + 1)) { s with heap := h' }) :
    wpAny (model prog w) A (call (.type "enumerate") [v]) Q E s := by
  refine callType_new F.called_enumerate (by decide) (F.typeCall_enumerate_1 _) (F.newCall_enumerate_1 _) (fun obj => F.args_object_init_2 obj _) F.entry_enumerate_new (enum_newA B) ⟨hG, ?_⟩
  have hz : (s.heap.push o).objs.size = s.heap.objs.size + 1 := Heap.size_push ..
  have he := Heap.get?_push_size (s.heap.push o) (o := { cls := .type "enumerate", data := .fields #[.none, .bool false, .ref s.heap.objs.size, rawInt 0, .none, .none] }) rfl
  show _ ∧ _
  rw [hz] at he ⊢
  exact ⟨⟨_, he, rfl⟩, h _ he (Heap.get?_push_of_some _ (Heap.get?_push_size _ B.free)) (by rw [Heap.size_push, hz]) fun b u x => Heap.get?_push_of_some _ (Heap.get?_push_of_some _ x)⟩
/-- the tuple at a, each item in a new pair -/
def Iue (K : PySem.W.Frag) (a : Addr) : It :=
  ⟨fun i H => ∃ (xs : List V) (x : V), SqT K H a xs ∧ xs[i]? = some x, fun i H v H' => ∃ P x, v = .ref P ∧ H P = none ∧ H' = upd H P (.tup [.int (i : Nat), x]) ∧ ∀ xs, SqT K H a xs → xs[i]? = some x, fun i H => ∃ xs : List V, SqT K H a xs ∧ i = xs.length⟩
theorem turn_iue {P : Program} {w : World} {elts : List Expr} {kk : Nat} {tpos : Pos} (a e it : Addr) :
    Turn P w K (.Tuple elts kk tpos) (Iue K a) [e, it] e (fun i h => (∃ old, IsEnum h e it ((i : Nat) : Int) old) ∧ h.IsTupleIter it a i ∧ e ≠ it) where
  mem := by simp
  obj := fun i h st b hb => by
    obtain ⟨⟨old, he⟩, ⟨o, ho, hc, hd⟩, _⟩ := st
    rcases (by simpa using hb : b = e ∨ b = it) with rfl | rfl
    · exact ⟨_, he, fun v q => nomatch q⟩
    · exact ⟨o, ho, fun v q => by rw [hd] at q; cases q⟩
  keep := fun i h h' st k => by
    obtain ⟨⟨old, he⟩, hi, hne⟩ := st
    exact ⟨⟨old, k e (by simp) _ he⟩, hi.at fun o q => k it (by simp) o q, hne⟩
  item := by
    intro X hP hw hK hc i pins s σ H E I hf st hgo
    subst hP hw hK
    obtain ⟨⟨old, he⟩, hit, hne⟩ := st
    obtain ⟨xs, x, hq, hx⟩ := hgo
    obtain ⟨its, rv, p, hz⟩ := I.tuple hq
    obtain ⟨u, hu, ru⟩ := rv.get hx
    have hel : e < s.heap.objs.size := Heap.lt_size he
    have hil : it < s.heap.objs.size := by
      obtain ⟨_, q, _⟩ := hit
      exact Heap.lt_size q
    have hai : a ≠ it := fun z => by
      obtain ⟨o1, f1, _, f3⟩ := hit
      obtain ⟨o2, g1, _, n, g3⟩ := p
      rw [z, f1] at g1
      cases g1
      rw [f3] at g3
      cases g3
    have hae : a ≠ e := fun z => by
      obtain ⟨o2, g1, _, n, g3⟩ := p
      have he' : s.heap.get? e = _ := he
      rw [z, he'] at g1
      cases g1
      cases g3
    have dr := Draws.tuple (prog := X.prog) (w := X.w) (A := X.A.in1) (I.ok.hd hc) it a hai its.toArray
    have hlt : i < its.toArray.size := by
      have := (List.getElem?_eq_some_iff.mp hu).1
      simpa using this
    refine wpAny_pyNext_enum_itemD dr he ⟨hit, p⟩ hlt hne (by simp [hne, Ne.symm hae]) fun y h' tk hy ho hit' hT hsz hk => ?_
    have ey : y = u := by
      rw [← Array.getElem?_toList, hu] at hy
      exact (Option.some.inj hy).symm
    subst ey
    refine ⟨_, rfl, wpAny_letOwnedTupleGo_enum (s := { s with heap := h', toks := tk + 1 }) ho fun h'' he' sb => ?_⟩
    have hT2 := (sb.2 _ (Nat.ne_of_gt hel)).trans hT
    have nw : ObjOk X.prog X.w (upd H s.heap.objs.size (.tup [.int (i : Nat), x])) h'' s.heap.objs.size (.tup [.int (i : Nat), x]) :=
      ⟨by show 2 ≤ sizeLine; decide, [.int i tk, y], .cons ⟨_, rfl⟩ (.cons ru .nil), ⟨_, hT2, rfl, _, rfl⟩⟩
    have I1 : Inv X pins σ (upd H s.heap.objs.size (.tup [.int (i : Nat), x])) { s with heap := h'', toks := tk + 1 } :=
      I.turnedNew (ch := [e, it]) (fun b ob hb q => (sb.2 b (fun z => hb (by simp [z]))).trans (hk b ob (fun z => hb (by simp [z])) (fun z => hb (by simp [z])) q)) hf (Nat.le_refl _) nw
    refine ⟨.ref s.heap.objs.size, _, I1, rfl, ⟨_, x, rfl, I.hok.fresh (Nat.le_refl _), rfl, fun ys hy => by rw [I.tuple_inj hy hq]; exact hx⟩, ⟨⟨y, ?_⟩, hit'.1.at fun o q => (sb.2 it (Ne.symm hne)).trans q, hne⟩, fun b hb => ?_⟩
    · have e1 : ((i + 1 : Nat) : Int) = (i : Int) + 1 := by omega
      rw [e1]
      exact he'
    · have hb' : b < s.heap.objs.size := by
        rcases (by simpa using hb : b = e ∨ b = it) with z | z
        · rw [z]; exact hel
        · rw [z]; exact hil
      rw [upd_ne (Nat.ne_of_lt hb')]
      exact (hf b hb).1
  done := by
    intro X hP hw hK hc i pins s σ H E I hf st hgo
    subst hP hw hK
    obtain ⟨⟨old, he⟩, hit, hne⟩ := st
    obtain ⟨xs, hq, hx⟩ := hgo
    obtain ⟨its, rv, p, hz⟩ := I.tuple hq
    obtain ⟨f0, f1, f2, f3, f4, f5⟩ := hf it (by simp)
    have hai : a ≠ it := fun z => by
      obtain ⟨o1, f1, _, f3⟩ := hit
      obtain ⟨o2, g1, _, n, g3⟩ := p
      rw [z, f1] at g1
      cases g1
      rw [f3] at g3
      cases g3
    have dr := Draws.tuple (prog := X.prog) (w := X.w) (A := X.A.in1) (I.ok.hd hc) it a hai its.toArray
    have en : i = its.toArray.size := by
      have := rv.length
      simp only [List.size_toArray]
      omega
    subst en
    exact wpAny_pyNext_enum_endD dr he ⟨hit, p⟩ fun h' eb => ⟨rfl, I.turned (t' := s.toks) (fun b o hb q => eb b o hb q) f0 f1 f3 f4 f5⟩
  self := fun A i s Q E st h => by
    obtain ⟨⟨_, he⟩, _⟩ := st
    exact wpAny_pyIter_enum he h

def iEn (K : PySem.W.Frag) (tl : TE) : TI := fun σ H R => tl σ H fun x H1 => ∃ a ws, [x] = [V.ref a] ∧ ((H1 a = some (.lst ws) ∧ R (Ite K a) H1) ∨ (H1 a = some (.tup ws) ∧ R (Iue K a) H1))
theorem pi_en {e : Expr} {te : TE} {p pos tpos : Pos} {elts : List Expr} {kk : Nat} (hg : Gl X "enumerate") (hm : X.mg "enumerate" = none) (he : PE X e te) (hs : starEach [e] X.env = [(false, eval e X.env)]) :
    PI X (.Tuple elts kk tpos) (.Call (.Name "enumerate" p) [e] [] pos) (iEn X.K te) := by
  refine ⟨fun pins s σ H R I hw => ?_⟩
  have ha : PA X [e] (tCons te tNil) := pa_cons he pa_nil hs
  refine Call_ (ld_blt I hg hm boot_enumerate (PyProof.Rows.callWith_type1 (thn (ha.run pos pins s σ H (fun vs H1 => ∃ a ws, vs = [V.ref a] ∧ ((H1 a = some (.lst ws) ∧ R (Ite X.K a) H1) ∨ (H1 a = some (.tup ws) ∧ R (Iue X.K a) H1))) I ?_) fun us s1 hs1 => ?_) hs rfl))
  · exact hw
  · obtain ⟨vs, H1, I1, r1, a, ws, rfl, z⟩ := hs1
    cases r1 with
    | cons r rr =>
      cases rr
      cases r
      have fp1 : ∀ b, b ∈ [s1.heap.objs.size + 1, s1.heap.objs.size] → FpOk X pins H1 b := fun b hb => by
        have hle : s1.heap.objs.size ≤ b := by
          rcases (by simpa using hb : b = s1.heap.objs.size + 1 ∨ b = s1.heap.objs.size) with z | z
          · rw [z]; exact Nat.le_add_right _ _
          · rw [z]; exact Nat.le_refl _
        exact I1.fpOk hle (I1.hok.fresh hle)
      rcases z with ⟨ha, q⟩ | ⟨ha, q⟩
      · obtain ⟨its, _, p', _⟩ := I1.list (SqL.of ha)
        refine call_enumA (begins_list a its.toArray) p'.isList fun h' he hit hsz hk => wpAny_pyIter_enum he ?_
        exact ⟨s1.heap.objs.size + 1, [s1.heap.objs.size + 1, s1.heap.objs.size], _, _, H1, rfl, I1.kept (t' := s1.toks) hk, turn_enum a _ s1.heap.objs.size, ⟨⟨.none, he⟩, ⟨_, hit, rfl, rfl⟩, Nat.succ_ne_self _⟩, fp1, q⟩
      · obtain ⟨its, _, p', _⟩ := I1.tuple (SqT.of ha)
        refine call_enumA (begins_tuple a its.toArray) p' fun h' he hit hsz hk => wpAny_pyIter_enum he ?_
        exact ⟨s1.heap.objs.size + 1, [s1.heap.objs.size + 1, s1.heap.objs.size], _, _, H1, rfl, I1.kept (t' := s1.toks) hk, turn_iue a _ s1.heap.objs.size, ⟨⟨.none, he⟩, ⟨_, hit, rfl, rfl⟩, Nat.succ_ne_self _⟩, fp1, q⟩

section
variable {lk ln : List Nat} {g g1 : Gh} {env env1 : Mi.Env} {h h1 : Hx} {σ : L2.St} {H H1 : Hp} {xs : List PD}
theorem enumD_get {i : Nat} {x : PD} (e : (enumD xs)[i]? = some x) : ∃ y, xs[i]? = some y ∧ x = .tuple [.int i, y] := by
  unfold enumD at e
  rw [List.getElem?_map, List.getElem?_zipIdx] at e
  cases q : xs[i]? with
  | none => rw [q] at e; cases e
  | some y =>
    rw [q] at e
    simp only [Option.map_some, Nat.zero_add, Option.some.injEq] at e
    exact ⟨y, rfl, e.symm⟩
theorem enumD_len : (enumD xs).length = xs.length := by simp [enumD]
theorem noLs_get {y : PD} : ∀ {xs : List PD} {i : Nat}, noLs xs = true → xs[i]? = some y → noL y = true
  | [], _, _, e => by simp at e
  | x :: r, 0, h, e => by
    simp only [noLs, Bool.and_eq_true] at h
    simp at e
    subst e
    exact h.1
  | x :: r, i + 1, h, e => by
    simp only [noLs, Bool.and_eq_true] at h
    exact noLs_get h.2 (by simpa using e)
theorem noLs_of : ∀ {xs : List PD}, (∀ (i : Nat) (y : PD), xs[i]? = some y → noL y = true) → noLs xs = true
  | [], _ => rfl
  | x :: r, h => by
    simp only [noLs, Bool.and_eq_true]
    exact ⟨h 0 x rfl, noLs_of fun i y e => h (i + 1) y (by simpa using e)⟩
theorem noLs_enum : noLs (enumD xs) = noLs xs := by
  rw [Bool.eq_iff_iff]
  constructor
  · intro h
    refine noLs_of fun i y e => ?_
    have e2 : (enumD xs)[i]? = some (.tuple [.int i, y]) := by
      unfold enumD
      rw [List.getElem?_map, List.getElem?_zipIdx, e]
      simp
    have := noLs_get (y := .tuple [.int i, y]) h e2
    simpa [noL, noLs] using this
  · intro h
    refine noLs_of fun i y e => ?_
    obtain ⟨z, e1, rfl⟩ := enumD_get e
    have := noLs_get (y := z) h e1
    simpa [noL, noLs] using this
theorem iter_pair {lk : List Nat} {g' : Gh} {env' : Mi.Env} {h' : Hx} {σ' : L2.St} {H' : Hp} (r : Rel K T g' env' h' σ' H') {P : Addr} {v w : V} {x y : PD} (hp : H' P = none) (d1 : Dq (fz g'.O H') v x) (d2 : Dq (fz g'.O H') w y) :
    Dq (fz g'.O (upd H' P (.tup [v, w]))) (.ref P) (.tuple [x, y]) ∧ AtS K T lk g' env' σ' H' g' env' h' σ' (upd H' P (.tup [v, w])) := by
  have up : Sm (fz g'.O H') (fz g'.O (upd H' P (.tup [v, w]))) := fun a o _ q => by
    rw [fz_some] at q ⊢
    exact ⟨q.1, by rw [upd_ne (ne_of_none q.2 hp)]; exact q.2⟩
  exact ⟨.tup (fz_some.mpr ⟨(r.fresh hp).1, upd_same⟩) (.cons (d1.up up) (.cons (d2.up up) .nil)), ⟨Fram.grow r lk hp, r.grow hp⟩⟩
theorem iter_enumL (r : Rel K T g1 env1 h1 σ H1) {a : Addr} {vs : List V} (ha : g1.vw env1 σ ln H1 a = some (.lst vs)) (d : DqAll (g1.vw env1 σ ln H1) vs xs) :
    IterOk K T (ln ++ lk) (g1.cut (lnB env1 σ (frzI (enumD xs) ln))) (Mi.frz (frzI (enumD xs) ln) env1) σ H1 (Ite K a) (enumD xs) where
  go := fun g' env' h' σ' H' i x a' hx => by
    have e1 := keep_vw a' a _ rfl ha
    have ef : frzI (enumD xs) ln = frzI xs ln := by unfold frzI; rw [noLs_enum]
    rw [ef] at a'
    have d1 := items_keep r d a'
    obtain ⟨y, hy, rfl⟩ := enumD_get hx
    obtain ⟨v, e2, e3⟩ := DqAll.get d1 hy
    refine ⟨⟨vs, v, SqL.of e1, e2⟩, fun v' H2 w => ?_⟩
    obtain ⟨P, v2, rfl, hp, rfl, w⟩ := w
    have := w vs (SqL.of e1)
    rw [e2] at this
    cases this
    exact iter_pair a'.rel hp (.int _) e3
  stop := fun g' env' h' σ' H' i a' hx => ⟨vs, SqL.of (keep_vw a' a _ rfl ha), by rw [DqAll.length d, hx, enumD_len]; exact Nat.le_refl _⟩
theorem iter_enumT (r : Rel K T g1 env1 h1 σ H1) {a : Addr} {vs : List V} (ha : g1.vw env1 σ ln H1 a = some (.tup vs)) (d : DqAll (g1.vw env1 σ ln H1) vs xs) :
    IterOk K T (ln ++ lk) (g1.cut (lnB env1 σ (frzI (enumD xs) ln))) (Mi.frz (frzI (enumD xs) ln) env1) σ H1 (Iue K a) (enumD xs) where
  go := fun g' env' h' σ' H' i x a' hx => by
    have e1 := keep_vw a' a _ rfl ha
    have ef : frzI (enumD xs) ln = frzI xs ln := by unfold frzI; rw [noLs_enum]
    rw [ef] at a'
    have d1 := items_keep r d a'
    obtain ⟨y, hy, rfl⟩ := enumD_get hx
    obtain ⟨v, e2, e3⟩ := DqAll.get d1 hy
    refine ⟨⟨vs, v, SqT.of e1, e2⟩, fun v' H2 w => ?_⟩
    obtain ⟨P, v2, rfl, hp, rfl, w⟩ := w
    have := w vs (SqT.of e1)
    rw [e2] at this
    cases this
    exact iter_pair a'.rel hp (.int _) e3
  stop := fun g' env' h' σ' H' i a' hx => ⟨vs, SqT.of (keep_vw a' a _ rfl ha), by rw [DqAll.length d, hx, enumD_len]⟩
end
section
variable {tg e e2 : Expr} {m m2 : MX} {p pos tpos : Pos} {elts : List Expr} {kk : Nat}
theorem i_enum (hg : Gl X "enumerate") (hm : X.mg "enumerate" = none) (he : PE X e (tE X.K T X.mg W F m)) (hs : starEach [e] X.env = [(false, eval e X.env)]) : PI X (.Tuple elts kk tpos) (.Call (.Name "enumerate" p) [e] [] pos) (tI X.K T X.mg W F (.enum m)) := by
  refine PI.imp (pi_en hg hm he hs) fun σ H Q ⟨lk, g, env, h, r, q⟩ => ?_
  simp only [evi] at q
  refine seqI r.at (fun _ z => z) q fun o env1 h1 g1 v H1 a1 v1 q1 => ?_
  unfold itemsV at q1
  split at q1
  · rename_i x ex
    rw [ex] at v1
    split at q1
    · rename_i xs exs
      obtain ⟨a, vs, rfl, d, z⟩ := items_of v1 exs
      refine ⟨a, vs, rfl, ?_⟩
      rcases z with ⟨_, z⟩ | ⟨_, z⟩
      · exact .inl ⟨(vw_some.mp z).2, q1 _ _ _ a1 (iter_enumL a1.rel z d)⟩
      · exact .inr ⟨(vw_some.mp z).2, q1 _ _ _ a1 (iter_enumT a1.rel z d)⟩
    · exact q1.elim
  · exact q1.elim
end
end Mi
/-! MiR: zip of lists and tuples, in any mix. -/
namespace Mi
open PySem PySem.Spec PyProof.Rows L2
variable {X : Cx} {K : PySem.W.Frag} {T : Addr → Prop} {mg : Str → Option Value} {W : WX} {F : Fns} {tp : Bool}

/-- a list (k), a tuple -/
def hoB (k : Bool) (xs : List V) : HO := if k = true then .lst xs else .tup xs
def HIs (k : Bool) (h : Heap) (a : Addr) (its : Array Value) : Prop := if k = true then h.IsList a its else h.IsTuple a its
def HIt (k : Bool) (h : Heap) (it a : Addr) (i : Nat) : Prop := if k = true then h.IsListIter it a i else h.IsTupleIter it a i
def itO (k : Bool) (a : Addr) : Obj := if k = true then { cls := .type "list_iterator", data := .fields #[.ref a, .int 0 0] } else { cls := .type "tuple_iterator", data := .fields #[.ref a, .int 0 0] }
theorem hoB_inj {k : Bool} {xs ys : List V} (h : hoB k xs = hoB k ys) : xs = ys := by
  cases k <;> simpa [hoB] using h
theorem hoB_solid (k : Bool) (xs : List V) : solid (hoB k xs) = true := by cases k <;> rfl
theorem Inv.seqB {k : Bool} {pins : List (Addr × Obj)} {σ : L2.St} {H : Hp} {s : Shared} {a : Addr} {xs : List V} (I : L2.Inv X pins σ H s) (h : H a = some (hoB k xs)) : ∃ its, Vals xs its ∧ HIs k s.heap a its.toArray := by
  cases k with
  | true =>
    obtain ⟨its, rv, p, _⟩ := I.list (SqL.of h)
    exact ⟨its, rv, p.isList⟩
  | false =>
    obtain ⟨its, rv, p, _⟩ := I.tuple (SqT.of h)
    exact ⟨its, rv, p⟩
theorem HIt.obj {k : Bool} {h : Heap} {it a : Addr} {i : Nat} (q : HIt k h it a i) : ∃ o, h.get? it = some o ∧ ∀ v, o.data ≠ .cell v := by
  cases k with
  | true =>
    obtain ⟨o, e, _, d⟩ := q
    exact ⟨o, e, fun v z => by rw [d] at z; cases z⟩
  | false =>
    obtain ⟨o, e, _, d⟩ := q
    exact ⟨o, e, fun v z => by rw [d] at z; cases z⟩
theorem HIt.at {k : Bool} {h h' : Heap} {it a : Addr} {i : Nat} (q : HIt k h it a i) (f : ∀ o, h.get? it = some o → h'.get? it = some o) : HIt k h' it a i := by
  cases k with
  | true => exact Heap.IsListIter.at (show h.IsListIter it a i from q) f
  | false => exact Heap.IsTupleIter.at (show h.IsTupleIter it a i from q) f
theorem drawsB (k : Bool) {prog : Program} {w : World} {A : Around} (hh : A.handled = none) (it a : Addr) (hne : a ≠ it) (its : Array Value) :
    Draws prog w A it [it, a] its.size (fun i v => its[i]? = some v) (fun i h => HIt k h it a i ∧ HIs k h a its) := by
  cases k with
  | true => exact Draws.list hh it a hne its
  | false => exact Draws.tuple hh it a hne its
theorem beginsB (k : Bool) (a : Addr) (its : Array Value) : Begins (.ref a) (itO k a) fun h => HIs k h a its := by
  cases k with
  | true => exact begins_list a its
  | false => exact begins_tuple a its
theorem HIt.new {k : Bool} {h : Heap} {it a : Addr} (e : h.get? it = some (itO k a)) : HIt k h it a 0 := by
  cases k with
  | true => exact ⟨_, e, rfl, rfl⟩
  | false => exact ⟨_, e, rfl, rfl⟩
/-- two walked together, the items in new pairs -/
def Izz (k1 : Bool) (a : Addr) (k2 : Bool) (b : Addr) : It :=
  ⟨fun i H => ∃ (xs ys : List V) (x y : V), H a = some (hoB k1 xs) ∧ H b = some (hoB k2 ys) ∧ xs[i]? = some x ∧ ys[i]? = some y,
    fun i H v H' => ∃ P x y, v = .ref P ∧ H P = none ∧ H' = upd H P (.tup [x, y]) ∧ (∀ xs, H a = some (hoB k1 xs) → xs[i]? = some x) ∧ ∀ ys, H b = some (hoB k2 ys) → ys[i]? = some y,
    fun i H => ∃ xs ys : List V, H a = some (hoB k1 xs) ∧ H b = some (hoB k2 ys) ∧ i ≤ xs.length ∧ i ≤ ys.length ∧ (i = xs.length ∨ i = ys.length)⟩
theorem sepB {z TI TO i1 i2 a b : Addr} (D : ZipSep2 z TI TO i1 i2 [i1] [i2]) (ha : a ∉ [z, TI, TO, i1, i2]) (hb : b ∉ [z, TI, TO, i1, i2]) : ZipSep2 z TI TO i1 i2 [i1, a] [i2, b] := by
  simp only [List.mem_cons, List.not_mem_nil, or_false, not_or] at ha hb
  have z1 := D.zf1
  have z2 := D.zf2
  have t1 := D.Tf1
  have t2 := D.Tf2
  have s1 := D.sep1_2
  have s2 := D.sep2_1
  simp only [List.mem_cons, List.not_mem_nil, or_false] at z1 z2 t1 t2 s1 s2
  exact ⟨D.TIz, D.TOz, D.TITO, D.TIi1, (by simp), (by simp [z1, Ne.symm ha.1]), (by simp [t1, Ne.symm ha.2.2.1]), D.TIi2, (by simp), (by simp [z2, Ne.symm hb.1]), (by simp [t2, Ne.symm hb.2.2.1]), (by simp [s1, Ne.symm hb.2.2.2.1]), (by simp [s2, Ne.symm ha.2.2.2.2])⟩
theorem turn_zz {P : Program} {w : World} {elts : List Expr} {kk : Nat} {tpos : Pos} {k1 k2 : Bool} {a b z TI TO i1 i2 : Addr} (D : ZipSep2 z TI TO i1 i2 [i1] [i2]) :
    Turn P w K (.Tuple elts kk tpos) (Izz k1 a k2 b) [z, TI, TO, i1, i2] z (fun i h => IsZip h z TI TO .none ∧ IsTupOf2 h TI (.ref i1) (.ref i2) ∧ (∃ x y, IsTupOf2 h TO x y) ∧ HIt k1 h i1 a i ∧ HIt k2 h i2 b i) where
  mem := by simp
  obj := fun i h st c hc => by
    obtain ⟨hz, hTI, ⟨x, y, hTO⟩, h1, h2⟩ := st
    rcases (by simpa using hc : c = z ∨ c = TI ∨ c = TO ∨ c = i1 ∨ c = i2) with q | q | q | q | q
    · rw [q]; exact ⟨_, hz, fun v q => nomatch q⟩
    · rw [q]; exact ⟨_, hTI, fun v q => nomatch q⟩
    · rw [q]; exact ⟨_, hTO, fun v q => nomatch q⟩
    · rw [q]; exact h1.obj
    · rw [q]; exact h2.obj
  keep := fun i h h' st k => by
    obtain ⟨hz, hTI, ⟨x, y, hTO⟩, h1, h2⟩ := st
    exact ⟨k z (by simp) _ hz, k TI (by simp) _ hTI, ⟨x, y, k TO (by simp) _ hTO⟩, h1.at fun o q => k i1 (by simp) o q, h2.at fun o q => k i2 (by simp) o q⟩
  item := by
    intro X hP hw hK hc i pins s σ H E I hf st hgo
    subst hP hw hK
    obtain ⟨hz, hTI, ⟨x0, y0, hTO⟩, h1, h2⟩ := st
    obtain ⟨xs, ys, x, y, hqx, hqy, hx, hy⟩ := hgo
    obtain ⟨its, rv, p1⟩ := Inv.seqB I hqx
    obtain ⟨its2, rv2, p2⟩ := Inv.seqB I hqy
    obtain ⟨u, hu, ru⟩ := rv.get hx
    obtain ⟨u2, hu2, ru2⟩ := rv2.get hy
    have na : a ∉ [z, TI, TO, i1, i2] := fun q => by
      have := (hf a q).1
      rw [hqx] at this
      cases this
    have nb : b ∉ [z, TI, TO, i1, i2] := fun q => by
      have := (hf b q).1
      rw [hqy] at this
      cases this
    have S := sepB D na nb
    have d1 := drawsB k1 (prog := X.prog) (w := X.w) (A := X.A.in1) (I.ok.hd hc) i1 a (fun q => na (by simp [q])) its.toArray
    have d2 := drawsB k2 (prog := X.prog) (w := X.w) (A := X.A.in1) (I.ok.hd hc) i2 b (fun q => nb (by simp [q])) its2.toArray
    have l1 : i < its.toArray.size := by simpa using (List.getElem?_eq_some_iff.mp hu).1
    have l2 : i < its2.toArray.size := by simpa using (List.getElem?_eq_some_iff.mp hu2).1
    have hzl : z < s.heap.objs.size := Heap.lt_size hz
    refine wpAny_pyNext_zipD2_item S d1 d2 hz hTI hTO ⟨h1, p1⟩ ⟨h2, p2⟩ l1 l2 fun v1 v2 h' tk e1 e2 z' TO' h1' h2' hT hsz hk => ?_
    have ev1 : v1 = u := by
      rw [← Array.getElem?_toList, hu] at e1
      exact (Option.some.inj e1).symm
    have ev2 : v2 = u2 := by
      rw [← Array.getElem?_toList, hu2] at e2
      exact (Option.some.inj e2).symm
    subst ev1 ev2
    refine ⟨_, rfl, wpAny_letOwnedTupleGo_zip (s := { s with heap := h', toks := tk }) z' fun h'' z'' sb => ?_⟩
    have hT2 : h''.get? s.heap.objs.size = some { cls := .type "tuple", data := .seq #[v1, v2] } := (sb.2 _ (Nat.ne_of_gt hzl)).trans hT
    have nw : ObjOk X.prog X.w (upd H s.heap.objs.size (.tup [x, y])) h'' s.heap.objs.size (.tup [x, y]) :=
      ⟨by show 2 ≤ sizeLine; decide, [v1, v2], .cons ru (.cons ru2 .nil), ⟨_, hT2, rfl, _, rfl⟩⟩
    have I1 : L2.Inv X pins σ (upd H s.heap.objs.size (.tup [x, y])) { s with heap := h'', toks := tk } :=
      I.turnedNew (ch := [z, TI, TO, i1, i2]) (fun c o hb q => (sb.2 c (fun q' => hb (by simp [q']))).trans (hk c o (fun q' => hb (by simp [q'])) (fun q' => hb (by simp [q'])) (fun q' => hb (by simp [q'])) (fun q' => hb (by simp [q'])) q)) hf (Nat.le_refl _) nw
    have z1 := D.zf1
    have z2 := D.zf2
    simp only [List.mem_cons, List.not_mem_nil, or_false] at z1 z2
    refine ⟨.ref s.heap.objs.size, _, I1, rfl, ⟨_, x, y, rfl, I.hok.fresh (Nat.le_refl _), rfl, fun l hl => ?_, fun l hl => ?_⟩, ⟨z'', ?_, ⟨v1, v2, ?_⟩, ?_, ?_⟩, fun c hcm => ?_⟩
    · rw [hqx] at hl
      rw [← hoB_inj (Option.some.inj hl)]
      exact hx
    · rw [hqy] at hl
      rw [← hoB_inj (Option.some.inj hl)]
      exact hy
    · exact (sb.2 _ D.TIz).trans (hk _ _ D.TIz D.TITO D.TIi1 D.TIi2 hTI)
    · exact (sb.2 _ D.TOz).trans TO'
    · exact h1'.1.at fun o q => (sb.2 _ (Ne.symm z1)).trans q
    · exact h2'.1.at fun o q => (sb.2 _ (Ne.symm z2)).trans q
    · have hlt : c < s.heap.objs.size := by
        rcases (by simpa using hcm : c = z ∨ c = TI ∨ c = TO ∨ c = i1 ∨ c = i2) with q | q | q | q | q
        · rw [q]; exact hzl
        · rw [q]; exact Heap.lt_size hTI
        · rw [q]; exact Heap.lt_size hTO
        · rw [q]; obtain ⟨_, e, _⟩ := h1.obj; exact Heap.lt_size e
        · rw [q]; obtain ⟨_, e, _⟩ := h2.obj; exact Heap.lt_size e
      rw [upd_ne (Nat.ne_of_lt hlt)]
      exact (hf c hcm).1
  done := by
    intro X hP hw hK hc i pins s σ H E I hf st hgo
    subst hP hw hK
    obtain ⟨hz, hTI, ⟨x0, y0, hTO⟩, h1, h2⟩ := st
    obtain ⟨xs, ys, hqx, hqy, le1, le2, hend⟩ := hgo
    obtain ⟨its, rv, p1⟩ := Inv.seqB I hqx
    obtain ⟨its2, rv2, p2⟩ := Inv.seqB I hqy
    have na : a ∉ [z, TI, TO, i1, i2] := fun q => by
      have := (hf a q).1
      rw [hqx] at this
      cases this
    have nb : b ∉ [z, TI, TO, i1, i2] := fun q => by
      have := (hf b q).1
      rw [hqy] at this
      cases this
    have S := sepB D na nb
    have d1 := drawsB k1 (prog := X.prog) (w := X.w) (A := X.A.in1) (I.ok.hd hc) i1 a (fun q => na (by simp [q])) its.toArray
    have d2 := drawsB k2 (prog := X.prog) (w := X.w) (A := X.A.in1) (I.ok.hd hc) i2 b (fun q => nb (by simp [q])) its2.toArray
    have l1 : xs.length = its.toArray.size := by rw [List.size_toArray]; exact rv.length
    have l2 : ys.length = its2.toArray.size := by rw [List.size_toArray]; exact rv2.length
    exact wpAny_pyNext_zipD2_end S d1 d2 hz hTI hTO ⟨h1, p1⟩ ⟨h2, p2⟩ (by omega) (by omega) (by omega) fun h' tk hk => ⟨rfl, I.turnedL (t' := tk) (ch := [z, TI, TO, i1, i2]) (fun c o hb q =>
      hk c o (fun q' => hb (by simp [q'])) (fun q' => hb (by simp [q'])) (fun q' => hb (by simp [q'])) (fun q' => hb (by simp [q'])) q) hf⟩
  self := fun A i s Q E st h => wpAny_pyIter_zip st.1 h
def iZz (ta tb : TE) : TI := fun σ H R => ta σ H fun x H1 => tb σ H1 fun y H2 => ∃ a b k1 k2 xs ys, [x, y] = [V.ref a, V.ref b] ∧ H2 a = some (hoB k1 xs) ∧ H2 b = some (hoB k2 ys) ∧ R (Izz k1 a k2 b) H2
theorem pi_zz {e e2 : Expr} {te te2 : TE} {p pos tpos : Pos} {elts : List Expr} {kk : Nat} (hg : Gl X "zip") (hm : X.mg "zip" = none) (he : PE X e te) (he2 : PE X e2 te2)
    (hs : starEach [e, e2] X.env = (false, eval e X.env) :: starEach [e2] X.env) (hs2 : starEach [e2] X.env = (false, eval e2 X.env) :: starEach [] X.env) (hpl : (backTo pos (starEach [e2] X.env)).any (·.1) = false) :
    PI X (.Tuple elts kk tpos) (.Call (.Name "zip" p) [e, e2] [] pos) (iZz te te2) := by
  refine ⟨fun pins s σ H R I hw => ?_⟩
  have ha : PA X [e, e2] (tCons te (tCons te2 tNil)) := pa_cons he (pa_cons he2 pa_nil hs2) hs
  refine Call_ (ld_blt I hg hm PyProof.Rows.boot_zip (PyProof.Rows.callWith_type1 (thn (ha.run pos pins s σ H (fun vs H2 => ∃ a b k1 k2 xs ys, vs = [V.ref a, V.ref b] ∧ H2 a = some (hoB k1 xs) ∧ H2 b = some (hoB k2 ys) ∧ R (Izz k1 a k2 b) H2) I hw) fun us s1 hs1 => ?_) hs hpl))
  obtain ⟨vs, H1, I1, r1, a, b, k1, k2, xs, ys, rfl, hqx, hqy, q⟩ := hs1
  cases r1 with
  | cons r rr =>
    cases rr with
    | cons r' rr =>
      cases rr
      cases r
      cases r'
      obtain ⟨its, rv, p1⟩ := Inv.seqB I1 hqx
      obtain ⟨its2, rv2, p2⟩ := Inv.seqB I1 hqy
      refine zip_begins2 (beginsB k1 a its.toArray) (beginsB k2 b its2.toArray) p1 p2 fun h' hz hTI hTO g1 g2 hsz hk => wpAny_pyIter_zip hz ?_
      have D : ZipSep2 (s1.heap.objs.size + 4) (s1.heap.objs.size + 2) (s1.heap.objs.size + 3) s1.heap.objs.size (s1.heap.objs.size + 1) [s1.heap.objs.size] [s1.heap.objs.size + 1] := zip_sep2 (fp1 := []) (fp2 := []) (by simp) (by simp)
      refine ⟨s1.heap.objs.size + 4, [s1.heap.objs.size + 4, s1.heap.objs.size + 2, s1.heap.objs.size + 3, s1.heap.objs.size, s1.heap.objs.size + 1], _, _, H1, rfl, I1.kept (t' := s1.toks) hk, turn_zz D, ⟨hz, hTI, ⟨_, _, hTO⟩, HIt.new g1, HIt.new g2⟩, fun c hcm => ?_, q⟩
      have hle : s1.heap.objs.size ≤ c := by
        rcases (by simpa using hcm : c = s1.heap.objs.size + 4 ∨ c = s1.heap.objs.size + 2 ∨ c = s1.heap.objs.size + 3 ∨ c = s1.heap.objs.size ∨ c = s1.heap.objs.size + 1) with z | z | z | z | z
        · rw [z]; exact Nat.le_add_right _ _
        · rw [z]; exact Nat.le_add_right _ _
        · rw [z]; exact Nat.le_add_right _ _
        · rw [z]; exact Nat.le_refl _
        · rw [z]; exact Nat.le_add_right _ _
      exact I1.fpOk hle (I1.hok.fresh hle)

section
variable {lk ln : List Nat} {g g1 g' : Gh} {env env1 env' : Mi.Env} {h h1 h' : Hx} {σ σ' : L2.St} {H H1 H' : Hp} {xs ys zs : List PD}
theorem item_keep {v : V} {x : PD} (d : Dq (g1.vw env1 σ ln H1) v x) (nx : noLs zs = true → noL x = true) (a : AtS K T (ln ++ lk) (g1.cut (lnB env1 σ (frzI zs ln))) (Mi.frz (frzI zs ln) env1) σ H1 g' env' h' σ' H') : Dq (fz g'.O H') v x := by
  by_cases z : noLs zs = true
  · refine Dq.noL (fun b ys e => ?_) d (nx z)
    have e2 := keep_vw a b _ rfl e
    refine fz_some.mpr ⟨?_, e2⟩
    cases q : g'.O b with
    | false => rfl
    | true =>
      obtain ⟨u, f1, f2⟩ := a.rel.kind b (.inl q)
      rw [e2] at f1
      cases f1
      simp [celly] at f2
  · have e : frzI zs ln = ln := by
      unfold frzI
      rw [if_neg z]
    rw [e] at a
    have := a.fr.view0
    rw [cut_view] at this
    exact d.up this
theorem zipD_get {i : Nat} {z : PD} (e : (zipD xs ys)[i]? = some z) : ∃ x y, xs[i]? = some x ∧ ys[i]? = some y ∧ z = .tuple [x, y] := by
  unfold zipD at e
  rw [List.getElem?_map] at e
  cases q : (xs.zip ys)[i]? with
  | none => rw [q] at e; cases e
  | some p =>
    obtain ⟨x, y⟩ := p
    rw [q] at e
    rw [List.getElem?_zip_eq_some] at q
    exact ⟨x, y, q.1, q.2, (Option.some.inj e).symm⟩
theorem zipD_len : (zipD xs ys).length = min xs.length ys.length := by simp [zipD]
theorem iter_zip {k1 k2 : Bool} {a b : Addr} {vs ws : List V} (ha : g1.vw env1 σ ln H1 a = some (hoB k1 vs)) (hb : g1.vw env1 σ ln H1 b = some (hoB k2 ws)) (d1 : DqAll (g1.vw env1 σ ln H1) vs xs) (d2 : DqAll (g1.vw env1 σ ln H1) ws ys) :
    IterOk K T (ln ++ lk) (g1.cut (lnB env1 σ (frzI (zipD xs ys) ln))) (Mi.frz (frzI (zipD xs ys) ln) env1) σ H1 (Izz k1 a k2 b) (zipD xs ys) where
  go := fun g' env' h' σ' H' i z a' hz => by
    have e1 := keep_vw a' a _ (hoB_solid _ _) ha
    have e2 := keep_vw a' b _ (hoB_solid _ _) hb
    obtain ⟨x, y, hx, hy, rfl⟩ := zipD_get hz
    obtain ⟨v, f1, f2⟩ := DqAll.get d1 hx
    obtain ⟨w, f3, f4⟩ := DqAll.get d2 hy
    have nn : noLs (zipD xs ys) = true → noL x = true ∧ noL y = true := fun q => by
      have := noLs_get (y := .tuple [x, y]) q hz
      simpa [noL, noLs] using this
    refine ⟨⟨vs, ws, v, w, e1, e2, f1, f3⟩, fun v' H2 q => ?_⟩
    obtain ⟨P, v2, w2, rfl, hp, rfl, q1, q2⟩ := q
    have q3 := q1 vs e1
    have q4 := q2 ws e2
    rw [f1] at q3
    rw [f3] at q4
    cases q3
    cases q4
    exact iter_pair a'.rel hp (item_keep f2 (fun z => (nn z).1) a') (item_keep f4 (fun z => (nn z).2) a')
  stop := fun g' env' h' σ' H' i a' hi => by
    have e1 := keep_vw a' a _ (hoB_solid _ _) ha
    have e2 := keep_vw a' b _ (hoB_solid _ _) hb
    rw [zipD_len] at hi
    have l1 := DqAll.length d1
    have l2 := DqAll.length d2
    exact ⟨vs, ws, e1, e2, by omega, by omega, by omega⟩
end
theorem items_ofB {Wv : Hp} {v : V} {x : PD} {xs : List PD} (d : Dq Wv v x) (e : itemsOf x = some xs) : ∃ k a vs, v = .ref a ∧ DqAll Wv vs xs ∧ Wv a = some (hoB k vs) := by
  obtain ⟨a, vs, rfl, d', z⟩ := items_of d e
  rcases z with ⟨_, z⟩ | ⟨_, z⟩
  · exact ⟨true, a, vs, rfl, d', z⟩
  · exact ⟨false, a, vs, rfl, d', z⟩
theorem itemsV_inv {lk : List Nat} {g : Gh} {env env1 : Mi.Env} {h1 : Hx} {σ : L2.St} {H : Hp} {o : Out} {body : List PD × List Nat → Mi.Env → Hx → R (List PD × List Nat)} {Q : It → Hp → Prop} (q : AnsI K T mg W lk g env σ H ((itemsV o env1 h1).bind body) Q) :
    ∃ x xs, o.v = .d x ∧ itemsOf x = some xs ∧ AnsI K T mg W lk g env σ H (body (xs, o.ln) env1 h1) Q := by
  obtain ⟨ov, fr, ln⟩ := o
  cases ov with
  | d x =>
    cases e : itemsOf x with
    | none =>
      simp only [itemsV, e, R.bind] at q
      exact q.elim
    | some xs =>
      simp only [itemsV, e, R.bind] at q
      exact ⟨x, xs, rfl, e, q⟩
  | _ =>
    simp only [itemsV, R.bind] at q
    exact q.elim
theorem i_zip {e e2 : Expr} {m m2 : MX} {p pos tpos : Pos} {elts : List Expr} {kk : Nat} (hg : Gl X "zip") (hm : X.mg "zip" = none) (he : PE X e (tE X.K T X.mg W F m)) (he2 : PE X e2 (tE X.K T X.mg W F m2))
    (hs : starEach [e, e2] X.env = (false, eval e X.env) :: starEach [e2] X.env) (hs2 : starEach [e2] X.env = (false, eval e2 X.env) :: starEach [] X.env) (hpl : (backTo pos (starEach [e2] X.env)).any (·.1) = false) :
    PI X (.Tuple elts kk tpos) (.Call (.Name "zip" p) [e, e2] [] pos) (tI X.K T X.mg W F (.zip m m2)) := by
  refine PI.imp (pi_zz hg hm he he2 hs hs2 hpl) fun σ H Q ⟨lk, g, env, h, r, q⟩ => ?_
  simp only [evi] at q
  refine seqI r.at (fun _ z => z) q fun o env1 h1 g1 v H1 a1 v1 q1 => ?_
  refine seqI a1 mem_app_r q1 fun o2 env2 h2 g2 v2 H2 a2 w2 q2 => ?_
  have v1' := v1.grow (a2.fr.view mem_app_l) a2.fr.pre
  obtain ⟨x, xs, ex, exs, q3⟩ := itemsV_inv q2
  obtain ⟨y, ys, ey, eys, q4⟩ := itemsV_inv q3
  rw [ex] at v1'
  rw [ey] at w2
  obtain ⟨k1, a, vs, rfl, d1, z1⟩ := items_ofB v1' exs
  obtain ⟨k2, b, ws, rfl, d2, z2⟩ := items_ofB w2 eys
  have u1 : Sm (g2.vw env2 σ o.ln H2) (g2.vw env2 σ (o.ln ++ o2.ln) H2) := vw_le fun i hi => List.mem_append_left _ hi
  have u2 : Sm (g2.vw env2 σ o2.ln H2) (g2.vw env2 σ (o.ln ++ o2.ln) H2) := vw_le fun i hi => List.mem_append_right _ hi
  exact ⟨a, b, k1, k2, vs, ws, rfl, (vw_some.mp z1).2, (vw_some.mp z2).2, q4 _ _ _ (a1.trans a2 mem_app_r) (iter_zip (u1 _ _ (hoB_solid _ _) z1) (u2 _ _ (hoB_solid _ _) z2) (d1.up u1) (d2.up u2))⟩
end Mi
/-! MiS: blocks: the own names of a comprehension. -/
namespace Mi
open PySem PySem.Spec PyProof.Rows L2
variable {X : Cx} {K : PySem.W.Frag} {T : Addr → Prop} {mg : Str → Option Value} {W : WX} {F : Fns} {tp : Bool}

theorem wipeE_get {j : Nat} : ∀ {own : List Nat} {env : Mi.Env}, (wipeE env own)[j]? = if j ∈ own then (env[j]?).map fun _ => none else env[j]?
  | [], env => by simp [wipeE]
  | i :: r, env => by
    show ((wipeE env r).set i none)[j]? = _
    by_cases z : j = i
    · subst z
      rw [List.getElem?_set_self', wipeE_get, if_pos List.mem_cons_self]
      split
      · cases env[j]? <;> rfl
      · cases env[j]? <;> rfl
    · rw [List.getElem?_set_ne (Ne.symm z), wipeE_get]
      by_cases w : j ∈ r
      · rw [if_pos w, if_pos (List.mem_cons_of_mem _ w)]
      · rw [if_neg w, if_neg (by simp [z, w])]
theorem wipe_get {j : Nat} : ∀ {own : List Nat} {σ : L2.St}, (wipe σ own)[j]? = if j ∈ own then (σ[j]?).map fun _ => none else σ[j]?
  | [], σ => by simp [wipe]
  | i :: r, σ => by
    show ((wipe σ r).set i none)[j]? = _
    by_cases z : j = i
    · subst z
      rw [List.getElem?_set_self', wipe_get, if_pos List.mem_cons_self]
      split
      · cases σ[j]? <;> rfl
      · cases σ[j]? <;> rfl
    · rw [List.getElem?_set_ne (Ne.symm z), wipe_get]
      by_cases w : j ∈ r
      · rw [if_pos w, if_pos (List.mem_cons_of_mem _ w)]
      · rw [if_neg w, if_neg (by simp [z, w])]
theorem wipeE_len : ∀ (own : List Nat) (env : Mi.Env), (wipeE env own).length = env.length
  | [], _ => rfl
  | i :: r, env => by
    show ((wipeE env r).set i none).length = _
    rw [List.length_set, wipeE_len r]
theorem ownAt_wipe {own : List Nat} {env : Mi.Env} {σ : L2.St} {i : Nat} {a : Addr} : ownAt (wipeE env own) (wipe σ own) i a ↔ ownAt env σ i a ∧ i ∉ own := by
  unfold ownAt
  rw [wipeE_get, wipe_get]
  by_cases w : i ∈ own
  · rw [if_pos w, if_pos w]
    constructor
    · rintro ⟨⟨v, e⟩, _⟩
      cases q : env[i]? with
      | none => rw [q] at e; cases e
      | some o => rw [q] at e; cases e
    · exact fun z => absurd w z.2
  · rw [if_neg w, if_neg w]
    exact ⟨fun z => ⟨z, w⟩, fun z => z.1⟩
section
variable {lk : List Nat} {g g1 g' : Gh} {env env1 env' : Mi.Env} {h h1 h' : Hx} {σ σ1 : L2.St} {H H1 H' : Hp} {own : List Nat}
theorem Rel.wipe (r : Rel K T g env h σ H) (own : List Nat) : Rel K T g (wipeE env own) h (L2.wipe σ own) H where
  len := by rw [wipeE_len, wipe_length]; exact r.len
  slot := fun i v e => by
    rw [wipeE_get] at e
    by_cases w : i ∈ own
    · rw [if_pos w] at e
      cases q : env[i]? with
      | none => rw [q] at e; cases e
      | some o => rw [q] at e; cases e
    · rw [if_neg w] at e
      obtain ⟨u, e1, e2⟩ := r.slot i v e
      exact ⟨u, by rw [wipe_get, if_neg w]; exact e1, e2⟩
  own := fun i v e => by
    rw [wipeE_get] at e
    by_cases w : i ∈ own
    · rw [if_pos w] at e
      cases q : env[i]? with
      | none => rw [q] at e; cases e
      | some o => rw [q] at e; cases e
    · rw [if_neg w] at e
      obtain ⟨a, e1, e2⟩ := r.own i v e
      exact ⟨a, by rw [wipe_get, if_neg w]; exact e1, e2⟩
  sep := fun i j a q q' => r.sep i j a (ownAt_wipe.mp q).1 (ownAt_wipe.mp q').1
  nb := fun i a q => r.nb i a (ownAt_wipe.mp q).1
  box := r.box
  rlen := r.rlen
  rnd := r.rnd
  dis := r.dis
  kind := r.kind
  tab := r.tab
theorem AtS.wipe (a : AtS K T lk g env σ H g1 env1 h1 σ1 H1) (hn : ∀ i ∈ own, i ∉ lk) : AtS K T lk g env σ H g1 (wipeE env1 own) h1 (L2.wipe σ1 own) H1 where
  fr :=
    { rest := fun b b1 b2 b3 => by
        obtain ⟨q1, q2, q3, q4⟩ := a.fr.rest b b1 b2 b3
        exact ⟨q1, q2, fun i q => q3 i (ownAt_wipe.mp q).1, q4⟩
      keep := a.fr.keep
      pre := a.fr.pre
      al := a.fr.al
      lock := fun i hi => by
        have w : i ∉ own := fun z => hn i z hi
        obtain ⟨q1, q2⟩ := a.fr.lock i hi
        refine ⟨by rw [wipe_get, if_neg w]; exact q1, fun b o z q e => ?_⟩
        obtain ⟨r1, r2⟩ := q2 b o z q e
        exact ⟨r1, r2.imp id fun x => ownAt_wipe.mpr ⟨x, w⟩⟩
      size := by rw [wipeE_len]; exact a.fr.size
      old := a.fr.old
      there := a.fr.there }
  rel := a.rel.wipe own
theorem back_get {eB : Mi.Env} (hl : eB.length = env'.length) {j : Nat} : ∀ {own : List Nat}, (back eB env' own)[j]? = if j ∈ own then eB[j]? else env'[j]?
  | [] => by simp [back]
  | i :: r => by
    show (match eB[i]? with | some s => (back eB env' r).set i s | none => back eB env' r)[j]? = _
    have ih := back_get hl (j := j) (own := r)
    cases q : eB[i]? with
    | none =>
      show (back eB env' r)[j]? = _
      rw [ih]
      by_cases z : j = i
      · subst z
        rw [if_pos List.mem_cons_self]
        have e1 : eB.length ≤ j := by simpa using q
        have e2 : env'[j]? = none := by
          rw [List.getElem?_eq_none_iff]
          omega
        split
        · rfl
        · rw [q, e2]
      · by_cases w : j ∈ r
        · rw [if_pos w, if_pos (List.mem_cons_of_mem _ w)]
        · rw [if_neg w, if_neg (by simp [z, w])]
    | some s =>
      show ((back eB env' r).set i s)[j]? = _
      by_cases z : j = i
      · subst z
        rw [List.getElem?_set_self', ih, if_pos List.mem_cons_self, q]
        have lt : j < eB.length := (List.getElem?_eq_some_iff.mp q).1
        split
        · rfl
        · have : ∃ o, env'[j]? = some o := ⟨_, List.getElem?_eq_getElem (by omega)⟩
          obtain ⟨o, eo⟩ := this
          rw [eo]
          rfl
      · rw [List.getElem?_set_ne (Ne.symm z), ih]
        by_cases w : j ∈ r
        · rw [if_pos w, if_pos (List.mem_cons_of_mem _ w)]
        · rw [if_neg w, if_neg (by simp [z, w])]
theorem back_len {eB : Mi.Env} : ∀ (own : List Nat), (back eB env' own).length = env'.length
  | [] => rfl
  | i :: r => by
    show (match eB[i]? with | some s => (back eB env' r).set i s | none => back eB env' r).length = _
    split
    · rw [List.length_set, back_len r]
    · exact back_len r
/-- behind a block -/
theorem AtS.back {eB : Mi.Env} {gB : Gh} (rB : Rel K T gB eB h1 σ H1) (hn : ∀ i ∈ own, i ∉ lk) (a : AtS K T lk gB (wipeE eB own) (L2.wipe σ own) H1 g' env' h' (L2.wipe σ own) H') (mono : ∀ j c, ownAt env' (L2.wipe σ own) j c → ownAt (wipeE eB own) (L2.wipe σ own) j c) :
    At K T lk gB eB σ H1 g' (Mi.back eB env' own) h' H' := by
  have hl : eB.length = env'.length := by
    have := a.fr.size
    rw [wipeE_len] at this
    exact this.symm
  -- an own name's object behind the block
  have cell : ∀ j c, j ∈ own → ownAt eB σ j c → g'.O c = true ∧ H' c = H1 c ∧ (∀ i, ¬ ownAt env' (L2.wipe σ own) i c) ∧ c ∉ g'.ρ := fun j c hj q => by
    refine a.fr.rest c (rB.ownO q) (fun i w => ?_) (rB.nb j c q)
    obtain ⟨w1, w2⟩ := ownAt_wipe.mp w
    exact w2 (rB.sep i j c w1 q ▸ hj)
  have own1 : ∀ j c, ownAt (Mi.back eB env' own) σ j c → (j ∈ own ∧ ownAt eB σ j c) ∨ (j ∉ own ∧ ownAt env' (L2.wipe σ own) j c) := fun j c q => by
    obtain ⟨⟨v, e1⟩, e2⟩ := q
    rw [back_get hl] at e1
    by_cases w : j ∈ own
    · rw [if_pos w] at e1
      exact .inl ⟨w, ⟨v, e1⟩, e2⟩
    · rw [if_neg w] at e1
      exact .inr ⟨w, ⟨v, e1⟩, by rw [wipe_get, if_neg w]; exact e2⟩
  refine ⟨⟨fun c c1 c2 c3 => ?_, a.fr.keep, a.fr.pre, a.fr.al, fun i hi => ?_, by rw [back_len]; exact hl.symm, a.fr.old, a.fr.there⟩,
    ⟨by rw [back_len, ← hl]; exact rB.len, fun j v e => ?_, fun j v e => ?_, fun j k c q q' => ?_, fun j c q => ?_, a.rel.box, a.rel.rlen, a.rel.rnd, a.rel.dis, a.rel.kind, a.rel.tab⟩, fun j c q => ?_⟩
  · obtain ⟨q1, q2, q3, q4⟩ := a.fr.rest c c1 (fun i q => c2 i (ownAt_wipe.mp q).1) c3
    refine ⟨q1, q2, fun j q => ?_, q4⟩
    rcases own1 j c q with ⟨_, z⟩ | ⟨_, z⟩
    · exact c2 j z
    · exact q3 j z
  · have w : i ∉ own := fun z => hn i z hi
    obtain ⟨q1, q2⟩ := a.fr.lock i hi
    refine ⟨rfl, fun c o z q e => ?_⟩
    obtain ⟨r1, r2⟩ := q2 c o z (ownAt_wipe.mpr ⟨q, w⟩) e
    refine ⟨r1, r2.imp id fun x => ?_⟩
    obtain ⟨⟨v, e1⟩, e2⟩ := x
    exact ⟨⟨v, by rw [back_get hl, if_neg w]; exact e1⟩, by rw [wipe_get, if_neg w] at e2; exact e2⟩
  · rw [back_get hl] at e
    by_cases w : j ∈ own
    · rw [if_pos w] at e
      obtain ⟨u, e1, e2⟩ := rB.slot j v e
      exact ⟨u, e1, e2.grow a.fr.view0 a.fr.pre⟩
    · rw [if_neg w] at e
      obtain ⟨u, e1, e2⟩ := a.rel.slot j v e
      rw [wipe_get, if_neg w] at e1
      exact ⟨u, e1, e2⟩
  · rw [back_get hl] at e
    by_cases w : j ∈ own
    · rw [if_pos w] at e
      obtain ⟨c, e1, e2, e3, e4⟩ := rB.own j v e
      obtain ⟨q1, q2, _, _⟩ := cell j c w ⟨⟨v, e⟩, e1⟩
      exact ⟨c, e1, q1, CR.up a.fr.view0 q2 e3, e4⟩
    · rw [if_neg w] at e
      obtain ⟨c, e1, e2⟩ := a.rel.own j v e
      rw [wipe_get, if_neg w] at e1
      exact ⟨c, e1, e2⟩
  · rcases own1 j c q with ⟨z1, z2⟩ | ⟨z1, z2⟩
    · rcases own1 k c q' with ⟨w1, w2⟩ | ⟨w1, w2⟩
      · exact rB.sep j k c z2 w2
      · exact absurd w2 ((cell j c z1 z2).2.2.1 k)
    · rcases own1 k c q' with ⟨w1, w2⟩ | ⟨w1, w2⟩
      · exact absurd z2 ((cell k c w1 w2).2.2.1 j)
      · exact a.rel.sep j k c z2 w2
  · rcases own1 j c q with ⟨z1, z2⟩ | ⟨z1, z2⟩
    · exact (cell j c z1 z2).2.2.2
    · exact a.rel.nb j c z2
  · rcases own1 j c q with ⟨z1, z2⟩ | ⟨z1, z2⟩
    · exact z2
    · exact (ownAt_wipe.mp (mono j c z2)).1
/-- an object that is nobody's as yet is written -/
theorem AtS.tmpO {D : Addr} {o1 o2 : HO} (a : AtS K T lk g env σ H g1 env1 h1 σ1 H1) (hD : H D = none) (h1D : H1 D = some o1) (ho1 : ∀ q, o1 ≠ .tbl q) (ho2 : celly o2 = true) (hO : g1.O D = true) (hu : ∀ i, ¬ ownAt env1 σ1 i D) (hρ : D ∉ g1.ρ) : AtS K T lk g env σ H g1 env1 h1 σ1 (upd H1 D o2) := by
  have ev : fz g1.O (upd H1 D o2) = fz g1.O H1 := fz_upd hO
  have ne : ∀ {b : Addr} {o : HO}, H b = some o → b ≠ D := fun e => ne_of_none e hD
  refine ⟨⟨fun b b1 b2 b3 => ?_, fun b o z b1 b2 => ?_, a.fr.pre, a.fr.al, fun j hj => ?_, a.fr.size, a.fr.old, fun b e => ?_⟩,
    ⟨a.rel.len, fun j w e => ?_, fun j w e => ?_, a.rel.sep, a.rel.nb, fun j b e => ?_, a.rel.rlen, a.rel.rnd, a.rel.dis, fun b q => ?_, fun P hP => ?_⟩⟩
  · obtain ⟨q1, q2, q3, q4⟩ := a.fr.rest b b1 b2 b3
    refine ⟨q1, ?_, q3, q4⟩
    by_cases z : b = D
    · exfalso
      rw [z, h1D, hD] at q2
      cases q2
    · rw [upd_ne z]
      exact q2
  · obtain ⟨q1, q2⟩ := a.fr.keep b o z b1 b2
    exact ⟨q1, by rw [upd_ne (ne b2)]; exact q2⟩
  · obtain ⟨q1, q2⟩ := a.fr.lock j hj
    refine ⟨q1, fun b o z q e => ?_⟩
    obtain ⟨r1, r2⟩ := q2 b o z q e
    exact ⟨by rw [upd_ne (ne e)]; exact r1, r2⟩
  · by_cases z : b = D
    · rw [z]; exact hD
    · rw [upd_ne z] at e
      exact a.fr.there b e
  · obtain ⟨u, e1, e2⟩ := a.rel.slot j w e
    exact ⟨u, e1, by rw [ev]; exact e2⟩
  · obtain ⟨b, e1, e2, e3, e4⟩ := a.rel.own j w e
    refine ⟨b, e1, e2, ?_, e4⟩
    rw [ev]
    exact CR.up (Sm.refl _) (upd_ne fun y => hu j (y ▸ ⟨⟨w, e⟩, e1⟩)) e3
  · obtain ⟨b', e1, e2, e3⟩ := a.rel.box j b e
    refine ⟨b', e1, e2, ?_⟩
    rw [fz_upd (by simp [hO])]
    exact BR.up (Sm.refl _) (upd_ne fun y => hρ (y ▸ List.mem_of_getElem? e1)) e3
  · by_cases z : b = D
    · exact ⟨_, by rw [z]; exact upd_same, ho2⟩
    · obtain ⟨o, e1, e2⟩ := a.rel.kind b q
      exact ⟨o, by rw [upd_ne z]; exact e1, e2⟩
  · obtain ⟨ps, e1, e2⟩ := a.rel.tab P hP
    refine ⟨ps, ?_, e2⟩
    rw [upd_ne fun z => by rw [z, h1D] at e1; exact ho1 _ (Option.some.inj e1)]
    exact e1
/-- a list so -/
theorem AtS.tmp {D : Addr} {vs ws : List V} (a : AtS K T lk g env σ H g1 env1 h1 σ1 H1) (hD : H D = none) (h1D : H1 D = some (.lst ws)) (hO : g1.O D = true) (hu : ∀ i, ¬ ownAt env1 σ1 i D) (hρ : D ∉ g1.ρ) : AtS K T lk g env σ H g1 env1 h1 σ1 (upd H1 D (.lst vs)) :=
  a.tmpO hD h1D (fun q z => by cases z) rfl hO hu hρ
end
end Mi
/-! MiT: list comprehensions. -/
namespace Mi
open PySem PySem.Spec PyProof.Rows L2
variable {X : Cx} {K : PySem.W.Frag} {T : Addr → Prop} {mg : Str → Option Value} {W : WX} {F : Fns} {tp : Bool}

/-- nothing is raised -/
def Wn : WX := fun _ _ _ _ => False
theorem takes_n {X : Cx} : Takes X Wn := fun _ _ ⟨_, _, _, _, _, _, _, _, _, _, _, _, _, _, _, _, w⟩ => w.elim
theorem wipe_set {own : List Nat} {σ : L2.St} {i : Nat} {x : Option V} (h : i ∈ own) : L2.wipe (σ.set i x) own = L2.wipe σ own := by
  refine List.ext_getElem? fun j => ?_
  rw [wipe_get, wipe_get]
  by_cases w : j ∈ own
  · rw [if_pos w, if_pos w]
    by_cases z : j = i
    · subst z
      rw [List.getElem?_set_self']
      cases σ[j]? <;> rfl
    · rw [List.getElem?_set_ne (Ne.symm z)]
  · rw [if_neg w, if_neg w, List.getElem?_set_ne fun (z : i = j) => w (by rw [← z]; exact h)]
theorem wipe_wipe {own : List Nat} {σ : L2.St} : L2.wipe (L2.wipe σ own) own = L2.wipe σ own := by
  refine List.ext_getElem? fun j => ?_
  rw [wipe_get]
  by_cases w : j ∈ own
  · rw [if_pos w, wipe_get, if_pos w]
    cases σ[j]? <;> rfl
  · rw [if_neg w]
section
variable {lk : List Nat} {g g1 g2 : Gh} {env env1 env2 : Mi.Env} {h h1 h2 : Hx} {σ σ1 σ2 : L2.St} {H H1 H2 : Hp}
theorem bindAll_ok2 (r : Rel K T g env h σ H) {own : List Nat} : ∀ {is : List Nat} {ds : List PD} {vs : List V} {env1 env2 : Mi.Env} {σ1 : L2.St}, AtS K T lk g env σ H g1 env1 h1 σ1 H1 → (∀ i ∈ is, i ∉ lk) → (∀ i ∈ is, i ∈ own) → DqAll (fz g1.O H1) vs ds → bindAll is ds env1 = some env2 → {Q : L2.St → Hp → Prop} →
    (∀ σ2, AtS K T lk g env σ H g1 env2 h1 σ2 H1 → L2.wipe σ2 own = L2.wipe σ1 own → (∀ j c, ownAt env2 σ2 j c → ownAt env1 σ1 j c) → Q σ2 H1) → gNames is vs σ1 H1 Q
  | [], ds, vs, env1, env2, σ1, a, hi, ho, d, e, Q, k => by
    cases ds with
    | nil =>
      cases d
      simp only [bindAll, Option.some.injEq] at e
      subst e
      exact ⟨rfl, k σ1 a rfl fun _ _ q => q⟩
    | cons x xs => simp [bindAll] at e
  | i :: is, ds, vs, env1, env2, σ1, a, hi, ho, d, e, Q, k => by
    cases ds with
    | nil => simp [bindAll] at e
    | cons x xs =>
      cases d with
      | cons d1 d2 =>
        simp only [bindAll] at e
        refine ⟨_, _, rfl, ?_⟩
        have a2 := a.put r (i := i) (s := ⟨.d x, false⟩) (hi i List.mem_cons_self) (by unfold SlotR; rw [if_neg (by simp)]; exact d1)
        refine bindAll_ok2 r (own := own) a2 (fun j hj => hi j (List.mem_cons_of_mem _ hj)) (fun j hj => ho j (List.mem_cons_of_mem _ hj)) d2 e fun σ2 a3 w m => k σ2 a3 (w.trans (wipe_set (ho i List.mem_cons_self))) fun j c q => ?_
        rcases ownAt_set (m j c q) with ⟨_, z, _⟩ | ⟨_, z⟩
        · cases z
        · exact z
mutual
theorem bindP_ok2 (r : Rel K T g env h σ H) {own : List Nat} : ∀ {p : Pat} {x : PD} {v : V} {env1 env2 : Mi.Env} {σ1 : L2.St}, AtS K T lk g env σ H g1 env1 h1 σ1 H1 → (∀ i ∈ p.all, i ∉ lk) → (∀ i ∈ p.all, i ∈ own) → Dq (fz g1.O H1) v x → bindP p x env1 = some env2 → {Q : L2.St → Hp → Prop} →
    (∀ σ2, AtS K T lk g env σ H g1 env2 h1 σ2 H1 → L2.wipe σ2 own = L2.wipe σ1 own → (∀ j c, ownAt env2 σ2 j c → ownAt env1 σ1 j c) → Q σ2 H1) → gP K p v σ1 H1 Q
  | .var i, x, v, env1, env2, σ1, a, hi, ho, d, e, Q, k => by
    simp only [bindP, Option.some.injEq] at e
    subst e
    refine k _ (a.put r (i := i) (s := ⟨.d x, false⟩) (hi i (by simp [Pat.all])) (by unfold SlotR; rw [if_neg (by simp)]; exact d)) (wipe_set (ho i (by simp [Pat.all]))) fun j c q => ?_
    rcases ownAt_set q with ⟨_, z, _⟩ | ⟨_, z⟩
    · cases z
    · exact z
  | .tup is, x, v, env1, env2, σ1, a, hi, ho, d, e, Q, k => by
    cases x with
    | tuple xs =>
      simp only [bindP] at e
      split at e
      · rename_i l
        cases d with
        | tup e1 e2 =>
          exact ⟨_, _, rfl, SqT.of (fz_some.mp e1).2, by rw [DqAll.length e2, l], bindAll_ok2 r a (fun i hj => hi i (by simpa [Pat.all] using hj)) (fun i hj => ho i (by simpa [Pat.all] using hj)) e2 e k⟩
      · cases e
    | _ => simp [bindP] at e
  | .nst ps, x, v, env1, env2, σ1, a, hi, ho, d, e, Q, k => by
    cases x with
    | tuple xs =>
      simp only [bindP] at e
      split at e
      · rename_i l
        cases d with
        | tup e1 e2 =>
          exact ⟨_, _, rfl, SqT.of (fz_some.mp e1).2, by rw [DqAll.length e2, l], bindPs_ok2 r a (fun i hj => hi i (by simpa [Pat.all] using hj)) (fun i hj => ho i (by simpa [Pat.all] using hj)) e2 e k⟩
      · cases e
    | _ => simp [bindP] at e
theorem bindPs_ok2 (r : Rel K T g env h σ H) {own : List Nat} : ∀ {ps : List Pat} {ds : List PD} {vs : List V} {env1 env2 : Mi.Env} {σ1 : L2.St}, AtS K T lk g env σ H g1 env1 h1 σ1 H1 → (∀ i ∈ Pat.alls ps, i ∉ lk) → (∀ i ∈ Pat.alls ps, i ∈ own) → DqAll (fz g1.O H1) vs ds → bindPs ps ds env1 = some env2 → {Q : L2.St → Hp → Prop} →
    (∀ σ2, AtS K T lk g env σ H g1 env2 h1 σ2 H1 → L2.wipe σ2 own = L2.wipe σ1 own → (∀ j c, ownAt env2 σ2 j c → ownAt env1 σ1 j c) → Q σ2 H1) → gPs K ps vs σ1 H1 Q
  | [], ds, vs, env1, env2, σ1, a, hi, ho, d, e, Q, k => by
    cases ds with
    | nil =>
      cases d
      simp only [bindPs, Option.some.injEq] at e
      subst e
      exact ⟨rfl, k σ1 a rfl fun _ _ q => q⟩
    | cons x xs => simp [bindPs] at e
  | p :: ps, ds, vs, env1, env2, σ1, a, hi, ho, d, e, Q, k => by
    cases ds with
    | nil => simp [bindPs] at e
    | cons x xs =>
      cases d with
      | cons d1 d2 =>
        simp only [bindPs] at e
        cases e1 : bindP p x env1 with
        | none => rw [e1] at e; cases e
        | some env' =>
          rw [e1] at e
          refine ⟨_, _, rfl, ?_⟩
          exact bindP_ok2 r a (fun j hj => hi j (by simp [Pat.alls, hj])) (fun j hj => ho j (by simp [Pat.alls, hj])) d1 e1 fun σ2 a2 w m => bindPs_ok2 r a2 (fun j hj => hi j (by simp [Pat.alls, hj])) (fun j hj => ho j (by simp [Pat.alls, hj])) d2 e fun σ3 a3 w3 m3 => k σ3 a3 (w3.trans w) fun j c q => m j c (m3 j c q)
end
/-- the new list at D, nobody's as yet -/
structure Dat (D : Addr) (g : Gh) (env : Mi.Env) (σ : L2.St) (H : Hp) (va : List V) : Prop where
  at' : H D = some (.lst va)
  O : g.O D = true
  un : ∀ i, ¬ ownAt env σ i D
  rho : D ∉ g.ρ
theorem Dat.keep {D : Addr} {va : List V} (d : Dat D g env σ H va) (f : Fram lk g env σ H g1 env1 σ1 H1) : Dat D g1 env1 σ1 H1 va := by
  obtain ⟨q1, q2, q3, q4⟩ := f.rest D d.O d.un d.rho
  exact ⟨q2.trans d.at', q1, q3, q4⟩
/-- what stands at a turn of a block's loop; S: the state ahead of the loop -/
structure AtB (K : PySem.W.Frag) (T : Addr → Prop) (lk own : List Nat) (g : Gh) (env : Mi.Env) (σ : L2.St) (H : Hp) (g1 : Gh) (env1 : Mi.Env) (h1 : Hx) (σ1 : L2.St) (H1 : Hp) : Prop where
  at' : AtS K T lk g (wipeE env own) (L2.wipe σ own) H g1 env1 h1 σ1 H1
  mono : ∀ j c, ownAt env1 σ1 j c → ownAt (wipeE env own) (L2.wipe σ own) j c
end
theorem AtB.step {lk own : List Nat} {g g1 g5 : Gh} {env env1 env5 : Mi.Env} {h1 h5 : Hx} {σ σ2 : L2.St} {H H1 H5 : Hp} (ab : AtB K T lk own g env σ H g1 env1 h1 (L2.wipe σ own) H1) (s : AtS K T lk g1 env1 (L2.wipe σ own) H1 g5 env5 h5 σ2 H5) (m : ∀ j c, ownAt env5 σ2 j c → ownAt env1 (L2.wipe σ own) j c)
    (hn : ∀ i ∈ own, i ∉ lk) (hw : L2.wipe σ2 own = L2.wipe σ own) : AtB K T lk own g env σ H g5 (wipeE env5 own) h5 (L2.wipe σ own) H5 := by
  have s2 := AtS.wipe (own := own) s hn
  rw [hw] at s2
  refine ⟨ab.at'.trans s2 fun _ z => z, fun j c q => ab.mono j c (m j c ?_)⟩
  rw [← hw] at q
  exact (ownAt_wipe.mp q).1
theorem Dat.wipe {D : Addr} {va : List V} {own : List Nat} {g : Gh} {env : Mi.Env} {σ : L2.St} {H : Hp} (d : Dat D g env σ H va) : Dat D g (wipeE env own) (L2.wipe σ own) H va := ⟨d.at', d.O, fun i z => d.un i (ownAt_wipe.mp z).1, d.rho⟩
theorem blkOk_inv {own : List Nat} {p : Pat} {lk : List Nat} {q : List PD × List Nat} (h : blkOk own p lk q = true) : (∀ i ∈ own, i ∉ q.2 ++ lk) ∧ (∀ i ∈ p.all, i ∈ own) ∧ q.1.length ≤ lim := by
  unfold blkOk at h
  simp only [Bool.and_eq_true, Bool.not_eq_true', decide_eq_true_eq, List.all_eq_true] at h
  obtain ⟨⟨h1, h2⟩, h3⟩ := h
  exact ⟨hit_not (by simp [h1]), fun i hi => by simpa using h2 i hi, h3⟩
theorem drop_of {α : Type} {xs : List α} {i : Nat} {x : α} (hx : xs[i]? = some x) : xs.drop i = x :: xs.drop (i + 1) := by
  have hlt := (List.getElem?_eq_some_iff.mp hx).1
  rw [List.drop_eq_getElem_cons hlt]
  congr 1
  exact (List.getElem?_eq_some_iff.mp hx).2
theorem lc_read {p : Pat} {it : MI} {c m : MX} {ow lk : List Nat} {g : Gh} {env : Mi.Env} {h : Hx} {σ : L2.St} {H : Hp} {Q : VK} (r : Rel K T g env h σ H) (q : AnsE K T mg W lk g env σ H (ev F lk (.lc ow p it c m) env h) Q) :
    tLc (tI K T mg W F it) (gP K p) (tT K T mg Wn F c) (tE K T mg Wn F m) ow σ H Q := by
  simp only [ev] at q
  refine ⟨lk, g, env, h, r, ?_⟩
  cases e : evi F lk it env h with
  | no => rw [e] at q; exact q
  | ex c x env' h' => rw [e] at q; exact q
  | ok w env1 h1 =>
    obtain ⟨xs, ln⟩ := w
    rw [e] at q
    simp only [R.bind_ok] at q
    intro g1 H1 J at1 io D hD
    split at q
    · rename_i hb
      obtain ⟨hown, hpa, hlen⟩ := blkOk_inv hb
      have hlen : xs.length ≤ lim := hlen
      have aB := at1.frz (frzI xs ln)
      generalize hgB : g1.cut (lnB env1 σ (frzI xs ln)) = gB at aB io
      generalize heB : Mi.frz (frzI xs ln) env1 = eB at aB io q
      have rB := aB.rel
      have S0 : AtS K T (ln ++ lk) gB eB σ H1 gB (wipeE eB ow) h1 (L2.wipe σ ow) H1 := AtS.wipe rB.ats hown
      have fD := rB.fresh hD
      let Pv : Nat → Hp → Prop := fun i H' => ∃ g' env' h' acc va, AtB K T (ln ++ lk) ow gB eB σ H1 g' env' h' (L2.wipe σ ow) H' ∧ Dat D g' env' (L2.wipe σ ow) H' va ∧ DqAll (fz g'.O H') va acc ∧ acc.length ≤ i ∧
        AnsE K T mg W lk g env σ H ((lcL p ow (ev F (ln ++ ow ++ lk) c) (ev F (ln ++ ow ++ lk) m) (xs.drop i) acc env' h').bind fun ys env2 h => .ok ⟨.d (.list ys), true, []⟩ (Mi.back eB env2 ow) h) Q
      refine ⟨fun i n H' => n = xs.length - i ∧ i ≤ xs.length ∧ Pv i H', ⟨xs.length, rfl, Nat.zero_le _, gB.add D, wipeE eB ow, h1, [], [], ?_, ?_, .nil, Nat.le_refl _, q⟩, ?_⟩
      · have r0 := rB.wipe ow
        exact ⟨⟨Fram.growO r0 _ hD, r0.growO hD rfl⟩, fun _ _ z => z⟩
      · exact ⟨upd_same, add_O.mpr (.inr rfl), fun i z => fD.2.2.1 i (ownAt_wipe.mp z).1, fD.2.2.2⟩
      · rintro i n H' ⟨rfl, hle, g', env', h', acc, va, ab, dd, da, hacc, q⟩
        cases hx : xs[i]? with
        | none =>
          have hi : i = xs.length := Nat.le_antisymm hle (by simpa using hx)
          refine .inl ⟨io.stop _ _ _ _ _ i (S0.trans ab.at' fun _ z => z) hi, ?_⟩
          have hd : xs.drop i = [] := List.drop_eq_nil_of_le (by omega)
          rw [hd] at q
          have aK := AtS.back rB hown ab.at' ab.mono
          have aF := aB.trans aK mem_app_r
          refine q g' (.ref D) H' ⟨aF.fr, aF.rel, aF.own, fun kvs z => (by cases z), ?_⟩
          rw [if_pos (by rfl)]
          refine ⟨D, rfl, aB.fr.there D hD, dd.O, fun j z => fD.2.2.1 j (aK.own j D z), dd.rho, va, dd.at', ?_⟩
          rw [vw_nil]
          exact da
        | some x =>
          have hlt := (List.getElem?_eq_some_iff.mp hx).1
          obtain ⟨jg, jy⟩ := io.go _ _ _ _ _ i x (S0.trans ab.at' fun _ z => z) hx
          refine .inr ⟨jg, Pv (i + 1), fun H2 z => ⟨xs.length - (i + 1), by omega, rfl, hlt, z⟩, fun v H2 y => ?_⟩
          obtain ⟨dv, ay⟩ := jy v H2 y
          rw [drop_of hx] at q
          simp only [lcL] at q
          cases eb : bindP p x env' with
          | none => rw [eb] at q; exact q.elim
          | some env3 =>
            rw [eb] at q
            dsimp only at q
            refine bindP_ok2 ab.at'.rel ay (fun j hj => hown j (hpa j hj)) hpa dv eb fun σ2 a3 hw3 m3 => ?_
            have hw2 : L2.wipe σ2 ow = L2.wipe σ ow := by rw [hw3, wipe_wipe]
            have sub : ∀ j ∈ ln ++ lk, j ∈ ln ++ ow ++ lk := fun j hj => by
              simp only [List.mem_append] at hj ⊢
              rcases hj with z | z
              · exact .inl (.inl z)
              · exact .inr z
            refine ⟨hw2, ln ++ ow ++ lk, g', env3, h', a3.rel, ?_⟩
            cases ec : ev F (ln ++ ow ++ lk) c env3 h' with
            | no => rw [ec] at q; exact q.elim
            | ex c' x' e' h'' => rw [ec] at q; exact q.elim
            | ok w env4 h4 =>
              rw [ec] at q
              simp only [R.calm_ok, R.bind_ok] at q
              cases et : truth w.v with
              | none => rw [et] at q; exact q.elim
              | some b =>
                refine ⟨b, et, fun g4 H4 a4 => ?_⟩
                rw [et] at q
                have s4 : AtS K T (ln ++ lk) g' env' (L2.wipe σ ow) H' g4 env4 h4 σ2 H4 := a3.trans (a4.ats.sub sub) fun _ z => z
                have m4 : ∀ j c, ownAt env4 σ2 j c → ownAt env' (L2.wipe σ ow) j c := fun j c z => m3 j c (a4.own j c z)
                cases b with
                | false =>
                  rw [if_neg Bool.false_ne_true]
                  have d4 := (dd.keep s4.fr).wipe (own := ow)
                  rw [hw2] at d4
                  exact ⟨g4, wipeE env4 ow, h4, acc, va, ab.step s4 m4 hown hw2, d4, da.up s4.fr.view0, Nat.le_succ_of_le hacc, q⟩
                | true =>
                  rw [if_pos rfl]
                  refine ⟨ln ++ ow ++ lk, g4, env4, h4, a4.rel, ?_⟩
                  cases ee : ev F (ln ++ ow ++ lk) m env4 h4 with
                  | no => rw [ee] at q; exact q.elim
                  | ex c' x' e' h'' => rw [ee] at q; exact q.elim
                  | ok o env5 h5 =>
                    rw [ee] at q
                    simp only [R.calm_ok, R.bind_ok] at q
                    intro g5 yv H5 ce
                    obtain ⟨g6, a6, v6⟩ := ce.look' a4.rel
                    split at q
                    · rename_i yd ey
                      rw [ey] at v6
                      have a7 := a6.frz o.ln
                      have s7 := s4.trans (a7.ats.sub sub) fun _ z => z
                      have m7 : ∀ j c, ownAt (Mi.frz o.ln env5) σ2 j c → ownAt env' (L2.wipe σ ow) j c := fun j c z => m4 j c (a7.own j c z)
                      have d7 := dd.keep s7.fr
                      have dw := d7.wipe (own := ow)
                      rw [hw2] at dw
                      have sb := ab.step s7 m7 hown hw2
                      have hl : va.length = acc.length := DqAll.length da
                      refine ⟨va, d7.at', by rw [hl, ← lim_eq]; omega, _, _, _, acc ++ [yd], va ++ [yv], ⟨sb.at'.tmp hD dw.at' dw.O dw.un dw.rho, sb.mono⟩, ⟨upd_same, dw.O, dw.un, dw.rho⟩, ?_, by rw [List.length_append, List.length_singleton]; omega, q⟩
                      rw [fz_upd dw.O]
                      refine (da.up s7.fr.view0).app (.cons ?_ .nil)
                      rw [cut_view]
                      exact v6
                    · exact q.elim
    · exact q.elim
theorem n_lc {elt tg iter : Expr} {ifs : List Expr} {scope : Scope} {own : List (Str × Nat)} {pos : Pos} {p : Pat} {it : MI} {c m : MX} (hc : X.calm = true) (hN : X.N.Nodup) (hi : PI X tg iter (tI X.K T X.mg W F it)) (ok : BlkOk X.N X.env.scope scope own)
    (hg : ∀ (s : Shared) (H : Hp) (C : Addr) (cl : List (Str × Addr)) (fp : List Addr), PG (X.blk s H scope (compEnvC scope cl C X.env) fp) tg (gP X.K p))
    (ht : ∀ (s : Shared) (H : Hp) (C : Addr) (cl : List (Str × Addr)) (fp : List Addr), PTs (X.blk s H scope (compEnvC scope cl C X.env) fp) ifs (tT X.K T X.mg Wn F c))
    (he : ∀ (s : Shared) (H : Hp) (C : Addr) (cl : List (Str × Addr)) (fp : List Addr), PE (X.blk s H scope (compEnvC scope cl C X.env) fp) elt (tE X.K T X.mg Wn F m))
    (hs : ∀ x, foldedSetIterable iter X.env x = pure x) : PE X (.ListComp elt [⟨tg, iter, ifs, 0⟩] scope pos) (tE X.K T X.mg W F (.lc (own.map (·.2)) p it c m)) :=
  PE.ok (pe_lc hc hN hi ok hg ht he hs) fun lk g env h σ H Q r q => lc_read r q
theorem ts_nil : PTs X [] (tT X.K T X.mg W F (.c (.bool true))) := ⟨fun pins s σ H Q I ⟨lk, g, env, h, r, q⟩ => by
  simp only [ev] at q
  obtain ⟨k, e, q⟩ := q
  simp only [truth, emp, Bool.not_true, Bool.not_false, Option.some.injEq] at e
  subst e
  exact pts_nil.run pins s σ H Q I (q g H r.at)⟩
theorem n_asgLc {i : Nat} {y : Str} {py : Pos} {elt tg iter : Expr} {ifs : List Expr} {scope : Scope} {own : List (Str × Nat)} {pos spos : Pos} {p : Pat} {it : MI} {c m : MX} (hc : X.calm = true) (hN : X.N.Nodup) (hy : X.N[i]? = some y) (hyl : X.env.scope.names.lookup y = some .local)
    (hsw : swapsWith (.ListComp elt [⟨tg, iter, ifs, 0⟩] scope pos) (some (.Name y py)) spos.line X.env = pure true) (hi : PI X tg iter (tI X.K T X.mg W F it)) (ok : BlkOk X.N X.env.scope scope own)
    (hg : ∀ (s : Shared) (H : Hp) (C : Addr) (cl : List (Str × Addr)) (fp : List Addr), PG (X.blk s H scope (compEnvC scope cl C X.env) fp) tg (gP X.K p))
    (ht : ∀ (s : Shared) (H : Hp) (C : Addr) (cl : List (Str × Addr)) (fp : List Addr), PTs (X.blk s H scope (compEnvC scope cl C X.env) fp) ifs (tT X.K T X.mg Wn F c))
    (he : ∀ (s : Shared) (H : Hp) (C : Addr) (cl : List (Str × Addr)) (fp : List Addr), PE (X.blk s H scope (compEnvC scope cl C X.env) fp) elt (tE X.K T X.mg Wn F m))
    (hs : ∀ x, foldedSetIterable iter X.env x = pure x) : PS X (.Assign [.Name y py] (.ListComp elt [⟨tg, iter, ifs, 0⟩] scope pos) spos) (tS X.K T X.mg W F tp (.asg (.var i) (.lc (own.map (·.2)) p it c m))) := by
  refine PS.ok (ps_setLc hc hN hy hyl hsw hi ok hg ht he hs) fun lk g env h σ H D tq r q => ?_
  simp only [exS] at q
  have key := seqS r q (P := fun v H1 => gName i v σ H1 D.nx) fun o env1 h1 g1 v H1 c q1 => by
    unfold asgV at q1
    split at q1
    · exact q1.elim
    · rename_i hh
      dsimp only at q1
      split at q1
      · rename_i s es
        exact q1 _ _ _ ((c.ats.frz o.ln).put r (hit_not hh i (by simp [Pat.all])) (c.slot es fun _ z => z))
      · exact q1.elim
  obtain ⟨lk', g', env', h', r', q'⟩ := key
  exact lc_read r' q'
end Mi
/-! MiU: a generator's own context. -/
namespace Mi
open PySem PySem.Spec PyProof.Rows L2

/-- the context of a generator expression's body: it starts at s, its frame's names at cenv, its iterator's objects at fp -/
abbrev gcx (X : Cx) (A : Around) (s : Shared) (H : Hp) (cenv : PySem.Env) (fp : List Addr) : Cx :=
  { X with A := A, s_0 := s, H_0 := H, env := cenv, outer := X.stack, stack := cenv :: X.stack, ex := fp, fn := fun _ => false, pn := [], xe := fun _ _ => False }
section
variable {X : Cx} {pins : List (Addr × Obj)} {σ : L2.St} {H H5 : Hp} {s s5 : Shared}
theorem gen_start {scope : Scope} {own : List (Str × Nat)} {fp : List Addr} {A : Around} {cenv : PySem.Env} {m : Str → Option Value} (I : L2.Inv X pins σ H s) (ok : BlkOk X.N X.env.scope scope own) (hN : X.N.Nodup) (hcell : ∀ y ∈ scope.names, y.2 ≠ .cell) (hfp : ∀ b ∈ fp, FpOk X pins H b ∧ b < s.heap.objs.size)
    (hA : A.handled = none) (hfr : A.frames = some (cenv :: X.stack)) (e1 : cenv.scope = scope) (e2 : cenv.globals = X.env.globals) (e3 : cenv.cells = cloFrom X.env.cells scope.names []) (e4 : cenv.builtins = builtinsNs) (e5 : cenv.frame = some cenv.locals)
    (hL : s.heap.objs.size ≤ cenv.locals) (hn : s5.heap.Ns cenv.locals m) (hos : s5.os = s.os) (hb : AllBare s5.gens) (hU : Un (frs X.stack) fp H H5 s.heap s5.heap) (hok : HOk X.prog X.w H5 s5.heap) (nC : H5 cenv.locals = none)
    (hv : ∀ (i : Nat) (y : Str) (v : V), X.N[i]? = some y → σ[i]? = some (some v) → (X.env.scope.names.lookup y = some .cell ∨ X.env.scope.names.lookup y = some .free) → ∀ c, X.env.cells.lookup y = some c → ∃ u, RelV v u ∧ s5.heap.IsCell c (some u)) (hc5 : ∀ (y : Str) (c : Addr), X.env.cells.lookup y = some c → ∃ v, s5.heap.IsCell c v) (nc5 : ∀ (y : Str) (c : Addr), X.env.cells.lookup y = some c → H5 c = none) :
    L2.Inv (gcx X A s H cenv fp) [] (L2.wipe σ (own.map (·.2))) H5 s5 := by
  have cm : ∀ {y c}, (y, c) ∈ cloFrom X.env.cells scope.names [] → X.env.cells.lookup y = some c ∧ c < s.heap.objs.size := fun {y c} hm => by
    rcases cloFrom_mem hm with hm | ⟨h1, rfl⟩
    · cases hm
    · have hfree : ∃ c, X.env.cells.lookup y = some c := by
        rcases ok.free _ h1 rfl with k | k
        · exact I.ok.has _ (.inl k)
        · exact I.ok.has _ (.inr k)
      obtain ⟨c, hc⟩ := hfree
      rw [hc]
      obtain ⟨w, z⟩ := I.cell _ _ hc
      exact ⟨rfl, z.lt⟩
  have mem : ∀ {y c}, cenv.cells.lookup y = some c → X.env.cells.lookup y = some c ∧ c < s.heap.objs.size := fun {y c} e => by
    rw [e3] at e
    exact cm (PySem.mem_of_lookup e)
  have look : ∀ {y}, scope.names.lookup y = some .free → ∃ c, cenv.cells.lookup y = some c ∧ X.env.cells.lookup y = some c := fun {y} hl => by
    obtain ⟨c', e'⟩ := mem_lookup (cloFrom_has (cells := X.env.cells) (acc := []) (PySem.mem_of_lookup hl))
    rw [← e3] at e'
    exact ⟨c', e', (mem e').1⟩
  have okB : (gcx X A s H cenv fp).Ok := by
    refine ⟨I.ok.mod, by show cenv.scope.kind = _; rw [e1]; exact ok.kind, by show cenv.globals = _; rw [e2]; exact I.ok.glob, e4, hL, fun y z c f1 f2 => I.ok.inj y z c (mem f1).1 (mem f2).1, fun y hy => ?_, fun y c z => absurd (show false = true from z) (by decide), fun _ => hA, hfr, .inr ⟨rfl, e5⟩,
      fun b hb => ⟨?_, fun y c e z => ?_⟩, I.bs, Nat.le_trans I.ok.bsz I.sz, fun b o e hb => ?_, fun b hb z => ?_, I.stack, I.stkFree⟩
    · show ∃ c, cenv.cells.lookup y = some c
      rcases hy with hy | hy
      · have hy : cenv.scope.names.lookup y = some .cell := hy
        rw [e1] at hy
        exact absurd rfl (hcell _ (PySem.mem_of_lookup hy))
      · have hy : cenv.scope.names.lookup y = some .free := hy
        rw [e1] at hy
        obtain ⟨c, h1, _⟩ := look hy
        exact ⟨c, h1⟩
    · exact Nat.ne_of_lt (Nat.lt_of_lt_of_le (hfp b hb).2 hL)
    · exact (hfp b hb).1.2.2.2.2.1 y c (mem e).1 z
    · rcases (hfp b hb).1.2.2.2.1 with z | z
      · exact I.ok.noex b o e z
      · exact absurd (Nat.lt_of_lt_of_le (Heap.lt_size e) (Nat.le_trans I.ok.bsz z)) (Nat.lt_irrefl _)
    · rcases List.mem_cons.mp (I.stkSub b z) with z | z
      · exact (hfp b hb).1.2.1 z
      · exact (hfp b hb).1.2.2.1 z
  refine ⟨okB, hos, hb, hU, ⟨m, hn, fun i y av f1 f2 f3 => ?_⟩, fun y c e => hc5 y c (mem e).1, nC, fun y c e => nc5 y c (mem e).1, fun p hp => absurd (show p ∈ ([] : List (Addr × Obj)) ++ [] from hp) (by simp), hok, by rw [wipe_length]; exact I.len⟩
  obtain ⟨f2, hne⟩ := wipe_some f2
  have f3 : Vis cenv.scope y := f3
  rw [e1] at f3
  have no : ¬ (scope.names.lookup y = some .local ∨ scope.names.lookup y = some .cell) := fun hh => by
    have key : ∀ k, scope.names.lookup y = some k → k = .local ∨ k = .cell → False := fun k hk hk' => by
      rcases ok.own _ (PySem.mem_of_lookup hk) hk' with e' | e'
      · obtain ⟨p, hp, hpy⟩ := List.mem_map.mp e'
        have e3 := ok.ix p hp
        have : p.1 = y := hpy
        rw [this] at e3
        exact hne (List.mem_map.mpr ⟨p, hp, nodup_ix hN e3 f1⟩)
      · exact e' (List.mem_of_getElem? f1)
    rcases hh with h | h
    · exact key _ h (.inl rfl)
    · exact key _ h (.inr rfl)
  have hfr' : scope.names.lookup y = some .free := by
    rcases f3 with h | h | h
    · exact absurd (.inl h) no
    · exact absurd (.inr h) no
    · exact h
  obtain ⟨c, h1, h2⟩ := look hfr'
  obtain ⟨u, r, q⟩ := hv i y av f1 f2 (ok.free _ (PySem.mem_of_lookup hfr') rfl) c h2
  exact ⟨u, r, .inr ⟨.inr (by show cenv.scope.names.lookup y = _; rw [e1]; exact hfr'), c, h1, q⟩⟩
theorem Inv.regen {G : Array GenState} (I : L2.Inv X pins σ H s) (hg : AllBare G) : L2.Inv X pins σ H { s with gens := G } := ⟨I.ok, I.os, hg, I.base, I.loc, I.cell, I.free, I.freeC, I.pin, I.hok, I.len⟩
end
end Mi
/-! MiV: a generator expression's turns. -/
namespace Mi
open PySem PySem.Spec PyProof.Rows L2

/-- the end of a generator's walk -/
def gEnd (Y : Cx) (a : Addr) (oa : Obj) (σ : L2.St) (Qe : Hp → Prop) (s₁ : Shared) : Prop := ∃ H', L2.Inv Y [(a, oa)] σ H' s₁ ∧ Qe H'
/-- what a yield hands over -/
def gYld (Y : Cx) (a : Addr) (oa : Obj) (σ : L2.St) (k : Bool) (Qk : Hp → Prop) : Protocol := fun _ _ v s kap =>
  ∃ b H', v = .bool b ∧ L2.Inv Y [(a, oa)] σ H' s ∧ if b = k then Qk H' else ∀ s'' : Shared, s''.heap = s.heap → s''.os = s.os → AllBare s''.gens → kap (.send .none) s''
/-- the reading of a turn -/
def gTurn (J : It) (g : TG) (tt : TT) (te : TE) (vs : List Nat) (σw : L2.St) (k : Bool) (Qe Qk : Hp → Prop) (W : Nat → Nat → Hp → Prop) : Prop := ∀ n i H, W n i H →
  (J.stop i H ∧ Qe H) ∨ (J.go i H ∧ ∃ n', n = n' + 1 ∧ ∀ x H2, J.yld i H x H2 → g x σw H2 fun σ2 H3 => L2.wipe σ2 vs = σw ∧ tt σ2 H3 fun b H3 => if b = true then te σ2 H3 fun y H4 => ∃ b, y = .bl b ∧ if b = k then Qk H4 else W n' (i + 1) H4 else W n' (i + 1) H3)
theorem seg_turns {Y : Cx} {A2 : Around} {elt tg iter : Expr} {ifs : List Expr} {scope : Scope} {gpos : Pos} {it a : Addr} {oa : Obj} {fp : List Addr} {tn : Nat → Heap → Prop} {J : It} {g : TG} {tt : TT} {te : TE} {vs : List Nat} {σw : L2.St} {k : Bool} {Qe Qk : Hp → Prop} {W : Nat → Nat → Hp → Prop}
    (hc : Y.calm = true) (hco : Y.env.scope.isCoroutine = false) (hA : A2.over (.compLoop (.GeneratorExp elt [⟨tg, iter, ifs, 0⟩] scope gpos) 0 (.ref it) .none Y.env) [] = Y.A) (hx : ∀ e s, ¬ Y.xe e s) (hpn : Y.pn = []) (hww : L2.wipe σw vs = σw)
    (T : Turn Y.prog Y.w Y.K tg J fp it tn) (pg : PG Y tg g) (ts : PTs Y ifs tt) (pe : PE Y elt te) (hfp : ∀ b ∈ fp, b ∈ Y.ex ∧ a ≠ b) (turn : gTurn J g tt te vs σw k Qe Qk W) :
    ∀ (n m i : Nat) (H : Hp) (s s₀ : Shared), m ≤ n → W m i H → L2.Inv Y [(a, oa)] σw H s → tn i s.heap → (∀ b ∈ fp, H b = none) →
      Seg (model Y.prog Y.w) A2 (fun _ _ r s₁ => r = .ok .next ∧ gEnd Y a oa σw Qe s₁) (gYld Y a oa σw k Qk) n s₀ (.compLoop (.GeneratorExp elt [⟨tg, iter, ifs, 0⟩] scope gpos) 0 (.ref it) .none Y.env)
        ((model Y.prog Y.w).den (.compLoop (.GeneratorExp elt [⟨tg, iter, ifs, 0⟩] scope gpos) 0 (.ref it) .none Y.env)) [] s := by
  have stat : ∀ {σ' : L2.St} {H' : Hp} {s' : Shared}, L2.Inv Y [(a, oa)] σ' H' s' → (∀ b ∈ fp, H' b = none) → ∀ b ∈ fp, FpOk Y [(a, oa)] H' b := fun {σ' H' s'} I' hn b hb =>
    ⟨hn b hb, (I'.ok.exf b (hfp b hb).1).1, I'.ok.exfs b (hfp b hb).1, .inl (hfp b hb).1, fun x c e => (I'.ok.exf b (hfp b hb).1).2 x c e, fun p hp => by
      rw [hpn, List.nil_append] at hp
      rw [List.mem_singleton.mp hp]
      exact (hfp b hb).2⟩
  intro n m
  induction m generalizing n with
  | zero =>
    intro i H s s₀ hmn w I st fr
    show Seg _ A2 _ _ _ s₀ _ ((compTurn (.GeneratorExp elt [⟨tg, iter, ifs, 0⟩] scope gpos) 0 (.ref it) .none Y.env).onRaise (leaving Y.env)) [] s
    rw [compTurn_gen, Sem.onRaise_eq_wrap]
    refine seg_bind_wrap (wpAny_standAt ?_)
    rcases turn 0 i H w with ⟨stop, q⟩ | ⟨_, n', e, _⟩
    · refine seg_bind_wrap ?_
      rw [hA]
      refine thn (T.done Y rfl rfl rfl hc i _ s σw H _ I (stat I fr) st stop) fun r s1 hr => ?_
      obtain ⟨rfl, I1⟩ := hr
      exact seg_end (.ok .next) ⟨rfl, H, I1, q⟩
    · cases e
  | succ m ih =>
    intro i H s s₀ hmn w I st fr
    obtain ⟨n, rfl⟩ : ∃ n', n = n' + 1 := ⟨n - 1, by omega⟩
    show Seg _ A2 _ _ _ s₀ _ ((compTurn (.GeneratorExp elt [⟨tg, iter, ifs, 0⟩] scope gpos) 0 (.ref it) .none Y.env).onRaise (leaving Y.env)) [] s
    rw [compTurn_gen, Sem.onRaise_eq_wrap]
    refine seg_bind_wrap (wpAny_standAt ?_)
    rcases turn (m + 1) i H w with ⟨stop, q⟩ | ⟨go, n', e, step⟩
    · refine seg_bind_wrap ?_
      rw [hA]
      refine thn (T.done Y rfl rfl rfl hc i _ s σw H _ I (stat I fr) st stop) fun r s1 hr => ?_
      obtain ⟨rfl, I1⟩ := hr
      exact seg_end (.ok .next) ⟨rfl, H, I1, q⟩
    · obtain rfl : m = n' := Nat.succ.inj e
      refine seg_bind_wrap ?_
      rw [hA]
      refine thn (T.item Y rfl rfl rfl hc i _ s σw H _ I (stat I fr) st go) fun r s1 hr => ?_
      obtain ⟨u, rfl, h1⟩ := hr
      refine seg_bind_wrap ?_
      rw [hA]
      refine thn h1 fun _ s2 h2 => ?_
      obtain ⟨x, H2, I2, r2, y2, st2, fr2⟩ := h2
      have I2' := I2.pinned (stat I2 fr2) (T.obj _ _ st2)
      refine seg_bind_wrap ?_
      rw [hA]
      refine wpAny_mono (pg.run _ s2 σw H2 x u _ I2' r2 (step x H2 y2)) (fun _ s3 h3 => ?_) fun e s' z => (hx e s' z).elim
      obtain ⟨σ3, H3, I3, hw3, q3⟩ := h3
      refine seg_bind_wrap ?_
      rw [hA]
      refine wpAny_mono (ts.run _ s3 σ3 H3 _ I3 q3) (fun ok s3 h3 => ?_) fun e s' z => (hx e s' z).elim
      obtain ⟨H3, I3, q3⟩ := h3
      -- what stays the same behind the tests and the element
      have back : ∀ {H4 : Hp} {s4 : Shared}, L2.Inv Y ([(a, oa)] ++ pinsAt fp s2.heap) σ3 H4 s4 → L2.Inv Y [(a, oa)] σw H4 s4 ∧ tn (i + 1) s4.heap ∧ ∀ c ∈ fp, H4 c = none := fun {H4 s4} I4 => by
        have pin4 : ∀ c ∈ fp, ∀ o, s2.heap.get? c = some o → s4.heap.get? c = some o ∧ H4 c = none := fun c hc o e =>
          let z := I4.pin (c, o) (List.mem_append_right _ (List.mem_append_right _ (mem_pinsAt hc e)))
          ⟨z.1, z.2.1⟩
        refine ⟨(I4.unpinned).weak (by rw [← hw3, wipe_length]) fun j v e => ?_, T.keep _ _ _ st2 fun c hc o e => (pin4 c hc o e).1, fun c hc => ?_⟩
        · rw [← hw3] at e
          exact (wipe_some e).1
        · obtain ⟨o, e, _⟩ := T.obj _ _ st2 c hc
          exact (pin4 c hc o e).2
      have hy : ∀ v, yieldOut Y.env v = yieldValue v := fun v => by simp only [yieldOut, hco, Bool.false_eq_true, if_false]
      cases ok with
      | false =>
        rw [if_neg (by decide)] at q3
        obtain ⟨I5, st5, fr5⟩ := back I3
        simp only [Bool.false_eq_true, if_false]
        exact seg_again rfl (ih (n + 1) (i + 1) H3 s3 s₀ (by omega) q3 I5 st5 fr5)
      | true =>
        rw [if_pos rfl] at q3
        simp only [hy, if_true]
        rw [Sem.bind_eq_wrap', Sem.bind_eq_wrap', Sem.wrap_wrap, Sem.wrap_wrap]
        refine seg_wrap ?_
        rw [hA]
        refine wpAny_mono (pe.run _ s3 σ3 H3 _ I3 q3) (fun v s4 h4 => ?_) fun e s' z => (hx e s' z).elim
        obtain ⟨yv, H4, I4, r4, b, rfl, q4⟩ := h4
        obtain rfl : v = .bool b := r4
        obtain ⟨I5, st5, fr5⟩ := back I4
        refine seg_at (seg_yield rfl rfl rfl ⟨b, H4, rfl, I5, ?_⟩)
        split at q4
        · rename_i hb
          rw [if_pos hb]
          exact q4
        · rename_i hb
          rw [if_neg hb]
          intro s'' g1 g2 g3
          refine seg_again rfl (ih n (i + 1) H4 s'' s'' (by omega) q4 ?_ (by rw [g1]; exact st5) fr5)
          exact ⟨I5.ok, g2.trans I5.os, g3, by rw [g1]; exact I5.base, by rw [g1]; exact I5.loc, by rw [g1]; exact I5.cell, I5.free, I5.freeC, by rw [g1]; exact I5.pin, by rw [g1]; exact I5.hok, I5.len⟩
end Mi
/-! MiW: all and any of a generator expression. -/
namespace Mi
open PySem PySem.Spec PyProof.Rows L2 GenW

theorem bare_set {s : Shared} {g : Nat} {x : GenState} (h : AllBare s.gens) (hx : x.bare = true) : AllBare (s.setGen g x).gens := fun y hy => by
  obtain ⟨i, hi, rfl⟩ := Array.mem_iff_getElem.mp hy
  have hy' : (s.gens.setIfInBounds g x)[i]? = some (s.setGen g x).gens[i] := Array.getElem?_eq_getElem hi
  by_cases e : g = i
  · subst e
    have hlt : g < s.gens.size := by simpa [Shared.setGen] using hi
    rw [Array.getElem?_setIfInBounds_self] at hy'
    rw [if_pos hlt] at hy'
    rw [← Option.some.inj hy']
    exact hx
  · rw [Array.getElem?_setIfInBounds_ne e] at hy'
    obtain ⟨hi', e'⟩ := Array.getElem?_eq_some_iff.mp hy'
    rw [← e']
    exact h _ (Array.getElem_mem hi')
theorem get_set {s : Shared} {g : Nat} {x : GenState} (h : g < s.gens.size) : (s.setGen g x).gens[g]? = some x := by simp [Shared.setGen, h]
/-- the generator, asleep ahead of its next turn -/
def Asleep (Y : Cx) (A2 : Around) (a : Addr) (oa : Obj) (σ : L2.St) (k : Bool) (Qe Qk : Hp → Prop) (gn : Nat) (n : Nat) (s : Shared) : Prop :=
  (∃ H', L2.Inv Y [(a, oa)] σ H' s) ∧ ∃ gs, s.gens[gn]? = some gs ∧ gs.Goes (model Y.prog Y.w) A2 (fun _ _ r s₁ => r = .ok .next ∧ gEnd Y a oa σ Qe s₁) (gYld Y a oa σ k Qk) n (.send .none) (s.setGen gn .running)
section
variable {Y : Cx} {A : Around} {a : Addr} {oa : Obj} {σ : L2.St} {Qe Qk : Hp → Prop} {gn : Nat}
/-- one turn, as pyNext sees it -/
theorem next_mi {k : Bool} {n : Nat} {s : Shared} {E : Value → Shared → Prop} {Q : Option Value → Shared → Prop} (hh : A.handled = none) (hroom : A.depth < recursionLimit) (hoa : oa.cls = .type "generator" ∧ (∃ nm qn, oa.data = .fields #[.int gn 0, nm, qn]) ∧ oa.slots = #[]) (hs : Asleep Y A.in1 a oa σ k Qe Qk gn n s)
    (hY : ∀ b s₁, (if b = k then ∃ H', L2.Inv Y [(a, oa)] σ H' s₁ ∧ Qk H' else ∃ m, n = m + 1 ∧ Asleep Y A.in1 a oa σ k Qe Qk gn m s₁) → Q (some (.bool b)) s₁)
    (hE : ∀ s₁, (∃ H', L2.Inv Y [(a, oa)] σ H' s₁ ∧ Qe H') → Q none s₁) : wpAny (model Y.prog Y.w) A (pyNext (.ref a)) Q E s := by
  obtain ⟨⟨H0, I0⟩, gs, hgs, hgo⟩ := hs
  obtain ⟨h1, ⟨nm, qn, h2⟩, h3⟩ := hoa
  have hg : s.heap.IsGen a gn := ⟨oa, nm, qn, (I0.pin (a, oa) (List.mem_append_right _ List.mem_cons_self)).1, h1, h2, h3⟩
  have hsz : gn + 1 ≤ s.gens.size := (Array.getElem?_eq_some_iff.mp hgs).1
  refine wpAny_gsz hsz ?_
  refine wpAny_pyNext_genexpQ (P := fun _ _ s₁ => gEnd Y a oa σ Qe s₁) hh I0.nolimit hroom hg hgs hgo (fun v s₁ gs' hb hv => ?_) (fun s₁ hp h' hk => ?_)
  · intro hz
    have hz' : gn < s₁.gens.size := by
      rw [setGen_size] at hz
      exact hz
    obtain ⟨b, H', rfl, I1, q⟩ := hv
    have I2 : L2.Inv Y [(a, oa)] σ H' (s₁.setGen gn gs') := Inv.regen I1 (bare_set I1.bare hb)
    refine hY b _ ?_
    by_cases e : b = k
    · rw [if_pos e] at q ⊢
      exact ⟨H', I2, q⟩
    · rw [if_neg e] at q ⊢
      have q2 := q ((s₁.setGen gn gs').setGen gn .running) rfl rfl (bare_set I2.bare rfl)
      cases n with
      | zero => exact q2.elim
      | succ m => exact ⟨m, rfl, ⟨H', I2⟩, gs', get_set hz', q2⟩
  · intro _
    obtain ⟨H', I1, q⟩ := hp
    refine hE _ ⟨H', ?_, q⟩
    have I2 := Inv.regen I1 (bare_set (g := gn) I1.bare (x := .finished) rfl)
    exact L2.Inv.kept (t' := s₁.toks) I2 hk
theorem loop_all {R : Result → Shared → Prop} (hh : A.handled = none) (hroom : A.depth < recursionLimit) (hoa : oa.cls = .type "generator" ∧ (∃ nm qn, oa.data = .fields #[.int gn 0, nm, qn]) ∧ oa.slots = #[])
    (hk : ∀ s₁, (∃ H', L2.Inv Y [(a, oa)] σ H' s₁ ∧ Qk H') → R (.ok (.ret (.bool false))) s₁) (he : ∀ s₁, (∃ H', L2.Inv Y [(a, oa)] σ H' s₁ ∧ Qe H') → R (.ok (.ret (.bool true))) s₁) :
    ∀ (n : Nat) (s : Shared), Asleep Y A.in1.in1 a oa σ false Qe Qk gn n s → codeAny (model Y.prog Y.w) A (.builtin "all.loop" ⟨[.ref a], []⟩) R s := by
  intro n
  induction n with
  | zero =>
    intro s hs
    refine codeAny_builtin F.entry_all_loop ?_
    rw [Around.under_plainId F.plain_all_loop _]
    show wpAny _ A.in1 (pyNext (.ref a) >>= _) _ _ s
    refine wpAny_bind (next_mi hh hroom hoa hs (fun b s₁ q => ?_) fun s₁ q => wpAny_bind (wpAny_rule (wpAny_pure (he s₁ q))))
    refine wpAny_bind (wpAny_holding (wpAny_truthy_bool (wpAny_bind (wpAny_letGo ?_))))
    cases b with
    | true =>
      rw [if_neg (by decide)] at q
      obtain ⟨m, e, _⟩ := q
      cases e
    | false =>
      rw [if_pos rfl] at q
      simp only [Bool.false_eq_true, if_false]
      exact wpAny_bind (wpAny_rule (wpAny_pure (hk s₁ q)))
  | succ n ih =>
    intro s hs
    refine codeAny_builtin F.entry_all_loop ?_
    rw [Around.under_plainId F.plain_all_loop _]
    show wpAny _ A.in1 (pyNext (.ref a) >>= _) _ _ s
    refine wpAny_bind (next_mi hh hroom hoa hs (fun b s₁ q => ?_) fun s₁ q => wpAny_bind (wpAny_rule (wpAny_pure (he s₁ q))))
    refine wpAny_bind (wpAny_holding (wpAny_truthy_bool (wpAny_bind (wpAny_letGo ?_))))
    cases b with
    | true =>
      rw [if_neg (by decide)] at q
      obtain ⟨m, e, q⟩ := q
      obtain rfl : n = m := Nat.succ.inj e
      simp only [if_true]
      exact wpAny_pure ⟨plainId_quiet F.plain_all_loop _, ih s₁ q⟩
    | false =>
      rw [if_pos rfl] at q
      simp only [Bool.false_eq_true, if_false]
      exact wpAny_bind (wpAny_rule (wpAny_pure (hk s₁ q)))
theorem loop_any {R : Result → Shared → Prop} (hh : A.handled = none) (hroom : A.depth < recursionLimit) (hoa : oa.cls = .type "generator" ∧ (∃ nm qn, oa.data = .fields #[.int gn 0, nm, qn]) ∧ oa.slots = #[])
    (hk : ∀ s₁, (∃ H', L2.Inv Y [(a, oa)] σ H' s₁ ∧ Qk H') → R (.ok (.ret (.bool true))) s₁) (he : ∀ s₁, (∃ H', L2.Inv Y [(a, oa)] σ H' s₁ ∧ Qe H') → R (.ok (.ret (.bool false))) s₁) :
    ∀ (n : Nat) (s : Shared), Asleep Y A.in1.in1 a oa σ true Qe Qk gn n s → codeAny (model Y.prog Y.w) A (.builtin "any.loop" ⟨[.ref a], []⟩) R s := by
  intro n
  induction n with
  | zero =>
    intro s hs
    refine codeAny_builtin F.entry_any_loop ?_
    rw [Around.under_plainId F.plain_any_loop _]
    show wpAny _ A.in1 (pyNext (.ref a) >>= _) _ _ s
    refine wpAny_bind (next_mi hh hroom hoa hs (fun b s₁ q => ?_) fun s₁ q => wpAny_bind (wpAny_rule (wpAny_pure (he s₁ q))))
    refine wpAny_bind (wpAny_holding (wpAny_truthy_bool (wpAny_bind (wpAny_letGo ?_))))
    cases b with
    | false =>
      rw [if_neg (by decide)] at q
      obtain ⟨m, e, _⟩ := q
      cases e
    | true =>
      rw [if_pos rfl] at q
      simp only [if_true]
      exact wpAny_bind (wpAny_rule (wpAny_pure (hk s₁ q)))
  | succ n ih =>
    intro s hs
    refine codeAny_builtin F.entry_any_loop ?_
    rw [Around.under_plainId F.plain_any_loop _]
    show wpAny _ A.in1 (pyNext (.ref a) >>= _) _ _ s
    refine wpAny_bind (next_mi hh hroom hoa hs (fun b s₁ q => ?_) fun s₁ q => wpAny_bind (wpAny_rule (wpAny_pure (he s₁ q))))
    refine wpAny_bind (wpAny_holding (wpAny_truthy_bool (wpAny_bind (wpAny_letGo ?_))))
    cases b with
    | false =>
      rw [if_neg (by decide)] at q
      obtain ⟨m, e, q⟩ := q
      obtain rfl : n = m := Nat.succ.inj e
      simp only [Bool.false_eq_true, if_false]
      exact wpAny_pure ⟨plainId_quiet F.plain_any_loop _, ih s₁ q⟩
    | true =>
      rw [if_pos rfl] at q
      simp only [if_true]
      exact wpAny_bind (wpAny_rule (wpAny_pure (hk s₁ q)))
end
end Mi
/-! MiX: all((..)), any((..)) as expressions. -/
namespace Mi
open PySem PySem.Spec PyProof.Rows L2 GenW GxR

abbrev gexp (elt tg iter : Expr) (ifs : List Expr) (scope : Scope) (gpos : Pos) : Expr := .GeneratorExp elt [⟨tg, iter, ifs, 0⟩] scope gpos
theorem seg_start {Y : Cx} {A2 : Around} {elt tg iter : Expr} {ifs : List Expr} {scope : Scope} {gpos : Pos} {it a : Addr} {oa : Obj} {fp : List Addr} {tn : Nat → Heap → Prop} {J : It} {g : TG} {tt : TT} {te : TE} {vs : List Nat} {σw : L2.St} {k : Bool} {Qe Qk : Hp → Prop} {W : Nat → Nat → Hp → Prop}
    (hc : Y.calm = true) (hco : Y.env.scope.isCoroutine = false) (hA : A2.over (.compStart (gexp elt tg iter ifs scope gpos) 0 (.ref it) .none Y.env) [] = Y.A) (hx : ∀ e s, ¬ Y.xe e s) (hpn : Y.pn = []) (hww : L2.wipe σw vs = σw)
    (T : Turn Y.prog Y.w Y.K tg J fp it tn) (pg : PG Y tg g) (ts : PTs Y ifs tt) (pe : PE Y elt te) (hfp : ∀ b ∈ fp, b ∈ Y.ex ∧ a ≠ b) (turn : gTurn J g tt te vs σw k Qe Qk W)
    {n : Nat} {H : Hp} {s s₀ : Shared} (w : W n 0 H) (I : L2.Inv Y [(a, oa)] σw H s) (st : tn 0 s.heap) (fr : ∀ b ∈ fp, H b = none) :
      Seg (model Y.prog Y.w) A2 (fun _ _ r s₁ => r = .ok .next ∧ gEnd Y a oa σw Qe s₁) (gYld Y a oa σw k Qk) n s₀ (.compStart (gexp elt tg iter ifs scope gpos) 0 (.ref it) .none Y.env)
        ((model Y.prog Y.w).den (.compStart (gexp elt tg iter ifs scope gpos) 0 (.ref it) .none Y.env)) [] s := by
  have hA' : A2.over (.compLoop (gexp elt tg iter ifs scope gpos) 0 (.ref it) .none Y.env) [] = Y.A := by
    rw [← hA]
    rfl
  have loop := seg_turns hc hco hA' hx hpn hww T pg ts pe hfp turn n n 0 H s s₀ (Nat.le_refl _) w I st fr
  show Seg _ A2 _ _ _ s₀ _ ((compStart (gexp elt tg iter ifs scope gpos) 0 (.ref it) .none Y.env).onRaise (leaving Y.env)) [] s
  unfold compStart
  rw [Sem.onRaise_eq_wrap]
  show Seg _ A2 _ _ _ s₀ _ ((ask >>= _).wrap _ _ _ _) [] s
  refine seg_bind_wrap (wpAny_askSetting ?_)
  split
  · exact seg_again rfl loop
  · first
      | exact seg_bind_wrap (wpAny_rule (seg_bind_wrap (wpAny_standAt (seg_bind_wrap (T.self _ 0 s _ _ st (seg_again rfl loop))))))
      | (refine seg_bind_wrap (wpAny_rule ?_); show Seg _ A2 _ _ _ s₀ _ ((standAt iter.pos >>= _).wrap _ _ _ _) [] s; exact seg_bind_wrap (wpAny_standAt (seg_bind_wrap (T.self _ 0 s _ _ st (seg_again rfl loop)))))
def tGen (P : Addr) (wi : TI) (g : TG) (tt : TT) (te : TE) (vs : List Nat) (k : Bool) : TE := fun σ H Q => wi σ H fun J H1 => TabG H1 P ∧ ∀ H2, Tabbed P H1 H2 → ∃ (W : Nat → Nat → Hp → Prop) (n0 : Nat), W n0 0 H2 ∧ gTurn J g tt te vs (L2.wipe σ vs) k (fun H' => Q (.bl (!k)) H') (fun H' => Q (.bl k) H') W
theorem room_gen {k : Nat} {A : Around} {elt tg iter : Expr} {ifs : List Expr} {scope : Scope} {gpos : Pos} {it : Value} {cenv : PySem.Env} (r : Room (k + 1) A) : Room k (A.in1.in1.over (.compStart (gexp elt tg iter ifs scope gpos) 0 it .none cenv) []) := by
  refine ⟨r.hd, ?_, ?_⟩
  · have := r.dp
    show A.depth + 0 + 1 + 3 * k + 5 < _
    omega
  · have := r.un
    show A.units + 1 + 1 + 0 + 3 + 16 * k + 200 < _
    omega
/-- the generator is made -/
theorem gen_made {X : Cx} {pins : List (Addr × Obj)} {σ : L2.St} {H : Hp} {s : Shared} {c P : Addr} {elt tg iter : Expr} {ifs : List Expr} {gpos : Pos} {scope : Scope} {own : List (Str × Nat)} {k : Nat} {wi : TI} {g : TG} {tt : TT} {te : TE} {b : Bool} {Q : VK} {Q' : Value → Shared → Prop}
    (hr : Room (k + 1) X.A) (hc : X.calm = true) (hN : X.N.Nodup) (TB : TabB X.base X.mg c P) (hcode : X.env.code = .ref c) (hi : PI X tg iter wi) (ok : BlkOk X.N X.env.scope scope own) (hco : scope.isCoroutine = false) (hcell : ∀ y ∈ scope.names, y.2 ≠ .cell) (h0 : scope.names.lookup (".0" : Str) = some NameKind.local)
    (pg : ∀ A s H cenv fp, Room k A → cenv.scope = scope → PG (gcx X A s H cenv fp) tg g) (ts : ∀ A s H cenv fp, Room k A → cenv.scope = scope → PTs (gcx X A s H cenv fp) ifs tt) (pe : ∀ A s H cenv fp, Room k A → cenv.scope = scope → PE (gcx X A s H cenv fp) elt te)
    (hs : ∀ v, genFold iter X.env v = pure v) (I : L2.Inv X pins σ H s) (h : tGen P wi g tt te (own.map (·.2)) b σ H Q)
    (hQ : ∀ (Y : Cx) (a : Addr) (oa : Obj) (gn n : Nat) (s5 : Shared), Y.prog = X.prog → Y.w = X.w → (oa.cls = .type "generator" ∧ (∃ nm qn, oa.data = .fields #[.int gn 0, nm, qn]) ∧ oa.slots = #[]) → s5.heap.IsGen a gn → Asleep Y X.A.in1.in1 a oa (L2.wipe σ (own.map (·.2))) b (fun H' => Q (.bl (!b)) H') (fun H' => Q (.bl b) H') gn n s5 →
      (∀ H' s', L2.Inv Y [(a, oa)] (L2.wipe σ (own.map (·.2))) H' s' → L2.Inv X pins σ H' s') → Q' (.ref a) s5) :
    wpAny (model X.prog X.w) X.A (eval (gexp elt tg iter ifs scope gpos) X.env) Q' X.xe s := by
  have hfree : ∀ y ∈ scope.names, y.2 = .free → ∃ c, X.env.cells.lookup y.1 = some c := fun y hy e => by
    rcases ok.free y hy e with k | k
    · exact I.ok.has _ (.inl k)
    · exact I.ok.has _ (.inr k)
  refine wpAny_GeneratorExp_make hco (closure_ok hfree) hcell h0 ok.kind (by have := hr.dp; omega) ?_ hs
  refine thn (hi.run pins s σ H _ I h) fun xv s1 h1 => thn h1 fun itv s2 h2 => ?_
  obtain ⟨it, fp, tn, J, H2, e, I2, T, st2, f2, ⟨ps, hP, ht⟩, hq⟩ := h2
  subst e
  have hPs : s2.heap.get? P = some { cls := .none, data := .fields ps } := I2.hok P _ hP
  have cd : PySem.W.CodeHd s2.heap c P := TB.code.keeps fun b u e => I2.bk b u e
  refine ⟨I2.nolimit, ?_⟩
  have cont : ∀ (code : Value) (h3 : Heap) (tk : Nat) (ps' : Array Value), Heap.ExtBut P s2.heap h3 → s2.heap.objs.size ≤ h3.objs.size → h3.get? P = some { cls := .none, data := .fields ps' } → (∃ more, ps' = ps ++ more) → TriplesOk ps'.toList →
      wpAny (model X.prog X.w) X.A (builtinsFor X.env.globals X.env.builtins) (fun bi s₄ =>
        ∀ h', h'.Ns s₄.heap.objs.size (fun y => if y = (".0" : Str) then some (.ref it) else none) → Heap.SameBut s₄.heap.objs.size (s₄.heap.push { cls := .type "frame", data := .dict #[] }) h' →
          Q' (.ref h'.objs.size) { s₄ with
            gens := s₄.gens.push (.fresh (.compStart (gexp elt tg iter ifs scope gpos) 0 (.ref it) .none (genEnv scope (cloFrom X.env.cells scope.names []) s₄.heap.objs.size code bi X.env))),
            toks := s₄.toks + 1 + 1 + 1,
            heap := h'.push { cls := .type "generator", data := .fields #[.int s₄.gens.size 0, .str "<genexpr>" (s₄.toks + 1), .str (X.env.qual ++ "<genexpr>") (s₄.toks + 1 + 1)] } }) X.xe { s2 with heap := h3, toks := tk } := by
    intro code h3 tk ps' hx hsz hP3 hmore ht3
    obtain ⟨bm, ob, b1, b2, b3, b4, b5, b6, b7, b8⟩ := TB.bm
    have keep3 : ∀ b u, b ≠ P → s2.heap.get? b = some u → h3.get? b = some u := fun b u hb e => hx b u hb e
    refine wpAny_builtinsFor (m := X.mg) (by rw [I2.ok.glob]; exact (I2.mod.glob.keeps I2.bk).extBut hx TB.gP) b1 b2 (keep3 _ _ b4 (I2.bk _ _ b5)) b6 b7 b8 ?_
    intro h' hn' hs'
    obtain ⟨more, rfl⟩ := hmore
    have z1 : h'.objs.size = h3.objs.size + 1 := by rw [hs'.1, Heap.size_push]
    have hPlt : P < s2.heap.objs.size := Heap.lt_size hPs
    generalize hce : genEnv scope (cloFrom X.env.cells scope.names []) h3.objs.size code builtinsNs X.env = cenv
    have eL : cenv.locals = h3.objs.size := by rw [← hce]; rfl
    have eS : cenv.scope = scope := by rw [← hce]; rfl
    generalize hoa : ({ cls := .type "generator", data := .fields #[.int s2.gens.size 0, .str "<genexpr>" (tk + 1), .str (X.env.qual ++ "<genexpr>") (tk + 1 + 1)] } : Obj) = oa
    have oa1 : oa.cls = .type "generator" ∧ (∃ nm qn, oa.data = .fields #[.int s2.gens.size 0, nm, qn]) ∧ oa.slots = #[] := by
      rw [← hoa]
      exact ⟨rfl, ⟨_, _, rfl⟩, rfl⟩
    have oaF : oa.isFreed = false := by rw [← hoa]; rfl
    have oaC : ∀ v, oa.data ≠ .cell v := by
      rw [← hoa]
      intro v z
      cases z
    generalize hs5 : ({ ({ s2 with heap := h3, toks := tk } : Shared) with gens := s2.gens.push (.fresh (.compStart (gexp elt tg iter ifs scope gpos) 0 (.ref it) .none cenv)), toks := tk + 1 + 1 + 1, heap := h'.push oa } : Shared) = s5
    have g5 : s5.gens = s2.gens.push (.fresh (.compStart (gexp elt tg iter ifs scope gpos) 0 (.ref it) .none cenv)) := by rw [← hs5]
    have p5 : s5.heap = h'.push oa := by rw [← hs5]
    have os5 : s5.os = s2.os := by rw [← hs5]
    have oldL : ∀ {b : Addr} {u : Obj}, s2.heap.get? b = some u → b < h3.objs.size := fun e => Nat.lt_of_lt_of_le (Heap.lt_size e) hsz
    have up' : ∀ b u, b < h3.objs.size → h3.get? b = some u → s5.heap.get? b = some u := fun b u hb e => by
      rw [p5]
      exact Heap.get?_push_of_some _ (hs'.extBut b u (Nat.ne_of_lt hb) (Heap.get?_push_of_some _ e))
    have k5 : ∀ b u, b ≠ P → s2.heap.get? b = some u → s5.heap.get? b = some u := fun b u hb e => up' b u (oldL e) (keep3 b u hb e)
    have hP5 : s5.heap.get? P = some { cls := .none, data := .fields (ps ++ more) } := up' P _ (Nat.lt_of_lt_of_le hPlt hsz) hP3
    have bare5 : AllBare s5.gens := by
      rw [g5]
      exact I2.bare.push rfl
    have I5 : L2.Inv X pins σ (upd H2 P (.tbl (ps ++ more))) s5 := by
      have J := inv_tab (more := more) (h' := s5.heap) (g' := s5.gens) (d' := s5.drawn) (t' := s5.toks) I2 hP k5 hP5 bare5
      rwa [sh_eta s2 s5 os5] at J
    have nP : ∀ {b : Addr} {u : HO}, H2 b = some u → (∀ q, u ≠ .tbl q) → b ≠ P := fun {b u} e q z => by
      rw [z, hP] at e
      exact q ps (Option.some.inj e).symm
    have nN : ∀ {b : Addr}, H2 b = none → b ≠ P := fun {b} e z => by
      rw [z, hP] at e
      cases e
    have newN : ∀ {b : Addr}, h3.objs.size ≤ b → (upd H2 P (.tbl (ps ++ more))) b = none := fun {b} hb => by
      rw [upd_ne (Nat.ne_of_gt (Nat.lt_of_lt_of_le hPlt (Nat.le_trans hsz hb)))]
      exact I2.hok.fresh (Nat.le_trans hsz hb)
    have U5 : Un (frs X.stack) fp H2 (upd H2 P (.tbl (ps ++ more))) s2.heap s5.heap := {
      keep := fun b o q n _ _ => k5 b o (nN n) q
      slot := fun b o q n _ _ => ⟨o.slots, k5 b o (nN n) q⟩
      free := fun b o q n _ => by rw [upd_ne (nN n)]; exact n
      there := fun b o q _ => by
        by_cases hb : b = P
        · rw [hb]; exact ⟨_, hP5⟩
        · exact ⟨o, k5 b o hb q⟩
      tups := fun b xs q => by rw [upd_ne (nP q fun q z => by cases z)]; exact q
      frzs := fun b o u q => by rw [upd_ne (nP q fun q z => by cases z)]; exact q
      tbls := fun b qs q => by
        by_cases hb : b = P
        · rw [hb, hP] at q
          cases q
          rw [hb]
          exact ⟨more, upd_same⟩
        · exact ⟨#[], by rw [upd_ne hb, q]; simp⟩ }
    have fsz : ∀ b ∈ fp, b < s2.heap.objs.size := fun b hb => by
      obtain ⟨o, e, _⟩ := T.obj _ _ st2 b hb
      exact Heap.lt_size e
    have hn5 : s5.heap.Ns cenv.locals (fun y => if y = (".0" : Str) then some (.ref it) else none) := by
      rw [p5, eL]
      exact hn'.push _
    have hAg := room_gen (cenv := cenv) (it := .ref it) (elt := elt) (tg := tg) (iter := iter) (ifs := ifs) (scope := scope) (gpos := gpos) hr
    have I6 := gen_start (A := X.A.in1.in1.over (.compStart (gexp elt tg iter ifs scope gpos) 0 (.ref it) .none cenv) []) (cenv := cenv) (fp := fp) (s5 := s5) (H5 := upd H2 P (.tbl (ps ++ more))) I2 ok hN hcell (fun b hb => ⟨f2 b hb, fsz b hb⟩) hAg.hd
      (by show pushEnvs [cenv] (pushEnvs (envsOf []) X.A.frames) = _; rw [I2.ok.frames]; rfl) eS (by rw [← hce]; rfl) (by rw [← hce]; rfl) (by rw [← hce]; rfl) (by rw [← hce]; rfl) (by rw [eL]; exact hsz) hn5 os5 bare5 U5 I5.hok (by rw [eL]; exact newN (Nat.le_refl _))
      (fun i y v n1 n2 n3 c n4 => by
        obtain ⟨m, _, hl⟩ := I5.loc
        obtain ⟨u, r, q⟩ := hl i y v n1 n2 (n3.elim (fun z => .inr (.inl z)) fun z => .inr (.inr z))
        refine ⟨u, r, ?_⟩
        rcases q with ⟨w1, _⟩ | ⟨_, c', w1, w2⟩
        · have w1 : X.env.scope.names.lookup y = some .local := w1
          rcases n3 with z | z <;> rw [w1] at z <;> cases z
        · rw [n4] at w1
          cases w1
          exact w2) (fun y c e => I5.cell y c e) fun y c e => I5.freeC y c e
    have ha5 : s5.heap.get? h'.objs.size = some oa := by
      rw [p5]
      exact Heap.get?_push_size _ oaF
    have hage : s2.heap.objs.size ≤ h'.objs.size := by omega
    have I7 : L2.Inv (gcx X (X.A.in1.in1.over (.compStart (gexp elt tg iter ifs scope gpos) 0 (.ref it) .none cenv) []) s2 H2 cenv fp) [(h'.objs.size, oa)] (L2.wipe σ (own.map (·.2))) (upd H2 P (.tbl (ps ++ more))) s5 := I6.pins_of fun p hp => by
      rw [List.mem_singleton.mp hp]
      refine ⟨ha5, newN (by omega), ?_, fun z => ?_, oaC⟩
      · show (h'.objs.size : Nat) ≠ cenv.locals
        rw [eL]
        have : h'.objs.size ≠ h3.objs.size := by omega
        exact this
      · have z : (h'.objs.size : Nat) ∈ frs X.stack := z
        rcases List.mem_cons.mp (I2.stkSub _ z) with w | w
        · exact absurd I2.lt (by rw [← w]; exact Nat.not_lt.mpr hage)
        · exact I2.nofs hage w
    have st5 : tn 0 s5.heap := T.keep _ _ _ st2 fun b hb o e => k5 b o (nN (f2 b hb).1) e
    have fr5 : ∀ b ∈ fp, (upd H2 P (.tbl (ps ++ more))) b = none := fun b hb => by
      rw [upd_ne (nN (f2 b hb).1)]
      exact (f2 b hb).1
    obtain ⟨W, n0, w0, turn⟩ := hq (upd H2 P (.tbl (ps ++ more))) ⟨⟨_, upd_same, ht3⟩, fun b hb => upd_ne hb⟩
    have hgn : s5.gens[s2.gens.size]? = some (.fresh (.compStart (gexp elt tg iter ifs scope gpos) 0 (.ref it) .none cenv)) := by
      rw [g5]
      exact Array.getElem?_push_size ..
    refine hQ (gcx X (X.A.in1.in1.over (.compStart (gexp elt tg iter ifs scope gpos) 0 (.ref it) .none cenv) []) s2 H2 cenv fp) h'.objs.size oa s2.gens.size n0 s5 rfl rfl oa1 ?_ ⟨⟨_, I7⟩, _, hgn, rfl, ?_⟩ fun H' s' I8 => ?_
    · obtain ⟨q1, ⟨nm, qn, q2⟩, q3⟩ := oa1
      exact ⟨oa, nm, qn, ha5, q1, q2, q3⟩
    · exact seg_start (Y := gcx X (X.A.in1.in1.over (.compStart (gexp elt tg iter ifs scope gpos) 0 (.ref it) .none cenv) []) s2 H2 cenv fp) (A2 := X.A.in1.in1) (scope := scope) (gpos := gpos) (iter := iter) (a := h'.objs.size) (oa := oa) hc (by show cenv.scope.isCoroutine = false; rw [eS]; exact hco) rfl (fun _ _ z => z) rfl wipe_wipe T
        (pg _ _ _ _ _ hAg eS) (ts _ _ _ _ _ hAg eS) (pe _ _ _ _ _ hAg eS) (fun b hb => ⟨hb, fun z => absurd (fsz b hb) (by rw [← z]; exact Nat.not_lt.mpr hage)⟩) turn w0 (Inv.regen I7 (bare_set I7.bare rfl)) st5 fr5
    · exact I2.call' (ch := fp) I8.os I8.base I8.hok I8.bare fun b hb => ⟨(f2 b hb).2.2.2.1, (f2 b hb).2.1, (f2 b hb).2.2.2.2.1, (f2 b hb).2.2.2.2.2⟩
  cases hf : codeAmong gpos ps.toList with
  | none =>
    refine wpAny_genexprCodeX hcode (cd.code hPs ht) (cd.tab hPs) hf fun c' h' tk hx hge hlt hco' _ htab' _ => ?_
    obtain ⟨o1, vs, f1, tf, fl, tg, inF, tx, tt, op, _, _, _, _, _, _, _, _, _, htr, _⟩ := hco'
    exact cont _ h' tk _ hx (Nat.le_trans hge (Nat.le_of_lt hlt)) htab'.2 ⟨_, rfl⟩ htr
  | some cv =>
    refine wpAny_genexprCode_hit hcode (cd.code hPs ht) hf ?_
    exact cont cv s2.heap s2.toks ps (Heap.ExtBut.refl _ _) (Nat.le_refl _) hPs ⟨#[], by simp⟩ ht

/-- all, any -/
def gkN : Gk → Str
  | .all => "all"
  | .any => "any"
def gkB : Gk → String
  | .all => "all"
  | .any => "any"
def gkK (g : Gk) : Bool := decide (g = .any)
theorem call_gen {gk : Gk} {X Y : Cx} {pins : List (Addr × Obj)} {σ σw : L2.St} {k : Nat} {Q : VK} {a : Addr} {oa : Obj} {gn n : Nat} {s5 : Shared} (hr : Room (k + 1) X.A) (e1 : Y.prog = X.prog) (e2 : Y.w = X.w) (hoa : oa.cls = .type "generator" ∧ (∃ nm qn, oa.data = .fields #[.int gn 0, nm, qn]) ∧ oa.slots = #[]) (hg : s5.heap.IsGen a gn)
    (hs : Asleep Y X.A.in1.in1 a oa σw (gkK gk) (fun H' => Q (.bl (!gkK gk)) H') (fun H' => Q (.bl (gkK gk)) H') gn n s5) (hI : ∀ H' s', L2.Inv Y [(a, oa)] σw H' s' → L2.Inv X pins σ H' s') :
    wpAny (model X.prog X.w) X.A (call (.builtin (gkB gk)) [.ref a]) (EP X pins σ Q) X.xe s5 := by
  have hd : X.A.depth < recursionLimit := by have := hr.dp; omega
  rw [← e1, ← e2]
  cases gk with
  | all =>
    refine call_function_tree F.kind_all F.plain_all F.entry_all (F.args_all1 _) ?_
    unfold Builtin.«all»
    refine wpAny_bind (m := oneArg "all" _) (wpAny_pure ?_)
    refine wpAny_bind (wpAny_pyIter_gen hg ?_)
    refine wpAny_pure ⟨plainId_quiet F.plain_all_loop _, loop_all hr.hd hd hoa (fun s₁ q => ?_) (fun s₁ q => ?_) n s5 hs⟩
    · obtain ⟨H', I', q⟩ := q
      exact ⟨.bl false, H', hI H' s₁ I', rfl, q⟩
    · obtain ⟨H', I', q⟩ := q
      exact ⟨.bl true, H', hI H' s₁ I', rfl, q⟩
  | any =>
    refine call_function_tree F.kind_any F.plain_any F.entry_any (F.args_any1 _) ?_
    unfold Builtin.«any»
    refine wpAny_bind (m := oneArg "any" _) (wpAny_pure ?_)
    refine wpAny_bind (wpAny_pyIter_gen hg ?_)
    refine wpAny_pure ⟨plainId_quiet F.plain_any_loop _, loop_any hr.hd hd hoa (fun s₁ q => ?_) (fun s₁ q => ?_) n s5 hs⟩
    · obtain ⟨H', I', q⟩ := q
      exact ⟨.bl true, H', hI H' s₁ I', rfl, q⟩
    · obtain ⟨H', I', q⟩ := q
      exact ⟨.bl false, H', hI H' s₁ I', rfl, q⟩
theorem boot_gk (gk : Gk) : bootBuiltins (gkN gk) = some (.builtin (gkB gk)) := by
  cases gk with
  | all => exact boot_all
  | any => exact boot_any
theorem pe_gen {gk : Gk} {X : Cx} {c P : Addr} {elt tg iter : Expr} {ifs : List Expr} {p pos gpos : Pos} {scope : Scope} {own : List (Str × Nat)} {k : Nat} {wi : TI} {g : TG} {tt : TT} {te : TE}
    (hr : Room (k + 1) X.A) (hc : X.calm = true) (hN : X.N.Nodup) (hg : Gl X (gkN gk)) (hm : X.mg (gkN gk) = none) (TB : TabB X.base X.mg c P) (hcode : X.env.code = .ref c) (hi : PI X tg iter wi) (ok : BlkOk X.N X.env.scope scope own) (hco : scope.isCoroutine = false) (hcell : ∀ y ∈ scope.names, y.2 ≠ .cell) (h0 : scope.names.lookup (".0" : Str) = some NameKind.local)
    (pg : ∀ A s H cenv fp, Room k A → cenv.scope = scope → PG (gcx X A s H cenv fp) tg g) (ts : ∀ A s H cenv fp, Room k A → cenv.scope = scope → PTs (gcx X A s H cenv fp) ifs tt) (pe : ∀ A s H cenv fp, Room k A → cenv.scope = scope → PE (gcx X A s H cenv fp) elt te)
    (hs : ∀ v, genFold iter X.env v = pure v) (he : starEach [gexp elt tg iter ifs scope gpos] X.env = (false, eval (gexp elt tg iter ifs scope gpos) X.env) :: starEach [] X.env) :
    PE X (.Call (.Name (gkN gk) p) [gexp elt tg iter ifs scope gpos] [] pos) (tGen P wi g tt te (own.map (·.2)) (gkK gk)) := by
  refine ⟨fun pins s σ H Q I h => ?_⟩
  refine wpAny_Call_Name_kw (ld_blt I hg hm (boot_gk gk) ?_ (by cases gk <;> decide) (by cases gk <;> decide))
  refine PyProof.Rows.callWith_builtin1 ?_ he (by rfl)
  rw [he]
  show wpAny _ _ (spliced ((false, eval (gexp elt tg iter ifs scope gpos) X.env) :: backTo pos (starEach [] X.env))) _ _ s
  refine Calls.spliced_cons (gen_made hr hc hN TB hcode hi ok hco hcell h0 pg ts pe hs I h fun Y a oa gn n s5 e1 e2 hoa hgen hsl hI => ?_)
  refine Calls.spliced_nil ?_
  exact call_gen hr e1 e2 hoa hgen hsl hI
end Mi
/-! MiY: generator expressions of the small language. -/
namespace Mi
open PySem PySem.Spec PyProof.Rows L2 GxR
variable {X : Cx} {K : PySem.W.Frag} {T : Addr → Prop} {mg : Str → Option Value} {W : WX} {F : Fns} {tp : Bool}

/-- a table has grown -/
theorem AtS.tab {lk : List Nat} {g g1 : Gh} {env env1 : Mi.Env} {h1 : Hx} {σ σ1 : L2.St} {H H1 H2 : Hp} {P : Addr} (a : AtS K T lk g env σ H g1 env1 h1 σ1 H1) (hP : TabG H1 P) (ht : Tabbed P H1 H2) : AtS K T lk g env σ H g1 env1 h1 σ1 H2 := by
  obtain ⟨ps, hps, _⟩ := hP
  obtain ⟨⟨ps2, hps2, ht2⟩, hk⟩ := ht
  have ne : ∀ {b : Addr} {o : HO}, H1 b = some o → solid o = true → b ≠ P := fun {b o} e z w => by
    rw [w, hps] at e
    cases e
    cases z
  have nO : ∀ {b : Addr}, (g1.O b = true ∨ g1.A b = true) → b ≠ P := fun {b} e => by
    obtain ⟨o, e1, e2⟩ := a.rel.kind b e
    exact ne e1 (by cases o <;> simp_all [celly, solid])
  have sm : Sm (fz g1.O H1) (fz g1.O H2) := fun b o z e => by
    rw [fz_some] at e ⊢
    exact ⟨e.1, by rw [hk b (ne e.2 z)]; exact e.2⟩
  refine ⟨⟨fun b b1 b2 b3 => ?_, fun b o z b1 b2 => ?_, a.fr.pre, a.fr.al, fun j hj => ?_, a.fr.size, a.fr.old, fun b e => ?_⟩,
    ⟨a.rel.len, fun j w e => ?_, fun j w e => ?_, a.rel.sep, a.rel.nb, fun j b e => ?_, a.rel.rlen, a.rel.rnd, a.rel.dis, fun b q => ?_, fun P' hP' => ?_⟩⟩
  · obtain ⟨q1, q2, q3, q4⟩ := a.fr.rest b b1 b2 b3
    exact ⟨q1, (hk b (nO (.inl q1))).trans q2, q3, q4⟩
  · obtain ⟨q1, q2⟩ := a.fr.keep b o z b1 b2
    exact ⟨q1, by rw [hk b (ne q2 z)]; exact q2⟩
  · obtain ⟨q1, q2⟩ := a.fr.lock j hj
    refine ⟨q1, fun b o z q e => ?_⟩
    obtain ⟨r1, r2⟩ := q2 b o z q e
    exact ⟨by rw [hk b (ne r1 z)]; exact r1, r2⟩
  · by_cases z : b = P
    · rw [z, hps2] at e
      cases e
    · rw [hk b z] at e
      exact a.fr.there b e
  · obtain ⟨u, e1, e2⟩ := a.rel.slot j w e
    exact ⟨u, e1, VR.up sm e2⟩
  · obtain ⟨b, e1, e2, e3, e4⟩ := a.rel.own j w e
    exact ⟨b, e1, e2, CR.up sm (hk b (nO (.inl e2))) e3, e4⟩
  · obtain ⟨b', e1, e2, e3⟩ := a.rel.box j b e
    refine ⟨b', e1, e2, BR.up (fun c o z e => ?_) (hk b' (nO (.inl e2))) e3⟩
    rw [fz_some] at e ⊢
    exact ⟨e.1, by rw [hk c (ne e.2 z)]; exact e.2⟩
  · obtain ⟨o, e1, e2⟩ := a.rel.kind b q
    exact ⟨o, by rw [hk b (nO q)]; exact e1, e2⟩
  · by_cases z : P' = P
    · rw [z]
      exact ⟨ps2, hps2, ht2⟩
    · obtain ⟨qs, e1, e2⟩ := a.rel.tab P' hP'
      exact ⟨qs, by rw [hk P' z]; exact e1, e2⟩
theorem genF_read {gk : Gk} {P : Addr} (hT : T P) {p : Pat} {it : MI} {c m : MX} {ow lk : List Nat} {g : Gh} {env : Mi.Env} {h : Hx} {σ : L2.St} {H : Hp} {Q : VK} (r : Rel K T g env h σ H) (q : AnsE K T mg W lk g env σ H (ev F lk (.genF gk ow p it c m) env h) Q) :
    tGen P (tI K T mg W F it) (gP K p) (tT K T mg Wn F c) (tE K T mg Wn F m) ow (gkK gk) σ H Q := by
  simp only [ev] at q
  refine ⟨lk, g, env, h, r, ?_⟩
  cases e : evi F lk it env h with
  | no => rw [e] at q; exact q
  | ex c x env' h' => rw [e] at q; exact q
  | ok w env1 h1 =>
    obtain ⟨xs, ln⟩ := w
    rw [e] at q
    simp only [R.bind_ok] at q
    intro g1 H1 J at1 io
    have hP := at1.rel.tab P hT
    refine ⟨hP, fun H2 ht => ?_⟩
    split at q
    · rename_i hb
      obtain ⟨hown, hpa, hlen⟩ := blkOk_inv hb
      have aB := at1.frz (frzI xs ln)
      generalize hgB : g1.cut (lnB env1 σ (frzI xs ln)) = gB at aB io
      generalize heB : Mi.frz (frzI xs ln) env1 = eB at aB io q
      have rB := aB.rel
      have S0 : AtS K T (ln ++ lk) gB eB σ H1 gB (wipeE eB ow) h1 (L2.wipe σ ow) H1 := AtS.wipe rB.ats hown
      have hk' : decide (gk = Gk.any) = gkK gk := rfl
      rw [hk'] at q
      generalize hgk : gkK gk = k at q ⊢
      -- the end, from a state of the block
      have fin : ∀ {g' : Gh} {env' : Mi.Env} {h' : Hx} {H' : Hp} {b : Bool}, AtB K T (ln ++ lk) ow gB eB σ H1 g' env' h' (L2.wipe σ ow) H' → AnsE K T mg W lk g env σ H (.ok ⟨.d (.bool b), true, []⟩ (Mi.back eB env' ow) h') Q → Q (.bl b) H' := fun {g' env' h' H' b} ab q => by
        have aK := AtS.back rB hown ab.at' ab.mono
        have aF := aB.trans aK mem_app_r
        refine q g' (.bl b) H' ⟨aF.fr, aF.rel, aF.own, fun kvs z => (by cases z), ?_⟩
        rw [if_neg (by simp [isMutV, isMut])]
        exact Dq.bl b
      let Pv : Nat → Nat → Hp → Prop := fun n i H' => n + i = xs.length ∧ ∃ g' env' h', AtB K T (ln ++ lk) ow gB eB σ H1 g' env' h' (L2.wipe σ ow) H' ∧
        AnsE K T mg W lk g env σ H ((genLF p ow k (ev F (ln ++ ow ++ lk) c) (ev F (ln ++ ow ++ lk) m) (xs.drop i) env' h').bind fun b env2 h => .ok ⟨.d (.bool b), true, []⟩ (Mi.back eB env2 ow) h) Q
      refine ⟨Pv, xs.length, ⟨rfl, gB, wipeE eB ow, h1, ⟨(rB.wipe ow).ats.tab hP ht, fun _ _ z => z⟩, q⟩, ?_⟩
      rintro n i H' ⟨hni, g', env', h', ab, q⟩
      cases hx : xs[i]? with
      | none =>
        have hi : i = xs.length := Nat.le_antisymm (by omega) (by simpa using hx)
        refine .inl ⟨io.stop _ _ _ _ _ i (S0.trans ab.at' fun _ z => z) hi, ?_⟩
        have hd : xs.drop i = [] := List.drop_eq_nil_of_le (by omega)
        rw [hd] at q
        exact fin ab q
      | some x =>
        have hlt := (List.getElem?_eq_some_iff.mp hx).1
        obtain ⟨jg, jy⟩ := io.go _ _ _ _ _ i x (S0.trans ab.at' fun _ z => z) hx
        refine .inr ⟨jg, n - 1, by omega, fun v H3 y => ?_⟩
        obtain ⟨dv, ay⟩ := jy v H3 y
        rw [drop_of hx] at q
        simp only [genLF] at q
        cases eb : bindP p x env' with
        | none => rw [eb] at q; exact q.elim
        | some env3 =>
          rw [eb] at q
          dsimp only at q
          refine bindP_ok2 ab.at'.rel ay (fun j hj => hown j (hpa j hj)) hpa dv eb fun σ2 a3 hw3 m3 => ?_
          have hw2 : L2.wipe σ2 ow = L2.wipe σ ow := by rw [hw3, wipe_wipe]
          have sub : ∀ j ∈ ln ++ lk, j ∈ ln ++ ow ++ lk := fun j hj => by
            simp only [List.mem_append] at hj ⊢
            rcases hj with z | z
            · exact .inl (.inl z)
            · exact .inr z
          refine ⟨hw2, ln ++ ow ++ lk, g', env3, h', a3.rel, ?_⟩
          cases ec : ev F (ln ++ ow ++ lk) c env3 h' with
          | no => rw [ec] at q; exact q.elim
          | ex c' x' e' h'' => rw [ec] at q; exact q.elim
          | ok w env4 h4 =>
            rw [ec] at q
            simp only [R.calm_ok, R.bind_ok] at q
            cases et : truth w.v with
            | none => rw [et] at q; exact q.elim
            | some b =>
              refine ⟨b, et, fun g4 H4 a4 => ?_⟩
              rw [et] at q
              have s4 : AtS K T (ln ++ lk) g' env' (L2.wipe σ ow) H' g4 env4 h4 σ2 H4 := a3.trans (a4.ats.sub sub) fun _ z => z
              have m4 : ∀ j c, ownAt env4 σ2 j c → ownAt env' (L2.wipe σ ow) j c := fun j c z => m3 j c (a4.own j c z)
              cases b with
              | false =>
                rw [if_neg Bool.false_ne_true]
                exact ⟨by omega, _, _, _, ab.step s4 m4 hown hw2, q⟩
              | true =>
                rw [if_pos rfl]
                refine ⟨ln ++ ow ++ lk, g4, env4, h4, a4.rel, ?_⟩
                cases ee : ev F (ln ++ ow ++ lk) m env4 h4 with
                | no => rw [ee] at q; exact q.elim
                | ex c' x' e' h'' => rw [ee] at q; exact q.elim
                | ok o env5 h5 =>
                  rw [ee] at q
                  simp only [R.calm_ok, R.bind_ok] at q
                  intro g5 yv H5 ce
                  obtain ⟨g6, a6, v6⟩ := ce.look' a4.rel
                  have s5 : AtS K T (ln ++ lk) g' env' (L2.wipe σ ow) H' g6 env5 h5 σ2 H5 := s4.trans (a6.ats.sub sub) fun _ z => z
                  have m5 : ∀ j c, ownAt env5 σ2 j c → ownAt env' (L2.wipe σ ow) j c := fun j c z => m4 j c (a6.own j c z)
                  have sb := ab.step s5 m5 hown hw2
                  split at q
                  · rename_i b eo
                    rw [eo] at v6
                    cases v6
                    refine ⟨b, rfl, ?_⟩
                    by_cases hbk : b = k
                    · rw [if_pos hbk] at q ⊢
                      exact fin sb q
                    · rw [if_neg hbk] at q ⊢
                      exact ⟨by omega, _, _, _, sb, q⟩
                  · exact q.elim
    · exact q.elim
theorem n_genF {gk : Gk} {cc P : Addr} {elt tg iter : Expr} {ifs : List Expr} {p' pos gpos : Pos} {scope : Scope} {own : List (Str × Nat)} {k : Nat} {p : Pat} {it : MI} {c m : MX}
    (hr : Room (k + 1) X.A) (hc : X.calm = true) (hN : X.N.Nodup) (hg : Gl X (gkN gk)) (hm : X.mg (gkN gk) = none) (TB : TabB X.base X.mg cc P) (hT : T P) (hcode : X.env.code = .ref cc) (hi : PI X tg iter (tI X.K T X.mg W F it)) (ok : BlkOk X.N X.env.scope scope own) (hco : scope.isCoroutine = false) (hcell : ∀ y ∈ scope.names, y.2 ≠ .cell) (h0 : scope.names.lookup (".0" : Str) = some NameKind.local)
    (pg : ∀ A s H cenv fp, Room k A → cenv.scope = scope → PG (gcx X A s H cenv fp) tg (gP X.K p)) (ts : ∀ A s H cenv fp, Room k A → cenv.scope = scope → PTs (gcx X A s H cenv fp) ifs (tT X.K T X.mg Wn F c)) (pe : ∀ A s H cenv fp, Room k A → cenv.scope = scope → PE (gcx X A s H cenv fp) elt (tE X.K T X.mg Wn F m))
    (hs : ∀ v, genFold iter X.env v = pure v) (he : starEach [gexp elt tg iter ifs scope gpos] X.env = (false, eval (gexp elt tg iter ifs scope gpos) X.env) :: starEach [] X.env) :
    PE X (.Call (.Name (gkN gk) p') [gexp elt tg iter ifs scope gpos] [] pos) (tE X.K T X.mg W F (.genF gk (own.map (·.2)) p it c m)) :=
  PE.ok (pe_gen hr hc hN hg hm TB hcode hi ok hco hcell h0 pg ts pe hs he) fun lk g env h σ H Q r q => genF_read hT r q
theorem genLF_true {p : Pat} {own : List Nat} {k : Bool} {e : Env → Hx → R Out} {lk : List Nat} : ∀ {xs : List PD} {env : Env} {h : Hx}, genLF p own k (ev F lk (.c (.bool true))) e xs env h = genL p own k e xs env h
  | [], _, _ => rfl
  | x :: r, env, h => by
    unfold genLF genL
    cases bindP p x env with
    | none => rfl
    | some env1 =>
      show (e env1 h).calm.bind _ = (e env1 h).calm.bind _
      congr 1
      funext o env2 h2
      split
      · split
        · rfl
        · exact genLF_true
      · rfl
theorem gen_genF {g : Gk} {own lk : List Nat} {p : Pat} {it : MI} {m : MX} {env : Mi.Env} {h : Hx} : ev F lk (.gen g own p it m) env h = ev F lk (.genF g own p it (.c (.bool true)) m) env h := by
  simp only [ev]
  congr 1
  funext q env1 h1
  split
  · rw [← genLF_true (F := F) (lk := q.2 ++ own ++ lk)]
    rfl
  · rfl
theorem tE_genF {g : Gk} {own : List Nat} {p : Pat} {it : MI} {m : MX} : tE K T mg W F (.gen g own p it m) = tE K T mg W F (.genF g own p it (.c (.bool true)) m) := by
  unfold tE
  funext σ H Q
  simp only [gen_genF]
theorem n_gen {gk : Gk} {c P : Addr} {elt tg iter : Expr} {p' pos gpos : Pos} {scope : Scope} {own : List (Str × Nat)} {k : Nat} {p : Pat} {it : MI} {m : MX}
    (hr : Room (k + 1) X.A) (hc : X.calm = true) (hN : X.N.Nodup) (hg : Gl X (gkN gk)) (hm : X.mg (gkN gk) = none) (TB : TabB X.base X.mg c P) (hT : T P) (hcode : X.env.code = .ref c) (hi : PI X tg iter (tI X.K T X.mg W F it)) (ok : BlkOk X.N X.env.scope scope own) (hco : scope.isCoroutine = false) (hcell : ∀ y ∈ scope.names, y.2 ≠ .cell) (h0 : scope.names.lookup (".0" : Str) = some NameKind.local)
    (pg : ∀ A s H cenv fp, Room k A → cenv.scope = scope → PG (gcx X A s H cenv fp) tg (gP X.K p)) (pe : ∀ A s H cenv fp, Room k A → cenv.scope = scope → PE (gcx X A s H cenv fp) elt (tE X.K T X.mg Wn F m))
    (hs : ∀ v, genFold iter X.env v = pure v) (he : starEach [gexp elt tg iter [] scope gpos] X.env = (false, eval (gexp elt tg iter [] scope gpos) X.env) :: starEach [] X.env) :
    PE X (.Call (.Name (gkN gk) p') [gexp elt tg iter [] scope gpos] [] pos) (tE X.K T X.mg W F (.gen gk (own.map (·.2)) p it m)) := by
  rw [tE_genF]
  exact n_genF hr hc hN hg hm TB hT hcode hi ok hco hcell h0 pg (fun _ _ _ _ _ _ _ => ts_nil) pe hs he
end Mi
/-! MiZ: targets, dict displays, boxes, the promise of a def. -/
namespace Mi
open PySem PySem.Spec PyProof.Rows L2
variable {X : Cx} {K : PySem.W.Frag} {T : Addr → Prop} {mg : Str → Option Value} {W : WX} {F : Fns} {tp : Bool}

/-! ### targets -/
theorem g_var {i : Nat} {x : Str} {pos : Pos} (hN : X.N.Nodup) (hi : X.N[i]? = some x) (hx : Loc X.env.scope x) (hf : X.fn x = true ∨ X.env.scope.names.lookup x = some .local) : PG X (.Name x pos) (gP X.K (.var i)) := pg_name hN hi hx hf
/-- names, in a row -/
structure NamesAt (X : Cx) (es : List Expr) (is : List Nat) : Prop where
  gs : PGs X es (gNames is)
  len : (assignEach es X.env).length = is.length
  st : (assignEach es X.env).findIdx? (·.1) = none
theorem ns_nil : NamesAt X [] [] := ⟨pgs_nil, rfl, rfl⟩
theorem ns_cons {i : Nat} {x : Str} {pos : Pos} {es : List Expr} {is : List Nat} (hN : X.N.Nodup) (hi : X.N[i]? = some x) (hx : Loc X.env.scope x) (hf : X.fn x = true ∨ X.env.scope.names.lookup x = some .local) (h : NamesAt X es is) : NamesAt X (.Name x pos :: es) (i :: is) where
  gs := pgs_cons (pg_name hN hi hx hf) h.gs (by rfl)
  len := by
    show ((false, _) :: assignEach es X.env).length = _
    rw [List.length_cons, List.length_cons, h.len]
  st := by
    show ((false, _) :: assignEach es X.env).findIdx? (·.1) = none
    rw [List.findIdx?_cons, h.st]
    rfl
theorem g_tup {es : List Expr} {is : List Nat} {k : Nat} {pos : Pos} (hc : X.calm = true) (h : NamesAt X es is) : PG X (.Tuple es k pos) (gP X.K (.tup is)) := pg_tup hc h.gs h.len h.st

structure PatsAt (X : Cx) (es : List Expr) (ps : List Pat) : Prop where
  gs : PGs X es (gPs X.K ps)
  len : (assignEach es X.env).length = ps.length
  st : (assignEach es X.env).findIdx? (·.1) = none
theorem pats_nil : PatsAt X [] [] := ⟨by unfold gPs; exact pgs_nil, rfl, rfl⟩
theorem g_nst {es : List Expr} {ps : List Pat} {k : Nat} {pos : Pos} (hc : X.calm = true) (h : PatsAt X es ps) : PG X (.Tuple es k pos) (gP X.K (.nst ps)) := by
  unfold gP
  exact pg_tup hc h.gs h.len h.st
theorem pats_cons {e : Expr} {p : Pat} {es : List Expr} {ps : List Pat} (hn : assignEach (e :: es) X.env = (false, assign e X.env) :: assignEach es X.env) (hg : PG X e (gP X.K p)) (h : PatsAt X es ps) : PatsAt X (e :: es) (p :: ps) where
  gs := by
    unfold gPs
    exact pgs_cons hg h.gs (by rw [hn]; rfl)
  len := by
    rw [hn, List.length_cons, List.length_cons, h.len]
  st := by
    rw [hn, List.findIdx?_cons, h.st]
    rfl

theorem dq_ints {Wv : Hp} : ∀ xs : List Int, DqAll Wv (xs.map V.int) (xs.map PyData.int)
  | [] => .nil
  | x :: xs => .cons (.int x) (dq_ints xs)
/-! ### the script's list -/
theorem n_lscr {i : Nat} {x : Str} {p np pos : Pos} (hN : X.N[i]? = some x) (hv : Vis X.env.scope x) (hd : (x == ("__debug__" : Str)) = false) (hcd : (x == ("__classdict__" : Str)) = false) (hg : Gl X "list") (hm : X.mg "list" = none) :
    PE X (.Call (.Name "list" p) [.Name x np] [] pos) (tE X.K T X.mg W F (.lscr i)) := by
  refine PE.ok (pe_callTy call_list_of hg hm (by decide +kernel) (pa_cons (pe_var hN hv hd hcd) pa_nil)) fun lk g env h σ H Q r q => ?_
  simp only [ev] at q
  split at q
  · rename_i xs b e
    have hb : b = false := by
      cases b with
      | false => rfl
      | true =>
        obtain ⟨a, _, _, z, _⟩ := r.own i _ e
        exact z.elim
    subst hb
    obtain ⟨u, e1, a, hs, rfl⟩ := r.slot i _ e
    have key : AnsE X.K T X.mg W lk g env σ H (.ok ⟨.d (.list (xs.map PyData.int)), true, lnOf (.d (.list (xs.map PyData.int))) true []⟩ env h) Q := q
    have got := r.at.got (ln := []) key
    refine ⟨_, e1, a, _, rfl, .inl (SqL.upS fz_sm hs), fun l hl => got.lst l _ _ rfl rfl hl ?_⟩
    exact dq_ints xs
  · exact q.elim

/-! ### dict displays -/
theorem tE_mono {m : MX} {σ : L2.St} {H : Hp} {Q Q' : VK} (h : tE K T mg W F m σ H Q) (k : ∀ v H1, Q v H1 → Q' v H1) : tE K T mg W F m σ H Q' := by
  obtain ⟨lk, g, env, hx, r, q⟩ := h
  refine ⟨lk, g, env, hx, r, ?_⟩
  cases e : ev F lk m env hx with
  | no => rw [e] at q; exact q
  | ex c x env' h' => rw [e] at q; exact q
  | ok o env1 h1 =>
    rw [e] at q
    exact fun g1 v H1 c => k v H1 (q g1 v H1 c)
def dTrs (K : PySem.W.Frag) (T : Addr → Prop) (mg : Str → Option Value) (W : WX) (F : Fns) : List Str → List MX → List (TE × TE)
  | k :: ks, m :: ms => (tC (.str k), tE K T mg W F m) :: dTrs K T mg W F ks ms
  | _, _ => []
theorem pairs_read : ∀ {ks : List Str} {ms : List MX} {σ : L2.St} {H : Hp} {Q : List (V × V) → Hp → Prop}, ks.length = ms.length → tAs K T mg W F ms σ H (fun vs H1 => Q (List.zipWith (fun k v => (V.str k, v)) ks vs) H1) → tPairs (dTrs K T mg W F ks ms) σ H Q
  | [], [], σ, H, Q, _, h => by
    obtain ⟨lk, g, env, hx, r, q⟩ := h
    simp only [evs] at q
    exact q g [] H r.at .nil
  | k :: ks, m :: ms, σ, H, Q, hl, h => by
    have h2 := tAs_cons h
    show tE K T mg W F m σ H fun y H2 => tPairs (dTrs K T mg W F ks ms) σ H2 fun ps H3 => Q ((V.str k, y) :: ps) H3
    exact tE_mono h2 fun v H1 z => pairs_read (Nat.succ.inj hl) z
  | [], _ :: _, _, _, _, hl, _ => by cases hl
  | _ :: _, [], _, _, _, hl, _ => by cases hl
theorem merge_nodup : ∀ {more acc : List (Key × V)}, (∀ p ∈ more, ∀ q ∈ acc, p.1 ≠ q.1) → (more.map (·.1)).Nodup → mergeK acc more = acc ++ more
  | [], acc, _, _ => by simp [mergeK]
  | p :: r, acc, h, n => by
    rw [List.map_cons, List.nodup_cons] at n
    show mergeK (putK acc p.1 p.2) r = _
    have e : putK acc p.1 p.2 = acc ++ [p] := by
      unfold putK
      rw [if_neg]
      intro z
      rw [List.any_eq_true] at z
      obtain ⟨q, hq, e⟩ := z
      exact h p List.mem_cons_self q hq (of_decide_eq_true e).symm
    rw [e, merge_nodup (acc := acc ++ [p]) (fun q hq q' hq' => ?_) n.2, List.append_assoc]
    · rfl
    · rcases List.mem_append.mp hq' with z | z
      · exact h q (List.mem_cons_of_mem _ hq) q' z
      · rw [List.mem_singleton.mp z]
        intro e2
        exact n.1 (List.mem_map.mpr ⟨q, hq, e2⟩)
def dKvs (ks : List Str) (vs : List V) : List (Key × V) := List.zipWith (fun k v => (Sum.inr k, v)) ks vs
theorem dKvs_map : ∀ {ks : List Str} {vs : List V}, List.zipWith (fun k v => (V.str k, v)) ks vs = (dKvs ks vs).map fun kv => (kV kv.1, kv.2)
  | [], _ => rfl
  | _ :: _, [] => rfl
  | k :: ks, v :: vs => by
    show (V.str k, v) :: _ = (kV (.inr k), v) :: _
    rw [dKvs_map]
    rfl
theorem dKvs_kv {Wv : Hp} : ∀ {ks : List Str} {vs : List V} {xs : List PD}, DqAll Wv vs xs → KvR K Wv (dKvs ks vs) (ks.zip xs)
  | [], _, _, _ => .nil
  | _ :: _, _, _, .nil => .nil
  | k :: ks, _, _, .cons h t => .cons h (dKvs_kv t)
theorem dKvs_keys : ∀ {ks : List Str} {vs : List V}, ks.length = vs.length → (dKvs ks vs).map (·.1) = ks.map Sum.inr
  | [], [], _ => rfl
  | k :: ks, v :: vs, h => by
    show Sum.inr k :: _ = Sum.inr k :: _
    rw [← dKvs_keys (Nat.succ.inj h)]
    rfl
  | [], _ :: _, h => by cases h
  | _ :: _, [], h => by cases h
/-- arguments ahead, from a state behind the base -/
theorem seqSA2 {lk : List Nat} {g g0 : Gh} {env env0 : Mi.Env} {h0 : Hx} {σ : L2.St} {H H0 : Hp} {D : Ends} {ms : List MX} {body : List Out → Mi.Env → Hx → R Fl} (a : AtS K T lk g env σ H g0 env0 h0 σ H0) (q : AnsS K T mg W lk g env σ H ((evs F lk ms env0 h0).bind body) D) {P : List V → Hp → Prop}
    (k : ∀ os env1 h1 g1 vs H1, os.length = ms.length → At K T lk g0 env0 σ H0 g1 env1 h1 H1 → VRs K (g1.vw env1 σ (lnsOf os) H1) g1.ρ (os.map Out.v) vs → AnsS K T mg W lk g env σ H (body os env1 h1) D → P vs H1) : tAs K T mg W F ms σ H0 P := by
  refine ⟨lk, g0, env0, h0, a.rel, ?_⟩
  cases e : evs F lk ms env0 h0 with
  | no => rw [e] at q; exact q
  | ex c x env' h' => rw [e] at q; exact (AnsS.pre a (fun _ z => z) q).toX
  | ok os env1 h1 =>
    rw [e] at q
    exact fun g1 vs H1 at1 v1 => k os env1 h1 g1 vs H1 (evs_len e) at1 v1 q
theorem n_retD {ks : List Str} {ms : List MX} {kes : List (Option Expr)} {ves : List Expr} {pos rp : Pos} (hp : PPs X pos kes ves (dTrs X.K T X.mg W F ks ms)) (hl : ks.length = ms.length) (hall : kes.all (·.isSome) = true) (hl2 : kes.length = ves.length) (h0 : kes ≠ []) (h15 : kes.length ≤ 15) :
    PS X (.Return (some (.Dict kes ves pos)) rp) (tS X.K T X.mg W F tp (.retD ks ms)) := by
  refine PS.ok (ps_ret (pe_disp hp hall hl2 h0 h15)) fun lk g env h σ H D tq r q => ?_
  simp only [exS] at q
  intro p hpn
  refine pairs_read hl ?_
  have a0 : AtS X.K T lk g env σ H (g.add p) env h σ (upd H p (.dK [])) := ⟨Fram.growO r lk hpn, r.growO hpn rfl⟩
  have fp := r.fresh hpn
  refine seqSA2 a0 q fun os env1 h1 g1 vs H1 l a1 v1 q1 => ?_
  obtain ⟨d1, d2, d3, d4⟩ := a1.fr.rest p (add_O.mpr (.inr rfl)) (fun i z => fp.2.2.1 i z) fp.2.2.2
  rw [upd_same] at d2
  split at q1
  · rename_i xs ex
    split at q1
    · rename_i hc
      obtain ⟨c1, c2, c3, c4⟩ := hc
      have hv : ks.length = vs.length := by rw [hl, ← l, ← v1.len, List.length_map]
      refine ⟨d2, dKvs ks vs, dKvs_map, ?_, ?_⟩
      · unfold dKvs
        rw [List.length_zipWith]
        omega
      · have hm : mergeK [] (dKvs ks vs) = dKvs ks vs := by
          rw [merge_nodup (fun _ _ q hq => by cases hq)]
          · rfl
          · rw [dKvs_keys hv]
            exact List.Pairwise.map _ (fun a b h e => h (Sum.inr.inj e)) c4
        rw [hm]
        have a2 := (a0.trans a1.ats fun _ z => z).frz (lnsOf os)
        have up : ∀ i, ¬ ownAt (Mi.frz (lnsOf os) env1) σ i p := fun i z => d3 i (ownAt_frz.mp z).1
        have dO : (g1.cut (lnB env1 σ (lnsOf os))).O p = true := cut_O.mpr ⟨d1, by
          cases z : lnB env1 σ (lnsOf os) p with
          | false => rfl
          | true =>
            obtain ⟨j, _, w⟩ := lnB_iff.mp z
            exact absurd w (d3 j)⟩
        have a3 := a2.tmpO (o2 := .dK (dKvs ks vs)) hpn d2 (fun q z => by cases z) rfl dO up d4
        refine q1 _ _ _ _ a3 ⟨rfl, p, rfl, hpn, dO, d4, dKvs ks vs, upd_same, ?_⟩
        rw [fz_upd dO, cut_view]
        exact dKvs_kv (v1.data ex)
    · exact q1.elim
  · exact q1.elim
end Mi
/-! MiZa: boxes are made; the promise of a def. -/
namespace Mi
open PySem PySem.Spec PyProof.Rows L2
variable {X : Cx} {K : PySem.W.Frag} {T : Addr → Prop} {mg : Str → Option Value} {W : WX} {F : Fns} {tp : Bool}

section
variable {k : Nat} {x y : Str} {f i : Nat} {p pos py spos : Pos} {e : Expr} {es : List Expr} {ms : List MX}
theorem pe_callM (A : FnAt X T F k x f (e :: es).length [] (List.range (e :: es).length)) (hr : Room k X.A) (tk : Takes X W) (hg : Gl X x) (ha : PA X (e :: es) (tAs X.K T X.mg W F ms)) (hdb : (x == ("__debug__" : Str)) = false)
    (he : starEach (e :: es) X.env = (false, eval e X.env) :: starEach es X.env) (hpl : (backTo pos (starEach es X.env)).any (·.1) = false) : PE X (.Call (.Name x p) (e :: es) [] pos) (fun σ H Q => tAs X.K T X.mg W F ms σ H fun vs H1 => vs.length = (e :: es).length ∧ spR X.K T X.mg (F f) vs H1 Q (WE W σ)) := by
  obtain ⟨addr, fd, ps, hm, hk, Fk, hb⟩ := A.ex
  refine ⟨fun pins s σ H Q I h => ?_⟩
  refine wpAny_Call_Name_kw (ld_glob I hg hm ?_ hdb)
  refine PySem.W.callWith_K (h₀ := X.base) I.ok.mod.kin hk (thn (ha.run pos pins s σ H _ I h) fun us s1 ⟨vs, H1, I1, r, l, q⟩ => ⟨I1.kIn, ?_⟩) he hpl
  have := run_at (zs := []) (ws := []) Fk hb hr tk I1 r .nil (by rw [← vals_len r]; exact l) rfl (by rw [List.append_nil, ← l, permL_range]; exact q)
  simpa using this
theorem lnB_empty {env : Mi.Env} {σ : L2.St} {ln : List Nat} (h : ln.isEmpty = true) : lnB env σ ln = fun _ => false := by
  rw [List.isEmpty_iff.mp h]
  rfl
theorem n_asgBox (A : FnAt X T F k x f (e :: es).length [] (List.range (e :: es).length)) (hr : Room k X.A) (tk : Takes X W) (hg : Gl X x) (ha : PA X (e :: es) (tAs X.K T X.mg W F ms)) (hl : ms.length = (e :: es).length) (hdb : (x == ("__debug__" : Str)) = false)
    (he : starEach (e :: es) X.env = (false, eval e X.env) :: starEach es X.env) (hpl : (backTo pos (starEach es X.env)).any (·.1) = false)
    (hN : X.N.Nodup) (hi : X.N[i]? = some y) (hy : Loc X.env.scope y) (hs : swapsWith (.Call (.Name x p) (e :: es) [] pos) (some (.Name y py)) spos.line X.env = pure false) (hf : X.fn y = true ∨ X.env.scope.names.lookup y = some .local) :
    PS X (.Assign [.Name y py] (.Call (.Name x p) (e :: es) [] pos) spos) (tS X.K T X.mg W F tp (.asgBox i f ms)) := by
  refine PS.ok (ps_set hN hi hy (pe_callM A hr tk hg ha hdb he hpl) hs hf) fun lk g env h σ H D tq r q => ?_
  simp only [exS] at q
  refine seqSA r q fun os env1 h1 g1 vs H1 l a1 v1 q1 => ⟨by rw [← v1.len, List.length_map, l, hl], ?_⟩
  refine ⟨g1.lend (lnB env1 σ (lnsOf os)), h1, os.map Out.v, a1.rel.lend (lnsOf os), v1, ?_⟩
  cases ef : F f (os.map Out.v) h1 with
  | no => rw [ef] at q1; exact q1.elim
  | ex c x h' =>
    rw [ef] at q1
    intro g' H' cls d fr' r' xr
    have b := back_ok a1.rel fr' r' lk
    have ab := a1.trans b (fun _ z => z)
    obtain ⟨m, dd, v, e1, e2, e3⟩ := xr
    have az := ab.frz (if noL x then [] else lnsOf os)
    refine q1 _ _ H' cls d az.ats ⟨m, dd, v, e1, e2, ?_⟩
    have d1 := Dq.up (back_view a1.rel fr') e3
    rw [cut_view]
    by_cases z : noL x = true
    · rw [if_pos z, vw_nil]
      exact Dq.noL (no_tup ab.rel) d1 z
    · rw [if_neg z]
      exact d1
  | ok v fr h' =>
    rw [ef] at q1
    cases v with
    | dct kvs =>
      cases fr with
      | false => exact q1.elim
      | true =>
        dsimp only at q1
        split at q1
        · rename_i hcnd
          simp only [Bool.and_eq_true, Bool.not_eq_true'] at hcnd
          obtain ⟨⟨htp, hln⟩, hlk⟩ := hcnd
          have hi' : i ∉ lk := by simpa using hlk
          intro g' u H' fr' r' ret
          obtain ⟨_, p0, rfl, hp1, hp2, hp3, es1, hp4, hp5⟩ := ret
          have hL := lnB_empty (env := env1) (σ := σ) hln
          have ab := a1.trans (back_ok a1.rel fr' r' lk) (fun _ z => z)
          have hA : ∀ a, (g1.back g' (lnB env1 σ (lnsOf os))).A a = false := fun a => (tq.of ab.fr) htp a
          have hO : ∀ a, (g1.back g' (lnB env1 σ (lnsOf os))).O a = g'.O a := fun a => by
            show (g'.O a || lnB env1 σ (lnsOf os) a) = g'.O a
            rw [hL]
            simp
          have hpn : H p0 = none := a1.fr.there p0 hp1
          have un : ∀ j, ¬ ownAt env1 σ j p0 := fun j z => a1.rel.nn p0 (a1.rel.ownO z) hp1
          -- the new box
          have abx : AtS X.K T lk g env σ H { g1.back g' (lnB env1 σ (lnsOf os)) with ρ := g'.ρ ++ [p0] } env1 (h' ++ [.dct kvs]) σ H' := by
            have R := ab.rel
            refine ⟨⟨fun c c1 c2 c3 => ?_, ab.fr.keep, ?_, ab.fr.al, ab.fr.lock, ab.fr.size, ab.fr.old, ab.fr.there⟩, ⟨R.len, fun j v e => ?_, R.own, R.sep, fun j c z => ?_, fun j bx e => ?_, ?_, ?_, R.dis, R.kind, R.tab⟩⟩
            · obtain ⟨q1, q2, q3, q4⟩ := ab.fr.rest c c1 c2 c3
              refine ⟨q1, q2, q3, fun z => ?_⟩
              rcases List.mem_append.mp z with z | z
              · exact q4 z
              · rw [List.mem_singleton.mp z] at c1
                exact r.nn p0 c1 hpn
            · obtain ⟨l0, e0⟩ := ab.fr.pre
              exact ⟨l0 ++ [p0], by
                show g'.ρ ++ [p0] = _
                have : g'.ρ = g.ρ ++ l0 := e0
                rw [this, List.append_assoc]⟩
            · obtain ⟨u, e1, e2⟩ := R.slot j v e
              exact ⟨u, e1, VR.grow e2 (Sm.refl _) ⟨[p0], rfl⟩⟩
            · intro w
              rcases List.mem_append.mp w with w | w
              · exact R.nb j c z w
              · exact un j (by rw [← List.mem_singleton.mp w]; exact z)
            · by_cases hj : j < h'.length
              · rw [List.getElem?_append_left hj] at e
                obtain ⟨c, e1, e2, e3⟩ := R.box j bx e
                refine ⟨c, ?_, e2, e3⟩
                show (g'.ρ ++ [p0])[j]? = some c
                have hlt : j < g'.ρ.length := by rw [r'.rlen]; exact hj
                rw [List.getElem?_append_left hlt]
                exact e1
              · rw [List.getElem?_append_right (by omega)] at e
                have hj2 : j = h'.length := by
                  by_cases z : j - h'.length = 0
                  · omega
                  · rw [List.getElem?_cons] at e
                    rw [if_neg z] at e
                    simp at e
                subst hj2
                rw [Nat.sub_self] at e
                obtain rfl : Bx.dct kvs = bx := by simpa using e
                refine ⟨p0, ?_, (hO p0).trans hp2, es1, hp4, ?_⟩
                · show (g'.ρ ++ [p0])[h'.length]? = some p0
                  rw [← r'.rlen, List.getElem?_append_right (Nat.le_refl _), Nat.sub_self]
                  rfl
                · refine KvR.up (fun c o _ w => ?_) hp5
                  rw [fz_some] at w ⊢
                  refine ⟨?_, w.2⟩
                  show ((g1.back g' (lnB env1 σ (lnsOf os))).O c || (g1.back g' (lnB env1 σ (lnsOf os))).A c) = false
                  rw [hO, hA, w.1]
                  rfl
            · show (g'.ρ ++ [p0]).length = (h' ++ [Bx.dct kvs]).length
              rw [List.length_append, List.length_append, r'.rlen]
              rfl
            · show (g'.ρ ++ [p0]).Nodup
              rw [List.nodup_append]
              refine ⟨r'.rnd, by simp, fun a ha b hb => ?_⟩
              rw [List.mem_singleton.mp hb]
              intro z
              exact hp3 (z ▸ ha)
          refine q1 _ _ _ (abx.put r hi' (s := ⟨.box h'.length, false⟩) (v := .ref p0) ?_)
          unfold SlotR
          rw [if_neg (by simp)]
          refine ⟨p0, ?_, rfl⟩
          show (g'.ρ ++ [p0])[h'.length]? = some p0
          rw [← r'.rlen, List.getElem?_append_right (Nat.le_refl _), Nat.sub_self]
          rfl
        · exact q1.elim
    | _ => exact q1.elim
end
end Mi
/-! MiZb: the promise of a def, from its body. -/
namespace Mi
open PySem PySem.Spec PyProof.Rows L2
variable {X : Cx} {K : PySem.W.Frag} {T : Addr → Prop} {mg : Str → Option Value} {W : WX} {F : Fns} {tp : Bool}

theorem start_get {n i : Nat} {xs : List Val} {s : Slot} (e : (Mi.start n xs)[i]? = some (some s)) : ∃ v, xs[i]? = some v ∧ s = ⟨v, false⟩ := by
  unfold Mi.start at e
  by_cases h : i < xs.length
  · rw [List.getElem?_append_left (by simpa using h), List.getElem?_map] at e
    cases q : xs[i]? with
    | none => rw [q] at e; cases e
    | some v =>
      rw [q] at e
      exact ⟨v, rfl, by simpa using e.symm⟩
  · rw [List.getElem?_append_right (by simpa using h)] at e
    have := List.mem_of_getElem? e
    rw [List.mem_replicate] at this
    cases this.2
theorem start_own {n : Nat} {xs : List Val} {σ : L2.St} {i : Nat} {a : Addr} : ¬ ownAt (Mi.start n xs) σ i a := fun ⟨⟨v, e⟩, _⟩ => by
  obtain ⟨w, _, z⟩ := start_get e
  cases z
theorem Rel.start {g : Gh} {h : Hx} {H : Hp} {xs : List Val} {vs : List V} {N : List Str} {n : Nat} (r : Rel K T g [] h [] H) (v : VRs K (fz g.O H) g.ρ xs vs) (hn : N.length = n) (hl : xs.length ≤ n) : Rel K T g (Mi.start n xs) h (L2.start N vs) H where
  len := by
    unfold Mi.start L2.start
    have := v.len
    simp only [List.length_append, List.length_map, List.length_replicate]
    omega
  slot := fun i w e => by
    obtain ⟨w', e1, e2⟩ := start_get e
    obtain ⟨rfl⟩ : w = w' := by
      have := Slot.mk.inj e2
      exact this.1
    rcases VRs.at v i with ⟨z, _⟩ | ⟨x, u, f1, f2, f3⟩
    · rw [e1] at z
      cases z
    · rw [e1] at f1
      cases f1
      refine ⟨u, ?_, f3⟩
      unfold L2.start
      have hi := (List.getElem?_eq_some_iff.mp f2).1
      rw [List.getElem?_append_left (by simpa using hi), List.getElem?_map, f2]
      rfl
  own := fun i w e => by
    obtain ⟨w', _, e2⟩ := start_get e
    cases e2
  sep := fun i j a q => absurd q start_own
  nb := fun i a q => absurd q start_own
  box := r.box
  rlen := r.rlen
  rnd := r.rnd
  dis := r.dis
  kind := r.kind
  tab := r.tab
theorem Rel.bare {g : Gh} {env : Mi.Env} {h : Hx} {σ : L2.St} {H : Hp} (r : Rel K T g env h σ H) : Rel K T g [] h [] H where
  len := rfl
  slot := fun i v e => by simp at e
  own := fun i v e => by simp at e
  sep := fun i j a q => absurd q no_own
  nb := fun i a q => absurd q no_own
  box := r.box
  rlen := r.rlen
  rnd := r.rnd
  dis := r.dis
  kind := r.kind
  tab := r.tab
theorem Fram.bare {lk : List Nat} {g g1 : Gh} {env env1 : Mi.Env} {σ σ1 : L2.St} {H H1 : Hp} (f : Fram lk g env σ H g1 env1 σ1 H1) (hs : ∀ i a, ¬ ownAt env σ i a) : Fram [] g [] [] H g1 [] [] H1 where
  rest := fun a h1 _ h3 => by
    obtain ⟨q1, q2, _, q4⟩ := f.rest a h1 (fun i => hs i a) h3
    exact ⟨q1, q2, fun i => no_own, q4⟩
  keep := f.keep
  pre := f.pre
  al := f.al
  lock := fun i hi => by cases hi
  size := rfl
  old := f.old
  there := f.there
theorem run_eq {D : Nat → Option Def} {n f : Nat} {d : Def} (hd : D f = some d) {vs : List Val} {h : Hx} (hl : vs.length = d.args) : run D (n + 1) f vs h = (match exSs (run D n) false [] d.body (Mi.start d.size vs) h with
    | .ok (.ret o) _ h => .ok o.v o.fr h
    | .ok .next _ h => .ok (.d .none) false h
    | .ok _ _ _ => .no
    | .ex c x _ h => .ex c x h
    | .no => .no) := by
  simp only [run, hd, hl, if_true]
  all_goals
    cases exSs (run D n) false [] d.body (Mi.start d.size vs) h with
    | no => rfl
    | ex c x e hh => rfl
    | ok fl e hh => cases fl <;> rfl
theorem spR_len {D : Nat → Option Def} {n f : Nat} {d : Def} (hd : D f = some d) {vs : List V} {H : Hp} {Q : VK} {E : XK} (h : spR K T mg (run D (n + 1) f) vs H Q E) : vs.length = d.args := by
  obtain ⟨g, hx, xs, r, v, a⟩ := h
  by_cases hl : xs.length = d.args
  · rw [← v.len, hl]
  · simp only [run, hd, if_neg hl] at a
    exact a.elim
theorem def_read {D : Nat → Option Def} {n f : Nat} {d : Def} (hd : D f = some d) {N : List Str} (hN : N.length = d.size) (hz : d.args ≤ d.size) {vs : List V} {H : Hp} {Q : VK} {E : XK} (h : spR K T mg (run D (n + 1) f) vs H Q E) :
    tSs K T mg (fun cls d _ H => E cls d H) (run D n) false d.body { nx := fun _ H' => Q .non H', rt := Q } (L2.start N vs) H := by
  obtain ⟨g, hx, xs, r, v, a⟩ := h
  by_cases hl : xs.length = d.args
  · rw [run_eq hd hl] at a
    have r0 := r.start v hN (by rw [hl]; exact hz)
    refine ⟨[], g, Mi.start d.size xs, hx, (fun z => by cases z), r0, ?_⟩
    cases e : exSs (run D n) false [] d.body (Mi.start d.size xs) hx with
    | no => rw [e] at a; exact a.elim
    | ex c x env' h' =>
      rw [e] at a
      exact fun g' σ' H' cls dd at' xr => a g' H' cls dd (at'.fr.bare fun _ _ => start_own) at'.rel.bare xr
    | ok fl env' h' =>
      rw [e] at a
      cases fl with
      | brk => exact a.elim
      | cont => exact a.elim
      | next =>
        refine fun g' σ' H' at' => a g' .non H' (at'.fr.bare fun _ _ => start_own) at'.rel.bare ⟨fun kvs z => (by cases z), ?_⟩
        rw [if_neg (by simp [isMutV])]
        exact Dq.non
      | ret o =>
        refine fun g' σ' H' u at' ro => a g' u H' (at'.fr.bare fun _ _ => start_own) at'.rel.bare ?_
        -- an own name's object is new
        have new : ∀ i p, ownAt env' σ' i p → H p = none := fun i p q => by
          cases z : H p with
          | none => rfl
          | some ob =>
            have hO := at'.rel.ownO q
            cases hg : g.O p with
            | false =>
              rw [at'.fr.old p hg (by rw [z]; simp)] at hO
              cases hO
            | true =>
              by_cases hρ : p ∈ g.ρ
              · obtain ⟨l, el⟩ := at'.fr.pre
                exact absurd (by rw [el]; exact List.mem_append_left _ hρ) (at'.rel.nb i p q)
              · exact absurd q ((at'.fr.rest p hg (fun i => start_own) hρ).2.2.1 i)
        obtain ⟨ov, fr, ln⟩ := o
        unfold RetO at ro
        unfold RetR
        cases ov with
        | dct kvs => exact ro
        | _ =>
          refine ⟨fun kvs z => (by cases z), ?_⟩
          dsimp only at ro ⊢
          split at ro
          · rename_i hf
            rw [if_pos hf]
            obtain ⟨p, e1, e2, e3, e4, e5⟩ := ro
            refine ⟨p, e1, e4.elim id (fun ⟨i, q⟩ => new i p q), e2, fun i => no_own, e3, ?_⟩
            rw [vw_nil]
            exact e5
          · rename_i hf
            rw [if_neg hf, vw_nil]
            exact ro
  · simp only [run, hd, if_neg hl] at a
    exact a.elim
/-- a def of the text, its body proved in every context that it may run in -/
theorem fn_def {P : Program} {w : World} {base : Heap} {k : Nat} {fa : Addr} {name qual : Str} {params : Arguments} {body : List Stmt} {scope : Scope} {dV kV doc pm cdv ct oc : Value} {an od : Option Addr} {osl : Array (Option Value)} {N ps : List Str} {D : Nat → Option Def} {n f : Nat} {d : Def}
    (lk : K.lookup fa = some ⟨oc, od, .func (PySem.W.fnOf name qual params body scope dV kV doc pm an cdv ct), osl⟩) (hcd : PySem.W.codeIn K cdv qual = true) (S : FnScope N ps scope) (hd : D f = some d) (hN : N.length = d.size) (hps : ps.length = d.args) (hz : d.args ≤ d.size)
    (hbody : ∀ (A : Around) (outer : List PySem.Env) (s : Shared) (H : Hp) (E : XK), Room k (A.deeper (envOfC qual scope s.heap.objs.size fa cdv)) → Takes (cxOf (L2.CX P w) P w K mg base N qual scope fa cdv A outer s H E) (fun cls d _ H => E cls d H) →
      PassesOwn (model P w) (cxOf (L2.CX P w) P w K mg base N qual scope fa cdv A outer s H E).A (cxOf (L2.CX P w) P w K mg base N qual scope fa cdv A outer s H E).env (cxOf (L2.CX P w) P w K mg base N qual scope fa cdv A outer s H E).xe →
      PSs (cxOf (L2.CX P w) P w K mg base N qual scope fa cdv A outer s H E) body (tSs K T mg (fun cls d _ H => E cls d H) (run D n) false d.body)) :
    FnOk P w K mg base (L2.CX P w) (k + 1) fa (PySem.W.fnOf name qual params body scope dV kV doc pm an cdv ct) ps (spR K T mg (run D (n + 1) f)) := by
  refine fn_of lk hcd S (fun vs H Q E h => by rw [spR_len hd h, hps]) fun A outer s H vs Q E hr h => ⟨_, hbody A outer s H E hr ?_ ?_, def_read hd hN hz h⟩
  · exact takes_of (X := cxOf (L2.CX P w) P w K mg base N qual scope fa cdv A outer s H E) (E₁ := fun e' s'' => L2.CX P w outer H s E e' s'') rfl rfl rfl rfl
  · exact passes_of (X := cxOf (L2.CX P w) P w K mg base N qual scope fa cdv A outer s H E) (K := fun e s'' => L2.CX P w outer H s E e s'') (E₁ := fun e' s'' => L2.CX P w outer H s E e' s'') rfl
end Mi
/-! MiSa: sets of keys of any depth (whole numbers, tuples of such). -/
namespace Mi.Sk
open PySem PySem.Spec PyProof.Rows L2
mutual
def nk : NestedKey → Bool
  | .none => false
  | .num _ => true
  | .text _ => false
  | .tup ks => nks ks
def nks : List NestedKey → Bool
  | [] => true
  | k :: ks => nk k && nks ks
end
section
variable {P : Program} {w : World}
/-! ### small questions -/
mutual
theorem cls_key {E : Value → Shared → Prop} : ∀ (k : NestedKey) (v : Value) (n : Nat) (A : Around) (s : Shared) (Q : Bool → Shared → Prop), NestedIs s.heap k v → k.depth ≤ n → Q false s → wpAny (model P w) A (ofAClassStatement n v) Q E s
  | .none, v, n, A, s, Q, x, _, q => by
    cases x
    cases n <;> exact wpAny_pure q
  | .num i, v, n, A, s, Q, x, _, q => by
    cases x <;> cases n <;> exact wpAny_pure q
  | .text y, v, n, A, s, Q, x, _, q => by
    cases x
    cases n <;> exact wpAny_pure q
  | .tup ks, v, n, A, s, Q, x, hn, q => by
    cases x with
    | @tup b o vs m _ hg hc hd hk =>
      simp only [NestedKey.depth] at hn
      cases n with
      | zero => omega
      | succ n =>
        unfold ofAClassStatement
        refine wpAny_bind (wpAny_typeOf ⟨o, hg, hc⟩ ?_)
        dsimp only
        have et : (("tuple" : String) == "tuple") = true := by decide
        simp only [et, if_true, Bool.not_true, Bool.false_eq_true, if_false]
        try refine wpAny_bind (wpAny_pure ?_)
        try simp only [Bool.not_true, Bool.false_eq_true, if_false]
        show wpAny _ _ (seqItems? (Value.ref b) >>= _) _ _ s
        refine wpAny_bind (wpAny_seqItems hg hd ?_)
        dsimp only
        refine wpAny_bind ?_
        show wpAny _ _ (forIn vs _ _) _ _ s
        rw [← Array.forIn_toList]
        have each := cls_keys (E := E) ks vs.toList n s hk (by omega)
        refine wpAny_forIn_list _ (fun rest r s1 => r.1 = none ∧ s1 = s ∧ ∀ u ∈ rest, u ∈ vs.toList) _ ?_ ?_ _ _ ⟨rfl, rfl, fun u hu => hu⟩
        · rintro u rest r s1 ⟨hr, rfl, all⟩
          refine wpAny_bind (each u (all u List.mem_cons_self) A _ ?_)
          simp only [Bool.false_eq_true, if_false]
          exact wpAny_pure ⟨rfl, rfl, fun z hz => all z (List.mem_cons_of_mem _ hz)⟩
        · rintro ⟨r1, r2⟩ s1 ⟨hr, rfl, _⟩
          simp only at hr
          subst hr
          exact wpAny_pure q
theorem cls_keys {E : Value → Shared → Prop} : ∀ (ks : List NestedKey) (vs : List Value) (n : Nat) (s : Shared), NestedAll s.heap ks vs → NestedKey.depthAll ks ≤ n → ∀ u ∈ vs, ∀ (A : Around) (Q : Bool → Shared → Prop), Q false s → wpAny (model P w) A (ofAClassStatement n u) Q E s
  | [], _, n, s, x, _, u, hu, A, Q, q => by cases x; cases hu
  | k :: ks, _, n, s, x, hn, u, hu, A, Q, q => by
    cases x with
    | cons x1 x2 =>
      simp only [NestedKey.depthAll] at hn
      rcases List.mem_cons.mp hu with e | hu
      · rw [e]; exact cls_key k _ n A s Q x1 (by omega) q
      · exact cls_keys ks _ n s x2 (by omega) u hu A Q q
end
mutual
theorem hbv_key {E : Value → Shared → Prop} : ∀ (k : NestedKey) (v : Value) (n : Nat) (A : Around) (s : Shared) (Q : Bool → Shared → Prop), NestedIs s.heap k v → nk k = true → k.depth ≤ n → Q true s → wpAny (model P w) A (hashByValue n v) Q E s
  | .none, v, n, A, s, Q, x, hk, _, q => by cases hk
  | .num i, v, n, A, s, Q, x, _, _, q => by
    cases x <;> cases n <;> exact wpAny_pure q
  | .text y, v, n, A, s, Q, x, hk, _, q => by cases hk
  | .tup ks, v, n, A, s, Q, x, hnk, hn, q => by
    cases x with
    | @tup b o vs m _ hg hc hd hk =>
      simp only [NestedKey.depth] at hn
      cases n with
      | zero => omega
      | succ n =>
        unfold hashByValue
        refine wpAny_bind (wpAny_specialOf (⟨o, hg, hc⟩ : s.TypeIs (.ref b) "tuple") F.slot_tuple_hash.lookup ?_)
        show wpAny _ _ (seqItems? (Value.ref b) >>= _) _ _ s
        refine wpAny_bind (wpAny_seqItems hg hd ?_)
        refine wpAny_bind ?_
        show wpAny _ _ (forIn vs _ _) _ _ s
        rw [← Array.forIn_toList]
        have each := hbv_keys (E := E) ks vs.toList n s hk hnk (by omega)
        refine wpAny_forIn_list _ (fun rest r s1 => r.1 = none ∧ s1 = s ∧ ∀ u ∈ rest, u ∈ vs.toList) _ ?_ ?_ _ _ ⟨rfl, rfl, fun u hu => hu⟩
        · rintro u rest r s1 ⟨hr, rfl, all⟩
          refine wpAny_bind (each u (all u List.mem_cons_self) A _ ?_)
          simp only [Bool.not_true, Bool.false_eq_true, if_false]
          exact wpAny_pure ⟨rfl, rfl, fun z hz => all z (List.mem_cons_of_mem _ hz)⟩
        · rintro ⟨r1, r2⟩ s1 ⟨hr, rfl, _⟩
          simp only at hr
          subst hr
          exact wpAny_pure q
theorem hbv_keys {E : Value → Shared → Prop} : ∀ (ks : List NestedKey) (vs : List Value) (n : Nat) (s : Shared), NestedAll s.heap ks vs → nks ks = true → NestedKey.depthAll ks ≤ n → ∀ u ∈ vs, ∀ (A : Around) (Q : Bool → Shared → Prop), Q true s → wpAny (model P w) A (hashByValue n u) Q E s
  | [], _, n, s, x, _, _, u, hu, A, Q, q => by cases x; cases hu
  | k :: ks, _, n, s, x, hnk, hn, u, hu, A, Q, q => by
    cases x with
    | cons x1 x2 =>
      simp only [NestedKey.depthAll] at hn
      have h2 : nk k = true ∧ nks ks = true := by
        have : (nk k && nks ks) = true := hnk
        simpa using this
      rcases List.mem_cons.mp hu with e | hu
      · rw [e]; exact hbv_key k _ n A s Q x1 h2.1 (by omega) q
      · exact hbv_keys ks _ n s x2 h2.2 (by omega) u hu A Q q
end
/-- the key k stands at the address b -/
def KyIs (h : Heap) (k : NestedKey) (b : Addr) : Prop := NestedIs h k (.ref b) ∧ k.depth ≤ 8 ∧ nk k = true
theorem KyIs.at {h h' : Heap} {k : NestedKey} {b : Addr} (x : KyIs h k b) (hk : ∀ a o vs n, h.get? a = some o → o.data = .seq vs n → h'.get? a = some o) : KyIs h' k b := ⟨NestedIs.at hk k _ x.1, x.2⟩
theorem KyIs.keep {h h' : Heap} {k : NestedKey} {b : Addr} (x : KyIs h k b) (hk : ∀ a o, h.get? a = some o → h'.get? a = some o) : KyIs h' k b := x.at fun a o _ _ e _ => hk a o e
theorem KyIs.same {h h' : Heap} {k : NestedKey} {b a : Addr} {o : Obj} {es : Array (Int × Value)} {ep : Nat} {t : SetTable} (x : KyIs h k b) (ho : h.get? a = some o) (hd : o.data = .set es ep t) (hs : Heap.SameBut a h h') : KyIs h' k b := x.at fun c u vs n e1 e2 => by
  refine (hs.2 c fun z => ?_).trans e1
  subst z
  obtain rfl : u = o := Option.some.inj (e1.symm.trans ho)
  rw [hd] at e2
  cases e2
variable {A : Around} {E : Value → Shared → Prop} {s : Shared}
theorem see_keys {k : NestedKey} {b : Addr} {Q : Bool → Shared → Prop} (x : KyIs s.heap k b) {ys : List Value} (hy : ∀ y ∈ ys, ∃ k' c, y = Value.ref c ∧ KyIs s.heap k' c) (q : Q false s) : wpAny (model P w) A (searchCouldBeSeen (.ref b) ys) Q E s := by
  unfold searchCouldBeSeen
  refine wpAny_bind ?_
  refine wpAny_forIn_list _ (fun rest r s1 => r.1 = none ∧ s1 = s ∧ ∀ y ∈ rest, ∃ k' c, y = Value.ref c ∧ KyIs s.heap k' c) _ ?_ ?_ _ _ ⟨rfl, rfl, hy⟩
  · rintro v rest r s1 ⟨hr, rfl, all⟩
    obtain ⟨k', c, rfl, z⟩ := all v List.mem_cons_self
    have left := fun u (hu : u ∈ rest) => all u (List.mem_cons_of_mem _ hu)
    dsimp only
    by_cases same : (b == c || (carriedByValue (.ref b) && carriedByValue (.ref c))) = true
    · exact wp_if_pos same (wpAny_pure ⟨rfl, rfl, left⟩)
    · refine wp_if_neg same (wpAny_bind (quiet_key k _ 8 _ x.1 x.2.1 A E _ ?_))
      simp only [Bool.not_true, Bool.false_eq_true, if_false]
      refine wpAny_bind (quiet_key k' _ 8 _ z.1 z.2.1 A E _ ?_)
      simp only [Bool.not_true, Bool.false_eq_true, if_false]
      refine wpAny_bind (cls_key k _ 8 A _ _ x.1 x.2.1 ?_)
      simp only [Bool.false_eq_true, if_false]
      refine wpAny_bind (cls_key k' _ 8 A _ _ z.1 z.2.1 ?_)
      simp only [Bool.false_eq_true, if_false]
      exact wpAny_pure ⟨rfl, rfl, left⟩
  · rintro ⟨r1, r2⟩ s1 ⟨hr, rfl, _⟩
    simp only at hr
    subst hr
    exact wpAny_pure q
end
end Mi.Sk
/-! MiSb: a set of keys: search, adding. -/
namespace Mi.Sk
open PySem PySem.Spec PyProof.Rows L2
abbrev KL := List (Addr × NestedKey)
section
variable {P : Program} {w : World}
abbrev kh (w : World) (k : NestedKey) : Int := NestedKey.hash w k
def ent (w : World) (p : Addr × NestedKey) : Int × Value := (kh w p.2, Value.ref p.1)
structure KSet (w : World) (h : Heap) (a : Addr) (L : KL) (es : Array (Int × Value)) (ep : Nat) (t : SetTable) : Prop where
  obj : ∃ o, h.get? a = some o ∧ o.ExactSet ∧ o.data = .set es ep t
  ents : es.toList = L.map (ent w)
  tab : TabOk t (L.map fun p => kh w p.2)
  uniq : (L.map (·.2)).Nodup
  keys : ∀ p ∈ L, KyIs h p.2 p.1
  plain : t.plain = true
  led : w.params.followText "set-order" = true ∨ t.led = true
  free : L.length * 5 < t.mask * 3
  few : L.length < 64
variable {h : Heap} {a : Addr} {L : KL} {es : Array (Int × Value)} {ep : Nat} {t : SetTable}
theorem KSet.count (Z : KSet w h a L es ep t) : es.size = L.length := by
  have e := congrArg List.length Z.ents
  rwa [Array.length_toList, List.length_map] at e
theorem KSet.slots (Z : KSet w h a L es ep t) : t.place.size = L.length := by
  have e := Z.tab.sz
  rwa [List.length_map] at e
theorem KSet.fit (Z : KSet w h a L es ep t) : t.fits es.size = true := by
  have e1 := Z.count
  have e2 := Z.slots
  have e3 := Z.free
  unfold SetTable.fits SetTable.fill
  rw [Z.tab.dm, Bool.and_eq_true, beq_iff_eq, decide_eq_true_eq]
  constructor
  · omega
  · show t.place.size + 0 ≤ t.mask
    omega
theorem KSet.at (Z : KSet w h a L es ep t) {i : Nat} {p : Addr × NestedKey} (e : L[i]? = some p) : es[i]? = some (kh w p.2, Value.ref p.1) := by
  rw [← Array.getElem?_toList, Z.ents, List.getElem?_map, e]
  rfl
theorem KSet.stays (Z : KSet w h a L es ep t) : ¬ t.gaveWay = true := by
  unfold SetTable.gaveWay
  rw [mask_odd Z.tab.mok]
  simp
theorem mem_same (t : SetTable) : t.sameMemory t.moves t.mask = some true := by
  unfold SetTable.sameMemory
  rw [if_pos (beq_self_eq_true _)]
/-- where a search for the hash z begins -/
abbrev pr (t : SetTable) (z : Int) : SetTable.Probe := runAt t.mask (SetTable.bits z % (t.mask + 1)) (SetTable.bits z)
theorem nth_dummy (m : Nat) : ∀ (c : Nat) (p : SetTable.Probe), p.dummy = none → (nth m p c).dummy = none
  | 0, _, e => e
  | c + 1, p, e => nth_dummy m c (adv m p) (by unfold adv; split <;> exact e)
theorem nth_shift (t : SetTable) (z : Int) (c q : Nat) : nth t.mask (nth t.mask (pr t z) c) q = nth t.mask (pr t z) (c + q) := (nth_add t.mask c _ q).symm
theorem way_shift (t : SetTable) (z : Int) (c q : Nat) : (nth t.mask (nth t.mask (pr t z) c) q).j = way t.mask z (c + q) := congrArg SetTable.Probe.j (nth_shift t z c q)
variable {A : Around} {E : Value → Shared → Prop} {s : Shared}
/-- behind a candidate that stands at the c-th step of the way -/
theorem after_cand (Z : KSet w s.heap a L es ep t) {x : Addr} {k : NestedKey} (hx : KyIs s.heap k x) (hu : A.units + 8 < cLine) {Q : SetFound → Shared → Prop} {f i j : Nat} {nx : SetTable.Probe} {p : Addr × NestedKey}
    (hp : L[i]? = some p) (hi : t.place.toList[i]? = some j) (yes : p.2 = k → Q (.there none) s) (no : p.2 ≠ k → wpAny (model P w) A (setSearchFrom a (.ref x) (kh w k) true f (some nx)) Q E s) :
    wpAny (model P w) A (searchRest a (.ref x) (kh w k) true f es t j i nx) Q E s := by
  obtain ⟨o, ho, _, hd⟩ := Z.obj
  have hm := List.mem_of_getElem? hp
  have ky := Z.keys p hm
  unfold searchRest
  rw [Z.at hp]
  dsimp only
  refine wpAny_bind (wpAny_holding (eqAt_key p.2 k A s (.ref p.1) (.ref x) ky.1 hx.1 (by have := ky.2.1; omega) _ _ _ _ ?_))
  rw [← NestedKey.decide_eq]
  refine wpAny_bind (wpAny_setState_of ho hd Z.fit ?_)
  dsimp only
  by_cases kk : p.2 = k
  · refine wp_if_pos (by simp [kk]) (wpAny_pure (yes kk))
  · refine wp_if_neg (by simp [kk]) ?_
    try refine wpAny_bind (wpAny_pure ?_)
    rw [mem_same]
    dsimp only
    have sl : t.slot j = .live i := slot_live Z.tab.ris hi
    simp only [if_true, sl, Z.at hp]
    refine wpAny_bind (wpAny_isSame_ref_self (wpAny_bind (wpAny_pure ?_)))
    simp only [if_true]
    exact wp_if_neg (by simp [kk]) (no kk)
theorem find_from (Z : KSet w s.heap a L es ep t) {x : Addr} {k : NestedKey} (hx : KyIs s.heap k x) (hu : A.units + 8 < cLine) {N : Nat} (hN : N < 10 * SetTable.turns t.mask)
    (gap : way t.mask (kh w k) N ∉ t.place.toList) (full : ∀ c, c < N → way t.mask (kh w k) c ∈ t.place.toList) {Q : SetFound → Shared → Prop}
    (yes : k ∈ L.map (·.2) → Q (.there none) s) (no : k ∉ L.map (·.2) → Q (.free (way t.mask (kh w k) N) false) s) :
    ∀ (f c : Nat) (st : Option SetTable.Probe), st.getD (t.probeStart (kh w k)) = nth t.mask (pr t (kh w k)) c → c ≤ N → N - c < f →
      (∀ (i : Nat) p, L[i]? = some p → p.2 = k → ∃ d, c ≤ d ∧ d < N ∧ t.place.toList[i]? = some (way t.mask (kh w k) d)) →
      wpAny (model P w) A (setSearchFrom a (.ref x) (kh w k) true f st) Q E s
  | 0, c, st, _, _, hf, _ => by omega
  | f + 1, c, st, es0, hc, hf, ahead => by
    obtain ⟨o, ho, hex, hd⟩ := Z.obj
    have shift := way_shift t (kh w k) c
    have hash_at : ∀ (i : Nat) p, L[i]? = some p → (es[i]?.map (·.1)).getD 0 = kh w p.2 := fun i p e => by rw [Z.at e]; rfl
    have told := go_spec t Z.tab.ris Z.tab.dm (fun i => (es[i]?.map (·.1)).getD 0) (kh w k) (10 * SetTable.turns t.mask) (N - c) (nth t.mask (pr t (kh w k)) c) (nth_dummy t.mask c _ rfl) (by omega)
      (fun q hq => by rw [shift]; exact full _ (by omega)) (by rw [shift, Nat.add_sub_cancel' hc]; exact gap)
    rw [setSearchFrom_succ]
    refine wpAny_bind (wpAny_setState_of ho hd Z.fit ?_)
    dsimp only
    refine wp_if_neg Z.stays ?_
    try refine wpAny_bind (wpAny_pure ?_)
    rcases told with ⟨q, i, hq, hi, hh, first, e⟩ | ⟨first, e⟩
    · rw [shift] at hi
      rw [nth_shift, nth_shift] at e
      have e' : t.probe (fun i => (es[i]?.map (·.1)).getD 0) (kh w k) (st.getD (t.probeStart (kh w k))) = some (.candidate (way t.mask (kh w k) (c + q)) i (nth t.mask (pr t (kh w k)) (c + (q + 1)))) := by
        rw [es0]; exact e
      rw [e']
      dsimp only
      have li : i < L.length := by
        have z1 := (List.getElem?_eq_some_iff.mp hi).1
        have z2 := Z.slots
        rw [Array.length_toList] at z1
        omega
      obtain ⟨p, hp⟩ : ∃ p, L[i]? = some p := ⟨_, List.getElem?_eq_getElem li⟩
      have go := after_cand (P := P) (A := A) (E := E) Z hx hu (Q := Q) (f := f) (nx := nth t.mask (pr t (kh w k)) (c + (q + 1))) hp hi (fun kk => yes (List.mem_map.mpr ⟨p, List.mem_of_getElem? hp, kk⟩)) fun kk => by
        refine find_from Z hx hu hN gap full yes no f (c + (q + 1)) _ rfl (by omega) (by omega) fun i0 p0 h0 k0 => ?_
        obtain ⟨d, d1, d2, d3⟩ := ahead i0 p0 h0 k0
        refine ⟨d, ?_, d2, d3⟩
        by_cases lt : d < c + q
        · refine absurd ((hash_at i0 p0 h0).trans (congrArg (kh w) k0)) (first (d - c) i0 (by omega) ?_)
          rw [shift, show c + (d - c) = d by omega]
          exact d3
        · by_cases eq : d = c + q
          · exfalso
            rw [eq] at d3
            have s1 := slot_live Z.tab.ris d3
            rw [slot_live Z.tab.ris hi] at s1
            injection s1 with s1
            rw [← s1, hp] at h0
            exact kk ((congrArg Prod.snd (Option.some.inj h0)).trans k0)
          · omega
      by_cases ld : t.led = true
      · refine wp_if_neg (by simp [ld]) ?_
        try refine wpAny_bind (wpAny_pure ?_)
        exact go
      · refine wp_if_pos (by simp [ld]) (wpAny_bind (see_keys hx (fun y hy => ?_) ?_))
        · obtain ⟨u, hu1, rfl⟩ := List.mem_map.mp hy
          have hu2 : u ∈ es.toList := by
            have z : u ∈ es ∧ u.1 = kh w k := by simpa using hu1
            simpa using z.1
          rw [Z.ents] at hu2
          obtain ⟨p2, hp2, rfl⟩ := List.mem_map.mp hu2
          exact ⟨p2.2, p2.1, rfl, Z.keys p2 hp2⟩
        · refine wp_if_neg (by simp) ?_
          try refine wpAny_bind (wpAny_pure ?_)
          exact go
    · rw [shift, Nat.add_sub_cancel' hc] at e
      have e' : t.probe (fun i => (es[i]?.map (·.1)).getD 0) (kh w k) (st.getD (t.probeStart (kh w k))) = some (.empty (way t.mask (kh w k) N) none) := by
        rw [es0]; exact e
      rw [e']
      dsimp only
      refine wpAny_pure (no fun hm => ?_)
      obtain ⟨p0, h0, k0⟩ := List.mem_map.mp hm
      obtain ⟨i0, hi0, rfl⟩ := List.getElem_of_mem h0
      have h00 := List.getElem?_eq_getElem hi0
      obtain ⟨d, d1, d2, d3⟩ := ahead i0 _ h00 k0
      refine first (d - c) i0 (by omega) ?_ ((hash_at i0 _ h00).trans (congrArg (kh w) k0))
      rw [shift, show c + (d - c) = d by omega]
      exact d3
theorem find_key (Z : KSet w s.heap a L es ep t) {x : Addr} {k : NestedKey} (hx : KyIs s.heap k x) (hu : A.units + 8 < cLine) {Q : SetFound → Shared → Prop} (yes : k ∈ L.map (·.2) → Q (.there none) s)
    (no : ∀ N, k ∉ L.map (·.2) → way t.mask (kh w k) N ∉ t.place.toList → (∀ c, c < N → way t.mask (kh w k) c ∈ t.place.toList) → Q (.free (way t.mask (kh w k) N) false) s) : wpAny (model P w) A (setSearch a (.ref x) (kh w k) true) Q E s := by
  have fr := Z.free
  obtain ⟨N, hN, gap, full⟩ := Z.tab.first (by rw [List.length_map]; omega) (kh w k)
  have small : N < 100000 := by
    have : 10 * SetTable.turns t.mask ≤ 1420 := by
      unfold SetTable.turns
      rcases Z.tab.mok with z | z | z <;> omega
    omega
  unfold setSearch
  refine find_from Z hx hu hN gap full yes (fun z => no N z gap full) 100000 0 none rfl (Nat.zero_le _) (by omega) fun i p hp kk => ?_
  have li : i < t.place.toList.length := by
    have z1 := (List.getElem?_eq_some_iff.mp hp).1
    have z2 := Z.slots
    rw [Array.length_toList]
    omega
  obtain ⟨d, hd, e⟩ := Z.tab.before (h := kh w k) gap (i := i) (by rw [List.getElem?_map, hp, ← kk]; rfl) (List.getElem?_eq_getElem li)
  exact ⟨d, Nat.zero_le _, hd, by rw [List.getElem?_eq_getElem li, e]⟩
end
end Mi.Sk
/-! MiSc: a set of keys: laid anew, adding. -/
namespace Mi.Sk
open PySem PySem.Spec PyProof.Rows L2
section
variable {P : Program} {w : World}
theorem ent_put (L : KL) (p : Nat) (x : Addr × NestedKey) : (L.take p ++ x :: L.drop p).map (ent w) = (L.map (ent w)).take p ++ ent w x :: (L.map (ent w)).drop p := by
  rw [List.map_append, List.map_cons, List.map_take, List.map_drop]
theorem pick_all {α : Type} (L : List α) : ∀ n, n ≤ L.length → (List.range n).filterMap (fun i => L[i]?) = L.take n
  | 0, _ => rfl
  | n + 1, hn => by
    have lt : n < L.length := hn
    rw [List.range_succ, List.filterMap_append, pick_all L n (Nat.le_of_lt lt), List.take_succ, List.getElem?_eq_getElem lt, List.filterMap_cons_some (List.getElem?_eq_getElem lt)]
    rfl
/-- entries picked by places -/
theorem pick_ents {L : KL} {es : Array (Int × Value)} (he : es.toList = L.map (ent w)) : ∀ l : List Nat, (∀ i ∈ l, i < L.length) → l.filterMap (fun i => es[i]?) = (l.filterMap fun i => L[i]?).map (ent w) ∧ ((l.filterMap fun i => L[i]?).map fun p => kh w p.2) = l.map fun i => (es.map (·.1)).getD i 0
  | [], _ => ⟨rfl, rfl⟩
  | i :: l, hl => by
    have lt := hl i (by simp)
    obtain ⟨e1, e2⟩ := pick_ents he l fun j hj => hl j (by simp [hj])
    have e3 : es[i]? = some (ent w (L[i]'lt)) := by rw [← Array.getElem?_toList, he, List.getElem?_map, List.getElem?_eq_getElem lt]; rfl
    have e4 : (es.map (·.1))[i]? = some (kh w (L[i]'lt).2) := by rw [Array.getElem?_map, e3]; rfl
    rw [List.filterMap_cons_some e3, List.filterMap_cons_some (List.getElem?_eq_getElem lt), e1, List.map_cons, List.map_cons, List.map_cons, e2]
    refine ⟨rfl, ?_⟩
    congr 1
    rw [Array.getD_eq_getD_getElem?, e4]
    rfl
theorem pick_perm {L : KL} {es : Array (Int × Value)} {order : Array Nat} (he : es.toList = L.map (ent w)) (hp : order.toList.Perm (List.range L.length)) :
    ∃ M : KL, (order.filterMap (es[·]?)).toList = M.map (ent w) ∧ M.Perm L ∧ (M.map fun p => kh w p.2) = order.toList.map fun i => (es.map (·.1)).getD i 0 := by
  obtain ⟨e1, e2⟩ := pick_ents he order.toList fun i hi => List.mem_range.mp (hp.mem_iff.mp hi)
  refine ⟨_, ?_, ?_, e2⟩
  · first
      | (rw [Array.toList_filterMap]; exact e1)
      | simpa using e1
  · have e3 := hp.filterMap fun i => L[i]?
    rw [pick_all L L.length (Nat.le_refl _), List.take_length] at e3
    exact e3
variable {A : Around} {E : Value → Shared → Prop} {s : Shared} {a : Addr} {L : KL} {es : Array (Int × Value)} {ep : Nat} {t : SetTable}
/-- what a set's table tells before it is known to be wide enough -/
structure KRaw (w : World) (h : Heap) (L : KL) (es : Array (Int × Value)) (t : SetTable) : Prop where
  ents : es.toList = L.map (ent w)
  sz : t.place.size = es.size
  dm : t.dummies = #[]
  wide : es.size ≤ t.mask
  uniq : (L.map (·.2)).Nodup
  keys : ∀ p ∈ L, KyIs h p.2 p.1
  plain : t.plain = true
  led : w.params.followText "set-order" = true ∨ t.led = true
  few : L.length < 64
theorem lay_anew {o : Obj} (ho : s.heap.get? a = some o) (hex : o.ExactSet) (hd : o.data = .set es ep t) (Z : KRaw w s.heap L es t) {wanted M : Nat} (hw : SetTable.sizeAbove wanted - 1 = M) (hM : MaskOk M) (hw2 : SetTable.sizeAbove wanted ≤ 128) (hn : L.length * 5 < M * 3) {Q : Unit → Shared → Prop}
    (q : ∀ h' L' es' ep' t', Heap.SameBut a s.heap h' → KSet w h' a L' es' ep' t' → L'.Perm L → Q () { s with heap := h' }) : wpAny (model P w) A (setRelay a wanted) Q E s := by
  have cnt : es.size = L.length := by
    have e := congrArg List.length Z.ents
    rwa [Array.length_toList, List.length_map] at e
  have fit : t.fits es.size = true := by
    have z1 := Z.sz
    have z2 := Z.wide
    unfold SetTable.fits SetTable.fill
    rw [Z.dm, Bool.and_eq_true, beq_iff_eq, decide_eq_true_eq]
    constructor
    · exact z1
    · show t.place.size + 0 ≤ t.mask
      omega
  obtain ⟨t', order, e, hp, T, em, el, epl, _⟩ := relaid_ok t (hs := es.map (·.1)) (wanted := wanted) hw hM (by rw [Array.size_map, cnt]; omega)
  rw [Array.size_map, cnt] at hp
  obtain ⟨M', r1, r2, r3⟩ := pick_perm Z.ents hp
  rw [← r3] at T
  have cnt2 : (order.filterMap (es[·]?)).size = es.size := by
    have z := congrArg List.length r1
    rw [Array.length_toList, List.length_map, r2.length_eq] at z
    rw [z, cnt]
  have few := Z.few
  rw [setRelay_eq]
  refine wpAny_bind (wpAny_setState_of ho hd fit ?_)
  dsimp only
  refine wp_if_neg (by rw [sizeLine_eq]; omega) ?_
  try refine wpAny_bind (wpAny_pure ?_)
  rw [e]
  dsimp only
  refine wpAny_bind (wp_if_neg (by rw [cnt2]; simp) ?_)
  try refine wpAny_bind (wpAny_pure ?_)
  refine wpAny_pure ?_
  dsimp only
  refine wpAny_storeSet_of ho hd ?_ (by rw [cnt2, cnt, sizeLine_eq]; omega)
  have sb : Heap.SameBut a s.heap (s.heap.update a (Obj.putSet (order.filterMap (es[·]?)) t')) := Heap.SameBut.update ..
  exact q _ M' _ (ep + 1) t' sb ⟨⟨_, store_at ho hd, ⟨hex.1, hex.2.1, hex.2.2⟩, rfl⟩, r1, T, (r2.map (·.2)).nodup_iff.mpr Z.uniq, fun p hm => (Z.keys p (r2.mem_iff.mp hm)).same ho hd sb, epl.trans Z.plain, el ▸ Z.led, by rw [r2.length_eq, em]; exact hn, by rw [r2.length_eq]; exact few⟩ r2
/-- a set of keys, somewhere in the heap -/
def Keys (w : World) (h : Heap) (a : Addr) (L : KL) : Prop := ∃ es ep t, KSet w h a L es ep t
theorem wider {n : Nat} : (n = 5 → SetTable.sizeAbove (SetTable.grown n) = 32) ∧ (n = 19 → SetTable.sizeAbove (SetTable.grown n) = 128) := ⟨fun e => by rw [e]; exact size_20, fun e => by rw [e]; exact size_76⟩
theorem add_key (Z : KSet w s.heap a L es ep t) {x : Addr} {k : NestedKey} (hx : KyIs s.heap k x) (hu : A.units + 8 < cLine) (room : L.length + 1 < 64) {Q : Bool → Shared → Prop}
    (q : ∀ b h' L', Heap.SameBut a s.heap h' → Keys w h' a L' → (k ∈ L.map (·.2) → L' = L) → (k ∉ L.map (·.2) → L'.Perm ((x, k) :: L)) → Q b { s with heap := h' }) : wpAny (model P w) A (setAddHashed a (.ref x) (kh w k)) Q E s := by
  obtain ⟨o, ho, hex, hd⟩ := Z.obj
  have cnt := Z.count
  have fr := Z.free
  unfold setAddHashed
  refine wpAny_holding ?_
  rw [show (100000 : Nat) = 99999 + 1 from rfl, setAddHashedIn_succ]
  refine wpAny_bind (wpAny_setState_of ho hd Z.fit ?_)
  dsimp only
  refine wp_if_neg (by simp [byScan, Value.scannable]) ?_
  try refine wpAny_bind (wpAny_pure ?_)
  refine wpAny_bind (find_key Z hx hu (fun hm => ?_) fun N hm gap full => ?_)
  · dsimp only
    exact wpAny_pure (q false s.heap L (Heap.SameBut.refl a s.heap) ⟨es, ep, t, Z⟩ (fun _ => rfl) fun z => absurd hm z)
  dsimp only
  refine wpAny_bind (wpAny_setState_of ho hd Z.fit ?_)
  dsimp only
  obtain ⟨q1, _, q3, q4, q5, q6, _, _, q9⟩ := Z.tab.put gap full
  have pl : (t.put (way t.mask (kh w k) N)).1.plain = true := q6.trans Z.plain
  generalize hpt : t.put (way t.mask (kh w k) N) = pt at q1 q3 q4 q5 q9 pl ⊢
  obtain ⟨t1, p⟩ := pt
  dsimp only at q1 q3 q4 q5 q9 pl ⊢
  subst q1
  first
    | (refine wpAny_bind ?_; refine wp_if_pos pl ?_; refine hbv_key k (.ref x) 8 A _ _ hx.1 hx.2.2 hx.2.1 ?_)
    | refine wp_if_pos pl (wpAny_bind (hbv_key k (.ref x) 8 A _ _ hx.1 hx.2.2 hx.2.1 ?_))
  simp only [if_true]
  generalize hb : SetTable.below t.place (way t.mask (kh w k) N) = p at q3 ⊢
  have pm : (L.take p ++ (x, k) :: L.drop p).Perm ((x, k) :: L) := by
    have z : (L.take p ++ (x, k) :: L.drop p).Perm ((x, k) :: (L.take p ++ L.drop p)) := List.perm_middle
    rwa [List.take_append_drop] at z
  have ents1 : (SetTable.insertAt es p (kh w k, Value.ref x)).toList = (L.take p ++ (x, k) :: L.drop p).map (ent w) := by
    rw [SetTable.toList_insertAt, ent_put, Z.ents]
    rfl
  have hs1 : (L.take p ++ (x, k) :: L.drop p).map (fun p => kh w p.2) = (L.map fun p => kh w p.2).take p ++ kh w k :: (L.map fun p => kh w p.2).drop p := by
    rw [List.map_append, List.map_cons, List.map_take, List.map_drop]
  rw [← hs1] at q3
  have uniq1 : ((L.take p ++ (x, k) :: L.drop p).map (·.2)).Nodup := by
    refine (pm.map (·.2)).nodup_iff.mpr ?_
    rw [List.map_cons, List.nodup_cons]
    exact ⟨hm, Z.uniq⟩
  have len1 : (L.take p ++ (x, k) :: L.drop p).length = L.length + 1 := pm.length_eq
  generalize SetTable.insertAt es p (kh w k, Value.ref x) = es1 at ents1 ⊢
  generalize L.take p ++ (x, k) :: L.drop p = L1 at pm ents1 q3 uniq1 len1
  have cnt1 : es1.size = L.length + 1 := by
    have z := congrArg List.length ents1
    rwa [Array.length_toList, List.length_map, len1] at z
  refine wpAny_bind (wpAny_storeSet_of ho hd ?_ (by rw [cnt1, sizeLine_eq]; omega))
  have sb : Heap.SameBut a s.heap (s.heap.update a (Obj.putSet es1 t1)) := Heap.SameBut.update ..
  have ho1 := store_at (es' := es1) (t' := t1) ho hd
  generalize s.heap.update a (Obj.putSet es1 t1) = h1 at sb ho1 ⊢
  have keys1 : ∀ p ∈ L1, KyIs h1 p.2 p.1 := fun p hp => by
    rcases List.mem_cons.mp (pm.mem_iff.mp hp) with z | z
    · rw [z]; exact hx.same ho hd sb
    · exact (Z.keys p z).same ho hd sb
  have led1 : w.params.followText "set-order" = true ∨ t1.led = true := q5 ▸ Z.led
  have sz1 : t1.place.size = es1.size := by
    have z := q3.sz
    rw [List.length_map, len1] at z
    rw [z, cnt1]
  have full_iff : t1.tooFull = decide ((L.length + 1) * 5 ≥ t1.mask * 3) := by
    unfold SetTable.tooFull
    rw [q9, List.length_map]
  by_cases hf : t1.tooFull = true
  · first
      | (refine wpAny_bind ?_; refine wp_if_pos (by simp [hf]) ?_)
      | (refine wp_if_pos (by simp [hf]) ?_; refine wpAny_bind ?_)
    have fu : (L.length + 1) * 5 ≥ t1.mask * 3 := of_decide_eq_true (full_iff ▸ hf)
    rw [cnt]
    have two : (t.mask = 7 ∧ L.length + 1 = 5) ∨ (t.mask = 31 ∧ L.length + 1 = 19) := by
      rw [q4] at fu
      rcases Z.tab.mok with z | z | z <;> rw [z] at fu fr
      · exact .inl ⟨z, by omega⟩
      · exact .inr ⟨z, by omega⟩
      · omega
    have raw : KRaw w h1 L1 es1 t1 := ⟨ents1, sz1, q3.dm, by rw [cnt1, q4]; rcases two with ⟨z, _⟩ | ⟨z, _⟩ <;> omega, uniq1, keys1, pl, led1, by rw [len1]; exact room⟩
    have go : ∀ M, SetTable.sizeAbove (SetTable.grown (L.length + 1)) - 1 = M → MaskOk M → SetTable.sizeAbove (SetTable.grown (L.length + 1)) ≤ 128 → (L.length + 1) * 5 < M * 3 →
        wpAny (model P w) A (setRelay a (SetTable.grown (L.length + 1))) (fun _ s' => wpAny (model P w) A (pure true) Q E s') E { s with heap := h1 } := fun M e1 e2 e3 e4 => by
      refine lay_anew (s := { s with heap := h1 }) ho1 ⟨hex.1, hex.2.1, hex.2.2⟩ rfl raw e1 e2 e3 (by rw [len1]; exact e4) fun h2 L2 es2 ep2 t2 sb2 Z2 pm2 => ?_
      exact wpAny_pure (q true h2 L2 (sb.trans sb2) ⟨es2, ep2, t2, Z2⟩ (fun z => absurd z hm) fun _ => pm2.trans pm)
    rcases two with ⟨_, z⟩ | ⟨_, z⟩
    · have e := wider.1 z
      exact go 31 (by rw [e]) (.inr (.inl rfl)) (by rw [e]; decide) (by omega)
    · have e := wider.2 z
      exact go 127 (by rw [e]) (.inr (.inr rfl)) (by rw [e]; decide) (by omega)
  · have nf : ¬ (L.length + 1) * 5 ≥ t1.mask * 3 := fun z => hf (by rw [full_iff]; exact decide_eq_true z)
    first
      | refine wp_if_neg (by simp [hf]) ?_
      | (refine wpAny_bind ?_; refine wp_if_neg (by simp [hf]) ?_; refine wpAny_pure ?_)
    exact wpAny_pure (q true h1 L1 sb ⟨es1, ep + 1, t1, ⟨⟨_, ho1, ⟨hex.1, hex.2.1, hex.2.2⟩, rfl⟩, ents1, q3, uniq1, keys1, pl, led1, by rw [len1]; omega, by rw [len1]; exact room⟩⟩ (fun z => absurd z hm) fun _ => pm)
end
end Mi.Sk
/-! MiSd: set(xs) and sorted(set) of keys. -/
namespace Mi.Sk
open PySem PySem.Spec PyProof.Rows L2
/-- what the set holds behind the first i items -/
structure Has (ks : KL) (i : Nat) (L : KL) : Prop where
  from_ : ∀ p ∈ L, p ∈ ks.take i
  each : ∀ p ∈ ks.take i, p.2 ∈ L.map (·.2)
  len : L.length ≤ i
theorem Has.none (ks : KL) : Has ks 0 [] := ⟨by simp, by simp, Nat.le_refl _⟩
theorem Has.next {ks L L' : KL} {i : Nat} {x : Addr × NestedKey} (g : Has ks i L) (e : ks[i]? = some x) (c1 : x.2 ∈ L.map (·.2) → L' = L) (c2 : x.2 ∉ L.map (·.2) → L'.Perm (x :: L)) : Has ks (i + 1) L' := by
  have tk : ks.take (i + 1) = ks.take i ++ [x] := by rw [List.take_succ, e]; rfl
  by_cases c : x.2 ∈ L.map (·.2)
  · rw [c1 c]
    refine ⟨fun p hp => by rw [tk]; exact List.mem_append_left _ (g.from_ p hp), fun p hp => ?_, Nat.le_succ_of_le g.len⟩
    rw [tk, List.mem_append] at hp
    rcases hp with hp | hp
    · exact g.each p hp
    · rw [List.mem_singleton] at hp
      rw [hp]; exact c
  · have pm := c2 c
    refine ⟨fun p hp => ?_, fun p hp => ?_, by rw [pm.length_eq, List.length_cons]; exact Nat.succ_le_succ g.len⟩
    · rw [tk, List.mem_append]
      rcases List.mem_cons.mp (pm.mem_iff.mp hp) with z | z
      · exact .inr (by rw [z]; simp)
      · exact .inl (g.from_ p z)
    · refine (pm.map (·.2)).mem_iff.mpr ?_
      rw [List.map_cons, List.mem_cons]
      rw [tk, List.mem_append] at hp
      rcases hp with hp | hp
      · exact .inr (g.each p hp)
      · rw [List.mem_singleton] at hp
        exact .inl (by rw [hp])
section
variable {P : Program} {w : World} {A : Around} {E : Value → Shared → Prop} {s : Shared}
theorem Keys.keep {h h' : Heap} {a : Addr} {L : KL} (Z : Keys w h a L) (ha : ∀ o, h.get? a = some o → h'.get? a = some o) (hk : ∀ p ∈ L, KyIs h' p.2 p.1) : Keys w h' a L := by
  obtain ⟨es, ep, t, Z⟩ := Z
  obtain ⟨o, ho, r⟩ := Z.obj
  exact ⟨es, ep, t, ⟨o, ha o ho, r⟩, Z.ents, Z.tab, Z.uniq, hk, Z.plain, Z.led, Z.free, Z.few⟩
theorem Keys.fresh {h : Heap} {a : Addr} (ho : h.get? a = some { cls := .type "set", dict := none, data := .set #[] 0 (.fresh 0 0 (!w.params.followText "set-order")) }) : Keys w h a [] := by
  refine ⟨#[], 0, _, ⟨_, ho, ⟨rfl, rfl, rfl⟩, rfl⟩, rfl, ⟨List.Pairwise.nil, rfl, rfl, .inl rfl, fun x hx => (by cases hx), fun i h j hi => (by simp at hi)⟩, List.nodup_nil, fun p hp => (by cases hp), rfl, ?_, ?_, ?_⟩
  · show w.params.followText "set-order" = true ∨ (!w.params.followText "set-order") = true
    cases w.params.followText "set-order" <;> simp
  · show 0 * 5 < 7 * 3
    decide
  · show 0 < 64
    decide
theorem update_loop {I : Addr} {fp wr : List Addr} {G : Array GenState → Array GenState → Prop} {n : Nat} {Pv : Nat → Value → Prop} {St : Nat → Shared → Prop} {R : Result → Shared → Prop}
    (W : WalksS P w A.in1 I fp wr G n Pv St) (S : Addr) (out : S ∉ fp) (ks : KL) (hn : n = ks.length) (few : ks.length < 64) (hv : ∀ i v, Pv i v → ∃ p, ks[i]? = some p ∧ v = .ref p.1)
    (h0 : Heap) (hk : ∀ p ∈ ks, KyIs h0 p.2 p.1) (hS : h0.get? S = none) (hw0 : ∀ b ∈ wr, h0.get? b = none) (hu : A.in1.units + 8 < cLine) :
    ∀ (m i : Nat) (s : Shared), n - i = m → i ≤ n → St i s → (∀ b o, h0.get? b = some o → s.heap.get? b = some o) → (∃ L, Keys w s.heap S L ∧ Has ks i L) →
      (∀ s' L, Moved (S :: wr) G s s' → Keys w s'.heap S L → Has ks n L → (∀ b o, h0.get? b = some o → s'.heap.get? b = some o) → R (.ok (.ret .none)) s') →
      codeAny (model P w) A (.builtin "set.update.loop" ⟨[.ref S, .ref I], []⟩) R s := by
  have Sw : S ∉ wr := fun z => out (W.sub _ z)
  have more : ∀ b ∈ wr, b ∈ S :: wr := fun b hb => List.mem_cons_of_mem _ hb
  have old : ∀ {s s' : Shared}, Moved wr G s s' → (∀ b o, h0.get? b = some o → s.heap.get? b = some o) → ∀ b o, h0.get? b = some o → s'.heap.get? b = some o := fun mv kp b o e => mv.heap b o (fun hb => by rw [hw0 b hb] at e; cases e) (kp b o e)
  have inks : ∀ {L : KL} {i : Nat}, Has ks i L → ∀ p ∈ L, p ∈ ks := fun g p hp => List.mem_of_mem_take (g.from_ p hp)
  intro m
  induction m with
  | zero =>
    intro i s hm hi st kp ⟨L, Z, g⟩ hR
    obtain rfl : i = n := by omega
    refine codeAny_builtin F.entry_set_update_loop ?_
    rw [Around.under_plainId F.plain_set_update_loop _]
    show wpAny _ A.in1 (pyNext (Value.ref I) >>= _) _ _ s
    refine wpAny_bind (W.done s _ _ st fun s' mv => ?_)
    show wpAny _ A.in1 (ret Value.none) _ _ s'
    have kp' := old mv kp
    exact wpAny_pure (hR s' L (mv.mono more) (Z.keep (fun o e => mv.heap S o Sw e) fun p hp => (hk p (inks g p hp)).keep kp') g kp')
  | succ m ih =>
    intro i s hm hi st kp ⟨L, Z, g⟩ hR
    have lt : i < n := by omega
    refine codeAny_builtin F.entry_set_update_loop ?_
    rw [Around.under_plainId F.plain_set_update_loop _]
    show wpAny _ A.in1 (pyNext (Value.ref I) >>= _) _ _ s
    refine wpAny_bind (W.item i s _ _ lt st fun v s' hP st' mv => ?_)
    obtain ⟨p, hp, rfl⟩ := hv i v hP
    have kp' := old mv kp
    have Z' : Keys w s'.heap S L := Z.keep (fun o e => mv.heap S o Sw e) fun q hq => (hk q (inks g q hq)).keep kp'
    have kx : KyIs s'.heap p.2 p.1 := (hk p (List.mem_of_getElem? hp)).keep kp'
    obtain ⟨es, ep, t, Y⟩ := Z'
    show wpAny _ A.in1 (holding [Value.ref p.1] (setAdd S (Value.ref p.1)) >>= _) _ _ s'
    refine wpAny_bind (wpAny_holding ?_)
    unfold setAdd
    refine wpAny_holding (wpAny_bind (pyHash_key p.2 (.ref p.1) A.in1 s' _ kx.1 (by have := kx.2.1; omega) ?_))
    have ln := g.len
    refine add_key (s := { s' with toks := s'.toks + p.2.draws }) (L := L) Y kx hu (by omega) fun b h' L' sb Z2 c1 c2 => ?_
    have kp2 : ∀ b o, h0.get? b = some o → h'.get? b = some o := fun b o e => (sb.2 b (fun z => by rw [z, hS] at e; cases e)).trans (kp' b o e)
    refine wpAny_pure ⟨plainId_quiet F.plain_set_update_loop _, ih (i + 1) _ (by omega) lt (W.frame _ s' _ _ st' (Nat.le_add_right _ _) fun b hb o e => ?_) kp2 ⟨L', Z2, g.next hp c1 c2⟩ fun s3 L3 mv3 Z3 g3 kp3 => ?_⟩
    · rw [sb.2 b fun z => out (z ▸ hb)]
      exact e
    · refine hR s3 L3 (Moved.trans W.gtrans ((mv.mono more).then_heap (Nat.le_add_right _ _) fun b o hb e => ?_) mv3) Z3 g3 kp3
      rw [sb.2 b fun z => hb (z ▸ List.mem_cons_self)]
      exact e
abbrev noSet (w : World) : Obj := { cls := .type "set", dict := none, data := .set #[] 0 (.fresh 0 0 (!w.params.followText "set-order")) }
set_option maxHeartbeats 3200000 in
/-- set(xs) of a list of keys -/
theorem set_of_list {l : Addr} {items : Array Value} (ks : KL) {Q : Value → Shared → Prop} (hh : A.handled = none) (hl : s.heap.IsList l items) (hit : items.toList = ks.map fun p => Value.ref p.1)
    (hk : ∀ p ∈ ks, KyIs s.heap p.2 p.1) (few : ks.length < 64) (hu : A.units + 11 < cLine)
    (q : ∀ (h' : Heap) (tk : Nat) L, Keys w h' s.heap.objs.size L → Has ks ks.length L → (∀ b o, s.heap.get? b = some o → h'.get? b = some o) → Q (.ref s.heap.objs.size) { s with heap := h', toks := tk }) :
    wpAny (model P w) A (call (.type "set") [.ref l]) Q E s := by
  have sz : items.size = ks.length := by
    have z := congrArg List.length hit
    rwa [Array.length_toList, List.length_map] at z
  obtain ⟨c, tl, hmro⟩ := F.called_set.mro
  have hmade := F.called_set.made
  have hsub := F.called_set.sub
  refine wpAny_call (codeAny_of_tree ?_)
  show wpAny _ _ (callAny (Value.type "set") _) _ _ _
  refine wpAny_pure ⟨Code.quiet_builtin _ (by decide +kernel), codeAny_builtin F.entry_type_call ?_⟩
  rw [Around.under_plain (weight_type_call_type "set" [.ref l] []) rfl]
  have h1 := F.called_set.notType
  have h2 := F.called_set.canCreate
  have hct := F.typeCall_set_1 (.ref l)
  repeat any_goals (first | assumption | wp_step)
  refine codeAny_mono (code_set_led1 (.ref l) (E := E) (Q₁ := fun obj s₁ => obj = .ref s.heap.objs.size ∧ s₁ = { s with heap := s.heap.push (noSet w) }) ⟨rfl, rfl⟩) fun r s₁ hr => ?_
  cases r with
  | error e => exact hr
  | ok fl =>
    cases fl with
    | ret obj =>
      obtain ⟨rfl, rfl⟩ := hr
      have hS : (s.heap.push (noSet w)).get? s.heap.objs.size = some (noSet w) := Heap.get?_push_size _ rfl
      have hT : Shared.TypeIs { s with heap := s.heap.push (noSet w) } (.ref s.heap.objs.size) "set" := ⟨_, hS, rfl⟩
      have hli := F.called_set.init.lookup
      have hbi := F.called_set.init.bind (.ref s.heap.objs.size)
      repeat any_goals (first | assumption | wp_step)
      refine codeAny_mono (codeAny_call_builtin (R := wants (fun r s₂ => r = .none ∧ ∃ h' tk L, s₂ = { s with heap := h', toks := tk } ∧ Keys w h' s.heap.objs.size L ∧ Has ks ks.length L ∧ (∀ b o, s.heap.get? b = some o → h'.get? b = some o)) E) F.called_set.init.plain F.entry_set_init (check_set_init_1 hT ?_)) fun r₂ s₂ hr₂ => ?_
      · obtain ⟨ol, hol, hcl, nl, hdl⟩ := hl
        obtain ⟨ocls, odict, odata, oslots⟩ := ol
        simp only at hcl hdl
        subst hcl hdl
        have hl1 : (s.heap.push (noSet w)).IsList l items := ⟨_, Heap.get?_push_of_some _ hol, rfl, nl, rfl⟩
        have hol' : (s.heap.push (noSet w)).get? l = some { cls := .type "list", dict := odict, data := .seq items nl, slots := oslots } := Heap.get?_push_of_some _ hol
        have hsls := F.sub_list_set
        have hslf := F.sub_list_frozenset
        have hne : (Value.type "list" == Value.type "dict") = false := by decide
        unfold Builtin.«set.__init__» noKeywords Builtin.Frozenset.updateFrom
        generalize hPI : pyIter = PI
        wp_walk
        subst hPI
        refine wpAny_pyIter_list hl1 (wpAny_bind (wpAny_runValue ?_))
        have lS : l < s.heap.objs.size := Heap.lt_size hol
        have h3 : A.in1.in1.in1.handled = none := by simp [hh]
        have z1 : (s.heap.push (noSet w)).objs.size = s.heap.objs.size + 1 := Heap.size_push ..
        have lI : l ≠ (s.heap.push (noSet w)).objs.size := by
          rw [z1]
          exact Nat.ne_of_lt (Nat.lt_succ_of_lt lS)
        have So : s.heap.objs.size ∉ [(s.heap.push (noSet w)).objs.size, l] := by
          rw [z1]
          simp only [List.mem_cons, List.not_mem_nil, or_false, not_or]
          exact ⟨Nat.ne_of_lt (Nat.lt_succ_self _), Nat.ne_of_gt lS⟩
        have hv : ∀ (i : Nat) (v : Value), items[i]? = some v → ∃ p, ks[i]? = some p ∧ v = .ref p.1 := fun i v e => by
          have z : items.toList[i]? = some v := by rw [Array.getElem?_toList]; exact e
          rw [hit, List.getElem?_map] at z
          obtain ⟨p, hp, e2⟩ := Option.map_eq_some_iff.mp z
          exact ⟨p, hp, e2.symm⟩
        have nothing : ∀ b, s.heap.objs.size ≤ b → s.heap.get? b = none := fun b hb => by
          cases z : s.heap.get? b with
          | none => rfl
          | some o => exact absurd (Nat.lt_of_lt_of_le (Heap.lt_size z) hb) (Nat.lt_irrefl _)
        refine update_loop ((Walks.list h3 _ l lI items).toS) s.heap.objs.size So ks sz few hv s.heap hk (nothing _ (Nat.le_refl _)) (fun b hb => nothing b (by rw [List.mem_singleton.mp hb, z1]; exact Nat.le_succ _)) (by show A.units + 1 + 1 + 1 + 8 < cLine; omega) (items.size - 0) 0 _ (by omega) (Nat.zero_le _)
          ⟨⟨_, Heap.get?_push_size _ rfl, rfl, rfl⟩, (hl1.push _)⟩ (fun b o e => Heap.get?_push_of_some _ (Heap.get?_push_of_some _ e)) ⟨[], Keys.fresh (Heap.get?_push_of_some _ hS), Has.none ks⟩ fun s' L mv Z g kp => ?_
        obtain ⟨h', g2, d', tk', os'⟩ := s'
        have eg : g2 = s.gens := mv.gens
        have ed : d' = s.drawn := mv.drawn
        have eo : os' = s.os := mv.os
        subst eg ed eo
        show wpAny _ _ _ _ _ _
        refine wpAny_pure ?_
        show wpAny _ _ (ret Value.none) _ _ _
        rw [sz] at g
        exact wpAny_pure ⟨rfl, h', tk', L, rfl, Z, g, kp⟩
      · cases r₂ with
        | error e => exact hr₂
        | ok fl₂ =>
          cases fl₂ with
          | ret r =>
            obtain ⟨rfl, h', tk, L, rfl, Z, g, kp⟩ := hr₂
            repeat any_goals (first | assumption | wp_step)
            exact q _ _ _ Z g kp
          | _ => exact hr₂.elim
    | _ => exact hr.elim
set_option maxHeartbeats 3200000 in
/-- set(xs) of a tuple of keys -/
theorem set_of_tup {l : Addr} {items : Array Value} (ks : KL) {Q : Value → Shared → Prop} (hh : A.handled = none) (hl : s.heap.IsTuple l items) (hit : items.toList = ks.map fun p => Value.ref p.1)
    (hk : ∀ p ∈ ks, KyIs s.heap p.2 p.1) (few : ks.length < 64) (hu : A.units + 11 < cLine)
    (q : ∀ (h' : Heap) (tk : Nat) L, Keys w h' s.heap.objs.size L → Has ks ks.length L → (∀ b o, s.heap.get? b = some o → h'.get? b = some o) → Q (.ref s.heap.objs.size) { s with heap := h', toks := tk }) :
    wpAny (model P w) A (call (.type "set") [.ref l]) Q E s := by
  have sz : items.size = ks.length := by
    have z := congrArg List.length hit
    rwa [Array.length_toList, List.length_map] at z
  obtain ⟨c, tl, hmro⟩ := F.called_set.mro
  have hmade := F.called_set.made
  have hsub := F.called_set.sub
  refine wpAny_call (codeAny_of_tree ?_)
  show wpAny _ _ (callAny (Value.type "set") _) _ _ _
  refine wpAny_pure ⟨Code.quiet_builtin _ (by decide +kernel), codeAny_builtin F.entry_type_call ?_⟩
  rw [Around.under_plain (weight_type_call_type "set" [.ref l] []) rfl]
  have h1 := F.called_set.notType
  have h2 := F.called_set.canCreate
  have hct := F.typeCall_set_1 (.ref l)
  repeat any_goals (first | assumption | wp_step)
  refine codeAny_mono (code_set_led1 (.ref l) (E := E) (Q₁ := fun obj s₁ => obj = .ref s.heap.objs.size ∧ s₁ = { s with heap := s.heap.push (noSet w) }) ⟨rfl, rfl⟩) fun r s₁ hr => ?_
  cases r with
  | error e => exact hr
  | ok fl =>
    cases fl with
    | ret obj =>
      obtain ⟨rfl, rfl⟩ := hr
      have hS : (s.heap.push (noSet w)).get? s.heap.objs.size = some (noSet w) := Heap.get?_push_size _ rfl
      have hT : Shared.TypeIs { s with heap := s.heap.push (noSet w) } (.ref s.heap.objs.size) "set" := ⟨_, hS, rfl⟩
      have hli := F.called_set.init.lookup
      have hbi := F.called_set.init.bind (.ref s.heap.objs.size)
      repeat any_goals (first | assumption | wp_step)
      refine codeAny_mono (codeAny_call_builtin (R := wants (fun r s₂ => r = .none ∧ ∃ h' tk L, s₂ = { s with heap := h', toks := tk } ∧ Keys w h' s.heap.objs.size L ∧ Has ks ks.length L ∧ (∀ b o, s.heap.get? b = some o → h'.get? b = some o)) E) F.called_set.init.plain F.entry_set_init (check_set_init_1 hT ?_)) fun r₂ s₂ hr₂ => ?_
      · obtain ⟨ol, hol, hcl, nl, hdl⟩ := hl
        obtain ⟨ocls, odict, odata, oslots⟩ := ol
        simp only at hcl hdl
        subst hcl hdl
        have hl1 : (s.heap.push (noSet w)).IsTuple l items := ⟨_, Heap.get?_push_of_some _ hol, rfl, nl, rfl⟩
        have hol' : (s.heap.push (noSet w)).get? l = some { cls := .type "tuple", dict := odict, data := .seq items nl, slots := oslots } := Heap.get?_push_of_some _ hol
        have hsls := F.sub_tuple_set
        have hslf := F.sub_tuple_frozenset
        have hne : (Value.type "tuple" == Value.type "dict") = false := by decide
        unfold Builtin.«set.__init__» noKeywords Builtin.Frozenset.updateFrom
        generalize hPI : pyIter = PI
        wp_walk
        subst hPI
        refine wpAny_pyIter_tuple hl1 (wpAny_bind (wpAny_runValue ?_))
        have lS : l < s.heap.objs.size := Heap.lt_size hol
        have h3 : A.in1.in1.in1.handled = none := by simp [hh]
        have z1 : (s.heap.push (noSet w)).objs.size = s.heap.objs.size + 1 := Heap.size_push ..
        have lI : l ≠ (s.heap.push (noSet w)).objs.size := by
          rw [z1]
          exact Nat.ne_of_lt (Nat.lt_succ_of_lt lS)
        have So : s.heap.objs.size ∉ [(s.heap.push (noSet w)).objs.size, l] := by
          rw [z1]
          simp only [List.mem_cons, List.not_mem_nil, or_false, not_or]
          exact ⟨Nat.ne_of_lt (Nat.lt_succ_self _), Nat.ne_of_gt lS⟩
        have hv : ∀ (i : Nat) (v : Value), items[i]? = some v → ∃ p, ks[i]? = some p ∧ v = .ref p.1 := fun i v e => by
          have z : items.toList[i]? = some v := by rw [Array.getElem?_toList]; exact e
          rw [hit, List.getElem?_map] at z
          obtain ⟨p, hp, e2⟩ := Option.map_eq_some_iff.mp z
          exact ⟨p, hp, e2.symm⟩
        have nothing : ∀ b, s.heap.objs.size ≤ b → s.heap.get? b = none := fun b hb => by
          cases z : s.heap.get? b with
          | none => rfl
          | some o => exact absurd (Nat.lt_of_lt_of_le (Heap.lt_size z) hb) (Nat.lt_irrefl _)
        refine update_loop ((Walks.tuple h3 _ l lI items).toS) s.heap.objs.size So ks sz few hv s.heap hk (nothing _ (Nat.le_refl _)) (fun b hb => nothing b (by rw [List.mem_singleton.mp hb, z1]; exact Nat.le_succ _)) (by show A.units + 1 + 1 + 1 + 8 < cLine; omega) (items.size - 0) 0 _ (by omega) (Nat.zero_le _)
          ⟨⟨_, Heap.get?_push_size _ rfl, rfl, rfl⟩, (hl1.push _)⟩ (fun b o e => Heap.get?_push_of_some _ (Heap.get?_push_of_some _ e)) ⟨[], Keys.fresh (Heap.get?_push_of_some _ hS), Has.none ks⟩ fun s' L mv Z g kp => ?_
        obtain ⟨h', g2, d', tk', os'⟩ := s'
        have eg : g2 = s.gens := mv.gens
        have ed : d' = s.drawn := mv.drawn
        have eo : os' = s.os := mv.os
        subst eg ed eo
        show wpAny _ _ _ _ _ _
        refine wpAny_pure ?_
        show wpAny _ _ (ret Value.none) _ _ _
        rw [sz] at g
        exact wpAny_pure ⟨rfl, h', tk', L, rfl, Z, g, kp⟩
      · cases r₂ with
        | error e => exact hr₂
        | ok fl₂ =>
          cases fl₂ with
          | ret r =>
            obtain ⟨rfl, h', tk, L, rfl, Z, g, kp⟩ := hr₂
            repeat any_goals (first | assumption | wp_step)
            exact q _ _ _ Z g kp
          | _ => exact hr₂.elim
    | _ => exact hr.elim
end
end Mi.Sk
/-! MiSe: sorted of a set of keys. -/
namespace Mi.Sk
open PySem PySem.Spec PyProof.Rows L2
/-! ### the order of data -/
theorem lt_both {x y : PyData} (h : W.alike x y = true) (h1 : W.dataLt x y = false) (h2 : W.dataLt y x = false) : PyData.eqv x y = true := by
  have e : W.keyToks x = W.keyToks y := lex_total (O := itemOrd) _ _ h1 h2
  cases q : PyData.eqv x y with
  | true => rfl
  | false =>
    have z := (W.toks_eqv x y h).2 q
    have z1 := z [.inl 0] [.inl 1]
    have z2 := z [.inl 1] [.inl 0]
    rw [e, W.lex_pre] at z1 z2
    rw [← z2] at z1
    exact absurd z1 (by decide)
def le (x y : PyData) : Bool := !W.dataLt y x
theorem le_trans (x y z : PyData) (h1 : le x y = true) (h2 : le y z = true) : le x z = true := by
  unfold le at *
  simp only [Bool.not_eq_true'] at *
  cases q : W.dataLt z x with
  | false => rfl
  | true =>
    rcases lex_negTrans (O := itemOrd) _ (W.keyToks y) _ q with z | z
    · exact absurd (h2.symm.trans z) (by decide)
    · exact absurd (h1.symm.trans z) (by decide)
theorem lt_asymm {x y : PyData} (h : W.dataLt x y = true) : W.dataLt y x = false := by
  cases q : W.dataLt y x with
  | false => rfl
  | true =>
    have z := lex_trans (O := itemOrd) _ _ _ h q
    exact absurd ((lex_irrefl (O := itemOrd) (W.keyToks x)).symm.trans z) (by decide)
theorem le_total (x y : PyData) : (le x y || le y x) = true := by
  unfold le
  cases q : W.dataLt y x with
  | false => rfl
  | true => rw [lt_asymm q]; rfl
theorem sorted_le (l : List PyData) : (l.mergeSort le).Pairwise (fun x y => le x y = true) := List.pairwise_mergeSort (le := le) le_trans le_total l
theorem one_sort {R : PyData → PyData → Prop} : ∀ {l m : List PyData}, (∀ x ∈ l, ∀ y ∈ l, R x y → R y x → x = y) → l.Perm m → l.Pairwise R → m.Pairwise R → l = m
  | [], m, _, p, _, _ => (List.nil_perm.mp p).symm
  | x :: l, [], _, p, _, _ => absurd p.length_eq (by simp)
  | x :: l, y :: m, an, p, h1, h2 => by
    rw [List.pairwise_cons] at h1 h2
    have e : x = y := by
      have hx : x ∈ y :: m := p.mem_iff.mp List.mem_cons_self
      have hy : y ∈ x :: l := p.mem_iff.mpr List.mem_cons_self
      rcases List.mem_cons.mp hx with z | z
      · exact z
      · rcases List.mem_cons.mp hy with z' | z'
        · exact z'.symm
        · exact an x List.mem_cons_self y hy (h1.1 y z') (h2.1 x z)
    subst e
    rw [one_sort (fun u hu v hv => an u (List.mem_cons_of_mem _ hu) v (List.mem_cons_of_mem _ hv)) (List.Perm.cons_inv p) h1.2 h2.2]
/-! ### sorted -/
section
variable {P : Program} {w : World} {A : Around} {E : Value → Shared → Prop} {s : Shared}
abbrev dat (p : Addr × NestedKey) : PyData := p.2.data
theorem each_refs {h : Heap} : ∀ (L : KL), W.EachIs (fun v (p : Addr × NestedKey) => v = Value.ref p.1) (L.map fun p => Value.ref p.1) L
  | [] => .nil
  | p :: L => .cons rfl (each_refs (h := h) L)
theorem each_reads {h : Heap} : ∀ (L : KL), (∀ p ∈ L, ∃ as, Reads h (.ref p.1) (dat p) as ∧ ∀ b ∈ as, h.get? b ≠ none) → ∀ a : Addr, h.get? a = none → ∀ h' : Heap, (∀ b o, h.get? b = some o → h'.get? b = some o) → W.EachIs (fun v (p : Addr × NestedKey) => ∃ as, Reads h' v (dat p) as ∧ a ∉ as) (L.map fun p => Value.ref p.1) L
  | [], _, _, _, _, _ => .nil
  | p :: L, hr, a, ha, h', k => by
    obtain ⟨as, r, q⟩ := hr p List.mem_cons_self
    exact .cons ⟨as, PyProof.Rows.Reads.keeps k r, fun z => q a z ha⟩ (each_reads L (fun u hu => hr u (List.mem_cons_of_mem _ hu)) a ha h' k)
theorem refs_back : ∀ {out : List Value} {L : KL}, W.EachIs (fun v (p : Addr × NestedKey) => v = Value.ref p.1) out L → out = L.map fun p => Value.ref p.1
  | _, _, .nil => rfl
  | _, _, .cons e t => by rw [e, refs_back t]; rfl
/-- values that stand for a set's entries, in some order -/
theorem some_order {L : KL} (inj : ∀ q ∈ L, ∀ r ∈ L, q.1 = r.1 → q = r) (nd : L.Nodup) {vs : List Value} (pm : vs.Perm (L.map fun q => Value.ref q.1)) : ∃ M : KL, vs = M.map (fun q => Value.ref q.1) ∧ M.Perm L := by
  obtain ⟨M, e, hm⟩ : ∃ M : KL, vs = M.map (fun q => Value.ref q.1) ∧ ∀ q ∈ M, q ∈ L := by
    have all : ∀ v ∈ vs, ∃ q ∈ L, v = Value.ref q.1 := fun v hv => by
      obtain ⟨q, hq, e⟩ := List.mem_map.mp (pm.mem_iff.mp hv)
      exact ⟨q, hq, e.symm⟩
    clear pm
    induction vs with
    | nil => exact ⟨[], rfl, by simp⟩
    | cons v vs ih =>
      obtain ⟨M, e, hm⟩ := ih fun u hu => all u (List.mem_cons_of_mem _ hu)
      obtain ⟨q, hq, e2⟩ := all v List.mem_cons_self
      refine ⟨q :: M, by rw [e, e2]; rfl, fun r hr => ?_⟩
      rcases List.mem_cons.mp hr with z | z
      · rw [z]; exact hq
      · exact hm r z
  refine ⟨M, e, ?_⟩
  rw [e] at pm
  have nr : (L.map fun q => Value.ref q.1).Nodup := List.pairwise_map.mpr (List.Pairwise.imp_of_mem (fun {q r} hq hr hne z => hne (inj q hq r hr (Value.ref.inj z))) nd)
  have nm : M.Nodup := List.Pairwise.of_map (fun q => Value.ref q.1) (fun _ _ hne z => hne (z ▸ rfl)) (pm.nodup_iff.mpr nr)
  refine (List.perm_ext_iff_of_nodup nm nd).mpr fun q => ⟨hm q, fun hq => ?_⟩
  obtain ⟨r, hr, z⟩ := List.mem_map.mp (pm.mem_iff.mpr (List.mem_map.mpr ⟨q, hq, rfl⟩))
  rw [← inj r (hm r hr) q hq (Value.ref.inj z)]
  exact hr
theorem sorted_set {a : Addr} {L : KL} {Q : Value → Shared → Prop} (Z : Keys w s.heap a L) (hh : A.handled = none) (rd : ∀ p ∈ L, ∃ as, Reads s.heap (.ref p.1) (dat p) as) (al : W.AllAlike (L.map dat)) (so : W.Sortable (L.map dat)) (hu : ∀ p ∈ L, A.units + 3 + (dat p).depth < cLine)
    (q : ∀ s' b (c : Nat) (M : KL), (∀ b o, s.heap.get? b = some o → s'.heap.get? b = some o) → s'.gens = s.gens → s'.os = s.os → s.heap.objs.size ≤ b → s'.heap.get? b = some (seqObj "list" (M.map fun p => Value.ref p.1).toArray c) → M.Perm L → (M.map dat).Pairwise (fun x y => le x y = true) → Q (.ref b) s') :
    wpAny (model P w) A (call (.builtin "sorted") [.ref a]) Q E s := by
  obtain ⟨es, ep, t, Z⟩ := Z
  obtain ⟨o, ho, hex, hd⟩ := Z.obj
  have cnt := Z.count
  have few := Z.few
  refine Calls.call_function_entry kind_sorted plain_sorted entry_sorted (args_sorted1 _) ?_
  unfold Builtin.«sorted»
  refine wpAny_bind (m := checkCount "sorted" 1 1 _) (wpAny_pure ?_)
  refine wpAny_bind (collect_set (A := A.in1) hh ⟨o, ho, hex.1, hd⟩ Z.fit (by unfold scanBound; omega) Z.tab.ris Z.led fun s1 vs k1 hz g1 o1 pm => ?_)
  have e1 : es.toList.map (·.2) = L.map fun p => Value.ref p.1 := by
    rw [Z.ents, List.map_map]
    rfl
  rw [e1] at pm
  have inj : ∀ u ∈ L, ∀ v ∈ L, u.1 = v.1 → u = v := fun u hu v hv e => by
    have a1 := (Z.keys u hu).1
    rw [e] at a1
    exact Prod.ext e (NestedIs.inj _ _ _ a1 (Z.keys v hv).1)
  have nd : L.Nodup := List.Pairwise.of_map (·.2) (fun _ _ hne z => hne (z ▸ rfl)) Z.uniq
  obtain ⟨M, rfl, pM⟩ := some_order inj nd pm
  have lM : M.length < 64 := by rw [pM.length_eq]; exact few
  refine wpAny_bind (wpAny_newList ?_ (by rw [List.length_map, sizeLine_eq]; omega))
  have hoL : (s1.heap.push (seqObj "list" (M.map fun p => Value.ref p.1).toArray 0)).get? s1.heap.objs.size = some (seqObj "list" (M.map fun p => Value.ref p.1).toArray 0) := Heap.get?_push_size _ rfl
  have none1 : s.heap.get? s1.heap.objs.size = none := by
    cases z : s.heap.get? s1.heap.objs.size with
    | none => rfl
    | some u => exact absurd (Heap.lt_size z) (Nat.not_lt.mpr hz)
  have rdM : ∀ p ∈ M, ∃ as, Reads s.heap (.ref p.1) (dat p) as ∧ ∀ b ∈ as, s.heap.get? b ≠ none := fun p hp => by
    obtain ⟨as, r⟩ := rd p (pM.mem_iff.mp hp)
    refine ⟨as, r, fun b hb z => ?_⟩
    obtain ⟨u, e⟩ := PyProof.On.reads_mem_get r b hb
    rw [z] at e
    cases e
  have kk : ∀ b u, s.heap.get? b = some u → (s1.heap.push (seqObj "list" (M.map fun p => Value.ref p.1).toArray 0)).get? b = some u := fun b u e => Heap.get?_push_of_some _ (k1 b u e)
  have alM : W.AllAlike (M.map dat) := fun d hd d' hd' => al d ((pM.map dat).mem_iff.mp hd) d' ((pM.map dat).mem_iff.mp hd')
  have soM : W.Sortable (M.map dat) := by
    rcases so with z | z
    · exact .inl fun d hd => z d ((pM.map dat).mem_iff.mp hd)
    · exact .inr fun d hd => z d ((pM.map dat).mem_iff.mp hd)
  refine wpAny_bind (wpAny_holding (W.list_sort_data (s := { s1 with heap := s1.heap.push (seqObj "list" (M.map fun p => Value.ref p.1).toArray 0) }) (enc := dat) (R := fun v p => v = Value.ref p.1) hoL (each_refs (h := s.heap) M) (each_reads M rdM _ none1 _ kk) alM soM (by rw [sizeLine_eq]; omega) (fun p hp => by
    have z := hu p (pM.mem_iff.mp hp)
    show A.units + 1 + 1 + (dat p).depth < cLine
    omega) fun out hlen ho => ?_))
  have e2 := refs_back ho
  obtain ⟨c, hc⟩ := sortedHeap_at (vs := M.map fun p => Value.ref p.1) (out := out.toArray) hoL
  have pS : (M.mergeSort (W.dataLe false dat)).Perm L := (List.mergeSort_perm _ _).trans pM
  refine wpAny_pure ⟨_, rfl, q _ s1.heap.objs.size c (M.mergeSort (W.dataLe false dat)) (fun b u e => ?_) g1 o1 hz (by rw [← e2]; exact hc) pS ?_⟩
  · have lt := Heap.lt_size (k1 b u e)
    show (sortedHeap (s1.heap.push (seqObj "list" (M.map fun p => Value.ref p.1).toArray 0)) s1.heap.objs.size (M.map fun p => Value.ref p.1) out.toArray).get? b = some u
    rw [sortedHeap_old (Nat.ne_of_lt lt) (by rw [size_push']; exact Nat.lt_succ_of_lt lt)]
    exact kk b u e
  · rw [List.pairwise_map]
    exact List.pairwise_mergeSort (le := W.dataLe false dat) (fun x y z h1 h2 => le_trans (dat x) (dat y) (dat z) h1 h2) (fun x y => le_total (dat x) (dat y)) M
end
end Mi.Sk
set_option maxHeartbeats 4000000
/-! MiRv: t[::-1] of a tuple, of a list or a tuple. -/
namespace L2
open PySem PySem.Spec PyProof.Rows HT
section
variable {prog : Program} {w : World} {A : Around} {E : Value → Shared → Prop} {s : Shared}
theorem adjust_rev (n : Nat) : Builtin.Slice.sliceAdjust none none (-1) (n : Int) = ((n : Int) - 1, -1) := by
  unfold Builtin.Slice.sliceAdjust
  simp
theorem places_rev (n : Nat) : Builtin.Slice.slicePlaces ((n : Int) - 1) (-1) (-1) = n := by
  unfold Builtin.Slice.slicePlaces
  have h1 : ¬ ((-1 : Int) > 0) := by omega
  simp only [h1, if_false]
  by_cases q : (n : Int) - 1 > -1
  · rw [if_pos q, show (- -1 : Int) = 1 by decide, Int.ediv_one]
    omega
  · rw [if_neg q]
    omega
theorem sliceApplied_rev {sl : Addr} {vk : Value} {n : Nat} {Q : Int × Int × Nat → Shared → Prop} (hs : s.heap.IsSliceOf sl .none .none vk) (pk : IsPart vk (some (-1)))
    (h : Q ((n : Int) - 1, -1, n) s) : wpAny (model prog w) A (Builtin.Slice.sliceApplied (.ref sl) (pure (n : Int))) Q E s := by
  obtain ⟨os, hos, hcs, hds⟩ := id hs
  unfold Builtin.Slice.sliceApplied Builtin.Slice.sliceFields
  refine wpAny_bind (wpAny_bind (wpAny_field hos hds (x := .none) rfl (wpAny_bind (wpAny_field hos hds (x := .none) rfl (wpAny_bind (wpAny_field hos hds (x := vk) rfl (wpAny_pure ?_)))))))
  refine wpAny_bind (slicePart_ pk ?_)
  show wpAny _ _ (if ((-1 : Int) == 0) = true then _ else _) _ _ s
  rw [if_neg (by decide)]
  refine wpAny_bind (slicePart_none (wpAny_bind (slicePart_none (wpAny_bind (wpAny_pure ?_)))))
  show wpAny _ _ (match Builtin.Slice.sliceAdjust none none (-1) (n : Int) with | (lo, hi) => pure (lo, (-1 : Int), Builtin.Slice.slicePlaces lo hi (-1))) _ _ s
  rw [adjust_rev n]
  show wpAny _ _ (pure ((n : Int) - 1, (-1 : Int), Builtin.Slice.slicePlaces ((n : Int) - 1) (-1) (-1))) _ _ s
  rw [places_rev]
  exact wpAny_pure h
theorem pick_rev (xs : Array Value) : ((List.range xs.size).filterMap fun (m : Nat) => xs[(((xs.size : Int) - 1) + (m : Int) * -1).toNat]?).toArray = xs.toList.reverse.toArray := by
  have e : ((List.range xs.size).filterMap fun (m : Nat) => xs[(((xs.size : Int) - 1) + (m : Int) * -1).toNat]?) = ((List.range xs.size).map fun k => xs.size - 1 - k).filterMap (xs[·]?) := by
    rw [List.filterMap_map]
    congr 1
    funext m
    have : (((xs.size : Int) - 1) + (m : Int) * -1).toNat = xs.size - 1 - m := by omega
    show xs[(((xs.size : Int) - 1) + (m : Int) * -1).toNat]? = xs[xs.size - 1 - m]?
    rw [this]
  rw [e, PySem.W.krv_range, List.filterMap_reverse, PySem.W.krv_all]
theorem getItem_tuple_rev {t sl : Addr} {items : Array Value} {vk : Value} {Q : Value → Shared → Prop} (ht : IsTup s.heap t items) (hs : s.heap.IsSliceOf sl .none .none vk) (pk : IsPart vk (some (-1)))
    (h : Q (.ref s.heap.objs.size) { s with heap := s.heap.push { cls := .type "tuple", data := .seq items.toList.reverse.toArray } })
    (hsz : items.size ≤ sizeLine) : wpAny (model prog w) A (getItem (.ref t) (.ref sl)) Q E s := by
  have htake : sizeOk (.seq items.toList.reverse.toArray) := by
    show items.toList.reverse.toArray.size ≤ sizeLine
    rw [List.size_toArray, List.length_reverse, Array.length_toList]
    exact hsz
  obtain ⟨os, hos, hcs, hds⟩ := id hs
  have hTs : s.TypeIs (.ref sl) "slice" := ⟨os, hos, hcs⟩
  unfold getItem
  try with_reducible refine wpAny_holding ?_
  first | refine wpAny_bind (wpAny_pure ?_) | skip
  refine wpAny_bind (wpAny_sequenceKey ht.typeIs (by decide) ?_)
  refine wpAny_bind (wpAny_callSpecial?_slot (name := Str.ofString "__getitem__") ht.typeIs PyProof.Rows.slot_tuple_getitem
    (wpAny_call_entry PyProof.Rows.slot_tuple_getitem ht.typeIs entry_tuple_getitem ?_ (args_tuple_getitem _ _)))
  show wpAny _ _ (Builtin.Tuple.tupleItemsOf (.ref t) >>= _) _ _ s
  refine wpAny_bind (tupleItemsOf_ ht ?_)
  refine wpAny_bind (wpAny_typeOf hTs ?_)
  rw [if_pos (by decide)]
  refine wpAny_bind (sliceApplied_rev hs pk ?_)
  have hno : ¬ ((((items.size : Int) - 1) == 0 && (-1 : Int) == 1 && items.size == items.size) = true) := by
    intro q
    rw [Bool.and_eq_true, Bool.and_eq_true] at q
    exact absurd q.1.2 (by decide)
  show wpAny _ _ (if (((items.size : Int) - 1) == 0 && (-1 : Int) == 1 && items.size == items.size) = true then _ else _) _ _ s
  rw [if_neg hno, pick_rev]
  first
    | exact wpAny_bind (m := Builtin.Tuple.tupleExact _) (wpAny_newObj_type (wpAny_pure ⟨_, rfl, wpAny_pure h⟩) htake)
    | exact wpAny_bind (m := Builtin.Tuple.tupleExact _) (wpAny_newObj_type (wpAny_bind (wpAny_pure (wpAny_pure ⟨_, rfl, wpAny_pure h⟩))) htake)
    | exact wpAny_bind (wpAny_bind (m := Builtin.Tuple.tupleExact _) (wpAny_newObj_type (wpAny_pure (wpAny_pure ⟨_, rfl, wpAny_pure h⟩)) htake))
    | exact wpAny_bind (wpAny_bind (m := Builtin.Tuple.tupleExact _) (wpAny_newObj_type (wpAny_pure ⟨_, rfl, wpAny_pure h⟩) htake))
end
section
variable {X : Cx}
def tRevA (K : PySem.W.Frag) (te : TE) : TE := fun σ H Q => te σ H fun x H1 => ∃ a xs, x = .ref a ∧ ((SqL K H1 a xs ∧ ∀ p, H1 p = none → Q (.ref p) (upd H1 p (.lst xs.reverse))) ∨ (SqT K H1 a xs ∧ ∀ p, H1 p = none → Q (.ref p) (upd H1 p (.tup xs.reverse))))
theorem pe_revA {e : Expr} {te : TE} {k : Nat} {p1 p2 p3 pos : Pos} (he : PE X e te) : PE X (.Subscript e (.Slice none none (some (.UnaryOp .USub (.Constant (.int 1) k p1) p2)) p3) pos) (tRevA X.K te) := by
  refine ⟨fun pins s σ H Q I h => ?_⟩
  refine Subscript_ (thn (he.run pins s σ H _ I h) fun v s1 ⟨x, H1, I1, r1, q1⟩ => ?_)
  obtain ⟨a, xs, ex, q⟩ := q1
  subst ex
  cases r1
  have hst : PO X (some (.UnaryOp .USub (.Constant (.int 1) k p1) p2)) (tPart (tUn (rU fun i => .int (-i)) (tC (.int 1)))) := po_some (pe_un un_neg pe_int)
  refine wpAny_Slice (thn (po_none.run pins s1 σ H1 (fun o H2 => o = none ∧ H2 = H1) I1 ⟨rfl, rfl⟩) fun vl s2 ⟨l, H2, I2, pl, el, e2⟩ => ?_)
  subst el e2
  refine thn (po_none.run pins s2 σ H2 (fun o H3 => o = none ∧ H3 = H2) I2 ⟨rfl, rfl⟩) fun vu s3 ⟨u, H3, I3, pu, eu, e3⟩ => ?_
  subst eu e3
  refine thn (hst.run pins s3 σ H3 (fun o H4 => o = some (-1) ∧ H4 = H3) I3 ⟨1, rfl, -1, rfl, rfl, rfl⟩) fun vs s4 ⟨o, H4, I4, ps, eo, e4⟩ => ?_
  subst eo e4
  have I5 : Inv X pins σ H4 { s4 with heap := s4.heap.push { cls := .type "slice", data := .fields #[vl, vu, vs] } } := I4.kept (t' := s4.toks) fun b ob q => Heap.get?_push_of_some _ q
  cases pl
  cases pu
  show wpAny (model X.prog X.w) X.A (subscriptTail e (.Slice none none (some (.UnaryOp .USub (.Constant (.int 1) k p1) p2)) p3) (.ref a) (.ref s4.heap.objs.size)) (EP X pins σ Q) X.xe { s4 with heap := s4.heap.push { cls := .type "slice", data := .fields #[.none, .none, vs] } }
  rcases q with ⟨hx, q⟩ | ⟨hx, q⟩
  · obtain ⟨its, r, ht, hz⟩ := I5.list hx
    have hlen := r.length
    refine tail_any (ops := [.ref a, .ref s4.heap.objs.size]) ht.isList.typeIs (PySem.slot_list_getitem.lookup) ?_ (by with_unfolding_all rfl)
    refine wpAny_getItem_list_slice ht.isList (Heap.IsSliceOf.new _ .none .none vs) .none .none ps (by decide) ?_ (by rw [List.size_toArray]; omega)
    rw [PySem.W.krv_pick]
    refine ⟨.ref _, _, I5.laid (t' := s4.toks) (o := .lst xs.reverse) (fun b ob q => Heap.get?_push_of_some _ q) (Nat.le_refl _) ?_, rfl, q _ (I5.hok.fresh (Nat.le_refl _))⟩
    exact ⟨by rw [List.length_reverse]; exact hz, _, 0, r.reverse, Heap.get?_push_size _ rfl⟩
  · obtain ⟨its, r, ht, hz⟩ := I5.tuple hx
    have hlen := r.length
    refine tail_any (ops := [.ref a, .ref s4.heap.objs.size]) ht.typeIs PyProof.Rows.slot_tuple_getitem.lookup ?_ (by with_unfolding_all rfl)
    refine getItem_tuple_rev ht (Heap.IsSliceOf.new _ .none .none vs) ps ?_ (by rw [List.size_toArray]; omega)
    refine ⟨.ref _, _, I5.laid (t' := s4.toks) (o := .tup xs.reverse) (fun b ob q => Heap.get?_push_of_some _ q) (Nat.le_refl _) ?_, rfl, q _ (I5.hok.fresh (Nat.le_refl _))⟩
    exact ⟨by rw [List.length_reverse]; exact hz, _, r.reverse, IsTup.new _ _⟩
end
end L2
/-! MiSf: sorted(set(e)), e[::-1], a.count(b) in the layer. -/
namespace Mi
open PySem PySem.Spec PyProof.Rows L2 Sk
variable {X : Cx} {K : PySem.W.Frag} {T : Addr → Prop} {mg : Str → Option Value} {W : WX} {F : Fns}
/-! ### data as keys -/
mutual
def nkOf : PD → NestedKey
  | .int i => .num i
  | .tuple xs => .tup (nkOfs xs)
  | _ => .none
def nkOfs : List PD → List NestedKey
  | [] => []
  | x :: r => nkOf x :: nkOfs r
end
mutual
theorem nk_data : ∀ d : PD, keyD d = true → (nkOf d).data = d
  | .int i, _ => rfl
  | .tuple xs, h => by
    show PyData.tuple (NestedKey.datas (nkOfs xs)) = _
    rw [nks_data xs h]
  | .none, h => by cases h
  | .bool _, h => by cases h
  | .str _, h => by cases h
  | .list _, h => by cases h
  | .dict _, h => by cases h
theorem nks_data : ∀ xs : List PD, keyDs xs = true → NestedKey.datas (nkOfs xs) = xs
  | [], _ => rfl
  | x :: r, h => by
    have h' : keyD x = true ∧ keyDs r = true := by
      have z : (keyD x && keyDs r) = true := h
      simpa using z
    show NestedKey.data (nkOf x) :: NestedKey.datas (nkOfs r) = _
    rw [nk_data x h'.1, nks_data r h'.2]
end
mutual
theorem nk_num : ∀ d : PD, keyD d = true → nk (nkOf d) = true
  | .int i, _ => rfl
  | .tuple xs, h => nks_num xs h
  | .none, h => by cases h
  | .bool _, h => by cases h
  | .str _, h => by cases h
  | .list _, h => by cases h
  | .dict _, h => by cases h
theorem nks_num : ∀ xs : List PD, keyDs xs = true → nks (nkOfs xs) = true
  | [], _ => rfl
  | x :: r, h => by
    have h' : keyD x = true ∧ keyDs r = true := by
      have z : (keyD x && keyDs r) = true := h
      simpa using z
    show (nk (nkOf x) && nks (nkOfs r)) = true
    rw [nk_num x h'.1, nks_num r h'.2]
    rfl
end
mutual
theorem nk_depth : ∀ d : PD, (nkOf d).depth ≤ d.depth
  | .int i => Nat.le_refl _
  | .tuple xs => by
    show NestedKey.depthAll (nkOfs xs) + 1 ≤ PyData.depthAll xs + 1
    exact Nat.succ_le_succ (nks_depth xs)
  | .none => Nat.zero_le _
  | .bool _ => Nat.zero_le _
  | .str _ => Nat.zero_le _
  | .list _ => Nat.zero_le _
  | .dict _ => Nat.zero_le _
theorem nks_depth : ∀ xs : List PD, NestedKey.depthAll (nkOfs xs) ≤ PyData.depthAll xs
  | [] => Nat.le_refl _
  | x :: r => by
    have a := nk_depth x
    have b := nks_depth r
    show max (nkOf x).depth (NestedKey.depthAll (nkOfs r)) ≤ max x.depth (PyData.depthAll r)
    omega
end
mutual
theorem dq_key {pins : List (Addr × Obj)} {σ : L2.St} {H : Hp} {s : Shared} (I : Inv X pins σ H s) : ∀ {v : V} {d : PD} {u : Value}, Dq H v d → keyD d = true → RelV v u → NestedIs s.heap (nkOf d) u
  | _, _, u, .int i, _, r => by
    obtain ⟨t, rfl⟩ := r
    exact .int i t
  | _, _, u, .tup ha da, h, r => by
    cases r
    obtain ⟨its, rv, ⟨o, ho, hc, n, hd⟩, _⟩ := I.tuple (SqT.of ha)
    exact .tup ho hc hd (by simpa using dq_keys I da h rv)
  | _, _, _, .non, h, _ => by cases h
  | _, _, _, .bl _, h, _ => by cases h
  | _, _, _, .str _, h, _ => by cases h
  | _, _, _, .lst _ _, h, _ => by cases h
theorem dq_keys {pins : List (Addr × Obj)} {σ : L2.St} {H : Hp} {s : Shared} (I : Inv X pins σ H s) : ∀ {vs : List V} {ds : List PD} {us : List Value}, DqAll H vs ds → keyDs ds = true → Vals vs us → NestedAll s.heap (nkOfs ds) us
  | _, _, _, .nil, _, r => by cases r; exact .nil
  | _, _, _, .cons h1 h2, h, r => by
    rename_i v vs d ds
    have h' : keyD d = true ∧ keyDs ds = true := by
      have z : (keyD d && keyDs ds) = true := h
      simpa using z
    cases r with
    | cons r1 r2 => exact .cons (dq_key I h1 h'.1 r1) (dq_keys I h2 h'.2 r2)
end
/-- a row that may be a key, at the address a -/
structure RowAt (H : Hp) (p : Addr × NestedKey) (d : PD) : Prop where
  dq : Dq H (.ref p.1) d
  row : rowD d = true
  dp : d.depth ≤ 8
  ky : p.2 = nkOf d
theorem row_key {d : PD} (h : rowD d = true) : keyD d = true ∧ ∃ x r, d = .tuple (x :: r) := by
  cases d with
  | tuple xs =>
    cases xs with
    | nil => cases h
    | cons x r => exact ⟨h, x, r, rfl⟩
  | _ => cases h
theorem RowAt.data {H : Hp} {p : Addr × NestedKey} {d : PD} (h : RowAt H p d) : dat p = d := by
  show NestedKey.data p.2 = d
  rw [h.ky]
  exact nk_data d (row_key h.row).1
theorem RowAt.up {H H' : Hp} {p : Addr × NestedKey} {d : PD} (h : RowAt H p d) (k : Sm H H') : RowAt H' p d := ⟨h.dq.up k, h.row, h.dp, h.ky⟩
theorem RowAt.is {pins : List (Addr × Obj)} {σ : L2.St} {H : Hp} {s : Shared} (I : Inv X pins σ H s) {p : Addr × NestedKey} {d : PD} (h : RowAt H p d) : KyIs s.heap p.2 p.1 := by
  have ky := h.ky
  refine ⟨?_, ?_, ?_⟩
  · rw [ky]; exact dq_key I h.dq (row_key h.row).1 rfl
  · rw [ky]; exact Nat.le_trans (nk_depth d) h.dp
  · rw [ky]; exact nk_num d (row_key h.row).1
/-- a list of rows: the addresses and keys -/
theorem rows_at {H : Hp} : ∀ {vs : List V} {ds : List PD}, DqAll H vs ds → ds.all rowD = true → (∀ d ∈ ds, d.depth ≤ 8) → ∃ ks : KL, vs = ks.map (fun p => V.ref p.1) ∧ ks.map dat = ds ∧ ∀ p ∈ ks, RowAt H p (dat p)
  | _, _, .nil, _, _ => ⟨[], rfl, rfl, by simp⟩
  | _, _, .cons (v := v) (d := d) h t, hr, hd => by
    simp only [List.all_cons, Bool.and_eq_true] at hr
    obtain ⟨ks, e1, e2, e3⟩ := rows_at t hr.2 fun z hz => hd z (List.mem_cons_of_mem _ hz)
    obtain ⟨hk, x, r, rfl⟩ := row_key hr.1
    cases h with
    | @tup a xs _ ha da =>
      have ra : RowAt H (a, nkOf (.tuple (x :: r))) (.tuple (x :: r)) := ⟨.tup ha da, hr.1, hd _ List.mem_cons_self, rfl⟩
      refine ⟨(a, nkOf (.tuple (x :: r))) :: ks, by rw [e1]; rfl, by rw [List.map_cons, e2, ra.data], fun p hp => ?_⟩
      rcases List.mem_cons.mp hp with z | z
      · rw [z, ra.data]; exact ra
      · exact e3 p z
/-! ### the set between the two calls -/
def KSet0 (w : World) (h : Heap) (a : Addr) (L : KL) : Prop := ∃ (es : Array (Int × Value)) (ep : Nat) (t : SetTable), (∃ o, h.get? a = some o ∧ o.ExactSet ∧ o.data = .set es ep t) ∧ es.toList = L.map (ent w) ∧ TabOk t (L.map fun p => kh w p.2) ∧ (L.map (·.2)).Nodup ∧ t.plain = true ∧ (w.params.followText "set-order" = true ∨ t.led = true) ∧ L.length * 5 < t.mask * 3 ∧ L.length < 64
def KO (w : World) (a : Addr) (L : KL) : HO := .ext fun h => KSet0 w h a L
theorem ko_new {P : Program} {w : World} {H : Hp} {h : Heap} {a : Addr} {L : KL} (Z : Keys w h a L) : ObjOk P w H h a (KO w a L) := by
  obtain ⟨es, ep, t, Z⟩ := Z
  obtain ⟨o, ho, r⟩ := Z.obj
  refine ⟨⟨es, ep, t, ⟨o, ho, r⟩, Z.ents, Z.tab, Z.uniq, Z.plain, Z.led, Z.free, Z.few⟩, ⟨o, ho⟩, fun h1 h2 p k => ?_⟩
  obtain ⟨es', ep', t', ⟨o', ho', r'⟩, q'⟩ := p
  exact ⟨es', ep', t', ⟨o', k o' ho', r'⟩, q'⟩
def rSetK (w : World) : List V → Hp → VK → Prop := fun vs H Q => ∃ (l : Addr) (ks : KL), vs = [V.ref l] ∧ (H l = some (.lst (ks.map fun p => V.ref p.1)) ∨ H l = some (.tup (ks.map fun p => V.ref p.1))) ∧ (∀ p ∈ ks, RowAt H p (dat p)) ∧ ks.length < 64 ∧
  ∀ a L, H a = none → (∀ p ∈ L, p ∈ ks) → (∀ p ∈ ks, p.2 ∈ L.map (·.2)) → (L.map (·.2)).Nodup → Q (.ref a) (upd H a (KO w a L))
theorem refs_vals : ∀ {ks : KL} {us : List Value}, Vals (ks.map fun p => V.ref p.1) us → us = ks.map fun p => Value.ref p.1
  | [], _, .nil => rfl
  | p :: ks, _, .cons r t => by
    cases r
    rw [refs_vals t]
    rfl
theorem vals_refs : ∀ (ks : KL), Vals (ks.map fun p => V.ref p.1) (ks.map fun p => Value.ref p.1)
  | [] => .nil
  | p :: ks => .cons rfl (vals_refs ks)
theorem call_setK (hc : X.calm = true) (hu : X.A.units + 64 < cLine) : CallR X (.type "set") (rSetK X.w) := by
  intro pins s σ H xs us Q I r h
  obtain ⟨l, ks, rfl, hl, hk, few, q⟩ := h
  rw [Vals.ref1 r]
  have hn : H s.heap.objs.size = none := I.hok.fresh (Nat.le_refl _)
  have fin : ∀ (h' : Heap) (tk : Nat) L, Keys X.w h' s.heap.objs.size L → Has ks ks.length L → (∀ b o, s.heap.get? b = some o → h'.get? b = some o) → EP X pins σ Q (.ref s.heap.objs.size) { s with heap := h', toks := tk } := fun h' tk L Z g k => by
    have Z0 := Z
    obtain ⟨_, _, _, Z1⟩ := Z
    exact ⟨.ref s.heap.objs.size, upd H s.heap.objs.size (KO X.w s.heap.objs.size L), I.laid (t' := tk) k (Nat.le_refl _) (ko_new Z0), rfl, q _ L hn (fun p hp => List.mem_of_mem_take (g.from_ p hp)) (fun p hp => g.each p (by rw [List.take_length]; exact hp)) Z1.uniq⟩
  rcases hl with hl | hl
  · obtain ⟨its, rv, pl, _⟩ := I.list (SqL.of hl)
    exact set_of_list (P := X.prog) (w := X.w) ks (I.ok.hd hc) pl.isList (by simpa using refs_vals rv) (fun p hp => (hk p hp).is I) few (by omega) fin
  · obtain ⟨its, rv, pl, _⟩ := I.tuple (SqT.of hl)
    exact set_of_tup (P := X.prog) (w := X.w) ks (I.ok.hd hc) pl (by simpa using refs_vals rv) (fun p hp => (hk p hp).is I) few (by omega) fin
def rSortK (w : World) : List V → Hp → VK → Prop := fun vs H Q => ∃ (a : Addr) (L : KL), vs = [V.ref a] ∧ H a = some (KO w a L) ∧ (∀ p ∈ L, RowAt H p (dat p)) ∧ PySem.W.AllAlike (L.map dat) ∧
  ∀ (M : KL) (b : Addr), M.Perm L → (M.map dat).Pairwise (fun x y => le x y = true) → H b = none → Q (.ref b) (upd H b (.lst (M.map fun p => V.ref p.1)))
theorem call_sortK (hc : X.calm = true) (hu : X.A.units + 64 < cLine) : CallR X (.builtin "sorted") (rSortK X.w) := by
  intro pins s σ H vs us Q I r h
  obtain ⟨a, L, rfl, ha, hk, al, q⟩ := h
  obtain ⟨es, ep, t, ob, e1, e2, e3, e4, e5, e6, e7⟩ : KSet0 X.w s.heap a L := (I.hok a _ ha).1
  rw [Vals.ref1 r]
  have rd : ∀ p ∈ L, ∃ as, Reads s.heap (.ref p.1) (dat p) as := fun p hp => L2.Dp.reads I _ _ _ (hk p hp).dq.dp rfl
  refine sorted_set (P := X.prog) (w := X.w) (L := L) ⟨es, ep, t, ob, e1, e2, e3, fun p hp => (hk p hp).is I, e4, e5, e6, e7⟩ (I.ok.hd hc) rd al (.inl fun d hd => ?_) (fun p hp => by have := (hk p hp).dp; omega) fun s' b c M k g1 o1 hb hbl pm pw => ?_
  · obtain ⟨p, hp, rfl⟩ := List.mem_map.mp hd
    exact (row_key (hk p hp).row).2
  · have few : (M.map fun p => V.ref p.1).length ≤ sizeLine := by rw [List.length_map, pm.length_eq, sizeLine_eq]; omega
    have hn : H b = none := I.hok.fresh hb
    have J : Inv X pins σ (upd H b (.lst (M.map fun p => V.ref p.1))) { s with heap := s'.heap, gens := s'.gens, drawn := s'.drawn, toks := s'.toks } :=
      I.call (ch := []) (Un.laid k hb hn) (I.hok.laid k hb ⟨few, _, c, vals_refs M, hbl⟩) (by rw [g1]; exact I.bare) (fun _ z => nomatch z)
    have e : s' = { s with heap := s'.heap, gens := s'.gens, drawn := s'.drawn, toks := s'.toks } := by
      cases s'
      cases s
      cases o1
      rfl
    rw [e]
    exact ⟨.ref b, _, J, rfl, q M b pm pw hn⟩
/-! ### one answer -/
mutual
theorem eqv_key : ∀ x y : PD, keyD x = true → keyD y = true → (PyData.eqv x y = true ↔ x = y)
  | .int i, .int j, _, _ => by
    show (i == j) = true ↔ _
    simp
  | .tuple xs, .tuple ys, h1, h2 => by
    show PyData.eqvAll xs ys = true ↔ _
    rw [eqv_keys xs ys h1 h2]
    simp
  | .int i, .tuple ys, _, _ => by simp [PyData.eqv]
  | .tuple xs, .int j, _, _ => by simp [PyData.eqv]
  | .none, _, h, _ => by cases h
  | .bool _, _, h, _ => by cases h
  | .str _, _, h, _ => by cases h
  | .list _, _, h, _ => by cases h
  | .dict _, _, h, _ => by cases h
  | .int _, .none, _, h => by cases h
  | .int _, .bool _, _, h => by cases h
  | .int _, .str _, _, h => by cases h
  | .int _, .list _, _, h => by cases h
  | .int _, .dict _, _, h => by cases h
  | .tuple _, .none, _, h => by cases h
  | .tuple _, .bool _, _, h => by cases h
  | .tuple _, .str _, _, h => by cases h
  | .tuple _, .list _, _, h => by cases h
  | .tuple _, .dict _, _, h => by cases h
theorem eqv_keys : ∀ xs ys : List PD, keyDs xs = true → keyDs ys = true → (PyData.eqvAll xs ys = true ↔ xs = ys)
  | [], [], _, _ => by simp [PyData.eqvAll]
  | [], _ :: _, _, _ => by simp [PyData.eqvAll]
  | _ :: _, [], _, _ => by simp [PyData.eqvAll]
  | x :: xs, y :: ys, h1, h2 => by
    have a : keyD x = true ∧ keyDs xs = true := by
      have z : (keyD x && keyDs xs) = true := h1
      simpa using z
    have b : keyD y = true ∧ keyDs ys = true := by
      have z : (keyD y && keyDs ys) = true := h2
      simpa using z
    show (PyData.eqv x y && PyData.eqvAll xs ys) = true ↔ _
    rw [Bool.and_eq_true, eqv_key x y a.1 b.1, eqv_keys xs ys a.2 b.2]
    simp
end
theorem dedup_mem : ∀ {xs : List PD}, (∀ x ∈ xs, keyD x = true) → ∀ x, x ∈ dedupD xs ↔ x ∈ xs
  | [], _, x => by simp [dedupD]
  | y :: r, h, x => by
    have ih := dedup_mem (xs := r) (fun z hz => h z (List.mem_cons_of_mem _ hz)) x
    unfold dedupD
    split
    · rename_i e
      obtain ⟨z, hz, e2⟩ := List.any_eq_true.mp e
      have e3 : y = z := (eqv_key y z (h y List.mem_cons_self) (h z (List.mem_cons_of_mem _ hz))).mp e2
      rw [ih, List.mem_cons]
      exact ⟨.inr, fun q => q.elim (fun q => by rw [q, e3]; exact hz) id⟩
    · rw [List.mem_cons, List.mem_cons, ih]
theorem dedup_nodup : ∀ {xs : List PD}, (∀ x ∈ xs, keyD x = true) → (dedupD xs).Nodup
  | [], _ => List.nodup_nil
  | y :: r, h => by
    have hr := fun z hz => h z (List.mem_cons_of_mem y hz)
    have ih := dedup_nodup (xs := r) hr
    unfold dedupD
    split
    · exact ih
    · rename_i e
      refine List.nodup_cons.mpr ⟨fun q => e ?_, ih⟩
      have q' := (dedup_mem hr y).mp q
      exact List.any_eq_true.mpr ⟨y, q', (eqv_key y y (h y List.mem_cons_self) (hr y q')).mpr rfl⟩
theorem sset_one {ds ys : List PD} {ks L M : KL} (e : ssetD ds = some ys) (ek : ks.map dat = ds) (ok : ∀ p ∈ ks, p.2 = nkOf (dat p)) (sub : ∀ p ∈ L, p ∈ ks) (each : ∀ p ∈ ks, p.2 ∈ L.map (·.2)) (nd : (L.map (·.2)).Nodup) (pm : M.Perm L) (pw : (M.map dat).Pairwise (fun x y => le x y = true)) : M.map dat = ys := by
  unfold ssetD at e
  split at e
  · rename_i h
    cases e
    simp only [Bool.and_eq_true, decide_eq_true_eq, List.all_eq_true] at h
    obtain ⟨⟨⟨_, hr⟩, _⟩, al⟩ := h
    have hk : ∀ d ∈ ds, keyD d = true := fun d hd => (row_key (hr d hd)).1
    have okM : ∀ p ∈ M, p ∈ ks := fun p hp => sub p (pm.mem_iff.mp hp)
    have inM : ∀ d ∈ M.map dat, d ∈ ds := fun d hd => by
      obtain ⟨p, hp, rfl⟩ := List.mem_map.mp hd
      rw [← ek]
      exact List.mem_map.mpr ⟨p, okM p hp, rfl⟩
    have ndM : (M.map dat).Nodup := by
      have z : (M.map (·.2)).Nodup := (pm.map (·.2)).nodup_iff.mpr nd
      refine List.pairwise_map.mpr (List.Pairwise.imp_of_mem (fun {p q} hp hq hne z => hne ?_) (List.pairwise_map.mp z))
      rw [ok p (okM p hp), ok q (okM q hq), z]
    have key : (M.map dat).Perm ((dedupD ds).mergeSort leD) := by
      refine List.Perm.trans ?_ (List.mergeSort_perm _ _).symm
      refine (List.perm_ext_iff_of_nodup ndM (dedup_nodup hk)).mpr fun d => ?_
      rw [dedup_mem hk d]
      refine ⟨inM d, fun hd => ?_⟩
      rw [← ek] at hd
      obtain ⟨p, hp, rfl⟩ := List.mem_map.mp hd
      obtain ⟨u, hu, eu⟩ := List.mem_map.mp (each p hp)
      refine List.mem_map.mpr ⟨u, pm.mem_iff.mpr hu, ?_⟩
      show NestedKey.data u.2 = NestedKey.data p.2
      rw [eu]
    refine one_sort (R := fun x y => le x y = true) (fun x hx y hy h1 h2 => ?_) key pw (sorted_le _)
    have kx := inM x hx
    have ky := inM y hy
    refine (eqv_key x y (hk x kx) (hk y ky)).mp (lt_both (al x kx y ky) ?_ ?_)
    · unfold le at h2; simpa using h2
    · unfold le at h1; simpa using h1
  · cases e
theorem dq_refs {H : Hp} : ∀ {M : KL}, (∀ p ∈ M, Dq H (.ref p.1) (dat p)) → DqAll H (M.map fun p => V.ref p.1) (M.map dat)
  | [], _ => .nil
  | p :: M, h => .cons (h p List.mem_cons_self) (dq_refs fun q hq => h q (List.mem_cons_of_mem _ hq))
/-! ### the nodes -/
section
variable {e : Expr} {m a b : MX} {p1 p2 p3 p4 pos : Pos}
theorem At.grow {lk : List Nat} {g g1 : Gh} {env env1 : Mi.Env} {h1 : Hx} {σ : L2.St} {H H1 : Hp} (at1 : At K T lk g env σ H g1 env1 h1 H1) {p : Addr} {o : HO} (hp : H1 p = none) : At K T lk g env σ H g1 env1 h1 (upd H1 p o) := at1.trans (lk' := lk) ⟨Fram.grow at1.rel lk hp, at1.rel.grow hp, fun _ _ z => z⟩ fun _ z => z
theorem n_sset (hc : X.calm = true) (hu : X.A.units + 64 < cLine) (hg : Gl X "sorted") (hm : X.mg "sorted" = none) (hg2 : Gl X "set") (hm2 : X.mg "set" = none) (he : PE X e (tE X.K T X.mg W F m)) (hs : starEach [e] X.env = (false, eval e X.env) :: starEach [] X.env) :
    PE X (.Call (.Name "sorted" p1) [.Call (.Name "set" p2) [e] [] p3] [] p4) (tE X.K T X.mg W F (.sset m)) := by
  refine PE.ok (pe_callB (call_sortK hc hu) hg hm (by decide +kernel) (pa_cons (pe_callTy (call_setK hc hu) hg2 hm2 (by decide +kernel) (pa_cons he pa_nil hs) (by decide) (by decide) hs (by rfl)) pa_nil)) fun lk g env h σ H Q r q => ?_
  simp only [ev] at q
  refine seq1 r q fun o env1 h1 g1 x H1 at1 v1 q1 => ?_
  split at q1
  · rename_i xs e1
    split at q1
    · rename_i ys e2
      rw [e1] at v1
      cases (show Dq _ x (.list xs) from v1) with
      | @lst l vs _ hl da =>
        have cond := e2
        unfold ssetD at cond
        split at cond
        · rename_i hcond
          simp only [Bool.and_eq_true, decide_eq_true_eq] at hcond
          obtain ⟨⟨⟨c1, c2⟩, c3⟩, c4⟩ := hcond
          obtain ⟨ks, rfl, ek, ro⟩ := rows_at da c2 fun d hd => of_decide_eq_true (List.all_eq_true.mp c3 d hd)
          have lk1 : ks.length < 64 := by rw [← ek, List.length_map] at c1; exact c1
          refine ⟨l, ks, rfl, .inl (vw_sm _ _ rfl hl), fun p hp => (ro p hp).up vw_sm, lk1, fun a L hn sub each nd => ?_⟩
          have inds : ∀ d ∈ L.map dat, d ∈ xs := fun d hd => by
            obtain ⟨p, hp, rfl⟩ := List.mem_map.mp hd
            rw [← ek]
            exact List.mem_map.mpr ⟨p, sub p hp, rfl⟩
          have al : PySem.W.AllAlike (L.map dat) := fun d hd d' hd' => List.all_eq_true.mp (List.all_eq_true.mp c4 d (inds d hd)) d' (inds d' hd')
          refine ⟨a, L, rfl, upd_same, fun p hp => ((ro p (sub p hp)).up vw_sm).up (sm_upd hn), al, fun M b pm pw hb => ?_⟩
          have em := sset_one e2 ek (fun p hp => (ro p hp).ky) sub each nd pm pw
          have got := (at1.grow (o := KO X.w a L) hn).got (ln := o.ln) q1
          refine got.lst b _ _ rfl rfl hb ?_
          rw [← em]
          exact dq_refs fun p hp => (ro p (sub p (pm.mem_iff.mp hp))).dq.up (vw_grow hn)
        · cases cond
    · exact q1.elim
  · rename_i xs e1
    split at q1
    · rename_i ys e2
      rw [e1] at v1
      cases (show Dq _ x (.tuple xs) from v1) with
      | @tup l vs _ hl da =>
        have cond := e2
        unfold ssetD at cond
        split at cond
        · rename_i hcond
          simp only [Bool.and_eq_true, decide_eq_true_eq] at hcond
          obtain ⟨⟨⟨c1, c2⟩, c3⟩, c4⟩ := hcond
          obtain ⟨ks, rfl, ek, ro⟩ := rows_at da c2 fun d hd => of_decide_eq_true (List.all_eq_true.mp c3 d hd)
          have lk1 : ks.length < 64 := by rw [← ek, List.length_map] at c1; exact c1
          refine ⟨l, ks, rfl, .inr (vw_sm _ _ rfl hl), fun p hp => (ro p hp).up vw_sm, lk1, fun a L hn sub each nd => ?_⟩
          have inds : ∀ d ∈ L.map dat, d ∈ xs := fun d hd => by
            obtain ⟨p, hp, rfl⟩ := List.mem_map.mp hd
            rw [← ek]
            exact List.mem_map.mpr ⟨p, sub p hp, rfl⟩
          have al : PySem.W.AllAlike (L.map dat) := fun d hd d' hd' => List.all_eq_true.mp (List.all_eq_true.mp c4 d (inds d hd)) d' (inds d' hd')
          refine ⟨a, L, rfl, upd_same, fun p hp => ((ro p (sub p hp)).up vw_sm).up (sm_upd hn), al, fun M b pm pw hb => ?_⟩
          have em := sset_one e2 ek (fun p hp => (ro p hp).ky) sub each nd pm pw
          have got := (at1.grow (o := KO X.w a L) hn).got (ln := o.ln) q1
          refine got.lst b _ _ rfl rfl hb ?_
          rw [← em]
          exact dq_refs fun p hp => (ro p (sub p (pm.mem_iff.mp hp))).dq.up (vw_grow hn)
        · cases cond
    · exact q1.elim
  · exact q1.elim
theorem rev_dq {H : Hp} : ∀ {vs : List V} {ds : List PD}, DqAll H vs ds → DqAll H vs.reverse ds.reverse
  | _, _, .nil => .nil
  | _, _, .cons h t => by
    rw [List.reverse_cons, List.reverse_cons]
    exact DqAll.app (rev_dq t) (.cons h .nil)
theorem n_rev {k : Nat} (he : PE X e (tE X.K T X.mg W F m)) : PE X (.Subscript e (.Slice none none (some (.UnaryOp .USub (.Constant (.int 1) k p1) p2)) p3) pos) (tE X.K T X.mg W F (.rev m)) := by
  refine PE.ok (pe_revA he) fun lk g env h σ H Q r q => ?_
  simp only [ev] at q
  refine seq1 r q fun o env1 h1 g1 x H1 at1 v1 q1 => ?_
  split at q1
  · rename_i xs e1
    rw [e1] at v1
    cases (show Dq _ x (.list xs) from v1) with
    | @lst l vs _ hl da =>
      exact ⟨l, vs, rfl, .inl ⟨SqL.of (vw_sm _ _ rfl hl), fun p hp => (at1.got (ln := o.ln) q1).lst p _ _ rfl rfl hp (rev_dq da)⟩⟩
  · rename_i xs e1
    rw [e1] at v1
    cases (show Dq _ x (.tuple xs) from v1) with
    | @tup l vs _ hl da =>
      exact ⟨l, vs, rfl, .inr ⟨SqT.of (vw_sm _ _ rfl hl), fun p hp => (at1.got (ln := o.ln) q1).tup p _ _ rfl hp (rev_dq da)⟩⟩
  · exact q1.elim
theorem n_cnt {o eb : Expr} {ap : Pos} (ho : PE X o (tE X.K T X.mg W F a)) (hb : PE X eb (tE X.K T X.mg W F b)) (hbase : attributeBase o "count" X.env (eval o X.env) = eval o X.env) (hfew : ((backTo pos (starEach [eb] X.env)).all (fun x => !x.1) && (backToKw pos (keywordEach [] X.env)).all (fun x => x.1.isSome)
      && decide ([eb].length + ([] : List Keyword).length + (if ([] : List Keyword).isEmpty then 0 else 1) < 30)) = true) (hline : (ap.endLine == pos.line) = true) (hs : starEach [eb] X.env = (false, eval eb X.env) :: starEach [] X.env) :
    PE X (.Call (.Attribute o "count" ap) [eb] [] pos) (tE X.K T X.mg W F (.cnt a b)) := by
  refine PE.ok (pe_bm PySem.F.plainAttrs_list PySem.F.slot_list_count PySem.F.type_list_count mt_lcount ho (pa_cons hb pa_nil hs) hbase hfew hline hs (by rfl)) fun lk g env h σ H Q r q => ?_
  simp only [ev] at q
  refine seq1 r q fun o env1 h1 g1 x H1 at1 v1 q1 => ?_
  split at q1
  · rename_i xs e1
    rw [e1] at v1
    cases (show Dq _ x (.list xs) from v1) with
    | @lst l vs _ hl da =>
      refine ⟨.inl ⟨rfl, vs, SqL.of (vw_sm _ _ rfl hl)⟩, ?_⟩
      refine ⟨o.ln ++ lk, g1, env1, h1, at1.rel, ?_⟩
      cases e : ev F (o.ln ++ lk) b env1 h1 with
      | no => rw [e] at q1; exact q1
      | ex c x env' h' => rw [e] at q1; exact AnsX.pre at1 mem_app_r q1
      | ok p env2 h2 =>
        rw [e] at q1
        intro g' v H' c
        obtain ⟨g2, at2, v2⟩ := c.look' at1.rel
        have k1 := at2.fr.view (ln := o.ln) mem_app_l
        simp only [R.bind] at q1
        split at q1
        · rename_i k e2
          split at q1
          · rename_i ns e3
            rw [e2] at v2
            cases (show Dq _ v (.int k) from v2) with
            | int _ =>
              have ei := intsOf_eq e3
              subst ei
              have ev' := da.ints
              subst ev'
              exact ⟨l, ns, k, rfl, rfl, SqL.of (vw_sm _ _ rfl (k1 _ _ rfl hl)), ((at1.trans at2 mem_app_r).got (ln := []) (fr := true) q1).int⟩
          · exact q1.elim
        · exact q1.elim
  · exact q1.elim
end
end Mi
/-! MiKd: own dicts whose keys are rows; sorted of lists and of such dicts; a walk over the script. -/
namespace Mi
open PySem PySem.Spec PyProof.Rows L2 Sk
variable {X : Cx} {K : PySem.W.Frag} {T : Addr → Prop} {mg : Str → Option Value} {W : WX} {F : Fns} {tp : Bool}
/-! ### keys -/
mutual
theorem hash_key (w : World) : ∀ d : PD, keyD d = true → (nkOf d).hash w = hashP d
  | .int i, _ => rfl
  | .tuple xs, h => by
    show reduceHash (Builtin.Tuple.tupleHashOf (NestedKey.hashes w (nkOfs xs))) = reduceHash (Builtin.Tuple.tupleHashOf (hashPs xs))
    rw [hash_keys w xs h]
  | .none, h => by cases h
  | .bool _, h => by cases h
  | .str _, h => by cases h
  | .list _, h => by cases h
  | .dict _, h => by cases h
theorem hash_keys (w : World) : ∀ xs : List PD, keyDs xs = true → NestedKey.hashes w (nkOfs xs) = hashPs xs
  | [], _ => rfl
  | x :: r, h => by
    have h' : keyD x = true ∧ keyDs r = true := by
      have z : (keyD x && keyDs r) = true := h
      simpa using z
    show (nkOf x).hash w :: NestedKey.hashes w (nkOfs r) = hashP x :: hashPs r
    rw [hash_key w x h'.1, hash_keys w r h'.2]
end
theorem nk_inj {x y : PD} (hx : keyD x = true) (hy : keyD y = true) (e : nkOf x = nkOf y) : x = y := by
  rw [← nk_data x hx, e, nk_data y hy]
/-! ### entries -/
abbrev EL := List (Addr × PD × V)
def xsOf (L : EL) (us : List Value) : List (NestedKey × Addr × Value) := List.zipWith (fun e u => (nkOf e.2.1, e.1, u)) L us
def putL (b : Addr) (x : PD) (v : V) (L : EL) : EL := if L.any fun e => PyData.eqv e.2.1 x then L.map fun e => if PyData.eqv e.2.1 x then (e.1, e.2.1, v) else e else L ++ [(b, x, v)]
theorem xs_mem : ∀ {L : EL} {us : List Value} {y : NestedKey × Addr × Value}, y ∈ xsOf L us → ∃ e ∈ L, y.1 = nkOf e.2.1 ∧ y.2.1 = e.1
  | [], _, y, h => by simp [xsOf] at h
  | e :: L, [], y, h => by simp [xsOf] at h
  | e :: L, u :: us, y, h => by
    rcases List.mem_cons.mp (show y ∈ (nkOf e.2.1, e.1, u) :: xsOf L us from h) with z | z
    · exact ⟨e, List.mem_cons_self, by rw [z], by rw [z]⟩
    · obtain ⟨f, hf, r⟩ := xs_mem z
      exact ⟨f, List.mem_cons_of_mem _ hf, r⟩
theorem xs_keys : ∀ {L : EL} {us : List Value}, Vals (L.map (·.2.2)) us → (xsOf L us).map (·.1) = L.map fun e => nkOf e.2.1
  | [], _, _ => rfl
  | e :: L, _, .cons r t => by
    show nkOf e.2.1 :: (xsOf L _).map (·.1) = _
    rw [xs_keys t]
    rfl
theorem xs_len {L : EL} {us : List Value} (v : Vals (L.map (·.2.2)) us) : (xsOf L us).length = L.length := by
  have := congrArg List.length (xs_keys v)
  simpa using this
theorem xs_ents (P : Program) (w : World) : ∀ {L : EL} {us : List Value}, (∀ e ∈ L, keyD e.2.1 = true) → (xsOf L us).map (entryOfKey (nestedKind P w)) = List.zipWith (fun e u => (⟨hashP e.2.1, .ref e.1, u⟩ : DictEntry)) L us
  | [], _, _ => by simp [xsOf]
  | _ :: _, [], _ => by simp [xsOf]
  | e :: L, u :: us, h => by
    show entryOfKey (nestedKind P w) (nkOf e.2.1, e.1, u) :: (xsOf L us).map _ = _
    rw [xs_ents P w fun f hf => h f (List.mem_cons_of_mem _ hf)]
    show (⟨(nkOf e.2.1).hash w, .ref e.1, u⟩ : DictEntry) :: _ = _
    rw [hash_key w _ (h e List.mem_cons_self)]
    rfl
theorem KdR.mem {Wv : Hp} : ∀ {L : EL} {kvs : List (PD × PD)}, KdR Wv L kvs → ∀ e ∈ L, Dq Wv (.ref e.1) e.2.1 ∧ rowD e.2.1 = true ∧ e.2.1.depth ≤ 8
  | _, _, .nil, e, h => by cases h
  | _, _, .cons h1 h2 h3 _ _ t, e, h => by
    rcases List.mem_cons.mp h with z | z
    · subst z
      exact ⟨h1, h2, h3⟩
    · exact KdR.mem t e z
theorem KdR.keys {Wv : Hp} : ∀ {L : EL} {kvs : List (PD × PD)}, KdR Wv L kvs → L.map (·.2.1) = kvs.map (·.1)
  | _, _, .nil => rfl
  | _, _, .cons _ _ _ _ _ t => by
    rw [List.map_cons, List.map_cons, KdR.keys t]
theorem KdR.len {Wv : Hp} {L : EL} {kvs : List (PD × PD)} (r : KdR Wv L kvs) : L.length = kvs.length := by
  have := congrArg List.length r.keys
  simpa using this
theorem KdR.row {Wv : Hp} {L : EL} {kvs : List (PD × PD)} (r : KdR Wv L kvs) : ∀ p ∈ kvs, rowD p.1 = true ∧ p.1.depth ≤ 8 := fun p hp => by
  have h : p.1 ∈ L.map (·.2.1) := by
    rw [r.keys]
    exact List.mem_map.mpr ⟨p, hp, rfl⟩
  obtain ⟨e, he, z⟩ := List.mem_map.mp h
  rw [← z]
  exact (r.mem e he).2
theorem any_atKey {L : EL} {us : List Value} {x : PD} (hL : ∀ e ∈ L, keyD e.2.1 = true) (hx : keyD x = true) (v : Vals (L.map (·.2.2)) us) : (atKey (xsOf L us) (nkOf x)).isSome = L.any fun e => PyData.eqv e.2.1 x := by
  unfold atKey
  rw [Option.isSome_map, Bool.eq_iff_iff, List.find?_isSome]
  simp only [List.any_eq_true, decide_eq_true_eq]
  constructor
  · rintro ⟨y, hy, e⟩
    obtain ⟨f, hf, e1, _⟩ := xs_mem hy
    exact ⟨f, hf, (eqv_key _ _ (hL f hf) hx).mpr (nk_inj (hL f hf) hx (e1.symm.trans e))⟩
  · rintro ⟨f, hf, e⟩
    have e' := (eqv_key _ _ (hL f hf) hx).mp e
    have hm : nkOf x ∈ (xsOf L us).map (·.1) := by
      rw [xs_keys v]
      exact List.mem_map.mpr ⟨f, hf, by rw [e']⟩
    obtain ⟨y, hy, z⟩ := List.mem_map.mp hm
    exact ⟨y, hy, z⟩
theorem map_xs {x : PD} (hx : keyD x = true) {v : V} {u : Value} (rv : RelV v u) : ∀ {L : EL} {us : List Value}, (∀ e ∈ L, keyD e.2.1 = true) → Vals (L.map (·.2.2)) us →
    ∃ us', Vals ((L.map fun e => if PyData.eqv e.2.1 x then (e.1, e.2.1, v) else e).map (·.2.2)) us' ∧ (xsOf L us).map (putAt (nkOf x) u) = xsOf (L.map fun e => if PyData.eqv e.2.1 x then (e.1, e.2.1, v) else e) us'
  | [], _, _, .nil => ⟨[], .nil, rfl⟩
  | e :: L, ue :: us, hL, .cons r t => by
    obtain ⟨us', q1, q2⟩ := map_xs hx rv (L := L) (fun f hf => hL f (List.mem_cons_of_mem _ hf)) t
    have he := hL e List.mem_cons_self
    by_cases z : PyData.eqv e.2.1 x = true
    · refine ⟨u :: us', ?_, ?_⟩
      · rw [List.map_cons, List.map_cons, if_pos z]
        exact .cons rv q1
      · show putAt (nkOf x) u (nkOf e.2.1, e.1, ue) :: (xsOf L us).map (putAt (nkOf x) u) = _
        have e' := (eqv_key _ _ he hx).mp z
        rw [q2, List.map_cons, if_pos z]
        unfold putAt
        rw [if_pos (by rw [e'])]
        rfl
    · refine ⟨ue :: us', ?_, ?_⟩
      · rw [List.map_cons, List.map_cons, if_neg z]
        exact .cons r q1
      · show putAt (nkOf x) u (nkOf e.2.1, e.1, ue) :: (xsOf L us).map (putAt (nkOf x) u) = _
        rw [q2, List.map_cons, if_neg z]
        unfold putAt
        rw [if_neg fun w => z ((eqv_key _ _ he hx).mpr (nk_inj he hx w))]
        rfl
theorem xs_app : ∀ {L : EL} {us : List Value} {b : Addr} {x : PD} {v : V} {u : Value}, Vals (L.map (·.2.2)) us → xsOf (L ++ [(b, x, v)]) (us ++ [u]) = xsOf L us ++ [(nkOf x, b, u)]
  | [], _, b, x, v, u, .nil => rfl
  | e :: L, _, b, x, v, u, .cons r t => by
    show (nkOf e.2.1, e.1, _) :: xsOf (L ++ [(b, x, v)]) (_ ++ [u]) = _
    rw [xs_app t]
    rfl
theorem vals_app : ∀ {vs : List V} {us : List Value} {v : V} {u : Value}, Vals vs us → RelV v u → Vals (vs ++ [v]) (us ++ [u])
  | _, _, _, _, .nil, r => .cons r .nil
  | _, _, _, _, .cons h t, r => .cons h (vals_app t r)
theorem put_xs {L : EL} {us : List Value} {b : Addr} {x : PD} {v : V} {u : Value} (hL : ∀ e ∈ L, keyD e.2.1 = true) (hx : keyD x = true) (vs : Vals (L.map (·.2.2)) us) (rv : RelV v u) :
    ∃ us', Vals ((putL b x v L).map (·.2.2)) us' ∧ storedH (xsOf L us) (nkOf x) b u = xsOf (putL b x v L) us' := by
  unfold storedH putL
  rw [any_atKey hL hx vs]
  by_cases z : (L.any fun e => PyData.eqv e.2.1 x) = true
  · rw [if_pos z, if_pos z]
    exact map_xs hx rv hL vs
  · rw [if_neg z, if_neg z]
    refine ⟨us ++ [u], ?_, (xs_app vs).symm⟩
    rw [List.map_append]
    exact vals_app vs rv
theorem kd_map {Wv : Hp} {x y : PD} {v : V} (dv : Dq Wv v y) (nv : noL y = true) : ∀ {L : EL} {kvs : List (PD × PD)}, KdR Wv L kvs → KdR Wv (L.map fun e => if PyData.eqv e.2.1 x then (e.1, e.2.1, v) else e) (kvs.map fun p => if PyData.eqv p.1 x then (p.1, y) else p)
  | _, _, .nil => .nil
  | _, _, .cons (x := x') h1 h2 h3 h4 h5 t => by
    rw [List.map_cons, List.map_cons]
    by_cases z : PyData.eqv x' x = true
    · rw [if_pos z, if_pos z]
      exact .cons h1 h2 h3 dv nv (kd_map dv nv t)
    · rw [if_neg z, if_neg z]
      exact .cons h1 h2 h3 h4 h5 (kd_map dv nv t)
theorem kd_app {Wv : Hp} {b : Addr} {x y : PD} {v : V} (dx : Dq Wv (.ref b) x) (rx : rowD x = true) (px : x.depth ≤ 8) (dv : Dq Wv v y) (nv : noL y = true) : ∀ {L : EL} {kvs : List (PD × PD)}, KdR Wv L kvs → KdR Wv (L ++ [(b, x, v)]) (kvs ++ [(x, y)])
  | _, _, .nil => .cons dx rx px dv nv .nil
  | _, _, .cons h1 h2 h3 h4 h5 t => .cons h1 h2 h3 h4 h5 (kd_app dx rx px dv nv t)
theorem KdR.any {Wv : Hp} {x : PD} : ∀ {L : EL} {kvs : List (PD × PD)}, KdR Wv L kvs → (L.any fun e => PyData.eqv e.2.1 x) = kvs.any fun p => PyData.eqv p.1 x
  | _, _, .nil => rfl
  | _, _, .cons _ _ _ _ _ t => by
    rw [List.any_cons, List.any_cons, KdR.any t]
theorem KdR.put {Wv : Hp} {b : Addr} {x y : PD} {v : V} (dx : Dq Wv (.ref b) x) (rx : rowD x = true) (px : x.depth ≤ 8) (dv : Dq Wv v y) (nv : noL y = true) {L : EL} {kvs : List (PD × PD)} (r : KdR Wv L kvs) : KdR Wv (putL b x v L) (putKd x y kvs) := by
  unfold putL putKd
  rw [r.any]
  by_cases z : (kvs.any fun p => PyData.eqv p.1 x) = true
  · rw [if_pos z, if_pos z]
    exact kd_map dv nv r
  · rw [if_neg z, if_neg z]
    exact kd_app dx rx px dv nv r
theorem put_keys (x y : PD) : ∀ kvs : List (PD × PD), (kvs.map fun p => if PyData.eqv p.1 x then (p.1, y) else p).map (·.1) = kvs.map (·.1)
  | [] => rfl
  | p :: r => by
    rw [List.map_cons, List.map_cons, List.map_cons, put_keys x y r]
    congr 1
    split <;> rfl
theorem KdOk.put {Wv : Hp} {L : EL} {kvs : List (PD × PD)} {x y : PD} (rx : rowD x = true) (r : KdR Wv L kvs) (k : KdOk kvs) (hl : kvs.length < 60) : KdOk (putKd x y kvs) := by
  unfold putKd
  by_cases z : (kvs.any fun p => PyData.eqv p.1 x) = true
  · rw [if_pos z]
    exact ⟨by rw [put_keys]; exact k.1, by rw [List.length_map]; exact k.2⟩
  · rw [if_neg z]
    refine ⟨?_, by rw [List.length_append]; exact hl⟩
    rw [List.map_append, List.nodup_append]
    refine ⟨k.1, by simp, fun a ha b hb e => z ?_⟩
    obtain ⟨p, hp, rfl⟩ := List.mem_map.mp ha
    have hb' : b = x := by simpa using hb
    rw [hb'] at e
    exact List.any_eq_true.mpr ⟨p, hp, (eqv_key _ _ (row_key (r.row p hp).1).1 (row_key rx).1).mpr e⟩
/-! ### the object -/
theorem do_new {P : Program} {w : World} {H : Hp} {h : Heap} {a : Addr} {L : EL} {us : List Value} (sm : (a == sysModules) = false) (hL : ∀ e ∈ L, keyD e.2.1 = true) (v : Vals (L.map (·.2.2)) us) (D : h.DictOfH (nestedKind P w) a (xsOf L us)) : ObjOk P w H h a (DO a L) := by
  obtain ⟨o, es, ep, ho, hx, hd, he, _, _⟩ := D
  refine ⟨⟨sm, us, v, o, es, ep, ho, hx, hd, by rw [he, xs_ents P w hL]⟩, ⟨o, ho⟩, fun h1 h2 p k => ?_⟩
  obtain ⟨p0, us', p1, o', es', ep', p2, p3⟩ := p
  exact ⟨p0, us', p1, o', es', ep', k o' p2, p3⟩
theorem do_dict {pins : List (Addr × Obj)} {σ : L2.St} {H : Hp} {s : Shared} (I : Inv X pins σ H s) {a : Addr} {L : EL} {kvs : List (PD × PD)} (ha : H a = some (DO a L)) (r : KdR H L kvs) (k : KdOk kvs) :
    (a == sysModules) = false ∧ ∃ us, Vals (L.map (·.2.2)) us ∧ s.heap.DictOfH (nestedKind X.prog X.w) a (xsOf L us) := by
  obtain ⟨sm, us, v, o, es, ep, ho, hx, hd, he⟩ := (I.hok a _ ha).1
  have hL : ∀ e ∈ L, keyD e.2.1 = true := fun e h => (row_key (r.mem e h).2.1).1
  refine ⟨sm, us, v, o, es, ep, ho, hx, hd, by rw [he, xs_ents X.prog X.w hL], fun y hy => ?_, ?_⟩
  · obtain ⟨e, he, e1, e2⟩ := xs_mem hy
    obtain ⟨q1, q2, q3⟩ := r.mem e he
    rw [e1, e2]
    exact ⟨dq_key I q1 (row_key q2).1 rfl, Nat.le_trans (nk_depth _) q3⟩
  · rw [xs_keys v]
    have nd : (L.map (·.2.1)).Nodup := by rw [r.keys]; exact k.1
    refine List.pairwise_map.mpr (List.Pairwise.imp_of_mem (fun {p q} hp hq hne z => hne ?_) (List.pairwise_map.mp nd))
    exact nk_inj (hL p hp) (hL q hq) z
theorem do_lt {P : Program} {w : World} {H : Hp} {h : Heap} {a : Addr} {L : EL} (o : ObjOk P w H h a (DO a L)) : ∃ q, h.get? a = some q := o.2.1
theorem dk_sys (h : Heap) (hb : 100 < h.objs.size) : (h.objs.size == sysModules) = false := by
  rw [beq_eq_false_iff_ne]
  intro z
  rw [z] at hb
  exact absurd hb (by decide)
end Mi
/-! MiKe: the nodes {}, x[k] = e (a dict by rows), sorted(e), a walk over the script. -/
namespace Mi
open PySem PySem.Spec PyProof.Rows L2 Sk
variable {X : Cx} {K : PySem.W.Frag} {T : Addr → Prop} {mg : Str → Option Value} {W : WX} {F : Fns} {tp : Bool}
/-! ### {} -/
def tDNewR : TE := fun _ H Q => ∀ p, H p = none → Q (.ref p) (upd H p (DO p []))
theorem pe_dnewR {pos : Pos} : PE X (.Dict [] [] pos) tDNewR := ⟨fun pins s σ H Q I h =>
  wpAny_Dict_empty ⟨.ref s.heap.objs.size, _, I.laid (a := s.heap.objs.size) (o := DO s.heap.objs.size []) (t' := s.toks) (fun _ _ q => Heap.get?_push_of_some _ q) (Nat.le_refl _)
    (do_new (P := X.prog) (w := X.w) (us := []) (beq_eq_false_iff_ne.mpr (Ne.symm (Nat.ne_of_lt I.big))) (by simp) .nil (Heap.DictOfH.new s.heap)), rfl, h _ (I.hok.fresh (Nat.le_refl _))⟩⟩
theorem n_dnew {pos : Pos} : PE X (.Dict [] [] pos) (tE X.K T X.mg W F .dnew) := by
  refine PE.ok pe_dnewR fun lk g env h σ H Q r q => ?_
  simp only [ev] at q
  intro p hp
  have f := r.fresh hp
  refine q (g.add p) _ _ ⟨Fram.growO r lk hp, r.growO hp rfl, fun _ _ z => z, fun kvs z => (by cases z), ?_⟩
  rw [if_pos (by rfl)]
  exact ⟨p, rfl, hp, add_O.mpr (.inr rfl), f.2.2.1, f.2.2.2, [], upd_same, .nil, ⟨List.nodup_nil, Nat.zero_le _⟩⟩
/-! ### stores -/
def rSetKd (o i v : V) (H : Hp) (Q : Hp → Prop) : Prop := ∃ (a : Addr) (L : EL) (kvs : List (PD × PD)) (b : Addr) (x : PD), o = .ref a ∧ i = .ref b ∧ H a = some (DO a L) ∧ KdR H L kvs ∧ KdOk kvs ∧ Dq H (.ref b) x ∧ rowD x = true ∧ x.depth ≤ 8 ∧ Q (upd H a (DO a (putL b x v L)))
theorem putL_key {b : Addr} {x : PD} {v : V} {L : EL} (hL : ∀ e ∈ L, keyD e.2.1 = true) (hx : keyD x = true) : ∀ e ∈ putL b x v L, keyD e.2.1 = true := fun e he => by
  unfold putL at he
  split at he
  · obtain ⟨f, hf, rfl⟩ := List.mem_map.mp he
    split
    · exact hL f hf
    · exact hL f hf
  · rcases List.mem_append.mp he with z | z
    · exact hL e z
    · rw [List.mem_singleton.mp z]
      exact hx
theorem set_K (hu : X.A.units + 16 < cLine) : PSet X rSetKd := by
  intro pins s σ H o i v ov iv u Q I ro ri rv h
  obtain ⟨a, L, kvs, b, x, rfl, rfl, ha, hr, hk, dx, rx, px, q⟩ := h
  cases (show ov = Value.ref a from ro)
  cases (show iv = Value.ref b from ri)
  obtain ⟨sm, us, vs, dd⟩ := do_dict I ha hr hk
  have hL : ∀ e ∈ L, keyD e.2.1 = true := fun e h => (row_key (hr.mem e h).2.1).1
  have hx := (row_key rx).1
  have hlen : (xsOf L us).length ≤ sizeLine := by
    rw [xs_len vs, hr.len, sizeLine_eq]
    have := hk.2
    omega
  obtain ⟨us', vs', e⟩ := put_xs (b := b) hL hx vs rv
  refine wpAny_setItem_heap (knd := nestedKind X.prog X.w) (k := nkOf x) (hsz := hlen) (show X.A.in1.units + 8 < cLine from by show X.A.units + 1 + 8 < cLine; omega) ⟨dq_key I dx hx rfl, Nat.le_trans (nk_depth x) px⟩ dd fun h' dd' hs => ?_
  have he : ∃ q, h'.get? a = some q := let ⟨q, _, _, hq, _⟩ := dd'; ⟨q, hq⟩
  rw [e] at dd'
  exact ⟨_, d_write I (by rw [ha]; exact True.intro) hs he (do_new sm (putL_key hL hx) vs' dd'), q⟩
mutual
theorem key_noL : ∀ x : PD, keyD x = true → noL x = true
  | .int i, _ => rfl
  | .tuple xs, h => by
    show noLs xs = true
    exact keys_noL xs h
  | .none, h => by cases h
  | .bool _, h => by cases h
  | .str _, h => by cases h
  | .list _, h => by cases h
  | .dict _, h => by cases h
theorem keys_noL : ∀ xs : List PD, keyDs xs = true → noLs xs = true
  | [], _ => rfl
  | x :: r, h => by
    have h' : keyD x = true ∧ keyDs r = true := by
      have z : (keyD x && keyDs r) = true := h
      simpa using z
    show (noL x && noLs r) = true
    rw [key_noL x h'.1, keys_noL r h'.2]
    rfl
end
theorem row_noL {x : PD} (h : keyD x = true) : noL x = true := key_noL x h
theorem all_noL : ∀ {xs : List PD}, (∀ x ∈ xs, noL x = true) → noLs xs = true
  | [], _ => rfl
  | x :: r, h => by
    show (noL x && noLs r) = true
    rw [h x List.mem_cons_self, all_noL fun y hy => h y (List.mem_cons_of_mem _ hy)]
    rfl
theorem rows_noL {ds ys : List PD} (e : srtD ds = some ys) : noLs ys = true := by
  unfold srtD at e
  split at e
  · rename_i h
    cases e
    simp only [Bool.and_eq_true, decide_eq_true_eq, List.all_eq_true] at h
    obtain ⟨⟨⟨_, hr⟩, _⟩, _⟩ := h
    exact all_noL fun x hx => row_noL (row_key (hr x ((List.mergeSort_perm _ _).mem_iff.mp hx))).1
  · cases e
section
variable {e k : Expr} {m mk : MX} {pos tpos np : Pos} {i : Nat} {x : Str}
theorem n_setK (hu : X.A.units + 16 < cLine) (hN : X.N[i]? = some x) (hv : Vis X.env.scope x) (hd : (x == ("__debug__" : Str)) = false) (hcd : (x == ("__classdict__" : Str)) = false) (he : PE X e (tE X.K T X.mg W F m)) (hk : PE X k (tE X.K T X.mg W F mk))
    (ha : ∀ v, assign (.Subscript (.Name x np) k tpos) X.env v = (do
      let ov ← holding [v] (eval (.Name x np) X.env)
      let iv ← holding [v, ov] (eval k X.env)
      standAt tpos
      holding [v, ov, iv] (setItem ov iv v)
      release [v, ov, iv] []))
    (hs : swapsWithSole [.Subscript (.Name x np) k tpos] e pos.line X.env = pure false) (hw : swappedStores [.Subscript (.Name x np) k tpos] e X.env = pure none) (h1 : (assignEach [.Subscript (.Name x np) k tpos] X.env).map (·.2) = [assign (.Subscript (.Name x np) k tpos) X.env]) :
    PS X (.Assign [.Subscript (.Name x np) k tpos] e pos) (tS X.K T X.mg W F tp (.setK i mk m)) := by
  refine PS.ok (ps_asg he (pg_sub (pe_var hN hv hd hcd) hk (set_K hu) ha) hs hw h1) fun lk g env h σ H D tq r q => ?_
  simp only [exS] at q
  refine seqS r q fun o env1 h1 g1 v H1 c q1 => ?_
  split at q1
  · rename_i hb
    obtain ⟨ov, eo⟩ := bound_get (lk := lk) c.rel hb
    refine ⟨ov, eo, ?_⟩
    obtain ⟨g1', at1, v1⟩ := c.look' r
    refine seqS2 at1 (lk' := o.ln ++ lk) mem_app_r q1 fun p env2 h2 g2 w H2 c2 q2 => ?_
    split at q2
    · exact q2.elim
    · rename_i hlk
      have hi : i ∉ lk := by simpa using hlk
      obtain ⟨g2', at2, v2⟩ := c2.look' at1.rel
      have at3 := (at1.trans at2 mem_app_r).ats
      have v1' := v1.grow (at2.fr.view mem_app_l) at2.fr.pre
      unfold setKV at q2
      split at q2
      · rename_i kvs key y es ek ey
        split at q2
        · rename_i hc
          simp only [Bool.and_eq_true, decide_eq_true_eq] at hc
          obtain ⟨⟨⟨b1, b2⟩, b3⟩, b4⟩ := hc
          obtain ⟨a, f1, f2, ⟨L, f3, f4, f5⟩, _⟩ := at3.rel.own i _ es
          rw [eo] at f1
          cases f1
          rw [ek] at v2
          rw [ey] at v1'
          have dk : Dq (fz g2'.O H2) w key := Dq.noL (no_tup at3.rel) v2 (row_noL (row_key b1).1)
          have dy : Dq (fz g2'.O H2) v y := Dq.noL (no_tup at3.rel) v1' b3
          obtain ⟨_, z, zs, rfl⟩ := row_key b1
          cases dk with
          | @tup b ws _ hb db =>
            have dk : Dq (fz g2'.O H2) (.ref b) (.tuple (z :: zs)) := .tup hb db
            have r4 : KdR H2 L kvs := f4.up fz_sm
            refine ⟨a, L, kvs, b, .tuple (z :: zs), rfl, rfl, f3, r4, f5, dk.up fz_sm, b1, b2, ?_⟩
            exact q2 _ _ _ (at3.own_updG r hi ⟨⟨_, es⟩, eo⟩ (fun _ z => by cases z) rfl ⟨_, upd_same, KdR.put dk b1 b2 dy b3 f4, KdOk.put b1 f4 f5 b4⟩)
        · exact q2.elim
      · exact q2.elim
  · exact q1.elim
end
/-! ### sorted -/
section
variable {P : Program} {w : World} {A : Around} {E : Value → Shared → Prop} {s : Shared}
theorem sorted_of {a : Addr} {M : KL} {Q : Value → Shared → Prop} (few : M.length < 64)
    (col : ∀ R : List Value → Shared → Prop, (∀ h' tk, (∀ b o, s.heap.get? b = some o → h'.get? b = some o) → R (M.map fun p => Value.ref p.1) { s with heap := h', toks := tk }) → wpAny (model P w) A.in1 (collect (.ref a)) R (fun _ _ => False) s)
    (rd : ∀ p ∈ M, ∃ as, Reads s.heap (.ref p.1) (dat p) as) (al : PySem.W.AllAlike (M.map dat)) (so : PySem.W.Sortable (M.map dat)) (hu : ∀ p ∈ M, A.units + 3 + (dat p).depth < cLine)
    (q : ∀ s' b (c : Nat) (N : KL), (∀ b o, s.heap.get? b = some o → s'.heap.get? b = some o) → s'.gens = s.gens → s'.os = s.os → s.heap.get? b = none → s'.heap.get? b = some (seqObj "list" (N.map fun p => Value.ref p.1).toArray c) → N.Perm M → (N.map dat).Pairwise (fun x y => le x y = true) → Q (.ref b) s') :
    wpAny (model P w) A (call (.builtin "sorted") [.ref a]) Q E s := by
  refine Calls.call_function_entry kind_sorted plain_sorted entry_sorted (args_sorted1 _) ?_
  unfold Builtin.«sorted»
  refine wpAny_bind (m := checkCount "sorted" 1 1 _) (wpAny_pure ?_)
  refine wpAny_bind (wpAny_mono (col _ fun h' tk k1 => ?_) (fun _ _ z => z) (fun _ _ z => z.elim))
  refine wpAny_bind (wpAny_newList ?_ (by rw [List.length_map, sizeLine_eq]; omega))
  have hoL : (h'.push (seqObj "list" (M.map fun p => Value.ref p.1).toArray 0)).get? h'.objs.size = some (seqObj "list" (M.map fun p => Value.ref p.1).toArray 0) := Heap.get?_push_size _ rfl
  have none1 : s.heap.get? h'.objs.size = none := by
    cases z : s.heap.get? h'.objs.size with
    | none => rfl
    | some u => exact absurd (Heap.lt_size (k1 _ _ z)) (Nat.lt_irrefl _)
  have rdM : ∀ p ∈ M, ∃ as, Reads s.heap (.ref p.1) (dat p) as ∧ ∀ b ∈ as, s.heap.get? b ≠ none := fun p hp => by
    obtain ⟨as, r⟩ := rd p hp
    refine ⟨as, r, fun b hb z => ?_⟩
    obtain ⟨u, e⟩ := PyProof.On.reads_mem_get r b hb
    rw [z] at e
    cases e
  have kk : ∀ b u, s.heap.get? b = some u → (h'.push (seqObj "list" (M.map fun p => Value.ref p.1).toArray 0)).get? b = some u := fun b u e => Heap.get?_push_of_some _ (k1 b u e)
  refine wpAny_bind (wpAny_holding (PySem.W.list_sort_data (s := { s with heap := h'.push (seqObj "list" (M.map fun p => Value.ref p.1).toArray 0), toks := tk }) (enc := dat) (R := fun v p => v = Value.ref p.1) hoL (each_refs (h := s.heap) M) (each_reads M rdM _ none1 _ kk) al so (by rw [sizeLine_eq]; omega) (fun p hp => by
    have z := hu p hp
    show A.units + 1 + 1 + (dat p).depth < cLine
    omega) fun out hlen ho => ?_))
  have e2 := refs_back ho
  obtain ⟨c, hc⟩ := sortedHeap_at (vs := M.map fun p => Value.ref p.1) (out := out.toArray) hoL
  refine wpAny_pure ⟨_, rfl, q _ h'.objs.size c (M.mergeSort (PySem.W.dataLe false dat)) (fun b u e => ?_) rfl rfl none1 (by rw [← e2]; exact hc) (List.mergeSort_perm _ _) ?_⟩
  · have lt := Heap.lt_size (k1 b u e)
    show (sortedHeap (h'.push (seqObj "list" (M.map fun p => Value.ref p.1).toArray 0)) h'.objs.size (M.map fun p => Value.ref p.1) out.toArray).get? b = some u
    rw [sortedHeap_old (Nat.ne_of_lt lt) (by rw [size_push']; exact Nat.lt_succ_of_lt lt)]
    exact kk b u e
  · rw [List.pairwise_map]
    exact List.pairwise_mergeSort (le := PySem.W.dataLe false dat) (fun x y z h1 h2 => le_trans (dat x) (dat y) (dat z) h1 h2) (fun x y => le_total (dat x) (dat y)) M
end
def rSrt (vs : List V) (H : Hp) (Q : VK) : Prop := ∃ (a : Addr) (ks : KL), vs = [V.ref a] ∧ (H a = some (.lst (ks.map fun p => V.ref p.1)) ∨ ∃ (L : EL), H a = some (DO a L) ∧ ks = L.map fun e => (e.1, nkOf e.2.1)) ∧ (∀ p ∈ ks, RowAt H p (dat p)) ∧ ks.length < 64 ∧ PySem.W.AllAlike (ks.map dat) ∧
  ∀ (M : KL) (b : Addr), M.Perm ks → (M.map dat).Pairwise (fun x y => le x y = true) → H b = none → Q (.ref b) (upd H b (.lst (M.map fun p => V.ref p.1)))
theorem zip_keys : ∀ {L : EL} {us : List Value}, Vals (L.map (·.2.2)) us → (List.zipWith (fun e u => (⟨hashP e.2.1, .ref e.1, u⟩ : DictEntry)) L us).map (fun z : DictEntry => z.key) = L.map fun e => Value.ref e.1
  | [], _, _ => rfl
  | e :: L, u :: us, .cons r t => by
    show Value.ref e.1 :: (List.zipWith _ L us).map (fun z : DictEntry => z.key) = _
    rw [zip_keys t]
    rfl
theorem items_keys {es : Array DictEntry} {acc : Array Value} (h : ItemsOf (fun i v => ∃ hi : i < es.size, v = es[i].key) acc es.size) : acc.toList = es.toList.map (fun z : DictEntry => z.key) := by
  obtain ⟨h1, h2⟩ := h
  refine List.ext_getElem? fun i => ?_
  rw [Array.getElem?_toList, List.getElem?_map, Array.getElem?_toList]
  cases e : acc[i]? with
  | none =>
    have : es[i]? = none := by
      rw [Array.getElem?_eq_none_iff] at e ⊢
      omega
    rw [this]
    rfl
  | some v =>
    obtain ⟨hi, rfl⟩ := h2 i v e
    rw [Array.getElem?_eq_getElem hi]
    rfl
theorem call_srt (hc : X.calm = true) (hu : X.A.units + 64 < cLine) : CallR X (.builtin "sorted") rSrt := by
  intro pins s σ H vs us Q I r h
  obtain ⟨a, ks, rfl, ha, hk, few, al, q⟩ := h
  rw [Vals.ref1 r]
  have rd : ∀ p ∈ ks, ∃ as, Reads s.heap (.ref p.1) (dat p) as := fun p hp => L2.Dp.reads I _ _ _ (hk p hp).dq.dp rfl
  refine sorted_of (P := X.prog) (w := X.w) (M := ks) few (fun R hR => ?_) rd al (.inl fun d hd => ?_) (fun p hp => by have := (hk p hp).dp; omega) fun s' b c M k g1 o1 hb hbl pm pw => ?_
  · rcases ha with ha | ⟨L, ha, rfl⟩
    · obtain ⟨its, rv, ⟨o, n, ho, hcl, _, hd⟩, hz⟩ := I.list (SqL.of ha)
      refine wpAny_collect_seq (hsz := by rw [List.size_toArray, ← rv.length]; exact hz) a (.inl rfl) ho hcl hd fun h' k1 => ?_
      have e : its.toArray.toList = ks.map fun p => Value.ref p.1 := by simpa using refs_vals rv
      rw [e]
      exact hR h' s.toks k1
    · obtain ⟨sm, us, v, o, es, ep, ho, hx, hd, he⟩ := (I.hok a _ ha).1
      have hz : es.size ≤ sizeLine := by
        have e1 : es.size = L.length := by
          have := congrArg List.length (zip_keys v)
          rw [← he] at this
          simpa using this
        rw [e1, sizeLine_eq]
        rw [List.length_map] at few
        omega
      refine PySem.W.kdu_collect (KdlSrc.rawDict sm) (I.ok.hd hc) ⟨o, ho, hx, hd⟩ hz fun h' tk acc k1 it => ?_
      rw [items_keys it, he, zip_keys v]
      have := hR h' tk k1
      rw [List.map_map] at this
      exact this
  · obtain ⟨p, hp, rfl⟩ := List.mem_map.mp hd
    exact (row_key (hk p hp).row).2
  · have few' : (M.map fun p => V.ref p.1).length ≤ sizeLine := by rw [List.length_map, pm.length_eq, sizeLine_eq]; omega
    have hn : H b = none := I.hok.gone hb
    have J : Inv X pins σ (upd H b (.lst (M.map fun p => V.ref p.1))) { s with heap := s'.heap, gens := s'.gens, drawn := s'.drawn, toks := s'.toks } :=
      I.call (ch := []) (Un.laidN k hb hn) (I.hok.laidN k hn ⟨few', _, c, vals_refs M, hbl⟩) (by rw [g1]; exact I.bare) (fun _ z => nomatch z)
    have e : s' = { s with heap := s'.heap, gens := s'.gens, drawn := s'.drawn, toks := s'.toks } := by
      cases s'
      cases s
      cases o1
      rfl
    rw [e]
    exact ⟨.ref b, _, J, rfl, q M b pm pw hn⟩
theorem srt_one {ds ys : List PD} {ks M : KL} (e : srtD ds = some ys) (ek : ks.map dat = ds) (pm : M.Perm ks) (pw : (M.map dat).Pairwise (fun x y => le x y = true)) : M.map dat = ys := by
  unfold srtD at e
  split at e
  · rename_i h
    cases e
    simp only [Bool.and_eq_true, decide_eq_true_eq, List.all_eq_true] at h
    obtain ⟨⟨⟨_, hr⟩, _⟩, al⟩ := h
    have key : (M.map dat).Perm (ds.mergeSort leD) := by
      refine List.Perm.trans ?_ (List.mergeSort_perm _ _).symm
      rw [← ek]
      exact pm.map dat
    have inM : ∀ d ∈ M.map dat, d ∈ ds := fun d hd => by
      rw [← ek]
      exact (pm.map dat).mem_iff.mp hd
    refine one_sort (R := fun x y => le x y = true) (fun x hx y hy h1 h2 => ?_) key pw (sorted_le _)
    have kx := inM x hx
    have ky := inM y hy
    refine (eqv_key x y (row_key (hr x kx)).1 (row_key (hr y ky)).1).mp (lt_both (al x kx y ky) ?_ ?_)
    · unfold le at h2; simpa using h2
    · unfold le at h1; simpa using h1
  · cases e
theorem KdR.ks {Wv : Hp} {L : EL} {kvs : List (PD × PD)} (r : KdR Wv L kvs) : (L.map fun e => (e.1, nkOf e.2.1) : KL).map dat = kvs.map (·.1) ∧ ∀ p ∈ (L.map fun e => (e.1, nkOf e.2.1) : KL), RowAt Wv p (dat p) := by
  have one : ∀ e ∈ L, RowAt Wv (e.1, nkOf e.2.1) e.2.1 := fun e he => let ⟨a, b, c⟩ := r.mem e he; ⟨a, b, c, rfl⟩
  refine ⟨?_, fun p hp => ?_⟩
  · rw [← r.keys, List.map_map]
    exact List.map_congr_left fun e he => (one e he).data
  · obtain ⟨e, he, rfl⟩ := List.mem_map.mp hp
    rw [(one e he).data]
    exact one e he
section
variable {e : Expr} {m : MX} {p1 p4 : Pos}
theorem n_srt (hc : X.calm = true) (hu : X.A.units + 64 < cLine) (hg : Gl X "sorted") (hm : X.mg "sorted" = none) (he : PE X e (tE X.K T X.mg W F m)) (hs : starEach [e] X.env = (false, eval e X.env) :: starEach [] X.env) :
    PE X (.Call (.Name "sorted" p1) [e] [] p4) (tE X.K T X.mg W F (.srt m)) := by
  refine PE.ok (pe_callB (call_srt hc hu) hg hm (by decide +kernel) (pa_cons he pa_nil hs) (he := hs)) fun lk g env h σ H Q r q => ?_
  simp only [ev] at q
  refine seq1 r q fun o env1 h1 g1 x H1 at1 v1 q1 => ?_
  split at q1
  · rename_i xs e1
    split at q1
    · rename_i ys e2
      rw [e1] at v1
      cases (show Dq _ x (.list xs) from v1) with
      | @lst l vs _ hl da =>
        have cond := e2
        unfold srtD at cond
        split at cond
        · rename_i hcond
          simp only [Bool.and_eq_true, decide_eq_true_eq] at hcond
          obtain ⟨⟨⟨c1, c2⟩, c3⟩, c4⟩ := hcond
          obtain ⟨ks, rfl, ek, ro⟩ := rows_at da c2 fun d hd => of_decide_eq_true (List.all_eq_true.mp c3 d hd)
          have lk1 : ks.length < 64 := by rw [← ek, List.length_map] at c1; exact c1
          have al : PySem.W.AllAlike (ks.map dat) := fun d hd d' hd' => by
            rw [ek] at hd hd'
            exact List.all_eq_true.mp (List.all_eq_true.mp c4 d hd) d' hd'
          refine ⟨l, ks, rfl, .inl (vw_sm _ _ rfl hl), fun p hp => (ro p hp).up vw_sm, lk1, al, fun M b pm pw hb => ?_⟩
          have em := srt_one e2 ek pm pw
          have got := at1.got (ln := o.ln) q1
          refine got.lst b _ _ rfl rfl hb ?_
          rw [← em]
          exact dq_refs fun p hp => (ro p (pm.mem_iff.mp hp)).dq
        · cases cond
    · exact q1.elim
  · rename_i kvs e1
    split at q1
    · rename_i ys e2
      rw [e1] at v1
      obtain ⟨l, L, rfl, hl, hr, hk⟩ := v1
      have cond := e2
      unfold srtD at cond
      split at cond
      · rename_i hcond
        simp only [Bool.and_eq_true, decide_eq_true_eq] at hcond
        obtain ⟨⟨⟨c1, c2⟩, c3⟩, c4⟩ := hcond
        obtain ⟨ek, ro⟩ := hr.ks
        have lk1 : (L.map fun e => (e.1, nkOf e.2.1) : KL).length < 64 := by rw [List.length_map, hr.len]; rw [List.length_map] at c1; exact c1
        have al : PySem.W.AllAlike ((L.map fun e => (e.1, nkOf e.2.1) : KL).map dat) := fun d hd d' hd' => by
          rw [ek] at hd hd'
          exact List.all_eq_true.mp (List.all_eq_true.mp c4 d hd) d' hd'
        refine ⟨l, _, rfl, .inr ⟨L, vw_sm _ _ rfl hl, rfl⟩, fun p hp => (ro p hp).up vw_sm, lk1, al, fun M b pm pw hb => ?_⟩
        have em := srt_one e2 ek pm pw
        have dqs : DqAll (g1.vw env1 σ o.ln H1) (M.map fun p => V.ref p.1) ys := by
          rw [← em]
          exact dq_refs fun p hp => (ro p (pm.mem_iff.mp hp)).dq
        have q2 : ∀ g' v H', CE X.K T lk g env σ H ⟨.d (.list ys), true, lnOf (.d (.list ys)) true o.ln⟩ g' env1 h1 v H' → Q v H' := fun g' v H' ce => q1 g' v H' ⟨ce.fr, ce.rel, ce.own, ?_⟩
        · exact (at1.got (ln := o.ln) q2).lst b _ _ rfl rfl hb dqs
        · have ce2 := ce.out
          refine ⟨fun _ z => (by cases z), ?_⟩
          have z := ce2.2
          rw [if_pos (by rfl)] at z ⊢
          obtain ⟨p, a1, a2, a3, a4, a5, vs', a6, a7⟩ := z
          refine ⟨p, a1, a2, a3, a4, a5, vs', a6, ?_⟩
          rw [vw_nil]
          exact DqAll.noL (no_tup ce.rel) a7 (rows_noL e2)
      · cases cond
    · exact q1.elim
  · exact q1.elim
end
/-! ### the script's numbers, walked -/
theorem i_scrI {tg : Expr} {i : Nat} {x : Str} {np : Pos} (hN : X.N[i]? = some x) (hv : Vis X.env.scope x) (hd : (x == ("__debug__" : Str)) = false) (hcd : (x == ("__classdict__" : Str)) = false) : PI X tg (.Name x np) (tI X.K T X.mg W F (.scrI i)) := by
  refine PI.imp (pi_list (pe_var hN hv hd hcd)) fun σ H Q ⟨lk, g, env, h, r, q⟩ => ?_
  simp only [evi] at q
  split at q
  · rename_i xs b e
    have hb : b = false := by
      cases b with
      | false => rfl
      | true =>
        obtain ⟨a, _, _, z, _⟩ := r.own i _ e
        exact z.elim
    subst hb
    obtain ⟨u, e1, a, hs, rfl⟩ := r.slot i _ e
    have up : ∀ {g' : Gh} {env' : Mi.Env} {h' : Hx} {σ' : L2.St} {H' : Hp}, AtS X.K T ([] ++ lk) (g.cut (lnB env σ (frzI (xs.map PyData.int) []))) (Mi.frz (frzI (xs.map PyData.int) []) env) σ H g' env' h' σ' H' → SqL X.K H' a (xs.map V.int) := fun a' => by
      have z := a'.fr.view0
      rw [cut_view] at z
      refine SqL.upS fz_sm (SqL.upS z (SqL.upS (fun b o _ w => ?_) hs))
      obtain ⟨w1, w2⟩ := fz_some.mp w
      exact vw_some.mpr ⟨.inl w1, w2⟩
    refine ⟨_, e1, a, rfl, ⟨_, SqL.upS fz_sm hs⟩, q _ _ _ r.at ⟨fun g' env' h' σ' H' j y a' hx => ?_, fun g' env' h' σ' H' j a' hx => ⟨_, up a', ?_⟩⟩⟩
    · rw [List.getElem?_map] at hx
      cases ej : xs[j]? with
      | none => rw [ej] at hx; cases hx
      | some n =>
        rw [ej] at hx
        cases hx
        have ev : (xs.map V.int)[j]? = some (.int n) := by rw [List.getElem?_map, ej]; rfl
        refine ⟨⟨_, _, up a', ev⟩, fun v H2 y => ?_⟩
        obtain ⟨rfl, y⟩ := y
        have := y _ (up a')
        rw [ev] at this
        cases this
        exact ⟨.int n, a'.rel.ats⟩
    · rw [hx, List.length_map, List.length_map]
      exact Nat.le_refl _
  · exact q.elim
end Mi
/-! MiZc: a checker: an expression of the text stands as an expression of the small language. -/
namespace Mi
open PySem PySem.Spec PyProof.Rows L2 GxR

/-- a call's pattern: the def's name and number, how many values by place, the keywords, the order -/
structure Pt where
  x : Str
  f : Nat
  n : Nat
  ks : List Str
  perm : List Nat
  deriving DecidableEq
structure Cfg where
  N : List Str
  kd : List (Str × NameKind)
  pats : List Pt
  cls : List Str
  bare : List Str
  /-- all names may be stored -/
  fnAll : Bool
  /-- captured names that may be stored -/
  fnL : List Str
  gen : Bool
  /-- repr may be called -/
  rp : Bool
  /-- levels of room above the calls -/
  lv : Nat
structure Good (c : Cfg) (X : Cx) (T : Addr → Prop) (W : WX) (F : Fns) : Prop where
  calm : X.calm = true
  eN : X.N = c.N
  nd : X.N.Nodup
  kd : X.env.scope.names = c.kd
  kind : X.env.scope.kind = .function
  lev : ∃ kf k, kf + c.lv ≤ k ∧ Room k X.A ∧ ∀ q ∈ c.pats, FnAt X T F kf q.x q.f q.n q.ks q.perm
  tk : Takes X W
  bare : ∀ x ∈ c.bare, X.mg x = none
  fnAll : c.fnAll = true → ∀ x, X.fn x = true
  fnL : ∀ x ∈ c.fnL, X.fn x = true
  gen : c.gen = true → ∃ cc P, TabB X.base X.mg cc P ∧ T P ∧ X.env.code = .ref cc
  rp : c.rp = true → X.A.guards = some []

def Cfg.kof (c : Cfg) (x : Str) : Option NameKind := c.kd.lookup x
def Cfg.vis (c : Cfg) (i : Nat) (x : Str) : Bool := decide (c.N[i]? = some x) && (decide (c.kof x = some .local) || decide (c.kof x = some .cell) || decide (c.kof x = some .free)) && !(x == ("__debug__" : Str)) && !(x == ("__classdict__" : Str))
def Cfg.gl (c : Cfg) (x : Str) : Bool := decide (c.kof x = some .globalImplicit) && !(x == ("__debug__" : Str)) && decide (x ≠ "__name__")
def Cfg.st (c : Cfg) (i : Nat) (x : Str) : Bool := decide (c.N[i]? = some x) && (decide (c.kof x = some .local) || decide (c.kof x = some .cell)) && (c.fnAll || decide (c.kof x = some .local) || decide (x ∈ c.fnL))
def Cfg.blt (c : Cfg) (x : Str) : Bool := c.gl x && decide (x ∈ c.bare)
/-- the block's configuration -/
def Cfg.blk (c : Cfg) (scope : Scope) : Cfg := { c with
  kd := scope.names.map fun (n, k) => if (k == .free && c.kd.lookup n == some .cell) then (n, .cell) else (n, k)
  fnAll := false
  fnL := (scope.names.filter fun y => scope.names.lookup y.1 == some .cell).map (·.1) }
/-- the generator's -/
def Cfg.gn (c : Cfg) (scope : Scope) : Cfg := { c with kd := scope.names, fnAll := false, fnL := [], gen := false, rp := false, lv := c.lv - 1 }
def sc0 (c : Cfg) : Scope := { kind := .function, names := c.kd, isGenerator := false, isCoroutine := false, more := [] }
def ownP (c : Cfg) (own : List Nat) : List (Str × Nat) := own.map fun i => ((c.N[i]?).getD "", i)
theorem ownP_snd {c : Cfg} {own : List Nat} : (ownP c own).map (·.2) = own := by
  unfold ownP
  rw [List.map_map]
  exact List.map_id own

section
variable {c : Cfg} {X : Cx} {T : Addr → Prop} {W : WX} {F : Fns}
theorem Good.room (G : Good c X T W F) : Room 0 X.A := by
  obtain ⟨kf, k, h1, h2, h3⟩ := G.lev
  exact h2.mono (Nat.zero_le _)
theorem Good.fnat (G : Good c X T W F) {q : Pt} (h : q ∈ c.pats) : ∃ k, FnAt X T F k q.x q.f q.n q.ks q.perm ∧ Room k X.A := by
  obtain ⟨kf, k, h1, h2, h3⟩ := G.lev
  exact ⟨kf, h3 q h, h2.mono (by omega)⟩
theorem Good.look (G : Good c X T W F) (x : Str) : X.env.scope.names.lookup x = c.kof x := by rw [G.kd]; rfl
theorem Good.vis {i : Nat} {x : Str} (G : Good c X T W F) (h : c.vis i x = true) : X.N[i]? = some x ∧ Vis X.env.scope x ∧ (x == ("__debug__" : Str)) = false ∧ (x == ("__classdict__" : Str)) = false := by
  unfold Cfg.vis at h
  simp only [Bool.and_eq_true, Bool.or_eq_true, decide_eq_true_eq, Bool.not_eq_true'] at h
  obtain ⟨⟨⟨h1, h2⟩, h3⟩, h4⟩ := h
  refine ⟨by rw [G.eN]; exact h1, ?_, h3, h4⟩
  unfold Vis
  rw [G.look]
  rcases h2 with (z | z) | z
  · exact .inl z
  · exact .inr (.inl z)
  · exact .inr (.inr z)
theorem Good.gl {x : Str} (G : Good c X T W F) (h : c.gl x = true) : Gl X x ∧ (x == ("__debug__" : Str)) = false ∧ x ≠ "__name__" := by
  unfold Cfg.gl at h
  simp only [Bool.and_eq_true, decide_eq_true_eq, Bool.not_eq_true'] at h
  obtain ⟨⟨h1, h2⟩, h3⟩ := h
  refine ⟨?_, h2, h3⟩
  show X.env.scope.names.lookup x = _
  rw [G.look]
  exact h1
theorem Good.st {i : Nat} {x : Str} (G : Good c X T W F) (h : c.st i x = true) : X.N[i]? = some x ∧ L2.Loc X.env.scope x ∧ (X.fn x = true ∨ X.env.scope.names.lookup x = some .local) := by
  unfold Cfg.st at h
  simp only [Bool.and_eq_true, Bool.or_eq_true, decide_eq_true_eq] at h
  obtain ⟨⟨h1, h2⟩, h3⟩ := h
  refine ⟨by rw [G.eN]; exact h1, ?_, ?_⟩
  · unfold L2.Loc
    rw [G.look]
    exact h2
  · rw [G.look]
    rcases h3 with (z | z) | z
    · exact .inl (G.fnAll z x)
    · exact .inr z
    · exact .inl (G.fnL x z)
theorem Good.blt {x : Str} (G : Good c X T W F) (h : c.blt x = true) : Gl X x ∧ (x == ("__debug__" : Str)) = false ∧ x ≠ "__name__" ∧ X.mg x = none := by
  unfold Cfg.blt at h
  simp only [Bool.and_eq_true, decide_eq_true_eq] at h
  obtain ⟨h1, h2, h3⟩ := G.gl h.1
  exact ⟨h1, h2, h3, G.bare x h.2⟩
theorem Good.un (G : Good c X T W F) : X.A.units + 65 < cLine := by
  have := G.room.un
  omega
theorem Good.un1 (G : Good c X T W F) : X.A.units + 1 < cLine := by
  have := G.room.un
  omega
/-- within a comprehension -/
theorem Good.blk (G : Good c X T W F) {scope : Scope} (hk : scope.kind = .function) (s : Shared) (H : Hp) (C : Addr) (cl : List (Str × Addr)) (fp : List Addr) : Good (c.blk scope) (X.blk s H scope (compEnvC scope cl C X.env) fp) T Wn F where
  calm := G.calm
  eN := G.eN
  nd := G.nd
  kd := by
    show (relS scope X.env.scope).names = _
    unfold relS Cfg.blk
    dsimp only
    rw [G.kd, G.kind]
    congr 1
    funext p
    obtain ⟨n, k⟩ := p
    dsimp only
    congr 1
    simp
  kind := hk
  lev := by
    obtain ⟨kf, k, h1, h2, h3⟩ := G.lev
    exact ⟨kf, k, h1, h2, fun q hq => ⟨(h3 q hq).ex⟩⟩
  tk := takes_n
  bare := G.bare
  fnAll := fun z => by cases z
  fnL := fun x hx => by
    show (scope.names.lookup x == some .cell) = true
    obtain ⟨y, hy, rfl⟩ := List.mem_map.mp hx
    exact (List.mem_filter.mp hy).2
  gen := fun z => G.gen z
  rp := fun z => G.rp z
theorem Good.gn (G : Good c X T W F) {kf k : Nat} (h1 : 1 ≤ c.lv) (hl : kf + c.lv ≤ k) (hp : ∀ q ∈ c.pats, FnAt X T F kf q.x q.f q.n q.ks q.perm) {A : Around} {s : Shared} {H : Hp} {cenv : PySem.Env} {fp : List Addr} (hr : Room (k - 1) A) (hs : cenv.scope.kind = .function) : Good (c.gn cenv.scope) (gcx X A s H cenv fp) T Wn F where
  calm := G.calm
  eN := G.eN
  nd := G.nd
  kd := rfl
  kind := hs
  lev := ⟨kf, k - 1, (by show kf + (c.lv - 1) ≤ k - 1; omega), hr, fun q hq => ⟨(hp q hq).ex⟩⟩
  tk := takes_n
  bare := G.bare
  fnAll := fun z => by cases z
  fnL := fun x hx => by cases hx
  gen := fun z => by cases z
  rp := fun z => by cases z
end
end Mi
/-! MiZd: the checker of expressions. -/
namespace Mi
open PySem PySem.Spec PyProof.Rows L2 GxR

def noStar : Expr → Bool
  | .Starred .. => false
  | _ => true
/-- a plain subscript -/
def plnIx : Expr → Bool
  | .Name .. => true
  | .Constant .. => true
  | .BinOp .. => true
  | .UnaryOp .. => true
  | .Call .. => true
  | .Subscript .. => true
  | .Tuple .. => true
  | .IfExp .. => true
  | _ => false
def chkC : PD → Expr → Bool
  | .int i, .Constant (.int j) _ _ => decide (i = j)
  | .bool i, .Constant (.bool j) _ _ => decide (i = j)
  | .str i, .Constant (.str j) _ _ => decide (i = j)
  | .none, .Constant .none _ _ => true
  | _, _ => false
def chkNames (c : Cfg) : List Nat → List Expr → Bool
  | [], [] => true
  | i :: is, .Name x _ :: es => c.st i x && chkNames c is es
  | _, _ => false
mutual
def chkP (c : Cfg) : Pat → Expr → Bool
  | .var i, e => match e with
    | .Name x _ => c.st i x
    | _ => false
  | .tup is, e => match e with
    | .Tuple es _ _ => chkNames c is es
    | _ => false
  | .nst ps, e => match e with
    | .Tuple es _ _ => chkPs c ps es
    | _ => false
def chkPs (c : Cfg) : List Pat → List Expr → Bool
  | [], es => match es with
    | [] => true
    | _ :: _ => false
  | p :: ps, es => match es with
    | [] => false
    | e :: es => chkP c p e && chkPs c ps es
end
def biN : Bi → Str
  | .len => "len" | .int => "int" | .tuple => "tuple" | .list => "list" | .max => "max" | .min => "min"
  | .any => "any" | .all => "all" | .sum => "sum" | .repr => "repr" | .abs => "abs" | .sorted => "sorted" | .isi _ => "isinstance"
def tyS : Ty → Str
  | .int => "int" | .bool => "bool" | .str => "str" | .tuple => "tuple" | .list => "list" | .dict => "dict"
def kwNs (kws : List Keyword) : List Str := kws.map fun k => k.arg.getD ""
def isTup : Expr → Bool
  | .Tuple .. => true
  | _ => false
def isSetL : Expr → Bool
  | .Set .. => true
  | .List .. => true
  | _ => false
def isSet : Expr → Bool
  | .Set .. => true
  | _ => false
set_option maxHeartbeats 0
mutual
def chkE : MX → Cfg → Expr → Bool
  | .c x, _, e => chkC x e
  | .var i, c, e => match e with
    | .Name x _ => c.vis i x
    | _ => false
  | .tup ms, c, e => match e with
    | .Tuple es _ _ => decide (ms.length ≤ 1000) && chkEs ms c es
    | _ => false
  | .lst ms, c, e => match e with
    | .List es _ => decide (ms.length ≤ 1000) && chkEs ms c es
    | _ => false
  | .bin op a b, c, e => match e with
    | .BinOp ea o eb _ => decide (o = opB op) && chkE a c ea && chkE b c eb
    | _ => false
  | .un .neg a, c, e => match e with
    | .UnaryOp .USub ea _ => chkE a c ea
    | _ => false
  | .un .not a, c, e => match e with
    | .UnaryOp .Not ea _ => chkE a c ea
    | _ => false
  | .cmp op a b, c, e => match e with
    | .Compare ea [o] [eb] _ => decide (o = opC op) && !behindInMarks (opC op) eb && chkE a c ea && chkE b c eb
    | _ => false
  | .cmp2 o1 o2 a b d, c, e => match e with
    | .Compare ea [p1, p2] [eb, ed] _ => decide (p1 = opC o1) && decide (p2 = opC o2) && !lastMarks [opC o1, opC o2] [eb, ed] && chkE a c ea && chkE b c eb && chkE d c ed
    | _ => false
  | .and a b, c, e => match e with
    | .BoolOp .And [ea, eb] _ => chkE a c ea && chkE b c eb
    | .BoolOp .And (ea :: eb :: ed :: r) pos => chkE a c ea && chkE b c (.BoolOp .And (eb :: ed :: r) pos)
    | _ => false
  | .or a b, c, e => match e with
    | .BoolOp .Or [ea, eb] _ => chkE a c ea && chkE b c eb
    | .BoolOp .Or (ea :: eb :: ed :: r) pos => chkE a c ea && chkE b c (.BoolOp .Or (eb :: ed :: r) pos)
    | _ => false
  | .ite k a b, c, e => match e with
    | .IfExp ek ea eb _ => chkE k c ek && chkE a c ea && chkE b c eb
    | _ => false
  | .ix a i, c, e => match e with
    | .Subscript ea ei _ => plnIx ei && chkE a c ea && chkE i c ei
    | _ => false
  | .sl a lo hi, c, e => match e with
    | .Subscript ea (.Slice el eh none _) _ => chkE a c ea && (match el with | none => (match lo with | .c .none => true | _ => false) | some x => chkE lo c x) && (match eh with | none => (match hi with | .c .none => true | _ => false) | some x => chkE hi c x)
    | _ => false
  | .call f ms, c, e => match e with
    | .Call (.Name x _) es [] _ => c.gl x && decide ((⟨x, f, es.length, [], List.range es.length⟩ : Pt) ∈ c.pats) && chkEs ms c es
    | _ => false
  | .callK f ms bs perm, c, e => match e with
    | .Call (.Name x _) es (kw :: kws) _ => c.gl x && decide ((⟨x, f, es.length, kwNs (kw :: kws), perm⟩ : Pt) ∈ c.pats) && chkEs ms c es && chkKs bs c (kw :: kws)
    | _ => false
  | .bi b ms, c, e => match b with
    | .isi t => match e with
      | .Call (.Name x _) [ea, .Name y _] [] _ => decide (x = "isinstance") && decide (y = tyS t) && c.blt x && c.blt y && noStar ea && (match ms with | [m] => chkE m c ea | _ => false)
      | _ => false
    | b => match e with
      | .Call (.Name x _) (ea :: es) [] _ => decide (x = biN b) && c.blt x && (c.rp || decide (b ≠ .repr)) && chkEs ms c (ea :: es)
      | _ => false
  | .lscr i, c, e => match e with
    | .Call (.Name x _) [.Name y _] [] _ => decide (x = "list") && c.blt x && c.vis i y
    | _ => false
  | .sset m, c, e => match e with
    | .Call (.Name x _) [.Call (.Name y _) [ea] [] _] [] _ => decide (x = "sorted") && decide (y = "set") && c.blt x && c.blt y && noStar ea && chkE m c ea
    | _ => false
  | .dnew, c, e => match e with
    | .Dict [] [] _ => true
    | _ => false
  | .srt m, c, e => match e with
    | .Call (.Name x _) [ea] [] _ => decide (x = "sorted") && c.blt x && noStar ea && chkE m c ea
    | _ => false
  | .rev m, c, e => match e with
    | .Subscript ea (.Slice none none (some (.UnaryOp .USub (.Constant (.int 1) _ _) _)) _) _ => chkE m c ea
    | _ => false
  | .cnt a b, c, e => match e with
    | .Call (.Attribute (.Name x np) y ap) [eb] [] cp => decide (y = "count") && (ap.endLine == cp.line) && noStar eb && chkE a c (.Name x np) && chkE b c eb
    | _ => false
  | .mm m i ms, c, e => match e with
    | .Call (.Attribute (.Name x _) a ap) es [] cp => decide (a = mmS m) && c.vis i x && (ap.endLine == cp.line) && decide (es.length ≤ 1) && chkEs ms c es
    | _ => false
  | .lc own p it k m, c, e => match e with
    | .ListComp elt [⟨tg, iter, ifs, 0⟩] scope _ => blkC c.N (sc0 c) scope (ownP c own) && decide (scope.kind = .function) && chkI it c tg iter && chkP (c.blk scope) p tg && !isSet iter && chkE m (c.blk scope) elt &&
        (match ifs with | [] => (match k with | .c (.bool true) => true | _ => false) | [x] => chkE k (c.blk scope) x | _ => false)
    | _ => false
  | .gen g own p it m, c, e => match e with
    | .Call (.Name x _) [.GeneratorExp elt [⟨tg, iter, [], 0⟩] scope _] [] _ => decide (x = gkN g) && c.blt x && c.gen && decide (1 ≤ c.lv) && blkC c.N (sc0 c) scope (ownP c own) && decide (scope.kind = .function) && !scope.isCoroutine && scope.names.all (fun y => decide (y.2 ≠ .cell)) &&
        decide (scope.names.lookup (".0" : Str) = some NameKind.local) && chkI it c tg iter && chkP (c.gn scope) p tg && !isSetL iter && chkE m (c.gn scope) elt
    | _ => false
  | .genF g own p it k m, c, e => match e with
    | .Call (.Name x _) [.GeneratorExp elt [⟨tg, iter, ifs, 0⟩] scope _] [] _ => decide (x = gkN g) && c.blt x && c.gen && decide (1 ≤ c.lv) && blkC c.N (sc0 c) scope (ownP c own) && decide (scope.kind = .function) && !scope.isCoroutine && scope.names.all (fun y => decide (y.2 ≠ .cell)) &&
        decide (scope.names.lookup (".0" : Str) = some NameKind.local) && chkI it c tg iter && chkP (c.gn scope) p tg && !isSetL iter && chkE m (c.gn scope) elt &&
        (match ifs with | [x] => chkE k (c.gn scope) x | _ => false)
    | _ => false
def chkEs : List MX → Cfg → List Expr → Bool
  | [], _, es => match es with
    | [] => true
    | _ => false
  | m :: ms, c, es => match es with
    | e :: es => noStar e && chkE m c e && chkEs ms c es
    | [] => false
def chkKs : List MX → Cfg → List Keyword → Bool
  | [], _, ks => match ks with
    | [] => true
    | _ => false
  | m :: ms, c, ks => match ks with
    | ⟨some _, e, _⟩ :: ks => chkE m c e && chkKs ms c ks
    | _ => false
def chkI : MI → Cfg → Expr → Expr → Bool
  | .val m, c, _, e => chkE m c e
  | .scrI i, c, _, e => match e with
    | .Name x _ => c.vis i x
    | _ => false
  | .rng1 a, c, _, e => match e with
    | .Call (.Name x _) [ea] [] _ => decide (x = "range") && c.blt x && noStar ea && chkE a c ea
    | _ => false
  | .rng2 a b, c, _, e => match e with
    | .Call (.Name x _) [ea, eb] [] _ => decide (x = "range") && c.blt x && noStar ea && noStar eb && chkE a c ea && chkE b c eb
    | _ => false
  | .enum m, c, tg, e => match e with
    | .Call (.Name x _) [ea] [] _ => decide (x = "enumerate") && c.blt x && noStar ea && chkE m c ea && isTup tg
    | _ => false
  | .zip a b, c, tg, e => match e with
    | .Call (.Name x _) [ea, eb] [] _ => decide (x = "zip") && c.blt x && noStar ea && noStar eb && chkE a c ea && chkE b c eb && isTup tg
    | _ => false
end

/-! ### small facts -/
theorem star_cons {e : Expr} (h : noStar e = true) (es : List Expr) (env : PySem.Env) : starEach (e :: es) env = (false, eval e env) :: starEach es env := by
  cases e <;> first | rfl | (simp [noStar] at h)
theorem pln_ok {e : Expr} (h : plnIx e = true) : PlainIx e := by
  cases e <;> first | (intro o i; rfl) | (simp [plnIx] at h)
theorem bi_boot (b : Bi) : bootBuiltins (biN b) = some (biV b) := by
  cases b <;> first | decide +kernel | rfl
theorem ty_boot (t : Ty) : bootBuiltins (tyS t) = some (.type (tyN t)) := by
  cases t <;> decide +kernel
theorem chkEs_len : ∀ {ms : List MX} {c : Cfg} {es : List Expr}, chkEs ms c es = true → ms.length = es.length
  | [], _, [], _ => rfl
  | [], _, _ :: _, h => by simp [chkEs] at h
  | _ :: _, _, [], h => by simp [chkEs] at h
  | m :: ms, c, e :: es, h => by
    simp only [chkEs, Bool.and_eq_true] at h
    rw [List.length_cons, List.length_cons, chkEs_len h.2]
theorem chkEs_star : ∀ {ms : List MX} {c : Cfg} {es : List Expr}, chkEs ms c es = true → ∀ e ∈ es, noStar e = true
  | [], _, [], _ => fun e he => by cases he
  | [], _, _ :: _, h => by simp [chkEs] at h
  | _ :: _, _, [], h => by simp [chkEs] at h
  | m :: ms, c, e :: es, h => by
    simp only [chkEs, Bool.and_eq_true] at h
    intro x hx
    rcases List.mem_cons.mp hx with rfl | hx
    · exact h.1.1
    · exact chkEs_star h.2 x hx
theorem star_any {pos : Pos} {env : PySem.Env} : ∀ {es : List Expr}, (∀ e ∈ es, noStar e = true) → (backTo pos (starEach es env)).any (·.1) = false
  | [], _ => rfl
  | e :: es, h => by
    rw [star_cons (h e List.mem_cons_self)]
    show (false || (backTo pos (starEach es env)).any (·.1)) = false
    rw [star_any fun x hx => h x (List.mem_cons_of_mem _ hx)]
    rfl
theorem star_few {pos : Pos} {env : PySem.Env} : ∀ {es : List Expr}, (∀ e ∈ es, noStar e = true) → (backTo pos (starEach es env)).all (fun x => !x.1) = true
  | [], _ => rfl
  | e :: es, h => by
    rw [star_cons (h e List.mem_cons_self)]
    show (true && (backTo pos (starEach es env)).all (fun x => !x.1)) = true
    rw [star_few fun x hx => h x (List.mem_cons_of_mem _ hx)]
    rfl
theorem chkE_eqs (x : PD) (c : Cfg) (e : Expr) : chkE (.c x) c e = chkC x e := by simp only [chkE]
end Mi
set_option maxHeartbeats 2000000
/-! MiZe: the checker of expressions is sound. -/
namespace Mi
open PySem PySem.Spec PyProof.Rows L2 GxR
variable {T : Addr → Prop} {F : Fns}

def isBop : Expr → Bool
  | .BoolOp .. => true
  | _ => false
/-- what a checked expression is worth -/
structure Okk (X : Cx) (T : Addr → Prop) (W : WX) (F : Fns) (m : MX) (e : Expr) : Prop where
  pe : PE X e (tE X.K T X.mg W F m)
  pt : PT X e (tT X.K T X.mg W F m)
  pw : isBop e = true → PW X e (tT X.K T X.mg W F m)
def plnT : Expr → Bool
  | .BoolOp .. => false
  | .UnaryOp .Not _ _ => false
  | .Compare .. => false
  | .IfExp .. => false
  | _ => true
theorem plnT_ok {e : Expr} (h : plnT e = true) (env : PySem.Env) (whole : Sem Value) : isTrue e env whole = (do let v ← whole; standAt e.pos; holding [v] (truthy v)) := by
  cases e with
  | BoolOp => simp [plnT] at h
  | Compare => simp [plnT] at h
  | IfExp => simp [plnT] at h
  | UnaryOp op x p => cases op <;> first | rfl | (simp [plnT] at h)
  | _ => rfl
theorem Okk.pln {X : Cx} {W : WX} {m : MX} {e : Expr} (h : PE X e (tE X.K T X.mg W F m)) (hp : plnT e = true) : Okk X T W F m e :=
  ⟨h, t_plain h fun whole => plnT_ok hp _ whole, fun z => by cases e <;> simp [isBop, plnT] at z hp⟩
theorem Okk.nobop {X : Cx} {W : WX} {m : MX} {e : Expr} (h : PE X e (tE X.K T X.mg W F m)) (ht : PT X e (tT X.K T X.mg W F m)) (hp : isBop e = false) : Okk X T W F m e := ⟨h, ht, fun z => by rw [hp] at z; cases z⟩
section
variable {c : Cfg} {X : Cx} {W : WX}
theorem chkC_ok {x : PD} {e : Expr} (h : chkC x e = true) : Okk X T W F (.c x) e := by
  unfold chkC at h
  split at h
  · rename_i i j _ _
    obtain rfl : i = j := of_decide_eq_true h
    exact Okk.pln (n_const pe_int fun _ => .int i) rfl
  · rename_i i j _ _
    obtain rfl : i = j := of_decide_eq_true h
    exact Okk.pln (n_const pe_bl fun _ => .bl i) rfl
  · rename_i i j _ _
    obtain rfl : i = j := of_decide_eq_true h
    exact Okk.pln (n_const pe_str fun _ => .str i) rfl
  · exact Okk.pln (n_const pe_non fun _ => .non) rfl
  · cases h
theorem chkNames_ok (G : Good c X T W F) : ∀ {is : List Nat} {es : List Expr}, chkNames c is es = true → NamesAt X es is
  | [], [], _ => ns_nil
  | [], _ :: _, h => by simp [chkNames] at h
  | _ :: _, [], h => by simp [chkNames] at h
  | i :: is, e :: es, h => by
    cases e with
    | Name x p =>
      simp only [chkNames, Bool.and_eq_true] at h
      obtain ⟨h1, h2, h3⟩ := G.st h.1
      exact ns_cons G.nd h1 h2 h3 (chkNames_ok G h.2)
    | _ => simp [chkNames] at h
mutual
theorem chkP_ok (G : Good c X T W F) : ∀ {p : Pat} {tg : Expr}, chkP c p tg = true → PG X tg (gP X.K p)
  | .var i, tg, h => by
    simp only [chkP] at h
    split at h
    · obtain ⟨h1, h2, h3⟩ := G.st h
      exact g_var G.nd h1 h2 h3
    · cases h
  | .tup is, tg, h => by
    simp only [chkP] at h
    split at h
    · exact g_tup G.calm (chkNames_ok G h)
    · cases h
  | .nst ps, tg, h => by
    simp only [chkP] at h
    split at h
    · exact g_nst G.calm (chkPs_ok G h)
    · cases h
theorem chkPs_ok (G : Good c X T W F) : ∀ {ps : List Pat} {es : List Expr}, chkPs c ps es = true → PatsAt X es ps
  | [], es, h => by
    simp only [chkPs] at h
    split at h
    · exact pats_nil
    · cases h
  | p :: ps, es, h => by
    simp only [chkPs] at h
    split at h
    · cases h
    · rename_i e es
      rw [Bool.and_eq_true] at h
      refine pats_cons ?_ (chkP_ok G h.1) (chkPs_ok G h.2)
      cases e with
      | Starred => cases p <;> simp [chkP] at h
      | _ => rfl
end
/-- the keywords -/
theorem kws_all {pos : Pos} {env : PySem.Env} : ∀ {ms : List MX} {c : Cfg} {kws : List Keyword}, chkKs ms c kws = true → (backToKw pos (keywordEach kws env)).all (·.1.isSome) = true ∧ (backToKw pos (keywordEach kws env)).filterMap (·.1) = kwNs kws ∧ (backToKw pos (keywordEach kws env)).any (·.1.isNone) = false
  | [], _, [], _ => ⟨rfl, rfl, rfl⟩
  | [], _, _ :: _, h => by simp [chkKs] at h
  | _ :: _, _, [], h => by simp [chkKs] at h
  | m :: ms, c, ⟨nm, e, kp⟩ :: kws, h => by
    cases nm with
    | none => simp [chkKs] at h
    | some x =>
      simp only [chkKs, Bool.and_eq_true] at h
      obtain ⟨h1, h2, h3⟩ := kws_all (pos := pos) (env := env) h.2
      refine ⟨?_, ?_, ?_⟩
      · show (true && _) = true
        rw [Bool.true_and]
        exact h1
      · show x :: _ = x :: _
        exact congrArg (x :: ·) h2
      · show (false || _) = false
        rw [Bool.false_or]
        exact h3
theorem chkKs_len : ∀ {ms : List MX} {c : Cfg} {kws : List Keyword}, chkKs ms c kws = true → ms.length = (kwNs kws).length
  | [], _, [], _ => rfl
  | [], _, _ :: _, h => by simp [chkKs] at h
  | _ :: _, _, [], h => by simp [chkKs] at h
  | m :: ms, c, ⟨nm, e, kp⟩ :: kws, h => by
    cases nm with
    | none => simp [chkKs] at h
    | some x =>
      simp only [chkKs, Bool.and_eq_true] at h
      show _ = (_ :: kwNs kws).length
      rw [List.length_cons, List.length_cons, chkKs_len h.2]
theorem fold_ok {iter : Expr} (h : isSet iter = false) (env : PySem.Env) (x : Value) : foldedSetIterable iter env x = pure x := by
  cases iter <;> first | rfl | (simp [isSet] at h)
theorem gfold_ok {iter : Expr} (h : isSetL iter = false) (env : PySem.Env) (x : Value) : genFold iter env x = pure x := by
  cases iter <;> first | rfl | (simp [isSetL] at h)
theorem blkC_names {N : List Str} {sc sc' scope : Scope} {own : List (Str × Nat)} (e : sc.names = sc'.names) (h : blkC N sc scope own = true) : blkC N sc' scope own = true := by
  unfold blkC at h ⊢
  rw [← e]
  exact h
theorem base_name {x a : Str} {np : Pos} {env : PySem.Env} : attributeBase (.Name x np) a env (eval (.Name x np) env) = eval (.Name x np) env := rfl
end

set_option maxHeartbeats 0
mutual
theorem chkE_ok : ∀ (m : MX) {c : Cfg} {X : Cx} {W : WX} {e : Expr}, Good c X T W F → chkE m c e = true → Okk X T W F m e
  | .c x, c, X, W, e, G, h => by
    simp only [chkE] at h
    exact chkC_ok h
  | .var i, c, X, W, e, G, h => by
    simp only [chkE] at h
    split at h
    · obtain ⟨h1, h2, h3, h4⟩ := G.vis h
      exact Okk.pln (n_var h1 h2 h3 h4) rfl
    · cases h
  | .tup ms, c, X, W, e, G, h => by
    simp only [chkE] at h
    split at h
    · simp only [Bool.and_eq_true, decide_eq_true_eq] at h
      exact Okk.pln (n_tup (chkEs_ok ms G h.2) h.1) rfl
    · cases h
  | .lst ms, c, X, W, e, G, h => by
    simp only [chkE] at h
    split at h
    · simp only [Bool.and_eq_true, decide_eq_true_eq] at h
      exact Okk.pln (n_lst (chkEs_ok ms G h.2) h.1) rfl
    · cases h
  | .bin op a b, c, X, W, e, G, h => by
    simp only [chkE] at h
    split at h
    · simp only [Bool.and_eq_true, decide_eq_true_eq] at h
      obtain ⟨⟨rfl, h2⟩, h3⟩ := h
      exact Okk.pln (n_bin (chkE_ok a G h2).pe (chkE_ok b G h3).pe op) rfl
    · cases h
  | .un .neg a, c, X, W, e, G, h => by
    simp only [chkE] at h
    split at h
    · exact Okk.pln (n_neg (chkE_ok a G h).pe) rfl
    · cases h
  | .un .not a, c, X, W, e, G, h => by
    simp only [chkE] at h
    split at h
    · exact Okk.nobop (n_not (chkE_ok a G h).pe) (t_not (chkE_ok a G h).pt) rfl
    · cases h
  | .cmp op a b, c, X, W, e, G, h => by
    simp only [chkE] at h
    split at h
    · simp only [Bool.and_eq_true, decide_eq_true_eq, Bool.not_eq_true'] at h
      obtain ⟨⟨⟨rfl, h2⟩, h3⟩, h4⟩ := h
      exact Okk.nobop (n_cmp G.un (chkE_ok a G h3).pe (chkE_ok b G h4).pe op h2) (t_cmp G.un (chkE_ok a G h3).pe (chkE_ok b G h4).pe op h2) rfl
    · cases h
  | .cmp2 o1 o2 a b d, c, X, W, e, G, h => by
    simp only [chkE] at h
    split at h
    · simp only [Bool.and_eq_true, decide_eq_true_eq, Bool.not_eq_true'] at h
      obtain ⟨⟨⟨⟨⟨rfl, rfl⟩, h2⟩, h3⟩, h4⟩, h5⟩ := h
      exact Okk.nobop (n_cmp2 G.un (chkE_ok a G h3).pe (chkE_ok b G h4).pe (chkE_ok d G h5).pe o1 o2 h2) (t_cmp2 G.un (chkE_ok a G h3).pe (chkE_ok b G h4).pe (chkE_ok d G h5).pe o1 o2 h2) rfl
    · cases h
  | .and a b, c, X, W, e, G, h => by
    simp only [chkE] at h
    split at h
    · simp only [Bool.and_eq_true] at h
      have ha := chkE_ok a G h.1
      have hb := chkE_ok b G h.2
      have w := t_and (rest := []) (pos := by assumption) ha.pt (t_and1 hb.pt)
      exact ⟨n_and ha.pe (pe_one hb.pe), w.pt, fun _ => w⟩
    · simp only [Bool.and_eq_true] at h
      have ha := chkE_ok a G h.1
      have hb := chkE_ok b G h.2
      have w := t_and ha.pt (hb.pw rfl)
      exact ⟨n_and ha.pe hb.pe, w.pt, fun _ => w⟩
    · cases h
  | .or a b, c, X, W, e, G, h => by
    simp only [chkE] at h
    split at h
    · simp only [Bool.and_eq_true] at h
      have ha := chkE_ok a G h.1
      have hb := chkE_ok b G h.2
      have w := t_or (rest := []) (pos := by assumption) ha.pt (t_or1 hb.pt)
      exact ⟨n_or ha.pe (pe_one hb.pe), w.pt, fun _ => w⟩
    · simp only [Bool.and_eq_true] at h
      have ha := chkE_ok a G h.1
      have hb := chkE_ok b G h.2
      have w := t_or ha.pt (hb.pw rfl)
      exact ⟨n_or ha.pe hb.pe, w.pt, fun _ => w⟩
    · cases h
  | .ite k a b, c, X, W, e, G, h => by
    simp only [chkE] at h
    split at h
    · simp only [Bool.and_eq_true] at h
      obtain ⟨⟨h1, h2⟩, h3⟩ := h
      exact Okk.nobop (n_ite (chkE_ok k G h1).pt (chkE_ok a G h2).pe (chkE_ok b G h3).pe) (t_ite (chkE_ok k G h1).pt (chkE_ok a G h2).pt (chkE_ok b G h3).pt) rfl
    · cases h
  | .ix a i, c, X, W, e, G, h => by
    simp only [chkE] at h
    split at h
    · simp only [Bool.and_eq_true] at h
      obtain ⟨⟨h1, h2⟩, h3⟩ := h
      exact Okk.pln (n_ix G.un1 (chkE_ok a G h2).pe (chkE_ok i G h3).pe (pln_ok h1)) rfl
    · cases h
  | .sl a lo hi, c, X, W, e, G, h => by
    simp only [chkE] at h
    split at h
    · rename_i ea el eh p2 p3
      simp only [Bool.and_eq_true] at h
      obtain ⟨⟨h1, h2⟩, h3⟩ := h
      have k1 : PoOk X T W F el lo := by
        cases el with
        | none =>
          dsimp only at h2
          split at h2
          · exact .nop
          · cases h2
        | some x => exact .hav (chkE_ok lo G h2).pe
      have k2 : PoOk X T W F eh hi := by
        cases eh with
        | none =>
          dsimp only at h3
          split at h3
          · exact .nop
          · cases h3
        | some x => exact .hav (chkE_ok hi G h3).pe
      exact Okk.pln (n_sl (chkE_ok a G h1).pe k1 k2) rfl
    · cases h
  | .call f ms, c, X, W, e, G, h => by
    simp only [chkE] at h
    split at h
    · rename_i x xp es pos
      simp only [Bool.and_eq_true, decide_eq_true_eq] at h
      obtain ⟨⟨h1, h2⟩, h3⟩ := h
      obtain ⟨g1, g2, _⟩ := G.gl h1
      obtain ⟨kf, A, hr⟩ := G.fnat h2
      have hl := chkEs_len h3
      have hs := chkEs_star h3
      cases es with
      | nil =>
        cases ms with
        | nil => exact Okk.pln (n_call0 A hr G.tk g1 g2) rfl
        | cons m ms => cases hl
      | cons e es => exact Okk.pln (n_call A hr G.tk g1 (chkEs_ok ms G h3) hl g2 (star_cons (hs e List.mem_cons_self) es _) (star_any fun x hx => hs x (List.mem_cons_of_mem _ hx))) rfl
    · cases h
  | .callK f ms bs perm, c, X, W, e, G, h => by
    simp only [chkE] at h
    split at h
    · rename_i x xp es kw kws pos
      simp only [Bool.and_eq_true, decide_eq_true_eq] at h
      obtain ⟨⟨⟨h1, h2⟩, h3⟩, h4⟩ := h
      obtain ⟨g1, g2, _⟩ := G.gl h1
      obtain ⟨kf, A, hr⟩ := G.fnat h2
      have hl := chkEs_len h3
      have hs := chkEs_star h3
      have hk := chkKs_ok bs G h4
      have hkl := chkKs_len h4
      obtain ⟨q1, q2, q3⟩ := kws_all (pos := pos) (env := X.env) h4
      cases es with
      | nil =>
        cases ms with
        | nil => exact Okk.pln (n_callK0 A hr G.tk g1 hk hkl g2 q1 q2 (by rw [q3]; rfl)) rfl
        | cons m ms => cases hl
      | cons e es =>
        refine Okk.pln (n_callK A hr G.tk g1 (chkEs_ok ms G h3) hl hk hkl g2 (star_cons (hs e List.mem_cons_self) es _) q1 q2 ?_) rfl
        rw [q3, star_any hs]
        rfl
    · cases h
  | .bi b ms, c, X, W, e, G, h => by
    unfold chkE at h
    split at h
    · rename_i t
      split at h
      · rename_i x xp ea y yp pos
        simp only [Bool.and_eq_true, decide_eq_true_eq] at h
        obtain ⟨⟨⟨⟨⟨rfl, rfl⟩, h3⟩, h4⟩, h5⟩, h6⟩ := h
        obtain ⟨g1, g2, g3, g4⟩ := G.blt h3
        obtain ⟨y1, y2, y3, y4⟩ := G.blt h4
        split at h6
        · rename_i m
          exact Okk.pln (n_isi (call_bi G.un G.room.hd G.calm (.isi t) (fun z => by cases z)) g1 g4 (bi_boot (.isi t)) y1 y4 (ty_boot t) y3 y2 (chkE_ok m G h6).pe (star_cons h5 _ _)) rfl
        · cases h6
      · cases h
    · rename_i b' hb
      split at h
      · rename_i x xp ea es pos
        simp only [Bool.and_eq_true, decide_eq_true_eq] at h
        obtain ⟨⟨⟨rfl, h3⟩, h4⟩, h5⟩ := h
        obtain ⟨g1, g2, g3, g4⟩ := G.blt h3
        have hrep : b = .repr → X.A.guards = some [] := fun z => by
          subst z
          simp only [Bool.or_eq_true, decide_eq_true_eq] at h4
          exact G.rp (h4.resolve_right (by simp))
        have cb := call_bi G.un G.room.hd G.calm b hrep
        have hs := chkEs_star h5
        have ha := chkEs_ok ms G h5
        have s1 := star_cons (hs ea List.mem_cons_self) es X.env
        have s2 := star_any (pos := pos) (env := X.env) fun x hx => hs x (List.mem_cons_of_mem ea hx)
        have bb := bi_boot b
        cases b with
        | isi t => exact absurd rfl (hb t)
        | int => exact Okk.pln (n_biT rfl rfl cb g1 g4 bb ha g3 g2 s1 s2) rfl
        | tuple => exact Okk.pln (n_biT rfl rfl cb g1 g4 bb ha g3 g2 s1 s2) rfl
        | list => exact Okk.pln (n_biT rfl rfl cb g1 g4 bb ha g3 g2 s1 s2) rfl
        | _ => exact Okk.pln (n_biF rfl rfl cb g1 g4 bb ha g3 g2 s1 s2) rfl
      · cases h
  | .sset m, c, X, W, e, G, h => by
    simp only [chkE] at h
    split at h
    · rename_i x xp y yp ea q1 q2
      simp only [Bool.and_eq_true, decide_eq_true_eq] at h
      obtain ⟨⟨⟨⟨⟨rfl, rfl⟩, h3⟩, h4⟩, h5⟩, h6⟩ := h
      obtain ⟨g1, g2, g3, g4⟩ := G.blt h3
      obtain ⟨k1, k2, k3, k4⟩ := G.blt h4
      exact Okk.pln (n_sset G.calm (by have := G.un; omega) g1 g4 k1 k4 (chkE_ok m G h6).pe (star_cons h5 _ _)) rfl
    · cases h
  | .dnew, c, X, W, e, G, h => by
    simp only [chkE] at h
    split at h
    · exact Okk.pln n_dnew rfl
    · cases h
  | .srt m, c, X, W, e, G, h => by
    simp only [chkE] at h
    split at h
    · rename_i x xp ea q1
      simp only [Bool.and_eq_true, decide_eq_true_eq] at h
      obtain ⟨⟨⟨rfl, h3⟩, h5⟩, h6⟩ := h
      obtain ⟨g1, g2, g3, g4⟩ := G.blt h3
      exact Okk.pln (n_srt G.calm (by have := G.un; omega) g1 g4 (chkE_ok m G h6).pe (star_cons h5 _ _)) rfl
    · cases h
  | .rev m, c, X, W, e, G, h => by
    simp only [chkE] at h
    split at h
    · exact Okk.pln (n_rev (chkE_ok m G h).pe) rfl
    · cases h
  | .cnt a b, c, X, W, e, G, h => by
    simp only [chkE] at h
    split at h
    · rename_i x np y ap eb cp
      simp only [Bool.and_eq_true, decide_eq_true_eq] at h
      obtain ⟨⟨⟨⟨rfl, h2⟩, h3⟩, h4⟩, h5⟩ := h
      have hs : ∀ z ∈ [eb], noStar z = true := fun z hz => by
        rw [List.mem_singleton] at hz
        rw [hz]; exact h3
      exact Okk.pln (n_cnt (chkE_ok a G h4).pe (chkE_ok b G h5).pe base_name (by rw [star_few hs]; rfl) h2 (star_cons h3 _ _)) rfl
    · cases h
  | .mm m i ms, c, X, W, e, G, h => by
    simp only [chkE] at h
    split at h
    · rename_i x xp a ap es cp
      simp only [Bool.and_eq_true, decide_eq_true_eq] at h
      obtain ⟨⟨⟨⟨rfl, h2⟩, h3⟩, h4⟩, h5⟩ := h
      obtain ⟨v1, v2, v3, v4⟩ := G.vis h2
      have hl := chkEs_len h5
      have hs := chkEs_star h5
      cases es with
      | nil =>
        cases ms with
        | nil => exact Okk.pln (n_mm0 v1 v2 v3 v4 base_name h3) rfl
        | cons m ms => cases hl
      | cons e es =>
        refine Okk.pln (n_mm v1 v2 v3 v4 (chkEs_ok ms G h5) base_name ?_ h3 (star_cons (hs e List.mem_cons_self) es _) (star_any fun x hx => hs x (List.mem_cons_of_mem _ hx))) rfl
        rw [star_few hs]
        have hz : es = [] := by
          have : (e :: es).length ≤ 1 := h4
          simpa using this
        subst hz
        rfl
    · cases h
  | .lscr i, c, X, W, e, G, h => by
    simp only [chkE] at h
    split at h
    · simp only [Bool.and_eq_true, decide_eq_true_eq] at h
      obtain ⟨⟨rfl, h2⟩, h3⟩ := h
      obtain ⟨g1, g2, g3, g4⟩ := G.blt h2
      obtain ⟨v1, v2, v3, v4⟩ := G.vis h3
      exact Okk.pln (n_lscr v1 v2 v3 v4 g1 g4) rfl
    · cases h
  | .lc own p it k m, c, X, W, e, G, h => by
    simp only [chkE] at h
    split at h
    · rename_i elt tg iter ifs scope pos
      simp only [Bool.and_eq_true, decide_eq_true_eq, Bool.not_eq_true'] at h
      obtain ⟨⟨⟨⟨⟨⟨h1, h2⟩, h3⟩, h4⟩, h5⟩, h6⟩, h7⟩ := h
      have ok : BlkOk X.N X.env.scope scope (ownP c own) := blkOk_by (by rw [G.eN]; exact blkC_names (sc := sc0 c) G.kd.symm h1)
      have GB := fun s H C cl fp => G.blk h2 s H C cl fp
      have key := n_lc (c := k) (m := m) (pos := pos) (ifs := ifs) G.calm G.nd (chkI_ok it G h3) ok (fun s H C cl fp => chkP_ok (GB s H C cl fp) h4) (fun s H C cl fp => by
        split at h7
        · split at h7
          · exact ts_nil
          · cases h7
        · exact pts_one (chkE_ok k (GB s H C cl fp) h7).pt
        · cases h7) (fun s H C cl fp => (chkE_ok m (GB s H C cl fp) h6).pe) (fun x => fold_ok h5 _ x)
      rw [ownP_snd] at key
      exact Okk.pln key rfl
    · cases h
  | .gen g own p it m, c, X, W, e, G, h => by
    simp only [chkE] at h
    split at h
    · rename_i x xp elt tg iter scope gpos pos
      simp only [Bool.and_eq_true, decide_eq_true_eq, Bool.not_eq_true', List.all_eq_true] at h
      obtain ⟨⟨⟨⟨⟨⟨⟨⟨⟨⟨⟨⟨rfl, h2⟩, h3⟩, h4⟩, h5⟩, h6⟩, h7⟩, h8⟩, h9⟩, h10⟩, h11⟩, h12⟩, h13⟩ := h
      obtain ⟨g1, g2, g3, g4⟩ := G.blt h2
      obtain ⟨cc, P, TB, hT, hcode⟩ := G.gen h3
      have ok : BlkOk X.N X.env.scope scope (ownP c own) := blkOk_by (by rw [G.eN]; exact blkC_names (sc := sc0 c) G.kd.symm h5)
      obtain ⟨kf, k, hl, hrm, hp⟩ := G.lev
      have hk : k - 1 + 1 = k := by omega
      have key := n_gen (gk := g) (k := k - 1) (p' := xp) (pos := pos) (gpos := gpos) (m := m) (by rw [hk]; exact hrm) G.calm G.nd g1 g4 TB hT hcode (chkI_ok it G h10) ok h7 h8 h9
        (fun A s H cenv fp hr hs => by
          subst hs
          exact chkP_ok (G.gn h4 hl hp hr h6) h11)
        (fun A s H cenv fp hr hs => by
          subst hs
          exact (chkE_ok m (G.gn h4 hl hp hr h6) h13).pe) (fun x => gfold_ok h12 _ x) (star_cons rfl _ _)
      rw [ownP_snd] at key
      exact Okk.pln key rfl
    · cases h
  | .genF g own p it ck m, c, X, W, e, G, h => by
    simp only [chkE] at h
    split at h
    · rename_i x xp elt tg iter ifs scope gpos pos
      simp only [Bool.and_eq_true, decide_eq_true_eq, Bool.not_eq_true', List.all_eq_true] at h
      obtain ⟨⟨⟨⟨⟨⟨⟨⟨⟨⟨⟨⟨⟨rfl, h2⟩, h3⟩, h4⟩, h5⟩, h6⟩, h7⟩, h8⟩, h9⟩, h10⟩, h11⟩, h12⟩, h13⟩, h14⟩ := h
      obtain ⟨g1, g2, g3, g4⟩ := G.blt h2
      obtain ⟨cc, P, TB, hT, hcode⟩ := G.gen h3
      have ok : BlkOk X.N X.env.scope scope (ownP c own) := blkOk_by (by rw [G.eN]; exact blkC_names (sc := sc0 c) G.kd.symm h5)
      obtain ⟨kf, k, hl, hrm, hp⟩ := G.lev
      have hk : k - 1 + 1 = k := by omega
      have key := n_genF (gk := g) (ifs := ifs) (elt := elt) (tg := tg) (iter := iter) (k := k - 1) (p' := xp) (pos := pos) (gpos := gpos) (c := ck) (m := m) (by rw [hk]; exact hrm) G.calm G.nd g1 g4 TB hT hcode (chkI_ok it G h10) ok h7 h8 h9
        (fun A s H cenv fp hr hs => by
          subst hs
          exact chkP_ok (G.gn h4 hl hp hr h6) h11)
        (fun A s H cenv fp hr hs => by
          subst hs
          split at h14
          · exact pts_one (X := gcx X A s H cenv fp) (chkE_ok (X := gcx X A s H cenv fp) ck (G.gn h4 hl hp hr h6) h14).pt
          · cases h14)
        (fun A s H cenv fp hr hs => by
          subst hs
          exact (chkE_ok m (G.gn h4 hl hp hr h6) h13).pe) (fun x => gfold_ok h12 _ x) (star_cons rfl _ _)
      rw [ownP_snd] at key
      exact Okk.pln key rfl
    · cases h
theorem chkEs_ok : ∀ (ms : List MX) {c : Cfg} {X : Cx} {W : WX} {es : List Expr}, Good c X T W F → chkEs ms c es = true → PA X es (tAs X.K T X.mg W F ms)
  | [], c, X, W, [], G, h => n_nil
  | [], c, X, W, _ :: _, G, h => by simp [chkEs] at h
  | _ :: _, c, X, W, [], G, h => by simp [chkEs] at h
  | m :: ms, c, X, W, e :: es, G, h => by
    simp only [chkEs, Bool.and_eq_true] at h
    exact n_cons (chkE_ok m G h.1.2).pe (chkEs_ok ms G h.2) (star_cons h.1.1 es _)
theorem chkKs_ok : ∀ (ms : List MX) {c : Cfg} {X : Cx} {W : WX} {ks : List Keyword}, Good c X T W F → chkKs ms c ks = true → NK X T W F ks ms
  | [], c, X, W, [], G, h => nk_nil
  | [], c, X, W, _ :: _, G, h => by simp [chkKs] at h
  | _ :: _, c, X, W, [], G, h => by simp [chkKs] at h
  | m :: ms, c, X, W, ⟨nm, e, kp⟩ :: ks, G, h => by
    cases nm with
    | none => simp [chkKs] at h
    | some x =>
      simp only [chkKs, Bool.and_eq_true] at h
      exact nk_cons (chkE_ok m G h.1).pe (chkKs_ok ms G h.2)
theorem chkI_ok : ∀ (it : MI) {c : Cfg} {X : Cx} {W : WX} {tg e : Expr}, Good c X T W F → chkI it c tg e = true → PI X tg e (tI X.K T X.mg W F it)
  | .val m, c, X, W, tg, e, G, h => by
    simp only [chkI] at h
    exact i_val (chkE_ok m G h).pe
  | .scrI i, c, X, W, tg, e, G, h => by
    simp only [chkI] at h
    split at h
    · obtain ⟨v1, v2, v3, v4⟩ := G.vis h
      exact i_scrI v1 v2 v3 v4
    · cases h
  | .rng1 a, c, X, W, tg, e, G, h => by
    simp only [chkI] at h
    split at h
    · simp only [Bool.and_eq_true, decide_eq_true_eq] at h
      obtain ⟨⟨⟨rfl, h2⟩, h3⟩, h4⟩ := h
      obtain ⟨g1, g2, g3, g4⟩ := G.blt h2
      exact i_rng1 g1 g4 (chkE_ok a G h4).pe (star_cons h3 _ _)
    · cases h
  | .rng2 a b, c, X, W, tg, e, G, h => by
    simp only [chkI] at h
    split at h
    · simp only [Bool.and_eq_true, decide_eq_true_eq] at h
      obtain ⟨⟨⟨⟨⟨rfl, h2⟩, h3⟩, h3b⟩, h4⟩, h5⟩ := h
      obtain ⟨g1, g2, g3, g4⟩ := G.blt h2
      exact i_rng2 g1 g4 (chkE_ok a G h4).pe (chkE_ok b G h5).pe (by rw [star_cons h3, star_cons h3b]; rfl) (star_cons h3b _ _)
    · cases h
  | .enum m, c, X, W, tg, e, G, h => by
    simp only [chkI] at h
    split at h
    · simp only [Bool.and_eq_true, decide_eq_true_eq] at h
      obtain ⟨⟨⟨⟨rfl, h2⟩, h3⟩, h4⟩, h5⟩ := h
      obtain ⟨g1, g2, g3, g4⟩ := G.blt h2
      cases tg with
      | Tuple es k p => exact i_enum g1 g4 (chkE_ok m G h4).pe (star_cons h3 _ _)
      | _ => simp [isTup] at h5
    · cases h
  | .zip a b, c, X, W, tg, e, G, h => by
    simp only [chkI] at h
    split at h
    · rename_i x xp ea eb pos
      simp only [Bool.and_eq_true, decide_eq_true_eq] at h
      obtain ⟨⟨⟨⟨⟨⟨rfl, h2⟩, h3⟩, h3b⟩, h4⟩, h5⟩, h6⟩ := h
      obtain ⟨g1, g2, g3, g4⟩ := G.blt h2
      cases tg with
      | Tuple es k p => exact i_zip g1 g4 (chkE_ok a G h4).pe (chkE_ok b G h5).pe (star_cons h3 _ _) (star_cons h3b _ _) (star_any fun x hx => by rw [List.mem_singleton.mp hx]; exact h3b)
      | _ => simp [isTup] at h6
    · cases h
end
end Mi
/-! MiZf: the checker of statements, and its soundness. -/
namespace Mi
open PySem PySem.Spec PyProof.Rows L2 GxR
variable {T : Addr → Prop} {F : Fns} {tp : Bool}

section
variable {X : Cx} {W : WX} {ea eb : Expr} {ma mb : MX} {pos : Pos} {i j : Nat}
theorem AtS.grow {K : PySem.W.Frag} {lk : List Nat} {g g1 : Gh} {env env1 : Mi.Env} {h1 : Hx} {σ σ1 : L2.St} {H H1 : Hp} (a : AtS K T lk g env σ H g1 env1 h1 σ1 H1) {p : Addr} {o : HO} (hp : H1 p = none) : AtS K T lk g env σ H g1 env1 h1 σ1 (upd H1 p o) := ⟨a.fr.trans (Fram.grow a.rel lk hp), a.rel.grow hp⟩
/-- a, b = e, f: a name is captured, the row goes by a tuple -/
theorem n_parC {tg : Expr} {k2 : Nat} {pt2 : Pos} (hij : i ≠ j) (hg : PG X tg (gP X.K (.tup [i, j]))) (ha : PE X ea (tE X.K T X.mg W F ma)) (hb : PE X eb (tE X.K T X.mg W F mb)) (st : starEach [ea, eb] X.env = (false, eval ea X.env) :: starEach [eb] X.env) (st2 : starEach [eb] X.env = (false, eval eb X.env) :: starEach [] X.env)
    (hs : swapsWithSole [tg] (.Tuple [ea, eb] k2 pt2) pos.line X.env = pure false) (hw : swappedStores [tg] (.Tuple [ea, eb] k2 pt2) X.env = pure none) (h1 : (assignEach [tg] X.env).map (·.2) = [assign tg X.env]) :
    PS X (.Assign [tg] (.Tuple [ea, eb] k2 pt2) pos) (tS X.K T X.mg W F tp (.par i j ma mb)) := by
  refine PS.ok (ps_asg (pe_tup (pa_cons ha (pa_cons hb pa_nil st2) st)) hg hs hw h1) fun lk g env h σ H D tq r q => ?_
  simp only [exS] at q
  refine seqS r q fun o env1 h1 g1 v H1 c q1 => ?_
  refine seqS2 c.at mem_app_r q1 fun p env2 h2 g2 w H2 c2 q2 => ?_
  refine ⟨by rw [sizeLine_eq]; exact Nat.le_trans (show 2 ≤ 2 from Nat.le_refl 2) (by decide), fun tp0 hp0 => ?_⟩
  refine ⟨tp0, [v, w], rfl, SqT.of upd_same, rfl, ?_⟩
  have cl := c.later r c2.at
  unfold parV at q2
  split at q2
  · exact q2.elim
  · rename_i hh
    split at q2
    · rename_i s t es et
      have hit2 := hit_not (l := [i, j]) (lk := lk) fun z => hh (.inr z)
      have s1 := cl.slot es (ln := o.ln ++ p.ln) fun i hi => List.mem_append_left _ hi
      have s2 := c2.slot et (ln := o.ln ++ p.ln) fun i hi => List.mem_append_right _ hi
      have a0 := cl.ats.frz (o.ln ++ p.ln)
      have a1 := a0.put r (hit2 i (by simp)) s1
      have s2' : SlotR X.K H _ _ _ H2 t w := (SlotR.behind (i := i) s1 s2 fun hs p' e => ?_).there c.fr.there
      · exact ⟨v, [w], rfl, w, [], rfl, rfl, q2 _ _ _ (AtS.grow (a1.put r (hit2 j (by simp)) s2') hp0)⟩
      · have s0 := c.slot es (ln := o.ln) fun _ z => z
        unfold SlotR at s0
        rw [if_pos hs] at s0
        obtain ⟨p0, e1, _, _, _, _, e2, _⟩ := s0
        rw [e] at e1
        cases e1
        exact e2.there
    · exact q2.elim
end
def notComp : Expr → Bool
  | .ListComp .. => false
  | .SetComp .. => false
  | .DictComp .. => false
  | _ => true
def notTup : Expr → Bool
  | .Tuple .. => false
  | _ => true
/-- the comprehension's line and names -/
def lcLine (c : Cfg) (y : Str) (py : Pos) : Expr → Bool
  | .ListComp _ _ scope pos => decide (c.kof y = some .local) && (py.line == pos.line) && !(scope.names.any fun (n, k) => n == y && (k == .local || k == .cell))
  | _ => false
def isLc : MX → Bool
  | .lc .. => true
  | _ => false
/-- a name among them is captured -/
def capt (c : Cfg) (es : List Expr) : Bool := es.any fun e => match e with
  | .Name x _ => !(c.kof x == some .local)
  | _ => true
def isNo : MX → Bool
  | .c .none => true
  | _ => false
def opA (b : Bop) (o : Operator) : Bool :=
  match b, o with
  | .add, .Add => true
  | .sub, .Sub => true
  | _, _ => false
def chkKeys : List Str → List (Option Expr) → Bool
  | [], es => es.isEmpty
  | k :: ks, es => match es with
    | some (.Constant (.str s) _ _) :: es => decide (k = s) && chkKeys ks es
    | _ => false
mutual
def chkS : MS → Cfg → Stmt → Bool
  | .asg (.var i) m, c, s => match s with
    | .Assign [.Name x p] e _ => c.st i x && (notComp e || !(c.kof x == some .local) || (lcLine c x p e && isLc m)) && chkE m c e
    | _ => false
  | .asg (.tup is) m, c, s => match s with
    | .Assign [.Tuple es _ _] e _ => (notTup e || capt c es) && notComp e && chkNames c is es && chkE m c e
    | _ => false
  | .asg (.nst ps) m, c, s => match s with
    | .Assign [.Tuple es _ _] e _ => (notTup e || capt c es) && notComp e && chkPs c ps es && chkE m c e
    | _ => false
  | .asgBox i f ms, c, s => match s with
    | .Assign [.Name y _] (.Call (.Name x _) (e :: es) [] _) _ => c.gl x && decide ((⟨x, f, (e :: es).length, [], List.range (e :: es).length⟩ : Pt) ∈ c.pats) && chkEs ms c (e :: es) && c.st i y
    | _ => false
  | .par i j ma mb, c, s => match s with
    | .Assign [.Tuple [.Name x px, .Name y py] _ _] (.Tuple [ea, eb] _ _) _ => (decide (c.N[i]? = some x) && decide (c.N[j]? = some y) && decide (i ≠ j) && decide (c.kof x = some .local) && decide (c.kof y = some .local) &&
        noStar ea && noStar eb && (py.line == px.line) && !(([x, y] : List Str).eraseDups.length != 2) && !([ea, eb].all (foldedForSure 8)) && !([ea, eb].all (constantsAlone 8)) && chkE ma c ea && chkE mb c eb) ||
        (decide (i ≠ j) && capt c [.Name x px, .Name y py] && chkNames c [i, j] [.Name x px, .Name y py] && noStar ea && noStar eb && chkE ma c ea && chkE mb c eb)
    | _ => false
  | .setIx i mk m, c, s => match s with
    | .Assign [.Subscript (.Name x _) k _] e _ => c.vis i x && plnIx k && notTup e && notComp e && chkE mk c k && chkE m c e
    | _ => false
  | .setK i mk m, c, s => match s with
    | .Assign [.Subscript (.Name x _) k _] e _ => c.vis i x && plnIx k && notTup e && notComp e && chkE mk c k && chkE m c e
    | _ => false
  | .augV i op m, c, s => match s with
    | .AugAssign (.Name x _) ho e _ => c.st i x && opA op ho && chkE m c e
    | _ => false
  | .augIx i mk op m, c, s => match s with
    | .AugAssign (.Subscript (.Name x _) k _) ho e _ => c.vis i x && plnIx k && opA op ho && chkE mk c k && chkE m c e
    | _ => false
  | .ex m, c, s => match s with
    | .Expr e _ => notComp e && chkE m c e
    | _ => false
  | .ite mc ma mb, c, s => match s with
    | .If e a b _ => chkE mc c e && chkSs ma c a && chkSs mb c b
    | _ => false
  | .whl mc mb, c, s => match s with
    | .While e b [] _ => chkE mc c e && chkSs mb c b
    | _ => false
  | .fr p it mb, c, s => match s with
    | .For tg iter b [] _ => chkI it c tg iter && chkP c p tg && !isSet iter && chkSs mb c b
    | _ => false
  | .brk, _, s => match s with
    | .Break _ => true
    | _ => false
  | .cont, _, s => match s with
    | .Continue _ => true
    | _ => false
  | .pass, _, s => match s with
    | .Pass _ => true
    | _ => false
  | .ret m, c, s => match s with
    | .Return (some e) _ => chkE m c e
    | .Return none _ => isNo m
    | _ => false
  | .retD ks ms, c, s => match s with
    | .Return (some (.Dict kes ves _)) _ => chkKeys ks kes && chkEs ms c ves && decide (ks.length = ms.length) && decide (kes.length = ves.length) && decide (kes.length ≤ 15) && !kes.isEmpty
    | _ => false
  | .raise x m, c, s => match s with
    | .Raise (some (.Call (.Name y _) [e] [] _)) none _ => decide (x = y) && c.gl y && decide (y ∈ c.cls) && noStar e && chkE m c e
    | _ => false
def chkSs : List MS → Cfg → List Stmt → Bool
  | [], _, ss => match ss with
    | [] => true
    | _ => false
  | m :: ms, c, ss => match ss with
    | s :: ss => chkS m c s && chkSs ms c ss
    | [] => false
end
/-- where statements stand -/
structure GoodS (c : Cfg) (X : Cx) (T : Addr → Prop) (W : WX) (F : Fns) : Prop extends Good c X T W F where
  po : PassesOwn (model X.prog X.w) X.A X.env X.xe
  cl : ∀ x ∈ c.cls, ∃ k, ExAt X k x ∧ Room (k + 1) X.A

theorem sw_no {e : Expr} (h : notComp e = true) (t : Option Expr) (l : Nat) (env : PySem.Env) : swapsWith e t l env = pure false := by
  cases e <;> first | rfl | (simp [notComp] at h)
theorem sw_cell {e : Expr} {x : Str} {p : Pos} {l : Nat} {env : PySem.Env} (h : (env.kindOf x == some .local) = false) : swapsWith e (some (.Name x p)) l env = pure false := by
  cases e <;> first | rfl | (unfold swapsWith; simp only [h, Bool.and_false, Bool.false_and])
theorem sws_no {e : Expr} (h : notComp e = true) (t : Expr) (l : Nat) (env : PySem.Env) : swapsWithSole [t] e l env = pure false := sw_no h _ _ _
theorem st_no {e t : Expr} (h : notTup e = true) (env : PySem.Env) : swappedStores [t] e env = pure none := by
  cases e <;> first | (cases t <;> rfl) | (simp [notTup] at h; done)
def locN (env : PySem.Env) (l : Nat) : Expr → Option Str
  | .Name id pos => if env.kindOf id == some .local && pos.line == l then some id else none
  | _ => none
theorem capt_len {c : Cfg} {env : PySem.Env} {l : Nat} (hk : ∀ x, env.kindOf x = c.kof x) : ∀ {es : List Expr}, (es.filterMap (locN env l)).length ≤ es.length ∧ (capt c es = true → (es.filterMap (locN env l)).length < es.length)
  | [] => ⟨Nat.le_refl _, fun z => by cases z⟩
  | e :: es => by
    obtain ⟨h1, h2⟩ := capt_len hk (es := es) (l := l)
    have hc : ∀ o, locN env l e = o → ((e :: es).filterMap (locN env l)) = (match o with | some x => x :: es.filterMap (locN env l) | none => es.filterMap (locN env l)) := fun o z => by
      subst z
      rw [List.filterMap_cons]
      cases locN env l e <;> rfl
    cases z : locN env l e with
    | none =>
      rw [hc _ z]
      exact ⟨by simp only [List.length_cons]; omega, fun _ => by simp only [List.length_cons]; omega⟩
    | some x =>
      rw [hc _ z]
      refine ⟨by simp only [List.length_cons]; omega, fun w => ?_⟩
      unfold capt at w
      rw [List.any_cons, Bool.or_eq_true] at w
      rcases w with w | w
      · exfalso
        cases e with
        | Name y p =>
          simp only [locN, hk] at z
          simp only [Bool.not_eq_true'] at w
          rw [w] at z
          simp at z
        | _ => cases z
      · have := h2 w
        simp only [List.length_cons]
        omega
theorem st_capt {c : Cfg} {es : List Expr} {k : Nat} {p : Pos} {env : PySem.Env} (hk : ∀ x, env.kindOf x = c.kof x) (h : capt c es = true) (e : Expr) : swappedStores [.Tuple es k p] e env = pure none := by
  have key : ∀ L : List Str, L.length < es.length → (L.length != es.length || L.eraseDups.length != L.length) = true := fun L hl => by
    have : (L.length != es.length) = true := by simpa using Nat.ne_of_lt hl
    rw [this]
    rfl
  cases e with
  | Tuple vs k2 p2 =>
    have hn := (capt_len (l := ((es.head?.map (·.pos.line)).getD 0)) hk (es := es)).2 h
    unfold swappedStores
    simp only []
    split
    · rfl
    · split
      · rfl
      · exact if_pos (key _ hn)
  | _ => rfl
theorem opA_ok {b : Bop} {o : Operator} (h : opA b o = true) : (b = .add ∧ o = .Add) ∨ (b = .sub ∧ o = .Sub) := by
  unfold opA at h
  split at h
  · exact .inl ⟨rfl, rfl⟩
  · exact .inr ⟨rfl, rfl⟩
  · cases h
theorem set_eq {k : Expr} (h : plnIx k = true) (x : Str) (np tpos : Pos) (env : PySem.Env) (v : Value) : assign (.Subscript (.Name x np) k tpos) env v = (do
      let ov ← holding [v] (eval (.Name x np) env)
      let iv ← holding [v, ov] (eval k env)
      standAt tpos
      holding [v, ov, iv] (setItem ov iv v)
      release [v, ov, iv] []) := by
  cases k <;> first | rfl | (simp [plnIx] at h)
theorem aug_eq {k : Expr} (h : plnIx k = true) (ov iv new : Value) : augStore k ov iv new = (do holding [new, ov, iv] (setItem ov iv new); release [new, ov, iv] []; pure .next) := by
  cases k <;> first | rfl | (simp [plnIx] at h)
theorem par_eq {x y : Str} {px py pt pt2 : Pos} {kt k2 : Nat} {ea eb : Expr} {env : PySem.Env} (hk : env.scope.kind = .function) (hx : env.scope.names.lookup x = some .local) (hy : env.scope.names.lookup y = some .local) (h1 : noStar ea = true) (h2 : noStar eb = true) (hl : (py.line == px.line) = true)
    (hd : (([x, y] : List Str).eraseDups.length != 2) = false) (hf : [ea, eb].all (foldedForSure 8) = false) (hc : [ea, eb].all (constantsAlone 8) = false) : swappedStores [.Tuple [.Name x px, .Name y py] kt pt] (.Tuple [ea, eb] k2 pt2) env = pure (some [x, y]) := by
  have kx : env.kindOf x = some .local := hx
  have ky : env.kindOf y = some .local := hy
  have hb : env.blockKind = .function := by unfold Env.blockKind; rw [hk]; rfl
  have hs : ([ea, eb].any fun | .Starred .. => true | _ => false) = false := by
    cases ea <;> first | (simp [noStar] at h1; done) | (cases eb <;> first | (simp [noStar] at h2; done) | rfl)
  have hn : ([Expr.Name x px, .Name y py].filterMap fun
    | .Name id pos => if env.kindOf id == some .local && pos.line == (([Expr.Name x px, .Name y py].head?.map (·.pos.line)).getD 0) then some id else none
    | _ => none) = [x, y] := by
    have e1 : (px.line == px.line) = true := by simp
    have e0 : (([Expr.Name x px, .Name y py].head?.map (·.pos.line)).getD 0) = px.line := rfl
    rw [e0]
    simp only [List.filterMap_cons, List.filterMap_nil, kx, ky, hl, e1, BEq.rfl, Bool.and_self, if_true]
  have key : ∀ L : List Str, L = [x, y] → ¬ ((L.length != ([Expr.Name x px, .Name y py]).length || L.eraseDups.length != L.length) = true) := fun L e z => by
    subst e
    have hd2 : (([x, y] : List Str).eraseDups.length != [x, y].length) = false := hd
    rw [hd2] at z
    exact Bool.false_ne_true z
  unfold swappedStores
  simp only [hb, hf, hc]
  refine (if_neg ?_).trans ((if_neg ?_).trans ((if_neg ?_).trans ?_))
  · exact Bool.false_ne_true
  · exact fun z => Bool.false_ne_true (hs.symm.trans z)
  · exact key _ hn
  · exact congrArg (fun L => (pure (some L) : Sem (Option (List Str)))) hn
section
variable {c : Cfg} {X : Cx} {W : WX}
theorem pairs_ok (G : Good c X T W F) {pos : Pos} : ∀ {ks : List Str} {ms : List MX} {kes : List (Option Expr)} {ves : List Expr}, chkKeys ks kes = true → chkEs ms c ves = true → ks.length = ms.length → PPs X pos kes ves (dTrs X.K T X.mg W F ks ms)
  | [], [], kes, ves, h1, h2, _ => by
    simp only [chkKeys, List.isEmpty_iff] at h1
    subst h1
    cases ves with
    | nil => exact pps_nil
    | cons => simp [chkEs] at h2
  | k :: ks, m :: ms, kes, ves, h1, h2, hl => by
    simp only [chkKeys] at h1
    split at h1
    · cases ves with
      | nil => simp [chkEs] at h2
      | cons v ves =>
        simp only [chkEs, Bool.and_eq_true, decide_eq_true_eq] at h1 h2
        obtain ⟨rfl, h1⟩ := h1
        exact pps_cons pe_str (chkE_ok m G h2.1.2).pe (pairs_ok G h1 h2.2 (Nat.succ.inj hl))
    · cases h1
  | [], _ :: _, _, _, _, _, hl => by cases hl
  | _ :: _, [], _, _, _, _, hl => by cases hl
theorem keys_some : ∀ {ks : List Str} {kes : List (Option Expr)}, chkKeys ks kes = true → kes.all (·.isSome) = true
  | [], kes, h => by
    simp only [chkKeys, List.isEmpty_iff] at h
    subst h
    rfl
  | k :: ks, kes, h => by
    simp only [chkKeys] at h
    split at h
    · simp only [Bool.and_eq_true] at h
      rw [List.all_cons, keys_some h.2]
      rfl
    · cases h
theorem lc_ok (G : GoodS c X T W F) {i : Nat} {x : Str} {p : Pos} {m : MX} {e : Expr} {pos : Pos} (h1 : c.st i x = true) (h2 : lcLine c x p e = true) (h3 : isLc m = true) (h : chkE m c e = true) : PS X (.Assign [.Name x p] e pos) (tS X.K T X.mg W F tp (.asg (.var i) m)) := by
  obtain ⟨s1, s2, s3⟩ := G.st h1
  unfold isLc at h3
  split at h3
  · rename_i own pt it k m
    simp only [chkE] at h
    split at h
    · rename_i elt tg iter ifs scope lpos
      simp only [lcLine, Bool.and_eq_true, decide_eq_true_eq, Bool.not_eq_true'] at h h2
      obtain ⟨⟨k1, k2⟩, k3⟩ := h2
      obtain ⟨⟨⟨⟨⟨⟨h1, h2⟩, h3⟩, h4⟩, h5⟩, h6⟩, h7⟩ := h
      have ok : BlkOk X.N X.env.scope scope (ownP c own) := blkOk_by (by rw [G.eN]; exact blkC_names (sc := sc0 c) G.kd.symm h1)
      have GB := fun s H C cl fp => G.toGood.blk h2 s H C cl fp
      have hy : X.env.scope.names.lookup x = some .local := (G.toGood.look x).trans k1
      have key := n_asgLc (tp := tp) (spos := pos) (py := p) (c := k) (m := m) (pos := lpos) (ifs := ifs) G.calm G.nd s1 hy (sw_true G.kind hy k2 k3) (chkI_ok it G.toGood h3) ok (fun s H C cl fp => chkP_ok (GB s H C cl fp) h4) (fun s H C cl fp => by
        split at h7
        · split at h7
          · exact ts_nil
          · cases h7
        · exact pts_one (chkE_ok k (GB s H C cl fp) h7).pt
        · cases h7) (fun s H C cl fp => (chkE_ok m (GB s H C cl fp) h6).pe) (fun x => fold_ok h5 _ x)
      rw [ownP_snd] at key
      exact key
    · cases h
  · cases h3
theorem ret_ok (G : GoodS c X T W F) {m : MX} {e : Expr} {pos : Pos} (h : chkE m c e = true) : PS X (.Return (some e) pos) (tS X.K T X.mg W F tp (.ret m)) := by
  by_cases hm : ∃ i, m = .var i
  · obtain ⟨i, rfl⟩ := hm
    simp only [chkE] at h
    split at h
    · obtain ⟨g1, g2, g3, g4⟩ := G.toGood.vis h
      exact n_retV g1 g2 g3 g4
    · cases h
  · exact n_ret (fun i z => hm ⟨i, z⟩) (chkE_ok m G.toGood h).pe
mutual
theorem chkS_ok : ∀ (m : MS) {c : Cfg} {X : Cx} {W : WX} {s : Stmt}, GoodS c X T W F → chkS m c s = true → PS X s (tS X.K T X.mg W F tp m)
  | .asg (.var i) m, c, X, W, s, G, h => by
    simp only [chkS] at h
    split at h
    · simp only [Bool.and_eq_true, Bool.or_eq_true] at h
      obtain ⟨⟨h1, h2⟩, h3⟩ := h
      rcases h2 with (h2 | h2) | h2
      · obtain ⟨s1, s2, s3⟩ := G.st h1
        exact n_asg G.nd s1 s2 (chkE_ok m G.toGood h3).pe (sw_no h2 _ _ _) s3
      · obtain ⟨s1, s2, s3⟩ := G.st h1
        refine n_asg G.nd s1 s2 (chkE_ok m G.toGood h3).pe (sw_cell ?_) s3
        rename_i x p e pos
        rw [show X.env.kindOf x = c.kof x from G.toGood.look x]
        simpa using h2
      · exact lc_ok G h1 h2.1 h2.2 h3
    · cases h
  | .asg (.tup is) m, c, X, W, s, G, h => by
    simp only [chkS] at h
    split at h
    · simp only [Bool.and_eq_true] at h
      obtain ⟨⟨⟨h1, h2⟩, h3⟩, h4⟩ := h
      exact n_asgT (g_tup G.calm (chkNames_ok G.toGood h3)) (chkE_ok m G.toGood h4).pe (sws_no h2 _ _ _) ((Bool.or_eq_true _ _).mp h1 |>.elim (fun z => st_no z _) (fun z => st_capt (fun x => G.toGood.look x) z _)) rfl
    · cases h
  | .asg (.nst ps) m, c, X, W, s, G, h => by
    simp only [chkS] at h
    split at h
    · simp only [Bool.and_eq_true] at h
      obtain ⟨⟨⟨h1, h2⟩, h3⟩, h4⟩ := h
      exact n_asgN (g_nst G.calm (chkPs_ok G.toGood h3)) (chkE_ok m G.toGood h4).pe (sws_no h2 _ _ _) ((Bool.or_eq_true _ _).mp h1 |>.elim (fun z => st_no z _) (fun z => st_capt (fun x => G.toGood.look x) z _)) rfl
    · cases h
  | .asgBox i f ms, c, X, W, s, G, h => by
    simp only [chkS] at h
    split at h
    · rename_i y py x xp e es cp pos
      simp only [Bool.and_eq_true, decide_eq_true_eq] at h
      obtain ⟨⟨⟨h1, h2⟩, h3⟩, h4⟩ := h
      obtain ⟨g1, g2, g3⟩ := G.toGood.gl h1
      obtain ⟨s1, s2, s3⟩ := G.st h4
      have hs := chkEs_star h3
      obtain ⟨kf, A, hr⟩ := G.fnat h2
      exact n_asgBox A hr G.tk g1 (chkEs_ok ms G.toGood h3) (chkEs_len h3) g2 (star_cons (hs e List.mem_cons_self) es _) (star_any fun x hx => hs x (List.mem_cons_of_mem _ hx)) G.nd s1 s2 rfl s3
    · cases h
  | .par i j ma mb, c, X, W, s, G, h => by
    simp only [chkS] at h
    split at h
    · rcases (Bool.or_eq_true _ _).mp h with h | h
      · simp only [Bool.and_eq_true, decide_eq_true_eq, Bool.not_eq_true'] at h
        obtain ⟨⟨⟨⟨⟨⟨⟨⟨⟨⟨⟨⟨h1, h2⟩, h3⟩, h4⟩, h5⟩, h6⟩, h7⟩, h8⟩, h9⟩, h10⟩, h11⟩, h12⟩, h13⟩ := h
        have e1 := (G.toGood.look _).trans h4
        have e2 := (G.toGood.look _).trans h5
        exact n_par G.calm G.nd (by rw [G.eN]; exact h1) (by rw [G.eN]; exact h2) h3 e1 e2 (chkE_ok ma G.toGood h12).pe (chkE_ok mb G.toGood h13).pe (star_cons h6 _ _) (star_cons h7 _ _) (par_eq G.kind e1 e2 h6 h7 h8 h9 h10 h11) rfl
      · simp only [Bool.and_eq_true, decide_eq_true_eq] at h
        obtain ⟨⟨⟨⟨⟨⟨h1, h2⟩, h3⟩, h4⟩, h5⟩, h6⟩, h7⟩ := h
        exact n_parC h1 (g_tup G.calm (chkNames_ok G.toGood h3)) (chkE_ok ma G.toGood h6).pe (chkE_ok mb G.toGood h7).pe (star_cons h4 _ _) (star_cons h5 _ _) (sws_no rfl _ _ _) (st_capt (fun x => G.toGood.look x) h2 _) rfl
    · cases h
  | .setIx i mk m, c, X, W, s, G, h => by
    simp only [chkS] at h
    split at h
    · simp only [Bool.and_eq_true] at h
      obtain ⟨⟨⟨⟨⟨h1, h2⟩, h3⟩, h4⟩, h5⟩, h6⟩ := h
      obtain ⟨g1, g2, g3, g4⟩ := G.toGood.vis h1
      exact n_setIx G.toGood.un1 g1 g2 g3 g4 (chkE_ok m G.toGood h6).pe (chkE_ok mk G.toGood h5).pe (fun v => set_eq h2 _ _ _ _ v) (sws_no h4 _ _ _) (st_no h3 _) rfl
    · cases h
  | .setK i mk m, c, X, W, s, G, h => by
    simp only [chkS] at h
    split at h
    · simp only [Bool.and_eq_true] at h
      obtain ⟨⟨⟨⟨⟨h1, h2⟩, h3⟩, h4⟩, h5⟩, h6⟩ := h
      obtain ⟨g1, g2, g3, g4⟩ := G.toGood.vis h1
      exact n_setK (by have := G.toGood.un; omega) g1 g2 g3 g4 (chkE_ok m G.toGood h6).pe (chkE_ok mk G.toGood h5).pe (fun v => set_eq h2 _ _ _ _ v) (sws_no h4 _ _ _) (st_no h3 _) rfl
    · cases h
  | .augV i op m, c, X, W, s, G, h => by
    simp only [chkS] at h
    split at h
    · simp only [Bool.and_eq_true] at h
      obtain ⟨⟨h1, h2⟩, h3⟩ := h
      obtain ⟨s1, s2, s3⟩ := G.st h1
      exact n_augV (opA_ok h2) G.nd s1 s2 s3 (chkE_ok m G.toGood h3).pe
    · cases h
  | .augIx i mk op m, c, X, W, s, G, h => by
    simp only [chkS] at h
    split at h
    · simp only [Bool.and_eq_true] at h
      obtain ⟨⟨⟨⟨h1, h2⟩, h3⟩, h4⟩, h5⟩ := h
      obtain ⟨g1, g2, g3, g4⟩ := G.toGood.vis h1
      exact n_augIx (opA_ok h3) G.toGood.un1 g1 g2 g3 g4 (chkE_ok m G.toGood h5).pe (chkE_ok mk G.toGood h4).pe (fun ov iv new => aug_eq h2 ov iv new)
    · cases h
  | .ex m, c, X, W, s, G, h => by
    simp only [chkS] at h
    split at h
    · simp only [Bool.and_eq_true] at h
      exact n_ex (chkE_ok m G.toGood h.2).pe (sw_no h.1 _ _ _)
    · cases h
  | .ite mc ma mb, c, X, W, s, G, h => by
    simp only [chkS] at h
    split at h
    · simp only [Bool.and_eq_true] at h
      exact n_if (chkE_ok mc G.toGood h.1.1).pt (chkSs_ok ma G h.1.2) (chkSs_ok mb G h.2)
    · cases h
  | .whl mc mb, c, X, W, s, G, h => by
    simp only [chkS] at h
    split at h
    · simp only [Bool.and_eq_true] at h
      exact n_whl G.po (chkE_ok mc G.toGood h.1).pt (chkSs_ok mb G h.2)
    · cases h
  | .fr p it mb, c, X, W, s, G, h => by
    simp only [chkS] at h
    split at h
    · simp only [Bool.and_eq_true, Bool.not_eq_true'] at h
      obtain ⟨⟨⟨h1, h2⟩, h3⟩, h4⟩ := h
      exact n_for G.po G.calm (chkI_ok it G.toGood h1) (chkP_ok G.toGood h2) (chkSs_ok mb G h4) (fun x => fold_ok h3 _ x)
    · cases h
  | .brk, c, X, W, s, G, h => by
    simp only [chkS] at h
    split at h
    · exact n_brk
    · cases h
  | .cont, c, X, W, s, G, h => by
    simp only [chkS] at h
    split at h
    · exact n_cont
    · cases h
  | .pass, c, X, W, s, G, h => by
    simp only [chkS] at h
    split at h
    · exact n_pass
    · cases h
  | .ret m, c, X, W, s, G, h => by
    simp only [chkS] at h
    split at h
    · exact ret_ok G h
    · unfold isNo at h
      split at h
      · exact n_retN
      · cases h
    · cases h
  | .retD ks ms, c, X, W, s, G, h => by
    simp only [chkS] at h
    split at h
    · simp only [Bool.and_eq_true, decide_eq_true_eq, Bool.not_eq_true'] at h
      obtain ⟨⟨⟨⟨⟨h1, h2⟩, h3⟩, h4⟩, h5⟩, h6⟩ := h
      exact n_retD (pairs_ok G.toGood h1 h2 h3) h3 (keys_some h1) h4 (fun z => by subst z; cases h6) h5
    · cases h
  | .raise x m, c, X, W, s, G, h => by
    simp only [chkS] at h
    split at h
    · simp only [Bool.and_eq_true, decide_eq_true_eq] at h
      obtain ⟨⟨⟨⟨rfl, h2⟩, h3⟩, h5⟩, h6⟩ := h
      obtain ⟨g1, g2, g3⟩ := G.toGood.gl h2
      obtain ⟨k, A, hr⟩ := G.cl _ h3
      exact n_raise G.calm G.tk A hr g1 (chkE_ok m G.toGood h6).pe (star_cons h5 _ _) g2 rfl
    · cases h
theorem chkSs_ok : ∀ (ms : List MS) {c : Cfg} {X : Cx} {W : WX} {ss : List Stmt}, GoodS c X T W F → chkSs ms c ss = true → PSs X ss (tSs X.K T X.mg W F tp ms)
  | [], c, X, W, [], G, h => n_end
  | [], c, X, W, _ :: _, G, h => by simp [chkSs] at h
  | _ :: _, c, X, W, [], G, h => by simp [chkSs] at h
  | m :: ms, c, X, W, s :: ss, G, h => by
    simp only [chkSs, Bool.and_eq_true] at h
    exact n_seq (chkS_ok m G h.1) (chkSs_ok ms G h.2)
end
end
end Mi
/-! MiZg: all defs of a text hold their promises. -/
namespace Mi
open PySem PySem.Spec PyProof.Rows L2 GxR
/-- a def as the checker sees it -/
structure DefI where
  f : Nat
  x : Str
  ps : List Str
  N : List Str
  gen : Bool
  st : Stmt
def DefI.cfg (r : DefI) (Q : List Pt) (cls bare : List Str) : Cfg := { N := r.N, kd := (L2.defScope r.st).names, pats := Q, cls := cls, bare := bare, fnAll := true, fnL := [], gen := r.gen, rp := false, lv := 1 }
def scOk (N ps : List Str) (sc : Scope) : Bool := decide (sc.kind = .function) && !sc.isCoroutine && !sc.isGenerator && decide N.Nodup && decide (N.take ps.length = ps) &&
  ps.all (fun x => decide (sc.names.lookup x = some .local) || decide (sc.names.lookup x = some .cell)) && sc.names.all fun y => decide (y.2 ≠ .free)
theorem scOk_ok {N ps : List Str} {sc : Scope} (h : scOk N ps sc = true) : FnScope N ps sc := by
  unfold scOk at h
  simp only [Bool.and_eq_true, decide_eq_true_eq, Bool.not_eq_true', List.all_eq_true, Bool.or_eq_true] at h
  obtain ⟨⟨⟨⟨⟨⟨h1, h2⟩, h3⟩, h4⟩, h5⟩, h6⟩, h7⟩ := h
  exact ⟨h1, h2, h3, h4, h5, h6, h7⟩
/-- what a check of the text tells -/
def DefI.ok (r : DefI) (D : Nat → Option Def) (Q : List Pt) (cls bare : List Str) : Bool :=
  match D r.f with
  | some d => scOk r.N r.ps (L2.defScope r.st) && decide (r.N.length = d.size) && decide (r.ps.length = d.args) && decide (d.args ≤ d.size) && chkSs d.body (r.cfg Q cls bare) (L2.defBody r.st)
  | none => false
section
variable {P : Program} {w : World} {K : PySem.W.Frag} {T : Addr → Prop} {mg : Str → Option Value} {base : Heap} {D : Nat → Option Def} {Q : List Pt} {cls bare : List Str}
/-- where a def stands in the written part -/
structure DefAt (K : PySem.W.Frag) (T : Addr → Prop) (mg : Str → Option Value) (base : Heap) (Q : List Pt) (r : DefI) (fa : Addr) (fd : FuncData) : Prop where
  at' : mg r.x = some (.ref fa)
  keep : PySem.W.keepIn K (.ref fa) = true
  ex : ∃ (oc : Value) (od : Option Addr) (dV kV doc pm : Value) (an : Option Addr) (cdv ct : Value) (osl : Array (Option Value)), fd = PySem.W.fnOf r.x r.x (L2.defArgs r.st) (L2.defBody r.st) (L2.defScope r.st) dV kV doc pm an cdv ct ∧
    K.lookup fa = some ⟨oc, od, .func fd, osl⟩ ∧ PySem.W.codeIn K cdv r.x = true ∧ (r.gen = true → ∃ cc Pa, TabB base mg cc Pa ∧ T Pa ∧ cdv = .ref cc)
  kb : ∀ q ∈ Q, q.x = r.x → KB K fd r.ps q.n q.ks q.perm
/-- an own error class, with no context told -/
def ExF (P : Program) (w : World) (K : PySem.W.Frag) (mg : Str → Option Value) (base : Heap) (k : Nat) (x : Str) : Prop :=
  ∃ (C fI : Addr) (fd : FuncData) (ps : List Str), mg x = some (.ref C) ∧ OexC K C ∧ PySem.W.findIn K (.ref C) "value" = some none ∧ PySem.W.findIn K (.ref C) "__init__" = some (some (.ref fI)) ∧ PySem.W.typeIn K (.ref fI) = some (.type "function") ∧
    FnOk P w K mg base (L2.CX P w) k fI fd ps (spI K) ∧ Binds K fd ps []
theorem run_no {f : Nat} {vs : List V} {H : Hp} {R : VK} {E : XK} : ¬ spR K T mg (run D 0 f) vs H R E := fun ⟨_, _, _, _, _, a⟩ => a.elim
theorem all_ok {rs : List DefI} (hS : ∀ r ∈ rs, r.ok D Q cls bare = true) (hA : ∀ r ∈ rs, ∃ fa fd, DefAt K T mg base Q r fa fd) (hQ : ∀ q ∈ Q, ∃ r ∈ rs, r.x = q.x ∧ r.f = q.f) (hb : ∀ x ∈ bare, mg x = none) (hc : ∀ x ∈ cls, ExF P w K mg base 2 x) :
    ∀ (n : Nat) (r : DefI), r ∈ rs → ∀ fa fd, DefAt K T mg base Q r fa fd → FnOk P w K mg base (L2.CX P w) (2 * n + 3) fa fd r.ps (spR K T mg (run D n r.f))
  | 0, r, hr, fa, fd, A => ⟨fun _ _ _ _ h => (run_no h).elim, fun _ _ _ _ _ _ _ _ _ _ _ _ _ h => (run_no h).elim⟩
  | n + 1, r, hr, fa, fd, A => by
    have ih := all_ok hS hA hQ hb hc n
    have ok := hS r hr
    unfold DefI.ok at ok
    cases hd : D r.f with
    | none => rw [hd] at ok; cases ok
    | some d =>
      rw [hd] at ok
      simp only [Bool.and_eq_true, decide_eq_true_eq] at ok
      obtain ⟨⟨⟨⟨h1, h2⟩, h3⟩, h4⟩, h5⟩ := ok
      obtain ⟨oc, od, dV, kV, doc, pm, an, cdv, ct, osl, rfl, lk, hcd, hg⟩ := A.ex
      have S := scOk_ok h1
      refine fn_def (k := 2 * n + 4) lk hcd S hd h2 h3 h4 fun A' outer s H E hroom tk po => ?_
      refine chkSs_ok d.body (c := r.cfg Q cls bare) ⟨⟨rfl, rfl, S.nd, rfl, S.kind, ⟨2 * n + 3, 2 * n + 4, Nat.le_refl _, hroom, fun q hq => ?_⟩, tk, hb, fun _ _ => rfl, (fun x hx => by cases hx), fun z => ?_, (fun z => by cases z)⟩, po, fun x hx => ⟨2, ⟨hc x hx⟩, hroom.mono (by omega)⟩⟩ h5
      · obtain ⟨r2, m2, e1, e2⟩ := hQ q hq
        obtain ⟨fa2, fd2, A2⟩ := hA r2 m2
        have key := ih r2 m2 fa2 fd2 A2
        rw [e2] at key
        exact ⟨fa2, fd2, r2.ps, by rw [← e1]; exact A2.at', A2.keep, key, A2.kb q hq e1.symm⟩
      · obtain ⟨cc, Pa, t1, t2, rfl⟩ := hg z
        exact ⟨cc, Pa, t1, t2, rfl⟩
end
end Mi
/-! MiZh: the __init__ of own errors. -/
namespace Mi
open PySem PySem.Spec PyProof.Rows L2 GxR
def initOk (st : Stmt) : Bool := scOk ["self", "value"] ["self", "value"] (L2.defScope st) && decide ((L2.defScope st).names.lookup ("self" : Str) = some NameKind.local) && decide ((L2.defScope st).names.lookup ("value" : Str) = some NameKind.local) && match L2.defBody st with
  | [.Assign [.Attribute (.Name a _) f _] (.Name b _) _] => decide (a = "self") && decide (b = "value") && decide (f = "value")
  | _ => false
theorem init_fn {P : Program} {w : World} {K : PySem.W.Frag} {mg : Str → Option Value} {base : Heap} {st : Stmt} {fI : Addr} {name qual : Str} {oc : Value} {od an : Option Addr} {osl : Array (Option Value)} {dV kV doc pm cdv ct : Value} (h : initOk st = true)
    (lk : K.lookup fI = some ⟨oc, od, .func (PySem.W.fnOf name qual (L2.defArgs st) (L2.defBody st) (L2.defScope st) dV kV doc pm an cdv ct), osl⟩) (hcd : PySem.W.codeIn K cdv qual = true) :
    FnOk P w K mg base (L2.CX P w) 1 fI (PySem.W.fnOf name qual (L2.defArgs st) (L2.defBody st) (L2.defScope st) dV kV doc pm an cdv ct) ["self", "value"] (spI K) := by
  unfold initOk at h
  simp only [Bool.and_eq_true, decide_eq_true_eq] at h
  obtain ⟨⟨⟨h1, hs⟩, hv⟩, h2⟩ := h
  have S := scOk_ok h1
  refine fn_of (N := ["self", "value"]) lk hcd S (fun vs H Q E ⟨a, C, v, e, _⟩ => by rw [e]; rfl) fun A outer s H vs Q E hr ⟨a, C, v, e, T, hf, ha, k⟩ => ?_
  subst e
  split at h2
  · rename_i x p f p2 y p3 pos eb
    simp only [Bool.and_eq_true, decide_eq_true_eq] at h2
    obtain ⟨⟨rfl, rfl⟩, rfl⟩ := h2
    refine ⟨tOst K "value" (tVar 0) (tVar 1), ?_, ?_⟩
    · rw [eb]
      exact pss_one (ps_ost (pe_var (i := 0) rfl (.inl hs) (by decide) (by decide)) (pe_var (i := 1) rfl (.inl hv) (by decide) (by decide)))
    · exact ⟨v, rfl, .ref a, rfl, a, C, rfl, T, hf, .inl ⟨ha, k⟩⟩
  · cases h2
end Mi
/-! MiZi: what the head tells, read for the layer. -/
namespace Mi
open PySem PySem.Spec PyProof.Rows L2 GxR
def oexB (K : PySem.W.Frag) (C : Addr) : Bool := (match K.lookup C with
    | some ⟨.type "type", _, .cls cd, sl⟩ => (match cd.mro, sl.toList with
      | .ref C' :: bm, [_, _, _, _, some (.builtin n), _] => C' == C && n == "ValueError.__new__" && !cd.hasDel && PySem.HandSPX.refsVE bm && cd.hasDict
      | _, _ => false)
    | _ => false) && He.eqO (PySem.W.findIn K (.ref C) "__setattr__") (some (some (.builtin "object.__setattr__"))) && decide (PySem.W.subIn K (.ref C) (.type "BaseException") = some true) && decide (PySem.W.typeIn K (.ref C) = some (.type "type")) && PySem.W.keepIn K (.ref C)
theorem oexB_ok {K : PySem.W.Frag} {C : Addr} (h : oexB K C = true) : OexC K C := by
  unfold oexB at h
  simp only [Bool.and_eq_true, decide_eq_true_eq] at h
  obtain ⟨⟨⟨⟨h1, h2⟩, h3⟩, h4⟩, h5⟩ := h
  refine ⟨?_, He.eqO_ok h2, h3, h4, h5⟩
  split at h1
  · rename_i dd cd sl ho
    split at h1
    · rename_i C' bm k0 k1 k2 k3 n k5 hm hs
      simp only [Bool.and_eq_true, beq_iff_eq, Bool.not_eq_true'] at h1
      obtain ⟨⟨⟨⟨rfl, rfl⟩, hdel⟩, ht⟩, hh⟩ := h1
      obtain ⟨nm, bs, mro, ns, qn, hd, sn, sub, ab, col, del⟩ := cd
      dsimp only at hm hdel hh
      subst hm hdel hh
      have hsl : sl = #[k0, k1, k2, k3, some (.builtin "ValueError.__new__"), k5] := by
        obtain ⟨l⟩ := sl
        simp only at hs
        rw [hs]
      subst hsl
      exact ⟨nm, qn, ns, bs, bm, sn, sub, ab, col, dd, k0, k1, k2, k3, k5, ho, ht⟩
    · cases h1
  · cases h1
def DefI.dd (r : DefI) : He.DefD := ⟨(r.x, none), r.x, r.x, L2.defArgs r.st, L2.defBody r.st, L2.defScope r.st, [], []⟩
/-- the one __init__ of the text: the class that has it, its def -/
structure InitI where
  c : Str
  st : Stmt
def InitI.dd (i : InitI) : He.DefD := ⟨(i.c, some "__init__"), "__init__", i.c ++ ("." : Str) ++ ("__init__" : Str), L2.defArgs i.st, L2.defBody i.st, L2.defScope i.st, [], []⟩
/-- an error class, by its name -/
def errB (i : InitI) (K : PySem.W.Frag) (x : Str) : Bool := oexB K (He.ga K x) && He.eqO (PySem.W.findIn K (.ref (He.ga K x)) "value") (some none) && He.eqO (PySem.W.findIn K (.ref (He.ga K x)) "__init__") (some (some (.ref (He.fAd K (i.c, some "__init__"))))) && PySem.W.isFn K (.ref (He.fAd K (i.c, some "__init__")))
section
variable {P : Program} {w : World} {K : PySem.W.Frag} {T : Addr → Prop} {mg : Str → Option Value} {base h : Heap} {Q : List Pt}
theorem exF_of {i : InitI} {x : Str} {fd : FuncData} (h1 : errB i K x = true) (hm : mg x = some (.ref (He.ga K x))) (hi : initOk i.st = true) (F : FunD K "__init__" i.dd.qual (L2.defArgs i.st) (L2.defBody i.st) (L2.defScope i.st) [] [] (He.fAd K (i.c, some "__init__")) fd)
    (hb : ∀ (kV doc pm : Value) (an : Option Addr) (cdv ct : Value) (us : List Value), us.length = 2 → bindArgs (PySem.W.fnOf "__init__" i.dd.qual (L2.defArgs i.st) (L2.defBody i.st) (L2.defScope i.st) .none kV doc pm an cdv ct) ⟨us, []⟩ = pure ((["self", "value"] : List Str).zip us)) : ExF P w K mg base 2 x := by
  unfold errB at h1
  simp only [Bool.and_eq_true] at h1
  obtain ⟨⟨⟨a1, a2⟩, a3⟩, a4⟩ := h1
  obtain ⟨oc, od, dV, kV, doc, pm, an, cdv, ct, osl, rfl, lk, hcd, hd, _⟩ := F.ex
  have e : dV = .none := by
    rcases hd with ⟨_, e⟩ | ⟨e, _⟩
    · exact e
    · exact absurd rfl e
  subst e
  refine ⟨_, _, _, _, hm, oexB_ok a1, He.eqO_ok a2, He.eqO_ok a3, ?_, (init_fn hi lk hcd).mono (by omega), .all fun us hu => hb _ _ _ _ _ _ us hu⟩
  unfold PySem.W.isFn at a4
  simpa using a4
theorem defAt_of {r : DefI} {fd : FuncData} (hm : mg r.x = some (.ref (He.ga K r.x))) (F : FunD K r.x r.x (L2.defArgs r.st) (L2.defBody r.st) (L2.defScope r.st) [] [] (He.ga K r.x) fd)
    (kb : ∀ (kV doc pm : Value) (an : Option Addr) (cdv ct : Value), ∀ q ∈ Q, q.x = r.x → KB K (PySem.W.fnOf r.x r.x (L2.defArgs r.st) (L2.defBody r.st) (L2.defScope r.st) .none kV doc pm an cdv ct) r.ps q.n q.ks q.perm)
    (ht : r.gen = true → TabB base mg (He.cT K (r.x, none)).1 (He.cT K (r.x, none)).2 ∧ T (He.cT K (r.x, none)).2) : DefAt K T mg base Q r (He.ga K r.x) fd := by
  obtain ⟨oc, od, dV, kV, doc, pm, an, cdv, ct, osl, rfl, lk, hcd, hd, _⟩ := F.ex
  have e : dV = .none := by
    rcases hd with ⟨_, e⟩ | ⟨e, _⟩
    · exact e
    · exact absurd rfl e
  subst e
  refine ⟨hm, F.kp, ⟨oc, od, .none, kV, doc, pm, an, cdv, ct, osl, rfl, lk, hcd, fun z => ?_⟩, kb _ _ _ _ _ _⟩
  obtain ⟨t1, t2⟩ := ht z
  obtain ⟨c, rfl⟩ := He.codeIn_ref hcd
  have ec : He.codeOf K (r.x, none) = c := He.codeOf_eq (p := (r.x, none)) lk rfl
  have e1 : (He.cT K (r.x, none)).1 = c := ec
  rw [e1] at t1
  exact ⟨c, _, t1, t2, rfl⟩
end
end Mi
/-! MiZj: the law's def, run where no guard stands. -/
namespace Mi
open PySem PySem.Spec PyProof.Rows L2 GxR
section
variable {P : Program} {w : World} {K : PySem.W.Frag} {mg : Str → Option Value} {base : Heap}
/-- a def's run, its surroundings fixed -/
theorem run_here {CX : CXT} {k : Nat} {fa : Addr} {nm ql : Str} {pr : Arguments} {bd : List Stmt} {sc : Scope} {v1 v2 v3 v4 v5 v6 v7 : Value} {a1 a2 : Option Addr} {sl : Array (Option Value)} {N ps : List Str}
    (at' : K.lookup fa = some ⟨v7, a2, .func (PySem.W.fnOf nm ql pr bd sc v1 v2 v3 v4 a1 v5 v6), sl⟩) (cd : PySem.W.codeIn K v5 ql = true) (S : FnScope N ps sc)
    {A : Around} {o : List PySem.Env} {s : Shared} {H : Hp} {args : Args} {us : List Value} {vs : List V} {Q : VK} {E : XK} {t : TS} (room : Room (k + 1) A) (e0 : Env0 P w K mg base A o s H)
    (hb : BindsTo s (PySem.W.fnOf nm ql pr bd sc v1 v2 v3 v4 a1 v5 v6) args (ps.zip us)) (rv : Vals vs us) (hl : vs.length = ps.length)
    (body : PSs (cxOf CX P w K mg base N ql sc fa v5 A o s H E) bd t) (rd : t { nx := fun _ H' => Q .non H', rt := Q } (L2.start N vs) H) :
    codeAny (model P w) A (.call (.ref fa) args) (L2.CR CX o P w H s Q E) s := by
  have inK : K.In s.heap := e0.mod.kin.keeps fun b x e => (e0.bs b x e).1
  have kinds : ∀ y ∈ ps.zip us, sc.names.lookup y.1 = some .local ∨ (sc.names.lookup y.1 = some .cell ∧ ((cellsFrom (s.heap.objs.size + 1) sc.names []).lookup y.1).isSome = true) := by
    intro y hy
    obtain ⟨n, v⟩ := y
    exact (S.par n (List.of_mem_zip hy).1).imp id fun z => ⟨z, PySem.W.cellsFrom_some _ _ _ (.inl z)⟩
  refine codeAny_call_function room.depth (inK _ _ at') rfl S.co S.gen rfl (PySem.W.codeRec_of inK cd) (hb _ _ _ _ (wpAny_newFunctionEnv_cells S.kind kinds fun env ee s1 x => ?_))
  subst ee
  have lim : s.heap.NoLimit := e0.mod.nolimit.keeps fun b y e => (e0.bs b y e).1
  refine ⟨lim.keeps x.toInCall.keep, codeAny_func ?_⟩
  have J0 : Inv (cxOf CX P w K mg base N ql sc fa v5 A o s H E) [] (L2.start N vs) H s1 := inv_start S room.hd e0 hl rv x
  refine wpAny_mono (body.run [] s1 (L2.start N vs) H _ J0 rd) (fun fl s' hs => ?_) fun e s' hs => hs
  cases fl with
  | next =>
    obtain ⟨_, H', J, q⟩ := hs
    exact ⟨V.non, H', J.os, J.bare, J.base, J.hok, rfl, q⟩
  | ret u =>
    obtain ⟨v, _, H', J, ru, q⟩ := hs
    exact ⟨v, H', J.os, J.bare, J.base, J.hok, ru, q⟩
  | brk =>
    obtain ⟨_, _, _, q⟩ := hs
    exact q.elim
  | cont =>
    obtain ⟨_, _, _, q⟩ := hs
    exact q.elim
end
end Mi
/-! MiZk: the end of a law: one call, at the caller. -/
namespace Mi
open PySem PySem.Spec PyProof.Rows L2 GxR
/-- an empty table of a code object -/
abbrev tabO : Obj := { cls := .none, data := .fields #[] }
abbrev lstO (vs : List Value) : Obj := { cls := .type "list", data := .seq vs.toArray }
/-- what is tracked at the begin: the tables, the script (where it is not written down) -/
def H0 (ts : List Addr) (a : Addr) (own : Bool) (vs : List Value) (ns : List Int) : Hp := fun b => if b ∈ ts then some (.tbl #[]) else if (own && decide (b = a)) = true then some (.frz (lstO vs) (.lst (ns.map V.int))) else none
section
variable {ts : List Addr} {a : Addr} {own : Bool} {vs : List Value} {ns : List Int}
theorem H0_cases (b : Addr) : (b ∈ ts ∧ H0 ts a own vs ns b = some (.tbl #[])) ∨ (b ∉ ts ∧ own = true ∧ b = a ∧ H0 ts a own vs ns b = some (.frz (lstO vs) (.lst (ns.map V.int)))) ∨ (b ∉ ts ∧ (own = true → b ≠ a) ∧ H0 ts a own vs ns b = none) := by
  unfold H0
  by_cases h : b ∈ ts
  · exact .inl ⟨h, if_pos h⟩
  · rw [if_neg h]
    by_cases z : (own && decide (b = a)) = true
    · rw [if_pos z]
      simp only [Bool.and_eq_true, decide_eq_true_eq] at z
      exact .inr (.inl ⟨h, z.1, z.2, rfl⟩)
    · rw [if_neg z]
      simp only [Bool.and_eq_true, decide_eq_true_eq] at z
      exact .inr (.inr ⟨h, fun q e => z ⟨q, e⟩, rfl⟩)
end
section
variable {P : Program} {w : World} {K : PySem.W.Frag} {mg mb : Str → Option Value} {CX : CXT} {fa a : Addr} {cs : List (Addr × Addr)} {s : Shared} {vs : List Value} {ns : List Int}
theorem law_here (inK : K.In s.heap) (G1 : s.heap.Ns mainGlobals mg) (G2 : s.heap.Ns builtinsNs mb) (G3 : ∀ x : Str, x ≠ "__name__" → mb x = bootBuiltins x) (G4 : s.heap.NoLimit) (G5 : s.gens = #[])
    (t1 : ∀ p ∈ cs, s.heap.get? p.2 = some tabO) (t2 : ∀ p ∈ cs, K.lookup p.2 = none) (t3 : ∀ p ∈ cs, PySem.W.CodeHd s.heap p.1 p.2)
    (G6 : ∃ (bm : Addr) (ob : Obj), mg "__builtins__" = some (.ref bm) ∧ bm ≠ builtinsNs ∧ s.heap.get? bm = some ob ∧ ob.cls = .type "module" ∧ ob.dict = some builtinsNs ∧ ob.data = .plain)
    (ea : s.heap.get? a = some (lstO vs)) (hi : IntsAre vs ns) (hl : ns.length ≤ sizeLine)
    (run : ∀ (base : Heap) (H : Hp), K.In base → base.Ns mainGlobals mg → (∀ p ∈ cs, TabB base mg p.1 p.2) → (∀ p ∈ cs, H p.2 = some (.tbl #[])) → SqL K H a (ns.map V.int) → Env0 P w K mg base callerA [] s H →
      codeAny (model P w) callerA (.call (.ref fa) ⟨[.ref a], []⟩) (L2.CR CX [] P w H s (fun v _ => v = .bl true) fun _ _ _ => False) s)
    (noX : ∀ H e s', CX [] H s (fun _ _ _ => False) e s' → False) :
    codeAny (model P w) callerA (.call (.ref fa) ⟨[.ref a], []⟩) (fun r s' => r = .ok (.ret (.bool true)) ∧ OldK s.heap s'.heap ∧ s'.os = s.os ∧ AllBare s'.gens) s := by
  have isT : ∀ b ∈ cs.map (·.2), s.heap.get? b = some tabO ∧ K.lookup b = none := fun b hb => by
    obtain ⟨p, hp, rfl⟩ := List.mem_map.mp hb
    exact ⟨t1 p hp, t2 p hp⟩
  have rv := vals_ints hi
  generalize hown : (K.lookup a).isNone = own
  generalize eH : H0 (cs.map (·.2)) a own vs ns = H
  have cas : ∀ b, (b ∈ cs.map (·.2) ∧ H b = some (.tbl #[])) ∨ (b ∉ cs.map (·.2) ∧ own = true ∧ b = a ∧ H b = some (.frz (lstO vs) (.lst (ns.map V.int)))) ∨ (b ∉ cs.map (·.2) ∧ (own = true → b ≠ a) ∧ H b = none) := fun b => by
    rw [← eH]
    exact H0_cases b
  -- other objects are not tracked
  have free : ∀ b o, s.heap.get? b = some o → o ≠ tabO → (own = true → o ≠ lstO vs) → H b = none := fun b o e n1 n2 => by
    rcases cas b with ⟨q, _⟩ | ⟨_, q, rfl, _⟩ | ⟨_, _, q⟩
    · have := (isT b q).1
      rw [e] at this
      exact absurd (Option.some.inj this) n1
    · rw [ea] at e
      exact absurd (Option.some.inj e).symm (n2 q)
    · exact q
  have dic : ∀ {b : Addr} {o : Obj} {es : Array DictEntry} {n : Nat}, s.heap.get? b = some o → o.data = .dict es n → H b = none := fun e d => free _ _ e (fun z => by rw [z] at d; cases d) (fun _ z => by rw [z] at d; cases d)
  have names : ∀ {b : Addr} {m : Str → Option Value}, s.heap.Ns b m → (hidT s.heap H).Ns b m := fun ⟨o, es, n, e, d, r⟩ => ⟨o, es, n, hidT_get e (dic e d), d, r⟩
  have kIn : K.In (hidT s.heap H) := fun b o e => hidT_get (inK b o e) (by
    rcases cas b with ⟨q, _⟩ | ⟨_, q, rfl, _⟩ | ⟨_, _, q⟩
    · rw [(isT b q).2] at e
      cases e
    · rw [e] at hown
      rw [← hown] at q
      cases q
    · exact q)
  have hM : L2.Mod K mg (hidT s.heap H) := ⟨kIn, names G1, ⟨mb, names G2, G3⟩, let ⟨mc, h1, h2⟩ := G4; ⟨mc, names h1, h2⟩⟩
  have hok : HOk P w H s.heap := fun b u e => by
    rcases cas b with ⟨q, z⟩ | ⟨_, q, rfl, z⟩ | ⟨_, _, z⟩
    · rw [z] at e
      cases e
      exact (isT b q).1
    · rw [z] at e
      cases e
      exact ⟨ea, by rw [List.length_map]; exact hl, vs, _, rv, ea⟩
    · rw [z] at e
      cases e
  have e0 : Env0 P w K mg (hidT s.heap H) callerA [] s H := ⟨rfl, hM, fun b o e => of_hidT e, Nat.le_of_eq (hidT_size _ _), trivial, (fun b hb => absurd (show b ∈ ([] : List Addr) from hb) List.not_mem_nil), hok, .of_eq G5⟩
  have tabs : ∀ p ∈ cs, H p.2 = some (.tbl #[]) := fun p hp => by
    have hm : p.2 ∈ cs.map (·.2) := List.mem_map.mpr ⟨p, hp, rfl⟩
    rcases cas p.2 with ⟨_, z⟩ | ⟨q, _⟩ | ⟨q, _⟩
    · exact z
    · exact absurd hm q
    · exact absurd hm q
  have aT : a ∉ cs.map (·.2) := fun z => by
    have := (isT a z).1
    rw [ea] at this
    have := congrArg Obj.data (Option.some.inj this)
    cases this
  have scr : SqL K H a (ns.map V.int) := by
    rcases cas a with ⟨q, _⟩ | ⟨_, _, _, z⟩ | ⟨_, q, _⟩
    · exact absurd q aT
    · exact .inl (.inr ⟨_, z⟩)
    · cases ho : K.lookup a with
      | none =>
        rw [ho] at hown
        exact absurd rfl (q hown.symm)
      | some o =>
        have e := inK a o ho
        rw [ea] at e
        cases e
        exact .inr ⟨_, vs.toArray, _, ho, rfl, rfl, rfl, by rw [List.size_toArray, hi.length]; exact hl, by simpa using rv⟩
  have TB : ∀ p ∈ cs, TabB (hidT s.heap H) mg p.1 p.2 := fun p hp => by
    have eT := t1 p hp
    refine ⟨?_, ?_, fun z => ?_⟩
    · obtain ⟨o, us, file, tf, flags, tg, inF, text, tt, e1, r1, r2, r3, rr⟩ := t3 p hp
      refine ⟨o, us, file, tf, flags, tg, inF, text, tt, hidT_get e1 (free _ _ e1 (fun z => ?_) fun _ z => ?_), r1, r2, r3, rr⟩
      · rw [z] at r2
        cases r2
        simp at r3
      · rw [z] at r2
        cases r2
    · obtain ⟨bm, ob, b1, b2, b3, b4, b5, b6⟩ := G6
      refine ⟨bm, ob, b1, b2, fun q => ?_, fun q => ?_, hidT_get b3 (free _ _ b3 (fun z => ?_) fun _ z => ?_), b4, b5, b6⟩
      · obtain ⟨o, es, n, e, d, _⟩ := G1
        rw [q, e] at b3
        cases b3
        rw [d] at b6
        cases b6
      · rw [q, eT] at b3
        cases b3
        cases b6
      · rw [z] at b6
        cases b6
      · rw [z] at b6
        cases b6
    · obtain ⟨o, es, n, e, d, _⟩ := G1
      rw [z, eT] at e
      cases e
      cases d
  refine codeAny_mono (run _ H kIn (names G1) TB tabs scr e0) fun r s' h => ?_
  cases r with
  | error e => exact (noX H e s' h).elim
  | ok fl =>
    cases fl with
    | next => exact h.elim
    | brk => exact h.elim
    | cont => exact h.elim
    | ret u =>
      obtain ⟨v, H', os, bare, un, hok', r', rfl⟩ := h
      obtain rfl : u = Value.bool true := r'
      have same : ∀ b o, b ∉ cs.map (·.2) → s.heap.get? b = some o → s'.heap.get? b = some o := fun b o nb e => by
        rcases cas b with ⟨q, _⟩ | ⟨_, _, rfl, z⟩ | ⟨_, _, z⟩
        · exact absurd q nb
        · rw [ea] at e
          cases e
          exact (hok' b _ (un.frzs b _ _ z)).1
        · exact un.keep b o e z (by intro q; cases q) (by simp)
      have more : ∀ p ∈ cs, ∃ m : Array Value, s'.heap.get? p.2 = some { cls := .none, data := .fields m } := fun p hp => by
        obtain ⟨m, z⟩ := un.tbls p.2 #[] (tabs p hp)
        exact ⟨_, hok' p.2 _ z⟩
      refine ⟨rfl, ⟨fun b o e => ?_, fun b o e => ?_⟩, os, bare⟩
      · by_cases hb : b ∈ cs.map (·.2)
        · obtain ⟨p, hp, rfl⟩ := List.mem_map.mp hb
          obtain ⟨m, em⟩ := more p hp
          rw [t1 p hp] at e
          cases e
          exact .inr (.inl ⟨((t3 p hp).tab (t1 p hp)).isCodeTable, rfl, #[], m, rfl, by rw [Array.empty_append]; exact em⟩)
        · exact .inl (same b o hb e)
      · by_cases hb : b ∈ cs.map (·.2)
        · obtain ⟨p, hp, rfl⟩ := List.mem_map.mp hb
          obtain ⟨m, em⟩ := more p hp
          exact ⟨_, em⟩
        · exact ⟨o, same b o hb e⟩
end
end Mi
/-! MiZl: a law holds where its run in the small language answers True. -/
namespace Mi
open PySem PySem.Spec PyProof.Rows L2 GxR
def fasOf (rs : List DefI) (law : DefI) (bare cls : List Str) : List He.Fa := (law :: rs).map (fun r => He.Fa.glo r.x) ++ bare.map He.Fa.free ++ cls.map He.Fa.glo
def fnsOf (rs : List DefI) (law : DefI) (is : List InitI) : List He.DefD := (law :: rs).map DefI.dd ++ is.map InitI.dd
def tfsOf (rs : List DefI) (law : DefI) : List He.Defn := ((law :: rs).filter (·.gen)).map fun r => (r.x, none)
/-- each error class has one of the text's __init__ -/
def exOf (is : List InitI) (cls : List Str) (K : PySem.W.Frag) : Bool := cls.all fun x => is.any fun i => errB i K x
/-- how the calls bind -/
def BindsAll (rs : List DefI) (Q : List Pt) : Prop := ∀ r ∈ rs, ∀ (K : PySem.W.Frag) (kV doc pm : Value) (an : Option Addr) (cdv ct : Value), ∀ q ∈ Q, q.x = r.x → KB K (PySem.W.fnOf r.x r.x (L2.defArgs r.st) (L2.defBody r.st) (L2.defScope r.st) .none kV doc pm an cdv ct) r.ps q.n q.ks q.perm
def BindsInit (is : List InitI) : Prop := ∀ i ∈ is, initOk i.st = true ∧ ∀ (kV doc pm : Value) (an : Option Addr) (cdv ct : Value) (us : List Value), us.length = 2 → bindArgs (PySem.W.fnOf "__init__" i.dd.qual (L2.defArgs i.st) (L2.defBody i.st) (L2.defScope i.st) .none kV doc pm an cdv ct) ⟨us, []⟩ = pure ((["self", "value"] : List Str).zip us)
def BindsLaw (law : DefI) : Prop := ∀ (kV doc pm : Value) (an : Option Addr) (cdv ct u : Value), bindArgs (PySem.W.fnOf law.x law.x (L2.defArgs law.st) (L2.defBody law.st) (L2.defScope law.st) .none kV doc pm an cdv ct) ⟨[u], []⟩ = pure (law.ps.zip [u])
def lawOk (law : DefI) (d : Def) (Q : List Pt) (cls bare : List Str) : Bool := scOk law.N law.ps (L2.defScope law.st) && decide (law.N.length = d.size) && decide (law.ps.length = 1) && decide (1 ≤ d.size) && chkSs d.body { law.cfg Q cls bare with rp := true } (L2.defBody law.st)
section
variable {K : PySem.W.Frag} {T : Addr → Prop} {mg : Str → Option Value} {W : WX}
theorem top_read {D : Nat → Option Def} {n : Nat} {d : Def} {ns : List Int} {N : List Str} {H : Hp} {a : Addr} (hN : N.length = d.size) (h1 : 1 ≤ d.size) (hs : SqL K H a (ns.map V.int)) (hT : ∀ P, T P → TabG H P) {fr : Bool} {h' : Hx} (e : runTop D n d [.scr ns] = .ok (.d (.bool true)) fr h') :
    tSs K T mg W (run D n) true d.body { nx := fun _ H' => (fun (v : V) (_ : Hp) => v = .bl true) .non H', rt := fun v _ => v = .bl true } (L2.start N [.ref a]) H := by
  have r00 : Rel K T ⟨fun _ => false, fun _ => false, []⟩ [] [] [] H := {
    len := rfl
    slot := fun i v e => by simp at e
    own := fun i v e => by simp at e
    sep := fun i j a q => absurd q no_own
    nb := fun i a q => absurd q no_own
    box := fun i b e => by simp at e
    rlen := rfl
    rnd := List.nodup_nil
    dis := fun a z => by cases z
    kind := fun a z => by rcases z with z | z <;> cases z
    tab := hT }
  have sm : Sm H (fz (fun _ => false) H) := fun c o _ z => fz_some.mpr ⟨rfl, z⟩
  have r0 := r00.start (n := d.size) (N := N) (xs := [.scr ns]) (vs := [.ref a]) (.cons ⟨a, SqL.upS sm hs, rfl⟩ .nil) hN h1
  refine ⟨[], _, _, _, fun _ _ => rfl, r0, ?_⟩
  unfold runTop at e
  cases e2 : exSs (run D n) true [] d.body (Mi.start d.size [.scr ns]) [] with
  | no => rw [e2] at e; cases e
  | ex c x env h => rw [e2] at e; cases e
  | ok fl env h =>
    rw [e2] at e
    cases fl with
    | next => cases e
    | brk => cases e
    | cont => cases e
    | ret o =>
      obtain ⟨ov, ofr, ol⟩ := o
      injection e with e3 e4 e5
      subst e3
      intro g' σ' H' u _ ro
      unfold RetO at ro
      simp only [isMutV, isMut, Bool.and_false, if_neg Bool.false_ne_true] at ro
      cases ro
      rfl
end
theorem cx_none {P : Program} {w : World} {H : Hp} {s : Shared} {outer : List PySem.Env} {e : Value} {s' : Shared} : ¬ L2.CX P w outer H s (fun _ _ _ => False) e s' := fun ⟨_, _, _, _, _, _, _, _, _, _, _, _, z⟩ => z
theorem walk_law {l : PySem.W.OpenLaw} {n N0 fuel : Nat} {q : Program} {loose : List Str} {XP : (Str → Option Value) → Heap → Prop} {d : DefRec} {rs : List DefI} {law : DefI} {ld : Def} {is : List InitI} {D : Nat → Option Def} {Q : List Pt} {cls bare : List Str}
    (hn : l.most = some n) (hn2 : n ≤ sizeLine) (hdf : d.params.defaults = []) (hname : d.name = law.x)
    (okS : ∀ r ∈ rs, r.ok D Q cls bare = true) (okL : lawOk law ld Q cls bare = true) (okQ : ∀ p ∈ Q, ∃ r ∈ rs, r.x = p.x ∧ r.f = p.f) (bA : BindsAll rs Q) (bI : BindsInit is) (bL : BindsLaw law) (room : Room (2 * fuel + 5) callerA)
    (holds : ∀ ns : List Int, ns.length ≤ n → (∀ z ∈ ns, Builtin.Int.intBits z ≤ 1048576) → ∃ fr h, runTop D fuel ld [.scr ns] = .ok (.d (.bool true)) fr h) :
    PySem.W.WalkO q loose XP (He.hookX N0 (fasOf rs law bare cls) (fnsOf rs law is) [] (tfsOf rs law) (exOf is cls)).says l.row.toRowW d [] (fun f vs => PySem.call f vs) := by
  refine Att.attach_callB hn hdf fun w s₀ s₁ mg mb fa o pm cd doc a vs ns G Y ho hd hcd hmg hobj hints hlen hbits hg => ?_
  obtain ⟨K, KX, c⟩ := Y
  have cD := c.t.d
  have fact : ∀ {f : He.Fa}, f ∈ fasOf rs law bare cls → f.ok K = true := fun hf => cD.facts hf
  have glo : ∀ r ∈ law :: rs, mg r.x = some (.ref (He.ga K r.x)) := fun r hr => He.glo_ok KX G.T.g (fact (List.mem_append_left _ (List.mem_append_left _ (List.mem_map.mpr ⟨r, hr, rfl⟩))))
  have gloC : ∀ x ∈ cls, mg x = some (.ref (He.ga K x)) := fun x hx => He.glo_ok KX G.T.g (fact (List.mem_append_right _ (List.mem_map.mpr ⟨x, hx, rfl⟩)))
  have fre : ∀ x ∈ bare, mg x = none := fun x hx => He.free_ok KX G.T.g (fact (List.mem_append_left _ (List.mem_append_right _ (List.mem_map.mpr ⟨x, hx, rfl⟩))))
  have fns : ∀ r ∈ law :: rs, ∃ fd, FunD K r.x r.x (L2.defArgs r.st) (L2.defBody r.st) (L2.defScope r.st) [] [] (He.ga K r.x) fd := fun r hr => cD.defs (d := r.dd) (List.mem_append_left _ (List.mem_map.mpr ⟨r, hr, rfl⟩))
  have fnI : ∀ i ∈ is, ∃ fd, FunD K "__init__" i.dd.qual (L2.defArgs i.st) (L2.defBody i.st) (L2.defScope i.st) [] [] (He.fAd K (i.c, some "__init__")) fd := fun i hi => cD.defs (d := i.dd) (List.mem_append_right _ (List.mem_map.mpr ⟨i, hi, rfl⟩))
  obtain rfl : fa = He.ga K law.x := by
    have z := glo law List.mem_cons_self
    rw [hname, z] at hmg
    exact (Value.ref.inj (Option.some.inj hmg)).symm
  generalize hcs : (tfsOf rs law).map (He.cT K) = cs
  have inC : ∀ p ∈ cs, ∃ p0 ∈ tfsOf rs law, p = He.cT K p0 := fun p hp => by
    rw [← hcs] at hp
    obtain ⟨p0, h0, rfl⟩ := List.mem_map.mp hp
    exact ⟨p0, h0, rfl⟩
  refine law_here (CX := L2.CX l.prog w) (cs := cs) KX G.T.g G.T.b G.T.builtins G.T.nolimit hg (fun p hp => ?_) (fun p hp => ?_) (fun p hp => ?_) G.T.bmain hobj hints (Nat.le_trans hlen hn2) (fun base H kIn gN TB tabs scr e0 => ?_) fun H e s' z => cx_none z
  · obtain ⟨p0, h0, rfl⟩ := inC p hp
    exact c.empty p0 h0
  · obtain ⟨p0, h0, rfl⟩ := inC p hp
    exact c.out p0 h0
  · obtain ⟨p0, h0, rfl⟩ := inC p hp
    exact PySem.W.codeHd_of_K KX (c.hd p0 h0)
  · let T : Addr → Prop := fun P => P ∈ cs.map (·.2)
    have tbl : ∀ r ∈ law :: rs, r.gen = true → TabB base mg (He.cT K (r.x, none)).1 (He.cT K (r.x, none)).2 ∧ T (He.cT K (r.x, none)).2 := fun r hr hgen => by
      have hm : He.cT K (r.x, none) ∈ cs := by
        rw [← hcs]
        exact List.mem_map.mpr ⟨_, List.mem_map.mpr ⟨r, List.mem_filter.mpr ⟨hr, hgen⟩, rfl⟩, rfl⟩
      exact ⟨TB _ hm, List.mem_map.mpr ⟨_, hm, rfl⟩⟩
    have at' : ∀ r ∈ rs, ∃ fa fd, DefAt K T mg base Q r fa fd := fun r hr => by
      obtain ⟨fd, F⟩ := fns r (List.mem_cons_of_mem _ hr)
      exact ⟨_, fd, defAt_of (glo r (List.mem_cons_of_mem _ hr)) F (bA r hr K) (tbl r (List.mem_cons_of_mem _ hr))⟩
    have err : ∀ x ∈ cls, ExF l.prog w K mg base 2 x := fun x hx => by
      obtain ⟨i, hi, hb⟩ := List.any_eq_true.mp (List.all_eq_true.mp c.more x hx)
      obtain ⟨fd, F⟩ := fnI i hi
      exact exF_of hb (gloC x hx) (bI i hi).1 F (bI i hi).2
    have all := all_ok (P := l.prog) (w := w) okS at' okQ fre err fuel
    obtain ⟨fr, h', er⟩ := holds ns hlen hbits
    unfold lawOk at okL
    simp only [Bool.and_eq_true, decide_eq_true_eq] at okL
    obtain ⟨⟨⟨⟨h1, h2⟩, h3⟩, h4⟩, h5⟩ := okL
    have S := scOk_ok h1
    obtain ⟨fd, F⟩ := fns law List.mem_cons_self
    obtain ⟨oc, od, dV, kV, dc, pm', an, cdv, ct, osl, rfl, lk, hcd', hdv, _⟩ := F.ex
    have edv : dV = .none := by
      rcases hdv with ⟨_, e⟩ | ⟨e, _⟩
      · exact e
      · exact absurd rfl e
    subst edv
    refine run_here (k := 2 * fuel + 4) (us := [.ref a]) (vs := [.ref a]) lk hcd' S room e0 (.of_eq (bL _ _ _ _ _ _ _)) (.cons rfl .nil) h3.symm (chkSs_ok (T := T) (F := run D fuel) (tp := true) (W := fun cls d _ H => False) ld.body (c := { law.cfg Q cls bare with rp := true }) ⟨⟨rfl, rfl, S.nd, rfl, S.kind, ⟨2 * fuel + 3, 2 * fuel + 4, Nat.le_refl _, room.deeper _, fun p hp => ?_⟩, takes_n, fre, fun _ _ => rfl, (fun x hx => by cases hx), fun z => ?_, fun _ => rfl⟩, ?_, fun x hx => ⟨2, ⟨err x hx⟩, (room.deeper _).mono (by omega)⟩⟩ h5) (top_read h2 h4 scr (fun P hP => ?_) er)
    · obtain ⟨r2, m2, e1, e2⟩ := okQ p hp
      obtain ⟨fa2, fd2, A2⟩ := at' r2 m2
      have key := all r2 m2 fa2 fd2 A2
      rw [e2] at key
      exact ⟨fa2, fd2, r2.ps, by rw [← e1]; exact A2.at', A2.keep, key, A2.kb p hp e1.symm⟩
    · obtain ⟨t1, t2⟩ := tbl law List.mem_cons_self z
      obtain ⟨cc, rfl⟩ := He.codeIn_ref hcd'
      have ec : (He.cT K (law.x, none)).1 = cc := He.codeOf_eq (p := (law.x, none)) lk rfl
      rw [ec] at t1
      exact ⟨cc, _, t1, t2, rfl⟩
    · exact passes_of (K := fun e s'' => L2.CX l.prog w [] H s₁ (fun _ _ _ => False) e s'') (E₁ := fun e' s'' => L2.CX l.prog w [] H s₁ (fun _ _ _ => False) e' s'') rfl
    · obtain ⟨p, hp, rfl⟩ := List.mem_map.mp hP
      exact ⟨#[], tabs p hp, by first | exact trivial | simp [TriplesOk] | constructor⟩
end Mi
/-! MiEv: how a program of the small language is evaluated: loops, calls, blocks. -/
namespace Mi
open PySem
theorem frzI_nil (xs : List PD) : frzI xs [] = [] := by unfold frzI; split <;> rfl
theorem noLs_ints : ∀ ns : List Int, noLs (ns.map PyData.int) = true
  | [] => rfl
  | n :: r => by show (noL (.int n) && noLs (r.map PyData.int)) = true; rw [noLs_ints r]; rfl
theorem noLs_all : ∀ xs : List PD, (∀ x ∈ xs, noL x = true) → noLs xs = true
  | [], _ => rfl
  | x :: r, h => by
    show (noL x && noLs r) = true
    rw [h x List.mem_cons_self, noLs_all r fun y hy => h y (List.mem_cons_of_mem _ hy)]
    rfl
theorem lnOf_nil (v : Val) (fr : Bool) : lnOf v fr [] = [] := rfl
theorem lnOf_clean {v : Val} {fr : Bool} (ln : List Nat) (h : clean v fr = true) : lnOf v fr ln = [] := by
  unfold lnOf; rw [h]; split <;> rfl
/-- what a def's block hands back -/
def fin : R Fl → FR
  | .ok (.ret o) _ h => .ok o.v o.fr h
  | .ok .next _ h => .ok (.d .none) false h
  | .ok _ _ _ => .no
  | .ex c x _ h => .ex c x h
  | .no => .no
theorem run_fin {D : Nat → Option Def} {n f : Nat} {d : Def} {vs : List Val} {h : Hx} (e : D f = some d) (l : vs.length = d.args) : run D (n + 1) f vs h = fin (exSs (run D n) false [] d.body (start d.size vs) h) := by
  show (match D f with
    | none => FR.no
    | some d => if vs.length = d.args then
        match exSs (run D n) false [] d.body (start d.size vs) h with
        | .ok (.ret o) _ h => .ok o.v o.fr h
        | .ok .next _ h => .ok (.d .none) false h
        | .ok _ _ _ => .no
        | .ex c x _ h => .ex c x h
        | .no => .no
      else .no) = _
  rw [e]
  show (if vs.length = d.args then _ else _) = _
  rw [if_pos l]
  rfl
section
variable {F : Fns} {tp : Bool} {lk : List Nat} {s : MS} {r : List MS} {env env' : Env} {h h' : Hx}
theorem ss_nil : exSs F tp lk [] env h = .ok .next env h := rfl
theorem ss_next (e : exS F tp lk s env h = .ok .next env' h') : exSs F tp lk (s :: r) env h = exSs F tp lk r env' h' := by
  show (exS F tp lk s env h).bind _ = _
  rw [e]; rfl
theorem ss_ret {o : Out} (e : exS F tp lk s env h = .ok (.ret o) env' h') : exSs F tp lk (s :: r) env h = .ok (.ret o) env' h' := by
  show (exS F tp lk s env h).bind _ = _
  rw [e]; rfl
theorem ss_brk (e : exS F tp lk s env h = .ok .brk env' h') : exSs F tp lk (s :: r) env h = .ok .brk env' h' := by
  show (exS F tp lk s env h).bind _ = _
  rw [e]; rfl
theorem ss_cont (e : exS F tp lk s env h = .ok .cont env' h') : exSs F tp lk (s :: r) env h = .ok .cont env' h' := by
  show (exS F tp lk s env h).bind _ = _
  rw [e]; rfl
theorem ss_ex {c : Str} {x : PD} (e : exS F tp lk s env h = .ex c x env' h') : exSs F tp lk (s :: r) env h = .ex c x env' h' := by
  show (exS F tp lk s env h).bind _ = _
  rw [e]; rfl
end
/-! ### equations -/
section
variable {F : Fns} {tp : Bool} {lk : List Nat} {env : Env} {h : Hx}
@[simp] theorem ev_c_ {x} : ev F lk (.c x) env h = (.ok ⟨.d x, false, []⟩ env h) := by rfl
@[simp] theorem ev_var_ {i} : ev F lk (.var i) env h = (match env[i]? with
    | some (some s) => match s.v with
      | .dct _ => .no
      | v => .ok ⟨v, false, if s.own then [i] else []⟩ env h
    | _ => .no) := by rfl
@[simp] theorem ev_tup_ {es} : ev F lk (.tup es) env h = ((evs F lk es env h).bind fun os env h => match dataOf os with
    | some xs => .ok ⟨.d (.tuple xs), true, lnOf (.d (.tuple xs)) true (lnsOf os)⟩ env h
    | none => .no) := by rfl
@[simp] theorem ev_lst_ {es} : ev F lk (.lst es) env h = ((evs F lk es env h).bind fun os env h => match dataOf os with
    | some xs => .ok ⟨.d (.list xs), true, lnOf (.d (.list xs)) true (lnsOf os)⟩ env h
    | none => .no) := by rfl
@[simp] theorem ev_bin_ {op} {a} {b} : ev F lk (.bin op a b) env h = ((ev F lk a env h).bind fun o env h => (ev F (o.ln ++ lk) b env h).bind fun p env h => two o p (binD op) env h) := by rfl
@[simp] theorem ev_un_ {op} {a} : ev F lk (.un op a) env h = ((ev F lk a env h).bind fun o env h => match op, o.v with
    | .neg, .d (.int i) => .ok ⟨.d (.int (-i)), true, []⟩ env h
    | .not, v => match truth v with
      | some b => .ok ⟨.d (.bool (!b)), true, []⟩ env h
      | none => .no
    | _, _ => .no) := by rfl
@[simp] theorem ev_cmp_ {op} {a} {b} : ev F lk (.cmp op a b) env h = ((ev F lk a env h).bind fun o env h => (ev F (o.ln ++ lk) b env h).bind fun p env h => twoB o p (cmpD op) env h) := by rfl
@[simp] theorem ev_cmp2_ {o1} {o2} {a} {b} {c} : ev F lk (.cmp2 o1 o2 a b c) env h = ((ev F lk a env h).bind fun o env h => (ev F (o.ln ++ lk) b env h).bind fun p env h =>
      match o.v, p.v with
      | .d x, .d y => match cmpD o1 x y with
        | some true => (ev F ((o.ln ++ p.ln) ++ lk) c env h).bind fun r env h => twoB p r (cmpD o2) env h
        | some false => .ok ⟨.d (.bool false), true, []⟩ env h
        | none => .no
      | _, _ => .no) := by rfl
@[simp] theorem ev_and_ {a} {b} : ev F lk (.and a b) env h = ((ev F lk a env h).bind fun o env h => match truth o.v with
    | some true => ev F lk b env h
    | some false => .ok o env h
    | none => .no) := by rfl
@[simp] theorem ev_or_ {a} {b} : ev F lk (.or a b) env h = ((ev F lk a env h).bind fun o env h => match truth o.v with
    | some true => .ok o env h
    | some false => ev F lk b env h
    | none => .no) := by rfl
@[simp] theorem ev_ite_ {c} {a} {b} : ev F lk (.ite c a b) env h = ((ev F lk c env h).bind fun o env h => match truth o.v with
    | some true => ev F lk a env h
    | some false => ev F lk b env h
    | none => .no) := by rfl
@[simp] theorem ev_ix_ {a} {i} : ev F lk (.ix a i) env h = ((ev F lk a env h).bind fun o env h => (ev F (o.ln ++ lk) i env h).bind fun p env h => match ixV o.v p.v h with
    | some z => .ok ⟨.d z, false, lnOf (.d z) false (o.ln ++ p.ln)⟩ env h
    | none => .no) := by rfl
@[simp] theorem ev_sl_ {a} {lo} {hi} : ev F lk (.sl a lo hi) env h = ((ev F lk a env h).bind fun o env h => (ev F (o.ln ++ lk) lo env h).bind fun p env h => match part p.v with
    | none => .no
    | some l => (ev F (o.ln ++ p.ln ++ lk) hi env h).bind fun q env h => match part q.v with
      | none => .no
      | some u => match slD o.v l u with
        | some z => .ok ⟨.d z, true, lnOf (.d z) true (o.ln ++ p.ln)⟩ env h
        | none => .no) := by rfl
@[simp] theorem ev_call_ {f} {as} : ev F lk (.call f as) env h = ((evs F lk as env h).bind fun os env h => callR (F f (os.map Out.v) h) os env) := by rfl
@[simp] theorem ev_callK_ {f} {as} {bs} {perm} : ev F lk (.callK f as bs perm) env h = ((evs F lk as env h).bind fun os env h => (evs F (lnsOf os ++ lk) bs env h).bind fun ps env h => callR (F f (permL perm ((os ++ ps).map Out.v)) h) (os ++ ps) env) := by rfl
@[simp] theorem ev_bi_ {b} {as} : ev F lk (.bi b as) env h = ((evs F lk as env h).bind fun os env h => match dataOf os with
    | some xs => match biD b xs with
      | some (z, fr) => .ok ⟨.d z, fr, lnOf (.d z) fr (lnsOf os)⟩ env h
      | none => .no
    | none => .no) := by rfl
@[simp] theorem ev_lscr_ {i} : ev F lk (.lscr i) env h = (match env[i]? with
    | some (some ⟨.scr xs, _⟩) => .ok ⟨.d (.list (xs.map PyData.int)), true, []⟩ env h
    | _ => .no) := by rfl
@[simp] theorem ev_mm_ {m} {i} {as} : ev F lk (.mm m i as) env h = (if ownL env i then (evs F lk as env h).bind fun os env h => if lk.contains i then .no else mmV m i os env h else .no) := by rfl
@[simp] theorem ev_dnew_ : ev F lk .dnew env h = .ok ⟨.kd [], true, []⟩ env h := by rfl
@[simp] theorem ev_srt_ {e} : ev F lk (.srt e) env h = ((ev F lk e env h).bind fun o env h => match o.v with
    | .d (.list xs) => match srtD xs with
      | some ys => .ok ⟨.d (.list ys), true, lnOf (.d (.list ys)) true o.ln⟩ env h
      | none => .no
    | .kd kvs => match srtD (kvs.map (·.1)) with
      | some ys => .ok ⟨.d (.list ys), true, []⟩ env h
      | none => .no
    | _ => .no) := by rfl
@[simp] theorem evi_scrI_ {i} : evi F lk (.scrI i) env h = (match env[i]? with
    | some (some ⟨.scr xs, _⟩) => .ok (xs.map PyData.int, []) env h
    | _ => .no) := by rfl
@[simp] theorem exS_setK_ {i} {k} {e} : exS F tp lk (.setK i k e) env h = ((ev F lk e env h).bind fun o env h => if bound env i then (ev F (o.ln ++ lk) k env h).bind fun q env h =>
      if lk.contains i then .no else setKV i q.v o env h else .no) := by rfl
@[simp] theorem ret_srt_ {e} : exS F tp lk (.ret (.srt e)) env h = ((ev F lk (.srt e) env h).bind fun o env h => .ok (.ret ⟨o.v, o.fr, []⟩) (frz o.ln env) h) := by rfl
@[simp] theorem evi_val_ {e} : evi F lk (.val e) env h = ((ev F lk e env h).bind fun o env h => itemsV o env h) := by rfl
@[simp] theorem evi_rng1_ {a} : evi F lk (.rng1 a) env h = ((ev F lk a env h).bind fun o env h => match o.v with
    | .d (.int j) => if rngOk j then .ok (rngD 0 j, []) env h else .no
    | _ => .no) := by rfl
@[simp] theorem evi_rng2_ {a} {b} : evi F lk (.rng2 a b) env h = ((ev F lk a env h).bind fun o env h => (ev F (o.ln ++ lk) b env h).bind fun p env h => match o.v, p.v with
    | .d (.int i), .d (.int j) => if rngOk i && rngOk j then .ok (rngD i j, []) env h else .no
    | _, _ => .no) := by rfl
@[simp] theorem evi_enum_ {e} : evi F lk (.enum e) env h = ((ev F lk e env h).bind fun o env h => (itemsV o env h).bind fun (xs, ln) env h => .ok (enumD xs, ln) env h) := by rfl
@[simp] theorem evi_zip_ {a} {b} : evi F lk (.zip a b) env h = ((ev F lk a env h).bind fun o env h => (ev F (o.ln ++ lk) b env h).bind fun p env h => (itemsV o env h).bind fun (xs, ln) env h => (itemsV p env h).bind fun (ys, ln') env h =>
      .ok (zipD xs ys, ln ++ ln') env h) := by rfl
@[simp] theorem exS_asg_ {p} {e} : exS F tp lk (.asg p e) env h = ((ev F lk e env h).bind fun o env h => asgV lk p o env h) := by rfl
@[simp] theorem exS_asgBox_ {i} {f} {as} : exS F tp lk (.asgBox i f as) env h = ((evs F lk as env h).bind fun os env h => match F f (os.map Out.v) h with
    | .ok (.dct kvs) true h => if tp && (lnsOf os).isEmpty && !lk.contains i then .ok .next (env.set i (some ⟨.box h.length, false⟩)) (h ++ [.dct kvs]) else .no
    | .ex c x h => .ex c x (frz (if noL x then [] else lnsOf os) env) h
    | _ => .no) := by rfl
@[simp] theorem exS_par_ {i} {j} {a} {b} : exS F tp lk (.par i j a b) env h = ((ev F lk a env h).bind fun o env h => (ev F (o.ln ++ lk) b env h).bind fun p env h => parV lk i j o p env h) := by rfl
@[simp] theorem exS_setIx_ {i} {k} {e} : exS F tp lk (.setIx i k e) env h = ((ev F lk e env h).bind fun o env h => if bound env i then (ev F (o.ln ++ lk) k env h).bind fun q env h =>
      if lk.contains i then .no else setIxV i q.v o env h else .no) := by rfl
@[simp] theorem exS_augV_ {i} {op} {e} : exS F tp lk (.augV i op e) env h = (match env[i]? with
    | some (some ⟨.d x, _⟩) => (ev F lk e env h).bind fun o env h => match o.v with
      | .d y => match augD op x y with
        | some z => if lk.contains i then .no else .ok .next (env.set i (some ⟨.d z, false⟩)) h
        | none => .no
      | _ => .no
    | _ => .no) := by rfl
@[simp] theorem exS_augIx_ {i} {k} {op} {e} : exS F tp lk (.augIx i k op e) env h = (if bound env i then (ev F (i :: lk) k env h).bind fun q env h => match env[i]? with
    | some (some s) => match ixW s q.v h with
      | some x => (ev F (i :: lk) e env h).bind fun o env h => match o.v with
        | .d y => match augD op x y with
          | some z => if lk.contains i then .no else setIxV i q.v ⟨.d z, false, []⟩ env h
          | none => .no
        | _ => .no
      | none => .no
    | _ => .no
    else .no) := by rfl
@[simp] theorem exS_ex_ {e} : exS F tp lk (.ex e) env h = ((ev F lk e env h).bind fun _ env h => .ok .next env h) := by rfl
@[simp] theorem exS_ite_ {c} {a} {b} : exS F tp lk (.ite c a b) env h = ((ev F lk c env h).bind fun o env h => match truth o.v with
    | some true => exSs F tp lk a env h
    | some false => exSs F tp lk b env h
    | none => .no) := by rfl
@[simp] theorem exS_brk_  : exS F tp lk (.brk) env h = (.ok .brk env h) := by rfl
@[simp] theorem exS_cont_  : exS F tp lk (.cont) env h = (.ok .cont env h) := by rfl
@[simp] theorem exS_pass_  : exS F tp lk (.pass) env h = (.ok .next env h) := by rfl
@[simp] theorem exS_retD_ {ks} {es} : exS F tp lk (.retD ks es) env h = ((evs F lk es env h).bind fun os env h => match dataOf os with
    | some xs => if ks.length = xs.length ∧ ks ≠ [] ∧ ks.length ≤ 15 ∧ ks.Nodup then .ok (.ret ⟨.dct (ks.zip xs), true, []⟩) (frz (lnsOf os) env) h else .no
    | none => .no) := by rfl
@[simp] theorem exS_raise_ {c} {e} : exS F tp lk (.raise c e) env h = ((ev F lk e env h).bind fun o env h => match o.v with
    | .d x => .ex c x (frz o.ln env) h
    | _ => .no) := by rfl
@[simp] theorem ev_sset_ {e} : ev F lk (.sset e) env h = ((ev F lk e env h).bind fun o env h => match o.v with
    | .d (.list xs) => match ssetD xs with
      | some ys => .ok ⟨.d (.list ys), true, lnOf (.d (.list ys)) true o.ln⟩ env h
      | none => .no
    | .d (.tuple xs) => match ssetD xs with
      | some ys => .ok ⟨.d (.list ys), true, lnOf (.d (.list ys)) true o.ln⟩ env h
      | none => .no
    | _ => .no) := by rfl
@[simp] theorem ev_rev_ {e} : ev F lk (.rev e) env h = ((ev F lk e env h).bind fun o env h => match o.v with
    | .d (.list xs) => .ok ⟨.d (.list xs.reverse), true, lnOf (.d (.list xs.reverse)) true o.ln⟩ env h
    | .d (.tuple xs) => .ok ⟨.d (.tuple xs.reverse), true, lnOf (.d (.tuple xs.reverse)) true o.ln⟩ env h
    | _ => .no) := by rfl
@[simp] theorem ev_cnt_ {a b} : ev F lk (.cnt a b) env h = ((ev F lk a env h).bind fun o env h => match o.v with
    | .d (.list xs) => (ev F (o.ln ++ lk) b env h).bind fun p env h => match p.v with
      | .d (.int k) => match intsOf xs with
        | some ns => .ok ⟨.d (.int (ns.count k : Nat)), true, []⟩ env h
        | none => .no
      | _ => .no
    | _ => .no) := by rfl
@[simp] theorem evs_nil_ : evs F lk [] env h = .ok [] env h := by rfl
@[simp] theorem evs_cons_ {e r} : evs F lk (e :: r) env h = ((ev F lk e env h).bind fun o env h => (evs F (o.ln ++ lk) r env h).bind fun os env h => .ok (o :: os) env h) := by rfl
@[simp] theorem exS_retV_ {i} : exS F tp lk (.ret (.var i)) env h = (match env[i]? with
    | some (some s) => .ok (.ret ⟨s.v, s.own, []⟩) env h
    | _ => .no) := by rfl
theorem exS_ret_ {e o env' h'} (he : ev F lk e env h = .ok o env' h') (hv : (match e with | .var _ => false | _ => true) = true) : exS F tp lk (.ret e) env h = .ok (.ret ⟨o.v, o.fr, []⟩) (frz o.ln env') h' := by
  cases e <;> first | (cases hv; done) | (unfold exS; rw [he]; rfl)
@[simp] theorem exSs_nil_ : exSs F tp lk [] env h = .ok .next env h := by rfl
@[simp] theorem exSs_cons_ {s r} : exSs F tp lk (s :: r) env h = ((exS F tp lk s env h).bind fun f env h => match f with
    | .next => exSs F tp lk r env h
    | f => .ok f env h) := by rfl
end
/-! ### end of equations -/
/-! ### small equations -/
section
variable {F : Fns} {tp : Bool} {lk : List Nat} {env : Env} {h : Hx} {fr : Bool} {ln : List Nat} {os : List Out}
@[simp] theorem ret_c_ {x} : exS F tp lk (.ret (.c x)) env h = ((ev F lk (.c x) env h).bind fun o env h => .ok (.ret ⟨o.v, o.fr, []⟩) (frz o.ln env) h) := by rfl
@[simp] theorem ret_tup_ {es} : exS F tp lk (.ret (.tup es)) env h = ((ev F lk (.tup es) env h).bind fun o env h => .ok (.ret ⟨o.v, o.fr, []⟩) (frz o.ln env) h) := by rfl
@[simp] theorem ret_lst_ {es} : exS F tp lk (.ret (.lst es)) env h = ((ev F lk (.lst es) env h).bind fun o env h => .ok (.ret ⟨o.v, o.fr, []⟩) (frz o.ln env) h) := by rfl
@[simp] theorem ret_bin_ {op} {a} {b} : exS F tp lk (.ret (.bin op a b)) env h = ((ev F lk (.bin op a b) env h).bind fun o env h => .ok (.ret ⟨o.v, o.fr, []⟩) (frz o.ln env) h) := by rfl
@[simp] theorem ret_un_ {op} {a} : exS F tp lk (.ret (.un op a)) env h = ((ev F lk (.un op a) env h).bind fun o env h => .ok (.ret ⟨o.v, o.fr, []⟩) (frz o.ln env) h) := by rfl
@[simp] theorem ret_cmp_ {op} {a} {b} : exS F tp lk (.ret (.cmp op a b)) env h = ((ev F lk (.cmp op a b) env h).bind fun o env h => .ok (.ret ⟨o.v, o.fr, []⟩) (frz o.ln env) h) := by rfl
@[simp] theorem ret_cmp2_ {o1} {o2} {a} {b} {c} : exS F tp lk (.ret (.cmp2 o1 o2 a b c)) env h = ((ev F lk (.cmp2 o1 o2 a b c) env h).bind fun o env h => .ok (.ret ⟨o.v, o.fr, []⟩) (frz o.ln env) h) := by rfl
@[simp] theorem ret_and_ {a} {b} : exS F tp lk (.ret (.and a b)) env h = ((ev F lk (.and a b) env h).bind fun o env h => .ok (.ret ⟨o.v, o.fr, []⟩) (frz o.ln env) h) := by rfl
@[simp] theorem ret_or_ {a} {b} : exS F tp lk (.ret (.or a b)) env h = ((ev F lk (.or a b) env h).bind fun o env h => .ok (.ret ⟨o.v, o.fr, []⟩) (frz o.ln env) h) := by rfl
@[simp] theorem ret_ite_ {c} {a} {b} : exS F tp lk (.ret (.ite c a b)) env h = ((ev F lk (.ite c a b) env h).bind fun o env h => .ok (.ret ⟨o.v, o.fr, []⟩) (frz o.ln env) h) := by rfl
@[simp] theorem ret_ix_ {a} {i} : exS F tp lk (.ret (.ix a i)) env h = ((ev F lk (.ix a i) env h).bind fun o env h => .ok (.ret ⟨o.v, o.fr, []⟩) (frz o.ln env) h) := by rfl
@[simp] theorem ret_sl_ {a} {lo} {hi} : exS F tp lk (.ret (.sl a lo hi)) env h = ((ev F lk (.sl a lo hi) env h).bind fun o env h => .ok (.ret ⟨o.v, o.fr, []⟩) (frz o.ln env) h) := by rfl
@[simp] theorem ret_call_ {f} {as_} : exS F tp lk (.ret (.call f as_)) env h = ((ev F lk (.call f as_) env h).bind fun o env h => .ok (.ret ⟨o.v, o.fr, []⟩) (frz o.ln env) h) := by rfl
@[simp] theorem ret_callK_ {f} {as_} {bs_} {perm} : exS F tp lk (.ret (.callK f as_ bs_ perm)) env h = ((ev F lk (.callK f as_ bs_ perm) env h).bind fun o env h => .ok (.ret ⟨o.v, o.fr, []⟩) (frz o.ln env) h) := by rfl
@[simp] theorem ret_bi_ {b} {as_} : exS F tp lk (.ret (.bi b as_)) env h = ((ev F lk (.bi b as_) env h).bind fun o env h => .ok (.ret ⟨o.v, o.fr, []⟩) (frz o.ln env) h) := by rfl
@[simp] theorem ret_mm_ {m} {i} {as_} : exS F tp lk (.ret (.mm m i as_)) env h = ((ev F lk (.mm m i as_) env h).bind fun o env h => .ok (.ret ⟨o.v, o.fr, []⟩) (frz o.ln env) h) := by rfl
@[simp] theorem ret_lc_ {own} {p} {it} {c} {elt} : exS F tp lk (.ret (.lc own p it c elt)) env h = ((ev F lk (.lc own p it c elt) env h).bind fun o env h => .ok (.ret ⟨o.v, o.fr, []⟩) (frz o.ln env) h) := by rfl
@[simp] theorem ret_gen_ {g} {own} {p} {it} {elt} : exS F tp lk (.ret (.gen g own p it elt)) env h = ((ev F lk (.gen g own p it elt) env h).bind fun o env h => .ok (.ret ⟨o.v, o.fr, []⟩) (frz o.ln env) h) := by rfl
@[simp] theorem ret_genF_ {g} {own} {p} {it} {c} {elt} : exS F tp lk (.ret (.genF g own p it c elt)) env h = ((ev F lk (.genF g own p it c elt) env h).bind fun o env h => .ok (.ret ⟨o.v, o.fr, []⟩) (frz o.ln env) h) := by rfl
@[simp] theorem ret_lscr_ {i} : exS F tp lk (.ret (.lscr i)) env h = ((ev F lk (.lscr i) env h).bind fun o env h => .ok (.ret ⟨o.v, o.fr, []⟩) (frz o.ln env) h) := by rfl
@[simp] theorem ret_sset_ {e} : exS F tp lk (.ret (.sset e)) env h = ((ev F lk (.sset e) env h).bind fun o env h => .ok (.ret ⟨o.v, o.fr, []⟩) (frz o.ln env) h) := by rfl
@[simp] theorem ret_rev_ {e} : exS F tp lk (.ret (.rev e)) env h = ((ev F lk (.rev e) env h).bind fun o env h => .ok (.ret ⟨o.v, o.fr, []⟩) (frz o.ln env) h) := by rfl
@[simp] theorem ret_cnt_ {a b} : exS F tp lk (.ret (.cnt a b)) env h = ((ev F lk (.cnt a b) env h).bind fun o env h => .ok (.ret ⟨o.v, o.fr, []⟩) (frz o.ln env) h) := by rfl
@[simp] theorem fin_ret_ {o} : fin (.ok (.ret o) env h) = .ok o.v o.fr h := rfl
@[simp] theorem fin_next_ : fin (.ok .next env h) = .ok (.d .none) false h := rfl
@[simp] theorem fin_ex_ {c x} : fin (.ex c x env h) = .ex c x h := rfl
@[simp] theorem frz_nil_ : frz [] env = env := rfl
@[simp] theorem frzI_nil_ {xs} : frzI xs [] = [] := frzI_nil xs
@[simp] theorem lnOf_nil_ {v} : lnOf v fr [] = [] := rfl
@[simp] theorem callR_d_ {x} : callR (.ok (.d x) fr h) os env = .ok ⟨.d x, fr, lnOf (.d x) fr (lnsOf os)⟩ env h := rfl
@[simp] theorem dataOf_nil_ : dataOf [] = some [] := rfl
@[simp] theorem dataOf_cons_ {x} : dataOf (⟨.d x, fr, ln⟩ :: os) = (dataOf os).map (x :: ·) := rfl
@[simp] theorem lnsOf_nil_ : lnsOf [] = [] := rfl
@[simp] theorem lnsOf_cons_ {o} : lnsOf (o :: os) = o.ln ++ lnsOf os := rfl
@[simp] theorem truth_bool_ {b} : truth (.d (.bool b)) = some b := by cases b <;> rfl
@[simp] theorem truth_int_ {i} : truth (.d (.int i)) = some (!(i == 0)) := rfl
@[simp] theorem truth_list_ {xs} : truth (.d (.list xs)) = some (!xs.isEmpty) := rfl
@[simp] theorem truth_tuple_ {xs} : truth (.d (.tuple xs)) = some (!xs.isEmpty) := rfl
@[simp] theorem truth_none_ : truth (.d .none) = some false := rfl
@[simp] theorem lnOf_int_ {i} : lnOf (.d (.int i)) fr ln = [] := lnOf_clean _ rfl
@[simp] theorem lnOf_bool_ {b} : lnOf (.d (.bool b)) fr ln = [] := lnOf_clean _ rfl
@[simp] theorem lnOf_none_ : lnOf (.d .none) fr ln = [] := lnOf_clean _ rfl
@[simp] theorem lnOf_str_ {s} : lnOf (.d (.str s)) fr ln = [] := lnOf_clean _ rfl
@[simp] theorem lnOf_list_ {xs : List PD} (e : noLs xs = true) : lnOf (.d (.list xs)) true ln = [] := lnOf_clean _ (by show (true && noLs xs) = true; rw [e]; rfl)
@[simp] theorem lnOf_tuple_ {xs : List PD} (e : noLs xs = true) : lnOf (.d (.tuple xs)) fr ln = [] := lnOf_clean _ e
@[simp] theorem twoB_ {x y f l1 l2 f1 f2} : twoB ⟨.d x, f1, l1⟩ ⟨.d y, f2, l2⟩ f env h = (match f x y with
    | some b => .ok ⟨.d (.bool b), true, []⟩ env h
    | none => .no) := rfl
@[simp] theorem two_ {x y f l1 l2 f1 f2} : two ⟨.d x, f1, l1⟩ ⟨.d y, f2, l2⟩ f env h = (match f x y with
    | some (z, fr) => .ok ⟨.d z, fr, lnOf (.d z) fr (l1 ++ l2)⟩ env h
    | none => .no) := rfl
@[simp] theorem asgV_ {i x} : asgV [] (.var i) ⟨.d x, fr, []⟩ env h = .ok .next (env.set i (some ⟨.d x, fr && isMut x⟩)) h := rfl
@[simp] theorem isMut_int_ {i} : isMut (.int i) = false := rfl
@[simp] theorem isMut_bool_ {i} : isMut (.bool i) = false := rfl
@[simp] theorem isMut_str_ {i} : isMut (.str i) = false := rfl
@[simp] theorem isMut_none_ : isMut .none = false := rfl
@[simp] theorem isMut_tuple_ {i} : isMut (.tuple i) = false := rfl
@[simp] theorem isMut_list_ {i} : isMut (.list i) = true := rfl
@[simp] theorem eqD_int_ {i j} : cmpD .eq (.int i) (.int j) = some (decide (i = j)) := rfl
@[simp] theorem eqD_str_ {i j} : cmpD .eq (.str i) (.str j) = some (decide (i = j)) := rfl
@[simp] theorem neD_int_ {i j} : cmpD .ne (.int i) (.int j) = some (!decide (i = j)) := rfl
@[simp] theorem ltD_int_ {i j} : cmpD .lt (.int i) (.int j) = some (decide (i < j)) := rfl
@[simp] theorem leD_int_ {i j} : cmpD .le (.int i) (.int j) = some (decide (i ≤ j)) := rfl
@[simp] theorem gtD_int_ {i j} : cmpD .gt (.int i) (.int j) = some (decide (j < i)) := rfl
@[simp] theorem geD_int_ {i j} : cmpD .ge (.int i) (.int j) = some (decide (j ≤ i)) := rfl
@[simp] theorem bAdd_int_ {i j} : binD .add (.int i) (.int j) = some (.int (i + j), true) := rfl
@[simp] theorem bSub_int_ {i j} : binD .sub (.int i) (.int j) = some (.int (i - j), true) := rfl
@[simp] theorem bAnd_int_ {i j} : binD .band (.int i) (.int j) = some (.int (Builtin.bitAnd i j), true) := rfl
@[simp] theorem len_list_ {xs} : biD .len [.list xs] = some (.int xs.length, true) := rfl
@[simp] theorem len_tuple_ {xs} : biD .len [.tuple xs] = some (.int xs.length, true) := rfl
@[simp] theorem int_int_ {i} : biD .int [.int i] = some (.int i, true) := rfl
@[simp] theorem tuple_list_ {xs} : biD .tuple [.list xs] = some (.tuple xs, true) := rfl
@[simp] theorem tuple_tuple_ {xs} : biD .tuple [.tuple xs] = some (.tuple xs, false) := rfl
@[simp] theorem list_list_ {xs} : biD .list [.list xs] = some (.list xs, true) := rfl
@[simp] theorem list_tuple_ {xs} : biD .list [.tuple xs] = some (.list xs, true) := rfl
@[simp] theorem isi_ {t x} : biD (.isi t) [x] = some (.bool (isTy t x), true) := rfl
end
/-! ### end of small -/
/-! ### loops over items -/
theorem genL_ok {p : Pat} {own : List Nat} {k : Bool} {e : Env → Hx → R Out} (f : PD → Bool) {env : Env} {h : Hx} : ∀ {xs : List PD}, (∀ x ∈ xs, ∃ env1 o env2, bindP p x env = some env1 ∧ e env1 h = .ok o env2 h ∧ o.v = .d (.bool (f x)) ∧ wipeE env2 own = env) → genL p own k e xs env h = .ok (if k then xs.any f else xs.all f) env h
  | [], _ => by cases k <;> rfl
  | x :: r, hb => by
    obtain ⟨env1, o, env2, h1, h2, h3, h4⟩ := hb x List.mem_cons_self
    have ih := genL_ok (k := k) f fun y hy => hb y (List.mem_cons_of_mem _ hy)
    unfold genL
    rw [h1]
    show (e env1 h).calm.bind _ = _
    rw [h2]
    simp only [R.calm_ok, R.bind_ok, h3, h4, ih]
    cases k <;> cases hf : f x <;> simp [hf]
theorem lcL_map {p : Pat} {own : List Nat} {c e : Env → Hx → R Out} (f : PD → PD) {env : Env} {h : Hx} (hc : ∀ env h, c env h = .ok ⟨.d (.bool true), false, []⟩ env h) : ∀ {xs acc : List PD}, (∀ x ∈ xs, ∃ env1 o env2, bindP p x env = some env1 ∧ e env1 h = .ok o env2 h ∧ o.v = .d (f x) ∧ wipeE (frz o.ln env2) own = env) → lcL p own c e xs acc env h = .ok (acc ++ xs.map f) env h
  | [], acc, _ => by simp [lcL]
  | x :: r, acc, hb => by
    obtain ⟨env1, o, env2, h1, h2, h3, h4⟩ := hb x List.mem_cons_self
    have ih := lcL_map f hc (acc := acc ++ [f x]) fun y hy => hb y (List.mem_cons_of_mem _ hy)
    unfold lcL
    rw [h1]
    show (c env1 h).calm.bind _ = _
    rw [hc]
    show (e env1 h).calm.bind _ = _
    rw [h2]
    simp only [R.calm_ok, R.bind_ok, h3, h4, ih]
    simp
theorem lcL_rel {p : Pat} {own : List Nat} {c e : Env → Hx → R Out} {I : Hx → Prop} {P : PD → PD → Prop} {env : Env} (hc : ∀ env h, c env h = .ok ⟨.d (.bool true), false, []⟩ env h) : ∀ {xs acc : List PD} {h : Hx}, I h → (∀ x ∈ xs, ∀ h, I h → ∃ env1 o env2 h2 y, bindP p x env = some env1 ∧ e env1 h = .ok o env2 h2 ∧ o.v = .d y ∧ wipeE (frz o.ln env2) own = env ∧ P x y ∧ I h2) → ∃ ys h', lcL p own c e xs acc env h = .ok (acc ++ ys) env h' ∧ ys.length = xs.length ∧ (∀ y ∈ ys, ∃ x ∈ xs, P x y) ∧ I h'
  | [], acc, h, i, _ => ⟨[], h, by simp [lcL], rfl, by simp, i⟩
  | x :: r, acc, h, i, hb => by
    obtain ⟨env1, o, env2, h2, y, e1, e2, e3, e4, e5, e6⟩ := hb x List.mem_cons_self h i
    obtain ⟨ys, h', z1, z2, z3, z4⟩ := lcL_rel hc (acc := acc ++ [y]) e6 fun y hy => hb y (List.mem_cons_of_mem _ hy)
    refine ⟨y :: ys, h', ?_, by simp [z2], ?_, z4⟩
    · unfold lcL
      rw [e1]
      show (c env1 h).calm.bind _ = _
      rw [hc]
      show (e env1 h).calm.bind _ = _
      rw [e2]
      simp only [R.calm_ok, R.bind_ok, e3, e4, z1]
      simp
    · intro u hu
      rcases List.mem_cons.mp hu with rfl | hu
      · exact ⟨x, List.mem_cons_self, e5⟩
      · obtain ⟨w, hw, q⟩ := z3 u hu
        exact ⟨w, List.mem_cons_of_mem _ hw, q⟩
/-- a for over items: Inv what is left to do -/
theorem frL_inv {p : Pat} {body : Env → Hx → R Fl} (Inv : List PD → Env → Hx → Prop) {Fin : Env → Hx → Prop} (he : ∀ env h, Inv [] env h → Fin env h)
    (hb : ∀ x r env h, Inv (x :: r) env h → ∃ env1, bindP p x env = some env1 ∧ ((∃ env2 h2, body env1 h = .ok .next env2 h2 ∧ Inv r env2 h2) ∨ ∃ env2 h2, body env1 h = .ok .brk env2 h2 ∧ Fin env2 h2)) :
    ∀ {xs : List PD} {env : Env} {h : Hx}, Inv xs env h → ∃ env' h', frL p body xs env h = .ok .next env' h' ∧ Fin env' h'
  | [], env, h, i => ⟨env, h, rfl, he _ _ i⟩
  | x :: r, env, h, i => by
    obtain ⟨env1, e1, z⟩ := hb x r env h i
    rcases z with ⟨env2, h2, e2, j⟩ | ⟨env2, h2, e2, j⟩
    · obtain ⟨env', h', e3, q⟩ := frL_inv Inv he hb j
      refine ⟨env', h', ?_, q⟩
      unfold frL
      rw [e1]
      show (body env1 h).bind _ = _
      rw [e2]
      exact e3
    · refine ⟨env2, h2, ?_, j⟩
      unfold frL
      rw [e1]
      show (body env1 h).bind _ = _
      rw [e2]
      rfl
theorem whL_step {c : Env → Hx → R Out} {body : Env → Hx → R Fl} {n : Nat} {env env2 env3 : Env} {h h2 h3 : Hx} {o : Out} (h1 : c env h = .ok o env2 h2) (ht : truth o.v = some true) (hb : body env2 h2 = .ok .next env3 h3) : whL c body (n + 1) env h = whL c body n env3 h3 := by
  show (c env h).bind _ = _
  simp only [h1, R.bind_ok, ht, hb]
theorem whL_end {c : Env → Hx → R Out} {body : Env → Hx → R Fl} {n : Nat} {env env2 : Env} {h h2 : Hx} {o : Out} (h1 : c env h = .ok o env2 h2) (ht : truth o.v = some false) : whL c body (n + 1) env h = .ok .next env2 h2 := by
  show (c env h).bind _ = _
  simp only [h1, R.bind_ok, ht]
/-! ### blocks in expressions -/
theorem ev_gen {F : Fns} {lk : List Nat} {g : Gk} {own : List Nat} {p : Pat} {it : MI} {elt : MX} {env env1 E : Env} {h : Hx} {xs : List PD} {ln : List Nat} (f : PD → Bool) (hi : evi F lk it env h = .ok (xs, ln) env1 h) (hk : blkOk own p lk (xs, ln) = true) (hE : wipeE (frz (frzI xs ln) env1) own = E)
    (hb : ∀ x ∈ xs, ∃ e1 o e2, bindP p x E = some e1 ∧ ev F (ln ++ own ++ lk) elt e1 h = .ok o e2 h ∧ o.v = .d (.bool (f x)) ∧ wipeE e2 own = E) :
    ev F lk (.gen g own p it elt) env h = .ok ⟨.d (.bool (if decide (g = .any) then xs.any f else xs.all f)), true, []⟩ (back (frz (frzI xs ln) env1) E own) h := by
  unfold ev
  rw [hi]
  show (if blkOk own p lk (xs, ln) then _ else _) = _
  rw [if_pos hk]
  show (genL p own (decide (g = .any)) (ev F (ln ++ own ++ lk) elt) xs (wipeE (frz (frzI xs ln) env1) own) h).bind _ = _
  rw [hE, genL_ok f hb]
  rfl
theorem ev_lc {F : Fns} {lk : List Nat} {own : List Nat} {p : Pat} {it : MI} {elt : MX} {env env1 E : Env} {h : Hx} {xs : List PD} {ln : List Nat} (f : PD → PD) (hi : evi F lk it env h = .ok (xs, ln) env1 h) (hk : blkOk own p lk (xs, ln) = true) (hE : wipeE (frz (frzI xs ln) env1) own = E)
    (hb : ∀ x ∈ xs, ∃ e1 o e2, bindP p x E = some e1 ∧ ev F (ln ++ own ++ lk) elt e1 h = .ok o e2 h ∧ o.v = .d (f x) ∧ wipeE (frz o.ln e2) own = E) :
    ev F lk (.lc own p it (.c (.bool true)) elt) env h = .ok ⟨.d (.list (xs.map f)), true, []⟩ (back (frz (frzI xs ln) env1) E own) h := by
  unfold ev
  rw [hi]
  show (if blkOk own p lk (xs, ln) then _ else _) = _
  rw [if_pos hk]
  show (lcL p own (ev F (ln ++ own ++ lk) (.c (.bool true))) (ev F (ln ++ own ++ lk) elt) xs [] (wipeE (frz (frzI xs ln) env1) own) h).bind _ = _
  rw [hE, lcL_map (c := ev F (ln ++ own ++ lk) (.c (.bool true))) f (fun _ _ => rfl) hb]
  rfl
theorem ev_lcR {F : Fns} {lk : List Nat} {own : List Nat} {p : Pat} {it : MI} {elt : MX} {env env1 E : Env} {h0 h : Hx} {xs : List PD} {ln : List Nat} {I : Hx → Prop} {P : PD → PD → Prop} (hi : evi F lk it env h0 = .ok (xs, ln) env1 h) (i : I h) (hk : blkOk own p lk (xs, ln) = true) (hE : wipeE (frz (frzI xs ln) env1) own = E)
    (hb : ∀ x ∈ xs, ∀ h, I h → ∃ e1 o e2 h2 y, bindP p x E = some e1 ∧ ev F (ln ++ own ++ lk) elt e1 h = .ok o e2 h2 ∧ o.v = .d y ∧ wipeE (frz o.ln e2) own = E ∧ P x y ∧ I h2) :
    ∃ ys h', ev F lk (.lc own p it (.c (.bool true)) elt) env h0 = .ok ⟨.d (.list ys), true, []⟩ (back (frz (frzI xs ln) env1) E own) h' ∧ ys.length = xs.length ∧ (∀ y ∈ ys, ∃ x ∈ xs, P x y) ∧ I h' := by
  obtain ⟨ys, h', z1, z2, z3, z4⟩ := lcL_rel (p := p) (own := own) (c := ev F (ln ++ own ++ lk) (.c (.bool true))) (acc := []) (fun _ _ => rfl) i hb
  refine ⟨ys, h', ?_, z2, z3, z4⟩
  unfold ev
  rw [hi]
  show (if blkOk own p lk (xs, ln) then _ else _) = _
  rw [if_pos hk]
  show (lcL p own (ev F (ln ++ own ++ lk) (.c (.bool true))) (ev F (ln ++ own ++ lk) elt) xs [] (wipeE (frz (frzI xs ln) env1) own) h).bind _ = _
  rw [hE, z1]
  rfl
theorem fr_ok {F : Fns} {tp : Bool} {lk : List Nat} {p : Pat} {it : MI} {b : List MS} {env env1 : Env} {h h1 : Hx} {xs : List PD} {ln : List Nat} (hi : evi F lk it env h = .ok (xs, ln) env1 h1) (hk : hit p.all (ln ++ lk) = false) : exS F tp lk (.fr p it b) env h = frL p (exSs F tp (ln ++ lk) b) xs (frz (frzI xs ln) env1) h1 := by
  unfold exS
  rw [hi]
  show (if hit p.all (ln ++ lk) then _ else _) = _
  rw [if_neg (by rw [hk]; simp)]
theorem whl_ok {F : Fns} {tp : Bool} {lk : List Nat} {c : MX} {b : List MS} {env : Env} {h : Hx} : exS F tp lk (.whl c b) env h = whL (ev F lk c) (exSs F tp lk b) many env h := by rfl
theorem frzI_no {xs : List PD} (ln : List Nat) (e : noLs xs = true) : frzI xs ln = [] := by unfold frzI; rw [e]; rfl
theorem intsOf_map : ∀ ns : List Int, intsOf (ns.map PyData.int) = some ns
  | [] => rfl
  | n :: r => by show (intsOf (r.map PyData.int)).map (n :: ·) = _; rw [intsOf_map r]; rfl
theorem sum_list (ns : List Int) : biD .sum [.list (ns.map .int)] = some (.int ns.sum, true) := by
  show (match intsOf (ns.map PyData.int) with
    | some ns => some (PyData.int ns.sum, true)
    | none => none) = _
  rw [intsOf_map]
theorem sum_tuple (ns : List Int) : biD .sum [.tuple (ns.map .int)] = some (.int ns.sum, true) := by
  show (match intsOf (ns.map PyData.int) with
    | some ns => some (PyData.int ns.sum, true)
    | none => none) = _
  rw [intsOf_map]
theorem any_ints (ns : List Int) : biD .any [.tuple (ns.map .int)] = some (.bool (ns.any fun i => i != 0), true) := by
  show (if (ns.map PyData.int).all num then some (PyData.bool ((ns.map PyData.int).any PyData.truthy), true) else none) = _
  rw [if_pos (by simp [num])]
  simp [List.any_map]
  congr 1
theorem rng0 (k : Nat) : rngD 0 (k : Int) = (List.range k).map fun i => PyData.int (i : Nat) := by
  unfold rngD
  rw [show ((k : Int) - 0).toNat = k by omega]
  apply List.map_congr_left
  intro i _
  rw [Int.zero_add]
theorem rng1_ok {F : Fns} {lk : List Nat} {a : MX} {env env' : Env} {h h' : Hx} {j : Int} {fr : Bool} {ln : List Nat} (ha : ev F lk a env h = .ok ⟨.d (.int j), fr, ln⟩ env' h') (hr : rngOk j = true) : evi F lk (.rng1 a) env h = .ok (rngD 0 j, []) env' h' := by
  unfold evi
  rw [ha]
  show (if rngOk j then R.ok (rngD 0 j, ([] : List Nat)) env' h' else .no) = _
  rw [if_pos hr]
theorem rngOk_nat {k : Nat} (h : k ≤ 1000000000) : rngOk (k : Int) = true := decide_eq_true ⟨by omega, by omega⟩
theorem binShr {i j : Int} (h : 0 ≤ j) : binD .shr (.int i) (.int j) = some (.int (i / 2 ^ j.toNat), true) := by
  show (if 0 ≤ j then _ else _) = _
  rw [if_pos h]
theorem binShl {i j : Int} (h : 0 ≤ j) (h2 : j ≤ 1000000) (h3 : i.natAbs < 2 ^ 64) : binD .shl (.int i) (.int j) = some (.int (i * 2 ^ j.toNat), true) := by
  show (if 0 ≤ j ∧ j ≤ 1000000 ∧ i.natAbs < 2 ^ 64 then _ else _) = _
  rw [if_pos ⟨h, h2, h3⟩]
end Mi
/-! MiEw: more of how a program of the small language is evaluated. -/
namespace Mi
open PySem
def isI : PD → Bool | .int _ => true | _ => false
def btw (x : PD) (a b : Int) : Bool := match x with | .int i => decide (a ≤ i) && decide (i ≤ b) | _ => false
/-- a tuple of at most lim parts, or no tuple -/
def wid (x : PD) : Prop := ∀ xs, x = .tuple xs → xs.length ≤ lim
def areI (x : PD) (k : Int) : Bool := match x with | .tuple xs => decide ((xs.length : Int) = k) && xs.all isI | _ => false
theorem blk0 {own : List Nat} {p : Pat} {xs : List PD} (h1 : p.all.all own.contains = true) (h2 : xs.length ≤ lim) : blkOk own p [] (xs, []) = true := by
  unfold blkOk
  rw [h1, decide_eq_true h2]
  have e : hit own ([] ++ []) = false := by
    unfold hit
    simp
  rw [e]; rfl
theorem fmod_lo (x : Int) {b : Int} (h : 0 < b) : 0 ≤ x.fmod b := by rw [Int.fmod_eq_emod_of_nonneg _ (by omega)]; exact Int.emod_nonneg _ (by omega)
theorem fmod_hi (x : Int) {b : Int} (h : 0 < b) : x.fmod b < b := by rw [Int.fmod_eq_emod_of_nonneg _ (by omega)]; exact Int.emod_lt_of_pos _ h
theorem pow18 : binD .pow (.int 10) (.int 18) = some (.int 1000000000000000000, true) := by
  show (if (0:Int) ≤ 18 ∧ (18:Int) ≤ 1000000 ∧ (10:Int).natAbs < 2 ^ 64 then some (PyData.int ((10:Int) ^ (18:Int).toNat), true) else none) = _
  rw [if_pos (by decide)]
  rfl
theorem binMulR (i j : Int) (h : sm 64 j = true) : binD .mul (.int i) (.int j) = some (.int (i * j), true) := by
  show (if mulOk i j then _ else _) = _
  rw [if_pos (by unfold mulOk; rw [h]; simp)]
theorem binMulL (i j : Int) (h : sm 64 i = true) : binD .mul (.int i) (.int j) = some (.int (i * j), true) := by
  show (if mulOk i j then _ else _) = _
  rw [if_pos (by unfold mulOk; rw [h]; simp)]
theorem binMod (i j : Int) (h : j ≠ 0) : binD .mod (.int i) (.int j) = some (.int (i.fmod j), true) := by
  show (if j ≠ 0 then _ else _) = _
  rw [if_pos h]
theorem binDiv (i j : Int) (h : j ≠ 0) (h2 : j.natAbs.log2 < 9000) : binD .fdiv (.int i) (.int j) = some (.int (i.fdiv j), true) := by
  show (if j ≠ 0 ∧ j.natAbs.log2 < 9000 then _ else _) = _
  rw [if_pos ⟨h, h2⟩]
theorem fdiv_nn {x b : Int} (hx : 0 ≤ x) (hb : 0 < b) : 0 ≤ x.fdiv b := by rw [Int.fdiv_eq_ediv_of_nonneg _ (by omega)]; exact Int.ediv_nonneg hx (by omega)
def natI : PD → Bool | .int i => decide (0 ≤ i) | _ => false
def areN (x : PD) (k : Int) : Bool := match x with | .tuple xs => decide ((xs.length : Int) = k) && xs.all natI | _ => false
theorem isI_ex {x : PD} (h : isI x = true) : ∃ i, x = .int i := by
  cases x <;> simp [isI] at h
  exact ⟨_, rfl⟩
theorem natI_isI {x : PD} (h : natI x = true) : isI x = true := by cases x <;> simp [natI] at h; rfl
theorem cut_take (row : List PD) {j : Nat} (h : j ≤ row.length) : cutD row none (some (j : Int)) = row.take j := by
  unfold cutD
  rw [HT.sIx_nat, HT.sIx_none, Nat.min_eq_left h]
  simp
theorem cut_drop (row : List PD) {j : Nat} (h : j ≤ row.length) : cutD row (some (j : Int)) none = row.drop j := by
  unfold cutD
  rw [HT.sIx_nat, HT.sIx_none, Nat.min_eq_left h]
  rw [List.take_of_length_le (by simp)]
abbrev bx : Option Slot := some ⟨.box 0, false⟩
abbrev sI (i : Int) : Option Slot := some ⟨.d (.int i), false⟩
abbrev sD (x : PD) : Option Slot := some ⟨.d x, false⟩
abbrev sO (x : List PD) : Option Slot := some ⟨.d (.list x), true⟩
abbrev iT (ns : List Int) : PD := .tuple (ns.map .int)
abbrev iL (ns : List Int) : PD := .list (ns.map .int)
theorem lcB {F : Fns} {own : List Nat} {p : Pat} {it : MI} {elt : MX} {env env1 E E2 : Env} {h : Hx} {xs ys : List PD} {ln : List Nat} (f : PD → PD) (hi : evi F [] it env h = .ok (xs, ln) env1 h) (hk : blkOk own p [] (xs, ln) = true) (hE : wipeE (frz (frzI xs ln) env1) own = E)
    (hb : ∀ x ∈ xs, ∃ e1 o e2, bindP p x E = some e1 ∧ ev F (ln ++ own ++ []) elt e1 h = .ok o e2 h ∧ o.v = .d (f x) ∧ wipeE (frz o.ln e2) own = E) (hm : xs.map f = ys) (hB : back (frz (frzI xs ln) env1) E own = E2) :
    ev F [] (.lc own p it (.c (.bool true)) elt) env h = .ok ⟨.d (.list ys), true, []⟩ E2 h := by rw [ev_lc f hi hk hE hb, hm, hB]
theorem mem_ints {ns : List Int} {x : PD} (h : x ∈ ns.map PyData.int) : ∃ i ∈ ns, x = .int i := by
  obtain ⟨i, hi, rfl⟩ := List.mem_map.mp h
  exact ⟨i, hi, rfl⟩
theorem frL_cons {p : Pat} {body : Env → Hx → R Fl} {x : PD} {r : List PD} {env env1 env2 : Env} {h h2 : Hx} (h1 : bindP p x env = some env1) (hb : body env1 h = .ok .next env2 h2) : frL p body (x :: r) env h = frL p body r env2 h2 := by
  rw [frL, h1]
  simp only [hb, R.bind_ok]
theorem frL_brk {p : Pat} {body : Env → Hx → R Fl} {x : PD} {r : List PD} {env env1 env2 : Env} {h h2 : Hx} (h1 : bindP p x env = some env1) (hb : body env1 h = .ok .brk env2 h2) : frL p body (x :: r) env h = .ok .next env2 h2 := by
  rw [frL, h1]
  simp only [hb, R.bind_ok]
theorem zip_ok {F : Fns} {lk : List Nat} {a b : MX} {env env1 env2 : Env} {h h1 h2 : Hx} {xs ys : List PD} {o p : Out} {l1 l2 : List Nat} (ha : ev F lk a env h = .ok o env1 h1) (hb : ev F (o.ln ++ lk) b env1 h1 = .ok p env2 h2) (h3 : itemsV o env2 h2 = .ok (xs, l1) env2 h2) (h4 : itemsV p env2 h2 = .ok (ys, l2) env2 h2) : evi F lk (.zip a b) env h = .ok (zipD xs ys, l1 ++ l2) env2 h2 := by
  unfold evi
  rw [ha]
  simp only [R.bind_ok]
  rw [hb]
  simp only [R.bind_ok]
  rw [h3]
  simp only [R.bind_ok]
  rw [h4]
  rfl
theorem frL_next {p : Pat} {body : Env → Hx → R Fl} {x : PD} {r : List PD} {env env1 env2 env3 : Env} {h h2 h3 : Hx} (h1 : bindP p x env = some env1) (hb : body env1 h = .ok .next env2 h2) (hr : frL p body r env2 h2 = .ok .next env3 h3) : frL p body (x :: r) env h = .ok .next env3 h3 := (frL_cons h1 hb).trans hr
theorem ss_one {F : Fns} {tp : Bool} {lk : List Nat} {s : MS} {env env' : Env} {h h' : Hx} (e : exS F tp lk s env h = .ok .next env' h') : exSs F tp lk [s] env h = .ok .next env' h' := (ss_next e).trans rfl
theorem at_nat {α : Type} (xs : List α) (i : Nat) (x : α) (h : xs[i]? = some x) : L2.atI xs (i : Int) = some x := by
  have hl : i < xs.length := (List.getElem?_eq_some_iff.mp h).1
  unfold L2.atI L2.ixN
  rw [if_pos (by omega), if_pos (by omega)]
  show xs[(i : Int).toNat]? = _
  rw [Int.toNat_natCast, h]
theorem all_true {α : Type} (xs : List α) : biD .all [.list (xs.map fun _ => PyData.bool true)] = some (.bool true, true) := by
  show (if (xs.map fun _ => PyData.bool true).all num then some (PyData.bool ((xs.map fun _ => PyData.bool true).all PyData.truthy), true) else none) = _
  rw [if_pos (by simp [num])]
  simp [PyData.truthy]
theorem all_len (k : Nat) : ((rngD 0 (k : Int)).map fun _ => PyData.bool true) = (List.range k).map fun _ => PyData.bool true := by
  rw [rng0, List.map_map]
  rfl
theorem neB (b : Bool) : cmpD .ne (.bool b) (.bool b) = some false := by cases b <;> rfl
theorem plain_ints : ∀ ns : List Int, PyData.plainAll (ns.map .int) = true
  | [] => rfl
  | n :: r => by
    show (PyData.plain (.int n) && PyData.plainAll (r.map .int)) = true
    rw [plain_ints r]; rfl
theorem depthI_ints : ∀ ns : List Int, PyData.depthAll (ns.map .int) = 0
  | [] => rfl
  | n :: r => by
    show max (PyData.depth (.int n)) (PyData.depthAll (r.map .int)) = 0
    rw [depthI_ints r]; rfl
theorem okEq_ints (ns : List Int) : okEq (.list (ns.map .int)) = true := by
  unfold okEq
  have e1 : PyData.plain (.list (ns.map .int)) = true := by
    show PyData.plainAll (ns.map .int) = true
    exact plain_ints ns
  have e2 : PyData.depth (.list (ns.map .int)) = 1 := by
    show PyData.depthAll (ns.map .int) + 1 = 1
    rw [depthI_ints]
  rw [e1, e2]; rfl
theorem okEq_int (i : Int) : okEq (.int i) = true := rfl
theorem isin_ints (i : Int) (ns : List Int) : cmpD .isin (.int i) (.list (ns.map .int)) = some (ns.contains i) := by
  show (if okEq (.int i) && okEq (.list (ns.map .int)) then some ((ns.map PyData.int).any fun z => PyData.eqv z (.int i)) else none) = _
  rw [okEq_int, okEq_ints]
  show some ((ns.map PyData.int).any fun z => PyData.eqv z (.int i)) = _
  rw [List.any_map, List.contains_eq_any_beq]
  congr 1
  congr 1
  funext j
  show (j == i) = (i == j)
  exact Bool.eq_iff_iff.mpr ⟨fun h => by simp at h ⊢; omega, fun h => by simp at h ⊢; omega⟩
theorem ints_of {Q : Int → Prop} : ∀ ys : List PD, (∀ y ∈ ys, ∃ i, y = .int i ∧ Q i) → ∃ ns : List Int, ys = ns.map .int ∧ ns.length = ys.length ∧ ∀ i ∈ ns, Q i
  | [], _ => ⟨[], rfl, rfl, by simp⟩
  | y :: r, h => by
    obtain ⟨i, rfl, q⟩ := h y (by simp)
    obtain ⟨ns, e1, e2, e3⟩ := ints_of r fun z hz => h z (by simp [hz])
    refine ⟨i :: ns, by simp [e1], by simp [e2], fun j hj => ?_⟩
    rcases List.mem_cons.mp hj with rfl | hj
    · exact q
    · exact e3 j hj
theorem log_small {k : Int} (h0 : 0 ≤ k) (h : k ≤ 1000000) : k.natAbs.log2 < 9000 := by
  have : k.natAbs < 2 ^ 9000 := Nat.lt_of_le_of_lt (show k.natAbs ≤ 1000000 by omega) (by decide +kernel)
  by_cases z : k.natAbs = 0
  · rw [z]; decide
  · exact (Nat.log2_lt z).mpr this
def g (E : List Int) (s : Nat) : Int := E.getD s 0
theorem g_some {E : List Int} {s : Nat} (h : s < E.length) : E[s]? = some (g E s) := by
  unfold g
  rw [List.getD_eq_getElem?_getD, List.getElem?_eq_getElem h]
  rfl
theorem at_ints {E : List Int} {s : Nat} (h : s < E.length) : L2.atI (E.map PyData.int) (s : Int) = some (.int (g E s)) := at_nat _ s _ (by rw [List.getElem?_map, g_some h]; rfl)
theorem rep_ints (x : Int) (k : Nat) (hk : k ≤ 1000000) : binD .mul (.list [.int x]) (.int k) = some (.list ((List.replicate k x).map .int), true) := by
  show (if (k : Int) ≤ 1000000 ∧ -1000000 ≤ (k : Int) ∧ [PyData.int x].length * (k : Int).toNat ≤ lim then some (PyData.list (List.replicate (k : Int).toNat [PyData.int x]).flatten, true) else none) = _
  rw [if_pos ⟨by omega, by omega, by simp [lim]; omega⟩]
  have e2 : (List.replicate (k : Int).toNat [PyData.int x]).flatten = (List.replicate k x).map .int := by
    rw [Int.toNat_natCast]
    clear hk
    induction k with
    | zero => rfl
    | succ k ih => rw [List.replicate_succ, List.replicate_succ, List.flatten_cons, ih]; rfl
  rw [e2]
theorem lcK {F : Fns} {lk own : List Nat} {p : Pat} {it : MI} {elt : MX} {env env1 E E2 : Env} {h : Hx} {xs ys : List PD} {ln : List Nat} (f : PD → PD) (hi : evi F lk it env h = .ok (xs, ln) env1 h) (hk : blkOk own p lk (xs, ln) = true) (hE : wipeE (frz (frzI xs ln) env1) own = E)
    (hb : ∀ x ∈ xs, ∃ e1 o e2, bindP p x E = some e1 ∧ ev F (ln ++ own ++ lk) elt e1 h = .ok o e2 h ∧ o.v = .d (f x) ∧ wipeE (frz o.ln e2) own = E) (hm : xs.map f = ys) (hB : back (frz (frzI xs ln) env1) E own = E2) :
    ev F lk (.lc own p it (.c (.bool true)) elt) env h = .ok ⟨.d (.list ys), true, []⟩ E2 h := by rw [ev_lc f hi hk hE hb, hm, hB]
abbrev tpS (xs : List PD) : Option Slot := sD (.tuple xs)
theorem addT (xs ys : List PD) (hl : xs.length + ys.length ≤ 1000) : binD .add (.tuple xs) (.tuple ys) = some (.tuple (xs ++ ys), true) := by
  show (if xs.length + ys.length ≤ lim then _ else _) = _
  rw [if_pos (Nat.le_trans hl (by decide))]
theorem wid_of {xs : List PD} (h : xs.length ≤ 1000) : wid (.tuple xs) := fun ys e => by
  injection e with e
  exact e ▸ Nat.le_trans h (by decide)
theorem wid_nt {x : PD} (h : isTy .tuple x = false) : wid x := fun ys e => by
  subst e
  simp [isTy, PyData.isTuple] at h
def tm : Nat → PD → Bool
  | _, .none => true
  | _, .bool _ => true
  | _, .int i => decide (i.natAbs ≤ 15)
  | _, .str s => decide (s.length ≤ 1) && s.cps.toList.all fun c => decide (c < 16 ^ 8)
  | d + 1, .list xs => decide (xs.length ≤ 10) && xs.all (tm d)
  | d + 1, .tuple xs => decide (xs.length ≤ 10) && xs.all (tm d)
  | _, _ => false
def wt : Nat → Nat
  | 0 => 4
  | d + 1 => 10 * (wt d + 1)
structure Tame (d : Nat) (x : PD) : Prop where
  sh : x.showable = true
  nd : x.hasDict = false
  lv : x.leavesShort 13 = true
  wt : x.weight ≤ wt d
  dp : x.depth ≤ d
theorem wt_pos (d : Nat) : 4 ≤ wt d := by
  induction d with
  | zero => exact Nat.le_refl _
  | succ d ih => show 4 ≤ 10 * (wt d + 1); omega
structure Tames (d : Nat) (xs : List PD) : Prop where
  sh : PyData.showableAll xs = true
  nd : PyData.hasDictAll xs = false
  lv : PyData.leavesShortAll 13 xs = true
  wt : PyData.weightAll xs ≤ xs.length * (wt d + 1)
  dp : PyData.depthAll xs ≤ d
theorem Tames.of {d : Nat} : ∀ {xs : List PD}, (∀ x ∈ xs, Tame d x) → Tames d xs
  | [], _ => ⟨rfl, rfl, rfl, Nat.zero_le _, Nat.zero_le _⟩
  | x :: r, h => by
    have a := h x (by simp)
    have b := Tames.of (xs := r) fun y hy => h y (by simp [hy])
    refine ⟨?_, ?_, ?_, ?_, ?_⟩
    · show (x.showable && PyData.showableAll r) = true
      rw [a.sh, b.sh]; rfl
    · show (x.hasDict || PyData.hasDictAll r) = false
      rw [a.nd, b.nd]; rfl
    · show (x.leavesShort 13 && PyData.leavesShortAll 13 r) = true
      rw [a.lv, b.lv]; rfl
    · show x.weight + 1 + PyData.weightAll r ≤ _
      have := a.wt
      have := b.wt
      rw [List.length_cons, Nat.add_mul]
      omega
    · show max x.depth (PyData.depthAll r) ≤ d
      have := a.dp
      have := b.dp
      omega
theorem seq_wt {d : Nat} {xs : List PD} (hl : xs.length ≤ 10) (t : Tames d xs) : PyData.weightAll xs ≤ wt (d + 1) := Nat.le_trans t.wt (Nat.mul_le_mul_right _ hl)
theorem tm_tame : ∀ (d : Nat) (x : PD), tm d x = true → Tame d x
  | d, .none, _ => ⟨rfl, rfl, rfl, Nat.le_trans (show PyData.weight .none ≤ 4 by decide) (wt_pos d), Nat.zero_le _⟩
  | d, .bool b, _ => ⟨rfl, rfl, rfl, Nat.le_trans (show PyData.weight (.bool b) ≤ 4 by cases b <;> decide) (wt_pos d), Nat.zero_le _⟩
  | d, .int i, h => by
    have hi : i.natAbs ≤ 15 := by
      cases d <;> simpa [tm] using h
    have hlog : i.natAbs.log2 < 4 ∨ i.natAbs = 0 := by
      by_cases z : i.natAbs = 0
      · exact .inr z
      · exact .inl ((Nat.log2_lt z).mpr (by omega))
    refine ⟨?_, rfl, ?_, Nat.le_trans (m := 4) ?_ (wt_pos d), Nat.zero_le _⟩
    · show decide (i.natAbs.log2 < 1920) = true
      apply decide_eq_true
      rcases hlog with z | z
      · omega
      · rw [z]; decide
    · show decide ((PyData.shown (.int i)).length ≤ 13) = true
      exact decide_eq_true (PyData.shown_int_le (by omega))
    · show (if i == 0 then 0 else i.natAbs.log2 + 1) ≤ 4
      split
      · omega
      · rename_i z
        rcases hlog with y | y
        · omega
        · exact absurd (by simpa using y) z
  | d, .str s, h => by
    have hs : s.length ≤ 1 ∧ (s.cps.toList.all fun c => decide (c < 16 ^ 8)) = true := by
      cases d <;> simpa [tm] using h
    refine ⟨rfl, rfl, ?_, Nat.le_trans (m := 4) ?_ (wt_pos d), Nat.zero_le _⟩
    · show (s.cps.toList.all fun c => decide (c < 16 ^ 8)) = true
      exact hs.2
    · show s.cps.size ≤ 4
      have : s.length = s.cps.size := rfl
      omega
  | 0, .list xs, h => by simp [tm] at h
  | 0, .tuple xs, h => by simp [tm] at h
  | 0, .dict xs, h => by simp [tm] at h
  | d + 1, .dict xs, h => by simp [tm] at h
  | d + 1, .list xs, h => by
    have hs : xs.length ≤ 10 ∧ ∀ x ∈ xs, tm d x = true := by simpa [tm] using h
    have t := Tames.of fun x hx => tm_tame d x (hs.2 x hx)
    exact ⟨t.sh, t.nd, t.lv, seq_wt hs.1 t, Nat.succ_le_succ t.dp⟩
  | d + 1, .tuple xs, h => by
    have hs : xs.length ≤ 10 ∧ ∀ x ∈ xs, tm d x = true := by simpa [tm] using h
    have t := Tames.of fun x hx => tm_tame d x (hs.2 x hx)
    exact ⟨t.sh, t.nd, t.lv, seq_wt hs.1 t, Nat.succ_le_succ t.dp⟩
theorem tm_up : ∀ (d : Nat) (x : PD), tm d x = true → tm (d + 1) x = true
  | d, .none, _ => rfl
  | d, .bool _, _ => rfl
  | d, .int i, h => by cases d <;> exact h
  | d, .str s, h => by cases d <;> exact h
  | 0, .list xs, h => by simp [tm] at h
  | 0, .tuple xs, h => by simp [tm] at h
  | 0, .dict xs, h => by simp [tm] at h
  | d + 1, .dict xs, h => by simp [tm] at h
  | d + 1, .list xs, h => by
    have hs : xs.length ≤ 10 ∧ ∀ x ∈ xs, tm d x = true := by simpa [tm] using h
    simp [tm, hs.1]
    exact fun x hx => tm_up d x (hs.2 x hx)
  | d + 1, .tuple xs, h => by
    have hs : xs.length ≤ 10 ∧ ∀ x ∈ xs, tm d x = true := by simpa [tm] using h
    simp [tm, hs.1]
    exact fun x hx => tm_up d x (hs.2 x hx)
theorem tm_seq {d : Nat} {xs : List PD} (hl : xs.length ≤ 10) (h : ∀ x ∈ xs, tm d x = true) : tm (d + 1) (.tuple xs) = true ∧ tm (d + 1) (.list xs) = true := by
  constructor <;> simp [tm, hl] <;> exact h
theorem tm_le {x : PD} : ∀ {d e : Nat}, d ≤ e → tm d x = true → tm e x = true := fun {d e} h t => by
  induction h with
  | refl => exact t
  | step _ ih => exact tm_up _ _ ih
theorem mul0 (z : Nat) (hz : z ≤ 1000) : binD .mul (.tuple [.int 0]) (.int z) = some (.tuple ((List.replicate z (0 : Int)).map .int), true) := by
  show (if (z : Int) ≤ 1000 ∧ -1000 ≤ (z : Int) ∧ [PyData.int 0].length ≤ 1000 then some (PyData.tuple (List.replicate (z : Int).toNat [PyData.int 0]).flatten, true) else none) = _
  rw [if_pos ⟨by omega, by omega, by simp⟩]
  have e2 : (List.replicate (z : Int).toNat [PyData.int 0]).flatten = (List.replicate z (0 : Int)).map .int := by
    rw [Int.toNat_natCast]
    clear hz
    induction z with
    | zero => rfl
    | succ k ih => rw [List.replicate_succ, List.replicate_succ, List.flatten_cons, ih]; rfl
  rw [e2]
end Mi
/-! MiEx: more equations for evaluation. -/
namespace Mi
open PySem
section
variable {α : Type} {a b c d e : α} {l : List α}
@[simp] theorem at_0_ : L2.atI (a :: l) 0 = some a := by
  refine at_nat (a :: l) 0 a rfl
@[simp] theorem at_1_ : L2.atI (a :: b :: l) 1 = some b := at_nat (a :: b :: l) 1 b rfl
@[simp] theorem at_2_ : L2.atI (a :: b :: c :: l) 2 = some c := at_nat (a :: b :: c :: l) 2 c rfl
@[simp] theorem at_3_ : L2.atI (a :: b :: c :: d :: l) 3 = some d := at_nat (a :: b :: c :: d :: l) 3 d rfl
end
section
variable {F : Fns} {tp : Bool} {lk : List Nat} {env env1 : Env} {h : Hx} {fr f1 f2 : Bool} {ln : List Nat} {xs ys : List PD} {x y : PD} {i j : Int} {n : Nat}
@[simp] theorem asgT2_ {a b : Nat} : asgV [] (.tup [a, b]) ⟨.d (.tuple [x, y]), fr, []⟩ env h = .ok .next ((env.set a (sD x)).set b (sD y)) h := rfl
@[simp] theorem asgT3_ {a b c : Nat} {z : PD} : asgV [] (.tup [a, b, c]) ⟨.d (.tuple [x, y, z]), fr, []⟩ env h = .ok .next (((env.set a (sD x)).set b (sD y)).set c (sD z)) h := rfl
@[simp] theorem asgT4_ {a b c d : Nat} {z w : PD} : asgV [] (.tup [a, b, c, d]) ⟨.d (.tuple [x, y, z, w]), fr, []⟩ env h = .ok .next ((((env.set a (sD x)).set b (sD y)).set c (sD z)).set d (sD w)) h := rfl
@[simp] theorem wipe_nil_ : wipeE env [] = env := rfl
@[simp] theorem wipe_cons_ {r : List Nat} : wipeE env (n :: r) = (wipeE env r).set n none := rfl
@[simp] theorem ixV_l_ : ixV (.d (.list xs)) (.d (.int i)) h = L2.atI xs i := rfl
@[simp] theorem ixV_t_ : ixV (.d (.tuple xs)) (.d (.int i)) h = L2.atI xs i := rfl
@[simp] theorem itemsV_l_ : itemsV ⟨.d (.list xs), fr, ln⟩ env h = .ok (xs, ln) env h := rfl
@[simp] theorem itemsV_t_ : itemsV ⟨.d (.tuple xs), fr, ln⟩ env h = .ok (xs, ln) env h := rfl
@[simp] theorem isi_tup_t : isTy .tuple (.tuple xs) = true := rfl
@[simp] theorem isi_tup_l : isTy .tuple (.list xs) = false := rfl
@[simp] theorem isi_tup_i : isTy .tuple (.int i) = false := rfl
@[simp] theorem isi_tup_b {b : Bool} : isTy .tuple (.bool b) = false := rfl
@[simp] theorem isi_tup_n : isTy .tuple .none = false := rfl
@[simp] theorem isi_tup_s {s : Str} : isTy .tuple (.str s) = false := rfl
@[simp] theorem isi_lst_t : isTy .list (.tuple xs) = false := rfl
@[simp] theorem isi_lst_l : isTy .list (.list xs) = true := rfl
@[simp] theorem is_none_t : cmpD .is (.tuple xs) .none = some false := rfl
@[simp] theorem is_none_l : cmpD .is (.list xs) .none = some false := rfl
@[simp] theorem is_none_n : cmpD .is .none .none = some true := rfl
@[simp] theorem is_none_i : cmpD .is (.int i) .none = some false := rfl
@[simp] theorem is_none_b {b : Bool} : cmpD .is (.bool b) .none = some false := rfl
@[simp] theorem isn_none_t : cmpD .isnot (.tuple xs) .none = some true := rfl
@[simp] theorem isn_none_l : cmpD .isnot (.list xs) .none = some true := rfl
@[simp] theorem isn_none_n : cmpD .isnot .none .none = some false := rfl
@[simp] theorem par_d_ (hij : i.toNat ≠ j.toNat) : True := trivial
end
/-- a comprehension over ints from 0 on, whatever its names -/
theorem lcR {F : Fns} {lk own : List Nat} {p : Nat} {a elt : MX} {env E E2 : Env} {h : Hx} {N : Nat} {fr : Bool} {ys : List PD} (f : Nat → PD) (ha : ev F lk a env h = .ok ⟨.d (.int N), fr, []⟩ env h) (hN : N ≤ 1000) (ho : own = [p]) (hk : lk.contains p = false) (hE : wipeE env own = E) (hE2 : ∀ x, wipeE (E.set p x) own = E)
    (hb : ∀ i, i < N → ∃ fr, ev F (own ++ lk) elt (E.set p (sI (i : Nat))) h = .ok ⟨.d (f i), fr, []⟩ (E.set p (sI (i : Nat))) h) (hm : (List.range N).map f = ys) (hB : back env E own = E2) :
    ev F lk (.lc own (.var p) (.rng1 a) (.c (.bool true)) elt) env h = .ok ⟨.d (.list ys), true, []⟩ E2 h := by
  subst ho
  have bk : blkOk [p] (.var p) lk (rngD 0 (N : Int), []) = true := by
    unfold blkOk
    have e1 : hit [p] ([] ++ lk) = false := by
      unfold hit
      simp only [List.nil_append, List.any_cons, List.any_nil, Bool.or_false]
      exact hk
    rw [show ((rngD 0 (N : Int), ([] : List Nat)) : List PD × List Nat).2 = [] from rfl, e1]
    have e2 : (rngD 0 (N : Int)).length ≤ lim := by rw [rng0, List.length_map, List.length_range]; exact Nat.le_trans hN (by decide)
    rw [decide_eq_true e2]
    simp [Pat.all]
  have z := ev_lc (F := F) (lk := lk) (own := [p]) (p := .var p) (it := .rng1 a) (elt := elt) (env := env) (h := h) (xs := rngD 0 (N : Int)) (ln := []) (env1 := env) (E := E) (fun x => match x with | .int i => f i.toNat | _ => .none) (rng1_ok ha (rngOk_nat (by omega))) bk (by rw [frzI_nil]; exact hE) fun x hx => by
    rw [rng0] at hx
    obtain ⟨i, hi, rfl⟩ := List.mem_map.mp hx
    obtain ⟨fr, q1⟩ := hb i (List.mem_range.mp hi)
    exact ⟨_, _, _, rfl, q1, by simp, hE2 _⟩
  rw [z, frzI_nil, frz_nil_, hB, ← hm, rng0, List.map_map]
  rfl
/-- .. over anything -/
theorem lcV {F : Fns} {lk own : List Nat} {p : Pat} {it : MI} {elt : MX} {env env1 E E2 : Env} {h : Hx} {xs ys : List PD} {ln : List Nat} (f : PD → PD) (hi : evi F lk it env h = .ok (xs, ln) env1 h) (hk : blkOk own p lk (xs, ln) = true) (hE : wipeE (frz (frzI xs ln) env1) own = E)
    (hb : ∀ x ∈ xs, ∃ e1 o e2, bindP p x E = some e1 ∧ ev F (ln ++ own ++ lk) elt e1 h = .ok o e2 h ∧ o.v = .d (f x) ∧ wipeE (frz o.ln e2) own = E) (hm : xs.map f = ys) (hB : back (frz (frzI xs ln) env1) E own = E2) :
    ev F lk (.lc own p it (.c (.bool true)) elt) env h = .ok ⟨.d (.list ys), true, []⟩ E2 h := by rw [ev_lc f hi hk hE hb, hm, hB]
/-! tuples of ints, place by place -/
theorem map_range {α β : Type} (d : α) (xs : List α) (f : α → β) : (List.range xs.length).map (fun i => f (xs.getD i d)) = xs.map f := by
  apply List.ext_getElem?
  intro i
  rw [List.getElem?_map, List.getElem?_map]
  by_cases q : i < xs.length
  · rw [List.getElem?_range q, List.getElem?_eq_getElem q]
    simp [List.getD_eq_getElem?_getD, List.getElem?_eq_getElem q]
  · rw [List.getElem?_eq_none (by simpa using q), List.getElem?_eq_none (by simpa using q)]
    rfl
/-- a list by its places -/
def tab (n : Nat) (f : Nat → Int) : List Int := (List.range n).map f
@[simp] theorem tab_len (n : Nat) (f : Nat → Int) : (tab n f).length = n := by unfold tab; simp
theorem tab_g {n : Nat} {f : Nat → Int} {i : Nat} (h : i < n) : g (tab n f) i = f i := by
  unfold tab g
  rw [List.getD_eq_getElem?_getD, List.getElem?_map, List.getElem?_range h]
  rfl
theorem g_ge {E : List Int} {i : Nat} (h : E.length ≤ i) : g E i = 0 := by
  unfold g
  rw [List.getD_eq_getElem?_getD, List.getElem?_eq_none h]; rfl
theorem g_ext {a b : List Int} (hl : a.length = b.length) (h : ∀ i, i < a.length → g a i = g b i) : a = b := by
  apply List.ext_getElem?
  intro i
  by_cases q : i < a.length
  · rw [g_some q, g_some (by omega), h i q]
  · rw [List.getElem?_eq_none (by omega), List.getElem?_eq_none (by omega)]
theorem tab_congr {n : Nat} {f f' : Nat → Int} (h : ∀ i, i < n → f i = f' i) : tab n f = tab n f' := by
  unfold tab
  exact List.map_congr_left fun i hi => h i (List.mem_range.mp hi)
theorem eq_tab {a : List Int} {n : Nat} {f : Nat → Int} (hl : a.length = n) (h : ∀ i, i < n → g a i = f i) : a = tab n f := by
  refine g_ext (by simpa using hl) fun i hi => ?_
  rw [tab_g (by omega), h i (by omega)]
theorem tab_map (n : Nat) (f : Nat → Int) : (tab n f).map PyData.int = (List.range n).map fun i => PyData.int (f i) := by
  unfold tab
  rw [List.map_map]; rfl
theorem zip_ints (a b : List Int) : zipD (a.map .int) (b.map .int) = (List.range (min a.length b.length)).map fun i => PyData.tuple [.int (g a i), .int (g b i)] := by
  unfold zipD
  apply List.ext_getElem?
  intro i
  rw [List.getElem?_map, List.getElem?_map]
  by_cases q : i < min a.length b.length
  · have e : ((a.map PyData.int).zip (b.map PyData.int))[i]? = some (PyData.int (g a i), PyData.int (g b i)) := List.getElem?_zip_eq_some.mpr ⟨by rw [List.getElem?_map, g_some (show i < a.length by omega)]; rfl, by rw [List.getElem?_map, g_some (show i < b.length by omega)]; rfl⟩
    rw [List.getElem?_range q, e]
    rfl
  · rw [List.getElem?_eq_none (show ((a.map PyData.int).zip (b.map PyData.int)).length ≤ i by simp; omega), List.getElem?_eq_none (by simpa using q)]
    rfl
theorem enum_ints (a : List Int) : enumD (a.map .int) = (List.range a.length).map fun i => PyData.tuple [.int (i : Nat), .int (g a i)] := by
  unfold enumD
  apply List.ext_getElem?
  intro i
  rw [List.getElem?_map, List.getElem?_map]
  by_cases q : i < a.length
  · rw [List.getElem?_range q, List.getElem?_zipIdx, List.getElem?_map, g_some q]
    simp
  · rw [List.getElem?_eq_none (show ((a.map PyData.int).zipIdx).length ≤ i by simp; omega), List.getElem?_eq_none (by simpa using q)]
    rfl
theorem noLs_tups : ∀ {n : Nat} {f : Nat → List PD}, (∀ i, i < n → noLs (f i) = true) → noLs ((List.range n).map fun i => PyData.tuple (f i)) = true := fun {n f} h => noLs_all _ fun x hx => by
  obtain ⟨i, hi, rfl⟩ := List.mem_map.mp hx
  exact h i (List.mem_range.mp hi)
theorem eqT_ints (a b : List Int) : cmpD .eq (.tuple (a.map .int)) (.tuple (b.map .int)) = some (decide (a = b)) := by
  have ok : ∀ ns : List Int, okEq (.tuple (ns.map .int)) = true := fun ns => by
    unfold okEq
    have e1 : PyData.plain (.tuple (ns.map .int)) = true := plain_ints ns
    have e2 : PyData.depth (.tuple (ns.map .int)) = 1 := by
      show PyData.depthAll (ns.map .int) + 1 = 1
      rw [depthI_ints]
    rw [e1, e2]; rfl
  have ev : ∀ a b : List Int, PyData.eqvAll (a.map .int) (b.map .int) = decide (a = b) := by
    intro a
    induction a with
    | nil => intro b; cases b <;> rfl
    | cons x a ih =>
      intro b
      cases b with
      | nil => rfl
      | cons y b =>
        show (PyData.eqv (.int x) (.int y) && PyData.eqvAll (a.map .int) (b.map .int)) = _
        rw [ih b]
        have : PyData.eqv (.int x) (.int y) = decide (x = y) := rfl
        rw [this]
        by_cases h1 : x = y <;> by_cases h2 : a = b <;> simp [h1, h2]
  show (if okEq (.tuple (a.map .int)) && okEq (.tuple (b.map .int)) then some (PyData.eqvAll (a.map .int) (b.map .int)) else none) = _
  rw [ok, ok, ev]
  rfl
/-! loops by places -/
theorem frL_ix {p : Pat} {body : Env → Hx → R Fl} {N : Nat} {item : Nat → PD} (I : Nat → Env → Hx → Prop) (step : ∀ i env h, i < N → I i env h → ∃ env1 env2 h2, bindP p (item i) env = some env1 ∧ body env1 h = .ok .next env2 h2 ∧ I (i + 1) env2 h2) {env : Env} {h : Hx} (h0 : I 0 env h) {xs : List PD} (hx : xs = (List.range N).map item) : ∃ env' h', frL p body xs env h = .ok .next env' h' ∧ I N env' h' := by
  have key : ∀ (k j : Nat) (env : Env) (h : Hx), k + j = N → I j env h → ∃ env' h', frL p body ((List.range' j k).map item) env h = .ok .next env' h' ∧ I N env' h' := by
    intro k
    induction k with
    | zero =>
      intro j env h e i
      obtain rfl : j = N := by omega
      exact ⟨env, h, rfl, i⟩
    | succ k ih =>
      intro j env h e i
      obtain ⟨env1, env2, h2, e1, e2, i2⟩ := step j env h (by omega) i
      obtain ⟨env', h', e3, q⟩ := ih (j + 1) env2 h2 (by omega) i2
      refine ⟨env', h', ?_, q⟩
      rw [List.range'_succ, List.map_cons, frL_cons e1 e2]
      exact e3
  rw [hx, List.range_eq_range']
  exact key N 0 env h (by omega) h0
/-- .. that may hand back, or end early -/
theorem frL_ixR {p : Pat} {body : Env → Hx → R Fl} {N : Nat} {item : Nat → PD} (I : Nat → Env → Hx → Prop) (Ret : Out → Hx → Prop) (step : ∀ i env h, i < N → I i env h → ∃ env1, bindP p (item i) env = some env1 ∧ ((∃ env2 h2, body env1 h = .ok .next env2 h2 ∧ I (i + 1) env2 h2) ∨ ∃ o env2 h2, body env1 h = .ok (.ret o) env2 h2 ∧ Ret o h2)) {env : Env} {h : Hx} (h0 : I 0 env h) {xs : List PD} (hx : xs = (List.range N).map item) : (∃ env' h', frL p body xs env h = .ok .next env' h' ∧ I N env' h') ∨ ∃ o env' h', frL p body xs env h = .ok (.ret o) env' h' ∧ Ret o h' := by
  have key : ∀ (k j : Nat) (env : Env) (h : Hx), k + j = N → I j env h → (∃ env' h', frL p body ((List.range' j k).map item) env h = .ok .next env' h' ∧ I N env' h') ∨ ∃ o env' h', frL p body ((List.range' j k).map item) env h = .ok (.ret o) env' h' ∧ Ret o h' := by
    intro k
    induction k with
    | zero =>
      intro j env h e i
      obtain rfl : j = N := by omega
      exact .inl ⟨env, h, rfl, i⟩
    | succ k ih =>
      intro j env h e i
      rw [List.range'_succ, List.map_cons]
      obtain ⟨env1, e1, ⟨env2, h2, e2, i2⟩ | ⟨o, env2, h2, e2, q⟩⟩ := step j env h (by omega) i
      · rw [frL_cons e1 e2]
        exact ih (j + 1) env2 h2 (by omega) i2
      · refine .inr ⟨o, env2, h2, ?_, q⟩
        rw [frL, e1]
        simp only [e2, R.bind_ok]
  rw [hx, List.range_eq_range']
  exact key N 0 env h (by omega) h0
/-! weights of what is shown -/
structure TW (w d : Nat) (x : PD) : Prop where
  sh : x.showable = true
  nd : x.hasDict = false
  lv : x.leavesShort 41 = true
  wt : x.weight ≤ w
  dp : x.depth ≤ d
theorem TW.le {w w' d d' : Nat} {x : PD} (t : TW w d x) (h1 : w ≤ w') (h2 : d ≤ d') : TW w' d' x := ⟨t.sh, t.nd, t.lv, Nat.le_trans t.wt h1, Nat.le_trans t.dp h2⟩
theorem TW.int {i : Int} (h : i.natAbs < 2 ^ 128) : TW 128 0 (.int i) := by
  have hlog : i.natAbs.log2 < 128 ∨ i.natAbs = 0 := by
    by_cases z : i.natAbs = 0
    · exact .inr z
    · exact .inl ((Nat.log2_lt z).mpr h)
  have h40 : i.natAbs < 10 ^ 40 := Nat.lt_trans h (by decide)
  refine ⟨?_, rfl, ?_, ?_, Nat.zero_le _⟩
  · show decide (i.natAbs.log2 < 1920) = true
    apply decide_eq_true
    rcases hlog with z | z
    · omega
    · rw [z]; decide
  · show decide ((PyData.shown (.int i)).length ≤ 41) = true
    apply decide_eq_true
    have e := int_text_length_le10 (k := 40) (by decide) h40
    show (Str.ofString (toString i)).length ≤ 41
    rw [ofString_length]; exact e
  · show (if i == 0 then 0 else i.natAbs.log2 + 1) ≤ 128
    split
    · omega
    · rename_i z
      rcases hlog with y | y
      · omega
      · exact absurd (by simpa using y) z
theorem TW.str0 (s : Str) (h : s.cps.size ≤ 128) (h2 : (s.cps.toList.all fun c => decide (c < 16 ^ 8)) = true) : TW 128 0 (.str s) := ⟨rfl, rfl, h2, h, Nat.zero_le _⟩
theorem TW.none0 : TW 128 0 .none := ⟨rfl, rfl, rfl, by decide, Nat.zero_le _⟩
theorem TW.bool0 (b : Bool) : TW 128 0 (.bool b) := ⟨rfl, rfl, rfl, by cases b <;> decide, Nat.zero_le _⟩
structure TWs (w d : Nat) (xs : List PD) : Prop where
  sh : PyData.showableAll xs = true
  nd : PyData.hasDictAll xs = false
  lv : PyData.leavesShortAll 41 xs = true
  wt : PyData.weightAll xs ≤ xs.length * (w + 1)
  dp : PyData.depthAll xs ≤ d
theorem TWs.of {w d : Nat} : ∀ {xs : List PD}, (∀ x ∈ xs, TW w d x) → TWs w d xs
  | [], _ => ⟨rfl, rfl, rfl, Nat.zero_le _, Nat.zero_le _⟩
  | x :: r, h => by
    have a := h x (by simp)
    have b := TWs.of (xs := r) fun y hy => h y (by simp [hy])
    refine ⟨?_, ?_, ?_, ?_, ?_⟩
    · show (x.showable && PyData.showableAll r) = true
      rw [a.sh, b.sh]; rfl
    · show (x.hasDict || PyData.hasDictAll r) = false
      rw [a.nd, b.nd]; rfl
    · show (x.leavesShort 41 && PyData.leavesShortAll 41 r) = true
      rw [a.lv, b.lv]; rfl
    · show x.weight + 1 + PyData.weightAll r ≤ _
      have := a.wt
      have := b.wt
      rw [List.length_cons, Nat.add_mul]
      omega
    · show max x.depth (PyData.depthAll r) ≤ d
      have := a.dp
      have := b.dp
      omega
theorem TW.tup {w d L : Nat} {xs : List PD} (hl : xs.length ≤ L) (h : ∀ x ∈ xs, TW w d x) : TW (L * (w + 1)) (d + 1) (.tuple xs) := by
  have t := TWs.of h
  exact ⟨t.sh, t.nd, t.lv, Nat.le_trans t.wt (Nat.mul_le_mul_right _ hl), Nat.succ_le_succ t.dp⟩
theorem TW.lst {w d L : Nat} {xs : List PD} (hl : xs.length ≤ L) (h : ∀ x ∈ xs, TW w d x) : TW (L * (w + 1)) (d + 1) (.list xs) := by
  have t := TWs.of h
  exact ⟨t.sh, t.nd, t.lv, Nat.le_trans t.wt (Nat.mul_le_mul_right _ hl), Nat.succ_le_succ t.dp⟩
theorem TW.iT {L : Nat} {xs : List Int} (hl : xs.length ≤ L) (h : ∀ x ∈ xs, x.natAbs < 2 ^ 128) : TW (L * 129) 1 (iT xs) := TW.tup (w := 128) (by rw [List.length_map]; exact hl) fun x hx => by
  obtain ⟨i, hi, rfl⟩ := mem_ints hx
  exact TW.int (h i hi)
theorem TW.repr {w d : Nat} {M : List PD} (t : TW w d (.list M)) (h1 : 43 * w + 41 ≤ 16777216) (h2 : d ≤ 60) : ∃ s, biD .repr [.list M] = some (.str s, true) := by
  have s := PyData.shown_le 41 (by decide) _ t.lv
  have s2 : (PyData.shown (.list M)).length ≤ lim := by
    have := t.wt
    have : 43 * PyData.weight (.list M) ≤ 43 * w := Nat.mul_le_mul_left _ this
    show _ ≤ 16777216
    omega
  refine ⟨PyData.shown (.list M), ?_⟩
  show (if ((PyData.isList (.list M) || PyData.isTuple (.list M)) && PyData.showable (.list M) && !PyData.hasDict (.list M) && decide ((PyData.shown (.list M)).length ≤ lim) && decide (PyData.depth (.list M) ≤ 60)) = true then _ else _) = _
  rw [t.sh, t.nd, decide_eq_true s2, decide_eq_true (Nat.le_trans t.dp h2)]
  rfl
/-- no dicts, no long rows, at most so deep -/
def td : Nat → PD → Bool
  | _, .none => true
  | _, .bool _ => true
  | _, .int _ => true
  | _, .str _ => true
  | d + 1, .list xs => decide (xs.length ≤ 1000) && xs.all (td d)
  | d + 1, .tuple xs => decide (xs.length ≤ 1000) && xs.all (td d)
  | _, _ => false
theorem td_iT {d : Nat} {xs : List Int} (h : xs.length ≤ 1000) : td (d + 1) (iT xs) = true := by
  simp only [td, List.length_map, h, decide_true, Bool.true_and, List.all_eq_true]
  intro x hx
  obtain ⟨i, _, rfl⟩ := mem_ints hx
  cases d <;> rfl
theorem td_2 {d : Nat} {x y : PD} (hx : td d x = true) (hy : td d y = true) : td (d + 1) (.list [x, y]) = true := by simp [td, hx, hy]
theorem zip2 {F : Fns} {lk : List Nat} {a b : MX} {env : Env} {h : Hx} {A B : PD} {xs ys : List PD} {f1 f2 : Bool} {l1 l2 : List Nat} (ha : ev F lk a env h = .ok ⟨.d A, f1, l1⟩ env h) (hb : ev F (l1 ++ lk) b env h = .ok ⟨.d B, f2, l2⟩ env h) (h3 : itemsOf A = some xs) (h4 : itemsOf B = some ys) : evi F lk (.zip a b) env h = .ok (zipD xs ys, l1 ++ l2) env h := zip_ok (o := ⟨.d A, f1, l1⟩) (p := ⟨.d B, f2, l2⟩) ha hb (by unfold itemsV; simp only [h3]) (by unfold itemsV; simp only [h4])
theorem enum2 {F : Fns} {lk : List Nat} {a : MX} {env : Env} {h : Hx} {A : PD} {xs : List PD} {f1 : Bool} {l1 : List Nat} (ha : ev F lk a env h = .ok ⟨.d A, f1, l1⟩ env h) (h3 : itemsOf A = some xs) : evi F lk (.enum a) env h = .ok (enumD xs, l1) env h := by
  unfold evi
  rw [ha]
  simp only [R.bind_ok]
  unfold itemsV
  simp only [h3, R.bind_ok]
theorem val2 {F : Fns} {lk : List Nat} {a : MX} {env env1 : Env} {h h1 : Hx} {A : PD} {xs : List PD} {f1 : Bool} {l1 : List Nat} (ha : ev F lk a env h = .ok ⟨.d A, f1, l1⟩ env1 h1) (h3 : itemsOf A = some xs) : evi F lk (.val a) env h = .ok (xs, l1) env1 h1 := by
  unfold evi
  rw [ha]
  simp only [R.bind_ok]
  unfold itemsV
  simp only [h3]
/-- the for statement, its items known and nothing shared -/
theorem for0 {F : Fns} {tp : Bool} {p : Pat} {it : MI} {b : List MS} {env env1 env' : Env} {h h1 h' : Hx} {xs : List PD} {f : Fl} (hi : evi F [] it env h = .ok (xs, []) env1 h1) (e : frL p (exSs F tp [] b) xs env1 h1 = .ok f env' h') : exS F tp [] (.fr p it b) env h = .ok f env' h' := by
  have c := fr_ok (F := F) (tp := tp) (lk := []) (p := p) (b := b) hi (by unfold hit; simp)
  rw [frzI_nil, frz_nil_, List.nil_append] at c
  exact c.trans e
/-- .. whose elements change nothing -/
theorem lcW {F : Fns} {lk own : List Nat} {p : Pat} {it : MI} {elt : MX} {env env1 E E2 : Env} {h : Hx} {xs ys : List PD} {ln : List Nat} (f : PD → PD) (hi : evi F lk it env h = .ok (xs, ln) env1 h) (hk : blkOk own p lk (xs, ln) = true) (hE : wipeE (frz (frzI xs ln) env1) own = E)
    (hb : ∀ x ∈ xs, ∃ e1 fr, bindP p x E = some e1 ∧ ev F (ln ++ own ++ lk) elt e1 h = .ok ⟨.d (f x), fr, []⟩ e1 h ∧ wipeE e1 own = E) (hm : xs.map f = ys) (hB : back (frz (frzI xs ln) env1) E own = E2) :
    ev F lk (.lc own p it (.c (.bool true)) elt) env h = .ok ⟨.d (.list ys), true, []⟩ E2 h := by
  rw [ev_lc f hi hk hE (fun x hx => ?_), hm, hB]
  obtain ⟨e1, fr, q1, q2, q3⟩ := hb x hx
  exact ⟨e1, _, e1, q1, q2, rfl, q3⟩
/-! all, any with a test -/
theorem genLF_ok {p : Pat} {own : List Nat} {k : Bool} {c e : Env → Hx → R Out} (t f : PD → Bool) {env : Env} {h : Hx} : ∀ {xs : List PD}, (∀ x ∈ xs, ∃ env1 o, bindP p x env = some env1 ∧ c env1 h = .ok o env1 h ∧ truth o.v = some (t x) ∧ wipeE env1 own = env ∧ (t x = true → ∃ o2, e env1 h = .ok o2 env1 h ∧ o2.v = .d (.bool (f x)))) → genLF p own k c e xs env h = .ok (if k then xs.any (fun x => t x && f x) else xs.all (fun x => !t x || f x)) env h
  | [], _ => by cases k <;> rfl
  | x :: r, hb => by
    obtain ⟨env1, o, h1, h2, h3, h4, h5⟩ := hb x List.mem_cons_self
    have ih := genLF_ok (k := k) t f fun y hy => hb y (List.mem_cons_of_mem _ hy)
    unfold genLF
    rw [h1]
    show (c env1 h).calm.bind _ = _
    rw [h2]
    simp only [R.calm_ok, R.bind_ok, h3]
    cases ht : t x with
    | false =>
      simp only [h4, ih]
      cases k <;> simp [ht]
    | true =>
      obtain ⟨o2, h6, h7⟩ := h5 ht
      simp only [h6, R.calm_ok, R.bind_ok, h7, h4, ih]
      cases k <;> cases hf : f x <;> simp [hf, ht]
theorem ev_genF {F : Fns} {lk : List Nat} {g : Gk} {own : List Nat} {p : Pat} {it : MI} {c elt : MX} {env env1 E E2 : Env} {h : Hx} {xs : List PD} {ln : List Nat} {b : Bool} (t f : PD → Bool) (hi : evi F lk it env h = .ok (xs, ln) env1 h) (hk : blkOk own p lk (xs, ln) = true) (hE : wipeE (frz (frzI xs ln) env1) own = E)
    (hb : ∀ x ∈ xs, ∃ env1 o, bindP p x E = some env1 ∧ ev F (ln ++ own ++ lk) c env1 h = .ok o env1 h ∧ truth o.v = some (t x) ∧ wipeE env1 own = E ∧ (t x = true → ∃ o2, ev F (ln ++ own ++ lk) elt env1 h = .ok o2 env1 h ∧ o2.v = .d (.bool (f x)))) (hr : (if decide (g = .any) then xs.any (fun x => t x && f x) else xs.all (fun x => !t x || f x)) = b) (hB : back (frz (frzI xs ln) env1) E own = E2) :
    ev F lk (.genF g own p it c elt) env h = .ok ⟨.d (.bool b), true, []⟩ E2 h := by
  unfold ev
  rw [hi]
  show (if blkOk own p lk (xs, ln) then _ else _) = _
  rw [if_pos hk]
  show (genLF p own (decide (g = .any)) (ev F (ln ++ own ++ lk) c) (ev F (ln ++ own ++ lk) elt) xs (wipeE (frz (frzI xs ln) env1) own) h).bind _ = _
  rw [hE, genLF_ok t f hb, hr, ← hB]
  rfl
/-- lists with a test -/
theorem lcL_filt {p : Pat} {own : List Nat} {c e : Env → Hx → R Out} (t : PD → Bool) (f : PD → PD) {env : Env} {h : Hx} : ∀ {xs acc : List PD}, (∀ x ∈ xs, ∃ e1 o1, bindP p x env = some e1 ∧ c e1 h = .ok o1 e1 h ∧ truth o1.v = some (t x) ∧ wipeE e1 own = env ∧ ∃ o2, e e1 h = .ok o2 e1 h ∧ o2.v = .d (f x) ∧ o2.ln = []) → lcL p own c e xs acc env h = .ok (acc ++ (xs.filter t).map f) env h
  | [], acc, _ => by simp [lcL]
  | x :: r, acc, hb => by
    obtain ⟨e1, o1, h1, h2, h3, h4, o2, h5, h6, h7⟩ := hb x List.mem_cons_self
    have hr := fun y hy => hb y (List.mem_cons_of_mem _ hy)
    unfold lcL
    rw [h1]
    show (c e1 h).calm.bind _ = _
    rw [h2]
    simp only [R.calm_ok, R.bind_ok, h3]
    cases q : t x with
    | true =>
      simp only [h5, R.calm_ok, R.bind_ok, h6, h7, frz_nil_, h4]
      rw [lcL_filt t f hr]
      simp [q]
    | false =>
      simp only [h4]
      rw [lcL_filt t f hr]
      simp [q]
theorem lcFk {F : Fns} {lk own : List Nat} {p : Pat} {it : MI} {c elt : MX} {env env1 E E2 : Env} {h : Hx} {xs ys : List PD} {ln : List Nat} (t : PD → Bool) (f : PD → PD) (hi : evi F lk it env h = .ok (xs, ln) env1 h) (hk : blkOk own p lk (xs, ln) = true) (hE : wipeE (frz (frzI xs ln) env1) own = E)
    (hb : ∀ x ∈ xs, ∃ e1 o1, bindP p x E = some e1 ∧ ev F (ln ++ own ++ lk) c e1 h = .ok o1 e1 h ∧ truth o1.v = some (t x) ∧ wipeE e1 own = E ∧ ∃ o2, ev F (ln ++ own ++ lk) elt e1 h = .ok o2 e1 h ∧ o2.v = .d (f x) ∧ o2.ln = []) (hm : (xs.filter t).map f = ys) (hB : back (frz (frzI xs ln) env1) E own = E2) :
    ev F lk (.lc own p it c elt) env h = .ok ⟨.d (.list ys), true, []⟩ E2 h := by
  unfold ev
  rw [hi]
  show (if blkOk own p lk (xs, ln) then _ else _) = _
  rw [if_pos hk]
  show (lcL p own (ev F (ln ++ own ++ lk) c) (ev F (ln ++ own ++ lk) elt) xs [] (wipeE (frz (frzI xs ln) env1) own) h).bind _ = _
  rw [hE, lcL_filt t f hb, ← hm, ← hB]
  rfl
theorem whL_brk {c : Env → Hx → R Out} {body : Env → Hx → R Fl} {n : Nat} {env env2 env3 : Env} {h h2 h3 : Hx} {o : Out} (h1 : c env h = .ok o env2 h2) (ht : truth o.v = some true) (hb : body env2 h2 = .ok .brk env3 h3) : whL c body (n + 1) env h = .ok .next env3 h3 := by
  show (c env h).bind _ = _
  simp only [h1, R.bind_ok, ht, hb]
theorem ite_t {F : Fns} {tp : Bool} {lk : List Nat} {c : MX} {a b : List MS} {env env1 : Env} {h h1 : Hx} {o : Out} (hc : ev F lk c env h = .ok o env1 h1) (ht : truth o.v = some true) : exS F tp lk (.ite c a b) env h = exSs F tp lk a env1 h1 := by
  rw [exS_ite_, hc]
  simp only [R.bind_ok, ht]
theorem ite_f {F : Fns} {tp : Bool} {lk : List Nat} {c : MX} {a b : List MS} {env env1 : Env} {h h1 : Hx} {o : Out} (hc : ev F lk c env h = .ok o env1 h1) (ht : truth o.v = some false) : exS F tp lk (.ite c a b) env h = exSs F tp lk b env1 h1 := by
  rw [exS_ite_, hc]
  simp only [R.bind_ok, ht]
end Mi
/-! MiEy: rows of any kind: sorted, sorted(set), one behind the other. -/
namespace Mi
open PySem Mi.Sk
/-- data that are rows of one kind -/
structure RwOk {α : Type} (f : α → PD) : Prop where
  row : ∀ a, rowD (f a) = true
  dp : ∀ a, (f a).depth ≤ 8
  al : ∀ a b, W.alike (f a) (f b) = true
  inj : ∀ a b, f a = f b → a = b
def ltR {α : Type} (f : α → PD) (a b : α) : Prop := W.dataLt (f a) (f b) = true
theorem keyDs_ints : ∀ ns : List Int, keyDs (ns.map .int) = true
  | [] => rfl
  | n :: r => by
    show (keyD (.int n) && keyDs (r.map .int)) = true
    rw [keyDs_ints r]; rfl
theorem of_map {α β : Type} (f : α → β) (L : List α) : ∀ ys : List β, (∀ y ∈ ys, ∃ r ∈ L, f r = y) → ∃ rs : List α, ys = rs.map f ∧ ∀ r ∈ rs, r ∈ L
  | [], _ => ⟨[], rfl, by simp⟩
  | y :: t, h => by
    obtain ⟨r, hr, rfl⟩ := h y List.mem_cons_self
    obtain ⟨rs, e, q⟩ := of_map f L t fun z hz => h z (List.mem_cons_of_mem _ hz)
    refine ⟨r :: rs, by rw [e]; rfl, fun z hz => ?_⟩
    rcases List.mem_cons.mp hz with rfl | hz
    · exact hr
    · exact q z hz
theorem dedup_len : ∀ xs : List PD, (dedupD xs).length ≤ xs.length
  | [] => Nat.le_refl _
  | x :: r => by
    have := dedup_len r
    unfold dedupD
    split
    · simp; omega
    · simp; exact this
theorem int_inj : ∀ {a b : List Int}, a.map PyData.int = b.map PyData.int → a = b
  | [], [], _ => rfl
  | [], _ :: _, h => by simp at h
  | _ :: _, [], h => by simp at h
  | a :: r, b :: s, h => by
    simp only [List.map_cons, List.cons.injEq, PyData.int.injEq] at h
    rw [h.1, int_inj h.2]
theorem one_sortG {α : Type} {R : α → α → Prop} : ∀ {l m : List α}, (∀ x y, R x y → R y x → x = y) → l.Perm m → l.Pairwise R → m.Pairwise R → l = m
  | [], m, _, p, _, _ => (List.nil_perm.mp p).symm
  | x :: l, [], _, p, _, _ => absurd p.length_eq (by simp)
  | x :: l, y :: m, an, p, h1, h2 => by
    rw [List.pairwise_cons] at h1 h2
    have e : x = y := by
      have hx : x ∈ y :: m := p.mem_iff.mp List.mem_cons_self
      have hy : y ∈ x :: l := p.mem_iff.mpr List.mem_cons_self
      rcases List.mem_cons.mp hx with z | z
      · exact z
      · rcases List.mem_cons.mp hy with z' | z'
        · exact z'.symm
        · exact an x y (h1.1 y z') (h2.1 x z)
    subst e
    rw [one_sortG an (List.Perm.cons_inv p) h1.2 h2.2]
section
variable {α : Type} {f : α → PD} (ok : RwOk f)
include ok
theorem rw_nodup {R : List α} (h : R.Nodup) : (R.map f).Nodup := List.pairwise_map.mpr (h.imp fun hne e => hne (ok.inj _ _ e))
/-- sorted, and each once: strictly -/
theorem rw_strict {rs : List α} (pw : (rs.map f).Pairwise (fun x y => leD x y = true)) (nd : (rs.map f).Nodup) : rs.Pairwise (ltR f) := by
  refine List.pairwise_iff_getElem.mpr fun i j hi hj hij => ?_
  have la : i < (rs.map f).length := by rw [List.length_map]; exact hi
  have lb : j < (rs.map f).length := by rw [List.length_map]; exact hj
  have p1 := List.pairwise_iff_getElem.mp pw i j la lb hij
  have p2 := List.pairwise_iff_getElem.mp nd i j la lb hij
  rw [List.getElem_map, List.getElem_map] at p1 p2
  show W.dataLt (f rs[i]) (f rs[j]) = true
  generalize rs[i] = a at p1 p2 ⊢
  generalize rs[j] = b at p1 p2 ⊢
  cases c : W.dataLt (f a) (f b) with
  | true => rfl
  | false =>
    have c2 : W.dataLt (f b) (f a) = false := by
      have : (!W.dataLt (f b) (f a)) = true := p1
      simpa using this
    exact absurd ((eqv_key _ _ (row_key (ok.row a)).1 (row_key (ok.row b)).1).mp (lt_both (ok.al a b) c c2)) p2
theorem rw_cond {R : List α} (hl : R.length < 64) : (decide ((R.map f).length < 64) && (R.map f).all rowD && ((R.map f).all fun x => decide (x.depth ≤ 8)) && ((R.map f).all fun x => (R.map f).all fun y => W.alike x y)) = true := by
  rw [List.length_map, decide_eq_true hl, Bool.and_eq_true, Bool.and_eq_true, Bool.and_eq_true]
  refine ⟨⟨⟨rfl, ?_⟩, ?_⟩, ?_⟩
  · refine List.all_eq_true.mpr fun x hx => ?_
    obtain ⟨r, _, rfl⟩ := List.mem_map.mp hx
    exact ok.row r
  · refine List.all_eq_true.mpr fun x hx => ?_
    obtain ⟨r, _, rfl⟩ := List.mem_map.mp hx
    exact decide_eq_true (ok.dp r)
  · refine List.all_eq_true.mpr fun x hx => List.all_eq_true.mpr fun y hy => ?_
    obtain ⟨r, _, rfl⟩ := List.mem_map.mp hx
    obtain ⟨s, _, rfl⟩ := List.mem_map.mp hy
    exact ok.al r s
theorem sset_rw (R : List α) (hl : R.length < 64) : ∃ rs : List α, ssetD (R.map f) = some (rs.map f) ∧ (∀ r, r ∈ rs ↔ r ∈ R) ∧ rs.length ≤ R.length ∧ rs.Pairwise (ltR f) := by
  have hk : ∀ x ∈ R.map f, keyD x = true := fun x hx => by
    obtain ⟨r, _, rfl⟩ := List.mem_map.mp hx
    exact (row_key (ok.row r)).1
  have pm : ((dedupD (R.map f)).mergeSort leD).Perm (dedupD (R.map f)) := List.mergeSort_perm _ _
  have hm : ∀ y, y ∈ (dedupD (R.map f)).mergeSort leD ↔ y ∈ R.map f := fun y => pm.mem_iff.trans (dedup_mem hk y)
  obtain ⟨rs, e, q⟩ := of_map f R ((dedupD (R.map f)).mergeSort leD) fun y hy => by
    obtain ⟨r, hr, er⟩ := List.mem_map.mp ((hm y).mp hy)
    exact ⟨r, hr, er⟩
  have nd : (rs.map f).Nodup := by rw [← e]; exact pm.nodup_iff.mpr (dedup_nodup hk)
  have pw : (rs.map f).Pairwise (fun x y => leD x y = true) := by rw [← e]; exact sorted_le _
  have ll : rs.length = (dedupD (R.map f)).length := by
    have := congrArg List.length e
    rw [pm.length_eq, List.length_map] at this
    exact this.symm
  refine ⟨rs, ?_, fun r => ⟨q r, fun hr => ?_⟩, ?_, rw_strict ok pw nd⟩
  · unfold ssetD
    rw [← e, if_pos (rw_cond ok hl)]
  · have z := (hm (f r)).mpr (List.mem_map.mpr ⟨r, hr, rfl⟩)
    rw [e] at z
    obtain ⟨s, hs, es⟩ := List.mem_map.mp z
    rw [← ok.inj _ _ es]; exact hs
  · rw [ll]
    exact Nat.le_trans (dedup_len _) (by rw [List.length_map]; exact Nat.le_refl _)
theorem srt_rw (R : List α) (hl : R.length < 64) (hn : R.Nodup) : ∃ rs : List α, srtD (R.map f) = some (rs.map f) ∧ rs.Perm R ∧ rs.Pairwise (ltR f) := by
  have pm : ((R.map f).mergeSort leD).Perm (R.map f) := List.mergeSort_perm _ _
  obtain ⟨rs, e, q⟩ := of_map f R ((R.map f).mergeSort leD) fun y hy => by
    obtain ⟨r, hr, er⟩ := List.mem_map.mp (pm.mem_iff.mp hy)
    exact ⟨r, hr, er⟩
  have nd : (rs.map f).Nodup := by rw [← e]; exact pm.nodup_iff.mpr (rw_nodup ok hn)
  have pw : (rs.map f).Pairwise (fun x y => leD x y = true) := by rw [← e]; exact sorted_le _
  have nr : rs.Nodup := (List.pairwise_map.mp nd).imp fun {x y} (hne : f x ≠ f y) (e : x = y) => hne (e ▸ rfl)
  refine ⟨rs, ?_, (List.perm_ext_iff_of_nodup nr hn).mpr fun r => ⟨q r, fun hr => ?_⟩, rw_strict ok pw nd⟩
  · unfold srtD
    rw [← e, if_pos (rw_cond ok hl)]
  · have z := pm.mem_iff.mpr (List.mem_map.mpr ⟨r, hr, rfl⟩)
    rw [e] at z
    obtain ⟨s, hs, es⟩ := List.mem_map.mp z
    rw [← ok.inj _ _ es]; exact hs
theorem ltR_irr {a : α} : ¬ ltR f a a := fun h => by
  have := lt_asymm h
  unfold ltR at h
  rw [h] at this
  cases this
theorem ltR_nodup {rs : List α} (h : rs.Pairwise (ltR f)) : rs.Nodup := h.imp fun {a b} (hab : ltR f a b) (e : a = b) => ltR_irr ok (a := b) (by rw [e] at hab; exact hab)
theorem asc_one {a b : List α} (ha : a.Pairwise (ltR f)) (hb : b.Pairwise (ltR f)) (h : ∀ x, x ∈ a ↔ x ∈ b) : a = b :=
  one_sortG (fun x y h1 h2 => absurd h2 (by unfold ltR at h1 ⊢; rw [lt_asymm h1]; simp)) ((List.perm_ext_iff_of_nodup (ltR_nodup ok ha) (ltR_nodup ok hb)).mpr h) ha hb
end
section
variable {α : Type} [Inhabited α] (f : α → PD)
def nthR (rs : List α) (i : Nat) : α := rs.getD i default
def fLtR (rs : List α) : PD → Bool | .int i => W.dataLt (f (nthR rs (i - 1).toNat)) (f (nthR rs i.toNat)) | _ => false
/-- whether rows ascend, as the program asks -/
def ascR (rs : List α) : Bool := (rngD 1 (rs.length : Int)).all (fLtR f rs)
theorem nthR_mem {rs : List α} {i : Nat} (h : i < rs.length) : rs[i]? = some (nthR rs i) := by
  unfold nthR
  rw [List.getD_eq_getElem?_getD, List.getElem?_eq_getElem h]; rfl
theorem nthR_get {rs : List α} {i : Nat} (h : i < rs.length) : nthR rs i = rs[i] := by
  have := nthR_mem h
  rw [List.getElem?_eq_getElem h] at this
  exact (Option.some.inj this).symm
theorem at_nthR {rs : List α} {i : Nat} (h : i < rs.length) : L2.atI (rs.map f) (i : Int) = some (f (nthR rs i)) := by
  refine at_nat _ i _ ?_
  rw [List.getElem?_map, nthR_mem h]; rfl
variable {f}
theorem ascR_of {rs : List α} (h : rs.Pairwise (ltR f)) : ascR f rs = true := by
  unfold ascR rngD
  refine List.all_eq_true.mpr fun x hx => ?_
  obtain ⟨i, hi, rfl⟩ := List.mem_map.mp hx
  rw [List.mem_range] at hi
  have i1 : i + 1 < rs.length := by omega
  show W.dataLt (f (nthR rs (1 + (i : Int) - 1).toNat)) (f (nthR rs (1 + (i : Int)).toNat)) = true
  rw [show (1 + (i : Int) - 1).toNat = i by omega, show (1 + (i : Int)).toNat = i + 1 by omega]
  have z := List.pairwise_iff_getElem.mp h i (i + 1) (by omega) i1 (by omega)
  rw [nthR_get (show i < rs.length by omega), nthR_get i1]
  exact z
theorem ascR_not {rs : List α} (i : Nat) (h : i + 1 < rs.length) (n : W.dataLt (f (nthR rs i)) (f (nthR rs (i + 1))) = false) : ascR f rs = false := by
  unfold ascR rngD
  refine List.all_eq_false.mpr ⟨.int (1 + (i : Int)), List.mem_map.mpr ⟨i, List.mem_range.mpr (by omega), rfl⟩, ?_⟩
  show ¬ W.dataLt (f (nthR rs (1 + (i : Int) - 1).toNat)) (f (nthR rs (1 + (i : Int)).toNat)) = true
  rw [show (1 + (i : Int) - 1).toNat = i by omega, show (1 + (i : Int)).toNat = i + 1 by omega, n]
  simp
theorem rng2_ok {F : Fns} {lk : List Nat} {a b : MX} {env : Env} {h : Hx} {i j : Int} {f1 f2 : Bool} {l1 l2 : List Nat} (ha : ev F lk a env h = .ok ⟨.d (.int i), f1, l1⟩ env h) (hb : ev F (l1 ++ lk) b env h = .ok ⟨.d (.int j), f2, l2⟩ env h) (hi : rngOk i = true) (hj : rngOk j = true) : evi F lk (.rng2 a b) env h = .ok (rngD i j, []) env h := by
  unfold evi
  rw [ha]
  simp only [R.bind_ok]
  rw [hb]
  show (if rngOk i && rngOk j then R.ok (rngD i j, ([] : List Nat)) env h else .no) = _
  rw [hi, hj]
  rfl
theorem cmp_rw (ok : RwOk f) (a b : α) : cmpD .lt (f a) (f b) = some (W.dataLt (f a) (f b)) := by
  have h1 := ok.al a b
  have h2 := ok.dp a
  obtain ⟨_, x, r, e1⟩ := row_key (ok.row a)
  obtain ⟨_, y, s, e2⟩ := row_key (ok.row b)
  rw [e1] at h1 h2
  rw [e2] at h1
  rw [e1, e2]
  show (if W.alike (.tuple (x :: r)) (.tuple (y :: s)) && decide (PyData.depth (.tuple (x :: r)) ≤ 50) then some (W.dataLt (.tuple (x :: r)) (.tuple (y :: s))) else none) = _
  rw [h1, decide_eq_true (Nat.le_trans h2 (by decide))]
  rfl
/-- all(items[at - 1] < items[at] for at in range(1, len(items))) -/
theorem asc_gen (ok : RwOk f) {F : Fns} (rs : List α) (hl : rs.length ≤ 1000) (h : Hx) : ev F [] (.gen .all [1] (.var 1) (.rng2 (.c (.int 1)) (.bi .len [.var 0])) (.cmp .lt (.ix (.var 0) (.bin .sub (.var 1) (.c (.int 1)))) (.ix (.var 0) (.var 1)))) [sD (.tuple (rs.map f)), none] h = .ok ⟨.d (.bool (ascR f rs)), true, []⟩ [sD (.tuple (rs.map f)), none] h := by
  have z := ev_gen (F := F) (lk := []) (g := .all) (own := [1]) (p := .var 1) (it := .rng2 (.c (.int 1)) (.bi .len [.var 0])) (elt := .cmp .lt (.ix (.var 0) (.bin .sub (.var 1) (.c (.int 1)))) (.ix (.var 0) (.var 1))) (env := [sD (.tuple (rs.map f)), none]) (env1 := [sD (.tuple (rs.map f)), none]) (E := [sD (.tuple (rs.map f)), none]) (h := h) (ln := []) (fLtR f rs) (rng2_ok (i := 1) (j := (rs.length : Nat)) (f1 := false) (l1 := []) (f2 := true) (l2 := []) rfl (by simp) (rngOk_nat (k := 1) (by decide)) (rngOk_nat (by omega))) (blk0 rfl (by unfold rngD; rw [List.length_map, List.length_range]; exact Nat.le_trans (show _ ≤ 1000 by omega) (by decide))) (by rw [frzI_nil]; rfl) fun x hx => by
    unfold rngD at hx
    obtain ⟨i, hi, rfl⟩ := List.mem_map.mp hx
    rw [List.mem_range] at hi
    have i1 : i + 1 < rs.length := by omega
    have c1 : L2.atI (rs.map f) ((1 : Int) + i - 1) = some (f (nthR rs i)) := by
      rw [show (1 : Int) + i - 1 = (i : Nat) by omega]
      exact at_nthR f (by omega)
    have c2 : L2.atI (rs.map f) ((1 : Int) + i) = some (f (nthR rs (i + 1))) := by
      rw [show (1 : Int) + i = ((i + 1 : Nat) : Int) by omega]
      exact at_nthR f i1
    have c3 := cmp_rw ok (nthR rs i) (nthR rs (i + 1))
    have c4 : fLtR f rs (.int (1 + (i : Int))) = W.dataLt (f (nthR rs i)) (f (nthR rs (i + 1))) := by
      show W.dataLt (f (nthR rs (1 + (i : Int) - 1).toNat)) (f (nthR rs (1 + (i : Int)).toNat)) = _
      rw [show (1 + (i : Int) - 1).toNat = i by omega, show (1 + (i : Int)).toNat = i + 1 by omega]
    refine ⟨[sD (.tuple (rs.map f)), sI (1 + i)], ⟨.d (.bool (fLtR f rs (.int (1 + (i : Int))))), true, []⟩, [sD (.tuple (rs.map f)), sI (1 + i)], rfl, ?_, rfl, rfl⟩
    rw [c4]
    generalize W.dataLt (f (nthR rs i)) (f (nthR rs (i + 1))) = b at c3 ⊢
    generalize f (nthR rs i) = A at c1 c3
    generalize f (nthR rs (i + 1)) = B at c2 c3
    generalize (1 : Int) + i = I at c1 c2 ⊢
    generalize rs.map f = L at c1 c2 ⊢
    simp [ixV, c1, c2, c3]
  rw [frzI_nil] at z
  exact z
end
end Mi
namespace Mi.K51
open PySem
/-- is_integer(value); slots: value -/
def b0 : List MS := [.ret (.and (.bi (.isi .int) [.var 0]) (.un .not (.bi (.isi .bool) [.var 0])))]
/-- is_between(value, low, high); slots: value low high -/
def b1 : List MS := [.ret (.and (.call 0 [.var 0]) (.cmp2 .le .le (.var 1) (.var 0) (.var 2)))]
/-- are_integers(value, size); slots: value size one -/
def b2 : List MS := [.ret (.and (.bi (.isi .tuple) [.var 0]) (.and (.cmp .eq (.bi .len [.var 0]) (.var 1)) (.gen .all [2] (.var 2) (.val (.var 0)) (.call 0 [.var 2]))))]
/-- are_naturals(value, size); slots: value size one -/
def b3 : List MS := [.ret (.and (.call 2 [.var 0, .var 1]) (.gen .all [2] (.var 2) (.val (.var 0)) (.cmp .ge (.var 2) (.c (.int 0)))))]
/-- is_ascending(items); slots: items at -/
def b4 : List MS := [.ret (.gen .all [1] (.var 1) (.rng2 (.c (.int 1)) (.bi .len [.var 0])) (.cmp .lt (.ix (.var 0) (.bin .sub (.var 1) (.c (.int 1)))) (.ix (.var 0) (.var 1))))]
/-- is_rule(k, n, value); slots: k n value -/
def b5 : List MS := [.ite (.or (.un .not (.bi (.isi .tuple) [.var 2])) (.cmp .ne (.bi .len [.var 2]) (.c (.int 3)))) [.ret (.c (.bool false))] [],
  .ret (.and (.call 1 [.ix (.var 2) (.c (.int 0)), .c (.int 0), .bin .sub (.var 1) (.c (.int 1))]) (.and (.call 3 [.ix (.var 2) (.c (.int 1)), .var 0]) (.call 3 [.ix (.var 2) (.c (.int 2)), .var 1])))]
/-- is_grammar(value); slots: value k n start rules rule -/
def b6 : List MS := [.ite (.or (.un .not (.bi (.isi .tuple) [.var 0])) (.cmp .ne (.bi .len [.var 0]) (.c (.int 4)))) [.ret (.c (.bool false))] [],
  .asg (.tup [1, 2, 3, 4]) (.var 0),
  .ite (.or (.un .not (.call 1 [.var 1, .c (.int 1), .c (.int 3)])) (.or (.un .not (.call 0 [.var 2])) (.or (.cmp .lt (.var 2) (.c (.int 1))) (.un .not (.call 3 [.var 3, .var 2]))))) [.ret (.c (.bool false))] [],
  .ite (.or (.un .not (.bi (.isi .tuple) [.var 4])) (.un .not (.gen .all [5] (.var 5) (.val (.var 4)) (.call 5 [.var 1, .var 2, .var 5])))) [.ret (.c (.bool false))] [],
  .ret (.call 4 [.var 4])]
/-- is_deed(places, value); slots: places value -/
def b7 : List MS := [.ite (.or (.un .not (.bi (.isi .tuple) [.var 1])) (.cmp .ne (.bi .len [.var 1]) (.c (.int 2)))) [.ret (.c (.bool false))] [],
  .ret (.and (.call 1 [.ix (.var 1) (.c (.int 0)), .c (.int 0), .bin .sub (.var 0) (.c (.int 1))]) (.call 3 [.ix (.var 1) (.c (.int 1)), .var 0]))]
/-- is_net(value); slots: value deed -/
def b8 : List MS := [.ite (.or (.un .not (.bi (.isi .tuple) [.var 0])) (.or (.cmp .ne (.bi .len [.var 0]) (.c (.int 2))) (.un .not (.call 1 [.ix (.var 0) (.c (.int 0)), .c (.int 1), .c (.int 3)])))) [.ret (.c (.bool false))] [],
  .ite (.or (.un .not (.bi (.isi .tuple) [.ix (.var 0) (.c (.int 1))])) (.un .not (.gen .all [1] (.var 1) (.val (.ix (.var 0) (.c (.int 1)))) (.call 7 [.ix (.var 0) (.c (.int 0)), .var 1])))) [.ret (.c (.bool false))] [],
  .ret (.call 4 [.ix (.var 0) (.c (.int 1))])]
/-- check_net(net); slots: net -/
def b9 : List MS := [.ite (.un .not (.call 8 [.var 0])) [.raise "InvalidNet" (.var 0)] []]
/-- check_marks(net, bag); slots: net bag -/
def b10 : List MS := [.ite (.un .not (.call 3 [.var 1, .ix (.var 0) (.c (.int 0))])) [.raise "InvalidBag" (.var 1)] []]
/-- net_of(places, deeds); slots: places deeds deed -/
def b11 : List MS := [.ite (.un .not (.call 1 [.var 0, .c (.int 1), .c (.int 3)])) [.raise "InvalidNumber" (.var 0)] [],
  .fr (.var 2) (.val (.var 1)) [.ite (.un .not (.call 7 [.var 0, .var 2])) [.raise "InvalidDeed" (.var 2)] []],
  .ret (.tup [.var 0, .bi .tuple [.sset (.var 1)]])]
/-- can_be_done(net, bag, deed); slots: net bag deed -/
def b12 : List MS := [.ret (.cmp .gt (.ix (.var 1) (.ix (.ix (.ix (.var 0) (.c (.int 1))) (.var 2)) (.c (.int 0)))) (.c (.int 0)))]
/-- bag_after(net, bag, deed); slots: net bag deed place laid at many -/
def b13 : List MS := [.asg (.tup [3, 4]) (.ix (.ix (.var 0) (.c (.int 1))) (.var 2)),
  .ret (.bi .tuple [.lc [5, 6] (.tup [5, 6]) (.enum (.var 1)) (.c (.bool true)) (.bin .add (.bin .sub (.var 6) (.bi .int [.cmp .eq (.var 5) (.var 3)])) (.ix (.var 4) (.var 5)))])]
/-- check_deed(net, bag, deed); slots: net bag deed -/
def b14 : List MS := [.ite (.or (.un .not (.call 1 [.var 2, .c (.int 0), .bin .sub (.bi .len [.ix (.var 0) (.c (.int 1))]) (.c (.int 1))])) (.un .not (.call 12 [.var 0, .var 1, .var 2]))) [.raise "InvalidDeed" (.var 2)] []]
/-- behind(net, bag, deed); slots: net bag deed -/
def b15 : List MS := [.ex (.call 9 [.var 0]),
  .ex (.call 10 [.var 0, .var 1]),
  .ex (.call 14 [.var 0, .var 1, .var 2]),
  .ret (.call 13 [.var 0, .var 1, .var 2])]
/-- unit(places, place); slots: places place at -/
def b16 : List MS := [.ret (.bi .tuple [.lc [2] (.var 2) (.rng1 (.var 0)) (.c (.bool true)) (.bi .int [.cmp .eq (.var 2) (.var 1)])])]
/-- grammar_in(net, bag); slots: net bag places zeros rules place laid -/
def b17 : List MS := [.asg (.var 2) (.ix (.var 0) (.c (.int 0))),
  .asg (.var 3) (.bin .mul (.tup [.c (.int 0)]) (.var 2)),
  .asg (.var 4) (.lc [5, 6] (.tup [5, 6]) (.val (.ix (.var 0) (.c (.int 1)))) (.c (.bool true)) (.tup [.var 5, .var 3, .var 6])),
  .ex (.mm .extend 4 [.lc [5] (.var 5) (.rng1 (.var 2)) (.c (.bool true)) (.tup [.var 5, .call 16 [.var 2, .var 5], .var 3])]),
  .ret (.tup [.var 2, .var 2, .var 1, .bi .tuple [.srt (.var 4)]])]
/-- grammar_of_net(net, bag); slots: net bag -/
def b18 : List MS := [.ex (.call 9 [.var 0]),
  .ex (.call 10 [.var 0, .var 1]),
  .ret (.call 17 [.var 0, .var 1])]
/-- _law_well(script); slots: script cell -/
def b19 : List MS := [.retD ["cells", "next", "digits", "seed", "count"] [.lc [1] (.var 1) (.scrI 0) (.c (.bool true)) (.bi .int [.var 1]), .c (.int 0), .c (.int 0), .c (.int 1709), .c (.int 0)]]
/-- _law_draw(well, many); slots: well many turn mixed cell found -/
def b20 : List MS := [.fr (.var 2) (.rng1 (.bin .sub (.bi .len [.ix (.var 0) (.c (.str "cells"))]) (.ix (.var 0) (.c (.str "next"))))) [.ite (.cmp .gt (.ix (.var 0) (.c (.str "digits"))) (.c (.int 0))) [.brk] [], .asg (.var 4) (.ix (.ix (.var 0) (.c (.str "cells"))) (.ix (.var 0) (.c (.str "next")))), .augIx 0 (.c (.str "next")) .add (.c (.int 1)), .ite (.cmp .ge (.var 4) (.bin .pow (.c (.int 10)) (.c (.int 18)))) [.setIx 0 (.c (.str "digits")) (.bin .add (.bin .sub (.var 4) (.bin .pow (.c (.int 10)) (.c (.int 18)))) (.c (.int 1)))] [.setIx 0 (.c (.str "seed")) (.bin .mod (.bi .int [.bin .add (.bin .add (.bin .mul (.ix (.var 0) (.c (.str "seed"))) (.c (.int 1009))) (.bin .mul (.var 4) (.c (.int 31)))) (.c (.int 7))]) (.c (.int 2305843009213693951)))]],
  .ite (.cmp .gt (.ix (.var 0) (.c (.str "digits"))) (.c (.int 0))) [.asg (.var 5) (.bin .mod (.bi .int [.ix (.var 0) (.c (.str "digits"))]) (.var 1)), .setIx 0 (.c (.str "digits")) (.bin .fdiv (.ix (.var 0) (.c (.str "digits"))) (.var 1)), .ret (.var 5)] [],
  .augIx 0 (.c (.str "count")) .add (.c (.int 1)),
  .setIx 0 (.c (.str "seed")) (.bin .mod (.bi .int [.bin .add (.bin .add (.bin .mul (.ix (.var 0) (.c (.str "seed"))) (.c (.int 6364136223846793))) (.bin .mul (.c (.int 1442695040888963)) (.ix (.var 0) (.c (.str "count"))))) (.c (.int 11))]) (.c (.int 2305843009213693951))),
  .asg (.var 3) (.bin .mod (.bi .int [.bin .add (.bin .fdiv (.bin .mul (.ix (.var 0) (.c (.str "seed"))) (.ix (.var 0) (.c (.str "seed")))) (.c (.int 1000003))) (.bin .fdiv (.ix (.var 0) (.c (.str "seed"))) (.c (.int 17)))]) (.c (.int 9007199254740881))),
  .ret (.bin .mod (.bi .int [.bin .fdiv (.var 3) (.c (.int 13))]) (.var 1))]
/-- _law_like(told, due); slots: told due at -/
def b21 : List MS := [.ite (.bi (.isi .tuple) [.var 1]) [.ret (.and (.bi (.isi .tuple) [.var 0]) (.and (.cmp .eq (.bi .len [.var 0]) (.bi .len [.var 1])) (.bi .all [.lc [2] (.var 2) (.rng1 (.bi .len [.var 1])) (.c (.bool true)) (.call 21 [.ix (.var 0) (.var 2), .ix (.var 1) (.var 2)])])))] [],
  .ite (.bi (.isi .list) [.var 1]) [.ret (.and (.bi (.isi .list) [.var 0]) (.and (.cmp .eq (.bi .len [.var 0]) (.bi .len [.var 1])) (.bi .all [.lc [2] (.var 2) (.rng1 (.bi .len [.var 1])) (.c (.bool true)) (.call 21 [.ix (.var 0) (.var 2), .ix (.var 1) (.var 2)])])))] [],
  .ite (.cmp .is (.var 1) (.c .none)) [.ret (.cmp .is (.var 0) (.c .none))] [],
  .ite (.or (.bi (.isi .bool) [.var 1]) (.bi (.isi .str) [.var 1])) [.ret (.and (.cmp .eq (.bi (.isi .bool) [.var 0]) (.bi (.isi .bool) [.var 1])) (.and (.cmp .eq (.bi (.isi .str) [.var 0]) (.bi (.isi .str) [.var 1])) (.cmp .eq (.var 0) (.var 1))))] [],
  .ret (.and (.bi (.isi .int) [.var 0]) (.and (.un .not (.bi (.isi .bool) [.var 0])) (.cmp .eq (.var 0) (.var 1))))]
/-- _law_sum(one, other, many); slots: one other many at -/
def b22 : List MS := [.ret (.bi .tuple [.lc [3] (.var 3) (.rng1 (.bi .len [.var 0])) (.c (.bool true)) (.bin .add (.ix (.var 0) (.var 3)) (.bin .mul (.var 2) (.ix (.var 1) (.var 3))))])]
/-- _law_unit(size, place); slots: size place at -/
def b23 : List MS := [.ret (.bi .tuple [.lc [2] (.var 2) (.rng1 (.var 0)) (.c (.bool true)) (.bi .int [.cmp .eq (.var 2) (.var 1)])])]
/-- _law_tally(well, size, total); slots: well size total found turn -/
def b24 : List MS := [.asg (.var 3) (.bin .mul (.lst [.c (.int 0)]) (.var 1)),
  .fr (.var 4) (.rng1 (.var 2)) [.augIx 3 (.call 20 [.var 0, .var 1]) .add (.c (.int 1))],
  .ret (.bi .tuple [.var 3])]
/-- _law_behind(net, bag, deed); slots: net bag deed place laid -/
def b25 : List MS := [.asg (.tup [3, 4]) (.ix (.ix (.var 0) (.c (.int 1))) (.var 2)),
  .ret (.call 22 [.call 22 [.var 1, .var 4, .c (.int 1)], .call 23 [.ix (.var 0) (.c (.int 0)), .var 3], .un .neg (.c (.int 1))])]
/-- _law_net_grammar(net, bag); slots: net bag rules places zeros place laid -/
def b26 : List MS := [.par 3 4 (.ix (.var 0) (.c (.int 0))) (.bin .mul (.tup [.c (.int 0)]) (.ix (.var 0) (.c (.int 0)))),
  .asg (.var 2) (.lc [5, 6] (.tup [5, 6]) (.val (.ix (.var 0) (.c (.int 1)))) (.c (.bool true)) (.tup [.var 5, .var 4, .var 6])),
  .asg (.var 2) (.bin .add (.var 2) (.lc [5] (.var 5) (.rng1 (.var 3)) (.c (.bool true)) (.tup [.var 5, .call 23 [.var 3, .var 5], .var 4]))),
  .ret (.tup [.var 3, .var 3, .var 1, .bi .tuple [.srt (.var 2)]])]
/-- _law_mixed(well, items); slots: well items turn left found -/
def b27 : List MS := [.par 3 4 (.bi .list [.var 1]) (.lst []),
  .fr (.var 2) (.rng1 (.ite (.cmp .ne (.var 3) (.lst [])) (.call 20 [.var 0, .c (.int 3)]) (.c (.int 0)))) [.ex (.mm .append 3 [.ix (.var 3) (.call 20 [.var 0, .bi .len [.var 3]])])],
  .fr (.var 2) (.rng1 (.bi .len [.var 3])) [.ex (.mm .append 4 [.mm .pop 3 [.call 20 [.var 0, .bi .len [.var 3]]]])],
  .ret (.var 4)]
/-- _law_bent(well, net); slots: well net bad odd places deeds one -/
def b28 : List MS := [.asg (.tup [4, 5]) (.var 1),
  .asg (.var 2) (.lst [.c .none, .c (.int 0), .c (.str ""), .tup [], .sl (.var 1) (.c .none) (.c (.int 1)), .bin .add (.var 1) (.tup [.c (.int 0)]), .bi .list [.var 1], .tup [.c (.int 0), .var 5], .tup [.c (.int 4), .var 5], .tup [.c (.bool true), .tup []], .tup [.c (.str "1"), .tup []], .tup [.var 4, .bi .list [.var 5]], .tup [.var 4, .c .none]]),
  .asg (.var 3) (.lst [.c .none, .tup [], .tup [.c (.int 0)], .tup [.c (.int 0), .bin .mul (.tup [.c (.int 0)]) (.var 4), .c (.int 0)], .lst [.c (.int 0), .bin .mul (.tup [.c (.int 0)]) (.var 4)], .tup [.var 4, .bin .mul (.tup [.c (.int 0)]) (.var 4)], .tup [.un .neg (.c (.int 1)), .bin .mul (.tup [.c (.int 0)]) (.var 4)], .tup [.c (.bool false), .bin .mul (.tup [.c (.int 0)]) (.var 4)]]),
  .asg (.var 3) (.bin .add (.var 3) (.lst [.tup [.c (.int 0), .bin .mul (.tup [.c (.int 0)]) (.bin .add (.var 4) (.c (.int 1)))], .tup [.c (.int 0), .bin .mul (.tup [.c (.int 0)]) (.bin .sub (.var 4) (.c (.int 1)))], .tup [.c (.int 0), .bin .mul (.lst [.c (.int 0)]) (.var 4)], .tup [.c (.int 0), .bin .mul (.tup [.un .neg (.c (.int 1))]) (.var 4)], .tup [.c (.int 0), .bin .mul (.tup [.c (.bool true)]) (.var 4)], .tup [.c (.int 0), .c .none]])),
  .asg (.var 2) (.bin .add (.bin .add (.var 2) (.lc [6] (.var 6) (.val (.var 3)) (.c (.bool true)) (.tup [.var 4, .tup [.var 6]]))) (.lst [.tup [.var 4, .bin .add (.var 5) (.tup [.ix (.var 3) (.call 20 [.var 0, .c (.int 14)])])]])),
  .ite (.cmp .ne (.var 5) (.tup [])) [.asg (.var 2) (.bin .add (.var 2) (.lst [.tup [.var 4, .bin .add (.var 5) (.sl (.var 5) (.un .neg (.c (.int 1))) (.c .none))], .tup [.var 4, .bin .add (.sl (.var 5) (.c .none) (.c (.int 1))) (.var 5)]]))] [],
  .ite (.cmp .gt (.bi .len [.var 5]) (.c (.int 1))) [.asg (.var 2) (.bin .add (.var 2) (.lst [.tup [.var 4, .rev (.var 5)], .tup [.var 4, .bin .add (.sl (.var 5) (.c (.int 1)) (.c .none)) (.sl (.var 5) (.c .none) (.c (.int 1)))]]))] [],
  .ret (.ix (.var 2) (.call 20 [.var 0, .bi .len [.var 2]]))]
/-- law(script); slots: script well turn step net mixed handed kept bag deed due places deeds bent -/
def b29 : List MS := [.asgBox 1 19 [.var 0],
  .fr (.var 2) (.rng1 (.c (.int 16))) [.par 11 12 (.bin .add (.c (.int 1)) (.call 20 [.var 1, .c (.int 3)])) (.dnew), .fr (.var 3) (.rng1 (.call 20 [.var 1, .c (.int 5)])) [.setK 12 (.tup [.call 20 [.var 1, .var 11], .call 24 [.var 1, .var 11, .call 20 [.var 1, .c (.int 4)]]]) (.c (.bool true))], .asg (.var 4) (.tup [.var 11, .bi .tuple [.srt (.var 12)]]), .asg (.var 5) (.call 27 [.var 1, .ix (.var 4) (.c (.int 1))]), .asg (.var 6) (.ite (.cmp .eq (.call 20 [.var 1, .c (.int 2)]) (.c (.int 0))) (.var 5) (.bi .tuple [.var 5])), .asg (.var 7) (.bi .repr [.var 6]), .ite (.or (.un .not (.call 21 [.lst [.call 11 [.var 11, .var 6], .callK 11 [] [.var 6, .var 11] [1, 0]], .lst [.var 4, .var 4]])) (.cmp .ne (.bi .repr [.var 6]) (.var 7))) [.ret (.c (.bool false))] [], .fr (.var 3) (.rng1 (.c (.int 3))) [.asg (.var 13) (.call 28 [.var 1, .var 4]), .ite (.un .not (.call 21 [.lst [.call 8 [.var 4], .callK 8 [] [.var 13] [0]], .lst [.c (.bool true), .c (.bool false)]])) [.ret (.c (.bool false))] []], .asg (.var 8) (.call 24 [.var 1, .var 11, .call 20 [.var 1, .c (.int 4)]]), .fr (.var 9) (.rng1 (.bi .len [.ix (.var 4) (.c (.int 1))])) [.ite (.cmp .gt (.ix (.var 8) (.ix (.ix (.ix (.var 4) (.c (.int 1))) (.var 9)) (.c (.int 0)))) (.c (.int 0))) [.asg (.var 10) (.call 25 [.var 4, .var 8, .var 9]), .ite (.un .not (.call 21 [.lst [.call 15 [.var 4, .var 8, .var 9], .callK 15 [] [.var 9, .var 8, .var 4] [2, 1, 0]], .lst [.var 10, .var 10]])) [.ret (.c (.bool false))] []] []], .asg (.var 10) (.call 26 [.var 4, .var 8]), .ite (.un .not (.call 21 [.lst [.call 18 [.var 4, .var 8], .callK 18 [] [.var 8, .var 4] [1, 0], .call 6 [.var 10]], .lst [.var 10, .var 10, .c (.bool true)]])) [.ret (.c (.bool false))] []],
  .ret (.c (.bool true))]
/-! names -/
def p0s0 : MS := .ret (.and (.bi (.isi .int) [.var 0]) (.un .not (.bi (.isi .bool) [.var 0])))
def p0 : List MS := p0s0 :: []
theorem bp0 : b0 = p0 := rfl
def p1s0 : MS := .ret (.and (.call 0 [.var 0]) (.cmp2 .le .le (.var 1) (.var 0) (.var 2)))
def p1 : List MS := p1s0 :: []
theorem bp1 : b1 = p1 := rfl
def x2_0 : MX := .gen .all [2] (.var 2) (.val (.var 0)) (.call 0 [.var 2])
def p2s0 : MS := .ret (.and (.bi (.isi .tuple) [.var 0]) (.and (.cmp .eq (.bi .len [.var 0]) (.var 1)) (x2_0)))
def p2 : List MS := p2s0 :: []
theorem bp2 : b2 = p2 := rfl
def x3_0 : MX := .gen .all [2] (.var 2) (.val (.var 0)) (.cmp .ge (.var 2) (.c (.int 0)))
def p3s0 : MS := .ret (.and (.call 2 [.var 0, .var 1]) (x3_0))
def p3 : List MS := p3s0 :: []
theorem bp3 : b3 = p3 := rfl
def x4_0 : MX := .gen .all [1] (.var 1) (.rng2 (.c (.int 1)) (.bi .len [.var 0])) (.cmp .lt (.ix (.var 0) (.bin .sub (.var 1) (.c (.int 1)))) (.ix (.var 0) (.var 1)))
def p4s0 : MS := .ret (x4_0)
def p4 : List MS := p4s0 :: []
theorem bp4 : b4 = p4 := rfl
def p5s0 : MS := .ite (.or (.un .not (.bi (.isi .tuple) [.var 2])) (.cmp .ne (.bi .len [.var 2]) (.c (.int 3)))) [.ret (.c (.bool false))] []
def p5s1 : MS := .ret (.and (.call 1 [.ix (.var 2) (.c (.int 0)), .c (.int 0), .bin .sub (.var 1) (.c (.int 1))]) (.and (.call 3 [.ix (.var 2) (.c (.int 1)), .var 0]) (.call 3 [.ix (.var 2) (.c (.int 2)), .var 1])))
def p5t1 : List MS := p5s1 :: []
def p5 : List MS := p5s0 :: p5t1
theorem bp5 : b5 = p5 := rfl
def p6s0 : MS := .ite (.or (.un .not (.bi (.isi .tuple) [.var 0])) (.cmp .ne (.bi .len [.var 0]) (.c (.int 4)))) [.ret (.c (.bool false))] []
def p6s1 : MS := .asg (.tup [1, 2, 3, 4]) (.var 0)
def p6s2 : MS := .ite (.or (.un .not (.call 1 [.var 1, .c (.int 1), .c (.int 3)])) (.or (.un .not (.call 0 [.var 2])) (.or (.cmp .lt (.var 2) (.c (.int 1))) (.un .not (.call 3 [.var 3, .var 2]))))) [.ret (.c (.bool false))] []
def x6_0 : MX := .gen .all [5] (.var 5) (.val (.var 4)) (.call 5 [.var 1, .var 2, .var 5])
def p6s3 : MS := .ite (.or (.un .not (.bi (.isi .tuple) [.var 4])) (.un .not (x6_0))) [.ret (.c (.bool false))] []
def p6s4 : MS := .ret (.call 4 [.var 4])
def p6t4 : List MS := p6s4 :: []
def p6t3 : List MS := p6s3 :: p6t4
def p6t2 : List MS := p6s2 :: p6t3
def p6t1 : List MS := p6s1 :: p6t2
def p6 : List MS := p6s0 :: p6t1
theorem bp6 : b6 = p6 := rfl
def p7s0 : MS := .ite (.or (.un .not (.bi (.isi .tuple) [.var 1])) (.cmp .ne (.bi .len [.var 1]) (.c (.int 2)))) [.ret (.c (.bool false))] []
def p7s1 : MS := .ret (.and (.call 1 [.ix (.var 1) (.c (.int 0)), .c (.int 0), .bin .sub (.var 0) (.c (.int 1))]) (.call 3 [.ix (.var 1) (.c (.int 1)), .var 0]))
def p7t1 : List MS := p7s1 :: []
def p7 : List MS := p7s0 :: p7t1
theorem bp7 : b7 = p7 := rfl
def p8s0 : MS := .ite (.or (.un .not (.bi (.isi .tuple) [.var 0])) (.or (.cmp .ne (.bi .len [.var 0]) (.c (.int 2))) (.un .not (.call 1 [.ix (.var 0) (.c (.int 0)), .c (.int 1), .c (.int 3)])))) [.ret (.c (.bool false))] []
def x8_0 : MX := .gen .all [1] (.var 1) (.val (.ix (.var 0) (.c (.int 1)))) (.call 7 [.ix (.var 0) (.c (.int 0)), .var 1])
def p8s1 : MS := .ite (.or (.un .not (.bi (.isi .tuple) [.ix (.var 0) (.c (.int 1))])) (.un .not (x8_0))) [.ret (.c (.bool false))] []
def p8s2 : MS := .ret (.call 4 [.ix (.var 0) (.c (.int 1))])
def p8t2 : List MS := p8s2 :: []
def p8t1 : List MS := p8s1 :: p8t2
def p8 : List MS := p8s0 :: p8t1
theorem bp8 : b8 = p8 := rfl
def p9s0 : MS := .ite (.un .not (.call 8 [.var 0])) [.raise "InvalidNet" (.var 0)] []
def p9 : List MS := p9s0 :: []
theorem bp9 : b9 = p9 := rfl
def p10s0 : MS := .ite (.un .not (.call 3 [.var 1, .ix (.var 0) (.c (.int 0))])) [.raise "InvalidBag" (.var 1)] []
def p10 : List MS := p10s0 :: []
theorem bp10 : b10 = p10 := rfl
def p11s0 : MS := .ite (.un .not (.call 1 [.var 0, .c (.int 1), .c (.int 3)])) [.raise "InvalidNumber" (.var 0)] []
def p11w1s0 : MS := .ite (.un .not (.call 7 [.var 0, .var 2])) [.raise "InvalidDeed" (.var 2)] []
def p11w1 : List MS := p11w1s0 :: []
def p11s1 : MS := .fr (.var 2) (.val (.var 1)) p11w1
def p11s2 : MS := .ret (.tup [.var 0, .bi .tuple [.sset (.var 1)]])
def p11t2 : List MS := p11s2 :: []
def p11t1 : List MS := p11s1 :: p11t2
def p11 : List MS := p11s0 :: p11t1
theorem bp11 : b11 = p11 := rfl
def p12s0 : MS := .ret (.cmp .gt (.ix (.var 1) (.ix (.ix (.ix (.var 0) (.c (.int 1))) (.var 2)) (.c (.int 0)))) (.c (.int 0)))
def p12 : List MS := p12s0 :: []
theorem bp12 : b12 = p12 := rfl
def p13s0 : MS := .asg (.tup [3, 4]) (.ix (.ix (.var 0) (.c (.int 1))) (.var 2))
def x13_0 : MX := .lc [5, 6] (.tup [5, 6]) (.enum (.var 1)) (.c (.bool true)) (.bin .add (.bin .sub (.var 6) (.bi .int [.cmp .eq (.var 5) (.var 3)])) (.ix (.var 4) (.var 5)))
def p13s1 : MS := .ret (.bi .tuple [x13_0])
def p13t1 : List MS := p13s1 :: []
def p13 : List MS := p13s0 :: p13t1
theorem bp13 : b13 = p13 := rfl
def p14s0 : MS := .ite (.or (.un .not (.call 1 [.var 2, .c (.int 0), .bin .sub (.bi .len [.ix (.var 0) (.c (.int 1))]) (.c (.int 1))])) (.un .not (.call 12 [.var 0, .var 1, .var 2]))) [.raise "InvalidDeed" (.var 2)] []
def p14 : List MS := p14s0 :: []
theorem bp14 : b14 = p14 := rfl
def p15s0 : MS := .ex (.call 9 [.var 0])
def p15s1 : MS := .ex (.call 10 [.var 0, .var 1])
def p15s2 : MS := .ex (.call 14 [.var 0, .var 1, .var 2])
def p15s3 : MS := .ret (.call 13 [.var 0, .var 1, .var 2])
def p15t3 : List MS := p15s3 :: []
def p15t2 : List MS := p15s2 :: p15t3
def p15t1 : List MS := p15s1 :: p15t2
def p15 : List MS := p15s0 :: p15t1
theorem bp15 : b15 = p15 := rfl
def x16_0 : MX := .lc [2] (.var 2) (.rng1 (.var 0)) (.c (.bool true)) (.bi .int [.cmp .eq (.var 2) (.var 1)])
def p16s0 : MS := .ret (.bi .tuple [x16_0])
def p16 : List MS := p16s0 :: []
theorem bp16 : b16 = p16 := rfl
def p17s0 : MS := .asg (.var 2) (.ix (.var 0) (.c (.int 0)))
def p17s1 : MS := .asg (.var 3) (.bin .mul (.tup [.c (.int 0)]) (.var 2))
def x17_0 : MX := .lc [5, 6] (.tup [5, 6]) (.val (.ix (.var 0) (.c (.int 1)))) (.c (.bool true)) (.tup [.var 5, .var 3, .var 6])
def p17s2 : MS := .asg (.var 4) (x17_0)
def x17_1 : MX := .lc [5] (.var 5) (.rng1 (.var 2)) (.c (.bool true)) (.tup [.var 5, .call 16 [.var 2, .var 5], .var 3])
def p17s3 : MS := .ex (.mm .extend 4 [x17_1])
def p17s4 : MS := .ret (.tup [.var 2, .var 2, .var 1, .bi .tuple [.srt (.var 4)]])
def p17t4 : List MS := p17s4 :: []
def p17t3 : List MS := p17s3 :: p17t4
def p17t2 : List MS := p17s2 :: p17t3
def p17t1 : List MS := p17s1 :: p17t2
def p17 : List MS := p17s0 :: p17t1
theorem bp17 : b17 = p17 := rfl
def p18s0 : MS := .ex (.call 9 [.var 0])
def p18s1 : MS := .ex (.call 10 [.var 0, .var 1])
def p18s2 : MS := .ret (.call 17 [.var 0, .var 1])
def p18t2 : List MS := p18s2 :: []
def p18t1 : List MS := p18s1 :: p18t2
def p18 : List MS := p18s0 :: p18t1
theorem bp18 : b18 = p18 := rfl
def x19_0 : MX := .lc [1] (.var 1) (.scrI 0) (.c (.bool true)) (.bi .int [.var 1])
def p19s0 : MS := .retD ["cells", "next", "digits", "seed", "count"] [x19_0, .c (.int 0), .c (.int 0), .c (.int 1709), .c (.int 0)]
def p19 : List MS := p19s0 :: []
theorem bp19 : b19 = p19 := rfl
def p20w0s0 : MS := .ite (.cmp .gt (.ix (.var 0) (.c (.str "digits"))) (.c (.int 0))) [.brk] []
def p20w0s1 : MS := .asg (.var 4) (.ix (.ix (.var 0) (.c (.str "cells"))) (.ix (.var 0) (.c (.str "next"))))
def p20w0s2 : MS := .augIx 0 (.c (.str "next")) .add (.c (.int 1))
def p20w0s3 : MS := .ite (.cmp .ge (.var 4) (.bin .pow (.c (.int 10)) (.c (.int 18)))) [.setIx 0 (.c (.str "digits")) (.bin .add (.bin .sub (.var 4) (.bin .pow (.c (.int 10)) (.c (.int 18)))) (.c (.int 1)))] [.setIx 0 (.c (.str "seed")) (.bin .mod (.bi .int [.bin .add (.bin .add (.bin .mul (.ix (.var 0) (.c (.str "seed"))) (.c (.int 1009))) (.bin .mul (.var 4) (.c (.int 31)))) (.c (.int 7))]) (.c (.int 2305843009213693951)))]
def p20w0t3 : List MS := p20w0s3 :: []
def p20w0t2 : List MS := p20w0s2 :: p20w0t3
def p20w0t1 : List MS := p20w0s1 :: p20w0t2
def p20w0 : List MS := p20w0s0 :: p20w0t1
def p20s0 : MS := .fr (.var 2) (.rng1 (.bin .sub (.bi .len [.ix (.var 0) (.c (.str "cells"))]) (.ix (.var 0) (.c (.str "next"))))) p20w0
def p20s1 : MS := .ite (.cmp .gt (.ix (.var 0) (.c (.str "digits"))) (.c (.int 0))) [.asg (.var 5) (.bin .mod (.bi .int [.ix (.var 0) (.c (.str "digits"))]) (.var 1)), .setIx 0 (.c (.str "digits")) (.bin .fdiv (.ix (.var 0) (.c (.str "digits"))) (.var 1)), .ret (.var 5)] []
def p20s2 : MS := .augIx 0 (.c (.str "count")) .add (.c (.int 1))
def p20s3 : MS := .setIx 0 (.c (.str "seed")) (.bin .mod (.bi .int [.bin .add (.bin .add (.bin .mul (.ix (.var 0) (.c (.str "seed"))) (.c (.int 6364136223846793))) (.bin .mul (.c (.int 1442695040888963)) (.ix (.var 0) (.c (.str "count"))))) (.c (.int 11))]) (.c (.int 2305843009213693951)))
def p20s4 : MS := .asg (.var 3) (.bin .mod (.bi .int [.bin .add (.bin .fdiv (.bin .mul (.ix (.var 0) (.c (.str "seed"))) (.ix (.var 0) (.c (.str "seed")))) (.c (.int 1000003))) (.bin .fdiv (.ix (.var 0) (.c (.str "seed"))) (.c (.int 17)))]) (.c (.int 9007199254740881)))
def p20s5 : MS := .ret (.bin .mod (.bi .int [.bin .fdiv (.var 3) (.c (.int 13))]) (.var 1))
def p20t5 : List MS := p20s5 :: []
def p20t4 : List MS := p20s4 :: p20t5
def p20t3 : List MS := p20s3 :: p20t4
def p20t2 : List MS := p20s2 :: p20t3
def p20t1 : List MS := p20s1 :: p20t2
def p20 : List MS := p20s0 :: p20t1
theorem bp20 : b20 = p20 := rfl
def x21_0 : MX := .lc [2] (.var 2) (.rng1 (.bi .len [.var 1])) (.c (.bool true)) (.call 21 [.ix (.var 0) (.var 2), .ix (.var 1) (.var 2)])
def p21s0 : MS := .ite (.bi (.isi .tuple) [.var 1]) [.ret (.and (.bi (.isi .tuple) [.var 0]) (.and (.cmp .eq (.bi .len [.var 0]) (.bi .len [.var 1])) (.bi .all [x21_0])))] []
def x21_1 : MX := .lc [2] (.var 2) (.rng1 (.bi .len [.var 1])) (.c (.bool true)) (.call 21 [.ix (.var 0) (.var 2), .ix (.var 1) (.var 2)])
def p21s1 : MS := .ite (.bi (.isi .list) [.var 1]) [.ret (.and (.bi (.isi .list) [.var 0]) (.and (.cmp .eq (.bi .len [.var 0]) (.bi .len [.var 1])) (.bi .all [x21_1])))] []
def p21s2 : MS := .ite (.cmp .is (.var 1) (.c .none)) [.ret (.cmp .is (.var 0) (.c .none))] []
def p21s3 : MS := .ite (.or (.bi (.isi .bool) [.var 1]) (.bi (.isi .str) [.var 1])) [.ret (.and (.cmp .eq (.bi (.isi .bool) [.var 0]) (.bi (.isi .bool) [.var 1])) (.and (.cmp .eq (.bi (.isi .str) [.var 0]) (.bi (.isi .str) [.var 1])) (.cmp .eq (.var 0) (.var 1))))] []
def p21s4 : MS := .ret (.and (.bi (.isi .int) [.var 0]) (.and (.un .not (.bi (.isi .bool) [.var 0])) (.cmp .eq (.var 0) (.var 1))))
def p21t4 : List MS := p21s4 :: []
def p21t3 : List MS := p21s3 :: p21t4
def p21t2 : List MS := p21s2 :: p21t3
def p21t1 : List MS := p21s1 :: p21t2
def p21 : List MS := p21s0 :: p21t1
theorem bp21 : b21 = p21 := rfl
def x22_0 : MX := .lc [3] (.var 3) (.rng1 (.bi .len [.var 0])) (.c (.bool true)) (.bin .add (.ix (.var 0) (.var 3)) (.bin .mul (.var 2) (.ix (.var 1) (.var 3))))
def p22s0 : MS := .ret (.bi .tuple [x22_0])
def p22 : List MS := p22s0 :: []
theorem bp22 : b22 = p22 := rfl
def x23_0 : MX := .lc [2] (.var 2) (.rng1 (.var 0)) (.c (.bool true)) (.bi .int [.cmp .eq (.var 2) (.var 1)])
def p23s0 : MS := .ret (.bi .tuple [x23_0])
def p23 : List MS := p23s0 :: []
theorem bp23 : b23 = p23 := rfl
def p24s0 : MS := .asg (.var 3) (.bin .mul (.lst [.c (.int 0)]) (.var 1))
def p24w1s0 : MS := .augIx 3 (.call 20 [.var 0, .var 1]) .add (.c (.int 1))
def p24w1 : List MS := p24w1s0 :: []
def p24s1 : MS := .fr (.var 4) (.rng1 (.var 2)) p24w1
def p24s2 : MS := .ret (.bi .tuple [.var 3])
def p24t2 : List MS := p24s2 :: []
def p24t1 : List MS := p24s1 :: p24t2
def p24 : List MS := p24s0 :: p24t1
theorem bp24 : b24 = p24 := rfl
def p25s0 : MS := .asg (.tup [3, 4]) (.ix (.ix (.var 0) (.c (.int 1))) (.var 2))
def p25s1 : MS := .ret (.call 22 [.call 22 [.var 1, .var 4, .c (.int 1)], .call 23 [.ix (.var 0) (.c (.int 0)), .var 3], .un .neg (.c (.int 1))])
def p25t1 : List MS := p25s1 :: []
def p25 : List MS := p25s0 :: p25t1
theorem bp25 : b25 = p25 := rfl
def p26s0 : MS := .par 3 4 (.ix (.var 0) (.c (.int 0))) (.bin .mul (.tup [.c (.int 0)]) (.ix (.var 0) (.c (.int 0))))
def x26_0 : MX := .lc [5, 6] (.tup [5, 6]) (.val (.ix (.var 0) (.c (.int 1)))) (.c (.bool true)) (.tup [.var 5, .var 4, .var 6])
def p26s1 : MS := .asg (.var 2) (x26_0)
def x26_1 : MX := .lc [5] (.var 5) (.rng1 (.var 3)) (.c (.bool true)) (.tup [.var 5, .call 23 [.var 3, .var 5], .var 4])
def p26s2 : MS := .asg (.var 2) (.bin .add (.var 2) (x26_1))
def p26s3 : MS := .ret (.tup [.var 3, .var 3, .var 1, .bi .tuple [.srt (.var 2)]])
def p26t3 : List MS := p26s3 :: []
def p26t2 : List MS := p26s2 :: p26t3
def p26t1 : List MS := p26s1 :: p26t2
def p26 : List MS := p26s0 :: p26t1
theorem bp26 : b26 = p26 := rfl
def p27s0 : MS := .par 3 4 (.bi .list [.var 1]) (.lst [])
def p27w1s0 : MS := .ex (.mm .append 3 [.ix (.var 3) (.call 20 [.var 0, .bi .len [.var 3]])])
def p27w1 : List MS := p27w1s0 :: []
def p27s1 : MS := .fr (.var 2) (.rng1 (.ite (.cmp .ne (.var 3) (.lst [])) (.call 20 [.var 0, .c (.int 3)]) (.c (.int 0)))) p27w1
def p27w2s0 : MS := .ex (.mm .append 4 [.mm .pop 3 [.call 20 [.var 0, .bi .len [.var 3]]]])
def p27w2 : List MS := p27w2s0 :: []
def p27s2 : MS := .fr (.var 2) (.rng1 (.bi .len [.var 3])) p27w2
def p27s3 : MS := .ret (.var 4)
def p27t3 : List MS := p27s3 :: []
def p27t2 : List MS := p27s2 :: p27t3
def p27t1 : List MS := p27s1 :: p27t2
def p27 : List MS := p27s0 :: p27t1
theorem bp27 : b27 = p27 := rfl
def p28s0 : MS := .asg (.tup [4, 5]) (.var 1)
def p28s1 : MS := .asg (.var 2) (.lst [.c .none, .c (.int 0), .c (.str ""), .tup [], .sl (.var 1) (.c .none) (.c (.int 1)), .bin .add (.var 1) (.tup [.c (.int 0)]), .bi .list [.var 1], .tup [.c (.int 0), .var 5], .tup [.c (.int 4), .var 5], .tup [.c (.bool true), .tup []], .tup [.c (.str "1"), .tup []], .tup [.var 4, .bi .list [.var 5]], .tup [.var 4, .c .none]])
def p28s2 : MS := .asg (.var 3) (.lst [.c .none, .tup [], .tup [.c (.int 0)], .tup [.c (.int 0), .bin .mul (.tup [.c (.int 0)]) (.var 4), .c (.int 0)], .lst [.c (.int 0), .bin .mul (.tup [.c (.int 0)]) (.var 4)], .tup [.var 4, .bin .mul (.tup [.c (.int 0)]) (.var 4)], .tup [.un .neg (.c (.int 1)), .bin .mul (.tup [.c (.int 0)]) (.var 4)], .tup [.c (.bool false), .bin .mul (.tup [.c (.int 0)]) (.var 4)]])
def p28s3 : MS := .asg (.var 3) (.bin .add (.var 3) (.lst [.tup [.c (.int 0), .bin .mul (.tup [.c (.int 0)]) (.bin .add (.var 4) (.c (.int 1)))], .tup [.c (.int 0), .bin .mul (.tup [.c (.int 0)]) (.bin .sub (.var 4) (.c (.int 1)))], .tup [.c (.int 0), .bin .mul (.lst [.c (.int 0)]) (.var 4)], .tup [.c (.int 0), .bin .mul (.tup [.un .neg (.c (.int 1))]) (.var 4)], .tup [.c (.int 0), .bin .mul (.tup [.c (.bool true)]) (.var 4)], .tup [.c (.int 0), .c .none]]))
def x28_0 : MX := .lc [6] (.var 6) (.val (.var 3)) (.c (.bool true)) (.tup [.var 4, .tup [.var 6]])
def p28s4 : MS := .asg (.var 2) (.bin .add (.bin .add (.var 2) (x28_0)) (.lst [.tup [.var 4, .bin .add (.var 5) (.tup [.ix (.var 3) (.call 20 [.var 0, .c (.int 14)])])]]))
def p28s5 : MS := .ite (.cmp .ne (.var 5) (.tup [])) [.asg (.var 2) (.bin .add (.var 2) (.lst [.tup [.var 4, .bin .add (.var 5) (.sl (.var 5) (.un .neg (.c (.int 1))) (.c .none))], .tup [.var 4, .bin .add (.sl (.var 5) (.c .none) (.c (.int 1))) (.var 5)]]))] []
def p28s6 : MS := .ite (.cmp .gt (.bi .len [.var 5]) (.c (.int 1))) [.asg (.var 2) (.bin .add (.var 2) (.lst [.tup [.var 4, .rev (.var 5)], .tup [.var 4, .bin .add (.sl (.var 5) (.c (.int 1)) (.c .none)) (.sl (.var 5) (.c .none) (.c (.int 1)))]]))] []
def p28s7 : MS := .ret (.ix (.var 2) (.call 20 [.var 0, .bi .len [.var 2]]))
def p28t7 : List MS := p28s7 :: []
def p28t6 : List MS := p28s6 :: p28t7
def p28t5 : List MS := p28s5 :: p28t6
def p28t4 : List MS := p28s4 :: p28t5
def p28t3 : List MS := p28s3 :: p28t4
def p28t2 : List MS := p28s2 :: p28t3
def p28t1 : List MS := p28s1 :: p28t2
def p28 : List MS := p28s0 :: p28t1
theorem bp28 : b28 = p28 := rfl
def p29s0 : MS := .asgBox 1 19 [.var 0]
def p29w1s0 : MS := .par 11 12 (.bin .add (.c (.int 1)) (.call 20 [.var 1, .c (.int 3)])) (.dnew)
def p29w1w1s0 : MS := .setK 12 (.tup [.call 20 [.var 1, .var 11], .call 24 [.var 1, .var 11, .call 20 [.var 1, .c (.int 4)]]]) (.c (.bool true))
def p29w1w1 : List MS := p29w1w1s0 :: []
def p29w1s1 : MS := .fr (.var 3) (.rng1 (.call 20 [.var 1, .c (.int 5)])) p29w1w1
def p29w1s2 : MS := .asg (.var 4) (.tup [.var 11, .bi .tuple [.srt (.var 12)]])
def p29w1s3 : MS := .asg (.var 5) (.call 27 [.var 1, .ix (.var 4) (.c (.int 1))])
def p29w1s4 : MS := .asg (.var 6) (.ite (.cmp .eq (.call 20 [.var 1, .c (.int 2)]) (.c (.int 0))) (.var 5) (.bi .tuple [.var 5]))
def p29w1s5 : MS := .asg (.var 7) (.bi .repr [.var 6])
def p29w1s6 : MS := .ite (.or (.un .not (.call 21 [.lst [.call 11 [.var 11, .var 6], .callK 11 [] [.var 6, .var 11] [1, 0]], .lst [.var 4, .var 4]])) (.cmp .ne (.bi .repr [.var 6]) (.var 7))) [.ret (.c (.bool false))] []
def p29w1w7s0 : MS := .asg (.var 13) (.call 28 [.var 1, .var 4])
def p29w1w7s1 : MS := .ite (.un .not (.call 21 [.lst [.call 8 [.var 4], .callK 8 [] [.var 13] [0]], .lst [.c (.bool true), .c (.bool false)]])) [.ret (.c (.bool false))] []
def p29w1w7t1 : List MS := p29w1w7s1 :: []
def p29w1w7 : List MS := p29w1w7s0 :: p29w1w7t1
def p29w1s7 : MS := .fr (.var 3) (.rng1 (.c (.int 3))) p29w1w7
def p29w1s8 : MS := .asg (.var 8) (.call 24 [.var 1, .var 11, .call 20 [.var 1, .c (.int 4)]])
def p29w1w9s0 : MS := .ite (.cmp .gt (.ix (.var 8) (.ix (.ix (.ix (.var 4) (.c (.int 1))) (.var 9)) (.c (.int 0)))) (.c (.int 0))) [.asg (.var 10) (.call 25 [.var 4, .var 8, .var 9]), .ite (.un .not (.call 21 [.lst [.call 15 [.var 4, .var 8, .var 9], .callK 15 [] [.var 9, .var 8, .var 4] [2, 1, 0]], .lst [.var 10, .var 10]])) [.ret (.c (.bool false))] []] []
def p29w1w9 : List MS := p29w1w9s0 :: []
def p29w1s9 : MS := .fr (.var 9) (.rng1 (.bi .len [.ix (.var 4) (.c (.int 1))])) p29w1w9
def p29w1s10 : MS := .asg (.var 10) (.call 26 [.var 4, .var 8])
def p29w1s11 : MS := .ite (.un .not (.call 21 [.lst [.call 18 [.var 4, .var 8], .callK 18 [] [.var 8, .var 4] [1, 0], .call 6 [.var 10]], .lst [.var 10, .var 10, .c (.bool true)]])) [.ret (.c (.bool false))] []
def p29w1t11 : List MS := p29w1s11 :: []
def p29w1t10 : List MS := p29w1s10 :: p29w1t11
def p29w1t9 : List MS := p29w1s9 :: p29w1t10
def p29w1t8 : List MS := p29w1s8 :: p29w1t9
def p29w1t7 : List MS := p29w1s7 :: p29w1t8
def p29w1t6 : List MS := p29w1s6 :: p29w1t7
def p29w1t5 : List MS := p29w1s5 :: p29w1t6
def p29w1t4 : List MS := p29w1s4 :: p29w1t5
def p29w1t3 : List MS := p29w1s3 :: p29w1t4
def p29w1t2 : List MS := p29w1s2 :: p29w1t3
def p29w1t1 : List MS := p29w1s1 :: p29w1t2
def p29w1 : List MS := p29w1s0 :: p29w1t1
def p29s1 : MS := .fr (.var 2) (.rng1 (.c (.int 16))) p29w1
def p29s2 : MS := .ret (.c (.bool true))
def p29t2 : List MS := p29s2 :: []
def p29t1 : List MS := p29s1 :: p29t2
def p29 : List MS := p29s0 :: p29t1
theorem bp29 : b29 = p29 := rfl
def D : Nat → Option Def
  | 0 => some ⟨1, 1, b0⟩
  | 1 => some ⟨3, 3, b1⟩
  | 2 => some ⟨3, 2, b2⟩
  | 3 => some ⟨3, 2, b3⟩
  | 4 => some ⟨2, 1, b4⟩
  | 5 => some ⟨3, 3, b5⟩
  | 6 => some ⟨6, 1, b6⟩
  | 7 => some ⟨2, 2, b7⟩
  | 8 => some ⟨2, 1, b8⟩
  | 9 => some ⟨1, 1, b9⟩
  | 10 => some ⟨2, 2, b10⟩
  | 11 => some ⟨3, 2, b11⟩
  | 12 => some ⟨3, 3, b12⟩
  | 13 => some ⟨7, 3, b13⟩
  | 14 => some ⟨3, 3, b14⟩
  | 15 => some ⟨3, 3, b15⟩
  | 16 => some ⟨3, 2, b16⟩
  | 17 => some ⟨7, 2, b17⟩
  | 18 => some ⟨2, 2, b18⟩
  | 19 => some ⟨2, 1, b19⟩
  | 20 => some ⟨6, 2, b20⟩
  | 21 => some ⟨3, 2, b21⟩
  | 22 => some ⟨4, 3, b22⟩
  | 23 => some ⟨3, 2, b23⟩
  | 24 => some ⟨5, 3, b24⟩
  | 25 => some ⟨5, 3, b25⟩
  | 26 => some ⟨7, 2, b26⟩
  | 27 => some ⟨5, 2, b27⟩
  | 28 => some ⟨7, 2, b28⟩
  | 29 => some ⟨14, 1, b29⟩
  | _ => none
section
variable {n : Nat} {h : Hx}
theorem u0 {v0 : Val} : run D (n + 1) 0 [v0] h = fin (exSs (run D n) false [] b0 [some ⟨v0, false⟩] h) := run_fin (d := ⟨1, 1, b0⟩) rfl rfl
theorem u1 {v0 v1 v2 : Val} : run D (n + 1) 1 [v0, v1, v2] h = fin (exSs (run D n) false [] b1 [some ⟨v0, false⟩, some ⟨v1, false⟩, some ⟨v2, false⟩] h) := run_fin (d := ⟨3, 3, b1⟩) rfl rfl
theorem u2 {v0 v1 : Val} : run D (n + 1) 2 [v0, v1] h = fin (exSs (run D n) false [] b2 [some ⟨v0, false⟩, some ⟨v1, false⟩, none] h) := run_fin (d := ⟨3, 2, b2⟩) rfl rfl
theorem u3 {v0 v1 : Val} : run D (n + 1) 3 [v0, v1] h = fin (exSs (run D n) false [] b3 [some ⟨v0, false⟩, some ⟨v1, false⟩, none] h) := run_fin (d := ⟨3, 2, b3⟩) rfl rfl
theorem u4 {v0 : Val} : run D (n + 1) 4 [v0] h = fin (exSs (run D n) false [] b4 [some ⟨v0, false⟩, none] h) := run_fin (d := ⟨2, 1, b4⟩) rfl rfl
theorem u5 {v0 v1 v2 : Val} : run D (n + 1) 5 [v0, v1, v2] h = fin (exSs (run D n) false [] b5 [some ⟨v0, false⟩, some ⟨v1, false⟩, some ⟨v2, false⟩] h) := run_fin (d := ⟨3, 3, b5⟩) rfl rfl
theorem u6 {v0 : Val} : run D (n + 1) 6 [v0] h = fin (exSs (run D n) false [] b6 [some ⟨v0, false⟩, none, none, none, none, none] h) := run_fin (d := ⟨6, 1, b6⟩) rfl rfl
theorem u7 {v0 v1 : Val} : run D (n + 1) 7 [v0, v1] h = fin (exSs (run D n) false [] b7 [some ⟨v0, false⟩, some ⟨v1, false⟩] h) := run_fin (d := ⟨2, 2, b7⟩) rfl rfl
theorem u8 {v0 : Val} : run D (n + 1) 8 [v0] h = fin (exSs (run D n) false [] b8 [some ⟨v0, false⟩, none] h) := run_fin (d := ⟨2, 1, b8⟩) rfl rfl
theorem u9 {v0 : Val} : run D (n + 1) 9 [v0] h = fin (exSs (run D n) false [] b9 [some ⟨v0, false⟩] h) := run_fin (d := ⟨1, 1, b9⟩) rfl rfl
theorem u10 {v0 v1 : Val} : run D (n + 1) 10 [v0, v1] h = fin (exSs (run D n) false [] b10 [some ⟨v0, false⟩, some ⟨v1, false⟩] h) := run_fin (d := ⟨2, 2, b10⟩) rfl rfl
theorem u11 {v0 v1 : Val} : run D (n + 1) 11 [v0, v1] h = fin (exSs (run D n) false [] b11 [some ⟨v0, false⟩, some ⟨v1, false⟩, none] h) := run_fin (d := ⟨3, 2, b11⟩) rfl rfl
theorem u12 {v0 v1 v2 : Val} : run D (n + 1) 12 [v0, v1, v2] h = fin (exSs (run D n) false [] b12 [some ⟨v0, false⟩, some ⟨v1, false⟩, some ⟨v2, false⟩] h) := run_fin (d := ⟨3, 3, b12⟩) rfl rfl
theorem u13 {v0 v1 v2 : Val} : run D (n + 1) 13 [v0, v1, v2] h = fin (exSs (run D n) false [] b13 [some ⟨v0, false⟩, some ⟨v1, false⟩, some ⟨v2, false⟩, none, none, none, none] h) := run_fin (d := ⟨7, 3, b13⟩) rfl rfl
theorem u14 {v0 v1 v2 : Val} : run D (n + 1) 14 [v0, v1, v2] h = fin (exSs (run D n) false [] b14 [some ⟨v0, false⟩, some ⟨v1, false⟩, some ⟨v2, false⟩] h) := run_fin (d := ⟨3, 3, b14⟩) rfl rfl
theorem u15 {v0 v1 v2 : Val} : run D (n + 1) 15 [v0, v1, v2] h = fin (exSs (run D n) false [] b15 [some ⟨v0, false⟩, some ⟨v1, false⟩, some ⟨v2, false⟩] h) := run_fin (d := ⟨3, 3, b15⟩) rfl rfl
theorem u16 {v0 v1 : Val} : run D (n + 1) 16 [v0, v1] h = fin (exSs (run D n) false [] b16 [some ⟨v0, false⟩, some ⟨v1, false⟩, none] h) := run_fin (d := ⟨3, 2, b16⟩) rfl rfl
theorem u17 {v0 v1 : Val} : run D (n + 1) 17 [v0, v1] h = fin (exSs (run D n) false [] b17 [some ⟨v0, false⟩, some ⟨v1, false⟩, none, none, none, none, none] h) := run_fin (d := ⟨7, 2, b17⟩) rfl rfl
theorem u18 {v0 v1 : Val} : run D (n + 1) 18 [v0, v1] h = fin (exSs (run D n) false [] b18 [some ⟨v0, false⟩, some ⟨v1, false⟩] h) := run_fin (d := ⟨2, 2, b18⟩) rfl rfl
theorem u19 {v0 : Val} : run D (n + 1) 19 [v0] h = fin (exSs (run D n) false [] b19 [some ⟨v0, false⟩, none] h) := run_fin (d := ⟨2, 1, b19⟩) rfl rfl
theorem u20 {v0 v1 : Val} : run D (n + 1) 20 [v0, v1] h = fin (exSs (run D n) false [] b20 [some ⟨v0, false⟩, some ⟨v1, false⟩, none, none, none, none] h) := run_fin (d := ⟨6, 2, b20⟩) rfl rfl
theorem u21 {v0 v1 : Val} : run D (n + 1) 21 [v0, v1] h = fin (exSs (run D n) false [] b21 [some ⟨v0, false⟩, some ⟨v1, false⟩, none] h) := run_fin (d := ⟨3, 2, b21⟩) rfl rfl
theorem u22 {v0 v1 v2 : Val} : run D (n + 1) 22 [v0, v1, v2] h = fin (exSs (run D n) false [] b22 [some ⟨v0, false⟩, some ⟨v1, false⟩, some ⟨v2, false⟩, none] h) := run_fin (d := ⟨4, 3, b22⟩) rfl rfl
theorem u23 {v0 v1 : Val} : run D (n + 1) 23 [v0, v1] h = fin (exSs (run D n) false [] b23 [some ⟨v0, false⟩, some ⟨v1, false⟩, none] h) := run_fin (d := ⟨3, 2, b23⟩) rfl rfl
theorem u24 {v0 v1 v2 : Val} : run D (n + 1) 24 [v0, v1, v2] h = fin (exSs (run D n) false [] b24 [some ⟨v0, false⟩, some ⟨v1, false⟩, some ⟨v2, false⟩, none, none] h) := run_fin (d := ⟨5, 3, b24⟩) rfl rfl
theorem u25 {v0 v1 v2 : Val} : run D (n + 1) 25 [v0, v1, v2] h = fin (exSs (run D n) false [] b25 [some ⟨v0, false⟩, some ⟨v1, false⟩, some ⟨v2, false⟩, none, none] h) := run_fin (d := ⟨5, 3, b25⟩) rfl rfl
theorem u26 {v0 v1 : Val} : run D (n + 1) 26 [v0, v1] h = fin (exSs (run D n) false [] b26 [some ⟨v0, false⟩, some ⟨v1, false⟩, none, none, none, none, none] h) := run_fin (d := ⟨7, 2, b26⟩) rfl rfl
theorem u27 {v0 v1 : Val} : run D (n + 1) 27 [v0, v1] h = fin (exSs (run D n) false [] b27 [some ⟨v0, false⟩, some ⟨v1, false⟩, none, none, none] h) := run_fin (d := ⟨5, 2, b27⟩) rfl rfl
theorem u28 {v0 v1 : Val} : run D (n + 1) 28 [v0, v1] h = fin (exSs (run D n) false [] b28 [some ⟨v0, false⟩, some ⟨v1, false⟩, none, none, none, none, none] h) := run_fin (d := ⟨7, 2, b28⟩) rfl rfl
theorem u29 {v0 : Val} : run D (n + 1) 29 [v0] h = fin (exSs (run D n) false [] b29 [some ⟨v0, false⟩, none, none, none, none, none, none, none, none, none, none, none, none, none] h) := run_fin (d := ⟨14, 1, b29⟩) rfl rfl
end
end Mi.K51
namespace Mi.K51
open PySem
theorem e0 (n : Nat) (x : PD) (h : Hx) : run D (n + 1) 0 [.d x] h = .ok (.d (.bool (isI x))) true h := by cases x <;> rfl
theorem e1 (n : Nat) (x : PD) (a b : Int) (h : Hx) : run D (n + 2) 1 [.d x, .d (.int a), .d (.int b)] h = .ok (.d (.bool (btw x a b))) true h := by
  cases x with
  | int i =>
    by_cases q : a ≤ i <;> simp [u1, b1, e0, isI, btw, cmpD, q]
  | _ => rfl
theorem e2 (n : Nat) (x : PD) (k : Int) (hw : wid x) (h : Hx) : run D (n + 2) 2 [.d x, .d (.int k)] h = .ok (.d (.bool (areI x k))) true h := by
  cases x with
  | tuple xs =>
    by_cases q : (xs.length : Int) = k
    · have g := ev_gen (F := run D (n + 1)) (lk := []) (g := .all) (own := [2]) (p := .var 2) (it := .val (.var 0)) (elt := .call 0 [.var 2]) (env := [some ⟨.d (.tuple xs), false⟩, some ⟨.d (.int k), false⟩, none]) (h := h) (xs := xs) (ln := []) (E := [some ⟨.d (.tuple xs), false⟩, some ⟨.d (.int k), false⟩, none]) isI rfl (blk0 rfl (hw _ rfl)) (by rw [frzI_nil]; rfl) fun x _ => ⟨_, _, _, rfl, by simp [e0]; exact ⟨rfl, rfl⟩, rfl, rfl⟩
      simp [u2, b2, areI, cmpD, q, eqD, biD, isTy, PyData.isTuple, g] 
    · simp [u2, b2, areI, cmpD, q, eqD, biD, isTy, PyData.isTuple]
  | _ => rfl
theorem e3 (n : Nat) (x : PD) (k : Int) (hw : wid x) (h : Hx) : run D (n + 3) 3 [.d x, .d (.int k)] h = .ok (.d (.bool (areN x k))) true h := by
  cases x with
  | tuple xs =>
    cases q : areI (.tuple xs) k with
    | true =>
      unfold areI at q
      simp only [Bool.and_eq_true, decide_eq_true_eq, List.all_eq_true] at q
      have g := ev_gen (F := run D (n + 2)) (lk := []) (g := .all) (own := [2]) (p := .var 2) (it := .val (.var 0)) (elt := .cmp .ge (.var 2) (.c (.int 0))) (env := [some ⟨.d (.tuple xs), false⟩, some ⟨.d (.int k), false⟩, none]) (h := h) (xs := xs) (ln := []) (E := [some ⟨.d (.tuple xs), false⟩, some ⟨.d (.int k), false⟩, none]) natI rfl (blk0 rfl (hw _ rfl)) (by rw [frzI_nil]; rfl) fun x hx => by
        obtain ⟨i, rfl⟩ := isI_ex (q.2 x hx)
        exact ⟨_, _, _, rfl, by simp; exact ⟨rfl, rfl⟩, rfl, rfl⟩
      have q' : areI (.tuple xs) k = true := by simp only [areI, Bool.and_eq_true, decide_eq_true_eq, List.all_eq_true]; exact q
      simp [u3, b3, e2 n _ _ hw, q', g, areN, q.1]
    | false =>
      have z : areN (.tuple xs) k = false := by
        unfold areI at q
        unfold areN
        by_cases q1 : (xs.length : Int) = k
        · simp only [q1, decide_true, Bool.true_and] at q ⊢
          rw [Bool.eq_false_iff] at q ⊢
          intro c
          apply q
          rw [List.all_eq_true] at c ⊢
          exact fun x hx => natI_isI (c x hx)
        · simp [q1]
      simp [u3, b3, e2 n _ _ hw, q, z]
  | _ => rfl
def kv (cs : List Int) (a d m t : Int) : List (Str × PD) := [("cells", .list (cs.map .int)), ("next", .int a), ("digits", .int d), ("seed", .int m), ("count", .int t)]
section
variable (cs : List Int) (a d m t x : Int)
theorem lk_cells : look "cells" (kv cs a d m t) = some (.list (cs.map .int)) := rfl
theorem lk_at : look "next" (kv cs a d m t) = some (.int a) := rfl
theorem lk_deep : look "digits" (kv cs a d m t) = some (.int d) := rfl
theorem lk_mix : look "seed" (kv cs a d m t) = some (.int m) := rfl
theorem lk_turn : look "count" (kv cs a d m t) = some (.int t) := rfl
theorem pt_at : put "next" (.int x) (kv cs a d m t) = kv cs x d m t := rfl
theorem pt_deep : put "digits" (.int x) (kv cs a d m t) = kv cs a x m t := rfl
theorem pt_mix : put "seed" (.int x) (kv cs a d m t) = kv cs a d x t := rfl
theorem pt_turn : put "count" (.int x) (kv cs a d m t) = kv cs a d m x := rfl
theorem kv_len : (kv cs a d m t).length = 5 := rfl
end
def Urn (h : Hx) : Prop := ∃ cs a d m t, h = [.dct (kv cs a d m t)] ∧ 0 ≤ a ∧ a ≤ (cs.length : Int) ∧ cs.length ≤ 1000 ∧ 0 ≤ d ∧ 0 ≤ m ∧ m < 2305843009213693951
abbrev v20 (k : Int) (s2 s3 s4 s5 : Option Slot) : Env := [bx, sI k, s2, s3, s4, s5]
section
variable (F : Fns) (k : Int) (cs : List Int) (a d m t : Int) (s2 s3 s4 s5 : Option Slot)
theorem dr0 (q : 0 < d) : exSs F false [] p20w0 (v20 k s2 s3 s4 s5) [.dct (kv cs a d m t)] = .ok .brk (v20 k s2 s3 s4 s5) [.dct (kv cs a d m t)] := by
  simp [p20w0, p20w0s0, ixV, lk_deep, q]
theorem dr1 (q : ¬ 0 < d) (c : Int) (h1 : L2.atI (cs.map PyData.int) a = some (.int c)) (big : (1000000000000000000 : Int) ≤ c) : exSs F false [] p20w0 (v20 k s2 s3 s4 s5) [.dct (kv cs a d m t)] = .ok .next (v20 k s2 s3 (sI c) s5) [.dct (kv cs (a + 1) (c - 1000000000000000000 + 1) m t)] := by
  simp [p20w0, p20w0s0, p20w0t1, p20w0s1, p20w0t2, p20w0s2, p20w0t3, p20w0s3, ixV, lk_at, lk_deep, lk_cells, lk_mix, q, h1, Mi.bound, ixW, augD, setIxV, pt_at, pt_deep, kv_len, noL, pow18, big]
theorem dr2 (q : ¬ 0 < d) (c : Int) (h1 : L2.atI (cs.map PyData.int) a = some (.int c)) (big : ¬ (1000000000000000000 : Int) ≤ c) : exSs F false [] p20w0 (v20 k s2 s3 s4 s5) [.dct (kv cs a d m t)] = .ok .next (v20 k s2 s3 (sI c) s5) [.dct (kv cs (a + 1) d ((m * 1009 + c * 31 + 7).fmod 2305843009213693951) t)] := by
  simp [p20w0, p20w0s0, p20w0t1, p20w0s1, p20w0t2, p20w0s2, p20w0t3, p20w0s3, ixV, lk_at, lk_deep, lk_cells, lk_mix, q, h1, Mi.bound, ixW, augD, setIxV, pt_at, pt_mix, kv_len, noL, pow18, big, binMulR m 1009 (by decide +kernel), binMulR c 31 (by decide +kernel), binMod]
end
theorem drL (F : Fns) (k : Int) (s3 s5 : Option Slot) : ∀ (xs : List PD) (cs : List Int) (a d m t : Int) (s2 s4 : Option Slot), 0 ≤ a → a + xs.length ≤ (cs.length : Int) → cs.length ≤ 1000 → 0 ≤ d → 0 ≤ m → m < 2305843009213693951 → ∃ t2 t4 h', frL (.var 2) (exSs F false [] p20w0) xs (v20 k s2 s3 s4 s5) [.dct (kv cs a d m t)] = .ok .next (v20 k t2 s3 t4 s5) h' ∧ Urn h'
  | [], cs, a, d, m, t, s2, s4, h1, h2, h3, h4, h5, h6 => ⟨s2, s4, _, rfl, cs, a, d, m, t, rfl, h1, by simpa using h2, h3, h4, h5, h6⟩
  | x :: r, cs, a, d, m, t, s2, s4, h1, h2, h3, h4, h5, h6 => by
    have l2 : a + (r.length + 1) ≤ (cs.length : Int) := by simpa using h2
    by_cases q : 0 < d
    · exact ⟨sD x, s4, _, frL_brk (env1 := v20 k (sD x) s3 s4 s5) rfl (dr0 F k cs a d m t (sD x) s3 s4 s5 q), cs, a, d, m, t, rfl, h1, by omega, h3, h4, h5, h6⟩
    · obtain ⟨c, hc⟩ : ∃ c, cs[a.toNat]? = some c := ⟨cs[a.toNat]'(by omega), List.getElem?_eq_getElem (by omega)⟩
      have hat : L2.atI (cs.map PyData.int) a = some (.int c) := by
        have e : a = ((a.toNat : Nat) : Int) := by omega
        rw [e]
        exact at_nat _ _ _ (by rw [List.getElem?_map, hc]; rfl)
      by_cases big : (1000000000000000000 : Int) ≤ c
      · obtain ⟨t2, t4, h', e, u⟩ := drL F k s3 s5 r cs (a + 1) (c - 1000000000000000000 + 1) m t (sD x) (sI c) (by omega) (by omega) h3 (by omega) h5 h6
        exact ⟨t2, t4, h', (frL_cons (env1 := v20 k (sD x) s3 s4 s5) rfl (dr1 F k cs a d m t (sD x) s3 s4 s5 q c hat big)).trans e, u⟩
      · obtain ⟨t2, t4, h', e, u⟩ := drL F k s3 s5 r cs (a + 1) d ((m * 1009 + c * 31 + 7).fmod 2305843009213693951) t (sD x) (sI c) (by omega) (by omega) h3 h4 (fmod_lo _ (by omega)) (fmod_hi _ (by omega))
        exact ⟨t2, t4, h', (frL_cons (env1 := v20 k (sD x) s3 s4 s5) rfl (dr2 F k cs a d m t (sD x) s3 s4 s5 q c hat big)).trans e, u⟩
theorem pickA (F : Fns) (k : Int) (h : Hx) (u : Urn h) : ∃ t2 t4 h', exS F false [] p20s0 (v20 k none none none none) h = .ok .next (v20 k t2 none t4 none) h' ∧ Urn h' := by
  obtain ⟨cs, a, d, m, t, rfl, h1, h2, h3, h4, h5, h6⟩ := u
  obtain ⟨j, hj⟩ : ∃ j : Nat, (cs.length : Int) - a = j := ⟨((cs.length : Int) - a).toNat, by omega⟩
  have it : evi F [] (.rng1 (.bin .sub (.bi .len [.ix (.var 0) (.c (.str "cells"))]) (.ix (.var 0) (.c (.str "next"))))) (v20 k none none none none) [.dct (kv cs a d m t)] = .ok (rngD 0 (j : Int), []) (v20 k none none none none) [.dct (kv cs a d m t)] := by
    refine rng1_ok (fr := true) (ln := []) ?_ (rngOk_nat (by omega))
    rw [← hj]
    simp [ixV, lk_cells, lk_at]
  obtain ⟨t2, t4, h', e, u⟩ := drL F k none none (rngD 0 (j : Int)) cs a d m t none none h1 (by rw [rng0, List.length_map, List.length_range]; omega) h3 h4 h5 h6
  exact ⟨t2, t4, h', for0 it e, u⟩
theorem pickB (F : Fns) (k : Int) (hk : 1 ≤ k) (hs : k.natAbs.log2 < 9000) (s2 s4 : Option Slot) (h : Hx) (u : Urn h) : ∃ r fr h', fin (exSs F false [] p20t1 (v20 k s2 none s4 none) h) = .ok (.d (.int r)) fr h' ∧ 0 ≤ r ∧ r < k ∧ Urn h' := by
  obtain ⟨cs, a, d, m, t, rfl, h1, h2, h3, h4, h5, h6⟩ := u
  have hk0 : k ≠ 0 := by omega
  by_cases q1 : 0 < d
  · refine ⟨d.fmod k, false, [.dct (kv cs a (d.fdiv k) m t)], ?_, fmod_lo _ (by omega), fmod_hi _ (by omega), _, _, _, _, _, rfl, h1, h2, h3, fdiv_nn h4 (by omega), h5, h6⟩
    simp [p20t1, p20s1, ixV, lk_at, lk_deep, lk_cells, lk_mix, q1, Mi.bound, ixW, augD, setIxV, lk_turn, pt_at, pt_deep, pt_mix, kv_len, noL, binMod _ _ hk0, binDiv _ _ hk0 hs]
  · generalize hm : (m * 6364136223846793 + 1442695040888963 * (t + 1) + 11).fmod 2305843009213693951 = m2
    have l2 : 0 ≤ m2 := hm ▸ fmod_lo _ (by omega)
    have g2 : m2 < 2305843009213693951 := hm ▸ fmod_hi _ (by omega)
    have s2' : sm 64 m2 = true := decide_eq_true (by omega)
    refine ⟨((((m2 * m2).fdiv 1000003 + m2.fdiv 17).fmod 9007199254740881).fdiv 13).fmod k, true, [.dct (kv cs a d m2 (t + 1))], ?_, fmod_lo _ (by omega), fmod_hi _ (by omega), _, _, _, _, _, rfl, h1, h2, h3, h4, l2, g2⟩
    simp [p20t1, p20s1, p20t2, p20s2, p20t3, p20s3, p20t4, p20s4, p20t5, p20s5, ixV, lk_at, lk_deep, lk_cells, lk_mix, q1, Mi.bound, ixW, augD, setIxV, lk_turn, pt_at, pt_deep, pt_mix, pt_turn, kv_len, noL, binMulR m 6364136223846793 (by decide +kernel), binMulL 1442695040888963 (t + 1) (by decide +kernel), binMulL m2 m2 s2', binMod, binMod _ _ hk0, binDiv _ 1000003 (by decide) (by decide +kernel), binDiv _ 17 (by decide) (by decide +kernel), binDiv _ 13 (by decide) (by decide +kernel), hm]
theorem pick (n : Nat) (k : Int) (hk : 1 ≤ k) (hs : k.natAbs.log2 < 9000) {h : Hx} (u : Urn h) : ∃ r fr h', run D (n + 1) 20 [.box 0, .d (.int k)] h = .ok (.d (.int r)) fr h' ∧ 0 ≤ r ∧ r < k ∧ Urn h' := by
  obtain ⟨t2, t4, h1, e1, u1⟩ := pickA (run D n) k h u
  obtain ⟨r, fr, h', e2, p1, p2, u2⟩ := pickB (run D n) k hk hs t2 t4 h1 u1
  refine ⟨r, fr, h', ?_, p1, p2, u2⟩
  rw [u20, bp20]
  show fin (exSs (run D n) false [] (p20s0 :: p20t1) (v20 k none none none none) h) = _
  rw [ss_next e1, e2]
theorem e18 (n : Nat) (ns : List Int) (hl : ns.length ≤ 1000) (h : Hx) : run D (n + 1) 19 [.scr ns] h = .ok (.dct (kv ns 0 0 1709 0)) true h := by
  have hd : (["cells", "next", "digits", "seed", "count"] : List Str).Nodup := by decide
  rw [u19, bp19]
  generalize run D n = F
  have g : ev F [] x19_0 [some ⟨.scr ns, false⟩, none] h = .ok ⟨.d (.list (ns.map .int)), true, []⟩ [some ⟨.scr ns, false⟩, none] h := by
    refine lcW (env1 := [some ⟨.scr ns, false⟩, none]) (E := [some ⟨.scr ns, false⟩, none]) (xs := ns.map .int) (ln := []) id (by simp) (blk0 rfl (by rw [List.length_map]; exact Nat.le_trans hl (by decide))) (by rw [frzI_nil]; rfl) (fun x hx => ?_) (by simp) (by rw [frzI_nil]; rfl)
    obtain ⟨i, _, rfl⟩ := mem_ints hx
    exact ⟨[some ⟨.scr ns, false⟩, sI i], true, rfl, by simp, rfl⟩
  have e : p19 = [.retD ["cells", "next", "digits", "seed", "count"] [x19_0, .c (.int 0), .c (.int 0), .c (.int 1709), .c (.int 0)]] := rfl
  rw [e]
  generalize x19_0 = X at g ⊢
  simp [hd, g]
  rfl
end Mi.K51
namespace Mi.K51
open PySem Mi.Sk
/-! _law_like -/
theorem e20i (n : Nat) (i : Int) (h : Hx) : run D (n + 1) 21 [.d (.int i), .d (.int i)] h = .ok (.d (.bool true)) true h := by
  rw [u21]
  generalize run D n = F
  simp [b21, cmpD, isTy, PyData.isInt, PyData.isBool, PyData.isStr, PyData.isTuple, PyData.isList, isN, eqD]
theorem e20b (n : Nat) (b : Bool) (h : Hx) : run D (n + 1) 21 [.d (.bool b), .d (.bool b)] h = .ok (.d (.bool true)) true h := by
  rw [u21]
  generalize run D n = F
  cases b <;> rfl
theorem e20n (n : Nat) (h : Hx) : run D (n + 1) 21 [.d .none, .d .none] h = .ok (.d (.bool true)) true h := by
  rw [u21]
  generalize run D n = F
  rfl
theorem e20str (n : Nat) (s : Str) (h : Hx) : run D (n + 1) 21 [.d (.str s), .d (.str s)] h = .ok (.d (.bool true)) true h := by
  rw [u21]
  generalize run D n = F
  have z1 : cmpD .is (.str s) .none = some false := rfl
  have z2 : cmpD .eq (.bool false) (.bool false) = some true := rfl
  have z3 : cmpD .eq (.bool true) (.bool true) = some true := rfl
  simp [b21, z1, z2, z3, isTy, PyData.isBool, PyData.isInt, PyData.isStr, PyData.isTuple, PyData.isList]
theorem e20lc (F : Fns) (v : PD) (xs : List PD) (hv : v = .tuple xs ∨ v = .list xs) (hl : xs.length ≤ 1000) (h : Hx) (H : ∀ x ∈ xs, F 21 [.d x, .d x] h = .ok (.d (.bool true)) true h) :
    ev F [] (.lc [2] (.var 2) (.rng1 (.bi .len [.var 1])) (.c (.bool true)) (.call 21 [.ix (.var 0) (.var 2), .ix (.var 1) (.var 2)])) [sD v, sD v, none] h = .ok ⟨.d (.list ((rngD 0 (xs.length : Nat)).map fun _ => PyData.bool true)), true, []⟩ [sD v, sD v, none] h := by
  refine lcB (env1 := [sD v, sD v, none]) (E := [sD v, sD v, none]) (ln := []) (fun _ => PyData.bool true) (rng1_ok (j := (xs.length : Nat)) (fr := true) (ln := []) (by rcases hv with rfl | rfl <;> simp) (rngOk_nat (by omega))) (blk0 rfl (by rw [rng0, List.length_map, List.length_range]; exact Nat.le_trans hl (by decide))) (by rw [frzI_nil]; rfl) (fun x hx => ?_) rfl (by rw [frzI_nil]; rfl)
  rw [rng0] at hx
  obtain ⟨i, hi, rfl⟩ := List.mem_map.mp hx
  rw [List.mem_range] at hi
  have a : L2.atI xs (i : Int) = some (xs[i]'hi) := at_nat xs i _ (List.getElem?_eq_getElem hi)
  have c := H (xs[i]'hi) (List.getElem_mem hi)
  exact ⟨[sD v, sD v, sI i], ⟨.d (.bool true), true, []⟩, [sD v, sD v, sI i], rfl, by rcases hv with rfl | rfl <;> simp [ixV, a, c], rfl, rfl⟩
section
variable (F : Fns) (h : Hx) (xs : List PD) (X : MX) (ys : List PD)
theorem tl0 (rest : List MS) (at' : biD .all [.list ys] = some (.bool true, true)) (g : ev F [] X [sD (.tuple xs), sD (.tuple xs), none] h = .ok ⟨.d (.list ys), true, []⟩ [sD (.tuple xs), sD (.tuple xs), none] h) : fin (exSs F false [] (.ite (.bi (.isi .tuple) [.var 1]) [.ret (.and (.bi (.isi .tuple) [.var 0]) (.and (.cmp .eq (.bi .len [.var 0]) (.bi .len [.var 1])) (.bi .all [X])))] [] :: rest) [sD (.tuple xs), sD (.tuple xs), none] h) = .ok (.d (.bool true)) true h := by simp [g, at']
theorem tl1 (rest : List MS) (at' : biD .all [.list ys] = some (.bool true, true)) (g : ev F [] X [sD (.list xs), sD (.list xs), none] h = .ok ⟨.d (.list ys), true, []⟩ [sD (.list xs), sD (.list xs), none] h) : fin (exSs F false [] (.ite (.bi (.isi .list) [.var 1]) [.ret (.and (.bi (.isi .list) [.var 0]) (.and (.cmp .eq (.bi .len [.var 0]) (.bi .len [.var 1])) (.bi .all [X])))] [] :: rest) [sD (.list xs), sD (.list xs), none] h) = .ok (.d (.bool true)) true h := by simp [g, at']
theorem tl2 : exS F false [] p21s0 [sD (.list xs), sD (.list xs), none] h = .ok .next [sD (.list xs), sD (.list xs), none] h := by
  show exS F false [] (.ite (.bi (.isi .tuple) [.var 1]) [.ret (.and (.bi (.isi .tuple) [.var 0]) (.and (.cmp .eq (.bi .len [.var 0]) (.bi .len [.var 1])) (.bi .all [x21_0])))] []) _ h = _
  generalize x21_0 = X
  simp
end
theorem e20s (n : Nat) (v : PD) (xs : List PD) (hv : v = .tuple xs ∨ v = .list xs) (hl : xs.length ≤ 1000) (h : Hx) (H : ∀ x ∈ xs, run D (n + 1) 21 [.d x, .d x] h = .ok (.d (.bool true)) true h) : run D (n + 2) 21 [.d v, .d v] h = .ok (.d (.bool true)) true h := by
  rw [u21, bp21]
  generalize run D (n + 1) = F at H ⊢
  have g := e20lc F v xs hv hl h H
  rw [all_len] at g
  rcases hv with rfl | rfl
  · exact tl0 F h xs x21_0 _ p21t1 (all_true _) g
  · exact (congrArg fin (ss_next (tl2 F h xs))).trans (tl1 F h xs x21_1 _ p21t2 (all_true _) g)
theorem same_td (h : Hx) : ∀ (d : Nat) (x : PD) (n : Nat), td d x = true → run D (n + d + 1) 21 [.d x, .d x] h = .ok (.d (.bool true)) true h
  | d, .none, n, _ => e20n (n + d) h
  | d, .bool b, n, _ => e20b (n + d) b h
  | d, .int i, n, _ => e20i (n + d) i h
  | d, .str s, n, _ => e20str (n + d) s h
  | 0, .list xs, _, t => by simp [td] at t
  | 0, .tuple xs, _, t => by simp [td] at t
  | 0, .dict xs, _, t => by simp [td] at t
  | d + 1, .dict xs, _, t => by simp [td] at t
  | d + 1, .list xs, n, t => by
    have hs : xs.length ≤ 1000 ∧ ∀ x ∈ xs, td d x = true := by simpa [td] using t
    exact e20s (n + d) _ xs (.inr rfl) (by omega) h fun x hx => same_td h d x n (hs.2 x hx)
  | d + 1, .tuple xs, n, t => by
    have hs : xs.length ≤ 1000 ∧ ∀ x ∈ xs, td d x = true := by simpa [td] using t
    exact e20s (n + d) _ xs (.inl rfl) (by omega) h fun x hx => same_td h d x n (hs.2 x hx)
/-! is_ascending -/
theorem e4 {α : Type} [Inhabited α] {f : α → PD} (ok : RwOk f) (n : Nat) (rs : List α) (hl : rs.length ≤ 1000) (h : Hx) : run D (n + 1) 4 [.d (.tuple (rs.map f))] h = .ok (.d (.bool (ascR f rs))) true h := by
  rw [u4, bp4]
  generalize run D n = F
  have z := asc_gen ok (F := F) rs hl h
  exact congrArg fin (ss_ret (exS_ret_ z rfl))
/-! deeds and rules -/
structure Dd where
  pl : Nat
  la : List Int
  deriving DecidableEq
instance : Inhabited Dd := ⟨⟨0, []⟩⟩
abbrev dT (d : Dd) : PD := .tuple [.int d.pl, iT d.la]
theorem dT_ok : RwOk dT where
  row := fun a => by
    show (keyD (.int a.pl) && (keyDs (a.la.map .int) && true)) = true
    rw [keyDs_ints]; rfl
  dp := fun a => by
    show max (PyData.depth (.int a.pl)) (max (PyData.depthAll (a.la.map .int) + 1) 0) + 1 ≤ 8
    rw [depthI_ints]
    show max 0 (max (0 + 1) 0) + 1 ≤ 8
    decide
  al := fun a b => by
    show (W.alike (.int a.pl) (.int b.pl) && (W.alikeAll (a.la.map .int) (b.la.map .int) && W.alikeAll [] [])) = true
    rw [W.alike_ints]
    rfl
  inj := fun a b h => by
    cases a
    cases b
    simp only [PyData.tuple.injEq, List.cons.injEq, PyData.int.injEq, and_true] at h
    obtain ⟨h1, h2⟩ := h
    rw [show _ = _ from Int.ofNat.inj h1, int_inj h2]
structure Ru where
  nm : Nat
  le : List Int
  bg : List Int
  deriving DecidableEq
instance : Inhabited Ru := ⟨⟨0, [], []⟩⟩
abbrev ruT (r : Ru) : PD := .tuple [.int r.nm, iT r.le, iT r.bg]
theorem ruT_ok : RwOk ruT where
  row := fun r => by
    show (keyD (.int r.nm) && (keyDs (r.le.map .int) && (keyDs (r.bg.map .int) && true))) = true
    rw [keyDs_ints, keyDs_ints]; rfl
  dp := fun a => by
    show max (PyData.depth (.int a.nm)) (max (PyData.depthAll (a.le.map .int) + 1) (max (PyData.depthAll (a.bg.map .int) + 1) 0)) + 1 ≤ 8
    rw [depthI_ints, depthI_ints]
    show max 0 (max (0 + 1) (max (0 + 1) 0)) + 1 ≤ 8
    decide
  al := fun a b => by
    show (W.alike (.int a.nm) (.int b.nm) && (W.alikeAll (a.le.map .int) (b.le.map .int) && (W.alikeAll (a.bg.map .int) (b.bg.map .int) && W.alikeAll [] []))) = true
    rw [W.alike_ints, W.alike_ints]
    rfl
  inj := fun a b h => by
    cases a
    cases b
    simp only [PyData.tuple.injEq, List.cons.injEq, PyData.int.injEq, and_true] at h
    obtain ⟨h1, h2, h3⟩ := h
    rw [show _ = _ from Int.ofNat.inj h1, int_inj h2, int_inj h3]
/-- small naturals -/
def Nats (n : Nat) (xs : List Int) : Prop := xs.length = n ∧ ∀ x ∈ xs, 0 ≤ x ∧ x ≤ 15
end Mi.K51
namespace Mi.K51
open PySem Mi.Sk
theorem ixN_nat {n j : Nat} (h : j < n) : L2.ixN n (j : Int) = some j := by
  unfold L2.ixN
  rw [if_pos (by omega), if_pos (by omega)]
  simp
theorem g_set {E : List Int} {a s : Nat} {t : Int} (h : s < E.length) : g (E.set a t) s = if a = s then t else g E s := by
  unfold g
  rw [List.getD_eq_getElem?_getD, List.getElem?_set, List.getD_eq_getElem?_getD]
  by_cases q : a = s
  · subst q; simp [h]
  · simp [q]
theorem g_mem {E : List Int} {s : Nat} (h : s < E.length) : g E s ∈ E := by
  unfold g
  rw [List.getD_eq_getElem?_getD, List.getElem?_eq_getElem h]
  exact List.getElem_mem h
theorem mem_set_bd {E : List Int} {a : Nat} {t B : Int} (h : ∀ x ∈ E, 0 ≤ x ∧ x ≤ B) (h0 : 0 ≤ t) (h1 : t ≤ B + 1) : ∀ x ∈ E.set a t, 0 ≤ x ∧ x ≤ B + 1 := fun x hx => by
  rcases List.mem_or_eq_of_mem_set hx with q | q
  · have := h x q; omega
  · omega
/-! _law_tally -/
theorem x21 (F : Fns) (h h' : Hx) (N M : Int) (E : List PD) (s4 : Option Slot) (j : Nat) (x : Int) (fr : Bool) (e : F 20 [.box 0, .d (.int N)] h = .ok (.d (.int (j : Nat))) fr h') (ix : L2.ixN E.length (j : Int) = some j) (at' : L2.atI E (j : Int) = some (.int x)) : exS F false [] (.augIx 3 (.call 20 [.var 0, .var 1]) .add (.c (.int 1))) [bx, sI N, sI M, sO E, s4] h = .ok .next [bx, sI N, sI M, sO (E.set j (.int (x + 1))), s4] h' := by
  simp [Mi.bound, e, ixW, at', augD, setIxV, ix]
theorem e24 (m n : Nat) (n1 : 1 ≤ n) (n4 : n ≤ 4) (t : Nat) (hm : t ≤ 10) (h : Hx) (u : Urn h) : ∃ xs h', run D (m + 2) 24 [.box 0, .d (.int n), .d (.int t)] h = .ok (.d (iT xs)) true h' ∧ xs.length = n ∧ (∀ x ∈ xs, 0 ≤ x ∧ x ≤ t) ∧ Urn h' := by
  have s1 : exS (run D (m + 1)) false [] p24s0 [bx, sI n, sI t, none, none] h = .ok .next [bx, sI n, sI t, sO ((List.replicate n 0).map .int), none] h := by
    have z := rep_ints 0 n (by omega)
    generalize (List.replicate n (0 : Int)).map PyData.int = L at z ⊢
    generalize (n : Int) = N at z ⊢
    generalize run D (m + 1) = F
    simp [p24s0, z]
  have it : evi (run D (m + 1)) [] (.rng1 (.var 2)) [bx, sI n, sI t, sO ((List.replicate n 0).map .int), none] h = .ok (rngD 0 (t : Int), []) [bx, sI n, sI t, sO ((List.replicate n 0).map .int), none] h := by
    refine rng1_ok (fr := false) (ln := []) ?_ (rngOk_nat (by omega))
    generalize run D (m + 1) = F
    simp
  obtain ⟨env', h', e, E, s4, rfl, el, eb, u'⟩ := frL_inv (p := .var 4) (body := exSs (run D (m + 1)) false [] p24w1)
    (fun rest env h => ∃ E s4 B, env = [bx, sI n, sI t, sO (E.map .int), s4] ∧ E.length = n ∧ (∀ x ∈ E, 0 ≤ x ∧ x ≤ (B : Int)) ∧ B + rest.length = t ∧ Urn h)
    (Fin := fun env h => ∃ E s4, env = [bx, sI n, sI t, sO (E.map .int), s4] ∧ E.length = n ∧ (∀ x ∈ E, 0 ≤ x ∧ x ≤ (t : Int)) ∧ Urn h)
    (fun env h ⟨E, s4, B, e1, e2, e3, e4, e5⟩ => ⟨E, s4, e1, e2, fun x hx => by have := e3 x hx; simp at e4; omega, e5⟩)
    (fun x r env h ⟨E, s4, B, e1, e2, e3, e4, e5⟩ => by
      subst e1
      obtain ⟨j0, f2, h2, p2, j1, j2, u2⟩ := pick m (n : Int) (by omega) (log_small (by omega) (by omega)) e5
      obtain ⟨j, rfl⟩ : ∃ j : Nat, j0 = j := ⟨j0.toNat, by omega⟩
      have lj : j < E.length := by omega
      have gm := e3 _ (g_mem lj)
      have es : (E.map PyData.int).set j (.int (g E j + 1)) = (E.set j (g E j + 1)).map .int := List.map_set.symm
      have q := x21 (run D (m + 1)) h h2 n t (E.map .int) (sD x) j (g E j) f2 p2 (by rw [List.length_map]; exact ixN_nat lj) (at_ints lj)
      rw [es] at q
      refine ⟨_, rfl, .inl ⟨_, h2, ss_one q, E.set j (g E j + 1), sD x, B + 1, rfl, by rw [List.length_set]; exact e2, ?_, by simp at e4 ⊢; omega, u2⟩⟩
      have z := mem_set_bd (a := j) (t := g E j + 1) e3 (by omega) (by omega)
      intro y hy
      have := z y hy
      omega) (xs := rngD 0 (t : Int)) (env := [bx, sI n, sI t, sO ((List.replicate n 0).map .int), none]) (h := h) ⟨List.replicate n 0, none, 0, rfl, by simp, fun x hx => by rw [(List.mem_replicate.mp hx).2]; decide, by rw [rng0]; simp, u⟩
  refine ⟨E, h', ?_, el, fun x hx => by have := eb x hx; omega, u'⟩
  rw [u24, bp24]
  refine (congrArg fin ((ss_next s1).trans (ss_next (for0 it e)))).trans ?_
  have nl := noLs_ints E
  generalize run D (m + 1) = F
  simp [p24s2, p24t2, nl]
/-! sums, units -/
def unitL (k p : Nat) : List Int := tab k fun i => if i = p then 1 else 0
def addL (a b : List Int) (c : Int) : List Int := tab a.length fun i => g a i + c * g b i
theorem intEq (i j : Int) : biD .int [.bool (decide (i = j))] = some (.int (if i = j then 1 else 0), true) := by by_cases q : i = j <;> simp [q] <;> rfl
theorem elU (F : Fns) (h : Hx) (k p i : Int) (lk : List Nat) : ev F lk (.bi .int [.cmp .eq (.var 2) (.var 1)]) [sI k, sI p, sI i] h = .ok ⟨.d (.int (if i = p then 1 else 0)), true, []⟩ [sI k, sI p, sI i] h := by
  simp [intEq]
theorem lcU (F : Fns) (h : Hx) (k p : Nat) (hk : k ≤ 1000) : ev F [] (.lc [2] (.var 2) (.rng1 (.var 0)) (.c (.bool true)) (.bi .int [.cmp .eq (.var 2) (.var 1)])) [sI k, sI p, none] h = .ok ⟨.d (.list ((unitL k p).map .int)), true, []⟩ [sI k, sI p, none] h := by
  refine lcR (N := k) (fr := false) (E := [sI k, sI p, none]) (fun i => .int (if i = p then 1 else 0)) (by simp) hk rfl rfl rfl (fun _ => rfl) (fun i hi => ⟨true, ?_⟩) ?_ rfl
  · have := elU F h k p i ([2] ++ [])
    have e : (if (i : Int) = (p : Int) then (1 : Int) else 0) = if i = p then 1 else 0 := by
      by_cases q : i = p
      · rw [if_pos q, if_pos (by rw [q])]
      · rw [if_neg q, if_neg (by omega)]
    rw [e] at this
    exact this
  · rw [unitL, tab_map]
theorem e23 (m k p : Nat) (hk : k ≤ 1000) (h : Hx) : run D (m + 1) 23 [.d (.int k), .d (.int p)] h = .ok (.d (iT (unitL k p))) true h := by
  rw [u23, bp23]
  have g := lcU (run D m) h k p hk
  have nl := noLs_ints (unitL k p)
  unfold iT
  generalize run D m = F at g ⊢
  generalize (unitL k p).map PyData.int = L at g nl ⊢
  show fin (exSs F false [] [.ret (.bi .tuple [.lc [2] (.var 2) (.rng1 (.var 0)) (.c (.bool true)) (.bi .int [.cmp .eq (.var 2) (.var 1)])])] _ h) = _
  generalize MX.lc _ _ _ _ _ = X at g ⊢
  simp [g, nl]
theorem e16 (m k p : Nat) (hk : k ≤ 1000) (h : Hx) : run D (m + 1) 16 [.d (.int k), .d (.int p)] h = .ok (.d (iT (unitL k p))) true h := by
  rw [u16, bp16]
  have g := lcU (run D m) h k p hk
  have nl := noLs_ints (unitL k p)
  unfold iT
  generalize run D m = F at g ⊢
  generalize (unitL k p).map PyData.int = L at g nl ⊢
  show fin (exSs F false [] [.ret (.bi .tuple [.lc [2] (.var 2) (.rng1 (.var 0)) (.c (.bool true)) (.bi .int [.cmp .eq (.var 2) (.var 1)])])] _ h) = _
  generalize MX.lc _ _ _ _ _ = X at g ⊢
  simp [g, nl]
theorem elS (F : Fns) (h : Hx) (A B : List PD) (c i x y : Int) (lk : List Nat) (ha : L2.atI A i = some (.int x)) (hb : L2.atI B i = some (.int y)) (hc : sm 64 c = true) : ev F lk (.bin .add (.ix (.var 0) (.var 3)) (.bin .mul (.var 2) (.ix (.var 1) (.var 3)))) [sD (.tuple A), sD (.tuple B), sI c, sI i] h = .ok ⟨.d (.int (x + c * y)), true, []⟩ [sD (.tuple A), sD (.tuple B), sI c, sI i] h := by
  simp [ha, hb, binMulL c y hc]
theorem e22 (m : Nat) (a b : List Int) (c : Int) (hc : sm 64 c = true) (la : a.length ≤ 1000) (hl : a.length = b.length) (h : Hx) : run D (m + 1) 22 [.d (iT a), .d (iT b), .d (.int c)] h = .ok (.d (iT (addL a b c))) true h := by
  rw [u22, bp22]
  have z : ev (run D m) [] x22_0 [sD (iT a), sD (iT b), sI c, none] h = .ok ⟨.d (.list ((addL a b c).map .int)), true, []⟩ [sD (iT a), sD (iT b), sI c, none] h := by
    refine lcR (N := a.length) (fr := true) (E := [sD (iT a), sD (iT b), sI c, none]) (fun i => .int (g a i + c * g b i)) (by simp) la rfl rfl rfl (fun _ => rfl) (fun i hi => ⟨true, ?_⟩) ?_ rfl
    · exact elS (run D m) h _ _ c i _ _ _ (at_ints hi) (at_ints (by omega)) hc
    · rw [addL, tab_map]
  have nl := noLs_ints (addL a b c)
  unfold iT at z ⊢
  generalize run D m = F at z ⊢
  generalize (addL a b c).map PyData.int = L at z nl ⊢
  show fin (exSs F false [] [.ret (.bi .tuple [x22_0])] _ h) = _
  generalize x22_0 = X at z ⊢
  simp [z, nl]
end Mi.K51
namespace Mi.K51
open PySem Mi.Sk
theorem wid_iT {xs : List Int} (h : xs.length ≤ 1000) : wid (iT xs) := wid_of (by rw [List.length_map]; exact h)
theorem areN_ok {n : Nat} {xs : List Int} (h : xs.length = n) (h2 : ∀ x ∈ xs, 0 ≤ x) : areN (iT xs) n = true := by
  simp only [areN, List.length_map, h, decide_true, Bool.true_and, List.all_eq_true]
  intro x hx
  obtain ⟨i, hi, rfl⟩ := mem_ints hx
  exact decide_eq_true (h2 i hi)
theorem tm_nats {n : Nat} {xs : List Int} (h : Nats n xs) (hn : n ≤ 10) : tm 1 (iT xs) = true := (tm_seq (d := 0) (by rw [List.length_map]; rw [h.1]; exact hn) fun x hx => by
  obtain ⟨i, hi, rfl⟩ := mem_ints hx
  have := h.2 i hi
  exact decide_eq_true (by omega)).1
/-! is_rule, is_grammar of any small value -/
def isRu (k n : Int) : PD → Bool | .tuple [a, b, c] => btw a 0 (n - 1) && (areN b k && areN c n) | _ => false
theorem tm_wid {d : Nat} {x : PD} (h : tm (d + 1) x = true) : wid x := fun xs e => by
  subst e
  have z : xs.length ≤ 10 ∧ ∀ x ∈ xs, tm d x = true := by simpa [tm] using h
  exact Nat.le_trans z.1 (by decide)
theorem tm_in {d : Nat} {xs : List PD} (h : tm (d + 1) (.tuple xs) = true) : xs.length ≤ 10 ∧ ∀ x ∈ xs, tm d x = true := by simpa [tm] using h
theorem tup_or (x : PD) : isTy .tuple x = false ∨ ∃ xs, x = .tuple xs := by
  cases x <;> first | exact .inl rfl | exact .inr ⟨_, rfl⟩
theorem three_or (xs : List PD) : (∃ a b c, xs = [a, b, c]) ∨ (¬ (xs.length : Int) = 3 ∧ ∀ k n, isRu k n (.tuple xs) = false) := by
  rcases xs with _ | ⟨a, _ | ⟨b, _ | ⟨c, _ | ⟨d, r⟩⟩⟩⟩
  · exact .inr ⟨by simp, fun _ _ => rfl⟩
  · exact .inr ⟨by simp, fun _ _ => rfl⟩
  · exact .inr ⟨by simp, fun _ _ => rfl⟩
  · exact .inl ⟨a, b, c, rfl⟩
  · exact .inr ⟨by simp; omega, fun _ _ => rfl⟩
section
variable (F : Fns) (h : Hx)
theorem x5a (k n : Int) (x : PD) (t : isTy .tuple x = false) : fin (exSs F false [] b5 [sI k, sI n, sD x] h) = .ok (.d (.bool false)) false h := by simp [b5, t]
theorem x5b (k n : Int) (xs : List PD) (t : ¬ (xs.length : Int) = 3) : fin (exSs F false [] b5 [sI k, sI n, tpS xs] h) = .ok (.d (.bool false)) false h := by simp [b5, isTy, PyData.isTuple, t]
theorem x5c (k n : Int) (a b c : PD) (p q r : Bool) (e1 : F 1 [.d a, .d (.int 0), .d (.int (n - 1))] h = .ok (.d (.bool p)) true h) (e2 : F 3 [.d b, .d (.int k)] h = .ok (.d (.bool q)) true h) (e3 : F 3 [.d c, .d (.int n)] h = .ok (.d (.bool r)) true h) : fin (exSs F false [] b5 [sI k, sI n, tpS [a, b, c]] h) = .ok (.d (.bool (p && (q && r)))) true h := by
  have l1 : ∀ ln, lnOf (.d a) false ln = lnOf (.d a) false ln := fun _ => rfl
  cases p <;> cases q <;> simp [b5, isTy, PyData.isTuple, ixV, e1, e2, e3]
end
theorem e5 (m : Nat) (k n : Int) (x : PD) (hx : tm 2 x = true) (h : Hx) : ∃ fr, run D (m + 4) 5 [.d (.int k), .d (.int n), .d x] h = .ok (.d (.bool (isRu k n x))) fr h := by
  rw [u5]
  rcases tup_or x with t | ⟨xs, rfl⟩
  · have z : isRu k n x = false := by
      cases x <;> first | rfl | (simp [isTy, PyData.isTuple] at t)
    rw [z]
    exact ⟨_, x5a _ h k n x t⟩
  · rcases three_or xs with ⟨a, b, c, rfl⟩ | ⟨t, z⟩
    · have q := (tm_in hx).2
      exact ⟨_, x5c _ h k n a b c _ _ _ (e1 (m + 1) a 0 (n - 1) h) (e3 m b k (tm_wid (q b (by simp))) h) (e3 m c n (tm_wid (q c (by simp))) h)⟩
    · rw [z]
      exact ⟨_, x5b _ h k n xs t⟩
abbrev e6v (g s1 s2 s3 s4 : Option Slot) : Env := [g, s1, s2, s3, s4, none]
abbrev g6 : MS := .ite (.or (.un .not (.bi (.isi .tuple) [.var 4])) (.un .not (.gen .all [5] (.var 5) (.val (.var 4)) (.call 5 [.var 1, .var 2, .var 5])))) [.ret (.c (.bool false))] []
abbrev G6 : MX := .gen .all [5] (.var 5) (.val (.var 4)) (.call 5 [.var 1, .var 2, .var 5])
abbrev i6 : MS := .ite (.or (.un .not (.call 1 [.var 1, .c (.int 1), .c (.int 3)])) (.or (.un .not (.call 0 [.var 2])) (.or (.cmp .lt (.var 2) (.c (.int 1))) (.un .not (.call 3 [.var 3, .var 2]))))) [.ret (.c (.bool false))] []
theorem b6_eq : b6 = [b6.getD 0 .pass, b6.getD 1 .pass, i6, g6, .ret (.call 4 [.var 4])] := rfl
section
variable (F : Fns) (h : Hx)
theorem x6a (x : PD) (t : isTy .tuple x = false) (s1 s2 s3 s4 : Option Slot) : fin (exSs F false [] b6 (e6v (sD x) s1 s2 s3 s4) h) = .ok (.d (.bool false)) false h := by simp [b6, t]
theorem x6b (xs : List PD) (t : ¬ (xs.length : Int) = 4) (s1 s2 s3 s4 : Option Slot) : fin (exSs F false [] b6 (e6v (tpS xs) s1 s2 s3 s4) h) = .ok (.d (.bool false)) false h := by simp [b6, isTy, PyData.isTuple, t]
theorem x6s1 (K N S R : PD) (s1 s2 s3 s4 : Option Slot) : exS F false [] (b6.getD 0 .pass) (e6v (tpS [K, N, S, R]) s1 s2 s3 s4) h = .ok .next (e6v (tpS [K, N, S, R]) s1 s2 s3 s4) h := by simp [b6, isTy, PyData.isTuple]
theorem x6s2 (K N S R : PD) (s1 s2 s3 s4 : Option Slot) : exS F false [] (b6.getD 1 .pass) (e6v (tpS [K, N, S, R]) s1 s2 s3 s4) h = .ok .next (e6v (tpS [K, N, S, R]) (sD K) (sD N) (sD S) (sD R)) h := by simp [b6, asgV, hit, Pat.all, bindP, bindAll]
variable (g : Option Slot) (K N S R : PD) (rest : List MS)
theorem x6c (e : F 1 [.d K, .d (.int 1), .d (.int 3)] h = .ok (.d (.bool false)) true h) : fin (exSs F false [] (i6 :: rest) (e6v g (sD K) (sD N) (sD S) (sD R)) h) = .ok (.d (.bool false)) false h := by simp [e]
theorem x6d (e : F 1 [.d K, .d (.int 1), .d (.int 3)] h = .ok (.d (.bool true)) true h) (e2 : F 0 [.d N] h = .ok (.d (.bool false)) true h) : fin (exSs F false [] (i6 :: rest) (e6v g (sD K) (sD N) (sD S) (sD R)) h) = .ok (.d (.bool false)) false h := by simp [e, e2]
theorem x6e (n : Int) (e : F 1 [.d K, .d (.int 1), .d (.int 3)] h = .ok (.d (.bool true)) true h) (e2 : F 0 [.d (.int n)] h = .ok (.d (.bool true)) true h) (lt : n < 1) : fin (exSs F false [] (i6 :: rest) (e6v g (sD K) (sI n) (sD S) (sD R)) h) = .ok (.d (.bool false)) false h := by simp [e, e2, lt]
theorem x6f (n : Int) (e : F 1 [.d K, .d (.int 1), .d (.int 3)] h = .ok (.d (.bool true)) true h) (e2 : F 0 [.d (.int n)] h = .ok (.d (.bool true)) true h) (lt : ¬ n < 1) (e3 : F 3 [.d S, .d (.int n)] h = .ok (.d (.bool false)) true h) : fin (exSs F false [] (i6 :: rest) (e6v g (sD K) (sI n) (sD S) (sD R)) h) = .ok (.d (.bool false)) false h := by simp [e, e2, lt, e3]
theorem x6g (n : Int) (e : F 1 [.d K, .d (.int 1), .d (.int 3)] h = .ok (.d (.bool true)) true h) (e2 : F 0 [.d (.int n)] h = .ok (.d (.bool true)) true h) (lt : ¬ n < 1) (e3 : F 3 [.d S, .d (.int n)] h = .ok (.d (.bool true)) true h) : exS F false [] i6 (e6v g (sD K) (sI n) (sD S) (sD R)) h = .ok .next (e6v g (sD K) (sI n) (sD S) (sD R)) h := by simp [e, e2, lt, e3]
theorem x6h (t : isTy .tuple R = false) : fin (exSs F false [] (g6 :: rest) (e6v g (sD K) (sD N) (sD S) (sD R)) h) = .ok (.d (.bool false)) false h := by
  show fin (exSs F false [] (.ite (.or (.un .not (.bi (.isi .tuple) [.var 4])) (.un .not G6)) [.ret (.c (.bool false))] [] :: rest) _ h) = _
  generalize G6 = X
  simp [t]
theorem x6i (xs : List PD) (e : ev F [] G6 (e6v g (sD K) (sD N) (sD S) (tpS xs)) h = .ok ⟨.d (.bool false), true, []⟩ (e6v g (sD K) (sD N) (sD S) (tpS xs)) h) : fin (exSs F false [] (g6 :: rest) (e6v g (sD K) (sD N) (sD S) (tpS xs)) h) = .ok (.d (.bool false)) false h := by
  show fin (exSs F false [] (.ite (.or (.un .not (.bi (.isi .tuple) [.var 4])) (.un .not G6)) [.ret (.c (.bool false))] [] :: rest) _ h) = _
  generalize G6 = X at e ⊢
  simp [isTy, PyData.isTuple, e]
theorem x6j (xs : List PD) (e : ev F [] G6 (e6v g (sD K) (sD N) (sD S) (tpS xs)) h = .ok ⟨.d (.bool true), true, []⟩ (e6v g (sD K) (sD N) (sD S) (tpS xs)) h) : exS F false [] g6 (e6v g (sD K) (sD N) (sD S) (tpS xs)) h = .ok .next (e6v g (sD K) (sD N) (sD S) (tpS xs)) h := by
  show exS F false [] (.ite (.or (.un .not (.bi (.isi .tuple) [.var 4])) (.un .not G6)) [.ret (.c (.bool false))] []) _ h = _
  generalize G6 = X at e ⊢
  simp [isTy, PyData.isTuple, e]
theorem x6k (xs : List PD) (b : Bool) (e : F 4 [.d (.tuple xs)] h = .ok (.d (.bool b)) true h) : fin (exSs F false [] [.ret (.call 4 [.var 4])] (e6v g (sD K) (sD N) (sD S) (tpS xs)) h) = .ok (.d (.bool b)) true h := by simp [e]
theorem el6 (k n : Int) (x : PD) (b fr : Bool) (e : F 5 [.d (.int k), .d (.int n), .d x] h = .ok (.d (.bool b)) fr h) (r : Option Slot) (lk : List Nat) : ev F lk (.call 5 [.var 1, .var 2, .var 5]) [g, sI k, sI n, sD S, r, sD x] h = .ok ⟨.d (.bool b), fr, []⟩ [g, sI k, sI n, sD S, r, sD x] h := by simp [e]
theorem gen6 (k n : Int) (xs : List PD) (hl : xs.length ≤ 10) (e : ∀ x ∈ xs, ∃ fr, F 5 [.d (.int k), .d (.int n), .d x] h = .ok (.d (.bool (isRu k n x))) fr h) : ev F [] G6 (e6v g (sI k) (sI n) (sD S) (tpS xs)) h = .ok ⟨.d (.bool (xs.all (isRu k n))), true, []⟩ (e6v g (sI k) (sI n) (sD S) (tpS xs)) h := by
  have z := ev_gen (F := F) (lk := []) (g := .all) (own := [5]) (p := .var 5) (it := .val (.var 4)) (elt := .call 5 [.var 1, .var 2, .var 5]) (env := e6v g (sI k) (sI n) (sD S) (tpS xs)) (env1 := e6v g (sI k) (sI n) (sD S) (tpS xs)) (E := e6v g (sI k) (sI n) (sD S) (tpS xs)) (h := h) (xs := xs) (ln := []) (isRu k n) (by simp [itemsV, itemsOf]) (blk0 rfl (Nat.le_trans hl (by decide))) (by rw [frzI_nil]; rfl) fun x hx => by
    obtain ⟨fr, q⟩ := e x hx
    exact ⟨_, _, _, rfl, el6 F h g S k n x _ fr q (tpS xs) _, rfl, rfl⟩
  rw [frzI_nil] at z
  exact z
end
theorem four_or (xs : List PD) : (∃ a b c d, xs = [a, b, c, d]) ∨ ¬ (xs.length : Int) = 4 := by
  rcases xs with _ | ⟨a, _ | ⟨b, _ | ⟨c, _ | ⟨d, _ | ⟨e, r⟩⟩⟩⟩⟩
  · exact .inr (by simp)
  · exact .inr (by simp)
  · exact .inr (by simp)
  · exact .inr (by simp)
  · exact .inl ⟨a, b, c, d, rfl⟩
  · exact .inr (by simp; omega)
theorem u6n (F : Fns) (h : Hx) (K N S R : PD) : exSs F false [] b6 (e6v (tpS [K, N, S, R]) none none none none) h = exSs F false [] [i6, g6, .ret (.call 4 [.var 4])] (e6v (tpS [K, N, S, R]) (sD K) (sD N) (sD S) (sD R)) h := by
  rw [b6_eq]
  exact (ss_next (x6s1 F h K N S R none none none none)).trans (ss_next (x6s2 F h K N S R none none none none))
/-- a grammar of a net: letters and names the same -/
abbrev rsT (rs : List Ru) : PD := .tuple (rs.map ruT)
abbrev grT (k n : Nat) (st : List Int) (rs : List Ru) : PD := .tuple [.int k, .int n, iT st, rsT rs]
structure RuOk (k n : Nat) (r : Ru) : Prop where
  nm : r.nm < n
  le : Nats k r.le
  bg : Nats n r.bg
structure Gr (k n : Nat) (st : List Int) (rs : List Ru) : Prop where
  k1 : 1 ≤ k
  k3 : k ≤ 3
  n1 : 1 ≤ n
  n4 : n ≤ 4
  st : Nats n st
  r9 : rs.length ≤ 9
  ok : ∀ r ∈ rs, RuOk k n r
  asc : rs.Pairwise (ltR ruT)
section
variable {k n : Nat} {st : List Int} {rs : List Ru} (G : Gr k n st rs)
include G
theorem ru_is {r : Ru} (ok : RuOk k n r) : isRu k n (ruT r) = true := by
  have b : btw (.int r.nm) 0 ((n : Int) - 1) = true := by have := ok.nm; simp [btw]; omega
  show (btw (.int r.nm) 0 ((n : Int) - 1) && (areN (iT r.le) k && areN (iT r.bg) n)) = true
  rw [b, areN_ok ok.le.1 fun x hx => (ok.le.2 x hx).1, areN_ok ok.bg.1 fun x hx => (ok.bg.2 x hx).1]
  rfl
theorem tm_ru {r : Ru} (ok : RuOk k n r) : tm 2 (ruT r) = true := by
  have := G.k3
  have := G.n4
  have := ok.nm
  refine (tm_seq (d := 1) (by simp) fun z hz => ?_).1
  rcases List.mem_cons.mp hz with rfl | hz
  · exact decide_eq_true (by omega)
  rcases List.mem_cons.mp hz with rfl | hz
  · exact tm_nats ok.le (by omega)
  · rw [List.mem_singleton.mp hz]
    exact tm_nats ok.bg (by omega)
theorem e6 (m : Nat) (h : Hx) : run D (m + 5) 6 [.d (grT k n st rs)] h = .ok (.d (.bool true)) true h := by
  have k1 := G.k1
  have k3 := G.k3
  have n1 := G.n1
  have n4 := G.n4
  have a := e1 (m + 2) (.int k) 1 3 h
  have b : btw (.int k) 1 3 = true := by simp [btw]; omega
  rw [b] at a
  have c := e0 (m + 3) (.int n) h
  have d := e3 (m + 1) (iT st) n (wid_iT (by rw [G.st.1]; omega)) h
  rw [areN_ok G.st.1 fun x hx => (G.st.2 x hx).1] at d
  have f := e4 ruT_ok (m + 3) rs (by have := G.r9; omega) h
  rw [ascR_of G.asc] at f
  have gn := gen6 (run D (m + 4)) h (tpS [.int k, .int n, iT st, rsT rs]) (iT st) k n (rs.map ruT) (by rw [List.length_map]; have := G.r9; omega) fun x hx => by
    obtain ⟨r, hr, rfl⟩ := List.mem_map.mp hx
    exact e5 m k n _ (tm_ru G (G.ok r hr)) h
  have al : (rs.map ruT).all (isRu k n) = true := List.all_eq_true.mpr fun x hx => by
    obtain ⟨r, hr, rfl⟩ := List.mem_map.mp hx
    exact ru_is G (G.ok r hr)
  rw [al] at gn
  rw [u6, show [sD (grT k n st rs), none, none, none, none, none] = e6v (tpS [.int k, .int n, iT st, rsT rs]) none none none none from rfl, u6n]
  rw [ss_next (x6g _ h _ _ _ _ n a c (by omega) d), ss_next (x6j _ h _ _ _ _ _ gn)]
  exact x6k _ h _ _ _ _ _ true f
end
end Mi.K51
namespace Mi.K51
open PySem Mi.Sk
/-! is_deed, is_net of any small value -/
def isDd (k : Int) : PD → Bool | .tuple [a, b] => btw a 0 (k - 1) && areN b k | _ => false
theorem two_or (xs : List PD) : (∃ a b, xs = [a, b]) ∨ (¬ (xs.length : Int) = 2 ∧ ∀ k, isDd k (.tuple xs) = false) := by
  rcases xs with _ | ⟨a, _ | ⟨b, _ | ⟨c, r⟩⟩⟩
  · exact .inr ⟨by simp, fun _ => rfl⟩
  · exact .inr ⟨by simp, fun _ => rfl⟩
  · exact .inl ⟨a, b, rfl⟩
  · exact .inr ⟨by simp; omega, fun _ => rfl⟩
section
variable (F : Fns) (h : Hx)
theorem x7a (k : Int) (x : PD) (t : isTy .tuple x = false) : fin (exSs F false [] p7 [sI k, sD x] h) = .ok (.d (.bool false)) false h := by simp [p7, p7s0, t]
theorem x7b (k : Int) (xs : List PD) (t : ¬ (xs.length : Int) = 2) : fin (exSs F false [] p7 [sI k, tpS xs] h) = .ok (.d (.bool false)) false h := by simp [p7, p7s0, isTy, PyData.isTuple, t]
theorem x7c (k : Int) (a b : PD) (p q : Bool) (e1 : F 1 [.d a, .d (.int 0), .d (.int (k - 1))] h = .ok (.d (.bool p)) true h) (e2 : F 3 [.d b, .d (.int k)] h = .ok (.d (.bool q)) true h) : fin (exSs F false [] p7 [sI k, tpS [a, b]] h) = .ok (.d (.bool (p && q))) true h := by
  cases p <;> simp [p7, p7s0, p7t1, p7s1, isTy, PyData.isTuple, ixV, e1, e2]
end
theorem e7 (m : Nat) (k : Int) (x : PD) (hx : tm 2 x = true) (h : Hx) : ∃ fr, run D (m + 4) 7 [.d (.int k), .d x] h = .ok (.d (.bool (isDd k x))) fr h := by
  rw [u7, bp7]
  rcases tup_or x with t | ⟨xs, rfl⟩
  · have z : isDd k x = false := by
      cases x <;> first | rfl | (simp [isTy, PyData.isTuple] at t)
    rw [z]
    exact ⟨_, x7a _ h k x t⟩
  · rcases two_or xs with ⟨a, b, rfl⟩ | ⟨t, z⟩
    · have q := (tm_in hx).2
      exact ⟨_, x7c _ h k a b _ _ (e1 (m + 1) a 0 (k - 1) h) (e3 m b k (tm_wid (q b (by simp))) h)⟩
    · rw [z]
      exact ⟨_, x7b _ h k xs t⟩
section
variable (F : Fns) (h : Hx) (K S : PD)
theorem x8a (x : PD) (t : isTy .tuple x = false) : fin (exSs F false [] p8 [sD x, none] h) = .ok (.d (.bool false)) false h := by
  show fin (exSs F false [] (p8s0 :: p8t1) _ h) = _
  generalize p8t1 = R
  simp [p8s0, t]
theorem x8b (xs : List PD) (t : ¬ (xs.length : Int) = 2) : fin (exSs F false [] p8 [tpS xs, none] h) = .ok (.d (.bool false)) false h := by
  show fin (exSs F false [] (p8s0 :: p8t1) _ h) = _
  generalize p8t1 = R
  simp [p8s0, isTy, PyData.isTuple, t]
theorem x8c (e : F 1 [.d K, .d (.int 1), .d (.int 3)] h = .ok (.d (.bool false)) true h) : fin (exSs F false [] p8 [tpS [K, S], none] h) = .ok (.d (.bool false)) false h := by
  show fin (exSs F false [] (p8s0 :: p8t1) _ h) = _
  generalize p8t1 = R
  simp [p8s0, isTy, PyData.isTuple, ixV, e]
theorem x8d (e : F 1 [.d K, .d (.int 1), .d (.int 3)] h = .ok (.d (.bool true)) true h) : exS F false [] p8s0 [tpS [K, S], none] h = .ok .next [tpS [K, S], none] h := by
  simp [p8s0, isTy, PyData.isTuple, ixV, e]
theorem x8e (t : isTy .tuple S = false) : fin (exSs F false [] p8t1 [tpS [K, S], none] h) = .ok (.d (.bool false)) false h := by
  show fin (exSs F false [] (.ite (.or (.un .not (.bi (.isi .tuple) [.ix (.var 0) (.c (.int 1))])) (.un .not x8_0)) [.ret (.c (.bool false))] [] :: p8t2) _ h) = _
  generalize p8t2 = R
  generalize x8_0 = X
  simp [ixV, t]
theorem x8f (xs : List PD) (e : ev F [] x8_0 [tpS [K, .tuple xs], none] h = .ok ⟨.d (.bool false), true, []⟩ [tpS [K, .tuple xs], none] h) : fin (exSs F false [] p8t1 [tpS [K, .tuple xs], none] h) = .ok (.d (.bool false)) false h := by
  show fin (exSs F false [] (.ite (.or (.un .not (.bi (.isi .tuple) [.ix (.var 0) (.c (.int 1))])) (.un .not x8_0)) [.ret (.c (.bool false))] [] :: p8t2) _ h) = _
  generalize p8t2 = R
  generalize x8_0 = X at e ⊢
  simp [ixV, isTy, PyData.isTuple, e]
theorem x8g (xs : List PD) (e : ev F [] x8_0 [tpS [K, .tuple xs], none] h = .ok ⟨.d (.bool true), true, []⟩ [tpS [K, .tuple xs], none] h) : exS F false [] p8s1 [tpS [K, .tuple xs], none] h = .ok .next [tpS [K, .tuple xs], none] h := by
  show exS F false [] (.ite (.or (.un .not (.bi (.isi .tuple) [.ix (.var 0) (.c (.int 1))])) (.un .not x8_0)) [.ret (.c (.bool false))] []) _ h = _
  generalize x8_0 = X at e ⊢
  simp [ixV, isTy, PyData.isTuple, e]
theorem x8h (b : Bool) (e : F 4 [.d S] h = .ok (.d (.bool b)) true h) : fin (exSs F false [] p8t2 [tpS [K, S], none] h) = .ok (.d (.bool b)) true h := by simp [p8t2, p8s2, ixV, e]
theorem el8 (k : Int) (x : PD) (b fr : Bool) (e : F 7 [.d (.int k), .d x] h = .ok (.d (.bool b)) fr h) (lk : List Nat) : ev F lk (.call 7 [.ix (.var 0) (.c (.int 0)), .var 1]) [tpS [.int k, S], sD x] h = .ok ⟨.d (.bool b), fr, []⟩ [tpS [.int k, S], sD x] h := by simp [ixV, e]
theorem gen8 (k : Int) (xs : List PD) (hl : xs.length ≤ 10) (e : ∀ x ∈ xs, ∃ fr, F 7 [.d (.int k), .d x] h = .ok (.d (.bool (isDd k x))) fr h) : ev F [] x8_0 [tpS [.int k, .tuple xs], none] h = .ok ⟨.d (.bool (xs.all (isDd k))), true, []⟩ [tpS [.int k, .tuple xs], none] h := by
  have z := ev_gen (F := F) (lk := []) (g := .all) (own := [1]) (p := .var 1) (it := .val (.ix (.var 0) (.c (.int 1)))) (elt := .call 7 [.ix (.var 0) (.c (.int 0)), .var 1]) (env := [tpS [.int k, .tuple xs], none]) (env1 := [tpS [.int k, .tuple xs], none]) (E := [tpS [.int k, .tuple xs], none]) (h := h) (xs := xs) (ln := []) (isDd k) (by simp [ixV, itemsV, itemsOf]) (blk0 rfl (Nat.le_trans hl (by decide))) (by rw [frzI_nil]; rfl) fun x hx => by
    obtain ⟨fr, q⟩ := e x hx
    exact ⟨_, _, _, rfl, el8 F h (.tuple xs) k x _ fr q _, rfl, rfl⟩
  rw [frzI_nil] at z
  exact z
end
theorem pair_or (xs : List PD) : (∃ a b, xs = [a, b]) ∨ ¬ (xs.length : Int) = 2 := (two_or xs).imp id fun z => z.1
/-- what is no net -/
def Bad (x : PD) : Prop := tm 4 x = true ∧ ∀ K S, x = .tuple [K, S] → btw K 1 3 = false ∨ isTy .tuple S = false ∨ (∃ k xs, K = .int k ∧ S = .tuple xs ∧ xs.all (isDd k) = false) ∨ ∃ R : List Dd, S = .tuple (R.map dT) ∧ ascR dT R = false
theorem bad_no {x : PD} (b : Bad x) (m : Nat) (h : Hx) : ∃ fr, run D (m + 5) 8 [.d x] h = .ok (.d (.bool false)) fr h := by
  obtain ⟨hx, no⟩ := b
  rw [u8, bp8]
  rcases tup_or x with t | ⟨xs, rfl⟩
  · exact ⟨_, x8a _ h x t⟩
  rcases pair_or xs with ⟨K, S, rfl⟩ | t
  · have q := (tm_in hx).2
    have no := no K S rfl
    have c1 := e1 (m + 2) K 1 3 h
    cases p1 : btw K 1 3 with
    | false => rw [p1] at c1; exact ⟨_, x8c _ h K S c1⟩
    | true =>
      rw [p1] at c1
      rw [show (p8 : List MS) = p8s0 :: p8t1 from rfl, ss_next (x8d _ h K S c1)]
      rcases tup_or S with t | ⟨xs, rfl⟩
      · exact ⟨_, x8e _ h K S t⟩
      obtain ⟨k, rfl⟩ : ∃ k, K = .int k := by
        cases K <;> simp [btw] at p1
        exact ⟨_, rfl⟩
      have tr := tm_in (q (.tuple xs) (by simp))
      have c4 := gen8 (run D (m + 4)) h k xs tr.1 fun x hx => e7 m k x (tr.2 x hx) h
      cases p5 : xs.all (isDd k) with
      | false => rw [p5] at c4; exact ⟨_, x8f _ h _ xs c4⟩
      | true =>
        rw [p5] at c4
        rw [show (p8t1 : List MS) = p8s1 :: p8t2 from rfl, ss_next (x8g _ h _ xs c4)]
        rcases no with z | z | ⟨k', xs', e1, e2, z⟩ | ⟨R', e, z⟩
        · rw [p1] at z; cases z
        · cases z
        · cases e1; cases e2; rw [p5] at z; cases z
        · injection e with e
          subst e
          have c5 := e4 dT_ok (m + 3) R' (by have := tr.1; rw [List.length_map] at this; omega) h
          rw [z] at c5
          exact ⟨_, x8h _ h _ _ false c5⟩
  · exact ⟨_, x8b _ h xs t⟩
/-! right nets -/
abbrev dsT (ds : List Dd) : PD := .tuple (ds.map dT)
abbrev ntT (k : Nat) (ds : List Dd) : PD := .tuple [.int k, dsT ds]
structure DdOk (k : Nat) (d : Dd) : Prop where
  pl : d.pl < k
  ll : d.la.length = k
  la : ∀ x ∈ d.la, 0 ≤ x ∧ x ≤ 3
structure Net (k : Nat) (ds : List Dd) : Prop where
  k1 : 1 ≤ k
  k3 : k ≤ 3
  d4 : ds.length ≤ 4
  ok : ∀ d ∈ ds, DdOk k d
  asc : ds.Pairwise (ltR dT)
theorem DdOk.nats {k : Nat} {d : Dd} (o : DdOk k d) : Nats k d.la := ⟨o.ll, fun x hx => by have := o.la x hx; omega⟩
theorem dd_is {k : Nat} {d : Dd} (ok : DdOk k d) : isDd k (dT d) = true := by
  have b : btw (.int d.pl) 0 ((k : Int) - 1) = true := by have := ok.pl; simp [btw]; omega
  show (btw (.int d.pl) 0 ((k : Int) - 1) && areN (iT d.la) k) = true
  rw [b, areN_ok ok.ll fun x hx => (ok.la x hx).1]
  rfl
theorem tmI {d : Nat} {i : Int} (h : i.natAbs ≤ 15) : tm d (.int i) = true := by
  cases d <;> exact decide_eq_true h
theorem tm_dd {k : Nat} {d : Dd} (k3 : k ≤ 3) (ok : DdOk k d) : tm 2 (dT d) = true := by
  have := ok.pl
  refine (tm_seq (d := 1) (by simp) fun z hz => ?_).1
  rcases List.mem_cons.mp hz with rfl | hz
  · exact tmI (by omega)
  · rw [List.mem_singleton.mp hz]
    exact tm_nats ok.nats (by omega)
section
variable {k : Nat} {ds : List Dd} (N : Net k ds)
include N
theorem e8 (m : Nat) (h : Hx) : run D (m + 5) 8 [.d (ntT k ds)] h = .ok (.d (.bool true)) true h := by
  have k1 := N.k1
  have k3 := N.k3
  have a := e1 (m + 2) (.int k) 1 3 h
  have b : btw (.int k) 1 3 = true := by simp [btw]; omega
  rw [b] at a
  have f := e4 dT_ok (m + 3) ds (by have := N.d4; omega) h
  rw [ascR_of N.asc] at f
  have gn := gen8 (run D (m + 4)) h k (ds.map dT) (by rw [List.length_map]; have := N.d4; omega) fun x hx => by
    obtain ⟨r, hr, rfl⟩ := List.mem_map.mp hx
    exact e7 m k _ (tm_dd k3 (N.ok r hr)) h
  have al : (ds.map dT).all (isDd k) = true := List.all_eq_true.mpr fun x hx => by
    obtain ⟨r, hr, rfl⟩ := List.mem_map.mp hx
    exact dd_is (N.ok r hr)
  rw [al] at gn
  rw [u8, bp8, show (p8 : List MS) = p8s0 :: p8s1 :: p8t2 from rfl]
  rw [ss_next (x8d _ h _ _ a), ss_next (x8g _ h _ _ gn)]
  exact x8h _ h _ _ true f
theorem e9 (m : Nat) (h : Hx) : run D (m + 6) 9 [.d (ntT k ds)] h = .ok (.d .none) false h := by
  have a := e8 N m h
  rw [u9]
  generalize run D (m + 5) = F at a ⊢
  generalize ntT k ds = x at a ⊢
  simp [b9, a]
end
/-- bags -/
structure Bag (k : Nat) (b : List Int) : Prop where
  len : b.length = k
  bd : ∀ x ∈ b, 0 ≤ x ∧ x ≤ 3
theorem Bag.nats {k : Nat} {b : List Int} (o : Bag k b) : Nats k b := ⟨o.len, fun x hx => by have := o.bd x hx; omega⟩
theorem e10 (m k : Nat) (k3 : k ≤ 3) (S : PD) (b : List Int) (B : Bag k b) (h : Hx) : run D (m + 4) 10 [.d (.tuple [.int k, S]), .d (iT b)] h = .ok (.d .none) false h := by
  have a := e3 m (iT b) k (wid_iT (by rw [B.len]; omega)) h
  rw [areN_ok B.len fun x hx => (B.bd x hx).1] at a
  rw [u10]
  generalize run D (m + 3) = F at a ⊢
  generalize iT b = x at a ⊢
  generalize (k : Int) = K at a ⊢
  simp [b10, ixV, a]
end Mi.K51
namespace Mi.K51
open PySem Mi.Sk
/-! behind a deed -/
def bh (k : Nat) (b : List Int) (d : Dd) : List Int := tab k fun i => g b i - (if i = d.pl then 1 else 0) + g d.la i
section
variable (F : Fns) (h : Hx) (K : PD) (DS B : List PD) (i P x : Int) (L : PD) (a1 : L2.atI DS i = some (.tuple [.int P, L]))
include a1
theorem x12 (a2 : L2.atI B P = some (.int x)) : fin (exSs F false [] p12 [tpS [K, .tuple DS], tpS B, sI i] h) = .ok (.d (.bool (decide (0 < x)))) true h := by
  simp [p12, p12s0, ixV, a1, a2]
theorem x13 (hL : isMut L = false) : exS F false [] p13s0 [tpS [K, .tuple DS], tpS B, sI i, none, none, none, none] h = .ok .next [tpS [K, .tuple DS], tpS B, sI i, sI P, sD L, none, none] h := by
  simp [p13s0, ixV, a1, asgV, hit, Pat.all, bindP, bindAll]
theorem x25 (hL : isMut L = false) : exS F false [] p25s0 [tpS [K, .tuple DS], tpS B, sI i, none, none] h = .ok .next [tpS [K, .tuple DS], tpS B, sI i, sI P, sD L] h := by
  simp [p25s0, ixV, a1, asgV, hit, Pat.all, bindP, bindAll]
end
theorem el13 (F : Fns) (h : Hx) (s0 s1 s2 : Option Slot) (P i x y : Int) (L : List PD) (lk : List Nat) (a : L2.atI L i = some (.int y)) : ev F lk (.bin .add (.bin .sub (.var 6) (.bi .int [.cmp .eq (.var 5) (.var 3)])) (.ix (.var 4) (.var 5))) [s0, s1, s2, sI P, tpS L, sI i, sI x] h = .ok ⟨.d (.int (x - (if i = P then 1 else 0) + y)), true, []⟩ [s0, s1, s2, sI P, tpS L, sI i, sI x] h := by
  simp [intEq, a]
theorem t13 (F : Fns) (h : Hx) (s0 s1 s2 s3 s4 : Option Slot) (L : List PD) (X : MX) (nl : noLs L = true) (g : ev F [] X [s0, s1, s2, s3, s4, none, none] h = .ok ⟨.d (.list L), true, []⟩ [s0, s1, s2, s3, s4, none, none] h) : fin (exSs F false [] [.ret (.bi .tuple [X])] [s0, s1, s2, s3, s4, none, none] h) = .ok (.d (.tuple L)) true h := by
  simp [g, nl]
theorem e13 (m k : Nat) (k3 : k ≤ 3) (ds : List Dd) (i : Nat) (hi : i < ds.length) (ok : DdOk k (nthR ds i)) (b : List Int) (B : Bag k b) (h : Hx) : run D (m + 1) 13 [.d (ntT k ds), .d (iT b), .d (.int i)] h = .ok (.d (iT (bh k b (nthR ds i)))) true h := by
  rw [u13, bp13, show (p13 : List MS) = p13s0 :: p13t1 from rfl]
  rw [ss_next (x13 (run D m) h (.int k) (ds.map dT) (b.map .int) i _ _ (at_nthR dT hi) rfl)]
  refine t13 _ h _ _ _ _ _ _ x13_0 (noLs_ints _) ?_
  generalize nthR ds i = d at ok ⊢
  have lb := B.len
  refine lcW (env1 := [tpS [.int k, dsT ds], sD (iT b), sI i, sI d.pl, sD (iT d.la), none, none]) (E := [tpS [.int k, dsT ds], sD (iT b), sI i, sI d.pl, sD (iT d.la), none, none]) (xs := enumD (b.map .int)) (ln := []) (fun x => match x with | .tuple [.int i, .int x] => .int (x - (if i = d.pl then 1 else 0) + g d.la i.toNat) | _ => .none) (enum2 (A := iT b) (f1 := false) (l1 := []) (by simp) rfl) (blk0 rfl (by rw [enum_ints, List.length_map, List.length_range]; exact Nat.le_trans (show _ ≤ 3 by omega) (by decide))) (by rw [frzI_nil]; rfl) (fun x hx => ?_) ?_ (by rw [frzI_nil]; rfl)
  · rw [enum_ints] at hx
    obtain ⟨j, hj, rfl⟩ := List.mem_map.mp hx
    rw [List.mem_range] at hj
    have a := at_ints (E := d.la) (s := j) (by rw [ok.ll]; omega)
    exact ⟨[tpS [.int k, dsT ds], sD (iT b), sI i, sI d.pl, sD (iT d.la), sI j, sI (g b j)], true, rfl, el13 _ h _ _ _ d.pl j (g b j) (g d.la j) _ _ a, rfl⟩
  · rw [enum_ints, List.map_map, bh, tab_map, lb]
    refine List.map_congr_left fun j hj => ?_
    show PyData.int (g b j - (if (j : Int) = (d.pl : Int) then 1 else 0) + g d.la ((j : Int)).toNat) = _
    rw [show ((j : Int)).toNat = j by omega]
    congr 2
    by_cases q : j = d.pl
    · rw [if_pos q, if_pos (by rw [q])]
    · rw [if_neg q, if_neg (by omega)]
theorem e12 (m k : Nat) (ds : List Dd) (i : Nat) (hi : i < ds.length) (ok : DdOk k (nthR ds i)) (b : List Int) (B : Bag k b) (h : Hx) : run D (m + 1) 12 [.d (ntT k ds), .d (iT b), .d (.int i)] h = .ok (.d (.bool (decide (0 < g b (nthR ds i).pl)))) true h := by
  rw [u12, bp12]
  exact x12 (run D m) h (.int k) (ds.map dT) (b.map .int) i _ _ _ (at_nthR dT hi) (at_ints (by rw [B.len]; exact ok.pl))
theorem x14 (F : Fns) (h : Hx) (K : PD) (DS : List PD) (B : PD) (i : Int) (e : F 1 [.d (.int i), .d (.int 0), .d (.int (DS.length - 1))] h = .ok (.d (.bool true)) true h) (e2 : F 12 [.d (.tuple [K, .tuple DS]), .d B, .d (.int i)] h = .ok (.d (.bool true)) true h) : fin (exSs F false [] p14 [tpS [K, .tuple DS], sD B, sI i] h) = .ok (.d .none) false h := by
  simp [p14, p14s0, ixV, e, e2]
theorem e14 (m k : Nat) (ds : List Dd) (i : Nat) (hi : i < ds.length) (ok : DdOk k (nthR ds i)) (b : List Int) (B : Bag k b) (pos : 0 < g b (nthR ds i).pl) (h : Hx) : run D (m + 3) 14 [.d (ntT k ds), .d (iT b), .d (.int i)] h = .ok (.d .none) false h := by
  rw [u14, bp14]
  refine x14 (run D (m + 2)) h (.int k) (ds.map dT) (iT b) i ?_ ?_
  · have a := e1 m (.int i) 0 ((ds.map dT).length - 1) h
    have b : btw (.int i) 0 ((ds.map dT).length - 1) = true := by rw [List.length_map]; simp [btw]; omega
    rw [b] at a
    exact a
  · have a := e12 (m + 1) k ds i hi ok b B h
    rw [decide_eq_true pos] at a
    exact a
theorem x15 (F : Fns) (h : Hx) (N B I R : PD) (fr : Bool) (c1 : F 9 [.d N] h = .ok (.d .none) false h) (c2 : F 10 [.d N, .d B] h = .ok (.d .none) false h) (c3 : F 14 [.d N, .d B, .d I] h = .ok (.d .none) false h) (c4 : F 13 [.d N, .d B, .d I] h = .ok (.d R) fr h) : fin (exSs F false [] p15 [sD N, sD B, sD I] h) = .ok (.d R) fr h := by
  simp [p15, p15s0, p15t1, p15s1, p15t2, p15s2, p15t3, p15s3, c1, c2, c3, c4]
theorem e15 (m k : Nat) {ds : List Dd} (N : Net k ds) (i : Nat) (hi : i < ds.length) (b : List Int) (B : Bag k b) (pos : 0 < g b (nthR ds i).pl) (h : Hx) : run D (m + 7) 15 [.d (ntT k ds), .d (iT b), .d (.int i)] h = .ok (.d (iT (bh k b (nthR ds i)))) true h := by
  have ok : DdOk k (nthR ds i) := N.ok _ (List.mem_of_getElem? (nthR_mem hi))
  rw [u15, bp15]
  exact x15 (run D (m + 6)) h _ _ _ _ _ (e9 N m h) (e10 (m + 2) k N.k3 _ b B h) (e14 (m + 3) k ds i hi ok b B pos h) (e13 (m + 5) k N.k3 ds i hi ok b B h)
theorem bh_sum {k : Nat} {b : List Int} {d : Dd} (lb : b.length = k) : addL (addL b d.la 1) (unitL k d.pl) (-1) = bh k b d := by
  unfold addL bh
  rw [tab_len, lb]
  refine tab_congr fun i hi => ?_
  rw [tab_g hi, unitL, tab_g hi]
  omega
theorem t25 (F : Fns) (h : Hx) (K B L A U R : PD) (S : PD) (i P : Int) (c1 : F 22 [.d B, .d L, .d (.int 1)] h = .ok (.d A) true h) (c2 : F 23 [.d K, .d (.int P)] h = .ok (.d U) true h) (c3 : F 22 [.d A, .d U, .d (.int (-1))] h = .ok (.d R) true h) (l1 : ∀ l, lnOf (.d A) true l = []) : fin (exSs F false [] p25t1 [tpS [K, S], sD B, sI i, sI P, sD L] h) = .ok (.d R) true h := by
  simp [p25t1, p25s1, ixV, c1, c2, c3, l1]
theorem e25 (m k : Nat) (k3 : k ≤ 3) (ds : List Dd) (i : Nat) (hi : i < ds.length) (ok : DdOk k (nthR ds i)) (b : List Int) (B : Bag k b) (h : Hx) : run D (m + 2) 25 [.d (ntT k ds), .d (iT b), .d (.int i)] h = .ok (.d (iT (bh k b (nthR ds i)))) true h := by
  have lb := B.len
  rw [u25, bp25, show (p25 : List MS) = p25s0 :: p25t1 from rfl]
  rw [ss_next (x25 (run D (m + 1)) h (.int k) (ds.map dT) (b.map .int) i _ _ (at_nthR dT hi) rfl)]
  have c1 := e22 m b (nthR ds i).la 1 (by decide +kernel) (by omega) (by rw [ok.ll, lb]) h
  have c2 := e23 m k (nthR ds i).pl (by omega) h
  have c3 := e22 m (addL b (nthR ds i).la 1) (unitL k (nthR ds i).pl) (-1) (by decide +kernel) (by rw [addL, tab_len]; omega) (by rw [addL, unitL, tab_len, tab_len]; exact lb) h
  rw [bh_sum lb] at c3
  exact t25 _ h (.int k) (iT b) (iT (nthR ds i).la) _ _ _ _ _ _ c1 c2 c3 fun l => lnOf_tuple_ (noLs_ints _)
end Mi.K51
namespace Mi.K51
open PySem Mi.Sk
/-! the grammar of a net -/
def zer (k : Nat) : List Int := List.replicate k 0
def ruD (k : Nat) (d : Dd) : Ru := ⟨d.pl, zer k, d.la⟩
def ruP (k p : Nat) : Ru := ⟨p, unitL k p, zer k⟩
def R1 (k : Nat) (ds : List Dd) : List Ru := ds.map (ruD k)
def R2 (k : Nat) : List Ru := (List.range k).map (ruP k)
theorem unit_zer {k p : Nat} (hp : p < k) : unitL k p ≠ zer k := fun e => by
  have a := tab_g (f := fun i => if i = p then (1 : Int) else 0) hp
  rw [show tab k (fun i => if i = p then (1 : Int) else 0) = zer k from e] at a
  unfold zer g at a
  rw [List.getD_eq_getElem?_getD, List.getElem?_replicate, if_pos hp] at a
  simp at a
theorem R_nodup {k : Nat} {ds : List Dd} (N : Net k ds) : (R1 k ds ++ R2 k).Nodup := by
  rw [List.nodup_append]
  refine ⟨List.pairwise_map.mpr ((ltR_nodup dT_ok N.asc).imp fun {a b} (h : a ≠ b) (e : ruD k a = ruD k b) => h ?_), List.pairwise_map.mpr (List.nodup_range.imp fun {a b} (h : a ≠ b) (e : ruP k a = ruP k b) => h (congrArg Ru.nm e)), fun a ha b hb e => ?_⟩
  · cases a
    cases b
    simp only [ruD, Ru.mk.injEq] at e
    rw [e.1, e.2.2]
  · obtain ⟨d, _, rfl⟩ := List.mem_map.mp ha
    obtain ⟨p, hp, rfl⟩ := List.mem_map.mp hb
    simp only [ruD, ruP, Ru.mk.injEq] at e
    exact unit_zer (List.mem_range.mp hp) e.2.1.symm
theorem zer_nats (k : Nat) : Nats k (zer k) := ⟨by simp [zer], fun x hx => by rw [(List.mem_replicate.mp hx).2]; decide⟩
theorem unit_nats (k p : Nat) : Nats k (unitL k p) := ⟨by simp [unitL], fun x hx => by
  unfold unitL tab at hx
  obtain ⟨i, _, rfl⟩ := List.mem_map.mp hx
  by_cases q : i = p <;> simp [q]⟩
theorem net_gr {k : Nat} {ds : List Dd} (N : Net k ds) {b : List Int} (B : Bag k b) : ∃ rs, srtD ((R1 k ds ++ R2 k).map ruT) = some (rs.map ruT) ∧ Gr k k b rs := by
  have k1 := N.k1
  have k3 := N.k3
  have d4 := N.d4
  have hl : (R1 k ds ++ R2 k).length ≤ 7 := by simp [R1, R2]; omega
  obtain ⟨rs, e, pm, pw⟩ := srt_rw ruT_ok (R1 k ds ++ R2 k) (by omega) (R_nodup N)
  refine ⟨rs, e, k1, k3, k1, by omega, B.nats, by rw [pm.length_eq]; omega, fun r hr => ?_, pw⟩
  rcases List.mem_append.mp (pm.mem_iff.mp hr) with z | z
  · obtain ⟨d, hd, rfl⟩ := List.mem_map.mp z
    have o := N.ok d hd
    exact ⟨o.pl, zer_nats k, o.nats⟩
  · obtain ⟨p, hp, rfl⟩ := List.mem_map.mp z
    exact ⟨List.mem_range.mp hp, unit_nats k p, zer_nats k⟩
theorem flat_rep {α : Type} (x : α) : ∀ k : Nat, (List.replicate k [x]).flatten = List.replicate k x
  | 0 => rfl
  | k + 1 => by rw [List.replicate_succ, List.replicate_succ, List.flatten_cons, flat_rep x k]; rfl
theorem rep_tP (x : PD) (k : Nat) (hk : k ≤ 1000) : binD .mul (.tuple [x]) (.int k) = some (.tuple (List.replicate k x), true) := by
  show (if (k : Int) ≤ 1000 ∧ -1000 ≤ (k : Int) ∧ [x].length ≤ 1000 then some (PyData.tuple (List.replicate (k : Int).toNat [x]).flatten, true) else none) = _
  rw [if_pos ⟨by omega, by omega, by simp⟩, Int.toNat_natCast, flat_rep]
theorem rep_lP (x : PD) (k : Nat) (hk : k ≤ 1000000) : binD .mul (.list [x]) (.int k) = some (.list (List.replicate k x), true) := by
  show (if (k : Int) ≤ 1000000 ∧ -1000000 ≤ (k : Int) ∧ [x].length * (k : Int).toNat ≤ lim then some (PyData.list (List.replicate (k : Int).toNat [x]).flatten, true) else none) = _
  rw [if_pos ⟨by omega, by omega, by simp [lim]; omega⟩, Int.toNat_natCast, flat_rep]
theorem zer_map (k : Nat) : (zer k).map PyData.int = List.replicate k (.int 0) := by unfold zer; rw [List.map_replicate]
theorem R1_map (k : Nat) (ds : List Dd) : (R1 k ds).map ruT = (ds.map dT).map fun x => match x with | .tuple [a, l] => .tuple [a, iT (zer k), l] | _ => .none := by
  rw [R1, List.map_map, List.map_map]
  rfl
theorem R2_map (k : Nat) : (R2 k).map ruT = (List.range k).map fun (p : Nat) => PyData.tuple [.int (p : Int), iT (unitL k p), iT (zer k)] := by
  rw [R2, List.map_map]
  rfl
theorem noLs_ru : ∀ R : List Ru, noLs (R.map ruT) = true := fun R => noLs_all _ fun x hx => by
  obtain ⟨r, _, rfl⟩ := List.mem_map.mp hx
  show (true && (noLs (r.le.map .int) && (noLs (r.bg.map .int) && true))) = true
  rw [noLs_ints, noLs_ints]; rfl
section
variable (F : Fns) (h : Hx) (K B : PD) (Z DS : List PD) (k : Int)
theorem y17a : exS F false [] p17s0 [tpS [.int k, .tuple DS], sD B, none, none, none, none, none] h = .ok .next [tpS [.int k, .tuple DS], sD B, sI k, none, none, none, none] h := by
  simp [p17s0, ixV]
theorem y17b (e : binD .mul (.tuple [.int 0]) (.int k) = some (.tuple Z, true)) : exS F false [] p17s1 [tpS [.int k, .tuple DS], sD B, sI k, none, none, none, none] h = .ok .next [tpS [.int k, .tuple DS], sD B, sI k, tpS Z, none, none, none] h := by
  simp [p17s1, e]
theorem y17c (A : List PD) (g : ev F [] x17_0 [tpS [.int k, .tuple DS], sD B, sI k, tpS Z, none, none, none] h = .ok ⟨.d (.list A), true, []⟩ [tpS [.int k, .tuple DS], sD B, sI k, tpS Z, none, none, none] h) : exS F false [] p17s2 [tpS [.int k, .tuple DS], sD B, sI k, tpS Z, none, none, none] h = .ok .next [tpS [.int k, .tuple DS], sD B, sI k, tpS Z, sO A, none, none] h := by
  show exS F false [] (.asg (.var 4) x17_0) _ h = _
  generalize x17_0 = X at g ⊢
  simp [g]
theorem y17d (A C : List PD) (hl : A.length + C.length ≤ 1000) (nl : noLs C = true) (g : ev F [] x17_1 [tpS [.int k, .tuple DS], sD B, sI k, tpS Z, sO A, none, none] h = .ok ⟨.d (.list C), true, []⟩ [tpS [.int k, .tuple DS], sD B, sI k, tpS Z, sO A, none, none] h) : exS F false [] p17s3 [tpS [.int k, .tuple DS], sD B, sI k, tpS Z, sO A, none, none] h = .ok .next [tpS [.int k, .tuple DS], sD B, sI k, tpS Z, sO (A ++ C), none, none] h := by
  have hm : mutD .extend A [.list C] = some (A ++ C, .none) := by
    show (if A.length + C.length < lim then some (A ++ C, PyData.none) else none) = _
    rw [if_pos (Nat.lt_of_le_of_lt hl (by decide))]
  show exS F false [] (.ex (.mm .extend 4 [x17_1])) _ h = _
  generalize x17_1 = X at g ⊢
  simp [ownL, mmV, g, hm]
theorem y17e (R S : List PD) (e : srtD R = some S) (nl : noLs S = true) : fin (exSs F false [] p17t4 [tpS [.int k, .tuple DS], sD B, sI k, tpS Z, sO R, none, none] h) = .ok (.d (.tuple [.int k, .int k, B, .tuple S])) true h := by
  simp [p17t4, p17s4, e, nl]
end
end Mi.K51
namespace Mi.K51
open PySem Mi.Sk
theorem noLs_app {a b : List PD} (ha : noLs a = true) (hb : noLs b = true) : noLs (a ++ b) = true := by
  induction a with
  | nil => exact hb
  | cons x r ih =>
    have h : (noL x && noLs r) = true := ha
    rw [Bool.and_eq_true] at h
    show (noL x && noLs (r ++ b)) = true
    rw [h.1, ih h.2]; rfl
/-- comprehension over deeds -/
theorem lcD {F : Fns} {h : Hx} {elt : MX} {env E : Env} {ds : List Dd} {it : MX} {lk : List Nat} (ty : PD → PD → PD) (hi : ev F lk it env h = .ok ⟨.d (dsT ds), false, []⟩ env h) (hl : ds.length ≤ 1000) (hlk : ∀ i, [5, 6].contains i = true → lk.contains i = false) (hE : wipeE env [5, 6] = E) (l7 : E.length = 7)
    (hb : ∀ a l, ev F ([5, 6] ++ lk) elt ((E.set 5 (sD a)).set 6 (sD l)) h = .ok ⟨.d (ty a l), true, []⟩ ((E.set 5 (sD a)).set 6 (sD l)) h) (hw : ∀ a l, wipeE ((E.set 5 (sD a)).set 6 (sD l)) [5, 6] = E) (hB : back env E [5, 6] = env) :
    ev F lk (.lc [5, 6] (.tup [5, 6]) (.val it) (.c (.bool true)) elt) env h = .ok ⟨.d (.list (ds.map fun d => ty (.int d.pl) (iT d.la))), true, []⟩ env h := by
  refine lcW (env1 := env) (E := E) (xs := ds.map dT) (ln := []) (fun x => match x with | .tuple [a, l] => ty a l | _ => .none) (val2 hi rfl) ?_ (by rw [frzI_nil]; exact hE) (fun x hx => ?_) ?_ (by rw [frzI_nil]; exact hB)
  · unfold blkOk
    have e1 : hit [5, 6] ([] ++ lk) = false := by
      unfold hit
      rw [List.nil_append]
      refine List.any_eq_false.mpr fun i hi => ?_
      rw [hlk i (by simpa using hi)]
      simp
    rw [show ((ds.map dT, ([] : List Nat)) : List PD × List Nat).2 = [] from rfl, e1]
    have e2 : (ds.map dT).length ≤ lim := by rw [List.length_map]; exact Nat.le_trans hl (by decide)
    rw [decide_eq_true e2]
    rfl
  · obtain ⟨d, _, rfl⟩ := List.mem_map.mp hx
    exact ⟨(E.set 5 (sD (.int d.pl))).set 6 (sD (iT d.la)), true, rfl, hb _ _, hw _ _⟩
  · rw [List.map_map]
    rfl
section
variable (F : Fns) (h : Hx)
theorem c17 (B : PD) (Z : List PD) (k : Int) (ds : List Dd) (hl : ds.length ≤ 1000) (nz : noLs Z = true) : ev F [] x17_0 [tpS [.int k, dsT ds], sD B, sI k, tpS Z, none, none, none] h = .ok ⟨.d (.list (ds.map fun d => PyData.tuple [.int d.pl, .tuple Z, iT d.la])), true, []⟩ [tpS [.int k, dsT ds], sD B, sI k, tpS Z, none, none, none] h := by
  refine lcD (it := .ix (.var 0) (.c (.int 1))) (E := [tpS [.int k, dsT ds], sD B, sI k, tpS Z, none, none, none]) (fun a l => .tuple [a, .tuple Z, l]) (by simp [ixV]) hl (fun i hi => rfl) rfl rfl (fun a l => ?_) (fun a l => rfl) rfl
  generalize dsT ds = DS
  simp
theorem c17e (S : PD) (B : PD) (Z A : List PD) (k i : Int) (U : List PD) (lk : List Nat) (e : F 16 [.d (.int k), .d (.int i)] h = .ok (.d (.tuple U)) true h) (nu : noLs U = true) : ev F lk (.tup [.var 5, .call 16 [.var 2, .var 5], .var 3]) [tpS [.int k, S], sD B, sI k, tpS Z, sO A, sI i, none] h = .ok ⟨.d (.tuple [.int i, .tuple U, .tuple Z]), true, []⟩ [tpS [.int k, S], sD B, sI k, tpS Z, sO A, sI i, none] h := by
  simp [e, nu]
theorem c17x (m : Nat) (S B : PD) (Z A : List PD) (k : Nat) (k3 : k ≤ 3) : ev (run D (m + 1)) [] x17_1 [tpS [.int k, S], sD B, sI k, tpS Z, sO A, none, none] h = .ok ⟨.d (.list ((List.range k).map fun (p : Nat) => PyData.tuple [.int (p : Int), iT (unitL k p), .tuple Z])), true, []⟩ [tpS [.int k, S], sD B, sI k, tpS Z, sO A, none, none] h := by
  refine lcR (N := k) (fr := false) (E := [tpS [.int k, S], sD B, sI k, tpS Z, sO A, none, none]) (fun (p : Nat) => PyData.tuple [.int (p : Int), iT (unitL k p), .tuple Z]) (by simp) (by omega) rfl rfl rfl (fun _ => rfl) (fun i hi => ⟨true, ?_⟩) rfl rfl
  exact c17e _ h S B Z A k i ((unitL k i).map .int) _ (e16 m k i (by omega) h) (noLs_ints _)
end
theorem e17 (m : Nat) {k : Nat} {ds : List Dd} (N : Net k ds) (b : List Int) (rs : List Ru) (e : srtD ((R1 k ds ++ R2 k).map ruT) = some (rs.map ruT)) (h : Hx) : run D (m + 2) 17 [.d (ntT k ds), .d (iT b)] h = .ok (.d (grT k k b rs)) true h := by
  have k3 := N.k3
  have d4 := N.d4
  have q1 := c17 (run D (m + 1)) h (iT b) ((zer k).map .int) k ds (by omega) (noLs_ints _)
  have m1 : (ds.map fun d => PyData.tuple [.int d.pl, .tuple ((zer k).map .int), iT d.la]) = (R1 k ds).map ruT := by
    rw [R1, List.map_map]
    rfl
  rw [m1] at q1
  have q2 := c17x h m (dsT ds) (iT b) ((zer k).map .int) ((R1 k ds).map ruT) k k3
  have m2 : ((List.range k).map fun (p : Nat) => PyData.tuple [.int (p : Int), iT (unitL k p), .tuple ((zer k).map .int)]) = (R2 k).map ruT := (R2_map k).symm
  rw [m2] at q2
  have s1 := y17b (run D (m + 1)) h (iT b) ((zer k).map .int) (ds.map dT) k (mul0 k (by omega))
  rw [List.map_append] at e
  rw [u17, bp17, show (p17 : List MS) = p17s0 :: p17s1 :: p17s2 :: p17s3 :: p17t4 from rfl]
  rw [ss_next (y17a _ h (iT b) (ds.map dT) k), ss_next s1, ss_next (y17c _ h _ _ _ k _ q1), ss_next (y17d _ h _ _ _ k _ _ (by simp [R1, R2]; omega) (noLs_ru _) q2)]
  exact y17e _ h _ _ _ k _ _ e (noLs_ru _)
theorem x18 (F : Fns) (h : Hx) (N B R : PD) (c1 : F 9 [.d N] h = .ok (.d .none) false h) (c2 : F 10 [.d N, .d B] h = .ok (.d .none) false h) (c4 : F 17 [.d N, .d B] h = .ok (.d R) true h) : fin (exSs F false [] p18 [sD N, sD B] h) = .ok (.d R) true h := by
  simp [p18, p18s0, p18t1, p18s1, p18t2, p18s2, c1, c2, c4]
theorem e18g (m : Nat) {k : Nat} {ds : List Dd} (N : Net k ds) (b : List Int) (B : Bag k b) (rs : List Ru) (e : srtD ((R1 k ds ++ R2 k).map ruT) = some (rs.map ruT)) (h : Hx) : run D (m + 7) 18 [.d (ntT k ds), .d (iT b)] h = .ok (.d (grT k k b rs)) true h := by
  rw [u18, bp18]
  exact x18 (run D (m + 6)) h _ _ _ (e9 N m h) (e10 (m + 2) k N.k3 _ b B h) (e17 (m + 4) N b rs e h)
/-! the law's own -/
section
variable (F : Fns) (h : Hx) (B : PD) (Z DS : List PD) (k : Int)
theorem y26a (e : binD .mul (.tuple [.int 0]) (.int k) = some (.tuple Z, true)) : exS F false [] p26s0 [tpS [.int k, .tuple DS], sD B, none, none, none, none, none] h = .ok .next [tpS [.int k, .tuple DS], sD B, none, sI k, tpS Z, none, none] h := by
  simp [p26s0, ixV, e, parV]
  rfl
theorem y26b (A : List PD) (g : ev F [] x26_0 [tpS [.int k, .tuple DS], sD B, none, sI k, tpS Z, none, none] h = .ok ⟨.d (.list A), true, []⟩ [tpS [.int k, .tuple DS], sD B, none, sI k, tpS Z, none, none] h) : exS F false [] p26s1 [tpS [.int k, .tuple DS], sD B, none, sI k, tpS Z, none, none] h = .ok .next [tpS [.int k, .tuple DS], sD B, sO A, sI k, tpS Z, none, none] h := by
  show exS F false [] (.asg (.var 2) x26_0) _ h = _
  generalize x26_0 = X at g ⊢
  simp [g]
theorem y26c (A C : List PD) (hl : A.length + C.length ≤ 1000) (na : noLs A = true) (nl : noLs C = true) (g : ev F [2] x26_1 [tpS [.int k, .tuple DS], sD B, sO A, sI k, tpS Z, none, none] h = .ok ⟨.d (.list C), true, []⟩ [tpS [.int k, .tuple DS], sD B, sO A, sI k, tpS Z, none, none] h) : exS F false [] p26s2 [tpS [.int k, .tuple DS], sD B, sO A, sI k, tpS Z, none, none] h = .ok .next [tpS [.int k, .tuple DS], sD B, sO (A ++ C), sI k, tpS Z, none, none] h := by
  have hm : binD .add (.list A) (.list C) = some (.list (A ++ C), true) := by
    show (if A.length + C.length ≤ lim then some (PyData.list (A ++ C), true) else none) = _
    rw [if_pos (Nat.le_trans hl (by decide))]
  have n2 : noLs (A ++ C) = true := noLs_app na nl
  show exS F false [] (.asg (.var 2) (.bin .add (.var 2) x26_1)) _ h = _
  generalize x26_1 = X at g ⊢
  simp [g, hm, n2]
theorem y26d (R S : List PD) (e : srtD R = some S) (nl : noLs S = true) : fin (exSs F false [] p26t3 [tpS [.int k, .tuple DS], sD B, sO R, sI k, tpS Z, none, none] h) = .ok (.d (.tuple [.int k, .int k, B, .tuple S])) true h := by
  simp [p26t3, p26s3, e, nl]
theorem c26 (ds : List Dd) (hl : ds.length ≤ 1000) : ev F [] x26_0 [tpS [.int k, dsT ds], sD B, none, sI k, tpS Z, none, none] h = .ok ⟨.d (.list (ds.map fun d => PyData.tuple [.int d.pl, .tuple Z, iT d.la])), true, []⟩ [tpS [.int k, dsT ds], sD B, none, sI k, tpS Z, none, none] h := by
  refine lcD (it := .ix (.var 0) (.c (.int 1))) (E := [tpS [.int k, dsT ds], sD B, none, sI k, tpS Z, none, none]) (fun a l => .tuple [a, .tuple Z, l]) (by simp [ixV]) hl (fun i hi => rfl) rfl rfl (fun a l => ?_) (fun a l => rfl) rfl
  generalize dsT ds = DS
  simp
theorem c26e (S : PD) (A : List PD) (i : Int) (U : List PD) (lk : List Nat) (e : F 23 [.d (.int k), .d (.int i)] h = .ok (.d (.tuple U)) true h) (nu : noLs U = true) : ev F lk (.tup [.var 5, .call 23 [.var 3, .var 5], .var 4]) [tpS [.int k, S], sD B, sO A, sI k, tpS Z, sI i, none] h = .ok ⟨.d (.tuple [.int i, .tuple U, .tuple Z]), true, []⟩ [tpS [.int k, S], sD B, sO A, sI k, tpS Z, sI i, none] h := by
  simp [e, nu]
end
theorem c26x (h : Hx) (m : Nat) (S B : PD) (Z A : List PD) (k : Nat) (k3 : k ≤ 3) : ev (run D (m + 1)) [2] x26_1 [tpS [.int k, S], sD B, sO A, sI k, tpS Z, none, none] h = .ok ⟨.d (.list ((List.range k).map fun (p : Nat) => PyData.tuple [.int (p : Int), iT (unitL k p), .tuple Z])), true, []⟩ [tpS [.int k, S], sD B, sO A, sI k, tpS Z, none, none] h := by
  refine lcR (N := k) (fr := false) (E := [tpS [.int k, S], sD B, sO A, sI k, tpS Z, none, none]) (fun (p : Nat) => PyData.tuple [.int (p : Int), iT (unitL k p), .tuple Z]) (by simp) (by omega) rfl rfl rfl (fun _ => rfl) (fun i hi => ⟨true, ?_⟩) rfl rfl
  exact c26e _ h B Z k S A i ((unitL k i).map .int) _ (e23 m k i (by omega) h) (noLs_ints _)
theorem e26 (m : Nat) {k : Nat} {ds : List Dd} (N : Net k ds) (b : List Int) (rs : List Ru) (e : srtD ((R1 k ds ++ R2 k).map ruT) = some (rs.map ruT)) (h : Hx) : run D (m + 2) 26 [.d (ntT k ds), .d (iT b)] h = .ok (.d (grT k k b rs)) true h := by
  have k3 := N.k3
  have d4 := N.d4
  have q1 := c26 (run D (m + 1)) h (iT b) ((zer k).map .int) k ds (by omega)
  have m1 : (ds.map fun d => PyData.tuple [.int d.pl, .tuple ((zer k).map .int), iT d.la]) = (R1 k ds).map ruT := by
    rw [R1, List.map_map]
    rfl
  rw [m1] at q1
  have q2 := c26x h m (dsT ds) (iT b) ((zer k).map .int) ((R1 k ds).map ruT) k k3
  have m2 : ((List.range k).map fun (p : Nat) => PyData.tuple [.int (p : Int), iT (unitL k p), .tuple ((zer k).map .int)]) = (R2 k).map ruT := (R2_map k).symm
  rw [m2] at q2
  have s1 := y26a (run D (m + 1)) h (iT b) ((zer k).map .int) (ds.map dT) k (mul0 k (by omega))
  rw [List.map_append] at e
  rw [u26, bp26, show (p26 : List MS) = p26s0 :: p26s1 :: p26s2 :: p26t3 from rfl]
  rw [ss_next s1, ss_next (y26b _ h _ _ _ k _ q1), ss_next (y26c _ h _ _ _ k _ _ (by simp [R1, R2]; omega) (noLs_ru _) (noLs_ru _) q2)]
  exact y26d _ h _ _ _ k _ _ e (noLs_ru _)
end Mi.K51
namespace Mi.K51
open PySem Mi.Sk
/-! net_of -/
section
variable (F : Fns) (h : Hx)
theorem x11a (k : Int) (V : PD) (e : F 1 [.d (.int k), .d (.int 1), .d (.int 3)] h = .ok (.d (.bool true)) true h) : exS F false [] p11s0 [sI k, sD V, none] h = .ok .next [sI k, sD V, none] h := by simp [p11s0, e]
theorem x11b (k : Int) (V x : PD) (fr : Bool) (e : F 7 [.d (.int k), .d x] h = .ok (.d (.bool true)) fr h) : exSs F false [] p11w1 [sI k, sD V, sD x] h = .ok .next [sI k, sD V, sD x] h := by simp [p11w1, p11w1s0, e]
theorem x11c (k : Int) (L S : List PD) (V : PD) (hV : V = .list L ∨ V = .tuple L) (t : Option Slot) (e : ssetD L = some S) (nl : noLs S = true) : fin (exSs F false [] p11t2 [sI k, sD V, t] h) = .ok (.d (.tuple [.int k, .tuple S])) true h := by
  rcases hV with rfl | rfl <;> simp [p11t2, p11s2, e, nl]
end
theorem noLs_dd : ∀ R : List Dd, noLs (R.map dT) = true := fun R => noLs_all _ fun x hx => by
  obtain ⟨r, _, rfl⟩ := List.mem_map.mp hx
  show (true && (noLs (r.la.map .int) && true)) = true
  rw [noLs_ints]; rfl
theorem loop11 (m : Nat) {k : Nat} (k3 : k ≤ 3) (V : PD) (h : Hx) : ∀ (xs : List Dd) (s2 : Option Slot), (∀ d ∈ xs, DdOk k d) → ∃ t2, frL (.var 2) (exSs (run D (m + 4)) false [] p11w1) (xs.map dT) [sI k, sD V, s2] h = .ok .next [sI k, sD V, t2] h
  | [], s2, _ => ⟨s2, rfl⟩
  | d :: r, s2, ok => by
    obtain ⟨t2, e⟩ := loop11 m k3 V h r (sD (dT d)) fun z hz => ok z (List.mem_cons_of_mem _ hz)
    have o := ok d List.mem_cons_self
    obtain ⟨fr, q⟩ := e7 m k (dT d) (tm_dd k3 o) h
    rw [dd_is o] at q
    exact ⟨t2, (frL_cons (env1 := [sI k, sD V, sD (dT d)]) rfl (x11b _ h k V (dT d) fr q)).trans e⟩
theorem e11 (m : Nat) {k : Nat} {ds : List Dd} (N : Net k ds) (M : List Dd) (hM : ∀ d, d ∈ M ↔ d ∈ ds) (ml : M.length < 64) (V : PD) (hV : V = .list (M.map dT) ∨ V = .tuple (M.map dT)) (h : Hx) : run D (m + 5) 11 [.d (.int k), .d V] h = .ok (.d (ntT k ds)) true h := by
  have k1 := N.k1
  have k3 := N.k3
  have a := e1 (m + 2) (.int k) 1 3 h
  have b : btw (.int k) 1 3 = true := by simp [btw]; omega
  rw [b] at a
  obtain ⟨rs, e, mem, _, pw⟩ := sset_rw dT_ok M ml
  have er : rs = ds := asc_one dT_ok pw N.asc fun x => (mem x).trans (hM x)
  rw [er] at e
  obtain ⟨t2, lp⟩ := loop11 m k3 V h M none fun d hd => N.ok d ((hM d).mp hd)
  have it : evi (run D (m + 4)) [] (.val (.var 1)) [sI k, sD V, none] h = .ok (M.map dT, []) [sI k, sD V, none] h := by
    refine val2 (f1 := false) (l1 := []) (A := V) (by simp) ?_
    rcases hV with rfl | rfl <;> rfl
  rw [u11, bp11, show (p11 : List MS) = p11s0 :: p11s1 :: p11t2 from rfl]
  refine (congrArg fin ((ss_next (x11a (run D (m + 4)) h k V a)).trans (ss_next (for0 it lp)))).trans ?_
  exact x11c _ h k _ _ V hV t2 e (noLs_dd _)
/-! _law_mixed -/
theorem rng_len (k : Nat) : (rngD 0 (k : Int)).length = k := by rw [rng0]; simp
theorem okEq_dd (R : List Dd) : okEq (.list (R.map dT)) = true := by
  have p : ∀ R : List Dd, PyData.plainAll (R.map dT) = true := by
    intro R
    induction R with
    | nil => rfl
    | cons d r ih =>
      show ((true && (PyData.plainAll (d.la.map .int) && true)) && PyData.plainAll (r.map dT)) = true
      rw [plain_ints, ih]; rfl
  have q : ∀ R : List Dd, PyData.depthAll (R.map dT) ≤ 2 := by
    intro R
    induction R with
    | nil => decide
    | cons d r ih =>
      have := dT_ok.dp d
      show max (max 0 (max (PyData.depthAll (d.la.map .int) + 1) 0) + 1) (PyData.depthAll (r.map dT)) ≤ 2
      rw [depthI_ints]
      omega
  unfold okEq
  have e1 : PyData.plain (.list (R.map dT)) = true := p R
  have e2 : PyData.depth (.list (R.map dT)) ≤ 50 := by
    have := q R
    show PyData.depthAll (R.map dT) + 1 ≤ 50
    omega
  rw [e1, decide_eq_true e2]; rfl
theorem ne_nil (R : List Dd) : cmpD .ne (.list (R.map dT)) (.list []) = some (!R.isEmpty) := by
  show Option.map (!·) (if okEq (.list (R.map dT)) && okEq (.list []) then some (PyData.eqv (.list (R.map dT)) (.list [])) else none) = _
  rw [okEq_dd, show okEq (.list []) = true from rfl]
  cases R <;> rfl
section
variable (F : Fns) (h h1 : Hx) (V : PD) (s2 : Option Slot)
theorem y27a (L : List PD) : exS F false [] p27s0 [bx, tpS L, none, none, none] h = .ok .next [bx, tpS L, none, sO L, sO []] h := by
  simp [p27s0, parV]
  rfl
theorem y27b (A : List PD) (i : Int) (fr : Bool) (x : PD) (s4 : Option Slot) (hl : A.length < 1000) (nx : noL x = true) (e : F 20 [.box 0, .d (.int A.length)] h = .ok (.d (.int i)) fr h1) (a : L2.atI A i = some x) (lnx : ∀ l, lnOf (.d x) false l = []) : exSs F false [] p27w1 [bx, sD V, s2, sO A, s4] h = .ok .next [bx, sD V, s2, sO (A ++ [x]), s4] h1 := by
  have ma : mutD .append A [x] = some (A ++ [x], .none) := by
    show (if A.length < lim then _ else _) = _
    rw [if_pos (Nat.lt_of_lt_of_le hl (by decide))]
  simp [p27w1, p27w1s0, ownL, mmV, e, a, ma, lnx]
theorem y27c (M L : List PD) (j : Nat) (J N : Int) (hN : (L.length : Int) = N) (x : PD) (fr : Bool) (hm : M.length < lim) (e : F 20 [.box 0, .d (.int N)] h = .ok (.d (.int J)) fr h1) (rk : rngOk J = true) (ix : L2.ixN L.length J = some j) (g : L[j]? = some x) : exSs F false [] p27w2 [bx, sD V, s2, sO L, sO M] h = .ok .next [bx, sD V, s2, sO (L.eraseIdx j), sO (M ++ [x])] h1 := by
  have mu : mutD .pop L [.int J] = some (L.eraseIdx j, x) := by
    unfold mutD
    simp only [rk, if_true, ix, g]
  have ma : mutD .append M [x] = some (M ++ [x], .none) := by
    show (if M.length < lim then _ else _) = _
    rw [if_pos hm]
  generalize L.eraseIdx j = L' at mu ⊢
  simp [p27w2, p27w2s0, ownL, mmV, mu, ma, hN, e]
theorem y27d (M : List PD) (s3 : Option Slot) : fin (exSs F false [] p27t3 [bx, sD V, s2, s3, sO M] h) = .ok (.d (.list M)) true h := by
  simp [p27t3, p27s3]
theorem y27e (L : List PD) (b : Bool) (s4 : Option Slot) (n : cmpD .ne (.list L) (.list []) = some b) (i : Int) (fr : Bool) (h2 : Hx) (e : b = true → F 20 [.box 0, .d (.int 3)] h = .ok (.d (.int i)) fr h2) (z : b = false → i = 0 ∧ h2 = h) : ∃ fr', ev F [] (.ite (.cmp .ne (.var 3) (.lst [])) (.call 20 [.var 0, .c (.int 3)]) (.c (.int 0))) [bx, sD V, s2, sO L, s4] h = .ok ⟨.d (.int i), fr', []⟩ [bx, sD V, s2, sO L, s4] h2 := by
  cases b with
  | true =>
    have := e rfl
    exact ⟨fr, by simp [n, this]⟩
  | false =>
    obtain ⟨rfl, rfl⟩ := z rfl
    exact ⟨false, by simp [n]⟩
theorem y27n (L : List PD) (s4 : Option Slot) : ev F [] (.bi .len [.var 3]) [bx, sD V, s2, sO L, s4] h = .ok ⟨.d (.int L.length), true, []⟩ [bx, sD V, s2, sO L, s4] h := by simp
end
theorem map_erase {α β : Type} (f : α → β) : ∀ (l : List α) (j : Nat), (l.map f).eraseIdx j = (l.eraseIdx j).map f
  | [], _ => rfl
  | _ :: _, 0 => rfl
  | a :: l, j + 1 => by
    show f a :: (l.map f).eraseIdx j = f a :: (l.eraseIdx j).map f
    rw [map_erase f l j]
theorem erase_perm {α : Type} : ∀ (l : List α) (j : Nat) (x : α), l[j]? = some x → (x :: l.eraseIdx j).Perm l
  | [], _, _, h => by simp at h
  | a :: l, 0, x, h => by
    simp at h
    subst h
    exact List.Perm.refl _
  | a :: l, j + 1, x, h => by
    have ih := erase_perm l j x (by simpa using h)
    show (x :: a :: l.eraseIdx j).Perm (a :: l)
    exact (List.Perm.swap a x _).trans (ih.cons a)
theorem loopA (m : Nat) (ds : List Dd) (V : PD) (s4 : Option Slot) : ∀ (xs : List PD) (L : List Dd) (s2 : Option Slot) (h : Hx), Urn h → (xs ≠ [] → L ≠ []) → L.length + xs.length ≤ 100 → (∀ d, d ∈ L ↔ d ∈ ds) → ∃ (L' : List Dd) (t2 : Option Slot) (h' : Hx), frL (.var 2) (exSs (run D (m + 1)) false [] p27w1) xs [bx, sD V, s2, sO (L.map dT), s4] h = .ok .next [bx, sD V, t2, sO (L'.map dT), s4] h' ∧ L'.length = L.length + xs.length ∧ (∀ d, d ∈ L' ↔ d ∈ ds) ∧ Urn h'
  | [], L, s2, h, u, _, _, mem => ⟨L, s2, h, rfl, by simp, mem, u⟩
  | x :: r, L, s2, h, u, ne, hl, mem => by
    have ne' : L ≠ [] := ne (by simp)
    rw [List.length_cons] at hl
    have l0 : 0 < L.length := List.length_pos_iff.mpr ne'
    obtain ⟨j0, f2, h2, p2, j1, j2, u2⟩ := pick m (L.length : Int) (by omega) (log_small (by omega) (by omega)) u
    obtain ⟨j, rfl⟩ : ∃ j : Nat, j0 = j := ⟨j0.toNat, by omega⟩
    have lj : j < L.length := by omega
    have q := y27b (run D (m + 1)) h h2 V (sD x) (L.map dT) j f2 (dT (nthR L j)) s4 (by rw [List.length_map]; omega) (by show (true && (noLs ((nthR L j).la.map .int) && true)) = true; rw [noLs_ints]; rfl) (by rw [List.length_map]; exact p2) (at_nthR dT lj) fun l => lnOf_tuple_ (by show (true && (noLs ((nthR L j).la.map .int) && true)) = true; rw [noLs_ints]; rfl)
    rw [show L.map dT ++ [dT (nthR L j)] = (L ++ [nthR L j]).map dT by rw [List.map_append]; rfl] at q
    obtain ⟨L', t2, h', e, ll, mem', u'⟩ := loopA m ds V s4 r (L ++ [nthR L j]) (sD x) h2 u2 (fun _ => by simp) (by simp; omega) (fun d => by
      rw [List.mem_append, List.mem_singleton, mem]
      exact ⟨fun z => z.elim id fun z => by rw [z]; exact (mem _).mp (List.mem_of_getElem? (nthR_mem lj)), .inl⟩)
    exact ⟨L', t2, h', (frL_cons (env1 := [bx, sD V, sD x, sO (L.map dT), s4]) rfl q).trans e, by rw [ll]; simp; omega, mem', u'⟩
theorem loopB (m : Nat) (L0 : List Dd) (l0 : L0.length ≤ 100) (V : PD) (s2 : Option Slot) (h : Hx) (u : Urn h) : ∃ (M : List Dd) (t2 t3 : Option Slot) (h' : Hx), exS (run D (m + 1)) false [] p27s2 [bx, sD V, s2, sO (L0.map dT), sO []] h = .ok .next [bx, sD V, t2, t3, sO (M.map dT)] h' ∧ M.Perm L0 ∧ Urn h' := by
  have i0 := y27n (run D (m + 1)) h V s2 (L0.map dT) (sO [])
  rw [List.length_map] at i0
  obtain ⟨env', h', e, M, t2, t3, rfl, pm, u'⟩ := frL_inv (p := .var 2) (body := exSs (run D (m + 1)) false [] p27w2)
    (fun rest env h => ∃ (M L : List Dd) (s2 : Option Slot), env = [bx, sD V, s2, sO (L.map dT), sO (M.map dT)] ∧ L.length = rest.length ∧ (M ++ L).Perm L0 ∧ Urn h)
    (Fin := fun env h => ∃ (M : List Dd) (t2 t3 : Option Slot), env = [bx, sD V, t2, t3, sO (M.map dT)] ∧ M.Perm L0 ∧ Urn h)
    (fun env h ⟨M, L, s4, e1, e2, e3, e4⟩ => ⟨M, s4, _, e1, by
      have : L = [] := by simpa using e2
      rw [this, List.append_nil] at e3
      exact e3, e4⟩)
    (fun x r env h ⟨M, L, s4, e1, e2, e3, e4⟩ => by
      subst e1
      rw [List.length_cons] at e2
      have ml : M.length + L.length = L0.length := by rw [← e3.length_eq, List.length_append]
      obtain ⟨j0, f2, h2, p2, j1, j2, u2⟩ := pick m (L.length : Int) (by omega) (log_small (by omega) (by omega)) e4
      obtain ⟨j, rfl⟩ : ∃ j : Nat, j0 = j := ⟨j0.toNat, by omega⟩
      have lj : j < L.length := by omega
      have gj : L[j]? = some L[j] := List.getElem?_eq_getElem lj
      have q := y27c (run D (m + 1)) h h2 V (sD x) (M.map dT) (L.map dT) j (j : Int) (L.length : Int) (by rw [List.length_map]) (dT L[j]) f2 (by rw [List.length_map]; exact Nat.lt_of_le_of_lt (show M.length ≤ 100 by omega) (by decide)) p2 (rngOk_nat (by omega)) (by rw [List.length_map]; exact ixN_nat lj) (by rw [List.getElem?_map, gj]; rfl)
      rw [map_erase] at q
      refine ⟨_, rfl, .inl ⟨_, h2, q, M ++ [L[j]], L.eraseIdx j, sD x, by rw [List.map_append]; rfl, by rw [List.length_eraseIdx, if_pos lj]; omega, ?_, u2⟩⟩
      rw [List.append_assoc]
      exact (List.Perm.append_left M (erase_perm L j _ gj)).trans e3) (xs := rngD 0 (L0.length : Int)) (env := [bx, sD V, s2, sO (L0.map dT), sO []]) (h := h) ⟨[], L0, s2, rfl, by rw [rng_len], by simp, u⟩
  exact ⟨M, t2, t3, h', for0 (rng1_ok (j := (L0.length : Int)) i0 (rngOk_nat (by omega))) e, pm, u'⟩
theorem e27 (m : Nat) (ds : List Dd) (d4 : ds.length ≤ 4) (h : Hx) (u : Urn h) : ∃ (M : List Dd) (h' : Hx), run D (m + 2) 27 [.box 0, .d (dsT ds)] h = .ok (.d (.list (M.map dT))) true h' ∧ (∀ d, d ∈ M ↔ d ∈ ds) ∧ M.length ≤ 10 ∧ Urn h' := by
  rw [u27, bp27, show (p27 : List MS) = p27s0 :: p27s1 :: p27s2 :: p27t3 from rfl]
  obtain ⟨i, fr, h1, ei, i0, i3, iz, u1⟩ : ∃ (i : Nat) (fr : Bool) (h1 : Hx), ev (run D (m + 1)) [] (.ite (.cmp .ne (.var 3) (.lst [])) (.call 20 [.var 0, .c (.int 3)]) (.c (.int 0))) [bx, tpS (ds.map dT), none, sO (ds.map dT), sO []] h = .ok ⟨.d (.int i), fr, []⟩ [bx, tpS (ds.map dT), none, sO (ds.map dT), sO []] h1 ∧ 0 ≤ i ∧ i < 3 ∧ (ds = [] → i = 0) ∧ Urn h1 := by
    by_cases z : ds = []
    · obtain ⟨fr, e⟩ := y27e (run D (m + 1)) h (.tuple (ds.map dT)) none (ds.map dT) _ (sO []) (ne_nil ds) 0 true h (fun w => by rw [z] at w; cases w) (fun _ => ⟨rfl, rfl⟩)
      exact ⟨0, fr, h, e, by omega, by omega, fun _ => rfl, u⟩
    · obtain ⟨j, f2, h2, p2, j1, j2, u2⟩ := pick m 3 (by omega) (by decide) u
      obtain ⟨fr, e⟩ := y27e (run D (m + 1)) h (.tuple (ds.map dT)) none (ds.map dT) _ (sO []) (ne_nil ds) j f2 h2 (fun _ => p2) (fun w => absurd w (by cases ds <;> simp at z ⊢))
      obtain ⟨j, rfl⟩ : ∃ i : Nat, j = i := ⟨j.toNat, by omega⟩
      exact ⟨j, fr, h2, e, by omega, by omega, fun w => absurd w z, u2⟩
  obtain ⟨L, t2, h2, e2, ll, mem, u2⟩ := loopA m ds (.tuple (ds.map dT)) (sO []) (rngD 0 (i : Int)) ds none h1 u1 (fun w z => by rw [iz z] at w; exact w rfl) (by rw [rng_len]; omega) fun _ => Iff.rfl
  rw [rng_len] at ll
  obtain ⟨M, t2', t3, h3, e3, pm, u3⟩ := loopB m L (by omega) (.tuple (ds.map dT)) t2 h2 u2
  refine ⟨M, h3, ?_, fun d => (pm.mem_iff).trans (mem d), by rw [pm.length_eq]; omega, u3⟩
  refine (congrArg fin ((ss_next (y27a (run D (m + 1)) h (ds.map dT))).trans ((ss_next (for0 (rng1_ok ei (rngOk_nat (by omega))) e2)).trans (ss_next e3)))).trans ?_
  exact y27d _ h3 _ _ _ _
end Mi.K51
namespace Mi.K51
open PySem Mi.Sk
/-! bent nets are none -/
def bad1 (K S : PD) (DS : List PD) : List PD := [.none, .int 0, .str "", .tuple [], .tuple [K], .tuple [K, S, .int 0], .list [K, S], .tuple [.int 0, S], .tuple [.int 4, S], .tuple [.bool true, .tuple []], .tuple [.str "1", .tuple []], .tuple [K, .list DS], .tuple [K, .none]]
def odd1 (K Z : PD) : List PD := [.none, .tuple [], .tuple [.int 0], .tuple [.int 0, Z, .int 0], .list [.int 0, Z], .tuple [K, Z], .tuple [.int (-1), Z], .tuple [.bool false, Z]]
def odd2 (k : Nat) : List PD := [.tuple [.int 0, .tuple (List.replicate (k + 1) (.int 0))], .tuple [.int 0, .tuple (List.replicate (k - 1) (.int 0))], .tuple [.int 0, .list (List.replicate k (.int 0))], .tuple [.int 0, .tuple (List.replicate k (.int (-1)))], .tuple [.int 0, .tuple (List.replicate k (.bool true))], .tuple [.int 0, .none]]
def bad2 (K : PD) (o : List PD) : List PD := o.map fun x => .tuple [K, .tuple [x]]
theorem T2 {d : Nat} {a b : PD} (ha : tm d a = true) (hb : tm d b = true) : tm (d + 1) (.tuple [a, b]) = true := by
  refine (tm_seq (d := d) (by simp) fun x hx => ?_).1
  simp only [List.mem_cons, List.not_mem_nil, or_false] at hx
  rcases hx with rfl | rfl <;> assumption
theorem T3 {d : Nat} {a b c : PD} (ha : tm d a = true) (hb : tm d b = true) (hc : tm d c = true) : tm (d + 1) (.tuple [a, b, c]) = true := by
  refine (tm_seq (d := d) (by simp) fun x hx => ?_).1
  simp only [List.mem_cons, List.not_mem_nil, or_false] at hx
  rcases hx with rfl | rfl | rfl <;> assumption
theorem T1 {d : Nat} {a : PD} (ha : tm d a = true) : tm (d + 1) (.tuple [a]) = true := by
  refine (tm_seq (d := d) (by simp) fun x hx => ?_).1
  rw [List.mem_singleton.mp hx]
  exact ha
theorem tm_app {d : Nat} {xs ys : List PD} (hl : xs.length + ys.length ≤ 10) (h : ∀ x ∈ xs, tm d x = true) (hy : ∀ x ∈ ys, tm d x = true) : tm (d + 1) (.tuple (xs ++ ys)) = true := (tm_seq (by rw [List.length_append]; exact hl) fun x hx => (List.mem_append.mp hx).elim (h x) (hy x)).1
theorem tm_rep {d n : Nat} {x : PD} (hn : n ≤ 10) (h : tm d x = true) : tm (d + 1) (.tuple (List.replicate n x)) = true ∧ tm (d + 1) (.list (List.replicate n x)) = true := tm_seq (by simp; exact hn) fun y hy => by rw [(List.mem_replicate.mp hy).2]; exact h
section
variable {k : Nat} {ds : List Dd} (N : Net k ds)
include N
theorem tmK {d : Nat} : tm d (.int k) = true := tmI (by have := N.k3; omega)
theorem tmDs : ∀ x ∈ ds.map dT, tm 2 x = true := fun x hx => by
  obtain ⟨r, hr, rfl⟩ := List.mem_map.mp hx
  exact tm_dd N.k3 (N.ok r hr)
theorem tmS : tm 3 (dsT ds) = true := (tm_seq (by rw [List.length_map]; have := N.d4; omega) (tmDs N)).1
theorem bad1_ok : ∀ x ∈ bad1 (.int k) (dsT ds) (ds.map dT), Bad x := fun x hx => by
  have a := tmK N (d := 3)
  have s := tmS N
  simp only [bad1, List.mem_cons, List.not_mem_nil, or_false] at hx
  rcases hx with rfl | rfl | rfl | rfl | rfl | rfl | rfl | rfl | rfl | rfl | rfl | rfl | rfl
  · exact ⟨rfl, fun _ _ e => by cases e⟩
  · exact ⟨rfl, fun _ _ e => by cases e⟩
  · exact ⟨by decide, fun _ _ e => by cases e⟩
  · exact ⟨rfl, fun _ _ e => by cases e⟩
  · exact ⟨T1 a, fun _ _ e => by cases e⟩
  · exact ⟨T3 a s rfl, fun _ _ e => by cases e⟩
  · refine ⟨(tm_seq (d := 3) (by simp) fun x hx => ?_).2, fun _ _ e => by cases e⟩
    simp only [List.mem_cons, List.not_mem_nil, or_false] at hx
    rcases hx with rfl | rfl <;> assumption
  · exact ⟨T2 rfl s, fun _ _ e => by cases e; exact .inl rfl⟩
  · exact ⟨T2 rfl s, fun _ _ e => by cases e; exact .inl rfl⟩
  · exact ⟨by decide, fun _ _ e => by cases e; exact .inl rfl⟩
  · exact ⟨by decide, fun _ _ e => by cases e; exact .inl rfl⟩
  · refine ⟨T2 a (tm_seq (by rw [List.length_map]; have := N.d4; omega) (tmDs N)).2, fun _ _ e => by cases e; exact .inr (.inl rfl)⟩
  · exact ⟨T2 a rfl, fun _ _ e => by cases e; exact .inr (.inl rfl)⟩
theorem odd_ok : ∀ x ∈ odd1 (.int k) (.tuple (List.replicate k (.int 0))) ++ odd2 k, tm 2 x = true ∧ isDd k x = false := fun x hx => by
  have k1 := N.k1
  have k3 := N.k3
  have a := tmK N (d := 1)
  have z := (tm_rep (d := 0) (n := k) (x := .int 0) (by omega) rfl).1
  have pr : ∀ A B : PD, btw A 0 ((k : Int) - 1) = false ∨ areN B k = false → isDd k (.tuple [A, B]) = false := fun A B q => by
    show (btw A 0 ((k : Int) - 1) && areN B k) = false
    rcases q with q | q <;> rw [q] <;> simp
  obtain ⟨j, rfl⟩ : ∃ j, k = j + 1 := ⟨k - 1, by omega⟩
  simp only [odd1, odd2, List.cons_append, List.nil_append, List.mem_cons, List.not_mem_nil, or_false] at hx
  rcases hx with rfl | rfl | rfl | rfl | rfl | rfl | rfl | rfl | rfl | rfl | rfl | rfl | rfl | rfl
  · exact ⟨rfl, rfl⟩
  · exact ⟨rfl, rfl⟩
  · exact ⟨rfl, rfl⟩
  · exact ⟨T3 rfl z rfl, rfl⟩
  · refine ⟨(tm_seq (d := 1) (by simp) fun x hx => ?_).2, rfl⟩
    simp only [List.mem_cons, List.not_mem_nil, or_false] at hx
    rcases hx with rfl | rfl
    · rfl
    · exact z
  · exact ⟨T2 a z, pr _ _ (.inl (by simp [btw]; omega))⟩
  · exact ⟨T2 rfl z, pr _ _ (.inl rfl)⟩
  · exact ⟨T2 rfl z, pr _ _ (.inl rfl)⟩
  · exact ⟨T2 rfl (tm_rep (by omega) rfl).1, pr _ _ (.inr (by
      show (decide (((List.replicate (j + 1 + 1) (PyData.int 0)).length : Int) = ((j + 1 : Nat) : Int)) && _) = false
      rw [List.length_replicate, decide_eq_false (by omega)]; rfl))⟩
  · exact ⟨T2 rfl (tm_rep (by omega) rfl).1, pr _ _ (.inr (by
      show (decide (((List.replicate (j + 1 - 1) (PyData.int 0)).length : Int) = ((j + 1 : Nat) : Int)) && _) = false
      rw [List.length_replicate, decide_eq_false (by omega)]; rfl))⟩
  · exact ⟨T2 rfl (tm_rep (by omega) rfl).2, pr _ _ (.inr rfl)⟩
  · exact ⟨T2 rfl (tm_rep (by omega) rfl).1, pr _ _ (.inr (by
      show (_ && (List.replicate (j + 1) (PyData.int (-1))).all natI) = false
      rw [List.replicate_succ, List.all_cons]
      simp [natI]))⟩
  · exact ⟨T2 rfl (tm_rep (by omega) rfl).1, pr _ _ (.inr (by
      show (_ && (List.replicate (j + 1) (PyData.bool true)).all natI) = false
      rw [List.replicate_succ, List.all_cons]
      simp [natI]))⟩
  · exact ⟨T2 rfl rfl, pr _ _ (.inr rfl)⟩
theorem bad2_ok (o : List PD) (ho : ∀ x ∈ o, tm 2 x = true ∧ isDd k x = false) : ∀ x ∈ bad2 (.int k) o, Bad x := fun x hx => by
  obtain ⟨y, hy, rfl⟩ := List.mem_map.mp hx
  obtain ⟨h1, h2⟩ := ho y hy
  refine ⟨T2 (tmK N) (T1 h1), fun _ _ e => ?_⟩
  cases e
  refine .inr (.inr (.inl ⟨_, _, rfl, rfl, ?_⟩))
  rw [List.all_cons, h2]; rfl
theorem bad3_ok (y : PD) (h1 : tm 2 y = true) (h2 : isDd k y = false) : Bad (.tuple [.int k, .tuple (ds.map dT ++ [y])]) := by
  refine ⟨T2 (tmK N) (tm_app (by have := N.d4; simp; omega) (tmDs N) fun x hx => by rw [List.mem_singleton.mp hx]; exact h1), fun _ _ e => ?_⟩
  cases e
  refine .inr (.inr (.inl ⟨_, _, rfl, rfl, ?_⟩))
  rw [List.all_append, List.all_cons, h2]
  simp
/-- rows of deeds that do not ascend -/
theorem badR (R : List Dd) (hl : R.length ≤ 10) (ok : ∀ d ∈ R, DdOk k d) (na : ascR dT R = false) : Bad (.tuple [.int k, .tuple (R.map dT)]) := by
  refine ⟨T2 (tmK N) (tm_seq (by rw [List.length_map]; exact hl) fun x hx => ?_).1, fun _ _ e => ?_⟩
  · obtain ⟨r, hr, rfl⟩ := List.mem_map.mp hx
    exact tm_dd N.k3 (ok r hr)
  · cases e
    exact .inr (.inr (.inr ⟨R, rfl, na⟩))
theorem not_lt {i j : Nat} (h : i ≤ j) (hj : j < ds.length) : W.dataLt (dT (nthR ds j)) (dT (nthR ds i)) = false := by
  by_cases e : i = j
  · subst e
    cases c : W.dataLt (dT (nthR ds i)) (dT (nthR ds i)) with
    | false => rfl
    | true => exact absurd c (ltR_irr dT_ok)
  · have z := List.pairwise_iff_getElem.mp N.asc i j (by omega) hj (by omega)
    rw [nthR_get hj, nthR_get (show i < ds.length by omega)]
    exact lt_asymm z
theorem bad4a (ne : ds ≠ []) : Bad (.tuple [.int k, .tuple (ds.map dT ++ (ds.map dT).drop (ds.length - 1))]) := by
  have l0 : 0 < ds.length := List.length_pos_iff.mpr ne
  have d4 := N.d4
  have e : ds.map dT ++ (ds.map dT).drop (ds.length - 1) = (ds ++ ds.drop (ds.length - 1)).map dT := by rw [List.map_append, List.map_drop]
  rw [e]
  refine badR N _ (by simp; omega) (fun d hd => (List.mem_append.mp hd).elim (N.ok d) fun z => N.ok d (List.mem_of_mem_drop z)) (ascR_not (ds.length - 1) (by simp; omega) ?_)
  have e1 : nthR (ds ++ ds.drop (ds.length - 1)) (ds.length - 1) = nthR ds (ds.length - 1) := by
    rw [nthR_get (by simp; omega), nthR_get (show ds.length - 1 < ds.length by omega), List.getElem_append_left]
  have e2 : nthR (ds ++ ds.drop (ds.length - 1)) (ds.length - 1 + 1) = nthR ds (ds.length - 1) := by
    rw [nthR_get (by simp; omega), nthR_get (show ds.length - 1 < ds.length by omega), List.getElem_append_right (by omega), List.getElem_drop]
    congr 1
    omega
  rw [e1, e2]
  exact not_lt N (Nat.le_refl _) (by omega)
theorem bad4b (ne : ds ≠ []) : Bad (.tuple [.int k, .tuple ((ds.map dT).take 1 ++ ds.map dT)]) := by
  have l0 : 0 < ds.length := List.length_pos_iff.mpr ne
  have d4 := N.d4
  have e : (ds.map dT).take 1 ++ ds.map dT = (ds.take 1 ++ ds).map dT := by rw [List.map_append, List.map_take]
  rw [e]
  refine badR N _ (by simp; omega) (fun d hd => (List.mem_append.mp hd).elim (fun z => N.ok d (List.mem_of_mem_take z)) (N.ok d)) (ascR_not 0 (by simp; omega) ?_)
  obtain ⟨d, r, rfl⟩ : ∃ d r, ds = d :: r := by cases ds with | nil => exact absurd rfl ne | cons d r => exact ⟨d, r, rfl⟩
  exact not_lt N (i := 0) (j := 0) (Nat.le_refl _) (by simp)
theorem bad5a (gt : 1 < ds.length) : Bad (.tuple [.int k, .tuple (ds.map dT).reverse]) := by
  have d4 := N.d4
  rw [← List.map_reverse]
  refine badR N _ (by simp; omega) (fun d hd => N.ok d (List.mem_reverse.mp hd)) (ascR_not 0 (by simp; omega) ?_)
  have e : ∀ i, i < ds.length → nthR ds.reverse i = nthR ds (ds.length - 1 - i) := fun i hi => by
    rw [nthR_get (by simp; exact hi), nthR_get (by omega), List.getElem_reverse]
  rw [e 0 (by omega), e 1 (by omega)]
  exact not_lt N (by omega) (by omega)
theorem bad5b (gt : 1 < ds.length) : Bad (.tuple [.int k, .tuple ((ds.map dT).drop 1 ++ (ds.map dT).take 1)]) := by
  have d4 := N.d4
  have e : (ds.map dT).drop 1 ++ (ds.map dT).take 1 = (ds.drop 1 ++ ds.take 1).map dT := by rw [List.map_append, List.map_drop, List.map_take]
  rw [e]
  refine badR N _ (by simp; omega) (fun d hd => (List.mem_append.mp hd).elim (fun z => N.ok d (List.mem_of_mem_drop z)) (fun z => N.ok d (List.mem_of_mem_take z))) (ascR_not (ds.length - 2) (by simp; omega) ?_)
  have e1 : nthR (ds.drop 1 ++ ds.take 1) (ds.length - 2) = nthR ds (ds.length - 1) := by
    rw [nthR_get (by simp; omega), nthR_get (show ds.length - 1 < ds.length by omega), List.getElem_append_left (by simp; omega), List.getElem_drop]
    congr 1
    omega
  have e2 : nthR (ds.drop 1 ++ ds.take 1) (ds.length - 2 + 1) = nthR ds 0 := by
    rw [nthR_get (by simp; omega), nthR_get (show 0 < ds.length by omega), List.getElem_append_right (by simp; omega), List.getElem_take]
    congr 1
    simp
    omega
  rw [e1, e2]
  exact not_lt N (by omega) (by omega)
end
end Mi.K51
namespace Mi.K51
open PySem Mi.Sk
theorem asg_own {i : Nat} {x : PD} {fr' : Bool} {ln : List Nat} {env : Env} {h : Hx} {s : Slot} (e : env[i]? = some (some s)) (q : ln = [] ∨ ln = [i]) : asgV [] (.var i) ⟨.d x, fr', ln⟩ env h = .ok .next (env.set i (some ⟨.d x, fr' && isMut x⟩)) h := by
  rcases q with rfl | rfl
  · rfl
  · show R.ok Fl.next ((frz1 i env).set i (some ⟨.d x, fr' && isMut x⟩)) h = _
    unfold frz1
    rw [e]
    show R.ok Fl.next ((env.set i _).set i _) h = _
    rw [List.set_set]
theorem lnOf_or {v : Val} {fr : Bool} {i : Nat} {ln : List Nat} (q : ln = [] ∨ ln = [i]) : lnOf v fr ln = [] ∨ lnOf v fr ln = [i] := by
  rcases q with rfl | rfl
  · exact .inl rfl
  · unfold lnOf
    split
    · exact .inl rfl
    · split
      · exact .inl rfl
      · exact .inr rfl
theorem addL' {xs ys : List PD} (hl : xs.length + ys.length ≤ 1000) : binD .add (.list xs) (.list ys) = some (.list (xs ++ ys), true) := by
  show (if xs.length + ys.length ≤ lim then _ else _) = _
  rw [if_pos (Nat.le_trans hl (by decide))]
theorem add_own {F : Fns} {tp : Bool} {i : Nat} {E : MX} {env env' : Env} {h h' : Hx} {xs ys : List PD} {s : Slot} (e : env[i]? = some (some ⟨.d (.list xs), true⟩)) (z : ev F ([i] ++ []) E env h = .ok ⟨.d (.list ys), true, []⟩ env' h') (e' : env'[i]? = some (some s)) (hl : xs.length + ys.length ≤ 1000) : exS F tp [] (.asg (.var i) (.bin .add (.var i) E)) env h = .ok .next (env'.set i (some ⟨.d (.list (xs ++ ys)), true⟩)) h' := by
  have v : ev F [] (.var i) env h = .ok ⟨.d (.list xs), false, [i]⟩ env h := by
    rw [ev_var_, e]; rfl
  rw [exS_asg_, ev_bin_, v]
  simp only [R.bind_ok]
  rw [z]
  simp only [R.bind_ok, two_, addL' hl]
  exact asg_own e' (lnOf_or (.inr rfl))
theorem add_own2 {F : Fns} {tp : Bool} {i : Nat} {E G : MX} {env env' env2 : Env} {h h' h2 : Hx} {xs ys zs : List PD} {s : Slot} (e : env[i]? = some (some ⟨.d (.list xs), true⟩)) (z : ev F ([i] ++ []) E env h = .ok ⟨.d (.list ys), true, []⟩ env' h') (z2 : ∀ lk, lk = [] ∨ lk = [i] → ev F lk G env' h' = .ok ⟨.d (.list zs), true, []⟩ env2 h2) (e' : env2[i]? = some (some s)) (hl : xs.length + ys.length + zs.length ≤ 1000) : exS F tp [] (.asg (.var i) (.bin .add (.bin .add (.var i) E) G)) env h = .ok .next (env2.set i (some ⟨.d (.list (xs ++ ys ++ zs)), true⟩)) h2 := by
  have v : ev F [] (.var i) env h = .ok ⟨.d (.list xs), false, [i]⟩ env h := by
    rw [ev_var_, e]; rfl
  have a : ev F [] (.bin .add (.var i) E) env h = .ok ⟨.d (.list (xs ++ ys)), true, lnOf (.d (.list (xs ++ ys))) true [i]⟩ env' h' := by
    rw [ev_bin_, v]
    simp only [R.bind_ok]
    rw [z]
    simp only [R.bind_ok, two_, addL' (show xs.length + ys.length ≤ 1000 by omega)]
    rfl
  have q := lnOf_or (v := .d (.list (xs ++ ys))) (fr := true) (i := i) (.inr rfl)
  generalize lnOf (.d (.list (xs ++ ys))) true [i] = l at a q
  have g := z2 (l ++ []) (by rw [List.append_nil]; exact q)
  rw [exS_asg_, ev_bin_, a]
  simp only [R.bind_ok]
  rw [g]
  simp only [R.bind_ok, two_, addL' (show (xs ++ ys).length + zs.length ≤ 1000 by rw [List.length_append]; exact hl)]
  rw [List.append_nil]
  exact asg_own e' (lnOf_or q)
abbrev v28 (nt bad odd k s : Option Slot) : Env := [bx, nt, bad, odd, k, s, none]
section
variable (F : Fns) (h : Hx) (DS : List PD) (k : Nat) (nt bad odd s4 s5 : Option Slot)
theorem z0 (K S : PD) : exS F false [] p28s0 (v28 (tpS [K, S]) bad odd s4 s5) h = .ok .next (v28 (tpS [K, S]) bad odd (sD K) (sD S)) h := by
  simp [p28s0]
theorem z1 : exS F false [] p28s1 (v28 (tpS [.int k, .tuple DS]) bad odd (sI k) (tpS DS)) h = .ok .next (v28 (tpS [.int k, .tuple DS]) (sO (bad1 (.int k) (.tuple DS) DS)) odd (sI k) (tpS DS)) h := by
  have c1 : cutD [.int k, .tuple DS] none (some 1) = [.int k] := rfl
  generalize (k : Int) = K at c1 ⊢
  simp [p28s1, part, slD, c1, addT, bad1]
theorem z2 (Z : List PD) (mz : binD .mul (.tuple [.int 0]) (.int k) = some (.tuple Z, true)) (nz : noLs Z = true) : exS F false [] p28s2 (v28 nt bad odd (sI k) s5) h = .ok .next (v28 nt bad (sO (odd1 (.int k) (.tuple Z))) (sI k) s5) h := by
  generalize (k : Int) = K at mz ⊢
  simp [p28s2, mz, odd1]
abbrev O2 : MX := .lst [.tup [.c (.int 0), .bin .mul (.tup [.c (.int 0)]) (.bin .add (.var 4) (.c (.int 1)))], .tup [.c (.int 0), .bin .mul (.tup [.c (.int 0)]) (.bin .sub (.var 4) (.c (.int 1)))], .tup [.c (.int 0), .bin .mul (.lst [.c (.int 0)]) (.var 4)], .tup [.c (.int 0), .bin .mul (.tup [.un .neg (.c (.int 1))]) (.var 4)], .tup [.c (.int 0), .bin .mul (.tup [.c (.bool true)]) (.var 4)], .tup [.c (.int 0), .c .none]]
theorem z3 (K : Int) (A B C E G : List PD) (ma : binD .mul (.tuple [.int 0]) (.int (K + 1)) = some (.tuple A, true)) (mb : binD .mul (.tuple [.int 0]) (.int (K - 1)) = some (.tuple B, true)) (mc : binD .mul (.list [.int 0]) (.int K) = some (.list C, true)) (me : binD .mul (.tuple [.int (-1)]) (.int K) = some (.tuple E, true)) (mg : binD .mul (.tuple [.bool true]) (.int K) = some (.tuple G, true)) (lk : List Nat) : ev F lk O2 (v28 nt bad odd (sI K) s5) h = .ok ⟨.d (.list [.tuple [.int 0, .tuple A], .tuple [.int 0, .tuple B], .tuple [.int 0, .list C], .tuple [.int 0, .tuple E], .tuple [.int 0, .tuple G], .tuple [.int 0, .none]]), true, []⟩ (v28 nt bad odd (sI K) s5) h := by
  simp [ma, mb, mc, me, mg]
theorem el28 (K x : PD) (lk : List Nat) : ev F lk (.tup [.var 4, .tup [.var 6]]) [bx, nt, bad, odd, sD K, s5, sD x] h = .ok ⟨.d (.tuple [K, .tuple [x]]), true, []⟩ [bx, nt, bad, odd, sD K, s5, sD x] h := by simp
theorem noLs_not : ∀ {xs : List PD} {x : PD}, x ∈ xs → noL x = false → noLs xs = false
  | y :: r, x, hx, e => by
    show (noL y && noLs r) = false
    rcases List.mem_cons.mp hx with rfl | hx
    · rw [e]; rfl
    · rw [noLs_not hx e, Bool.and_false]
theorem c28 (K : PD) (o : List PD) (ol : o.length ≤ 1000) (nl : noLs o = false) : ev F [2] x28_0 (v28 nt bad (sO o) (sD K) s5) h = .ok ⟨.d (.list (bad2 K o)), true, []⟩ (v28 nt bad (sD (.list o)) (sD K) s5) h := by
  have fi : frzI o [3] = [3] := by unfold frzI; rw [nl]; rfl
  refine lcK (F := F) (lk := [2]) (own := [6]) (p := .var 6) (it := .val (.var 3)) (elt := .tup [.var 4, .tup [.var 6]]) (h := h) (xs := o) (ln := [3]) (E := v28 nt bad (sD (.list o)) (sD K) s5) (env1 := v28 nt bad (sO o) (sD K) s5) (fun x => .tuple [K, .tuple [x]]) (by simp [itemsV, itemsOf]) ?_ (by rw [fi]; rfl) (fun x _ => ⟨_, _, _, rfl, el28 F h nt bad (sD (.list o)) s5 K x _, rfl, rfl⟩) rfl (by rw [fi]; rfl)
  unfold blkOk
  rw [decide_eq_true (show o.length ≤ lim from Nat.le_trans ol (by decide))]
  rfl
theorem z4 (K : PD) (o : List PD) (i : Int) (fr : Bool) (x : PD) (h1 : Hx) (dl : DS.length ≤ 9) (e : F 20 [.box 0, .d (.int 14)] h = .ok (.d (.int i)) fr h1) (a : L2.atI o i = some x) (lk : List Nat) : ev F lk (.lst [.tup [.var 4, .bin .add (.var 5) (.tup [.ix (.var 3) (.call 20 [.var 0, .c (.int 14)])])]]) (v28 nt bad (sD (.list o)) (sD K) (tpS DS)) h = .ok ⟨.d (.list [.tuple [K, .tuple (DS ++ [x])]]), true, []⟩ (v28 nt bad (sD (.list o)) (sD K) (tpS DS)) h1 := by
  have a1 := addT DS [x] (by simp; omega)
  simp [e, a, a1]
end
end Mi.K51
namespace Mi.K51
open PySem Mi.Sk
theorem ne_nilT (R : List Dd) : cmpD .ne (.tuple (R.map dT)) (.tuple []) = some (!R.isEmpty) := by
  have ok : okEq (.tuple (R.map dT)) = true := okEq_dd R
  show Option.map (!·) (if okEq (.tuple (R.map dT)) && okEq (.tuple []) then some (PyData.eqv (.tuple (R.map dT)) (.tuple [])) else none) = _
  rw [ok, show okEq (.tuple []) = true from rfl]
  cases R <;> rfl
theorem cut_last (xs : List PD) (h : 0 < xs.length) : cutD xs (some (-1)) none = xs.drop (xs.length - 1) := by
  have e : HT.sIx xs.length 0 (some (-1)) = xs.length - 1 := by
    unfold HT.sIx
    simp
    omega
  unfold cutD
  rw [e, HT.sIx_none]
  rw [List.take_of_length_le (by simp)]
section
variable (F : Fns) (h : Hx) (DS : List PD) (nt odd : Option Slot) (K : PD) (xs : List PD)
theorem z5L (bad : Option Slot) (T A : List PD) (dl : DS.length ≤ 9) (tl : T.length ≤ 9) (al : A.length ≤ 9) (c1 : cutD DS (some (-1)) none = T) (c2 : cutD DS none (some 1) = A) (lk : List Nat) : ev F lk (.lst [.tup [.var 4, .bin .add (.var 5) (.sl (.var 5) (.un .neg (.c (.int 1))) (.c .none))], .tup [.var 4, .bin .add (.sl (.var 5) (.c .none) (.c (.int 1))) (.var 5)]]) (v28 nt bad odd (sD K) (tpS DS)) h = .ok ⟨.d (.list [.tuple [K, .tuple (DS ++ T)], .tuple [K, .tuple (A ++ DS)]]), true, []⟩ (v28 nt bad odd (sD K) (tpS DS)) h := by
  have a1 := addT DS T (by omega)
  have a2 := addT A DS (by omega)
  simp [part, slD, c1, c2, a1, a2]
theorem z6L (bad : Option Slot) (T A : List PD) (dl : DS.length ≤ 9) (tl : T.length ≤ 9) (al : A.length ≤ 9) (c1 : cutD DS (some 1) none = T) (c2 : cutD DS none (some 1) = A) (lk : List Nat) : ev F lk (.lst [.tup [.var 4, .rev (.var 5)], .tup [.var 4, .bin .add (.sl (.var 5) (.c (.int 1)) (.c .none)) (.sl (.var 5) (.c .none) (.c (.int 1)))]]) (v28 nt bad odd (sD K) (tpS DS)) h = .ok ⟨.d (.list [.tuple [K, .tuple DS.reverse], .tuple [K, .tuple (T ++ A)]]), true, []⟩ (v28 nt bad odd (sD K) (tpS DS)) h := by
  have a1 := addT T A (by omega)
  simp [part, slD, c1, c2, a1]
theorem c5 (bad : Option Slot) (b : Bool) (n : cmpD .ne (.tuple DS) (.tuple []) = some b) : ev F [] (.cmp .ne (.var 5) (.tup [])) (v28 nt bad odd (sD K) (tpS DS)) h = .ok ⟨.d (.bool b), true, []⟩ (v28 nt bad odd (sD K) (tpS DS)) h := by
  simp [n]
theorem c6 (bad : Option Slot) : ev F [] (.cmp .gt (.bi .len [.var 5]) (.c (.int 1))) (v28 nt bad odd (sD K) (tpS DS)) h = .ok ⟨.d (.bool (decide (1 < (DS.length : Int)))), true, []⟩ (v28 nt bad odd (sD K) (tpS DS)) h := by
  simp
theorem z7 (i : Int) (fr : Bool) (h1 : Hx) (x : PD) (s4 s5 : Option Slot) (e : F 20 [.box 0, .d (.int xs.length)] h = .ok (.d (.int i)) fr h1) (a : L2.atI xs i = some x) : fin (exSs F false [] p28t7 (v28 nt (sO xs) odd s4 s5) h) = .ok (.d x) false h1 := by
  simp [p28t7, p28s7, e, ixV, a]
end
section
variable {k : Nat} {ds : List Dd} (N : Net k ds)
include N
theorem step5 (F : Fns) (h : Hx) (nt odd : Option Slot) (xs : List PD) (xl : xs.length ≤ 100) (bd : ∀ x ∈ xs, Bad x) : ∃ ys, exS F false [] p28s5 (v28 nt (sO xs) odd (sI k) (sD (dsT ds))) h = .ok .next (v28 nt (sO ys) odd (sI k) (sD (dsT ds))) h ∧ (∀ x ∈ ys, Bad x) ∧ xs.length ≤ ys.length ∧ ys.length ≤ xs.length + 2 := by
  have d4 := N.d4
  by_cases z : ds = []
  · refine ⟨xs, ?_, bd, Nat.le_refl _, by omega⟩
    exact (ite_f (o := ⟨.d (.bool false), true, []⟩) (c5 F h (ds.map dT) nt odd (.int k) (sO xs) false (by rw [ne_nilT, z]; rfl)) rfl).trans rfl
  · have l0 : 0 < ds.length := List.length_pos_iff.mpr z
    have c1 := cut_last (ds.map dT) (by rw [List.length_map]; exact l0)
    rw [List.length_map] at c1
    have c2 : cutD (ds.map dT) none (some 1) = (ds.map dT).take 1 := cut_take _ (j := 1) (by rw [List.length_map]; omega)
    have g := z5L F h (ds.map dT) nt odd (.int k) (sO xs) _ _ (by rw [List.length_map]; omega) (by simp; omega) (by simp; omega) c1 c2 ([2] ++ [])
    have a := add_own (F := F) (tp := false) (i := 2) (xs := xs) rfl g rfl (by simp; omega)
    refine ⟨_, (ite_t (o := ⟨.d (.bool true), true, []⟩) (c5 F h (ds.map dT) nt odd (.int k) (sO xs) true (by rw [ne_nilT]; cases ds <;> simp at z ⊢)) rfl).trans (ss_one a), fun x hx => ?_, by simp, by simp⟩
    simp only [List.mem_append, List.mem_cons, List.not_mem_nil, or_false] at hx
    rcases hx with hx | rfl | rfl
    · exact bd x hx
    · exact bad4a N z
    · exact bad4b N z
theorem step6 (F : Fns) (h : Hx) (nt odd : Option Slot) (xs : List PD) (xl : xs.length ≤ 200) (bd : ∀ x ∈ xs, Bad x) : ∃ ys, exS F false [] p28s6 (v28 nt (sO xs) odd (sI k) (sD (dsT ds))) h = .ok .next (v28 nt (sO ys) odd (sI k) (sD (dsT ds))) h ∧ (∀ x ∈ ys, Bad x) ∧ xs.length ≤ ys.length ∧ ys.length ≤ xs.length + 2 := by
  have d4 := N.d4
  have q := c6 F h (ds.map dT) nt odd (.int k) (sO xs)
  rw [List.length_map] at q
  by_cases z : 1 < ds.length
  · rw [decide_eq_true (show (1 : Int) < (ds.length : Int) by omega)] at q
    have c1 : cutD (ds.map dT) (some 1) none = (ds.map dT).drop 1 := cut_drop _ (j := 1) (by rw [List.length_map]; omega)
    have c2 : cutD (ds.map dT) none (some 1) = (ds.map dT).take 1 := cut_take _ (j := 1) (by rw [List.length_map]; omega)
    have g := z6L F h (ds.map dT) nt odd (.int k) (sO xs) _ _ (by rw [List.length_map]; omega) (by simp; omega) (by simp; omega) c1 c2 ([2] ++ [])
    have a := add_own (F := F) (tp := false) (i := 2) (xs := xs) rfl g rfl (by simp; omega)
    refine ⟨_, (ite_t (o := ⟨.d (.bool true), true, []⟩) q rfl).trans (ss_one a), fun x hx => ?_, by simp, by simp⟩
    simp only [List.mem_append, List.mem_cons, List.not_mem_nil, or_false] at hx
    rcases hx with hx | rfl | rfl
    · exact bd x hx
    · exact bad5a N z
    · exact bad5b N z
  · rw [decide_eq_false (show ¬ (1 : Int) < (ds.length : Int) by omega)] at q
    exact ⟨xs, (ite_f (o := ⟨.d (.bool false), true, []⟩) q rfl).trans rfl, bd, Nat.le_refl _, by omega⟩
theorem e28 (m : Nat) (h : Hx) (u : Urn h) : ∃ x h', run D (m + 2) 28 [.box 0, .d (ntT k ds)] h = .ok (.d x) false h' ∧ Bad x ∧ Urn h' := by
  have k1 := N.k1
  have k3 := N.k3
  have d4 := N.d4
  rw [u28, bp28, show (p28 : List MS) = p28s0 :: p28s1 :: p28s2 :: p28s3 :: p28s4 :: p28s5 :: p28s6 :: p28t7 from rfl]
  obtain ⟨F, eF⟩ : ∃ F, F = run D (m + 1) := ⟨_, rfl⟩
  obtain ⟨j0, f1, h1, p1, j1, j2, u1⟩ := pick m 14 (by omega) (by decide) u
  obtain ⟨j, rfl⟩ : ∃ j : Nat, j0 = j := ⟨j0.toNat, by omega⟩
  rw [← eF] at p1
  obtain ⟨B1, eB1⟩ : ∃ B, B = bad1 (.int k) (dsT ds) (ds.map dT) := ⟨_, rfl⟩
  obtain ⟨O1, eO1⟩ : ∃ B, B = odd1 (.int k) (.tuple (List.replicate k (.int 0))) := ⟨_, rfl⟩
  obtain ⟨O2, eO2⟩ : ∃ B, B = odd2 k := ⟨_, rfl⟩
  have l1 : B1.length = 13 := by rw [eB1]; rfl
  have l2 : O1.length = 8 := by rw [eO1]; rfl
  have l3 : O2.length = 6 := by rw [eO2]; rfl
  have a0 := z0 F h none none none none (.int k) (dsT ds)
  have a1 := z1 F h (ds.map dT) k none none
  rw [← eB1] at a1
  have a2 := z2 F h k (tpS [.int k, dsT ds]) (sO B1) none (sD (dsT ds)) _ (rep_tP (.int 0) k (by omega)) (by rw [← zer_map]; exact noLs_ints _)
  rw [← eO1] at a2
  have g3 := z3 F h (tpS [.int k, dsT ds]) (sO B1) (sO O1) (sD (dsT ds)) k _ _ _ _ _ (rep_tP (.int 0) (k + 1) (by omega)) (by rw [show ((k : Int) - 1) = ((k - 1 : Nat) : Int) by omega]; exact rep_tP (.int 0) (k - 1) (by omega)) (rep_lP (.int 0) k (by omega)) (rep_tP (.int (-1)) k (by omega)) (rep_tP (.bool true) k (by omega)) ([3] ++ [])
  rw [show ([.tuple [.int 0, .tuple (List.replicate (k + 1) (.int 0))], .tuple [.int 0, .tuple (List.replicate (k - 1) (.int 0))], .tuple [.int 0, .list (List.replicate k (.int 0))], .tuple [.int 0, .tuple (List.replicate k (.int (-1)))], .tuple [.int 0, .tuple (List.replicate k (.bool true))], .tuple [.int 0, .none]] : List PD) = odd2 k from rfl, ← eO2] at g3
  have a3 := add_own (F := F) (tp := false) (i := 3) (xs := O1) rfl g3 rfl (by omega)
  obtain ⟨O, eO⟩ : ∃ O, O = O1 ++ O2 := ⟨_, rfl⟩
  have lO : O.length = 14 := by rw [eO, List.length_append]; omega
  rw [← eO] at a3
  have okO : ∀ x ∈ O, tm 2 x = true ∧ isDd k x = false := by rw [eO, eO1, eO2]; exact odd_ok N
  have nlo : noLs O = false := noLs_not (x := .list [.int 0, .tuple (List.replicate k (.int 0))]) (by rw [eO, eO1]; simp [odd1]) rfl
  have lj : j < O.length := by omega
  have gj : L2.atI O (j : Int) = some O[j] := at_nat _ _ _ (List.getElem?_eq_getElem lj)
  have g4 := c28 F h (tpS [.int k, dsT ds]) (sO B1) (sD (dsT ds)) (.int k) O (by omega) nlo
  have w4 := fun lk (_ : lk = [] ∨ lk = [2]) => z4 F h (ds.map dT) (tpS [.int k, dsT ds]) (sO B1) (.int k) O j f1 _ h1 (by rw [List.length_map]; omega) p1 gj lk
  have lb2 : (bad2 (.int k) O).length = 14 := by unfold bad2; rw [List.length_map, lO]
  have a4 := add_own2 (F := F) (tp := false) (i := 2) (xs := B1) rfl g4 w4 rfl (by rw [lb2]; simp; omega)
  have bd : ∀ x ∈ B1 ++ bad2 (.int k) O ++ [PyData.tuple [.int k, .tuple (ds.map dT ++ [O[j]])]], Bad x := fun x hx => by
    simp only [List.mem_append, List.mem_singleton] at hx
    rcases hx with (hx | hx) | rfl
    · rw [eB1] at hx; exact bad1_ok N x hx
    · exact bad2_ok N O okO x hx
    · exact bad3_ok N _ (okO _ (List.getElem_mem lj)).1 (okO _ (List.getElem_mem lj)).2
  have lx : (B1 ++ bad2 (.int k) O ++ [PyData.tuple [.int k, .tuple (ds.map dT ++ [O[j]])]]).length = 28 := by simp only [List.length_append, lb2, List.length_singleton]; omega
  generalize B1 ++ bad2 (.int k) O ++ [PyData.tuple [.int k, .tuple (ds.map dT ++ [O[j]])]] = xs at a4 bd lx
  obtain ⟨ys, a5, by1, yl1, yl2⟩ := step5 N F h1 (tpS [.int k, dsT ds]) (sD (.list O)) xs (by omega) bd
  obtain ⟨zs, a6, bz1, zl1, zl2⟩ := step6 N F h1 (tpS [.int k, dsT ds]) (sD (.list O)) ys (by omega) by1
  obtain ⟨i0, f2, h2, p2, i1, i2, u2⟩ := pick m (zs.length : Int) (by omega) (log_small (by omega) (by omega)) u1
  obtain ⟨i, rfl⟩ : ∃ i : Nat, i0 = i := ⟨i0.toNat, by omega⟩
  rw [← eF] at p2
  have li : i < zs.length := by omega
  refine ⟨zs[i], h2, ?_, bz1 _ (List.getElem_mem _), u2⟩
  have e := (ss_next a0).trans ((ss_next a1).trans ((ss_next a2).trans ((ss_next a3).trans ((ss_next a4).trans ((ss_next a5).trans (ss_next a6 (r := p28t7)))))))
  rw [← eF]
  exact (congrArg fin e).trans (z7 F h1 (tpS [.int k, dsT ds]) (sD (.list O)) zs i f2 h2 _ _ _ p2 (at_nat zs i _ (List.getElem?_eq_getElem li)))
end
end Mi.K51
namespace Mi.K51
open PySem Mi.Sk
/-! the law, statement by statement -/
abbrev v29 (sc tn sp nt mx hd kp bg de du pl ds be : Option Slot) : Env := [sc, bx, tn, sp, nt, mx, hd, kp, bg, de, du, pl, ds, be]
abbrev sKd (kvs : List (PD × PD)) : Option Slot := some ⟨.kd kvs, true⟩
theorem perm3 (a b c : Val) : permL [2, 1, 0] [a, b, c] = [c, b, a] := rfl
theorem perm2 (a b : Val) : permL [1, 0] [a, b] = [b, a] := rfl
theorem perm1 (a : Val) : permL [0] [a] = [a] := rfl
theorem neStr (t : Str) : cmpD .ne (.str t) (.str t) = some false := by
  show (some (decide (t = t))).map (!·) = _
  simp
def ent (d : Dd) : PD × PD := (dT d, .bool true)
theorem put_ent (d : Dd) : ∀ L : List Dd, putKd (dT d) (.bool true) (L.map ent) = (if d ∈ L then L else L ++ [d]).map ent := by
  have eqv : ∀ a b : Dd, PyData.eqv (dT a) (dT b) = decide (a = b) := fun a b => by
    rw [Bool.eq_iff_iff, decide_eq_true_iff, eqv_key _ _ (row_key (dT_ok.row a)).1 (row_key (dT_ok.row b)).1]
    exact ⟨fun h => dT_ok.inj _ _ h, fun h => by rw [h]⟩
  intro L
  have e1 : ((L.map ent).any fun p => PyData.eqv p.1 (dT d)) = decide (d ∈ L) := by
    rw [Bool.eq_iff_iff, decide_eq_true_iff, List.any_map, List.any_eq_true]
    constructor
    · rintro ⟨a, ha, e⟩
      have e' : PyData.eqv (dT a) (dT d) = true := e
      rw [eqv, decide_eq_true_iff] at e'
      rw [← e']; exact ha
    · intro h
      refine ⟨d, h, ?_⟩
      show PyData.eqv (dT d) (dT d) = true
      rw [eqv, decide_eq_true_iff]
  unfold putKd
  rw [e1]
  by_cases q : d ∈ L
  · rw [if_pos (decide_eq_true q), if_pos q, List.map_map]
    refine List.map_congr_left fun a _ => ?_
    show (if PyData.eqv (dT a) (dT d) then (dT a, PyData.bool true) else ent a) = ent a
    split <;> rfl
  · rw [if_neg (by simp [q]), if_neg q, List.map_append]
    rfl
section
variable (F : Fns) (h h1 h2 h3 : Hx) (sc tn sp nt mx hd kp bg de du pl ds be : Option Slot)
theorem a0 (i : Int) (f1 : Bool) (p1 : F 20 [.box 0, .d (.int 3)] h = .ok (.d (.int i)) f1 h1) : exS F true [] p29w1s0 (v29 sc tn sp nt mx hd kp bg de du pl ds be) h = .ok .next (v29 sc tn sp nt mx hd kp bg de du (sI (1 + i)) (sKd []) be) h1 := by
  simp [p29w1s0, p1, parV]
  rfl
theorem a1i (k t : Int) (f1 : Bool) (p1 : F 20 [.box 0, .d (.int 5)] h = .ok (.d (.int t)) f1 h1) : ev F [] (.call 20 [.var 1, .c (.int 5)]) (v29 sc tn sp nt mx hd kp bg de du pl ds be) h = .ok ⟨.d (.int t), f1, []⟩ (v29 sc tn sp nt mx hd kp bg de du pl ds be) h1 := by
  simp [p1]
theorem a1 (k p t : Int) (f1 f2 : Bool) (xs : List PD) (kvs : List (PD × PD)) (p1 : F 20 [.box 0, .d (.int k)] h = .ok (.d (.int p)) f1 h1) (p2 : F 20 [.box 0, .d (.int 4)] h1 = .ok (.d (.int t)) f2 h2) (p3 : F 24 [.box 0, .d (.int k), .d (.int t)] h2 = .ok (.d (.tuple xs)) true h3) (nx : noLs xs = true) (rx : rowD (.tuple [.int p, .tuple xs]) = true) (dx : PyData.depth (.tuple [.int p, .tuple xs]) ≤ 8) (kl : kvs.length < 60) : exSs F true [] p29w1w1 (v29 sc tn sp nt mx hd kp bg de du (sI k) (sKd kvs) be) h = .ok .next (v29 sc tn sp nt mx hd kp bg de du (sI k) (sKd (putKd (.tuple [.int p, .tuple xs]) (.bool true) kvs)) be) h3 := by
  have e : exS F true [] p29w1w1s0 (v29 sc tn sp nt mx hd kp bg de du (sI k) (sKd kvs) be) h = setKV 12 (.d (.tuple [.int p, .tuple xs])) ⟨.d (.bool true), false, []⟩ (v29 sc tn sp nt mx hd kp bg de du (sI k) (sKd kvs) be) h3 := by
    simp [p29w1w1s0, p1, p2, p3, Mi.bound, nx]
  have e2 : setKV 12 (.d (.tuple [.int p, .tuple xs])) ⟨.d (.bool true), false, []⟩ (v29 sc tn sp nt mx hd kp bg de du (sI k) (sKd kvs) be) h3 = .ok .next (v29 sc tn sp nt mx hd kp bg de du (sI k) (sKd (putKd (.tuple [.int p, .tuple xs]) (.bool true) kvs)) be) h3 := by
    show (if rowD (.tuple [.int p, .tuple xs]) && decide (PyData.depth (.tuple [.int p, .tuple xs]) ≤ 8) && noL (.bool true) && decide (kvs.length < 60) then _ else _) = _
    rw [rx, decide_eq_true dx, decide_eq_true kl]
    rfl
  exact ss_one (e.trans e2)
theorem a2 (k : Int) (kvs : List (PD × PD)) (S : List PD) (e : srtD (kvs.map (·.1)) = some S) (nl : noLs S = true) : exS F true [] p29w1s2 (v29 sc tn sp nt mx hd kp bg de du (sI k) (sKd kvs) be) h = .ok .next (v29 sc tn sp (tpS [.int k, .tuple S]) mx hd kp bg de du (sI k) (sKd kvs) be) h := by
  simp [p29w1s2, e, nl]
theorem a3 (K S : PD) (M : List PD) (e : F 27 [.box 0, .d S] h = .ok (.d (.list M)) true h1) : exS F true [] p29w1s3 (v29 sc tn sp (tpS [K, S]) mx hd kp bg de du pl ds be) h = .ok .next (v29 sc tn sp (tpS [K, S]) (sO M) hd kp bg de du pl ds be) h1 := by
  simp [p29w1s3, ixV, e]
theorem a4 (M : List PD) (i : Int) (fr : Bool) (nm : noLs M = true) (e : F 20 [.box 0, .d (.int 2)] h = .ok (.d (.int i)) fr h1) : ∃ (o : Bool) (V : PD), (V = .list M ∨ V = .tuple M) ∧ exS F true [] p29w1s4 (v29 sc tn sp nt (sO M) hd kp bg de du pl ds be) h = .ok .next (v29 sc tn sp nt (some ⟨.d (.list M), o⟩) (sD V) kp bg de du pl ds be) h1 := by
  by_cases q : i = 0
  · exact ⟨false, .list M, .inl rfl, by simp [p29w1s4, e, q, asgV, hit, slotOf, frz, frz1, Pat.all]⟩
  · exact ⟨true, .tuple M, .inr rfl, by simp [p29w1s4, e, q, nm]⟩
theorem a5 (V : PD) (t : Str) (er : biD .repr [V] = some (.str t, true)) : exS F true [] p29w1s5 (v29 sc tn sp nt mx (sD V) kp bg de du pl ds be) h = .ok .next (v29 sc tn sp nt mx (sD V) (sD (.str t)) bg de du pl ds be) h := by
  simp [p29w1s5, er]
theorem a6 (k : Int) (N : List PD) (V : PD) (t : Str) (er : biD .repr [V] = some (.str t, true)) (f1 : Bool) (e1 : F 11 [.d (.int k), .d V] h = .ok (.d (.tuple N)) f1 h) (e2 : F 21 [.d (.list [.tuple N, .tuple N]), .d (.list [.tuple N, .tuple N])] h = .ok (.d (.bool true)) true h) : exS F true [] p29w1s6 (v29 sc tn sp (tpS N) mx (sD V) (sD (.str t)) bg de du (sI k) ds be) h = .ok .next (v29 sc tn sp (tpS N) mx (sD V) (sD (.str t)) bg de du (sI k) ds be) h := by
  simp [p29w1s6, er, e1, e2, perm2, neStr]
theorem a7 (N : List PD) (x : PD) (f1 f2 : Bool) (e : F 28 [.box 0, .d (.tuple N)] h = .ok (.d x) false h1) (e1 : F 8 [.d (.tuple N)] h1 = .ok (.d (.bool true)) f1 h1) (e2 : F 8 [.d x] h1 = .ok (.d (.bool false)) f2 h1) (e3 : F 21 [.d (.list [.bool true, .bool false]), .d (.list [.bool true, .bool false])] h1 = .ok (.d (.bool true)) true h1) : exSs F true [] p29w1w7 (v29 sc tn sp (tpS N) mx hd kp bg de du pl ds be) h = .ok .next (v29 sc tn sp (tpS N) mx hd kp bg de du pl ds (sD x)) h1 := by
  have s0 : exS F true [] p29w1w7s0 (v29 sc tn sp (tpS N) mx hd kp bg de du pl ds be) h = .ok .next (v29 sc tn sp (tpS N) mx hd kp bg de du pl ds (sD x)) h1 := by simp [p29w1w7s0, e]
  have s1 : exS F true [] p29w1w7s1 (v29 sc tn sp (tpS N) mx hd kp bg de du pl ds (sD x)) h1 = .ok .next (v29 sc tn sp (tpS N) mx hd kp bg de du pl ds (sD x)) h1 := by simp [p29w1w7s1, e1, e2, e3, perm1]
  exact (ss_next s0).trans (ss_one s1)
theorem a8 (k t : Int) (f2 : Bool) (xs : List PD) (p2 : F 20 [.box 0, .d (.int 4)] h = .ok (.d (.int t)) f2 h1) (p3 : F 24 [.box 0, .d (.int k), .d (.int t)] h1 = .ok (.d (.tuple xs)) true h2) : exS F true [] p29w1s8 (v29 sc tn sp nt mx hd kp bg de du (sI k) ds be) h = .ok .next (v29 sc tn sp nt mx hd kp (tpS xs) de du (sI k) ds be) h2 := by
  simp [p29w1s8, p2, p3]
theorem a9i (K : PD) (DS : List PD) : ev F [] (.bi .len [.ix (.var 4) (.c (.int 1))]) (v29 sc tn sp (tpS [K, .tuple DS]) mx hd kp bg de du pl ds be) h = .ok ⟨.d (.int DS.length), true, []⟩ (v29 sc tn sp (tpS [K, .tuple DS]) mx hd kp bg de du pl ds be) h := by
  simp [ixV]
theorem a9c (K L : PD) (DS B : List PD) (i P x : Int) (q1 : L2.atI DS i = some (.tuple [.int P, L])) (q2 : L2.atI B P = some (.int x)) : ev F [] (.cmp .gt (.ix (.var 8) (.ix (.ix (.ix (.var 4) (.c (.int 1))) (.var 9)) (.c (.int 0)))) (.c (.int 0))) (v29 sc tn sp (tpS [K, .tuple DS]) mx hd kp (tpS B) (sI i) du pl ds be) h = .ok ⟨.d (.bool (decide (0 < x))), true, []⟩ (v29 sc tn sp (tpS [K, .tuple DS]) mx hd kp (tpS B) (sI i) du pl ds be) h := by
  simp [ixV, q1, q2]
theorem a9b (N B R : List PD) (i : Int) (nr : noLs R = true) (e1 : F 25 [.d (.tuple N), .d (.tuple B), .d (.int i)] h = .ok (.d (.tuple R)) true h) (e2 : F 15 [.d (.tuple N), .d (.tuple B), .d (.int i)] h = .ok (.d (.tuple R)) true h) (e3 : F 21 [.d (.list [.tuple R, .tuple R]), .d (.list [.tuple R, .tuple R])] h = .ok (.d (.bool true)) true h) : exSs F true [] [.asg (.var 10) (.call 25 [.var 4, .var 8, .var 9]), .ite (.un .not (.call 21 [.lst [.call 15 [.var 4, .var 8, .var 9], .callK 15 [] [.var 9, .var 8, .var 4] [2, 1, 0]], .lst [.var 10, .var 10]])) [.ret (.c (.bool false))] []] (v29 sc tn sp (tpS N) mx hd kp (tpS B) (sI i) du pl ds be) h = .ok .next (v29 sc tn sp (tpS N) mx hd kp (tpS B) (sI i) (tpS R) pl ds be) h := by
  have s0 : exS F true [] (.asg (.var 10) (.call 25 [.var 4, .var 8, .var 9])) (v29 sc tn sp (tpS N) mx hd kp (tpS B) (sI i) du pl ds be) h = .ok .next (v29 sc tn sp (tpS N) mx hd kp (tpS B) (sI i) (tpS R) pl ds be) h := by simp [e1]
  have s1 : exS F true [] (.ite (.un .not (.call 21 [.lst [.call 15 [.var 4, .var 8, .var 9], .callK 15 [] [.var 9, .var 8, .var 4] [2, 1, 0]], .lst [.var 10, .var 10]])) [.ret (.c (.bool false))] []) (v29 sc tn sp (tpS N) mx hd kp (tpS B) (sI i) (tpS R) pl ds be) h = .ok .next (v29 sc tn sp (tpS N) mx hd kp (tpS B) (sI i) (tpS R) pl ds be) h := by simp [e2, e3, perm3, nr]
  exact (ss_next s0).trans (ss_one s1)
theorem a10 (N B R : List PD) (e1 : F 26 [.d (.tuple N), .d (.tuple B)] h = .ok (.d (.tuple R)) true h) : exS F true [] p29w1s10 (v29 sc tn sp (tpS N) mx hd kp (tpS B) de du pl ds be) h = .ok .next (v29 sc tn sp (tpS N) mx hd kp (tpS B) de (tpS R) pl ds be) h := by
  simp [p29w1s10, e1]
theorem a11 (N B R : List PD) (f1 : Bool) (nr : noLs R = true) (e1 : F 18 [.d (.tuple N), .d (.tuple B)] h = .ok (.d (.tuple R)) true h) (e2 : F 6 [.d (.tuple R)] h = .ok (.d (.bool true)) f1 h) (e3 : F 21 [.d (.list [.tuple R, .tuple R, .bool true]), .d (.list [.tuple R, .tuple R, .bool true])] h = .ok (.d (.bool true)) true h) : exSs F true [] p29w1t11 (v29 sc tn sp (tpS N) mx hd kp (tpS B) de (tpS R) pl ds be) h = .ok .next (v29 sc tn sp (tpS N) mx hd kp (tpS B) de (tpS R) pl ds be) h := by
  have s : exS F true [] p29w1s11 (v29 sc tn sp (tpS N) mx hd kp (tpS B) de (tpS R) pl ds be) h = .ok .next (v29 sc tn sp (tpS N) mx hd kp (tpS B) de (tpS R) pl ds be) h := by simp [p29w1s11, e1, e2, e3, perm2, nr]
  exact ss_one s
end
end Mi.K51
namespace Mi.K51
open PySem Mi.Sk
theorem reprV {w d : Nat} {M : List PD} (t : TW w d (.list M)) (h1 : 43 * w + 41 ≤ 16777216) (h2 : d ≤ 60) (V : PD) (hV : V = .list M ∨ V = .tuple M) : ∃ s, biD .repr [V] = some (.str s, true) := by
  rcases hV with rfl | rfl
  · exact t.repr h1 h2
  · have t' : TW w d (.tuple M) := ⟨t.sh, t.nd, t.lv, t.wt, t.dp⟩
    have s := PyData.shown_le 41 (by decide) _ t'.lv
    have s2 : (PyData.shown (.tuple M)).length ≤ lim := by
      have := t'.wt
      have : 43 * PyData.weight (.tuple M) ≤ 43 * w := Nat.mul_le_mul_left _ this
      show _ ≤ 16777216
      omega
    refine ⟨PyData.shown (.tuple M), ?_⟩
    show (if ((PyData.isList (.tuple M) || PyData.isTuple (.tuple M)) && PyData.showable (.tuple M) && !PyData.hasDict (.tuple M) && decide ((PyData.shown (.tuple M)).length ≤ lim) && decide (PyData.depth (.tuple M) ≤ 60)) = true then _ else _) = _
    rw [t'.sh, t'.nd, decide_eq_true s2, decide_eq_true (Nat.le_trans t'.dp h2)]
    rfl
theorem tw_dd {k : Nat} (k3 : k ≤ 3) {d : Dd} (ok : DdOk k d) : TW 776 2 (dT d) := TW.tup (w := 387) (d := 1) (L := 2) (by simp) fun x hx => by
  have := ok.pl
  rcases List.mem_cons.mp hx with rfl | hx
  · exact (TW.int (by omega)).le (by decide) (by decide)
  · rw [List.mem_singleton.mp hx]
    exact (TW.iT (L := 3) (by rw [ok.ll]; exact k3) fun x hx => by have := ok.la x hx; omega)
theorem repr_dd {k : Nat} (k3 : k ≤ 3) (M : List Dd) (ok : ∀ d ∈ M, DdOk k d) (ml : M.length ≤ 10) (V : PD) (hV : V = .list (M.map dT) ∨ V = .tuple (M.map dT)) : ∃ s, biD .repr [V] = some (.str s, true) :=
  reprV (TW.lst (L := 10) (w := 776) (d := 2) (by rw [List.length_map]; exact ml) fun x hx => by
    obtain ⟨d, hd, rfl⟩ := List.mem_map.mp hx
    exact tw_dd k3 (ok d hd)) (by decide) (by decide) V hV
/-! what is compared -/
theorem td_all {d : Nat} {xs : List PD} (hl : xs.length ≤ 1000) (h : ∀ x ∈ xs, td d x = true) : td (d + 1) (.tuple xs) = true ∧ td (d + 1) (.list xs) = true := by
  constructor <;> simp only [td, hl, decide_true, Bool.true_and, List.all_eq_true] <;> exact h
theorem td_int {d : Nat} {i : Int} : td d (.int i) = true := by cases d <;> rfl
theorem td_dd {k : Nat} {d : Dd} (k3 : k ≤ 3) (ok : DdOk k d) : td 2 (dT d) = true := (td_all (by simp) fun x hx => by
  rcases List.mem_cons.mp hx with rfl | hx
  · exact td_int
  · rw [List.mem_singleton.mp hx]
    exact td_iT (by rw [ok.ll]; omega)).1
theorem td_nt {k : Nat} {ds : List Dd} (N : Net k ds) : td 4 (ntT k ds) = true := (td_all (by simp) fun x hx => by
  rcases List.mem_cons.mp hx with rfl | hx
  · exact td_int
  · rw [List.mem_singleton.mp hx]
    refine (td_all (by rw [List.length_map]; have := N.d4; omega) fun x hx => ?_).1
    obtain ⟨d, hd, rfl⟩ := List.mem_map.mp hx
    exact td_dd N.k3 (N.ok d hd)).1
theorem td_gr {k : Nat} {st : List Int} {rs : List Ru} (G : Gr k k st rs) : td 4 (grT k k st rs) = true := by
  have k3 := G.k3
  refine (td_all (by simp) fun x hx => ?_).1
  simp only [List.mem_cons, List.not_mem_nil, or_false] at hx
  rcases hx with rfl | rfl | rfl | rfl
  · exact td_int
  · exact td_int
  · have z : td 1 (iT st) = true := td_iT (by rw [G.st.1]; omega)
    exact td_iT (by rw [G.st.1]; omega)
  · refine (td_all (by rw [List.length_map]; have := G.r9; omega) fun x hx => ?_).1
    obtain ⟨r, hr, rfl⟩ := List.mem_map.mp hx
    have o := G.ok r hr
    refine (td_all (by simp) fun x hx => ?_).1
    simp only [List.mem_cons, List.not_mem_nil, or_false] at hx
    rcases hx with rfl | rfl | rfl
    · exact td_int
    · exact td_iT (by rw [o.le.1]; omega)
    · exact td_iT (by rw [o.bg.1]; omega)
theorem like2 (h : Hx) (x y : PD) (hx : td 4 x = true) (hy : td 4 y = true) : run D 8 21 [.d (.list [x, y]), .d (.list [x, y])] h = .ok (.d (.bool true)) true h := same_td h 5 _ 2 (td_2 hx hy)
theorem like3 (h : Hx) (x : PD) (hx : td 4 x = true) : run D 8 21 [.d (.list [x, x, .bool true]), .d (.list [x, x, .bool true])] h = .ok (.d (.bool true)) true h := same_td h 5 _ 2 (by simp [td, hx])
/-! loops -/
section
variable (sc tn nt mx hd kp bg de du pl ds be : Option Slot)
theorem row_dd (d : Dd) : rowD (.tuple [.int d.pl, iT d.la]) = true := dT_ok.row d
theorem loopK (k : Nat) (k1 : 1 ≤ k) (k3 : k ≤ 3) : ∀ (xs : List PD) (L : List Dd) (sp : Option Slot) (h : Hx), Urn h → L.Nodup → (∀ d ∈ L, DdOk k d) → L.length + xs.length ≤ 4 → ∃ (L' : List Dd) (t3 : Option Slot) (h' : Hx), frL (.var 3) (exSs (run D 8) true [] p29w1w1) xs (v29 sc tn sp nt mx hd kp bg de du (sI k) (sKd (L.map ent)) be) h = .ok .next (v29 sc tn t3 nt mx hd kp bg de du (sI k) (sKd (L'.map ent)) be) h' ∧ L'.Nodup ∧ (∀ d ∈ L', DdOk k d) ∧ L'.length ≤ 4 ∧ Urn h'
  | [], L, sp, h, u, nd, ok, ll => ⟨L, sp, h, rfl, nd, ok, by simpa using ll, u⟩
  | x :: r, L, sp, h, u, nd, ok, ll => by
    rw [List.length_cons] at ll
    obtain ⟨p0, f1, h1, p1, p01, p02, u1⟩ := pick 7 (k : Int) (by omega) (log_small (by omega) (by omega)) u
    obtain ⟨p, rfl⟩ : ∃ p : Nat, p0 = p := ⟨p0.toNat, by omega⟩
    obtain ⟨t0, f2, h2, p2, t01, t02, u2⟩ := pick 7 4 (by omega) (by decide) u1
    obtain ⟨t, rfl⟩ : ∃ p : Nat, t0 = p := ⟨t0.toNat, by omega⟩
    obtain ⟨la, h3, p3, l1, l2, u3⟩ := e24 6 k k1 (by omega) t (by omega) h2 u2
    have od : DdOk k ⟨p, la⟩ := ⟨by show p < k; omega, l1, fun x hx => by have := l2 x hx; omega⟩
    have q := a1 (run D 8) h h1 h2 h3 sc tn (sD x) nt mx hd kp bg de du be k p t f1 f2 (la.map .int) (L.map ent) p1 p2 p3 (noLs_ints _) (row_dd ⟨p, la⟩) (dT_ok.dp ⟨p, la⟩) (by rw [List.length_map]; omega)
    rw [show putKd (.tuple [.int (p : Int), .tuple (la.map .int)]) (.bool true) (L.map ent) = _ from put_ent ⟨p, la⟩ L] at q
    obtain ⟨L1, eL⟩ : ∃ L1, L1 = if (⟨p, la⟩ : Dd) ∈ L then L else L ++ [⟨p, la⟩] := ⟨_, rfl⟩
    rw [← eL] at q
    have nd1 : L1.Nodup ∧ (∀ d ∈ L1, DdOk k d) ∧ L1.length ≤ L.length + 1 := by
      rw [eL]
      split
      · exact ⟨nd, ok, by omega⟩
      · rename_i hn
        refine ⟨?_, fun d hd => ?_, by simp⟩
        · rw [List.nodup_append]
          exact ⟨nd, by simp, fun a ha b hb e => hn (by rw [← List.mem_singleton.mp hb, ← e]; exact ha)⟩
        · rcases List.mem_append.mp hd with z | z
          · exact ok d z
          · rw [List.mem_singleton.mp z]; exact od
    obtain ⟨L', t3, h', e, q1, q2, q3, u'⟩ := loopK k k1 k3 r L1 (sD x) h3 u3 nd1.1 nd1.2.1 (by omega)
    exact ⟨L', t3, h', (frL_cons (env1 := v29 sc tn (sD x) nt mx hd kp bg de du (sI k) (sKd (L.map ent)) be) rfl q).trans e, q1, q2, q3, u'⟩
theorem loop7 {k : Nat} {dl : List Dd} (N : Net k dl) : ∀ (xs : List PD) (sp be : Option Slot) (h : Hx), Urn h → ∃ (t3 tb : Option Slot) (h' : Hx), frL (.var 3) (exSs (run D 8) true [] p29w1w7) xs (v29 sc tn sp (sD (ntT k dl)) mx hd kp bg de du pl ds be) h = .ok .next (v29 sc tn t3 (sD (ntT k dl)) mx hd kp bg de du pl ds tb) h' ∧ Urn h'
  | [], sp, be, h, u => ⟨sp, be, h, rfl, u⟩
  | x :: r, sp, be, h, u => by
    obtain ⟨y, h1, e, b, u1⟩ := e28 N 6 h u
    obtain ⟨f2, e2⟩ := bad_no b 3 h1
    have q := a7 (run D 8) h h1 sc tn (sD x) mx hd kp bg de du pl ds be [.int k, dsT dl] y true f2 e (e8 N 3 h1) e2 (like2 h1 _ _ rfl rfl)
    obtain ⟨t3, tb, h', e', u'⟩ := loop7 N r (sD x) (sD y) h1 u1
    exact ⟨t3, tb, h', (frL_cons (env1 := v29 sc tn (sD x) (sD (ntT k dl)) mx hd kp bg de du pl ds be) rfl q).trans e', u'⟩
theorem loop9 {k : Nat} {dl : List Dd} (N : Net k dl) {b : List Int} (B : Bag k b) (sp : Option Slot) (h : Hx) : ∃ (td tu : Option Slot), exS (run D 8) true [] p29w1s9 (v29 sc tn sp (sD (ntT k dl)) mx hd kp (sD (iT b)) de du pl ds be) h = .ok .next (v29 sc tn sp (sD (ntT k dl)) mx hd kp (sD (iT b)) td tu pl ds be) h := by
  have d4 := N.d4
  have i0 := a9i (run D 8) h sc tn sp mx hd kp (sD (iT b)) de du pl ds be (.int k) (dl.map dT)
  rw [List.length_map] at i0
  obtain ⟨env', h', e, ⟨td, tu, rfl⟩, eh⟩ := frL_ix (p := .var 9) (body := exSs (run D 8) true [] p29w1w9) (N := dl.length) (item := fun i => .int (i : Nat))
    (fun _ env h' => (∃ td tu, env = v29 sc tn sp (sD (ntT k dl)) mx hd kp (sD (iT b)) td tu pl ds be) ∧ h' = h)
    (fun i env h' hi ⟨⟨td, tu, e1⟩, e2⟩ => by
      subst e1 e2
      have ok : DdOk k (nthR dl i) := N.ok _ (List.mem_of_getElem? (nthR_mem hi))
      have c := a9c (run D 8) h' sc tn sp mx hd kp tu pl ds be (.int k) (iT (nthR dl i).la) (dl.map dT) (b.map .int) i (nthR dl i).pl _ (at_nthR dT hi) (at_ints (by rw [B.len]; exact ok.pl))
      by_cases pos : 0 < g b (nthR dl i).pl
      · rw [decide_eq_true pos] at c
        have q := a9b (run D 8) h' sc tn sp mx hd kp tu pl ds be [.int k, dsT dl] (b.map .int) _ i (noLs_ints _) (e25 6 k N.k3 dl i hi ok b B h') (e15 1 k N i hi b B pos h') (like2 h' _ _ (td_iT (by rw [bh, tab_len]; have := N.k3; omega)) (td_iT (by rw [bh, tab_len]; have := N.k3; omega)))
        exact ⟨v29 sc tn sp (sD (ntT k dl)) mx hd kp (sD (iT b)) (sI i) tu pl ds be, _, h', rfl, ss_one ((ite_t (o := ⟨.d (.bool true), true, []⟩) c rfl).trans q), ⟨_, _, rfl⟩, rfl⟩
      · rw [decide_eq_false pos] at c
        exact ⟨v29 sc tn sp (sD (ntT k dl)) mx hd kp (sD (iT b)) (sI i) tu pl ds be, _, h', rfl, ss_one ((ite_f (o := ⟨.d (.bool false), true, []⟩) c rfl).trans rfl), ⟨_, _, rfl⟩, rfl⟩)
    (env := v29 sc tn sp (sD (ntT k dl)) mx hd kp (sD (iT b)) de du pl ds be) (h := h) ⟨⟨_, _, rfl⟩, rfl⟩ (xs := rngD 0 (dl.length : Int)) (by rw [rng0])
  subst eh
  exact ⟨td, tu, for0 (rng1_ok (j := (dl.length : Int)) i0 (rngOk_nat (by omega))) e⟩
end
end Mi.K51
namespace Mi.K51
open PySem Mi.Sk
theorem ent_keys (L : List Dd) : (L.map ent).map (·.1) = L.map dT := by rw [List.map_map]; rfl
theorem round29 (sc tn sp nt mx hd kp bg de du pl ds be : Option Slot) (h : Hx) (u : Urn h) : ∃ t3 t4 t5 t6 t7 t8 t9 t10 t11 t12 t13 h', exSs (run D 8) true [] p29w1 (v29 sc tn sp nt mx hd kp bg de du pl ds be) h = .ok .next (v29 sc tn t3 t4 t5 t6 t7 t8 t9 t10 t11 t12 t13) h' ∧ Urn h' := by
  obtain ⟨i, f1, h1, p1, i0, i1, u1⟩ := pick 7 3 (by omega) (by decide) u
  obtain ⟨k, ek⟩ : ∃ k : Nat, 1 + i = k := ⟨(1 + i).toNat, by omega⟩
  have k1 : 1 ≤ k := by omega
  have k3 : k ≤ 3 := by omega
  have s0 := a0 (run D 8) h h1 sc tn sp nt mx hd kp bg de du pl ds be i f1 p1
  rw [ek] at s0
  obtain ⟨c0, f2, h2, p2, c1, c2, u2⟩ := pick 7 5 (by omega) (by decide) u1
  obtain ⟨c, rfl⟩ : ∃ c : Nat, c0 = c := ⟨c0.toNat, by omega⟩
  obtain ⟨L, t3, h3, e3, nd, ok, ll, u3⟩ := loopK sc tn nt mx hd kp bg de du be k k1 k3 (rngD 0 (c : Int)) [] sp h2 u2 List.nodup_nil (by simp) (by rw [rng_len]; simp; omega)
  have s1 := for0 (tp := true) (rng1_ok (a1i (run D 8) h1 h2 sc tn sp nt mx hd kp bg de du (sI k) (sKd []) be k c f2 p2) (rngOk_nat (by omega))) e3
  obtain ⟨dl, es, pm, pw⟩ := srt_rw dT_ok L (by omega) nd
  have N : Net k dl := ⟨k1, k3, by rw [pm.length_eq]; exact ll, fun d hd => ok d (pm.mem_iff.mp hd), pw⟩
  have d4 := N.d4
  have s2 := a2 (run D 8) h3 sc tn t3 nt mx hd kp bg de du be k (L.map ent) (dl.map dT) (by rw [ent_keys]; exact es) (noLs_dd _)
  obtain ⟨M, h4, e4, mem, ml, u4⟩ := e27 6 dl d4 h3 u3
  have s3 := a3 (run D 8) h3 h4 sc tn t3 mx hd kp bg de du (sI k) (sKd (L.map ent)) be (.int k) (dsT dl) (M.map dT) e4
  obtain ⟨j, f5, h5, p5, j0, j1, u5⟩ := pick 7 2 (by omega) (by decide) u4
  obtain ⟨o, V, hV, s4⟩ := a4 (run D 8) h4 h5 sc tn t3 (sD (ntT k dl)) hd kp bg de du (sI k) (sKd (L.map ent)) be (M.map dT) j f5 (noLs_dd _) p5
  obtain ⟨T, er⟩ := repr_dd k3 M (fun d hd => N.ok d ((mem d).mp hd)) ml V hV
  have s5 := a5 (run D 8) h5 sc tn t3 (sD (ntT k dl)) (some ⟨.d (.list (M.map dT)), o⟩) kp bg de du (sI k) (sKd (L.map ent)) be V T er
  have s6 := a6 (run D 8) h5 sc tn t3 (some ⟨.d (.list (M.map dT)), o⟩) bg de du (sKd (L.map ent)) be k [.int k, dsT dl] V T er true (e11 3 N M mem (by omega) V hV h5) (like2 h5 _ _ (td_nt N) (td_nt N))
  obtain ⟨t7, tb, h7, e7, u7⟩ := loop7 sc tn (some ⟨.d (.list (M.map dT)), o⟩) (sD V) (sD (.str T)) bg de du (sI k) (sKd (L.map ent)) N (rngD 0 ((3 : Nat) : Int)) t3 be h5 u5
  have s7 : exS (run D 8) true [] p29w1s7 (v29 sc tn t3 (sD (ntT k dl)) (some ⟨.d (.list (M.map dT)), o⟩) (sD V) (sD (.str T)) bg de du (sI k) (sKd (L.map ent)) be) h5 = _ := for0 (rng1_ok (fr := false) (ln := []) (j := ((3 : Nat) : Int)) rfl (rngOk_nat (by decide))) e7
  obtain ⟨b0, f8, h8, p8, b01, b02, u8⟩ := pick 7 4 (by omega) (by decide) u7
  obtain ⟨t, rfl⟩ : ∃ p : Nat, b0 = p := ⟨b0.toNat, by omega⟩
  obtain ⟨b, h9, e9, bl, bb, u9⟩ := e24 6 k k1 (by omega) t (by omega) h8 u8
  have B : Bag k b := ⟨bl, fun x hx => by have := bb x hx; omega⟩
  have s8 := a8 (run D 8) h7 h8 h9 sc tn t7 (sD (ntT k dl)) (some ⟨.d (.list (M.map dT)), o⟩) (sD V) (sD (.str T)) bg de du (sKd (L.map ent)) tb k t f8 (b.map .int) p8 e9
  obtain ⟨td, tu, s9⟩ := loop9 sc tn (some ⟨.d (.list (M.map dT)), o⟩) (sD V) (sD (.str T)) de du (sI k) (sKd (L.map ent)) tb N B t7 h9
  obtain ⟨rs, eg, G⟩ := net_gr N B
  have s10 := a10 (run D 8) h9 sc tn t7 (some ⟨.d (.list (M.map dT)), o⟩) (sD V) (sD (.str T)) td tu (sI k) (sKd (L.map ent)) tb [.int k, dsT dl] (b.map .int) _ (e26 6 N b rs eg h9)
  have ng : noLs [PyData.int k, .int k, iT b, rsT rs] = true := by
    show (true && (true && (noLs (b.map .int) && (noLs (rs.map ruT) && true)))) = true
    rw [noLs_ints, noLs_ru]; rfl
  have s11 := a11 (run D 8) h9 sc tn t7 (some ⟨.d (.list (M.map dT)), o⟩) (sD V) (sD (.str T)) td (sI k) (sKd (L.map ent)) tb [.int k, dsT dl] (b.map .int) [.int k, .int k, iT b, rsT rs] true ng (e18g 1 N b B rs eg h9) (e6 G 3 h9) (like3 h9 _ (td_gr G))
  exact ⟨_, _, _, _, _, _, _, _, _, _, _, h9, (ss_next s0).trans ((ss_next s1).trans ((ss_next s2).trans ((ss_next s3).trans ((ss_next s4).trans ((ss_next s5).trans ((ss_next s6).trans ((ss_next s7).trans ((ss_next s8).trans ((ss_next s9).trans ((ss_next s10).trans s11)))))))))), u9⟩
theorem holds51 (ns : List Int) (hl : ns.length ≤ 1000) : ∃ fr h, runTop D 8 ⟨14, 1, b29⟩ [.scr ns] = .ok (.d (.bool true)) fr h := by
  have u0 : Urn [.dct (kv ns 0 0 1709 0)] := ⟨ns, 0, 0, 1709, 0, rfl, by decide, by omega, hl, by decide, by decide, by decide⟩
  have c0 : exS (run D 8) true [] p29s0 [some ⟨.scr ns, false⟩, none, none, none, none, none, none, none, none, none, none, none, none, none] [] = .ok .next (v29 (some ⟨.scr ns, false⟩) none none none none none none none none none none none none) [.dct (kv ns 0 0 1709 0)] := by
    have e := e18 7 ns hl []
    generalize run D 8 = F at e ⊢
    simp [p29s0, e]
  obtain ⟨env', h', e, ⟨sc, s2, s3, s4, s5, s6, s7, s8, s9, s10, s11, s12, s13, rfl⟩, u'⟩ := frL_ix (p := .var 2) (body := exSs (run D 8) true [] p29w1) (N := 16) (item := fun i => .int (i : Nat))
    (fun _ env h => (∃ sc s2 s3 s4 s5 s6 s7 s8 s9 s10 s11 s12 s13, env = v29 sc s2 s3 s4 s5 s6 s7 s8 s9 s10 s11 s12 s13) ∧ Urn h)
    (fun i env h _ ⟨⟨sc, s2, s3, s4, s5, s6, s7, s8, s9, s10, s11, s12, s13, e⟩, u⟩ => by
      subst e
      obtain ⟨t3, t4, t5, t6, t7, t8, t9, t10, t11, t12, t13, h', e, u'⟩ := round29 sc (sI i) s3 s4 s5 s6 s7 s8 s9 s10 s11 s12 s13 h u
      exact ⟨v29 sc (sI i) s3 s4 s5 s6 s7 s8 s9 s10 s11 s12 s13, _, h', rfl, e, ⟨_, _, _, _, _, _, _, _, _, _, _, _, _, rfl⟩, u'⟩) (xs := rngD 0 ((16 : Nat) : Int)) (env := v29 (some ⟨.scr ns, false⟩) none none none none none none none none none none none none) (h := [.dct (kv ns 0 0 1709 0)]) ⟨⟨_, _, _, _, _, _, _, _, _, _, _, _, _, rfl⟩, u0⟩ (by rw [rng0])
  have c1 : exS (run D 8) true [] p29s1 _ _ = _ := for0 (rng1_ok (fr := false) (ln := []) (j := ((16 : Nat) : Int)) rfl (rngOk_nat (by decide))) e
  have e3 : exSs (run D 8) true [] b29 [some ⟨.scr ns, false⟩, none, none, none, none, none, none, none, none, none, none, none, none, none] [] = .ok (.ret ⟨.d (.bool true), false, []⟩) (v29 sc s2 s3 s4 s5 s6 s7 s8 s9 s10 s11 s12 s13) h' := by
    rw [bp29]
    exact (ss_next c0).trans ((ss_next c1).trans rfl)
  refine ⟨false, h', ?_⟩
  have e4 : runTop D 8 ⟨14, 1, b29⟩ [.scr ns] = (match exSs (run D 8) true [] b29 [some ⟨.scr ns, false⟩, none, none, none, none, none, none, none, none, none, none, none, none, none] [] with
    | .ok (.ret o) _ h => FR.ok o.v o.fr h
    | _ => .no) := rfl
  rw [e4, e3]
end Mi.K51
namespace Mi.K51
open PySem PySem.Spec PyProof.Rows L2 Mi
def top (i : Nat) : Stmt := PySem.Challenge.pw_wholecounts_k51_nets_and_their_grammars.main.body.getD i (.Pass ⟨0, 0, 0, 0⟩)
def r0 : DefI := ⟨0, "is_integer", ["value"], ["value"], false, top 7⟩
def r1 : DefI := ⟨1, "is_between", ["value", "low", "high"], ["value", "low", "high"], false, top 8⟩
def r2 : DefI := ⟨2, "are_integers", ["value", "size"], ["value", "size", "one"], true, top 9⟩
def r3 : DefI := ⟨3, "are_naturals", ["value", "size"], ["value", "size", "one"], true, top 10⟩
def r4 : DefI := ⟨4, "is_ascending", ["items"], ["items", "at"], true, top 11⟩
def r5 : DefI := ⟨5, "is_rule", ["k", "n", "value"], ["k", "n", "value"], false, top 13⟩
def r6 : DefI := ⟨6, "is_grammar", ["value"], ["value", "k", "n", "start", "rules", "rule"], true, top 14⟩
def r7 : DefI := ⟨7, "is_deed", ["places", "value"], ["places", "value"], false, top 16⟩
def r8 : DefI := ⟨8, "is_net", ["value"], ["value", "deed"], true, top 17⟩
def r9 : DefI := ⟨9, "check_net", ["net"], ["net"], false, top 18⟩
def r10 : DefI := ⟨10, "check_marks", ["net", "bag"], ["net", "bag"], false, top 19⟩
def r11 : DefI := ⟨11, "net_of", ["places", "deeds"], ["places", "deeds", "deed"], false, top 20⟩
def r12 : DefI := ⟨12, "can_be_done", ["net", "bag", "deed"], ["net", "bag", "deed"], false, top 21⟩
def r13 : DefI := ⟨13, "bag_after", ["net", "bag", "deed"], ["net", "bag", "deed", "place", "laid", "at", "many"], false, top 22⟩
def r14 : DefI := ⟨14, "check_deed", ["net", "bag", "deed"], ["net", "bag", "deed"], false, top 23⟩
def r15 : DefI := ⟨15, "behind", ["net", "bag", "deed"], ["net", "bag", "deed"], false, top 24⟩
def r16 : DefI := ⟨16, "unit", ["places", "place"], ["places", "place", "at"], false, top 25⟩
def r17 : DefI := ⟨17, "grammar_in", ["net", "bag"], ["net", "bag", "places", "zeros", "rules", "place", "laid"], false, top 26⟩
def r18 : DefI := ⟨18, "grammar_of_net", ["net", "bag"], ["net", "bag"], false, top 27⟩
def r19 : DefI := ⟨19, "_law_well", ["script"], ["script", "cell"], false, top 29⟩
def r20 : DefI := ⟨20, "_law_draw", ["well", "many"], ["well", "many", "turn", "mixed", "cell", "found"], false, top 30⟩
def r21 : DefI := ⟨21, "_law_like", ["told", "due"], ["told", "due", "at"], false, top 31⟩
def r22 : DefI := ⟨22, "_law_sum", ["one", "other", "many"], ["one", "other", "many", "at"], false, top 32⟩
def r23 : DefI := ⟨23, "_law_unit", ["size", "place"], ["size", "place", "at"], false, top 33⟩
def r24 : DefI := ⟨24, "_law_tally", ["well", "size", "total"], ["well", "size", "total", "found", "turn"], false, top 34⟩
def r25 : DefI := ⟨25, "_law_behind", ["net", "bag", "deed"], ["net", "bag", "deed", "place", "laid"], false, top 35⟩
def r26 : DefI := ⟨26, "_law_net_grammar", ["net", "bag"], ["net", "bag", "rules", "places", "zeros", "place", "laid"], false, top 36⟩
def r27 : DefI := ⟨27, "_law_mixed", ["well", "items"], ["well", "items", "turn", "left", "found"], false, top 37⟩
def r28 : DefI := ⟨28, "_law_bent", ["well", "net"], ["well", "net", "bad", "odd", "places", "deeds", "one"], false, top 38⟩
def r29 : DefI := ⟨29, "law", ["script"], ["script", "well", "turn", "step", "net", "mixed", "handed", "kept", "bag", "deed", "due", "places", "deeds", "bent"], false, top 39⟩
def Q : List Pt := [⟨"is_integer", 0, 1, [], [0]⟩, ⟨"are_integers", 2, 2, [], [0, 1]⟩, ⟨"are_naturals", 3, 2, [], [0, 1]⟩, ⟨"is_between", 1, 3, [], [0, 1, 2]⟩, ⟨"is_rule", 5, 3, [], [0, 1, 2]⟩, ⟨"is_ascending", 4, 1, [], [0]⟩, ⟨"is_deed", 7, 2, [], [0, 1]⟩, ⟨"is_net", 8, 1, [], [0]⟩, ⟨"can_be_done", 12, 3, [], [0, 1, 2]⟩, ⟨"check_net", 9, 1, [], [0]⟩, ⟨"check_marks", 10, 2, [], [0, 1]⟩, ⟨"check_deed", 14, 3, [], [0, 1, 2]⟩, ⟨"bag_after", 13, 3, [], [0, 1, 2]⟩, ⟨"unit", 16, 2, [], [0, 1]⟩, ⟨"grammar_in", 17, 2, [], [0, 1]⟩, ⟨"_law_like", 21, 2, [], [0, 1]⟩, ⟨"_law_draw", 20, 2, [], [0, 1]⟩, ⟨"_law_sum", 22, 3, [], [0, 1, 2]⟩, ⟨"_law_unit", 23, 2, [], [0, 1]⟩, ⟨"_law_well", 19, 1, [], [0]⟩, ⟨"_law_tally", 24, 3, [], [0, 1, 2]⟩, ⟨"_law_mixed", 27, 2, [], [0, 1]⟩, ⟨"net_of", 11, 2, [], [0, 1]⟩, ⟨"net_of", 11, 0, ["deeds", "places"], [1, 0]⟩, ⟨"_law_bent", 28, 2, [], [0, 1]⟩, ⟨"is_net", 8, 0, ["value"], [0]⟩, ⟨"_law_behind", 25, 3, [], [0, 1, 2]⟩, ⟨"behind", 15, 3, [], [0, 1, 2]⟩, ⟨"behind", 15, 0, ["deed", "bag", "net"], [2, 1, 0]⟩, ⟨"_law_net_grammar", 26, 2, [], [0, 1]⟩, ⟨"grammar_of_net", 18, 2, [], [0, 1]⟩, ⟨"grammar_of_net", 18, 0, ["bag", "net"], [1, 0]⟩, ⟨"is_grammar", 6, 1, [], [0]⟩]
def cls : List Str := ["InvalidNumber", "InvalidBag", "InvalidNet", "InvalidDeed"]
def bare : List Str := ["all", "bool", "enumerate", "int", "isinstance", "len", "list", "range", "repr", "set", "sorted", "str", "tuple"]
set_option maxHeartbeats 0
theorem ok0 : r0.ok D Q cls bare = true := by decide +kernel
theorem ok1 : r1.ok D Q cls bare = true := by decide +kernel
theorem ok2 : r2.ok D Q cls bare = true := by decide +kernel
theorem ok3 : r3.ok D Q cls bare = true := by decide +kernel
theorem ok4 : r4.ok D Q cls bare = true := by decide +kernel
theorem ok5 : r5.ok D Q cls bare = true := by decide +kernel
theorem ok6 : r6.ok D Q cls bare = true := by decide +kernel
theorem ok7 : r7.ok D Q cls bare = true := by decide +kernel
theorem ok8 : r8.ok D Q cls bare = true := by decide +kernel
theorem ok9 : r9.ok D Q cls bare = true := by decide +kernel
theorem ok10 : r10.ok D Q cls bare = true := by decide +kernel
theorem ok11 : r11.ok D Q cls bare = true := by decide +kernel
theorem ok12 : r12.ok D Q cls bare = true := by decide +kernel
theorem ok13 : r13.ok D Q cls bare = true := by decide +kernel
theorem ok14 : r14.ok D Q cls bare = true := by decide +kernel
theorem ok15 : r15.ok D Q cls bare = true := by decide +kernel
theorem ok16 : r16.ok D Q cls bare = true := by decide +kernel
theorem ok17 : r17.ok D Q cls bare = true := by decide +kernel
theorem ok18 : r18.ok D Q cls bare = true := by decide +kernel
theorem ok19 : r19.ok D Q cls bare = true := by decide +kernel
theorem ok20 : r20.ok D Q cls bare = true := by decide +kernel
theorem ok21 : r21.ok D Q cls bare = true := by decide +kernel
theorem ok22 : r22.ok D Q cls bare = true := by decide +kernel
theorem ok23 : r23.ok D Q cls bare = true := by decide +kernel
theorem ok24 : r24.ok D Q cls bare = true := by decide +kernel
theorem ok25 : r25.ok D Q cls bare = true := by decide +kernel
theorem ok26 : r26.ok D Q cls bare = true := by decide +kernel
theorem ok27 : r27.ok D Q cls bare = true := by decide +kernel
theorem ok28 : r28.ok D Q cls bare = true := by decide +kernel
end Mi.K51
namespace Mi.K51
open PySem PySem.Spec PyProof.Rows L2 Mi
set_option maxHeartbeats 0
def rs : List DefI := [r0, r1, r2, r3, r4, r5, r6, r7, r8, r9, r10, r11, r12, r13, r14, r15, r16, r17, r18, r19, r20, r21, r22, r23, r24, r25, r26, r27, r28]
def law : DefI := r29
theorem kq0 : (Q.filter fun q => decide (q.x = r0.x)) = [⟨"is_integer", 0, 1, [], [0]⟩] := by decide +kernel
theorem kb0 {K : PySem.W.Frag} {kV doc pm cdv ct : Value} {an : Option Addr} : ∀ q ∈ Q, q.x = r0.x → KB K (PySem.W.fnOf "is_integer" "is_integer" (L2.defArgs r0.st) (L2.defBody r0.st) (L2.defScope r0.st) .none kV doc pm an cdv ct) r0.ps q.n q.ks q.perm := fun q hq hx => by
  have h : q ∈ (Q.filter fun q => decide (q.x = r0.x)) := List.mem_filter.mpr ⟨hq, decide_eq_true hx⟩
  rw [kq0] at h
  simp only [List.mem_cons, List.not_mem_nil, or_false] at h
  rcases h with rfl
  · exact fun s us ws _ h1 h2 => match us, ws, h1, h2 with
    | [_], [], _, _ => .of_eq rfl
theorem kq1 : (Q.filter fun q => decide (q.x = r1.x)) = [⟨"is_between", 1, 3, [], [0, 1, 2]⟩] := by decide +kernel
theorem kb1 {K : PySem.W.Frag} {kV doc pm cdv ct : Value} {an : Option Addr} : ∀ q ∈ Q, q.x = r1.x → KB K (PySem.W.fnOf "is_between" "is_between" (L2.defArgs r1.st) (L2.defBody r1.st) (L2.defScope r1.st) .none kV doc pm an cdv ct) r1.ps q.n q.ks q.perm := fun q hq hx => by
  have h : q ∈ (Q.filter fun q => decide (q.x = r1.x)) := List.mem_filter.mpr ⟨hq, decide_eq_true hx⟩
  rw [kq1] at h
  simp only [List.mem_cons, List.not_mem_nil, or_false] at h
  rcases h with rfl
  · exact fun s us ws _ h1 h2 => match us, ws, h1, h2 with
    | [_, _, _], [], _, _ => .of_eq rfl
theorem kq2 : (Q.filter fun q => decide (q.x = r2.x)) = [⟨"are_integers", 2, 2, [], [0, 1]⟩] := by decide +kernel
theorem kb2 {K : PySem.W.Frag} {kV doc pm cdv ct : Value} {an : Option Addr} : ∀ q ∈ Q, q.x = r2.x → KB K (PySem.W.fnOf "are_integers" "are_integers" (L2.defArgs r2.st) (L2.defBody r2.st) (L2.defScope r2.st) .none kV doc pm an cdv ct) r2.ps q.n q.ks q.perm := fun q hq hx => by
  have h : q ∈ (Q.filter fun q => decide (q.x = r2.x)) := List.mem_filter.mpr ⟨hq, decide_eq_true hx⟩
  rw [kq2] at h
  simp only [List.mem_cons, List.not_mem_nil, or_false] at h
  rcases h with rfl
  · exact fun s us ws _ h1 h2 => match us, ws, h1, h2 with
    | [_, _], [], _, _ => .of_eq rfl
theorem kq3 : (Q.filter fun q => decide (q.x = r3.x)) = [⟨"are_naturals", 3, 2, [], [0, 1]⟩] := by decide +kernel
theorem kb3 {K : PySem.W.Frag} {kV doc pm cdv ct : Value} {an : Option Addr} : ∀ q ∈ Q, q.x = r3.x → KB K (PySem.W.fnOf "are_naturals" "are_naturals" (L2.defArgs r3.st) (L2.defBody r3.st) (L2.defScope r3.st) .none kV doc pm an cdv ct) r3.ps q.n q.ks q.perm := fun q hq hx => by
  have h : q ∈ (Q.filter fun q => decide (q.x = r3.x)) := List.mem_filter.mpr ⟨hq, decide_eq_true hx⟩
  rw [kq3] at h
  simp only [List.mem_cons, List.not_mem_nil, or_false] at h
  rcases h with rfl
  · exact fun s us ws _ h1 h2 => match us, ws, h1, h2 with
    | [_, _], [], _, _ => .of_eq rfl
theorem kq4 : (Q.filter fun q => decide (q.x = r4.x)) = [⟨"is_ascending", 4, 1, [], [0]⟩] := by decide +kernel
theorem kb4 {K : PySem.W.Frag} {kV doc pm cdv ct : Value} {an : Option Addr} : ∀ q ∈ Q, q.x = r4.x → KB K (PySem.W.fnOf "is_ascending" "is_ascending" (L2.defArgs r4.st) (L2.defBody r4.st) (L2.defScope r4.st) .none kV doc pm an cdv ct) r4.ps q.n q.ks q.perm := fun q hq hx => by
  have h : q ∈ (Q.filter fun q => decide (q.x = r4.x)) := List.mem_filter.mpr ⟨hq, decide_eq_true hx⟩
  rw [kq4] at h
  simp only [List.mem_cons, List.not_mem_nil, or_false] at h
  rcases h with rfl
  · exact fun s us ws _ h1 h2 => match us, ws, h1, h2 with
    | [_], [], _, _ => .of_eq rfl
theorem kq5 : (Q.filter fun q => decide (q.x = r5.x)) = [⟨"is_rule", 5, 3, [], [0, 1, 2]⟩] := by decide +kernel
theorem kb5 {K : PySem.W.Frag} {kV doc pm cdv ct : Value} {an : Option Addr} : ∀ q ∈ Q, q.x = r5.x → KB K (PySem.W.fnOf "is_rule" "is_rule" (L2.defArgs r5.st) (L2.defBody r5.st) (L2.defScope r5.st) .none kV doc pm an cdv ct) r5.ps q.n q.ks q.perm := fun q hq hx => by
  have h : q ∈ (Q.filter fun q => decide (q.x = r5.x)) := List.mem_filter.mpr ⟨hq, decide_eq_true hx⟩
  rw [kq5] at h
  simp only [List.mem_cons, List.not_mem_nil, or_false] at h
  rcases h with rfl
  · exact fun s us ws _ h1 h2 => match us, ws, h1, h2 with
    | [_, _, _], [], _, _ => .of_eq rfl
theorem kq6 : (Q.filter fun q => decide (q.x = r6.x)) = [⟨"is_grammar", 6, 1, [], [0]⟩] := by decide +kernel
theorem kb6 {K : PySem.W.Frag} {kV doc pm cdv ct : Value} {an : Option Addr} : ∀ q ∈ Q, q.x = r6.x → KB K (PySem.W.fnOf "is_grammar" "is_grammar" (L2.defArgs r6.st) (L2.defBody r6.st) (L2.defScope r6.st) .none kV doc pm an cdv ct) r6.ps q.n q.ks q.perm := fun q hq hx => by
  have h : q ∈ (Q.filter fun q => decide (q.x = r6.x)) := List.mem_filter.mpr ⟨hq, decide_eq_true hx⟩
  rw [kq6] at h
  simp only [List.mem_cons, List.not_mem_nil, or_false] at h
  rcases h with rfl
  · exact fun s us ws _ h1 h2 => match us, ws, h1, h2 with
    | [_], [], _, _ => .of_eq rfl
theorem kq7 : (Q.filter fun q => decide (q.x = r7.x)) = [⟨"is_deed", 7, 2, [], [0, 1]⟩] := by decide +kernel
theorem kb7 {K : PySem.W.Frag} {kV doc pm cdv ct : Value} {an : Option Addr} : ∀ q ∈ Q, q.x = r7.x → KB K (PySem.W.fnOf "is_deed" "is_deed" (L2.defArgs r7.st) (L2.defBody r7.st) (L2.defScope r7.st) .none kV doc pm an cdv ct) r7.ps q.n q.ks q.perm := fun q hq hx => by
  have h : q ∈ (Q.filter fun q => decide (q.x = r7.x)) := List.mem_filter.mpr ⟨hq, decide_eq_true hx⟩
  rw [kq7] at h
  simp only [List.mem_cons, List.not_mem_nil, or_false] at h
  rcases h with rfl
  · exact fun s us ws _ h1 h2 => match us, ws, h1, h2 with
    | [_, _], [], _, _ => .of_eq rfl
theorem kq8 : (Q.filter fun q => decide (q.x = r8.x)) = [⟨"is_net", 8, 1, [], [0]⟩, ⟨"is_net", 8, 0, ["value"], [0]⟩] := by decide +kernel
theorem kb8 {K : PySem.W.Frag} {kV doc pm cdv ct : Value} {an : Option Addr} : ∀ q ∈ Q, q.x = r8.x → KB K (PySem.W.fnOf "is_net" "is_net" (L2.defArgs r8.st) (L2.defBody r8.st) (L2.defScope r8.st) .none kV doc pm an cdv ct) r8.ps q.n q.ks q.perm := fun q hq hx => by
  have h : q ∈ (Q.filter fun q => decide (q.x = r8.x)) := List.mem_filter.mpr ⟨hq, decide_eq_true hx⟩
  rw [kq8] at h
  simp only [List.mem_cons, List.not_mem_nil, or_false] at h
  rcases h with rfl | rfl
  · exact fun s us ws _ h1 h2 => match us, ws, h1, h2 with
    | [_], [], _, _ => .of_eq rfl
  · exact fun s us ws _ h1 h2 => match us, ws, h1, h2 with
    | [], [_], _, _ => .of_eq rfl
theorem kq9 : (Q.filter fun q => decide (q.x = r9.x)) = [⟨"check_net", 9, 1, [], [0]⟩] := by decide +kernel
theorem kb9 {K : PySem.W.Frag} {kV doc pm cdv ct : Value} {an : Option Addr} : ∀ q ∈ Q, q.x = r9.x → KB K (PySem.W.fnOf "check_net" "check_net" (L2.defArgs r9.st) (L2.defBody r9.st) (L2.defScope r9.st) .none kV doc pm an cdv ct) r9.ps q.n q.ks q.perm := fun q hq hx => by
  have h : q ∈ (Q.filter fun q => decide (q.x = r9.x)) := List.mem_filter.mpr ⟨hq, decide_eq_true hx⟩
  rw [kq9] at h
  simp only [List.mem_cons, List.not_mem_nil, or_false] at h
  rcases h with rfl
  · exact fun s us ws _ h1 h2 => match us, ws, h1, h2 with
    | [_], [], _, _ => .of_eq rfl
theorem kq10 : (Q.filter fun q => decide (q.x = r10.x)) = [⟨"check_marks", 10, 2, [], [0, 1]⟩] := by decide +kernel
theorem kb10 {K : PySem.W.Frag} {kV doc pm cdv ct : Value} {an : Option Addr} : ∀ q ∈ Q, q.x = r10.x → KB K (PySem.W.fnOf "check_marks" "check_marks" (L2.defArgs r10.st) (L2.defBody r10.st) (L2.defScope r10.st) .none kV doc pm an cdv ct) r10.ps q.n q.ks q.perm := fun q hq hx => by
  have h : q ∈ (Q.filter fun q => decide (q.x = r10.x)) := List.mem_filter.mpr ⟨hq, decide_eq_true hx⟩
  rw [kq10] at h
  simp only [List.mem_cons, List.not_mem_nil, or_false] at h
  rcases h with rfl
  · exact fun s us ws _ h1 h2 => match us, ws, h1, h2 with
    | [_, _], [], _, _ => .of_eq rfl
theorem kq11 : (Q.filter fun q => decide (q.x = r11.x)) = [⟨"net_of", 11, 2, [], [0, 1]⟩, ⟨"net_of", 11, 0, ["deeds", "places"], [1, 0]⟩] := by decide +kernel
theorem kb11 {K : PySem.W.Frag} {kV doc pm cdv ct : Value} {an : Option Addr} : ∀ q ∈ Q, q.x = r11.x → KB K (PySem.W.fnOf "net_of" "net_of" (L2.defArgs r11.st) (L2.defBody r11.st) (L2.defScope r11.st) .none kV doc pm an cdv ct) r11.ps q.n q.ks q.perm := fun q hq hx => by
  have h : q ∈ (Q.filter fun q => decide (q.x = r11.x)) := List.mem_filter.mpr ⟨hq, decide_eq_true hx⟩
  rw [kq11] at h
  simp only [List.mem_cons, List.not_mem_nil, or_false] at h
  rcases h with rfl | rfl
  · exact fun s us ws _ h1 h2 => match us, ws, h1, h2 with
    | [_, _], [], _, _ => .of_eq rfl
  · exact fun s us ws _ h1 h2 => match us, ws, h1, h2 with
    | [], [_, _], _, _ => .of_eq rfl
theorem kq12 : (Q.filter fun q => decide (q.x = r12.x)) = [⟨"can_be_done", 12, 3, [], [0, 1, 2]⟩] := by decide +kernel
theorem kb12 {K : PySem.W.Frag} {kV doc pm cdv ct : Value} {an : Option Addr} : ∀ q ∈ Q, q.x = r12.x → KB K (PySem.W.fnOf "can_be_done" "can_be_done" (L2.defArgs r12.st) (L2.defBody r12.st) (L2.defScope r12.st) .none kV doc pm an cdv ct) r12.ps q.n q.ks q.perm := fun q hq hx => by
  have h : q ∈ (Q.filter fun q => decide (q.x = r12.x)) := List.mem_filter.mpr ⟨hq, decide_eq_true hx⟩
  rw [kq12] at h
  simp only [List.mem_cons, List.not_mem_nil, or_false] at h
  rcases h with rfl
  · exact fun s us ws _ h1 h2 => match us, ws, h1, h2 with
    | [_, _, _], [], _, _ => .of_eq rfl
theorem kq13 : (Q.filter fun q => decide (q.x = r13.x)) = [⟨"bag_after", 13, 3, [], [0, 1, 2]⟩] := by decide +kernel
theorem kb13 {K : PySem.W.Frag} {kV doc pm cdv ct : Value} {an : Option Addr} : ∀ q ∈ Q, q.x = r13.x → KB K (PySem.W.fnOf "bag_after" "bag_after" (L2.defArgs r13.st) (L2.defBody r13.st) (L2.defScope r13.st) .none kV doc pm an cdv ct) r13.ps q.n q.ks q.perm := fun q hq hx => by
  have h : q ∈ (Q.filter fun q => decide (q.x = r13.x)) := List.mem_filter.mpr ⟨hq, decide_eq_true hx⟩
  rw [kq13] at h
  simp only [List.mem_cons, List.not_mem_nil, or_false] at h
  rcases h with rfl
  · exact fun s us ws _ h1 h2 => match us, ws, h1, h2 with
    | [_, _, _], [], _, _ => .of_eq rfl
theorem kq14 : (Q.filter fun q => decide (q.x = r14.x)) = [⟨"check_deed", 14, 3, [], [0, 1, 2]⟩] := by decide +kernel
theorem kb14 {K : PySem.W.Frag} {kV doc pm cdv ct : Value} {an : Option Addr} : ∀ q ∈ Q, q.x = r14.x → KB K (PySem.W.fnOf "check_deed" "check_deed" (L2.defArgs r14.st) (L2.defBody r14.st) (L2.defScope r14.st) .none kV doc pm an cdv ct) r14.ps q.n q.ks q.perm := fun q hq hx => by
  have h : q ∈ (Q.filter fun q => decide (q.x = r14.x)) := List.mem_filter.mpr ⟨hq, decide_eq_true hx⟩
  rw [kq14] at h
  simp only [List.mem_cons, List.not_mem_nil, or_false] at h
  rcases h with rfl
  · exact fun s us ws _ h1 h2 => match us, ws, h1, h2 with
    | [_, _, _], [], _, _ => .of_eq rfl
theorem kq15 : (Q.filter fun q => decide (q.x = r15.x)) = [⟨"behind", 15, 3, [], [0, 1, 2]⟩, ⟨"behind", 15, 0, ["deed", "bag", "net"], [2, 1, 0]⟩] := by decide +kernel
theorem kb15 {K : PySem.W.Frag} {kV doc pm cdv ct : Value} {an : Option Addr} : ∀ q ∈ Q, q.x = r15.x → KB K (PySem.W.fnOf "behind" "behind" (L2.defArgs r15.st) (L2.defBody r15.st) (L2.defScope r15.st) .none kV doc pm an cdv ct) r15.ps q.n q.ks q.perm := fun q hq hx => by
  have h : q ∈ (Q.filter fun q => decide (q.x = r15.x)) := List.mem_filter.mpr ⟨hq, decide_eq_true hx⟩
  rw [kq15] at h
  simp only [List.mem_cons, List.not_mem_nil, or_false] at h
  rcases h with rfl | rfl
  · exact fun s us ws _ h1 h2 => match us, ws, h1, h2 with
    | [_, _, _], [], _, _ => .of_eq rfl
  · exact fun s us ws _ h1 h2 => match us, ws, h1, h2 with
    | [], [_, _, _], _, _ => .of_eq rfl
theorem kq16 : (Q.filter fun q => decide (q.x = r16.x)) = [⟨"unit", 16, 2, [], [0, 1]⟩] := by decide +kernel
theorem kb16 {K : PySem.W.Frag} {kV doc pm cdv ct : Value} {an : Option Addr} : ∀ q ∈ Q, q.x = r16.x → KB K (PySem.W.fnOf "unit" "unit" (L2.defArgs r16.st) (L2.defBody r16.st) (L2.defScope r16.st) .none kV doc pm an cdv ct) r16.ps q.n q.ks q.perm := fun q hq hx => by
  have h : q ∈ (Q.filter fun q => decide (q.x = r16.x)) := List.mem_filter.mpr ⟨hq, decide_eq_true hx⟩
  rw [kq16] at h
  simp only [List.mem_cons, List.not_mem_nil, or_false] at h
  rcases h with rfl
  · exact fun s us ws _ h1 h2 => match us, ws, h1, h2 with
    | [_, _], [], _, _ => .of_eq rfl
theorem kq17 : (Q.filter fun q => decide (q.x = r17.x)) = [⟨"grammar_in", 17, 2, [], [0, 1]⟩] := by decide +kernel
theorem kb17 {K : PySem.W.Frag} {kV doc pm cdv ct : Value} {an : Option Addr} : ∀ q ∈ Q, q.x = r17.x → KB K (PySem.W.fnOf "grammar_in" "grammar_in" (L2.defArgs r17.st) (L2.defBody r17.st) (L2.defScope r17.st) .none kV doc pm an cdv ct) r17.ps q.n q.ks q.perm := fun q hq hx => by
  have h : q ∈ (Q.filter fun q => decide (q.x = r17.x)) := List.mem_filter.mpr ⟨hq, decide_eq_true hx⟩
  rw [kq17] at h
  simp only [List.mem_cons, List.not_mem_nil, or_false] at h
  rcases h with rfl
  · exact fun s us ws _ h1 h2 => match us, ws, h1, h2 with
    | [_, _], [], _, _ => .of_eq rfl
theorem kq18 : (Q.filter fun q => decide (q.x = r18.x)) = [⟨"grammar_of_net", 18, 2, [], [0, 1]⟩, ⟨"grammar_of_net", 18, 0, ["bag", "net"], [1, 0]⟩] := by decide +kernel
theorem kb18 {K : PySem.W.Frag} {kV doc pm cdv ct : Value} {an : Option Addr} : ∀ q ∈ Q, q.x = r18.x → KB K (PySem.W.fnOf "grammar_of_net" "grammar_of_net" (L2.defArgs r18.st) (L2.defBody r18.st) (L2.defScope r18.st) .none kV doc pm an cdv ct) r18.ps q.n q.ks q.perm := fun q hq hx => by
  have h : q ∈ (Q.filter fun q => decide (q.x = r18.x)) := List.mem_filter.mpr ⟨hq, decide_eq_true hx⟩
  rw [kq18] at h
  simp only [List.mem_cons, List.not_mem_nil, or_false] at h
  rcases h with rfl | rfl
  · exact fun s us ws _ h1 h2 => match us, ws, h1, h2 with
    | [_, _], [], _, _ => .of_eq rfl
  · exact fun s us ws _ h1 h2 => match us, ws, h1, h2 with
    | [], [_, _], _, _ => .of_eq rfl
theorem kq19 : (Q.filter fun q => decide (q.x = r19.x)) = [⟨"_law_well", 19, 1, [], [0]⟩] := by decide +kernel
theorem kb19 {K : PySem.W.Frag} {kV doc pm cdv ct : Value} {an : Option Addr} : ∀ q ∈ Q, q.x = r19.x → KB K (PySem.W.fnOf "_law_well" "_law_well" (L2.defArgs r19.st) (L2.defBody r19.st) (L2.defScope r19.st) .none kV doc pm an cdv ct) r19.ps q.n q.ks q.perm := fun q hq hx => by
  have h : q ∈ (Q.filter fun q => decide (q.x = r19.x)) := List.mem_filter.mpr ⟨hq, decide_eq_true hx⟩
  rw [kq19] at h
  simp only [List.mem_cons, List.not_mem_nil, or_false] at h
  rcases h with rfl
  · exact fun s us ws _ h1 h2 => match us, ws, h1, h2 with
    | [_], [], _, _ => .of_eq rfl
theorem kq20 : (Q.filter fun q => decide (q.x = r20.x)) = [⟨"_law_draw", 20, 2, [], [0, 1]⟩] := by decide +kernel
theorem kb20 {K : PySem.W.Frag} {kV doc pm cdv ct : Value} {an : Option Addr} : ∀ q ∈ Q, q.x = r20.x → KB K (PySem.W.fnOf "_law_draw" "_law_draw" (L2.defArgs r20.st) (L2.defBody r20.st) (L2.defScope r20.st) .none kV doc pm an cdv ct) r20.ps q.n q.ks q.perm := fun q hq hx => by
  have h : q ∈ (Q.filter fun q => decide (q.x = r20.x)) := List.mem_filter.mpr ⟨hq, decide_eq_true hx⟩
  rw [kq20] at h
  simp only [List.mem_cons, List.not_mem_nil, or_false] at h
  rcases h with rfl
  · exact fun s us ws _ h1 h2 => match us, ws, h1, h2 with
    | [_, _], [], _, _ => .of_eq rfl
theorem kq21 : (Q.filter fun q => decide (q.x = r21.x)) = [⟨"_law_like", 21, 2, [], [0, 1]⟩] := by decide +kernel
theorem kb21 {K : PySem.W.Frag} {kV doc pm cdv ct : Value} {an : Option Addr} : ∀ q ∈ Q, q.x = r21.x → KB K (PySem.W.fnOf "_law_like" "_law_like" (L2.defArgs r21.st) (L2.defBody r21.st) (L2.defScope r21.st) .none kV doc pm an cdv ct) r21.ps q.n q.ks q.perm := fun q hq hx => by
  have h : q ∈ (Q.filter fun q => decide (q.x = r21.x)) := List.mem_filter.mpr ⟨hq, decide_eq_true hx⟩
  rw [kq21] at h
  simp only [List.mem_cons, List.not_mem_nil, or_false] at h
  rcases h with rfl
  · exact fun s us ws _ h1 h2 => match us, ws, h1, h2 with
    | [_, _], [], _, _ => .of_eq rfl
theorem kq22 : (Q.filter fun q => decide (q.x = r22.x)) = [⟨"_law_sum", 22, 3, [], [0, 1, 2]⟩] := by decide +kernel
theorem kb22 {K : PySem.W.Frag} {kV doc pm cdv ct : Value} {an : Option Addr} : ∀ q ∈ Q, q.x = r22.x → KB K (PySem.W.fnOf "_law_sum" "_law_sum" (L2.defArgs r22.st) (L2.defBody r22.st) (L2.defScope r22.st) .none kV doc pm an cdv ct) r22.ps q.n q.ks q.perm := fun q hq hx => by
  have h : q ∈ (Q.filter fun q => decide (q.x = r22.x)) := List.mem_filter.mpr ⟨hq, decide_eq_true hx⟩
  rw [kq22] at h
  simp only [List.mem_cons, List.not_mem_nil, or_false] at h
  rcases h with rfl
  · exact fun s us ws _ h1 h2 => match us, ws, h1, h2 with
    | [_, _, _], [], _, _ => .of_eq rfl
theorem kq23 : (Q.filter fun q => decide (q.x = r23.x)) = [⟨"_law_unit", 23, 2, [], [0, 1]⟩] := by decide +kernel
theorem kb23 {K : PySem.W.Frag} {kV doc pm cdv ct : Value} {an : Option Addr} : ∀ q ∈ Q, q.x = r23.x → KB K (PySem.W.fnOf "_law_unit" "_law_unit" (L2.defArgs r23.st) (L2.defBody r23.st) (L2.defScope r23.st) .none kV doc pm an cdv ct) r23.ps q.n q.ks q.perm := fun q hq hx => by
  have h : q ∈ (Q.filter fun q => decide (q.x = r23.x)) := List.mem_filter.mpr ⟨hq, decide_eq_true hx⟩
  rw [kq23] at h
  simp only [List.mem_cons, List.not_mem_nil, or_false] at h
  rcases h with rfl
  · exact fun s us ws _ h1 h2 => match us, ws, h1, h2 with
    | [_, _], [], _, _ => .of_eq rfl
theorem kq24 : (Q.filter fun q => decide (q.x = r24.x)) = [⟨"_law_tally", 24, 3, [], [0, 1, 2]⟩] := by decide +kernel
theorem kb24 {K : PySem.W.Frag} {kV doc pm cdv ct : Value} {an : Option Addr} : ∀ q ∈ Q, q.x = r24.x → KB K (PySem.W.fnOf "_law_tally" "_law_tally" (L2.defArgs r24.st) (L2.defBody r24.st) (L2.defScope r24.st) .none kV doc pm an cdv ct) r24.ps q.n q.ks q.perm := fun q hq hx => by
  have h : q ∈ (Q.filter fun q => decide (q.x = r24.x)) := List.mem_filter.mpr ⟨hq, decide_eq_true hx⟩
  rw [kq24] at h
  simp only [List.mem_cons, List.not_mem_nil, or_false] at h
  rcases h with rfl
  · exact fun s us ws _ h1 h2 => match us, ws, h1, h2 with
    | [_, _, _], [], _, _ => .of_eq rfl
theorem kq25 : (Q.filter fun q => decide (q.x = r25.x)) = [⟨"_law_behind", 25, 3, [], [0, 1, 2]⟩] := by decide +kernel
theorem kb25 {K : PySem.W.Frag} {kV doc pm cdv ct : Value} {an : Option Addr} : ∀ q ∈ Q, q.x = r25.x → KB K (PySem.W.fnOf "_law_behind" "_law_behind" (L2.defArgs r25.st) (L2.defBody r25.st) (L2.defScope r25.st) .none kV doc pm an cdv ct) r25.ps q.n q.ks q.perm := fun q hq hx => by
  have h : q ∈ (Q.filter fun q => decide (q.x = r25.x)) := List.mem_filter.mpr ⟨hq, decide_eq_true hx⟩
  rw [kq25] at h
  simp only [List.mem_cons, List.not_mem_nil, or_false] at h
  rcases h with rfl
  · exact fun s us ws _ h1 h2 => match us, ws, h1, h2 with
    | [_, _, _], [], _, _ => .of_eq rfl
theorem kq26 : (Q.filter fun q => decide (q.x = r26.x)) = [⟨"_law_net_grammar", 26, 2, [], [0, 1]⟩] := by decide +kernel
theorem kb26 {K : PySem.W.Frag} {kV doc pm cdv ct : Value} {an : Option Addr} : ∀ q ∈ Q, q.x = r26.x → KB K (PySem.W.fnOf "_law_net_grammar" "_law_net_grammar" (L2.defArgs r26.st) (L2.defBody r26.st) (L2.defScope r26.st) .none kV doc pm an cdv ct) r26.ps q.n q.ks q.perm := fun q hq hx => by
  have h : q ∈ (Q.filter fun q => decide (q.x = r26.x)) := List.mem_filter.mpr ⟨hq, decide_eq_true hx⟩
  rw [kq26] at h
  simp only [List.mem_cons, List.not_mem_nil, or_false] at h
  rcases h with rfl
  · exact fun s us ws _ h1 h2 => match us, ws, h1, h2 with
    | [_, _], [], _, _ => .of_eq rfl
theorem kq27 : (Q.filter fun q => decide (q.x = r27.x)) = [⟨"_law_mixed", 27, 2, [], [0, 1]⟩] := by decide +kernel
theorem kb27 {K : PySem.W.Frag} {kV doc pm cdv ct : Value} {an : Option Addr} : ∀ q ∈ Q, q.x = r27.x → KB K (PySem.W.fnOf "_law_mixed" "_law_mixed" (L2.defArgs r27.st) (L2.defBody r27.st) (L2.defScope r27.st) .none kV doc pm an cdv ct) r27.ps q.n q.ks q.perm := fun q hq hx => by
  have h : q ∈ (Q.filter fun q => decide (q.x = r27.x)) := List.mem_filter.mpr ⟨hq, decide_eq_true hx⟩
  rw [kq27] at h
  simp only [List.mem_cons, List.not_mem_nil, or_false] at h
  rcases h with rfl
  · exact fun s us ws _ h1 h2 => match us, ws, h1, h2 with
    | [_, _], [], _, _ => .of_eq rfl
theorem kq28 : (Q.filter fun q => decide (q.x = r28.x)) = [⟨"_law_bent", 28, 2, [], [0, 1]⟩] := by decide +kernel
theorem kb28 {K : PySem.W.Frag} {kV doc pm cdv ct : Value} {an : Option Addr} : ∀ q ∈ Q, q.x = r28.x → KB K (PySem.W.fnOf "_law_bent" "_law_bent" (L2.defArgs r28.st) (L2.defBody r28.st) (L2.defScope r28.st) .none kV doc pm an cdv ct) r28.ps q.n q.ks q.perm := fun q hq hx => by
  have h : q ∈ (Q.filter fun q => decide (q.x = r28.x)) := List.mem_filter.mpr ⟨hq, decide_eq_true hx⟩
  rw [kq28] at h
  simp only [List.mem_cons, List.not_mem_nil, or_false] at h
  rcases h with rfl
  · exact fun s us ws _ h1 h2 => match us, ws, h1, h2 with
    | [_, _], [], _, _ => .of_eq rfl
theorem bA : BindsAll rs Q := fun r hr => by
  simp only [rs, List.mem_cons, List.not_mem_nil, or_false] at hr
  rcases hr with rfl | rfl | rfl | rfl | rfl | rfl | rfl | rfl | rfl | rfl | rfl | rfl | rfl | rfl | rfl | rfl | rfl | rfl | rfl | rfl | rfl | rfl | rfl | rfl | rfl | rfl | rfl | rfl | rfl
  · exact fun K kV doc pm an cdv ct => kb0
  · exact fun K kV doc pm an cdv ct => kb1
  · exact fun K kV doc pm an cdv ct => kb2
  · exact fun K kV doc pm an cdv ct => kb3
  · exact fun K kV doc pm an cdv ct => kb4
  · exact fun K kV doc pm an cdv ct => kb5
  · exact fun K kV doc pm an cdv ct => kb6
  · exact fun K kV doc pm an cdv ct => kb7
  · exact fun K kV doc pm an cdv ct => kb8
  · exact fun K kV doc pm an cdv ct => kb9
  · exact fun K kV doc pm an cdv ct => kb10
  · exact fun K kV doc pm an cdv ct => kb11
  · exact fun K kV doc pm an cdv ct => kb12
  · exact fun K kV doc pm an cdv ct => kb13
  · exact fun K kV doc pm an cdv ct => kb14
  · exact fun K kV doc pm an cdv ct => kb15
  · exact fun K kV doc pm an cdv ct => kb16
  · exact fun K kV doc pm an cdv ct => kb17
  · exact fun K kV doc pm an cdv ct => kb18
  · exact fun K kV doc pm an cdv ct => kb19
  · exact fun K kV doc pm an cdv ct => kb20
  · exact fun K kV doc pm an cdv ct => kb21
  · exact fun K kV doc pm an cdv ct => kb22
  · exact fun K kV doc pm an cdv ct => kb23
  · exact fun K kV doc pm an cdv ct => kb24
  · exact fun K kV doc pm an cdv ct => kb25
  · exact fun K kV doc pm an cdv ct => kb26
  · exact fun K kV doc pm an cdv ct => kb27
  · exact fun K kV doc pm an cdv ct => kb28
theorem bL : BindsLaw law := fun kV doc pm an cdv ct u => rfl
theorem okS : ∀ r ∈ rs, r.ok D Q cls bare = true := fun r hr => by
  simp only [rs, List.mem_cons, List.not_mem_nil, or_false] at hr
  rcases hr with rfl | rfl | rfl | rfl | rfl | rfl | rfl | rfl | rfl | rfl | rfl | rfl | rfl | rfl | rfl | rfl | rfl | rfl | rfl | rfl | rfl | rfl | rfl | rfl | rfl | rfl | rfl | rfl | rfl
  · exact ok0
  · exact ok1
  · exact ok2
  · exact ok3
  · exact ok4
  · exact ok5
  · exact ok6
  · exact ok7
  · exact ok8
  · exact ok9
  · exact ok10
  · exact ok11
  · exact ok12
  · exact ok13
  · exact ok14
  · exact ok15
  · exact ok16
  · exact ok17
  · exact ok18
  · exact ok19
  · exact ok20
  · exact ok21
  · exact ok22
  · exact ok23
  · exact ok24
  · exact ok25
  · exact ok26
  · exact ok27
  · exact ok28
theorem okQ : ∀ p ∈ Q, ∃ r ∈ rs, r.x = p.x ∧ r.f = p.f := by
  have h : (Q.all fun p => rs.any fun r => decide (r.x = p.x) && decide (r.f = p.f)) = true := by decide +kernel
  intro p hp
  obtain ⟨r, hr, e⟩ := List.any_eq_true.mp (List.all_eq_true.mp h p hp)
  simp only [Bool.and_eq_true, decide_eq_true_eq] at e
  exact ⟨r, hr, e⟩
def clsBody : Stmt → List Stmt
  | .ClassDef _ _ _ b _ _ _ _ _ _ _ => b
  | _ => []
def is : List InitI := [⟨"CountError", (clsBody (top 1)).getD 0 (.Pass ⟨0, 0, 0, 0⟩)⟩]
theorem bI : BindsInit is := fun i hi => by
  simp only [is, List.mem_cons, List.not_mem_nil, or_false] at hi
  rcases hi with rfl
  · exact ⟨by decide +kernel, fun kV doc pm an cdv ct us h => match us, h with
    | [_, _], _ => rfl⟩
theorem okL : lawOk law ⟨14, 1, b29⟩ Q cls bare = true := by decide +kernel
end Mi.K51
namespace Mi.K51
open PySem PySem.Spec PyProof.Rows L2 Mi
set_option maxHeartbeats 0
abbrev N0 : Nat := 5
abbrev ROW : PySem.W.OpenLaw := PySem.Challenge.rw_wholecounts_k51_nets_and_their_grammars
abbrev RR : PySem.W.OpenRow := PySem.W.OpenLaw.row ROW
abbrev hk : PySem.W.Hook := He.hookX N0 (fasOf rs law bare cls) (fnsOf rs law is) [] (tfsOf rs law) (exOf is cls)
def ob (s : PySem.W.SharedT) : He.AlX := He.obsX N0 (fasOf rs law bare cls) (fnsOf rs law is) [] (tfsOf rs law) (exOf is cls) (HandSHeadRun.getT s)
theorem ob_eq (s : PySem.W.SharedT) : ob s = hk.obs s.abs := He.obsX_eq (HandSHeadRun.getT_eq s)
def loose : List Str := "CountError" :: "InvalidNumber" :: "InvalidBag" :: "InvalidNet" :: "InvalidDeed" :: "is_integer" :: "is_between" :: "are_integers" :: "are_naturals" :: "is_ascending" :: "is_rule" :: "is_grammar" :: "is_deed" :: "is_net" :: "check_net" :: "check_marks" :: "net_of" :: "can_be_done" :: "bag_after" :: "check_deed" :: "behind" :: "unit" :: "grammar_in" :: "grammar_of_net" :: "_law_well" :: "_law_draw" :: "_law_like" :: "_law_sum" :: "_law_unit" :: "_law_tally" :: "_law_behind" :: "_law_net_grammar" :: "_law_mixed" :: "_law_bent" :: []
theorem run (w : World) : HandSHeadRun.RunEq RR (PySem.W.view RR.prog [39]) hk ob 3000 loose w := by
  intro os
  kernel_rfl
end Mi.K51
set_option maxHeartbeats 0
open PySem PySem.W PySem.Calls PyProof.Rows
theorem PySem.Challenge.cw_wholecounts_k51_nets_and_their_grammars_holds : PySem.Challenge.rw_wholecounts_k51_nets_and_their_grammars.Holds := by
  w_on; o_law
  refine HandSHeadRun.head_any (r := OpenLaw.row PySem.Challenge.rw_wholecounts_k51_nets_and_their_grammars) (q := view (OpenLaw.row PySem.Challenge.rw_wholecounts_k51_nets_and_their_grammars).prog [39]) (H := Mi.K51.hk) (ob := Mi.K51.ob) (M := 3000) (loose := Mi.K51.loose) (d := HandSHeadRun.topDef (OpenLaw.row PySem.Challenge.rw_wholecounts_k51_nets_and_their_grammars).prog 39) (kwd := []) Mi.K51.ob_eq
    (by kernel_rfl) (fun s => by kernel_rfl) Mi.K51.run (by kernel_rfl) (by kernel_rfl) (by kernel_rfl) (by rfl) (by first | assumption | decide +kernel) (by decide +kernel) ⟨rfl, rfl, rfl, rfl, rfl, by decide +kernel⟩ ?hw ?hc
  case hw => w_witness2
  case hc =>
    refine Mi.walk_law (l := PySem.Challenge.rw_wholecounts_k51_nets_and_their_grammars) (n := 63) (fuel := 8) (ld := ⟨14, 1, Mi.K51.b29⟩) (rs := Mi.K51.rs) (law := Mi.K51.law) (is := Mi.K51.is) (D := Mi.K51.D) (Q := Mi.K51.Q) (cls := Mi.K51.cls) (bare := Mi.K51.bare) rfl (by decide) (by kernel_rfl) (by kernel_rfl) Mi.K51.okS Mi.K51.okL Mi.K51.okQ Mi.K51.bA Mi.K51.bI Mi.K51.bL ⟨rfl, by decide +kernel, by decide +kernel⟩ fun ns hl _ => Mi.K51.holds51 ns (by omega)
