import PyProof.Rows.All
import Wide.All
import OpenK.AllK
import Wide.FinOn
import HandS.ForMost
import HandS.ForExc
import HandS.Walk
import HandS.Flow
import HandS.Deep
import HandS.TupAny
import HandS.TupLe
import HandS.DictComp
import HandS.Lambda
import HandS.IsInst
import HandS.Style
import KE.KUnpackStar
import KE.GoesEnum
import HandS.Zip
import HandS.Strs
import HandS.Small
import HandS.Defaults
import KE.SortKeyHeap
import PyProof.ReprRoads
import HandS.Words
import HandS.Codes
import HandS.EndTab
import HandS.Head0
import HandS.Head1
import HandS.Head2
import HandS.HeadEnd
import HandS.HeadHook1
import HandS.HeadHook2
import HandS.HeadHook3
import HandS.HeadHook4
import KE.KNestM
import PyProof.StrLawsRepr
import PySem.Challenge.RW_wakehall_k13_sets_within_sets
section
set_option Elab.async false
set_option linter.all false
set_option maxRecDepth 100000
set_option maxHeartbeats 4000000
/-! Mi1: a small language of trees (values without addresses) and its interpreter. -/
namespace Mi
open PySem L2

/-- a value as a tree; own i: what the i-th slot holds as its own list or dict -/
inductive D where
  | non | bl (b : Bool) | int (i : Int) | str (x : Str)
  | lst (xs : List D) | tup (xs : List D) | dic (kvs : List (Key × D))
  | own (i : Nat)
  deriving Inhabited

/-- what a cell of the store holds -/
inductive Own where
  | lst (xs : List D) | dic (kvs : List (Key × D))
/-- the slots, the store -/
structure En where
  vs : List (Option D)
  st : List Own
def Own.d : Own → D
  | .lst xs => .lst xs
  | .dic kvs => .dic kvs
/-- an exception: its class, what its field holds -/
structure Exn where
  cls : Nat
  fld : Option D

inductive R (α : Type) where
  | ok (a : α) (e : En) | exc (x : Exn) (e : En) | er
def R.bind {α β : Type} (r : R α) (f : α → En → R β) : R β := match r with
  | .ok a e => f a e
  | .exc x e => .exc x e
  | .er => .er
def R.of {α : Type} (o : Option α) (e : En) : R α := match o with
  | some a => .ok a e
  | none => .er

/-- a call's end: the value, the store behind -/
inductive CRes where
  | ok (d : D) (st : List Own) | exc (x : Exn) (st : List Own) | er
abbrev Cal := Nat → List D → List Own → CRes

/-! ### keys, dicts -/
def kd : Key → D
  | .inl i => .int i
  | .inr x => .str x
def dk : D → Option Key
  | .int i => some (.inl i)
  | .str x => some (.inr x)
  | _ => none
def dget {α : Type} (kvs : List (Key × α)) (k : Key) : Option α := (kvs.find? fun kv => decide (kv.1 = k)).map (·.2)
def dput {α : Type} (kvs : List (Key × α)) (k : Key) (v : α) : List (Key × α) :=
  if (kvs.any fun kv => decide (kv.1 = k)) = true then kvs.map (fun kv => if kv.1 = k then (kv.1, v) else kv) else kvs ++ [(k, v)]
def dmerge {α : Type} (kvs more : List (Key × α)) : List (Key × α) := more.foldl (fun acc kv => dput acc kv.1 kv.2) kvs

/-! ### data -/
def keyPy : Key → PyData
  | .inl i => .int i
  | .inr x => .str x
mutual
def toPy : D → PyData
  | .non => .none
  | .bl b => .bool b
  | .int i => .int i
  | .str x => .str x
  | .lst xs => .list (toPys xs)
  | .tup xs => .tuple (toPys xs)
  | .dic kvs => .dict (toPyK kvs)
  | .own _ => .dict []
def toPys : List D → List PyData
  | [] => []
  | x :: xs => toPy x :: toPys xs
def toPyK : List (Key × D) → List (PyData × PyData)
  | [] => []
  | (k, x) :: xs => (keyPy k, toPy x) :: toPyK xs
end
def deq (x y : D) : Option Bool := if SeqAt.shaped (toPy x) && SeqAt.shaped (toPy y) then some (PyData.eqv (toPy x) (toPy y)) else none
def flat : D → Bool
  | .non | .bl _ | .int _ | .str _ => true
  | _ => false
def truth : D → Option Bool
  | .non => some false
  | .bl b => some b
  | .int i => some (i != 0)
  | .str x => some ((x.length : Int) != 0)
  | .lst xs => some (!xs.isEmpty)
  | .tup xs => some (!xs.isEmpty)
  | .dic kvs => some (!kvs.isEmpty)
  | .own _ => none
def isOwn : D → Bool
  | .own _ => true
  | _ => false

/-! ### operators -/
inductive BOp where
  | add | sub | mul | fdiv | mod | pow
  deriving DecidableEq
inductive COp where
  | eq | ne | lt | le | gt | ge | isin | notin | is | isnot
  deriving DecidableEq
def cut {α : Type} (xs : List α) (lo hi : Option Int) : List α := (xs.drop (HT.sIx xs.length 0 lo)).take (HT.sIx xs.length xs.length hi - HT.sIx xs.length 0 lo)
def big : Int := 18446744073709551616
def small (i : Int) : Bool := decide (-big < i) && decide (i < big)
def bin : BOp → D → D → Option D
  | .add, .int i, .int j => some (.int (i + j))
  | .add, .str x, .str y => if x.length + y.length ≤ sizeLine then some (.str (x ++ y)) else none
  | .add, .lst xs, .lst ys => if xs.length + ys.length ≤ sizeLine then some (.lst (xs ++ ys)) else none
  | .add, .tup xs, .tup ys => if xs.length + ys.length ≤ sizeLine then some (.tup (xs ++ ys)) else none
  | .sub, .int i, .int j => some (.int (i - j))
  | .mul, .int i, .int j => if small i || small j then some (.int (i * j)) else none
  | .fdiv, .int i, .int j => if 0 < j ∧ j < 1073741824 then some (.int (i / j)) else none
  | .mod, .int i, .int j => if 0 < j then some (.int (i % j)) else none
  | .pow, .int i, .int j => if 0 ≤ j ∧ j ≤ 1000000 ∧ i.natAbs < 2 ^ 64 then some (.int (i ^ j.toNat)) else none
  | _, _, _ => none
def eqF (x y : D) : Bool := PyData.eqv (toPy x) (toPy y)
/-- x in y -/
def isIn (x : D) : D → Option Bool
  | .str z => match x with
    | .str a => match a.cps.toList with
      | [c] => some (decide (c ∈ z.cps.toList))
      | _ => none
    | _ => none
  | .lst ds => if flat x && ds.all flat then some (ds.any fun z => eqF z x)
      else if SeqAt.shaped (toPy x) && SeqAt.shaped (.list (toPys ds)) then some (ds.any fun z => eqF z x) else none
  | .tup ds => if flat x && ds.all flat then some (ds.any fun z => eqF z x) else none
  | .dic kvs => (dk x).map fun k => (dget kvs k).isSome
  | _ => none
def cmp : COp → D → D → Option D
  | .eq, x, y => (deq x y).map .bl
  | .ne, x, y => (deq x y).map fun b => .bl (!b)
  | .lt, .int i, .int j => some (.bl (decide (i < j)))
  | .le, .int i, .int j => some (.bl (decide (i ≤ j)))
  | .gt, .int i, .int j => some (.bl (decide (j < i)))
  | .ge, .int i, .int j => some (.bl (decide (j ≤ i)))
  | .isin, x, y => (isIn x y).map .bl
  | .notin, x, y => (isIn x y).map fun b => .bl (!b)
  | .is, x, .non => some (.bl (match x with | .non => true | _ => false))
  | .is, .bl a, .bl b => some (.bl (decide (a = b)))
  | .isnot, x, .non => some (.bl (match x with | .non => false | _ => true))
  | .isnot, .bl a, .bl b => some (.bl (!decide (a = b)))
  | _, _, _ => none
def ix : D → D → Option D
  | .lst xs, .int i => atI xs i
  | .tup xs, .int i => atI xs i
  | .str z, .int i => (atI z.cps.toList i).map fun c => .str ⟨#[c]⟩
  | .dic kvs, k => (dk k).bind fun k => dget kvs k
  | _, _ => none
def slc : D → Option Int → Option Int → Option D
  | .lst xs, lo, hi => some (.lst (cut xs lo hi))
  | .tup xs, lo, hi => some (.tup (cut xs lo hi))
  | .str z, lo, hi => some (.str (cutS z lo hi))
  | _, _, _ => none

/-! ### built-in functions of trees -/
inductive Ty where
  | int | str | bool | tuple | list | dict
  deriving DecidableEq
def isTy : Ty → D → Bool
  | .int, .int _ => true
  | .int, .bl _ => true
  | .str, .str _ => true
  | .bool, .bl _ => true
  | .tuple, .tup _ => true
  | .list, .lst _ => true
  | .dict, .dic _ => true
  | _, _ => false
inductive BI where
  | len | lenset | list | tuple | dict | sorted | repr | all | any | min | max
  deriving DecidableEq
def boolsOf : List D → Option (List Bool)
  | [] => some []
  | .bl b :: r => (boolsOf r).map (b :: ·)
  | _ => none
def strsOf : List D → Option (List Str)
  | [] => some []
  | .str b :: r => (strsOf r).map (b :: ·)
  | _ => none
def pairsOf : List D → Option (List (Key × D))
  | [] => some []
  | .tup [k, v] :: r => (dk k).bind fun k => (pairsOf r).map ((k, v) :: ·)
  | _ => none
def leS (x y : Str) : Bool := !decide (y.cps.toList < x.cps.toList)
/-- some texts sorted -/
def sortS (xs : List Str) : List Str := xs.mergeSort leS
def sizes (ys : List Str) : Nat := (ys.map (·.length)).sum
def lenD : D → Option D
  | .lst xs => some (.int xs.length)
  | .tup xs => some (.int xs.length)
  | .str x => some (.int x.length)
  | .dic kvs => some (.int kvs.length)
  | _ => none
def lensetL (xs : List D) : Option D := (strsOf xs).bind fun ys => if ys.length < 64 then some (.int ys.eraseDups.length) else none
def lensetD : D → Option D
  | .lst xs => lensetL xs
  | .tup xs => lensetL xs
  | _ => none
def listD : D → Option D
  | .lst xs => some (.lst xs)
  | .tup xs => some (.lst xs)
  | .dic kvs => some (.lst (kvs.map fun kv => kd kv.1))
  | _ => none
def tupleD : D → Option D
  | .lst xs => some (.tup xs)
  | .tup xs => some (.tup xs)
  | _ => none
def dictD : D → Option D
  | .lst xs => (pairsOf xs).map fun kvs => .dic (dmerge [] kvs)
  | _ => none
def sortedL (xs : List D) : Option D := (strsOf xs).bind fun ys => if ys.length < 64 then some (.lst ((sortS ys).map .str)) else none
def sortedD : D → Option D
  | .lst xs => sortedL xs
  | .tup xs => sortedL xs
  | .dic kvs => sortedL (kvs.map fun kv => kd kv.1)
  | _ => none
def showOk (x : D) : Bool := (toPy x).showable && (toPy x).canLay0 && decide ((toPy x).shown.length ≤ sizeLine) && decide ((toPy x).depth ≤ 64)
def reprS (x : D) : Option D := if showOk x then some (.str (toPy x).shown) else none
def reprD : D → Option D
  | .lst xs => reprS (.lst xs)
  | .tup xs => reprS (.tup xs)
  | _ => none
def allD : D → Option D
  | .lst xs => (boolsOf xs).map fun bs => .bl (bs.all id)
  | _ => none
def anyD : D → Option D
  | .lst xs => (boolsOf xs).map fun bs => .bl (bs.any id)
  | _ => none
def one (f : D → Option D) : List D → Option D
  | [x] => f x
  | _ => none
def two (f : D → D → Option D) : List D → Option D
  | [x, y] => f x y
  | _ => none
def minD : D → D → Option D
  | .int i, .int j => some (.int (if j < i then j else i))
  | _, _ => none
def maxD : D → D → Option D
  | .int i, .int j => some (.int (if j > i then j else i))
  | _, _ => none
def bi : BI → List D → Option D
  | .len => one lenD
  | .lenset => one lensetD
  | .list => one listD
  | .tuple => one tupleD
  | .dict => one dictD
  | .sorted => one sortedD
  | .repr => one reprD
  | .all => one allD
  | .any => one anyD
  | .min => two minD
  | .max => two maxD
/-- methods that change nothing -/
inductive Mt where
  | get1 | get2 | split | join
  deriving DecidableEq
def getD1 : D → D → Option D
  | .dic kvs, k => (dk k).map fun k => (dget kvs k).getD .non
  | _, _ => none
def getD2 : D → D → D → Option D
  | .dic kvs, k, d => (dk k).map fun k => (dget kvs k).getD d
  | _, _, _ => none
def splitD : D → D → Option D
  | .str x, .str y => if y.length ≠ 0 ∧ x.length + 2 ≤ sizeLine then some (.lst ((Txt.split x y).map .str)) else none
  | _, _ => none
def joinL (x : Str) (ds : List D) : Option D := (strsOf ds).bind fun ys => if sizes ys + ys.length * x.length ≤ 16777216 then some (.str (Txt.join x ys)) else none
def joinD : D → D → Option D
  | .str x, .lst ds => joinL x ds
  | .str x, .tup ds => joinL x ds
  | _, _ => none
def mt : Mt → D → List D → Option D
  | .get1, d => one (getD1 d)
  | .get2, d => two (getD2 d)
  | .split, d => one (splitD d)
  | .join, d => one (joinD d)
/-- methods that change their own list or dict -/
inductive Mu where
  | append | pop | popAt | insert | extend
  deriving DecidableEq
def popI (xs : List D) (i : Int) : Option (D × List D) := (ixN xs.length i).bind fun k => (xs[k]?).map fun y => (y, xs.eraseIdx k)
def appendO : Own → D → Option (D × Own)
  | .lst xs, y => if xs.length < sizeLine then some (.non, .lst (xs ++ [y])) else none
  | _, _ => none
def popO : Own → Option (D × Own)
  | .lst xs => (xs[xs.length - 1]?).map fun y => (y, .lst xs.dropLast)
  | _ => none
def popAtO : Own → D → Option (D × Own)
  | .lst xs, .int i => (popI xs i).map fun p => (p.1, .lst p.2)
  | _, _ => none
def insertO : Own → D → D → Option (D × Own)
  | .lst xs, .int i, y => if xs.length < sizeLine ∧ 0 ≤ i ∧ i < 9223372036854775808 then some (.non, .lst (xs.take i.toNat ++ [y] ++ xs.drop i.toNat)) else none
  | _, _, _ => none
def extendO : Own → D → Option (D × Own)
  | .lst xs, .lst ys => if xs.length + ys.length ≤ sizeLine then some (.non, .lst (xs ++ ys)) else none
  | _, _ => none
def mu : Mu → Own → List D → Option (D × Own)
  | .append, o => fun ds => match ds with | [y] => appendO o y | _ => none
  | .pop, o => fun ds => match ds with | [] => popO o | _ => none
  | .popAt, o => fun ds => match ds with | [y] => popAtO o y | _ => none
  | .insert, o => fun ds => match ds with | [i, y] => insertO o i y | _ => none
  | .extend, o => fun ds => match ds with | [y] => extendO o y | _ => none
/-- o[k] = v -/
def setIt : Own → D → D → Option Own
  | .dic kvs, k, v => (dk k).bind fun k => if kvs.length < sizeLine then some (.dic (dput kvs k v)) else none
  | .lst xs, .int i, v => (ixN xs.length i).map fun k => .lst (xs.set k v)
  | _, _, _ => none

/-! ### targets -/
inductive CT where
  | nm (i : Nat) | tup (ts : List CT) | star (ts : List CT) (r : Nat)
/-- a slot is given a value -/
def put (i : Nat) (d : D) (e : En) : Option En := if i < e.vs.length then some { e with vs := e.vs.set i (some d) } else none
mutual
def asg : CT → D → En → Option En
  | .nm i, d, e => put i d e
  | .tup ts, .tup ds, e => asgs ts ds e
  | .star ts r, .tup ds, e => if ts.length ≤ ds.length ∧ ds.length ≤ 16384 then (asgs ts (ds.take ts.length) e).bind fun e => put r (.lst (ds.drop ts.length)) e else none
  | _, _, _ => none
def asgs : List CT → List D → En → Option En
  | [], [], e => some e
  | t :: ts, d :: ds, e => (asg t d e).bind fun e => asgs ts ds e
  | _, _, _ => none
end

/-! ### expressions -/
mutual
inductive CE where
  | var (i : Nat) | glb (i : Nat) | int (i : Int) | str (x : Str) | bl (b : Bool) | non
  | bin (op : BOp) (a b : CE) | neg (a : CE)
  | cmp (op : COp) (a b : CE) | chain (o1 o2 : COp) (a b c : CE)
  | and (a : CE) (es : CEs) | or (a : CE) (es : CEs) | not (a : CE) | ite (c a b : CE)
  | tup (es : CEs) | lst (es : CEs) | dict (ks : CKs)
  | ix (a i : CE) | slc (a : CE) (lo hi : CEo) | rev (a : CE)
  | call (f : Nat) (es : CEs) | bi (b : BI) (es : CEs) | isa (t : Ty) (a : CE)
  | mt (m : Mt) (o : CE) (es : CEs) | mu (m : Mu) (o : CE) (es : CEs)
  | comp (elt : CE) (tg : CT) (it : CI) (tt : CEo) (vs : List Nat)
  | dcomp (k v : CE) (tg : CT) (it : CI) (tt : CEo) (vs : List Nat)
  | sortk (a : CE) (p : Nat) (body : CE)
  | new (a : CE)
inductive CEs where
  | nil | cons (a : CE) (r : CEs)
inductive CKs where
  | nil | cons (k v : CE) (r : CKs)
inductive CEo where
  | no | yes (a : CE)
/-- what is walked -/
inductive CI where
  | seq (a : CE) | range (a : CE) | range2 (a b : CE) | enum (a : CE) | zip (a b : CE)
end
def res (e : En) : D → Option D
  | .own i => (e.st[i]?).map Own.d
  | d => some d
def ress (e : En) : List D → Option (List D)
  | [] => some []
  | d :: ds => (res e d).bind fun d => (ress e ds).map (d :: ·)
/-- what a method's receiver has to be -/
def mtTy : Mt → Option D → Bool
  | .get1, some (.dic _) => true
  | .get2, some (.dic _) => true
  | .split, some (.str _) => true
  | .join, some (.str _) => true
  | _, _ => false
/-- a method's arguments -/
def argm (m : Mt) (e : En) (ds : List D) : Option (List D) := match m with
  | .join => ress e ds
  | _ => some ds
/-- a cell's list -/
def cellL (e : En) : D → Option (Nat × List D)
  | .own i => match e.st[i]? with
    | some (.lst xs) => some (i, xs)
    | _ => none
  | _ => none
def callR (cal : Cal) (f : Nat) (ds : List D) (e : En) : R D := match cal f ds e.st with
  | .ok d st => .ok d { e with st := st }
  | .exc x st => .exc x { e with st := st }
  | .er => .er
def wipeL (e : List (Option D)) : List Nat → List (Option D)
  | [] => e
  | v :: vs => (wipeL e vs).set v none
/-- what is walked: some values, or a cell's list as it stands at each turn -/
inductive Src where
  | fix (ds : List D) | live (j : Nat)
/-- how many turns a while may take -/
def fuel : Nat := 1000000
/-- a comprehension's turns: f at each item, from the same slots -/
def turns {α : Type} (base : List (Option D)) (f : D → En → R (Option α)) : List D → List Own → R (List α)
  | [], st => .ok [] ⟨base, st⟩
  | d :: ds, st => match f d ⟨base, st⟩ with
    | .ok o e1 => (match turns base f ds e1.st with
      | .ok r e2 => .ok (match o with | some a => a :: r | none => r) e2
      | _ => .er)
    | _ => .er
def turnsO {α : Type} (base : List (Option D)) (f : D → En → R (Option α)) (j : Nat) : Nat → Nat → List Own → R (List α)
  | 0, _, _ => .er
  | m + 1, n, st => match cellL ⟨base, st⟩ (.own j) with
    | some (_, xs) => (match xs[n]? with
      | some d => (match f d ⟨base, st⟩ with
        | .ok o e1 => (match turnsO base f j m (n + 1) e1.st with
          | .ok r e2 => .ok (match o with | some a => a :: r | none => r) e2
          | _ => .er)
        | _ => .er)
      | none => .ok [] ⟨base, st⟩)
    | none => .er
def turnsS {α : Type} (base : List (Option D)) (f : D → En → R (Option α)) (s : Src) (st : List Own) : R (List α) := match s with
  | .fix ds => turns base f ds st
  | .live j => turnsO base f j fuel 0 st
def keyed (ds : List D) (ks : List Int) : List D := ((ds.zip ks).mergeSort fun p q => decide (p.2 ≤ q.2)).map (·.1)
/-- the keys: f at each item -/
def keysOf (f : D → List Own → R D) : List D → List Own → Option (List Int × List Own)
  | [], st => some ([], st)
  | d :: ds, st => match f d st with
    | .ok (.int i) e1 => (keysOf f ds e1.st).map fun p => (i :: p.1, p.2)
    | _ => none
def zipD (xs ys : List D) : List D := (xs.zip ys).map fun p => .tup [p.1, p.2]
def zipOf : D → D → Option Src
  | .lst xs, .lst ys => some (.fix (zipD xs ys))
  | .tup xs, .tup ys => some (.fix (zipD xs ys))
  | _, _ => none
def enumD (xs : List D) (n : Nat) : List D := match xs with
  | [] => []
  | x :: xs => .tup [.int n, x] :: enumD xs (n + 1)
def itemsOf : D → Option Src
  | .lst xs => some (.fix xs)
  | .tup xs => some (.fix xs)
  | .str x => some (.fix (x.cps.toList.map fun c => .str ⟨#[c]⟩))
  | _ => none
def srcOf (e : En) : D → Option Src
  | .own j => (cellL e (.own j)).map fun _ => .live j
  | d => itemsOf d
def seqOf : D → Option (List D)
  | .lst xs => some xs
  | .tup xs => some xs
  | _ => none
def rangeD (lo : Int) (n : Nat) : List D := (List.range n).map fun k => .int (lo + (k : Nat))
def newC (e : En) : D → Option (D × En)
  | .lst xs => some (.own e.st.length, { e with st := e.st ++ [.lst xs] })
  | .dic kvs => some (.own e.st.length, { e with st := e.st ++ [.dic kvs] })
  | _ => none
def R.pair {α : Type} (o : Option (α × En)) : R α := match o with
  | some (a, e) => .ok a e
  | none => .er
def muR (m : Mu) (x : D) (ds : List D) (e : En) : Option (D × En) := match x with
  | .own i => (e.st[i]?).bind fun o => (Mi.mu m o ds).map fun p => (p.1, { e with st := e.st.set i p.2 })
  | _ => none

mutual
def evE (cs : List D) (cal : Cal) : CE → En → R D
  | .var i, e => match e.vs[i]? with
    | some (some d) => .ok d e
    | _ => .er
  | .glb i, e => .of cs[i]? e
  | .int i, e => .ok (.int i) e
  | .str x, e => if x.length ≤ 1000 then .ok (.str x) e else .er
  | .bl b, e => .ok (.bl b) e
  | .non, e => .ok .non e
  | .bin op a b, e => (evE cs cal a e).bind fun x e => (evE cs cal b e).bind fun y e => .of ((res e x).bind fun x => (res e y).bind fun y => Mi.bin op x y) e
  | .neg a, e => (evE cs cal a e).bind fun x e => match x with
    | .int i => .ok (.int (-i)) e
    | _ => .er
  | .cmp op a b, e => (evE cs cal a e).bind fun x e => (evE cs cal b e).bind fun y e => .of ((res e x).bind fun x => (res e y).bind fun y => Mi.cmp op x y) e
  | .chain o1 o2 a b c, e => (evE cs cal a e).bind fun x e => (evE cs cal b e).bind fun y e => match (res e x).bind fun x => (res e y).bind fun y => Mi.cmp o1 x y with
    | some (.bl true) => (evE cs cal c e).bind fun z e => .of ((res e y).bind fun y => (res e z).bind fun z => Mi.cmp o2 y z) e
    | some (.bl false) => .ok (.bl false) e
    | _ => .er
  | .and a es, e => (evE cs cal a e).bind fun x e => evAnd cs cal x es e
  | .or a es, e => (evE cs cal a e).bind fun x e => evOr cs cal x es e
  | .not a, e => (evE cs cal a e).bind fun x e => .of (((res e x).bind truth).map fun b => .bl (!b)) e
  | .ite c a b, e => (evE cs cal c e).bind fun x e => match (res e x).bind truth with
    | some true => evE cs cal a e
    | some false => evE cs cal b e
    | none => .er
  | .tup es, e => (evEs cs cal es e).bind fun ds e => if ds.length ≤ 1000 then .ok (.tup ds) e else .er
  | .lst es, e => (evEs cs cal es e).bind fun ds e => if ds.length ≤ 1000 then .ok (.lst ds) e else .er
  | .dict ks, e => (evKs cs cal ks e).bind fun kvs e => if kvs.length ≤ 15 then .ok (.dic (dmerge [] kvs)) e else .er
  | .ix a i, e => (evE cs cal a e).bind fun x e => (evE cs cal i e).bind fun y e => .of ((res e x).bind fun x => Mi.ix x y) e
  | .slc a lo hi, e => (evE cs cal a e).bind fun x e => (evO cs cal lo e).bind fun l e => (evO cs cal hi e).bind fun h e => .of ((res e x).bind fun x => Mi.slc x l h) e
  | .rev a, e => (evE cs cal a e).bind fun x e => match res e x with
    | some (.lst xs) => .ok (.lst xs.reverse) e
    | _ => .er
  | .call f es, e => (evEs cs cal es e).bind fun ds e => callR cal f ds e
  | .bi b es, e => (evEs cs cal es e).bind fun ds e => .of ((ress e ds).bind fun ds => Mi.bi b ds) e
  | .isa t a, e => (evE cs cal a e).bind fun x e => .of ((res e x).map fun x => .bl (isTy t x)) e
  | .mt m o es, e => (evE cs cal o e).bind fun x e => if mtTy m (res e x) then (evEs cs cal es e).bind fun ds e => .of ((res e x).bind fun x => (argm m e ds).bind fun ds => Mi.mt m x ds) e else .er
  | .mu m o es, e => (evE cs cal o e).bind fun x e => if (cellL e x).isSome then (evEs cs cal es e).bind fun ds e => .pair (muR m x ds e) else .er
  | .comp elt tg it tt vs, e => (evI cs cal it e).bind fun s e => (turnsS (wipeL e.vs vs) (fun d e => match asg tg d e with
    | some e => (evT cs cal tt e).bind fun b e => if b then (evE cs cal elt e).bind fun y e => .ok (some y) e else .ok none e
    | none => .er) s e.st).bind fun ys e' => if ys.length ≤ sizeLine then .ok (.lst ys) ⟨e.vs, e'.st⟩ else .er
  | .dcomp k v tg it tt vs, e => (evI cs cal it e).bind fun s e => (turnsS (wipeL e.vs vs) (fun d e => match asg tg d e with
    | some e => (evT cs cal tt e).bind fun b e => if b then (evE cs cal k e).bind fun y e => (evE cs cal v e).bind fun z e => (match dk y with
      | some k => .ok (some (k, z)) e
      | none => .er) else .ok none e
    | none => .er) s e.st).bind fun ys e' => if ys.length ≤ sizeLine then .ok (.dic (dmerge [] ys)) ⟨e.vs, e'.st⟩ else .er
  | .sortk a p b, e => (evE cs cal a e).bind fun x e => match res e x with
    | some (.lst ds) => if p < e.vs.length then (match keysOf (fun d st => evE cs cal b ⟨e.vs.set p (some d), st⟩) ds e.st with
      | some (ks, st) => .ok (.lst (keyed ds ks)) { e with st := st }
      | none => .er) else .er
    | _ => .er
  | .new a, e => (evE cs cal a e).bind fun x e => .pair (newC e x)
def evEs (cs : List D) (cal : Cal) : CEs → En → R (List D)
  | .nil, e => .ok [] e
  | .cons a r, e => (evE cs cal a e).bind fun x e => (evEs cs cal r e).bind fun xs e => .ok (x :: xs) e
def evKs (cs : List D) (cal : Cal) : CKs → En → R (List (Key × D))
  | .nil, e => .ok [] e
  | .cons k v r, e => (evE cs cal k e).bind fun x e => (evE cs cal v e).bind fun y e => match dk x with
    | some x => (evKs cs cal r e).bind fun kvs e => .ok ((x, y) :: kvs) e
    | none => .er
def evAnd (cs : List D) (cal : Cal) : D → CEs → En → R D
  | x, .nil, e => .ok x e
  | x, .cons a r, e => match (res e x).bind truth with
    | some true => (evE cs cal a e).bind fun y e => evAnd cs cal y r e
    | some false => .ok x e
    | none => .er
def evOr (cs : List D) (cal : Cal) : D → CEs → En → R D
  | x, .nil, e => .ok x e
  | x, .cons a r, e => match (res e x).bind truth with
    | some true => .ok x e
    | some false => (evE cs cal a e).bind fun y e => evOr cs cal y r e
    | none => .er
def evO (cs : List D) (cal : Cal) : CEo → En → R (Option Int)
  | .no, e => .ok none e
  | .yes a, e => (evE cs cal a e).bind fun x e => match x with
    | .int i => .ok (some i) e
    | _ => .er
/-- a comprehension's test -/
def evT (cs : List D) (cal : Cal) : CEo → En → R Bool
  | .no, e => .ok true e
  | .yes a, e => (evE cs cal a e).bind fun x e => .of ((res e x).bind truth) e
def evI (cs : List D) (cal : Cal) : CI → En → R Src
  | .seq a, e => (evE cs cal a e).bind fun x e => .of (srcOf e x) e
  | .range a, e => (evE cs cal a e).bind fun x e => match x with
    | .int j => if -4611686018427387904 ≤ j ∧ j ≤ 16777216 then .ok (.fix (rangeD 0 j.toNat)) e else .er
    | _ => .er
  | .range2 a b, e => (evE cs cal a e).bind fun x e => (evE cs cal b e).bind fun y e => match x, y with
    | .int i, .int j => if -4611686018427387904 ≤ i ∧ i < 4611686018427387904 ∧ -4611686018427387904 ≤ j ∧ j < 4611686018427387904 ∧ j - i ≤ 16777216 then .ok (.fix (rangeD i (j - i).toNat)) e else .er
    | _, _ => .er
  | .enum a, e => (evE cs cal a e).bind fun x e => .of ((seqOf x).map fun xs => .fix (enumD xs 0)) e
  | .zip a b, e => (evE cs cal a e).bind fun x e => (evE cs cal b e).bind fun y e => .of (zipOf x y) e
end

/-! ### statements -/
mutual
inductive CS where
  | set (i : Nat) (a : CE) | par (is : List Nat) (rs : CEs) | unp (t : CT) (a : CE)
  | sub (a k v : CE) | aug (i : Nat) (op : BOp) (a : CE)
  | expr (a : CE) | ret (a : CE) | retn | pass
  | cond (c : CE) (a b : CSs) | whil (c : CE) (b : CSs) | fr (t : CT) (it : CI) (b : CSs)
  | brk | cont | never
inductive CSs where
  | nil | cons (a : CS) (r : CSs)
end
inductive S where
  | nx (e : En) | rt (d : D) (e : En) | bk (e : En) | ct (e : En) | exc (x : Exn) (e : En) | er
def R.s {α : Type} (r : R α) (f : α → En → S) : S := match r with
  | .ok a e => f a e
  | .exc x e => .exc x e
  | .er => .er
def S.of (o : Option En) : S := match o with
  | some e => .nx e
  | none => .er
def puts : List Nat → List D → En → Option En
  | [], [], e => some e
  | i :: is, d :: ds, e => (put i d e).bind fun e => puts is ds e
  | _, _, _ => none
def whileL (c : En → R Bool) (b : En → S) : Nat → En → S
  | 0, _ => .er
  | n + 1, e => match c e with
    | .ok true e => (match b e with
      | .nx e => whileL c b n e
      | .ct e => whileL c b n e
      | .bk e => .nx e
      | s => s)
    | .ok false e => .nx e
    | .exc x e => .exc x e
    | .er => .er
def forL (t : CT) (b : En → S) : List D → En → S
  | [], e => .nx e
  | d :: ds, e => match asg t d e with
    | some e => (match b e with
      | .nx e => forL t b ds e
      | .ct e => forL t b ds e
      | .bk e => .nx e
      | s => s)
    | none => .er
def forO (t : CT) (b : En → S) (j : Nat) : Nat → Nat → En → S
  | 0, _, _ => .er
  | m + 1, n, e => match cellL e (.own j) with
    | some (_, xs) => (match xs[n]? with
      | some d => (match asg t d e with
        | some e => (match b e with
          | .nx e => forO t b j m (n + 1) e
          | .ct e => forO t b j m (n + 1) e
          | .bk e => .nx e
          | s => s)
        | none => .er)
      | none => .nx e)
    | none => .er
def forS (t : CT) (b : En → S) (s : Src) (e : En) : S := match s with
  | .fix ds => forL t b ds e
  | .live j => forO t b j fuel 0 e
/-- o[k] = v of a cell -/
def subR (x k v : D) (e : En) : Option En := match x with
  | .own i => (e.st[i]?).bind fun o => (setIt o k v).map fun o' => { e with st := e.st.set i o' }
  | _ => none
mutual
def evS (cs : List D) (cal : Cal) : CS → En → S
  | .set i a, e => (evE cs cal a e).s fun x e => .of (put i x e)
  | .par is rs, e => (evEs cs cal rs e).s fun xs e => .of (puts is xs e)
  | .unp t a, e => (evE cs cal a e).s fun x e => .of (asg t x e)
  | .sub a k v, e => (evE cs cal v e).s fun z e => (evE cs cal a e).s fun x e => (evE cs cal k e).s fun y e => .of (subR x y z e)
  | .aug i op a, e => match e.vs[i]? with
    | some (some x) => (evE cs cal a e).s fun y e => (match x, y with
      | .int _, .int _ => .of ((Mi.bin op x y).bind fun z => put i z e)
      | _, _ => .er)
    | _ => .er
  | .expr a, e => (evE cs cal a e).s fun _ e => .nx e
  | .ret a, e => (evE cs cal a e).s fun x e => .rt x e
  | .retn, e => .rt .non e
  | .pass, e => .nx e
  | .cond c a b, e => (evE cs cal c e).s fun x e => match (res e x).bind truth with
    | some true => evSs cs cal a e
    | some false => evSs cs cal b e
    | none => .er
  | .whil c b, e => whileL (fun e => (evE cs cal c e).bind fun x e => .of ((res e x).bind truth) e) (evSs cs cal b) fuel e
  | .fr t it b, e => (evI cs cal it e).s fun s e => forS t (evSs cs cal b) s e
  | .brk, e => .bk e
  | .cont, e => .ct e
  | .never, _ => .er
def evSs (cs : List D) (cal : Cal) : CSs → En → S
  | .nil, e => .nx e
  | .cons a r, e => match evS cs cal a e with
    | .nx e => evSs cs cal r e
    | s => s
end
/-! ### calls -/
mutual
/-- no cell from the n-th on is pointed at -/
def ptr (n : Nat) : D → Bool
  | .own i => decide (i < n)
  | .lst xs => ptrs n xs
  | .tup xs => ptrs n xs
  | .dic kvs => ptrK n kvs
  | _ => true
def ptrs (n : Nat) : List D → Bool
  | [] => true
  | x :: xs => ptr n x && ptrs n xs
def ptrK (n : Nat) : List (Key × D) → Bool
  | [] => true
  | (_, x) :: xs => ptr n x && ptrK n xs
end
def ptrO (n : Nat) : Own → Bool
  | .lst xs => ptrs n xs
  | .dic kvs => ptrK n kvs
def ptrF (n : Nat) : Option D → Bool
  | some d => ptr n d
  | none => true
/-- how a def treats the store: as it is; from none; cut behind -/
inductive Md where
  | all | pure | cut
  deriving DecidableEq
/-- a def: how many parameters, how many slots, its body -/
structure Fn where
  np : Nat
  ns : Nat
  md : Md
  body : CSs
/-- a cell behind the n-th, handed back: what it holds -/
def give (n : Nat) (e : En) : D → Option D
  | .own i => if i < n then some (.own i) else (e.st[i]?).map Own.d
  | d => some d
/-- a value handed back, only the first n cells of the store being kept -/
def cutOk (n : Nat) (d : D) (e : En) : Option (D × List Own) := (give n e d).bind fun d => if ptr n d && (e.st.take n).all (ptrO n) then some (d, e.st.take n) else none
def cutX (n : Nat) (x : Exn) (e : En) : Option (Exn × List Own) := if ptrF n x.fld && (e.st.take n).all (ptrO n) then some (x, e.st.take n) else none
def endOk (md : Md) (st : List Own) (d : D) (e : En) : CRes := match md with
  | .all => .ok d e.st
  | .pure => match cutOk 0 d e with
    | some (d, _) => .ok d st
    | none => .er
  | .cut => match cutOk st.length d e with
    | some (d, st') => .ok d st'
    | none => .er
def endX (md : Md) (st : List Own) (x : Exn) (e : En) : CRes := match md with
  | .all => .exc x e.st
  | .pure => match cutX 0 x e with
    | some _ => .exc x st
    | none => .er
  | .cut => match cutX st.length x e with
    | some (x, st') => .exc x st'
    | none => .er
def run (cs : List D) (fns : List Fn) : Nat → Cal
  | 0, _, _, _ => .er
  | n + 1, f, ds, st => match fns[f]? with
    | some fn => if ds.length = fn.np ∧ (fn.md = .pure → ptrs 0 ds = true) then (match evSs cs (run cs fns n) fn.body ⟨ds.map some ++ List.replicate (fn.ns - fn.np) none, if fn.md = .pure then [] else st⟩ with
      | .nx e => endOk fn.md st .non e
      | .rt d e => endOk fn.md st d e
      | .exc x e => endX fn.md st x e
      | _ => .er) else .er
    | none => .er
end Mi
end

section
set_option Elab.async false
set_option linter.all false
set_option maxRecDepth 100000
set_option maxHeartbeats 4000000
/-! Mi2: trees in the abstract heap. -/
namespace Mi
open PySem L2
variable {K : PySem.W.Frag}
/-- the trees' heap (never written), the cells' addresses, the tables of code objects -/
structure Fp where
  h : Hp
  al : List Addr
  tb : List (Addr × Str)
mutual
inductive Rep (K : PySem.W.Frag) (F : Fp) : V → D → Prop
  | non : Rep K F .non .non
  | bl (b : Bool) : Rep K F (.bl b) (.bl b)
  | int (i : Int) : Rep K F (.int i) (.int i)
  | str (x : Str) (h : x.length ≤ sizeLine) : Rep K F (.str x) (.str x)
  | lst {a : Addr} {xs : List V} {ds : List D} : SqL K F.h a xs → Reps K F xs ds → Rep K F (.ref a) (.lst ds)
  | tup {a : Addr} {xs : List V} {ds : List D} : SqT K F.h a xs → Reps K F xs ds → Rep K F (.ref a) (.tup ds)
  | dic {a : Addr} {kvs : List (Key × V)} {ks : List (Key × D)} : F.h a = some (.dK kvs) → RepK K F kvs ks → Rep K F (.ref a) (.dic ks)
  | own {i : Nat} {a : Addr} : F.al[i]? = some a → Rep K F (.ref a) (.own i)
inductive Reps (K : PySem.W.Frag) (F : Fp) : List V → List D → Prop
  | nil : Reps K F [] []
  | cons {v : V} {d : D} {vs : List V} {ds : List D} : Rep K F v d → Reps K F vs ds → Reps K F (v :: vs) (d :: ds)
inductive RepK (K : PySem.W.Frag) (F : Fp) : List (Key × V) → List (Key × D) → Prop
  | nil : RepK K F [] []
  | cons {k : Key} {v : V} {d : D} {vs : List (Key × V)} {ds : List (Key × D)} : (∀ x, k = Sum.inr x → x.length ≤ sizeLine) → Rep K F v d → RepK K F vs ds → RepK K F ((k, v) :: vs) ((k, d) :: ds)
end
abbrev Le (F F' : Hp) : Prop := ∀ a o, F a = some o → F' a = some o
theorem Le.refl (F : Hp) : Le F F := fun _ _ h => h
theorem Le.trans {F F1 F2 : Hp} (a : Le F F1) (b : Le F1 F2) : Le F F2 := fun c o h => b c o (a c o h)
theorem Rd.le {F F' : Hp} (l : Le F F') {a : Addr} {u : HO} (h : Rd F a u) : Rd F' a u := by
  rcases h with h | ⟨o, h⟩
  · exact .inl (l _ _ h)
  · exact .inr ⟨o, l _ _ h⟩
theorem sqL_le {F F' : Hp} (l : Le F F') {a : Addr} {xs : List V} (h : SqL K F a xs) : SqL K F' a xs := by
  rcases h with h | h
  · exact .inl (Rd.le l h)
  · exact .inr h
theorem sqT_le {F F' : Hp} (l : Le F F') {a : Addr} {xs : List V} (h : SqT K F a xs) : SqT K F' a xs := by
  rcases h with h | h
  · exact .inl (Rd.le l h)
  · exact .inr h
structure Fle (F F' : Fp) : Prop where
  h : Le F.h F'.h
  al : F.al <+: F'.al
theorem Fle.refl (F : Fp) : Fle F F := ⟨Le.refl _, List.prefix_refl _⟩
theorem Fle.trans {F F1 F2 : Fp} (a : Fle F F1) (b : Fle F1 F2) : Fle F F2 := ⟨a.h.trans b.h, a.al.trans b.al⟩
theorem Fle.get {F F' : Fp} (l : Fle F F') {i : Nat} {a : Addr} (h : F.al[i]? = some a) : F'.al[i]? = some a := by
  obtain ⟨t, e⟩ := l.al
  obtain ⟨hi, _⟩ := List.getElem?_eq_some_iff.mp h
  rw [← e, List.getElem?_append_left hi]
  exact h
mutual
theorem Rep.mono {F F' : Fp} (l : Fle F F') : ∀ (d : D) (v : V), Rep K F v d → Rep K F' v d
  | .non, _, h => by cases h; exact .non
  | .bl _, _, h => by cases h; exact .bl _
  | .int _, _, h => by cases h; exact .int _
  | .str _, _, h => by
    cases h with
    | str _ h => exact .str _ h
  | .lst ds, _, h => by
    cases h with
    | lst h r => exact .lst (sqL_le l.h h) (Reps.mono l ds _ r)
  | .tup ds, _, h => by
    cases h with
    | tup h r => exact .tup (sqT_le l.h h) (Reps.mono l ds _ r)
  | .dic ks, _, h => by
    cases h with
    | dic h r => exact .dic (l.h _ _ h) (RepK.mono l ks _ r)
  | .own _, _, h => by
    cases h with
    | own h => exact .own (l.get h)
theorem Reps.mono {F F' : Fp} (l : Fle F F') : ∀ (ds : List D) (vs : List V), Reps K F vs ds → Reps K F' vs ds
  | [], _, h => by cases h; exact .nil
  | d :: ds, _, h => by
    cases h with
    | cons h r => exact .cons (Rep.mono l d _ h) (Reps.mono l ds _ r)
theorem RepK.mono {F F' : Fp} (l : Fle F F') : ∀ (ds : List (Key × D)) (vs : List (Key × V)), RepK K F vs ds → RepK K F' vs ds
  | [], _, h => by cases h; exact .nil
  | (k, d) :: ds, _, h => by
    cases h with
    | cons hk h r => exact .cons hk (Rep.mono l d _ h) (RepK.mono l ds _ r)
end
section
variable {F : Fp}
theorem Reps.length : ∀ {vs : List V} {ds : List D}, Reps K F vs ds → vs.length = ds.length
  | [], [], _ => rfl
  | [], _ :: _, h => by cases h
  | _ :: _, [], h => by cases h
  | _ :: vs, _ :: ds, h => by
    cases h with
    | cons _ r => exact congrArg (· + 1) (Reps.length r)
theorem Reps.get : ∀ {vs : List V} {ds : List D} {i : Nat} {d : D}, Reps K F vs ds → ds[i]? = some d → ∃ v, vs[i]? = some v ∧ Rep K F v d
  | [], [], _, _, _, e => by simp at e
  | [], _ :: _, _, _, h, _ => by cases h
  | _ :: _, [], _, _, h, _ => by cases h
  | v :: vs, d :: ds, 0, d', h, e => by
    cases h with
    | cons h _ =>
      have e' : d = d' := by simpa using e
      exact ⟨v, rfl, e' ▸ h⟩
  | v :: vs, d :: ds, i + 1, d', h, e => by
    cases h with
    | cons _ r =>
      obtain ⟨u, h1, h2⟩ := Reps.get (i := i) (d := d') r (by simpa using e)
      exact ⟨u, by simpa using h1, h2⟩
theorem Reps.get' : ∀ {vs : List V} {ds : List D} {i : Nat} {v : V}, Reps K F vs ds → vs[i]? = some v → ∃ d, ds[i]? = some d ∧ Rep K F v d
  | [], [], _, _, _, e => by simp at e
  | [], _ :: _, _, _, h, _ => by cases h
  | _ :: _, [], _, _, h, _ => by cases h
  | v :: vs, d :: ds, 0, v', h, e => by
    cases h with
    | cons h _ =>
      have e' : v = v' := by simpa using e
      exact ⟨d, rfl, e' ▸ h⟩
  | v :: vs, d :: ds, i + 1, v', h, e => by
    cases h with
    | cons _ r =>
      obtain ⟨u, h1, h2⟩ := Reps.get' (i := i) (v := v') r (by simpa using e)
      exact ⟨u, by simpa using h1, h2⟩
theorem Reps.append : ∀ {vs : List V} {ds : List D} {ws : List V} {es : List D}, Reps K F vs ds → Reps K F ws es → Reps K F (vs ++ ws) (ds ++ es)
  | [], [], _, _, _, s => s
  | [], _ :: _, _, _, h, _ => by cases h
  | _ :: _, [], _, _, h, _ => by cases h
  | _ :: _, _ :: _, _, _, h, s => by
    cases h with
    | cons h r => exact .cons h (Reps.append r s)
theorem Reps.take : ∀ {vs : List V} {ds : List D} (n : Nat), Reps K F vs ds → Reps K F (vs.take n) (ds.take n)
  | _, _, 0, _ => by simpa using Reps.nil
  | [], [], _ + 1, _ => .nil
  | [], _ :: _, _ + 1, h => by cases h
  | _ :: _, [], _ + 1, h => by cases h
  | _ :: _, _ :: _, n + 1, h => by
    cases h with
    | cons h r => exact .cons h (Reps.take n r)
theorem Reps.drop : ∀ {vs : List V} {ds : List D} (n : Nat), Reps K F vs ds → Reps K F (vs.drop n) (ds.drop n)
  | _, _, 0, h => h
  | [], [], _ + 1, _ => .nil
  | [], _ :: _, _ + 1, h => by cases h
  | _ :: _, [], _ + 1, h => by cases h
  | _ :: _, _ :: _, n + 1, h => by
    cases h with
    | cons _ r => exact Reps.drop n r
theorem Reps.set {v : V} {d : D} (q : Rep K F v d) : ∀ {vs : List V} {ds : List D} (i : Nat), Reps K F vs ds → Reps K F (vs.set i v) (ds.set i d)
  | [], [], _, _ => .nil
  | [], _ :: _, _, h => by cases h
  | _ :: _, [], _, h => by cases h
  | _ :: _, _ :: _, 0, h => by
    cases h with
    | cons _ r => exact .cons q r
  | _ :: _, _ :: _, i + 1, h => by
    cases h with
    | cons h r => exact .cons h (Reps.set q i r)
theorem Reps.eraseIdx : ∀ {vs : List V} {ds : List D} (i : Nat), Reps K F vs ds → Reps K F (vs.eraseIdx i) (ds.eraseIdx i)
  | [], [], _, _ => .nil
  | [], _ :: _, _, h => by cases h
  | _ :: _, [], _, h => by cases h
  | _ :: _, _ :: _, 0, h => by
    cases h with
    | cons _ r => exact r
  | _ :: _, _ :: _, i + 1, h => by
    cases h with
    | cons h r => exact .cons h (Reps.eraseIdx i r)
theorem Reps.reverse {vs : List V} {ds : List D} (h : Reps K F vs ds) : Reps K F vs.reverse ds.reverse := by
  induction ds generalizing vs with
  | nil => cases h; exact .nil
  | cons d ds ih =>
    cases h with
    | cons h r =>
      rw [List.reverse_cons, List.reverse_cons]
      exact (ih r).append (.cons h .nil)
theorem Reps.dropLast {vs : List V} {ds : List D} (h : Reps K F vs ds) : Reps K F vs.dropLast ds.dropLast := by
  rw [List.dropLast_eq_take, List.dropLast_eq_take, h.length]
  exact h.take _
theorem Reps.isEmpty {vs : List V} {ds : List D} (h : Reps K F vs ds) : vs.isEmpty = ds.isEmpty := by
  cases vs <;> cases ds <;> first | rfl | cases h
/-! dicts -/
theorem RepK.length : ∀ {vs : List (Key × V)} {ds : List (Key × D)}, RepK K F vs ds → vs.length = ds.length
  | [], [], _ => rfl
  | [], _ :: _, h => by cases h
  | _ :: _, [], h => by cases h
  | _ :: vs, _ :: ds, h => by
    cases h with
    | cons _ _ r => exact congrArg (· + 1) (RepK.length r)
theorem RepK.isEmpty {vs : List (Key × V)} {ds : List (Key × D)} (h : RepK K F vs ds) : vs.isEmpty = ds.isEmpty := by
  cases vs <;> cases ds <;> first | rfl | cases h
theorem RepK.get (k : Key) : ∀ {vs : List (Key × V)} {ds : List (Key × D)}, RepK K F vs ds → (∀ v, valV vs k = some v → ∃ d, dget ds k = some d ∧ Rep K F v d) ∧ (valV vs k = none → dget ds k = none)
  | [], [], _ => ⟨fun v e => by simp [valV] at e, fun _ => rfl⟩
  | [], _ :: _, h => by cases h
  | _ :: _, [], h => by cases h
  | (k', v) :: vs, (_, d) :: ds, h => by
    cases h with
    | cons hk h r =>
      obtain ⟨h1, h2⟩ := RepK.get k r
      by_cases e : k' = k
      · refine ⟨fun v' q => ?_, fun q => ?_⟩
        · rw [valV_pos (p := (k', v)) e] at q
          have q' : v = v' := Option.some.inj q
          subst q'
          exact ⟨d, by simp [dget, List.find?_cons, e], h⟩
        · rw [valV_pos (p := (k', v)) e] at q
          cases q
      · rw [valV_neg (p := (k', v)) e]
        have e' : dget ((k', d) :: ds) k = dget ds k := by simp [dget, List.find?_cons, e]
        rw [e']
        exact ⟨h1, h2⟩
theorem RepK.get_some {k : Key} {vs : List (Key × V)} {ds : List (Key × D)} (h : RepK K F vs ds) {d : D} (e : dget ds k = some d) : ∃ v, valV vs k = some v ∧ Rep K F v d := by
  obtain ⟨h1, h2⟩ := h.get k
  cases q : valV vs k with
  | none => rw [h2 q] at e; cases e
  | some v =>
    obtain ⟨d', e', r⟩ := h1 v q
    rw [e] at e'
    cases e'
    exact ⟨v, rfl, r⟩
theorem RepK.get_none {k : Key} {vs : List (Key × V)} {ds : List (Key × D)} (h : RepK K F vs ds) (e : dget ds k = none) : valV vs k = none := by
  obtain ⟨h1, h2⟩ := h.get k
  cases q : valV vs k with
  | none => rfl
  | some v =>
    obtain ⟨d', e', r⟩ := h1 v q
    rw [e] at e'
    cases e'
theorem RepK.isSome {k : Key} {vs : List (Key × V)} {ds : List (Key × D)} (h : RepK K F vs ds) : (valV vs k).isSome = (dget ds k).isSome := by
  cases q : dget ds k with
  | none =>
    rw [h.get_none q]
    rfl
  | some d =>
    obtain ⟨v, e, _⟩ := h.get_some q
    rw [e]
    rfl
theorem RepK.append : ∀ {vs : List (Key × V)} {ds : List (Key × D)} {ws : List (Key × V)} {es : List (Key × D)}, RepK K F vs ds → RepK K F ws es → RepK K F (vs ++ ws) (ds ++ es)
  | [], [], _, _, _, s => s
  | [], _ :: _, _, _, h, _ => by cases h
  | _ :: _, [], _, _, h, _ => by cases h
  | _ :: _, _ :: _, _, _, h, s => by
    cases h with
    | cons hk h r => exact .cons hk h (RepK.append r s)
theorem RepK.any (k : Key) : ∀ {vs : List (Key × V)} {ds : List (Key × D)}, RepK K F vs ds → (vs.any fun kv => decide (kv.1 = k)) = (ds.any fun kv => decide (kv.1 = k))
  | [], [], _ => rfl
  | [], _ :: _, h => by cases h
  | _ :: _, [], h => by cases h
  | _ :: _, _ :: _, h => by
    cases h with
    | cons _ _ r => rw [List.any_cons, List.any_cons, RepK.any k r]
theorem RepK.mapPut {k : Key} {v : V} {d : D} (q : Rep K F v d) : ∀ {vs : List (Key × V)} {ds : List (Key × D)}, RepK K F vs ds →
    RepK K F (vs.map fun kv => if kv.1 = k then (kv.1, v) else kv) (ds.map fun kv => if kv.1 = k then (kv.1, d) else kv)
  | [], [], _ => .nil
  | [], _ :: _, h => by cases h
  | _ :: _, [], h => by cases h
  | (k', _) :: _, _ :: _, h => by
    cases h with
    | cons hk h r =>
      rw [List.map_cons, List.map_cons]
      by_cases e : k' = k
      · simp only [e, if_true]
        exact .cons (e ▸ hk) q (RepK.mapPut q r)
      · simp only [e, if_false]
        exact .cons hk h (RepK.mapPut q r)
theorem RepK.put {k : Key} {v : V} {d : D} (hk : ∀ x, k = Sum.inr x → x.length ≤ sizeLine) (q : Rep K F v d) {vs : List (Key × V)} {ds : List (Key × D)} (h : RepK K F vs ds) : RepK K F (putK vs k v) (dput ds k d) := by
  unfold putK dput
  rw [h.any k]
  split
  · exact h.mapPut q
  · exact h.append (.cons hk q .nil)
theorem RepK.merge : ∀ {ws : List (Key × V)} {es : List (Key × D)} {vs : List (Key × V)} {ds : List (Key × D)}, RepK K F ws es → RepK K F vs ds → RepK K F (mergeK vs ws) (dmerge ds es)
  | [], [], _, _, _, h => h
  | [], _ :: _, _, _, h, _ => by cases h
  | _ :: _, [], _, _, h, _ => by cases h
  | (k, v) :: ws, (_, d) :: es, vs, ds, h, s => by
    cases h with
    | cons hk h r =>
      have z := RepK.merge r (s.put (k := k) hk h)
      exact z
theorem RepK.keys : ∀ {vs : List (Key × V)} {ds : List (Key × D)}, RepK K F vs ds → vs.map (·.1) = ds.map (·.1)
  | [], [], _ => rfl
  | [], _ :: _, h => by cases h
  | _ :: _, [], h => by cases h
  | _ :: _, _ :: _, h => by
    cases h with
    | cons _ _ r => rw [List.map_cons, List.map_cons, RepK.keys r]
end
end Mi
end

section
set_option Elab.async false
set_option linter.all false
set_option maxRecDepth 100000
set_option maxHeartbeats 4000000
set_option autoImplicit false
/-! Mi3: slots, the store and trees; how a step changes them. -/
namespace Mi
open PySem L2
/-- the tables of code objects that lambdas are found in -/
class TbT where
  T : List (Addr × Str)
variable [TbT]
variable {K : PySem.W.Frag}

/-- what a cell holds, in the heap -/
inductive RepO (K : PySem.W.Frag) (F : Fp) : HO → Own → Prop
  | lst {xs : List V} {ds : List D} : Reps K F xs ds → RepO K F (.lst xs) (.lst ds)
  | dic {kvs : List (Key × V)} {ks : List (Key × D)} : RepK K F kvs ks → RepO K F (.dK kvs) (.dic ks)
theorem RepO.mono {F F' : Fp} (l : Fle F F') {h : HO} {o : Own} (r : RepO K F h o) : RepO K F' h o := by
  cases r with
  | lst r => exact .lst (Reps.mono l _ _ r)
  | dic r => exact .dic (RepK.mono l _ _ r)
theorem RepO.mut {F : Fp} {h : HO} {o : Own} (r : RepO K F h o) : Mut (some h) := by
  cases r <;> trivial
def Fp.put (F : Fp) (p : Addr) (o : HO) : Fp := ⟨upd F.h p o, F.al, F.tb⟩
def Fp.new (F : Fp) (p : Addr) : Fp := ⟨F.h, F.al ++ [p], F.tb⟩
/-- no table, no code object stands at p -/
def Plain (H : Hp) (p : Addr) : Prop := ∀ u, H p = some u → (∀ ps, u ≠ .tbl ps) ∧ ∀ c q, u ≠ LamX.CodeO c q
theorem tabs_upd {T : List (Addr × Str)} {H : Hp} {p : Addr} {o : HO} (t : LamX.Tabs T H) (h : Plain H p) : LamX.Tabs T (upd H p o) := fun q hq => by
  obtain ⟨ps, h1, h2, h3⟩ := t q hq
  refine ⟨ps, ?_, h2, fun pos cv hc => ?_⟩
  · rw [upd_ne fun z => (h _ (by rw [← z]; exact h1)).1 ps rfl]; exact h1
  · obtain ⟨c, e1, e2⟩ := h3 pos cv hc
    refine ⟨c, e1, ?_⟩
    rw [upd_ne fun z => (h _ (by rw [← z]; exact e2)).2 _ _ rfl]; exact e2
theorem plain_none {H : Hp} {p : Addr} (h : H p = none) : Plain H p := fun u e => by rw [h] at e; cases e
theorem plain_lst {H : Hp} {p : Addr} {xs : List V} (h : H p = some (.lst xs)) : Plain H p := fun u e => by
  rw [h] at e
  cases e
  refine ⟨fun ps z => (by cases z), fun c q z => ?_⟩
  unfold LamX.CodeO at z
  cases z
theorem plain_dK {H : Hp} {p : Addr} {xs : List (Key × V)} (h : H p = some (.dK xs)) : Plain H p := fun u e => by
  rw [h] at e
  cases e
  refine ⟨fun ps z => (by cases z), fun c q z => ?_⟩
  unfold LamX.CodeO at z
  cases z
theorem RepO.plain {K : PySem.W.Frag} {F : Fp} {H : Hp} {p : Addr} {ho : HO} {o : Own} (r : RepO K F ho o) (h : H p = some ho) : Plain H p := by
  cases r with
  | lst r => exact plain_lst h
  | dic r => exact plain_dK h
theorem RepO.ntb {K : PySem.W.Frag} {F : Fp} {ho : HO} {o : Own} (r : RepO K F ho o) : ∀ ps, ho ≠ .tbl ps := by
  cases r <;> exact fun ps z => by cases z
structure Rel (K : PySem.W.Frag) (F : Fp) (e : En) (σ : St) (H : Hp) : Prop where
  sub : Le F.h H
  len : σ.length = e.vs.length
  val : ∀ (i : Nat) d, e.vs[i]? = some (some d) → ∃ v, σ[i]? = some (some v) ∧ Rep K F v d
  sl : F.al.length = e.st.length
  own : ∀ (i : Nat) o, e.st[i]? = some o → ∃ a, F.al[i]? = some a ∧ F.h a = none ∧ ∃ ho, H a = some ho ∧ RepO K F ho o
  inj : F.al.Nodup
  tab : LamX.Tabs TbT.T H
  ntb : ∀ a ps, F.h a ≠ some (.tbl ps)
structure Ext (F : Fp) (H : Hp) (F' : Fp) (H' : Hp) : Prop where
  le : Fle F F'
  new : ∀ a, H a ≠ none → F'.h a = F.h a
  keep : ∀ b o, H b = some o → b ∉ F.al → (∀ ps, o ≠ .tbl ps) → H' b = some o
  there : ∀ b, H b ≠ none → H' b ≠ none
  ow : ∀ b, b ∈ F'.al → b ∈ F.al ∨ H b = none
  tb : F'.tb = F.tb
theorem Ext.refl {F : Fp} {H : Hp} : Ext F H F H := ⟨Fle.refl _, fun _ _ => rfl, fun _ _ h _ _ => h, fun _ h => h, fun _ h => .inl h, rfl⟩
theorem Ext.trans {F F1 F2 : Fp} {H H1 H2 : Hp} (a : Ext F H F1 H1) (b : Ext F1 H1 F2 H2) : Ext F H F2 H2 where
  le := a.le.trans b.le
  new := fun c h => (b.new c (a.there c h)).trans (a.new c h)
  keep := fun c o h n t => b.keep c o (a.keep c o h n t) (fun w => (a.ow c w).elim n fun z => by rw [h] at z; cases z) t
  tb := b.tb.trans a.tb
  there := fun c h => b.there c (a.there c h)
  ow := fun c w => by
    rcases b.ow c w with w | z
    · exact a.ow c w
    · by_cases q : H c = none
      · exact .inr q
      · exact absurd z (a.there c q)
/-- a value as it stands just now (its top may be a cell's) -/
inductive RepH (K : PySem.W.Frag) (F : Fp) (H : Hp) : V → D → Prop
  | tree {v : V} {d : D} : isOwn d = false → Rep K F v d → RepH K F H v d
  | lst {a : Addr} {xs : List V} {ds : List D} : H a = some (.lst xs) → Reps K F xs ds → RepH K F H (.ref a) (.lst ds)
  | dic {a : Addr} {kvs : List (Key × V)} {ks : List (Key × D)} : H a = some (.dK kvs) → RepK K F kvs ks → RepH K F H (.ref a) (.dic ks)
section
variable {F : Fp} {H : Hp} {e : En} {σ : St}
theorem Rel.cell (R : Rel K F e σ H) {i : Nat} {a : Addr} {o : Own} (h : F.al[i]? = some a) (q : e.st[i]? = some o) : F.h a = none ∧ ∃ ho, H a = some ho ∧ RepO K F ho o := by
  obtain ⟨b, h1, h2, h3⟩ := R.own i o q
  rw [h] at h1
  cases h1
  exact ⟨h2, h3⟩
theorem RepH.of_res (R : Rel K F e σ H) {v : V} {d d' : D} (r : Rep K F v d) (h : res e d = some d') : RepH K F H v d' := by
  cases d with
  | own i =>
    cases r with
    | own ha =>
      have h' : (e.st[i]?).map Own.d = some d' := h
      cases q : e.st[i]? with
      | none => rw [q] at h'; cases h'
      | some o =>
        rw [q] at h'
        cases h'
        obtain ⟨_, ho, h1, h2⟩ := R.cell ha q
        cases h2 with
        | lst r => exact .lst h1 r
        | dic r => exact .dic h1 r
  | _ =>
    cases h
    exact .tree rfl r
theorem res_pure {d : D} (h : isOwn d = false) : res e d = some d := by
  cases d with
  | own i => cases h
  | _ => rfl
theorem RepH.lst_ (s : Le F.h H) {v : V} {ds : List D} (r : RepH K F H v (.lst ds)) : ∃ a xs, v = .ref a ∧ SqL K H a xs ∧ Reps K F xs ds := by
  cases r with
  | tree _ r =>
    cases r with
    | lst h q => exact ⟨_, _, rfl, sqL_le s h, q⟩
  | lst h q => exact ⟨_, _, rfl, .of h, q⟩
theorem RepH.tup_ (s : Le F.h H) {v : V} {ds : List D} (r : RepH K F H v (.tup ds)) : ∃ a xs, v = .ref a ∧ SqT K H a xs ∧ Reps K F xs ds := by
  cases r with
  | tree _ r =>
    cases r with
    | tup h q => exact ⟨_, _, rfl, sqT_le s h, q⟩
theorem RepH.dic_ (s : Le F.h H) {v : V} {ks : List (Key × D)} (r : RepH K F H v (.dic ks)) : ∃ a kvs, v = .ref a ∧ H a = some (.dK kvs) ∧ RepK K F kvs ks := by
  cases r with
  | tree _ r =>
    cases r with
    | dic h q => exact ⟨_, _, rfl, s _ _ h, q⟩
  | dic h q => exact ⟨_, _, rfl, h, q⟩
theorem RepH.int_ {v : V} {i : Int} (r : RepH K F H v (.int i)) : v = .int i := by
  cases r with
  | tree _ r => cases r; rfl
theorem RepH.str_ {v : V} {x : Str} (r : RepH K F H v (.str x)) : v = .str x ∧ x.length ≤ sizeLine := by
  cases r with
  | tree _ r =>
    cases r with
    | str _ h => exact ⟨rfl, h⟩
theorem RepH.bl_ {v : V} {x : Bool} (r : RepH K F H v (.bl x)) : v = .bl x := by
  cases r with
  | tree _ r => cases r; rfl
theorem RepH.non_ {v : V} (r : RepH K F H v .non) : v = .non := by
  cases r with
  | tree _ r => cases r; rfl
theorem RepH.own_ {v : V} {i : Nat} (r : RepH K F H v (.own i)) : False := by
  cases r with
  | tree h r => cases h
theorem Rep.int_ {v : V} {i : Int} (r : Rep K F v (.int i)) : v = .int i := by cases r; rfl
theorem Rep.str_ {v : V} {i : Str} (r : Rep K F v (.str i)) : v = .str i := by cases r; rfl

/-! ### a new tree -/
theorem le_upd {F : Hp} {p : Addr} {o : HO} (h : F p = none) : Le F (upd F p o) := fun a u q => by
  by_cases e : a = p
  · subst e; rw [h] at q; cases q
  · rw [upd_ne e]; exact q
theorem fle_put {p : Addr} {o : HO} (h : F.h p = none) : Fle F (F.put p o) := ⟨le_upd h, List.prefix_refl _⟩
theorem fle_new {p : Addr} : Fle F (F.new p) := ⟨Le.refl _, List.prefix_append _ _⟩
theorem fnone {F H : Hp} {a : Addr} (s : Le F H) (h : H a = none) : F a = none := by
  cases q : F a with
  | none => rfl
  | some o => rw [s a o q] at h; cases h
theorem Rel.fnone (R : Rel K F e σ H) {p : Addr} (h : H p = none) : F.h p = none := Mi.fnone R.sub h
theorem Rel.alne (R : Rel K F e σ H) {p : Addr} (h : H p = none) : p ∉ F.al := fun m => by
  obtain ⟨i, hi, e1⟩ := List.getElem_of_mem m
  have hi2 : i < e.st.length := R.sl ▸ hi
  obtain ⟨_, ho, h1, _⟩ := R.cell (i := i) (a := p) (o := e.st[i]) (by rw [List.getElem?_eq_getElem hi, e1]) (by rw [List.getElem?_eq_getElem hi2])
  rw [h] at h1
  cases h1
theorem put_ntb {F : Fp} {p : Addr} {o : HO} (h : ∀ a ps, F.h a ≠ some (.tbl ps)) (hnt : ∀ ps, o ≠ .tbl ps) : ∀ a ps, (F.put p o).h a ≠ some (.tbl ps) := fun a ps z => by
  have z : upd F.h p o a = some (.tbl ps) := z
  by_cases q : a = p
  · subst q; rw [upd_same] at z; exact hnt ps (Option.some.inj z)
  · rw [upd_ne q] at z; exact h a ps z
/-- the heap grows by o at p, which is a tree's -/
theorem Rel.alloc (R : Rel K F e σ H) {p : Addr} {o : HO} (h : H p = none) (hnt : ∀ ps, o ≠ .tbl ps) : Rel K (F.put p o) e σ (upd H p o) := by
  have l : Fle F (F.put p o) := fle_put (R.fnone h)
  refine ⟨fun a u q => ?_, R.len, fun i d q => ?_, R.sl, fun i w q => ?_, R.inj, tabs_upd R.tab (plain_none h), put_ntb R.ntb hnt⟩
  · have q : upd F.h p o a = some u := q
    by_cases z : a = p
    · subst z; rw [upd_same] at q ⊢; exact q
    · rw [upd_ne z] at q ⊢; exact R.sub a u q
  · obtain ⟨v, h1, h2⟩ := R.val i d q
    exact ⟨v, h1, Rep.mono l _ _ h2⟩
  · obtain ⟨a, h1, h2, ho, h3, h4⟩ := R.own i w q
    have n : a ≠ p := fun z => by rw [z, h] at h3; cases h3
    exact ⟨a, h1, (upd_ne n).trans h2, ho, (upd_ne n).trans h3, h4.mono l⟩
theorem Rel.alloc_ext (R : Rel K F e σ H) {p : Addr} {o : HO} (h : H p = none) : Ext F H (F.put p o) (upd H p o) := by
  refine ⟨fle_put (R.fnone h), fun a n => ?_, fun b u q _ _ => ?_, fun b n => ?_, fun b w => .inl w, rfl⟩
  · exact upd_ne fun z => n (by rw [z]; exact h)
  · rw [upd_ne (ne_of_none q h)]; exact q
  · by_cases z : b = p
    · subst z; exact absurd h n
    · rw [upd_ne z]; exact n
/-- the heap grows by o at p, which becomes a cell -/
theorem Rel.newC (R : Rel K F e σ H) {p : Addr} {ho : HO} {o : Own} (h : H p = some ho) (hf : F.h p = none) (hn : p ∉ F.al) (q : RepO K F ho o) : Rel K (F.new p) { e with st := e.st ++ [o] } σ H := by
  have l : Fle F (F.new p) := fle_new
  refine ⟨R.sub, R.len, fun i d w => ?_, ?_, fun i w z => ?_, ?_, R.tab, R.ntb⟩
  · obtain ⟨v, h1, h2⟩ := R.val i d w
    exact ⟨v, h1, Rep.mono l _ _ h2⟩
  · show (F.al ++ [p]).length = (e.st ++ [o]).length
    rw [List.length_append, List.length_append, R.sl]; rfl
  · have z : (e.st ++ [o])[i]? = some w := z
    by_cases c : i < e.st.length
    · rw [List.getElem?_append_left c] at z
      obtain ⟨a, h1, h2, ho', h3, h4⟩ := R.own i w z
      exact ⟨a, l.get h1, h2, ho', h3, h4.mono l⟩
    · have c' : e.st.length ≤ i := Nat.le_of_not_lt c
      rw [List.getElem?_append_right c'] at z
      have hi : i - e.st.length = 0 := by
        cases k : i - e.st.length with
        | zero => rfl
        | succ n => rw [k] at z; cases z
      rw [hi] at z
      cases z
      have ei : i = F.al.length := by rw [R.sl]; omega
      refine ⟨p, ?_, hf, ho, h, q.mono l⟩
      show (F.al ++ [p])[i]? = some p
      rw [ei, List.getElem?_append_right (Nat.le_refl _), Nat.sub_self]
      rfl
  · show (F.al ++ [p]).Nodup
    rw [List.nodup_append]
    refine ⟨R.inj, List.Pairwise.cons (by simp) .nil, fun a ha b hb => ?_⟩
    rw [List.mem_singleton.mp hb]
    exact fun z => hn (z ▸ ha)
/-- the heap grows by o at p, nothing is said of it -/
theorem Rel.grow (R : Rel K F e σ H) {p : Addr} {o : HO} (h : H p = none) : Rel K F e σ (upd H p o) := by
  refine ⟨fun a u q => ?_, R.len, R.val, R.sl, fun i w q => ?_, R.inj, tabs_upd R.tab (plain_none h), R.ntb⟩
  · rw [upd_ne (ne_of_none (R.sub a u q) h)]; exact R.sub a u q
  · obtain ⟨a, h1, h2, ho, h3, h4⟩ := R.own i w q
    have n : a ≠ p := fun z => by rw [z, h] at h3; cases h3
    exact ⟨a, h1, h2, ho, (upd_ne n).trans h3, h4⟩
theorem grow_ext {F : Fp} {H : Hp} {p : Addr} {o : HO} (h : H p = none) : Ext F H F (upd H p o) := by
  refine ⟨Fle.refl _, fun a n => rfl, fun b u q _ _ => ?_, fun b n => ?_, fun b w => .inl w, rfl⟩
  · rw [upd_ne (ne_of_none q h)]; exact q
  · by_cases z : b = p
    · subst z; exact absurd h n
    · rw [upd_ne z]; exact n
/-- something neither a tree's nor a cell's is written -/
theorem Rel.side (R : Rel K F e σ H) {p : Addr} {o : HO} (hf : F.h p = none) (hn : p ∉ F.al) (hp : Plain H p) : Rel K F e σ (upd H p o) := by
  refine ⟨fun a u q => ?_, R.len, R.val, R.sl, fun i w q => ?_, R.inj, tabs_upd R.tab hp, R.ntb⟩
  · have n : a ≠ p := fun z => by rw [z, hf] at q; cases q
    rw [upd_ne n]; exact R.sub a u q
  · obtain ⟨a, h1, h2, ho, h3, h4⟩ := R.own i w q
    have n : a ≠ p := fun z => hn (z ▸ List.mem_of_getElem? h1)
    exact ⟨a, h1, h2, ho, (upd_ne n).trans h3, h4⟩
theorem nodup_get {l : List Addr} (h : l.Nodup) {i j : Nat} {a : Addr} (h1 : l[i]? = some a) (h2 : l[j]? = some a) : i = j := by
  obtain ⟨hi, e1⟩ := List.getElem?_eq_some_iff.mp h1
  obtain ⟨hj, e2⟩ := List.getElem?_eq_some_iff.mp h2
  have pw := List.pairwise_iff_getElem.mp h
  rcases Nat.lt_trichotomy i j with q | q | q
  · exact absurd (e1.trans e2.symm) (pw i j hi hj q)
  · exact q
  · exact absurd (e2.trans e1.symm) (pw j i hj hi q)
/-- a cell is written -/
theorem Rel.write (R : Rel K F e σ H) {i : Nat} {a : Addr} {o' : Own} {ho : HO} (h : F.al[i]? = some a) (q : RepO K F ho o') : Rel K F { e with st := e.st.set i o' } σ (upd H a ho) := by
  obtain ⟨hi, _⟩ := List.getElem?_eq_some_iff.mp h
  have hi2 : i < e.st.length := R.sl ▸ hi
  have hf : F.h a = none := (R.cell h (by rw [List.getElem?_eq_getElem hi2])).1
  have hpl : Plain H a := by
    obtain ⟨_, ho0, q1, q2⟩ := R.cell h (by rw [List.getElem?_eq_getElem hi2])
    exact q2.plain q1
  refine ⟨fun b u w => ?_, R.len, R.val, (R.sl.trans (List.length_set).symm), fun j o1 w => ?_, R.inj, tabs_upd R.tab hpl, R.ntb⟩
  · by_cases z : b = a
    · subst z; rw [hf] at w; cases w
    · rw [upd_ne z]; exact R.sub b u w
  · have w : (e.st.set i o')[j]? = some o1 := w
    by_cases z : i = j
    · subst z
      rw [List.getElem?_set_self hi2] at w
      cases w
      exact ⟨a, h, hf, ho, upd_same, q⟩
    · rw [List.getElem?_set_ne z] at w
      obtain ⟨b, g1, g2, ho', g3, g4⟩ := R.own j o1 w
      exact ⟨b, g1, g2, ho', by rw [upd_ne fun y : b = a => z (nodup_get R.inj h (by rw [← y]; exact g1))]; exact g3, g4⟩
theorem Rel.write_ext {F : Fp} {H : Hp} {i : Nat} {a : Addr} {ho : HO} (h : F.al[i]? = some a) : Ext F H F (upd H a ho) := by
  refine ⟨Fle.refl _, fun _ _ => rfl, fun b u q n _ => ?_, fun b n => ?_, fun b w => .inl w, rfl⟩
  · rw [upd_ne fun z : b = a => n (by rw [z]; exact List.mem_of_getElem? h)]; exact q
  · by_cases z : b = a
    · subst z; rw [upd_same]; exact nofun
    · rw [upd_ne z]; exact n
/-- a slot is given a value -/
theorem Rel.put (R : Rel K F e σ H) {i : Nat} {v : V} {d : D} {e' : En} (h : put i d e = some e') (q : Rep K F v d) : Rel K F e' (σ.set i (some v)) H := by
  unfold Mi.put at h
  split at h
  · rename_i hi
    cases h
    have hσ : i < σ.length := by rw [R.len]; exact hi
    refine ⟨R.sub, by rw [List.length_set]; exact R.len.trans (List.length_set).symm, fun j d' w => ?_, R.sl, R.own, R.inj, R.tab, R.ntb⟩
    have w : (e.vs.set i (some d))[j]? = some (some d') := w
    by_cases z : i = j
    · subst z
      rw [List.getElem?_set_self hi] at w
      cases w
      exact ⟨v, List.getElem?_set_self hσ, q⟩
    · rw [List.getElem?_set_ne z] at w ⊢
      exact R.val j d' w
  · cases h
end
end Mi
namespace Mi
open PySem L2
variable [TbT]
variable {K : PySem.W.Frag}
section
variable {F : Fp} {H : Hp} {e : En} {σ : St}
/-- o is laid at p, which is no tree's and no cell's: it becomes a tree's -/
theorem Rel.lay (R : Rel K F e σ H) {p : Addr} {o : HO} (hf : F.h p = none) (hn : p ∉ F.al) (hp : Plain H p) (hnt : ∀ ps, o ≠ .tbl ps) : Rel K (F.put p o) e σ (upd H p o) := by
  have l : Fle F (F.put p o) := fle_put hf
  refine ⟨fun a u q => ?_, R.len, fun i d q => ?_, R.sl, fun i w q => ?_, R.inj, tabs_upd R.tab hp, put_ntb R.ntb hnt⟩
  · have q : upd F.h p o a = some u := q
    by_cases z : a = p
    · subst z; rw [upd_same] at q ⊢; exact q
    · rw [upd_ne z] at q ⊢; exact R.sub a u q
  · obtain ⟨v, h1, h2⟩ := R.val i d q
    exact ⟨v, h1, Rep.mono l _ _ h2⟩
  · obtain ⟨a, h1, h2, ho, h3, h4⟩ := R.own i w q
    have n : a ≠ p := fun z => hn (z ▸ List.mem_of_getElem? h1)
    exact ⟨a, h1, (upd_ne n).trans h2, ho, (upd_ne n).trans h3, h4.mono l⟩
theorem upd_self {H : Hp} {p : Addr} {o : HO} (h : H p = some o) : upd H p o = H := by
  funext a
  by_cases z : a = p
  · subst z; rw [upd_same, h]
  · rw [upd_ne z]
/-- what is laid at p since H -/
theorem Ext.lay {F2 : Fp} {H2 : Hp} (x : Ext F H F2 H2) {p : Addr} {o : HO} (h : H p = none) (hf : F2.h p = none) : Ext F H (F2.put p o) (upd H2 p o) := by
  refine ⟨x.le.trans (fle_put hf), fun a n => ?_, fun b u q n t => ?_, fun b n => ?_, x.ow, x.tb⟩
  · have z : a ≠ p := fun z => n (by rw [z]; exact h)
    exact (upd_ne z).trans (x.new a n)
  · rw [upd_ne (ne_of_none q h)]; exact x.keep b u q n t
  · by_cases z : b = p
    · subst z; exact absurd h n
    · rw [upd_ne z]; exact x.there b n
theorem Ext.side {F2 : Fp} {H2 : Hp} (x : Ext F H F2 H2) {p : Addr} {o : HO} (h : H p = none) : Ext F H F2 (upd H2 p o) := by
  refine ⟨x.le, x.new, fun b u q n t => ?_, fun b n => ?_, x.ow, x.tb⟩
  · rw [upd_ne (ne_of_none q h)]; exact x.keep b u q n t
  · by_cases z : b = p
    · subst z; exact absurd h n
    · rw [upd_ne z]; exact x.there b n
theorem Ext.newC {F2 : Fp} {H2 : Hp} (x : Ext F H F2 H2) {p : Addr} (h : H p = none) : Ext F H (F2.new p) H2 := by
  refine ⟨x.le.trans fle_new, x.new, x.keep, x.there, fun b w => ?_, x.tb⟩
  rcases List.mem_append.mp w with w | w
  · exact x.ow b w
  · rw [List.mem_singleton.mp w]; exact .inr h
end
end Mi
end

section
set_option Elab.async false
set_option linter.all false
set_option maxRecDepth 100000
set_option maxHeartbeats 4000000
set_option autoImplicit false
/-! Mi4: operators, built-ins and methods by values: trees in, trees out. -/
namespace Mi
open PySem L2 PySem.Spec PyProof.Rows
variable [TbT]
/-- nothing changes, or one new tree stands -/
def Gr (F : Fp) (H : Hp) (F' : Fp) (H' : Hp) : Prop := (F' = F ∧ H' = H) ∨ ∃ p o, H p = none ∧ F' = F.put p o ∧ H' = upd H p o ∧ ∀ ps, o ≠ .tbl ps
theorem Gr.rel {K : PySem.W.Frag} {F F' : Fp} {H H' : Hp} {e : En} {σ : L2.St} (R : Rel K F e σ H) (g : Gr F H F' H') : Rel K F' e σ H' ∧ Ext F H F' H' := by
  rcases g with ⟨rfl, rfl⟩ | ⟨p, o, h, rfl, rfl, hnt⟩
  · exact ⟨R, .refl⟩
  · exact ⟨R.alloc h hnt, R.alloc_ext h⟩
/-- what is wanted of a result -/
abbrev Go (K : PySem.W.Frag) (F : Fp) (H : Hp) (Q : VK) (z : D) : Prop := ∀ w F' H', Gr F H F' H' → Rep K F' w z → Q w H'
section
variable {X : Cx} {F : Fp} {H : Hp} {Q : VK}
theorem Go.same {K : PySem.W.Frag} {z : D} {w : V} (g : Go K F H Q z) (r : Rep K F w z) : Q w H := g w F H (.inl ⟨rfl, rfl⟩) r
theorem Go.newL {K : PySem.W.Frag} {ds : List D} {xs : List V} (g : Go K F H Q (.lst ds)) (s : Le F.h H) (r : Reps K F xs ds) : ∀ p, H p = none → Q (.ref p) (upd H p (.lst xs)) := fun p h =>
  g (.ref p) (F.put p (.lst xs)) _ (.inr ⟨p, _, h, rfl, rfl, fun ps z => by cases z⟩) (.lst (.of upd_same) (Reps.mono (fle_put (fnone s h)) _ _ r))
theorem Go.newT {K : PySem.W.Frag} {ds : List D} {xs : List V} (g : Go K F H Q (.tup ds)) (s : Le F.h H) (r : Reps K F xs ds) : ∀ p, H p = none → Q (.ref p) (upd H p (.tup xs)) := fun p h =>
  g (.ref p) (F.put p (.tup xs)) _ (.inr ⟨p, _, h, rfl, rfl, fun ps z => by cases z⟩) (.tup (.of upd_same) (Reps.mono (fle_put (fnone s h)) _ _ r))
theorem Go.newK {K : PySem.W.Frag} {ks : List (Key × D)} {kvs : List (Key × V)} (g : Go K F H Q (.dic ks)) (s : Le F.h H) (r : RepK K F kvs ks) : ∀ p, H p = none → Q (.ref p) (upd H p (.dK kvs)) := fun p h =>
  g (.ref p) (F.put p (.dK kvs)) _ (.inr ⟨p, _, h, rfl, rfl, fun ps z => by cases z⟩) (.dic upd_same (RepK.mono (fle_put (fnone s h)) _ _ r))
/-! ### +, -, .. -/
def rBin (K : PySem.W.Frag) (op : BOp) : R2 := fun v u H Q => ∃ F x y z, Le F.h H ∧ RepH K F H v x ∧ RepH K F H u y ∧ Mi.bin op x y = some z ∧ Go K F H Q z
/-- list + list, whatever lists -/
def rCatL (K : PySem.W.Frag) : R2 := fun x y H Q => ∃ l b xs zs, x = .ref l ∧ y = .ref b ∧ SqL K H l xs ∧ SqL K H b zs ∧ xs.length + zs.length ≤ sizeLine ∧ ∀ p, H p = none → Q (.ref p) (upd H p (.lst (xs ++ zs)))
theorem op_catL : OpR X (binaryOp .Add) (rCatL X.K) := by
  intro pins s σ H x y v u Q I rx ry h
  obtain ⟨l, b, xs, zs, rfl, rfl, hH, hB, hz, q⟩ := h
  cases rx
  cases ry
  obtain ⟨its, r, pl, hl⟩ := I.list hH
  obtain ⟨its2, r2, pl2, hl2⟩ := I.list hB
  have e1 := r.length
  have e2 := r2.length
  obtain ⟨⟨cls, dd, data, sl⟩, n, ho, hc, hd0, hd⟩ := pl
  obtain ⟨⟨cls2, dd2, data2, sl2⟩, n2, ho2, hc2, hd02, hd2⟩ := pl2
  simp only at hc hd hc2 hd2
  subst hc hd hc2 hd2
  have e : its.toArray ++ its2.toArray = (its ++ its2).toArray := by simp
  refine concat_meets ⟨_, ho, rfl⟩ ⟨_, ho2, rfl⟩ noFill_list_add seq_list_add PySem.F.slot_list_add PySem.F.entry_list_add (PySem.F.args_list_add_2 _ _) (list_addW l b its.toArray its2.toArray n n2 dd dd2 sl sl2 (by simp; omega)) ⟨ho, ho2, ?_⟩
  rw [e]
  exact ⟨.ref _, _, I.lnew (t' := s.toks) (r.append r2) (by rw [List.length_append]; omega), rfl, q _ I.fresh⟩
theorem small_iff {i : Int} (h : small i = true) : -(2 ^ 64) < i ∧ i < 2 ^ 64 := by
  unfold small big at h
  simp only [Bool.and_eq_true, decide_eq_true_eq] at h
  omega
theorem or_add : OpR X (binaryOp .Add) (rBin X.K .add) := by
  intro pins s σ H v u v' u' Q I r1 r2 h
  obtain ⟨F, x, y, z, sub, hx, hy, e, g⟩ := h
  cases x with
  | int i => cases y with
    | int j =>
      cases e
      cases hx.int_
      cases hy.int_
      exact op_add pins s σ H _ _ _ _ Q I r1 r2 ⟨i, j, rfl, rfl, g.same (.int _)⟩
    | _ => cases e
  | str a => cases y with
    | str b =>
      have e : (if a.length + b.length ≤ sizeLine then some (D.str (a ++ b)) else none) = some z := e
      split at e <;> cases e
      rename_i hz
      cases hx.str_.1
      cases hy.str_.1
      refine op_add_str pins s σ H _ _ _ _ Q I r1 r2 ⟨a, b, rfl, rfl, hz, g.same (.str _ ?_)⟩
      show (a.cps ++ b.cps).size ≤ _
      rw [Array.size_append]
      exact hz
    | _ => cases e
  | lst xs => cases y with
    | lst ys =>
      have e : (if xs.length + ys.length ≤ sizeLine then some (D.lst (xs ++ ys)) else none) = some z := e
      split at e <;> cases e
      rename_i hz
      obtain ⟨a, vs, rfl, s1, q1⟩ := hx.lst_ sub
      obtain ⟨b, ws, rfl, s2, q2⟩ := hy.lst_ sub
      exact op_catL pins s σ H _ _ _ _ Q I r1 r2 ⟨a, b, vs, ws, rfl, rfl, s1, s2, by rw [q1.length, q2.length]; exact hz, g.newL sub (q1.append q2)⟩
    | _ => cases e
  | tup xs => cases y with
    | tup ys =>
      have e : (if xs.length + ys.length ≤ sizeLine then some (D.tup (xs ++ ys)) else none) = some z := e
      split at e <;> cases e
      rename_i hz
      obtain ⟨a, vs, rfl, s1, q1⟩ := hx.tup_ sub
      obtain ⟨b, ws, rfl, s2, q2⟩ := hy.tup_ sub
      have tx : Rep X.K F (.ref a) (.tup xs) := by cases hx with | tree _ r => exact r
      have ty : Rep X.K F (.ref b) (.tup ys) := by cases hy with | tree _ r => exact r
      refine op_catA pins s σ H _ _ _ _ Q I r1 r2 ⟨a, b, vs, ws, rfl, rfl, s1, s2, by rw [q1.length, q2.length]; exact hz, fun n => ?_, fun n1 n2 => ?_, fun _ _ => g.newT sub (q1.append q2)⟩
      · subst n
        cases xs with
        | nil => exact g.same ty
        | cons _ _ => cases q1
      · subst n2
        cases ys with
        | nil =>
          rw [List.append_nil] at g
          exact g.same tx
        | cons _ _ => cases q2
    | _ => cases e
  | _ => cases e
theorem bin_int {op : BOp} {x y z : D} (h : op ≠ .add) (e : Mi.bin op x y = some z) : ∃ i j, x = .int i ∧ y = .int j := by
  cases op <;> first | exact absurd rfl h | (cases x <;> cases y <;> first | (cases e; done) | exact ⟨_, _, rfl, rfl⟩)
theorem or_sub : OpR X (binaryOp .Sub) (rBin X.K .sub) := by
  intro pins s σ H v u v' u' Q I r1 r2 h
  obtain ⟨F, x, y, z, sub, hx, hy, e, g⟩ := h
  obtain ⟨i, j, rfl, rfl⟩ := bin_int (by decide) e
  cases e
  cases hx.int_
  cases hy.int_
  exact op_sub pins s σ H _ _ _ _ Q I r1 r2 ⟨i, j, rfl, rfl, g.same (.int _)⟩
theorem or_mul : OpR X (binaryOp .Mult) (rBin X.K .mul) := by
  intro pins s σ H v u v' u' Q I r1 r2 h
  obtain ⟨F, x, y, z, sub, hx, hy, e, g⟩ := h
  obtain ⟨i, j, rfl, rfl⟩ := bin_int (by decide) e
  have e : (if (small i || small j) = true then some (D.int (i * j)) else none) = some z := e
  split at e <;> cases e
  rename_i hz
  cases hx.int_
  cases hy.int_
  have hc : CMul i j := (Bool.or_eq_true_iff.mp hz).imp small_iff small_iff
  exact op_mul pins s σ H _ _ _ _ Q I r1 r2 ⟨i, j, rfl, rfl, hc, g.same (.int _)⟩
theorem or_fdiv : OpR X (binaryOp .FloorDiv) (rBin X.K .fdiv) := by
  intro pins s σ H v u v' u' Q I r1 r2 h
  obtain ⟨F, x, y, z, sub, hx, hy, e, g⟩ := h
  obtain ⟨i, j, rfl, rfl⟩ := bin_int (by decide) e
  have e : (if 0 < j ∧ j < 1073741824 then some (D.int (i / j)) else none) = some z := e
  split at e <;> cases e
  rename_i hz
  cases hx.int_
  cases hy.int_
  exact op_fdiv pins s σ H _ _ _ _ Q I r1 r2 ⟨i, j, rfl, rfl, hz, g.same (.int _)⟩
theorem or_mod : OpR X (binaryOp .Mod) (rBin X.K .mod) := by
  intro pins s σ H v u v' u' Q I r1 r2 h
  obtain ⟨F, x, y, z, sub, hx, hy, e, g⟩ := h
  obtain ⟨i, j, rfl, rfl⟩ := bin_int (by decide) e
  have e : (if 0 < j then some (D.int (i % j)) else none) = some z := e
  split at e <;> cases e
  rename_i hz
  cases hx.int_
  cases hy.int_
  exact op_mod pins s σ H _ _ _ _ Q I r1 r2 ⟨i, j, rfl, rfl, hz, g.same (.int _)⟩
theorem or_pow : OpR X (binaryOp .Pow) (rBin X.K .pow) := by
  intro pins s σ H v u v' u' Q I r1 r2 h
  obtain ⟨F, x, y, z, sub, hx, hy, e, g⟩ := h
  obtain ⟨i, j, rfl, rfl⟩ := bin_int (by decide) e
  have e : (if 0 ≤ j ∧ j ≤ 1000000 ∧ i.natAbs < 2 ^ 64 then some (D.int (i ^ j.toNat)) else none) = some z := e
  split at e <;> cases e
  rename_i hz
  cases hx.int_
  cases hy.int_
  exact op_pow pins s σ H _ _ _ _ Q I r1 r2 ⟨i, j, rfl, rfl, hz, g.same (.int _)⟩
def BOp.py : BOp → Operator
  | .add => .Add
  | .sub => .Sub
  | .mul => .Mult
  | .fdiv => .FloorDiv
  | .mod => .Mod
  | .pow => .Pow
theorem or_bin (op : BOp) : OpR X (binaryOp op.py) (rBin X.K op) := by
  cases op
  · exact or_add
  · exact or_sub
  · exact or_mul
  · exact or_fdiv
  · exact or_mod
  · exact or_pow
end
end Mi
end

section
set_option Elab.async false
set_option linter.all false
set_option maxRecDepth 100000
set_option maxHeartbeats 4000000
set_option autoImplicit false
/-! Mi5: comparisons, membership, items, slices by values. -/
namespace Mi
open PySem L2 PySem.Spec PyProof.Rows
variable [TbT]
section
variable {K : PySem.W.Frag} {F : Fp} {H : Hp}
mutual
theorem Rep.dp (s : Le F.h H) : ∀ (d : D) (v : V), PyData.canLay0 (toPy d) = true → Rep K F v d → Dp K H v (toPy d)
  | .non, _, _, h => by cases h; exact .non
  | .bl _, _, _, h => by cases h; exact .bl _
  | .int _, _, _, h => by cases h; exact .int _
  | .str _, _, _, h => by cases h; exact .str _
  | .lst ds, _, c, h => by
    cases h with
    | lst h r => exact .lst (sqL_le s h) (Reps.dp s ds _ c r)
  | .tup ds, _, c, h => by
    cases h with
    | tup h r => exact .tup (sqT_le s h) (Reps.dp s ds _ c r)
  | .dic ks, _, c, h => by cases c
  | .own _, _, c, h => by cases c
theorem Reps.dp (s : Le F.h H) : ∀ (ds : List D) (vs : List V), PyData.canLayAll0 (toPys ds) = true → Reps K F vs ds → DpAll K H vs (toPys ds)
  | [], _, _, h => by cases h; exact .nil
  | d :: ds, _, c, h => by
    have c' : (PyData.canLay0 (toPy d) && PyData.canLayAll0 (toPys ds)) = true := c
    rw [Bool.and_eq_true] at c'
    cases h with
    | cons h r => exact .cons (Rep.dp s d _ c'.1 h) (Reps.dp s ds _ c'.2 r)
end
theorem RepH.dp (s : Le F.h H) {d : D} {v : V} (c : SeqAt.shaped (toPy d) = true) (h : RepH K F H v d) : Dp K H v (toPy d) := by
  have c := SeqAt.canLay_of_shaped c
  cases h with
  | tree _ h => exact Rep.dp s d v c h
  | lst h r => exact .lst (.of h) (Reps.dp s _ _ c r)
  | dic h r => cases c
theorem RepH.dpL (s : Le F.h H) {ds : List D} {v : V} (c : SeqAt.shaped (.list (toPys ds)) = true) (h : RepH K F H v (.lst ds)) : Dp K H v (.list (toPys ds)) := RepH.dp (d := .lst ds) s c h
theorem flat_v {v : V} {d : D} (f : flat d = true) (h : RepH K F H v d) : flatV v = true ∧ ∀ {w : V} {d' : D}, flat d' = true → RepH K F H w d' → eqV w v = eqF d' d ∧ eqV v w = eqF d d' := by
  cases d with
  | non =>
    cases h.non_
    refine ⟨rfl, fun {w d'} f' h' => ?_⟩
    cases d' <;> first | (cases f'; done) | skip
    · cases h'.non_; exact ⟨rfl, rfl⟩
    · cases h'.bl_; exact ⟨rfl, rfl⟩
    · cases h'.int_; exact ⟨rfl, rfl⟩
    · cases h'.str_.1; exact ⟨rfl, rfl⟩
  | bl b =>
    cases h.bl_
    refine ⟨rfl, fun {w d'} f' h' => ?_⟩
    cases d' <;> first | (cases f'; done) | skip
    · cases h'.non_; exact ⟨rfl, rfl⟩
    · cases h'.bl_; exact ⟨rfl, rfl⟩
    · cases h'.int_; exact ⟨rfl, rfl⟩
    · cases h'.str_.1; exact ⟨rfl, rfl⟩
  | int i =>
    cases h.int_
    refine ⟨rfl, fun {w d'} f' h' => ?_⟩
    cases d' <;> first | (cases f'; done) | skip
    · cases h'.non_; exact ⟨rfl, rfl⟩
    · cases h'.bl_; exact ⟨rfl, rfl⟩
    · cases h'.int_; exact ⟨rfl, rfl⟩
    · cases h'.str_.1; exact ⟨rfl, rfl⟩
  | str i =>
    cases h.str_.1
    refine ⟨rfl, fun {w d'} f' h' => ?_⟩
    cases d' <;> first | (cases f'; done) | skip
    · cases h'.non_; exact ⟨rfl, rfl⟩
    · cases h'.bl_; exact ⟨rfl, rfl⟩
    · cases h'.int_; exact ⟨rfl, rfl⟩
    · cases h'.str_.1; exact ⟨rfl, rfl⟩
  | _ => cases f
theorem flat_all {v : V} {d : D} (f : flat d = true) (h : RepH K F H v d) : ∀ {vs : List V} {ds : List D}, ds.all flat = true → Reps K F vs ds → vs.all flatV = true ∧ inV v vs = ds.any fun z => eqF z d
  | [], [], _, _ => ⟨rfl, rfl⟩
  | [], _ :: _, _, r => by cases r
  | _ :: _, [], _, r => by cases r
  | w :: vs, d' :: ds, g, r => by
    rw [List.all_cons, Bool.and_eq_true] at g
    cases r with
    | cons q r =>
      obtain ⟨h1, h2⟩ := flat_all f h g.2 r
      have nf : ∀ {d : D}, flat d = true → isOwn d = false := fun {d} f => by cases d <;> first | rfl | cases f
      have h3 := flat_v g.1 (RepH.tree (H := H) (nf g.1) q)
      have h4 := ((flat_v f h).2 g.1 (RepH.tree (nf g.1) q)).1
      refine ⟨by rw [List.all_cons, h3.1, h1] <;> rfl, ?_⟩
      show (eqV w v || inV v vs) = (eqF d' d || ds.any fun z => eqF z d)
      rw [h2, h4]
theorem any_py (d : PyData) : ∀ ds : List D, ((toPys ds).any fun z => PyData.eqv z d) = ds.any fun z => PyData.eqv (toPy z) d
  | [] => rfl
  | z :: ds => by
    show (PyData.eqv (toPy z) d || (toPys ds).any fun z => PyData.eqv z d) = _
    rw [any_py d ds]
    rfl
theorem dk_eq {d : D} {k : Key} (h : dk d = some k) : d = kd k := by
  cases d <;> first | (cases h; rfl) | cases h
theorem Rep.key {v : V} {k : Key} (h : RepH K F H v (kd k)) : v = kV k := by
  cases k with
  | inl i => exact h.int_
  | inr x => exact h.str_.1
theorem keyRep (k : Key) (h : ∀ x, k = .inr x → x.length ≤ sizeLine) : Rep K F (kV k) (kd k) := by
  cases k with
  | inl i => exact .int _
  | inr x => exact .str _ (h x rfl)
end
section
variable {X : Cx}
def rCmp (K : PySem.W.Frag) (op : COp) : R2 := fun v u H Q => ∃ F x y z, Le F.h H ∧ RepH K F H v x ∧ RepH K F H u y ∧ Mi.cmp op x y = some z ∧ Go K F H Q z
def COp.py : COp → CmpOp
  | .eq => .Eq
  | .ne => .NotEq
  | .lt => .Lt
  | .le => .LtE
  | .gt => .Gt
  | .ge => .GtE
  | .isin => .In
  | .notin => .NotIn
  | .is => .Is
  | .isnot => .IsNot
/-- membership, whatever is walked -/
theorem in_ok (neg : Bool) (hu : X.A.units + 65 < cLine) {pins : List (Addr × Obj)} {s : Shared} {σ : L2.St} {F : Fp} {H : Hp} {v u : V} {v' u' : Value} {Q : VK} {x y : D} {b : Bool} (I : Inv X pins σ H s) (r1 : RelV v v') (r2 : RelV u u')
    (sub : Le F.h H) (hx : RepH X.K F H v x) (hy : RepH X.K F H u y) (e : isIn x y = some b) (q : Q (.bl (if neg then !b else b)) H) : wpAny (model X.prog X.w) X.A (compareOp (if neg then .NotIn else .In) v' u') (EP X pins σ Q) X.xe s := by
  cases y with
  | str z =>
    cases x with
    | str a =>
      have e : (match a.cps.toList with
        | [c] => some (decide (c ∈ z.cps.toList))
        | _ => none) = some b := e
      split at e
      · rename_i c hc
        cases e
        cases hx.str_.1
        cases hy.str_.1
        have ha : a = ⟨#[c]⟩ := by
          obtain ⟨cps⟩ := a
          have h3 : cps.toList.toArray = [c].toArray := congrArg List.toArray hc
          rw [Array.toArray_toList] at h3
          rw [h3]
        cases neg with
        | false => exact op_in_sign pins s σ H _ _ _ _ Q I r1 r2 ⟨c, z, by rw [ha], rfl, q⟩
        | true => exact op_notIn_sign pins s σ H _ _ _ _ Q I r1 r2 ⟨c, z, by rw [ha], rfl, q⟩
      · cases e
    | _ => cases e
  | lst ds =>
    have e : (if (flat x && ds.all flat) = true then some (ds.any fun z => eqF z x) else if (SeqAt.shaped (toPy x) && SeqAt.shaped (.list (toPys ds))) = true then some (ds.any fun z => eqF z x) else none) = some b := e
    split at e
    · rename_i f
      cases e
      rw [Bool.and_eq_true] at f
      obtain ⟨a, vs, rfl, s1, q1⟩ := hy.lst_ sub
      obtain ⟨h1, h2⟩ := flat_all f.1 hx f.2 q1
      cases neg with
      | false => exact op_in_seq pins s σ H _ _ _ _ Q I r1 r2 ⟨a, vs, rfl, .inl s1, (flat_v f.1 hx).1, h1, by rw [h2]; exact q⟩
      | true => exact op_notIn_seq pins s σ H _ _ _ _ Q I r1 r2 ⟨a, vs, rfl, .inl s1, (flat_v f.1 hx).1, h1, by rw [h2]; exact q⟩
    · split at e
      · rename_i f
        cases e
        rw [Bool.and_eq_true] at f
        have hd := hx.dp sub f.1
        have hl := hy.dpL sub f.2
        cases neg with
        | false => exact op_inD hu pins s σ H _ _ _ _ Q I r1 r2 ⟨_, _, hd, hl, f.1, f.2, by rw [any_py]; exact q⟩
        | true => exact op_notInD hu pins s σ H _ _ _ _ Q I r1 r2 ⟨_, _, hd, hl, f.1, f.2, by rw [any_py]; exact q⟩
      · cases e
  | tup ds =>
    have e : (if (flat x && ds.all flat) = true then some (ds.any fun z => eqF z x) else none) = some b := e
    split at e
    · rename_i f
      cases e
      rw [Bool.and_eq_true] at f
      obtain ⟨a, vs, rfl, s1, q1⟩ := hy.tup_ sub
      obtain ⟨h1, h2⟩ := flat_all f.1 hx f.2 q1
      cases neg with
      | false => exact op_in_seq pins s σ H _ _ _ _ Q I r1 r2 ⟨a, vs, rfl, .inr s1, (flat_v f.1 hx).1, h1, by rw [h2]; exact q⟩
      | true => exact op_notIn_seq pins s σ H _ _ _ _ Q I r1 r2 ⟨a, vs, rfl, .inr s1, (flat_v f.1 hx).1, h1, by rw [h2]; exact q⟩
    · cases e
  | dic ks =>
    have e : (dk x).map (fun k => (dget ks k).isSome) = some b := e
    cases hk : dk x with
    | none => rw [hk] at e; cases e
    | some k =>
      rw [hk] at e
      cases e
      rw [dk_eq hk] at hx
      cases Rep.key hx
      obtain ⟨a, kvs, rfl, s1, q1⟩ := hy.dic_ sub
      cases (show u' = Value.ref a from r2)
      have g : DGet H a (kV k) (valV kvs k) := DGet.k s1
      have q : Q (.bl (if neg = true then !(dget ks k).isSome else (dget ks k).isSome)) H := q
      rw [← q1.isSome (k := k)] at q
      cases neg with
      | false => exact d_in (by omega) I g r1 fun s3 I3 => ⟨.bl _, H, I3, rfl, q⟩
      | true => exact d_notIn (by omega) I g r1 fun s3 I3 => ⟨.bl _, H, I3, rfl, q⟩
  | _ => cases e
theorem or_cmp (op : COp) (hu : X.A.units + 65 < cLine) : OpR X (compareOp op.py) (rCmp X.K op) := by
  intro pins s σ H v u v' u' Q I r1 r2 h
  obtain ⟨F, x, y, z, sub, hx, hy, e, g⟩ := h
  cases op with
  | eq =>
    have e : (deq x y).map D.bl = some z := e
    unfold deq at e
    split at e
    · rename_i f
      cases e
      rw [Bool.and_eq_true] at f
      exact op_eqD (by omega) pins s σ H _ _ _ _ Q I r1 r2 ⟨_, _, hx.dp sub f.1, hy.dp sub f.2, f.1, f.2, g.same (.bl _)⟩
    · cases e
  | ne =>
    have e : ((deq x y).map fun b => D.bl (!b)) = some z := e
    unfold deq at e
    split at e
    · rename_i f
      cases e
      rw [Bool.and_eq_true] at f
      exact op_neD (by omega) pins s σ H _ _ _ _ Q I r1 r2 ⟨_, _, hx.dp sub f.1, hy.dp sub f.2, f.1, f.2, g.same (.bl _)⟩
    · cases e
  | lt =>
    obtain ⟨i, j, rfl, rfl, e2⟩ : ∃ i j, x = .int i ∧ y = .int j ∧ z = .bl (decide (i < j)) := by
      cases x <;> first | (cases e; done) | (cases y <;> first | (cases e; done) | (cases e; exact ⟨_, _, rfl, rfl, rfl⟩))
    subst e2
    cases hx.int_
    cases hy.int_
    exact op_lt pins s σ H _ _ _ _ Q I r1 r2 ⟨i, j, rfl, rfl, g.same (.bl _)⟩
  | le =>
    obtain ⟨i, j, rfl, rfl, e2⟩ : ∃ i j, x = .int i ∧ y = .int j ∧ z = .bl (decide (i ≤ j)) := by
      cases x <;> first | (cases e; done) | (cases y <;> first | (cases e; done) | (cases e; exact ⟨_, _, rfl, rfl, rfl⟩))
    subst e2
    cases hx.int_
    cases hy.int_
    exact op_le pins s σ H _ _ _ _ Q I r1 r2 ⟨i, j, rfl, rfl, g.same (.bl _)⟩
  | gt =>
    obtain ⟨i, j, rfl, rfl, e2⟩ : ∃ i j, x = .int i ∧ y = .int j ∧ z = .bl (decide (j < i)) := by
      cases x <;> first | (cases e; done) | (cases y <;> first | (cases e; done) | (cases e; exact ⟨_, _, rfl, rfl, rfl⟩))
    subst e2
    cases hx.int_
    cases hy.int_
    exact op_gt pins s σ H _ _ _ _ Q I r1 r2 ⟨i, j, rfl, rfl, g.same (.bl _)⟩
  | ge =>
    obtain ⟨i, j, rfl, rfl, e2⟩ : ∃ i j, x = .int i ∧ y = .int j ∧ z = .bl (decide (j ≤ i)) := by
      cases x <;> first | (cases e; done) | (cases y <;> first | (cases e; done) | (cases e; exact ⟨_, _, rfl, rfl, rfl⟩))
    subst e2
    cases hx.int_
    cases hy.int_
    exact op_ge pins s σ H _ _ _ _ Q I r1 r2 ⟨i, j, rfl, rfl, g.same (.bl _)⟩
  | isin =>
    have e : (isIn x y).map D.bl = some z := e
    cases hb : isIn x y with
    | none => rw [hb] at e; cases e
    | some b =>
      rw [hb] at e
      cases e
      exact in_ok false hu I r1 r2 sub hx hy hb (g.same (.bl _))
  | notin =>
    have e : ((isIn x y).map fun b => D.bl (!b)) = some z := e
    cases hb : isIn x y with
    | none => rw [hb] at e; cases e
    | some b =>
      rw [hb] at e
      cases e
      exact in_ok true hu I r1 r2 sub hx hy hb (g.same (.bl _))
  | is =>
    cases y with
    | non =>
      cases hy.non_
      have hz : z = .bl (decide (v = .non)) := by
        cases e
        cases x with
        | non => cases hx.non_; rfl
        | bl b => cases hx.bl_; rfl
        | int b => cases hx.int_; rfl
        | str b => cases hx.str_.1; rfl
        | lst ds => obtain ⟨a, vs, rfl, _⟩ := hx.lst_ sub; rfl
        | tup ds => obtain ⟨a, vs, rfl, _⟩ := hx.tup_ sub; rfl
        | dic ds => obtain ⟨a, vs, rfl, _⟩ := hx.dic_ sub; rfl
        | own i => exact hx.own_.elim
      subst hz
      exact op_isN pins s σ H _ _ _ _ Q I r1 r2 ⟨rfl, g.same (.bl _)⟩
    | bl b =>
      cases x with
      | bl a =>
        cases e
        cases hx.bl_
        cases hy.bl_
        exact op_is_bl pins s σ H _ _ _ _ Q I r1 r2 ⟨a, b, rfl, rfl, g.same (.bl _)⟩
      | _ => cases e
    | _ => cases x <;> cases e
  | isnot =>
    cases y with
    | non =>
      cases hy.non_
      have hz : z = .bl (!decide (v = .non)) := by
        cases e
        cases x with
        | non => cases hx.non_; rfl
        | bl b => cases hx.bl_; rfl
        | int b => cases hx.int_; rfl
        | str b => cases hx.str_.1; rfl
        | lst ds => obtain ⟨a, vs, rfl, _⟩ := hx.lst_ sub; rfl
        | tup ds => obtain ⟨a, vs, rfl, _⟩ := hx.tup_ sub; rfl
        | dic ds => obtain ⟨a, vs, rfl, _⟩ := hx.dic_ sub; rfl
        | own i => exact hx.own_.elim
      subst hz
      exact op_notN pins s σ H _ _ _ _ Q I r1 r2 ⟨rfl, g.same (.bl _)⟩
    | bl b =>
      cases x with
      | bl a =>
        cases e
        cases hx.bl_
        cases hy.bl_
        exact op_isnot_bl pins s σ H _ _ _ _ Q I r1 r2 ⟨a, b, rfl, rfl, g.same (.bl _)⟩
      | _ => cases e
    | _ => cases x <;> cases e
end
end Mi
end

section
set_option Elab.async false
set_option linter.all false
set_option maxRecDepth 100000
set_option maxHeartbeats 4000000
set_option autoImplicit false
/-! Mi6: items, slices, built-in functions by values. -/
namespace Mi
open PySem L2 PySem.Spec PyProof.Rows
variable [TbT]
/-! ### sorting texts -/
theorem leS_total (x y : Str) : (leS x y || leS y x) = true := by
  unfold leS
  by_cases h : y.cps.toList < x.cps.toList
  · have h2 : ¬ x.cps.toList < y.cps.toList := List.lt_asymm h
    simp [h, h2]
  · simp [h]
theorem leS_trans (x y z : Str) (h1 : leS x y = true) (h2 : leS y z = true) : leS x z = true := by
  unfold leS at *
  simp only [Bool.not_eq_true', decide_eq_false_iff_not] at *
  exact fun h => h1 (by
    have a : ¬ z.cps.toList < y.cps.toList := h2
    have b : y.cps.toList ≤ z.cps.toList := List.not_lt.mp a
    exact List.lt_of_le_of_lt b h)
theorem leS_anti (x y : Str) (h1 : leS x y = true) (h2 : leS y x = true) : x = y := by
  unfold leS at *
  simp only [Bool.not_eq_true', decide_eq_false_iff_not] at *
  have e : x.cps.toList = y.cps.toList := List.le_antisymm (List.not_lt.mp h1) (List.not_lt.mp h2)
  obtain ⟨a⟩ := x
  obtain ⟨b⟩ := y
  have e' : a = b := Array.toList_inj.mp e
  rw [e']
theorem risingS_pw : ∀ (p : Str) (l : List Str), risingS p l = true → (p :: l).Pairwise fun a b => leS a b = true
  | p, [], _ => List.pairwise_singleton _ _
  | p, x :: r, h => by
    have h' : (!ltCps x.cps.toList p.cps.toList && risingS x r) = true := h
    rw [Bool.and_eq_true] at h'
    have h1 : leS p x = true := by
      unfold leS
      rw [← ltCps_eq]
      exact h'.1
    have ih := risingS_pw x r h'.2
    refine List.pairwise_cons.mpr ⟨fun y hy => ?_, ih⟩
    rcases List.mem_cons.mp hy with e | hy
    · rw [e]; exact h1
    · exact leS_trans _ _ _ h1 ((List.pairwise_cons.mp ih).1 y hy)
theorem sortedS_pw (l : List Str) (h : sortedS l = true) : l.Pairwise fun a b => leS a b = true := by
  cases l with
  | nil => exact List.Pairwise.nil
  | cons x r => exact risingS_pw x r h
theorem pw_unique : ∀ {l m : List Str}, l.Perm m → (l.Pairwise fun a b => leS a b = true) → (m.Pairwise fun a b => leS a b = true) → l = m
  | [], m, p, _, _ => p.nil_eq
  | x :: l, m, p, h1, h2 => by
    cases m with
    | nil => exact absurd p.symm.nil_eq (by simp)
    | cons y m =>
      have exy : x = y := by
        have hx : x ∈ y :: m := p.mem_iff.mp List.mem_cons_self
        have hy : y ∈ x :: l := p.mem_iff.mpr List.mem_cons_self
        rcases List.mem_cons.mp hx with e | hx
        · exact e
        · rcases List.mem_cons.mp hy with e | hy
          · exact e.symm
          · exact leS_anti _ _ ((List.pairwise_cons.mp h1).1 y hy) ((List.pairwise_cons.mp h2).1 x hx)
      subst exy
      rw [pw_unique (List.perm_cons _ |>.mp p) (List.pairwise_cons.mp h1).2 (List.pairwise_cons.mp h2).2]
theorem sortS_unique {ys xs : List Str} (p : ys.Perm xs) (h : sortedS ys = true) : ys = sortS xs :=
  pw_unique (p.trans (List.mergeSort_perm xs leS).symm) (sortedS_pw ys h) (List.pairwise_mergeSort leS_trans leS_total xs)
/-! ### lists of one kind -/
section
variable {K : PySem.W.Frag} {F : Fp} {H : Hp}
theorem strsOf_reps : ∀ {ds : List D} {vs : List V} {ys : List Str}, Reps K F vs ds → strsOf ds = some ys → vs = ys.map V.str ∧ ds = ys.map D.str ∧ ∀ y ∈ ys, y.length ≤ sizeLine
  | [], [], ys, _, e => by cases e; exact ⟨rfl, rfl, by simp⟩
  | [], _ :: _, _, h, _ => by cases h
  | _ :: _, [], _, h, _ => by cases h
  | d :: ds, v :: vs, ys, h, e => by
    cases d with
    | str x =>
      cases h with
      | cons h r =>
        have e' : (strsOf ds).map (x :: ·) = some ys := e
        cases q : strsOf ds with
        | none => rw [q] at e'; cases e'
        | some zs =>
          rw [q] at e'
          cases e'
          obtain ⟨h1, h2, h3⟩ := strsOf_reps r q
          cases h with
          | str _ hx =>
            refine ⟨by rw [h1]; rfl, by rw [h2]; rfl, fun y hy => ?_⟩
            rcases List.mem_cons.mp hy with z | z
            · rw [z]; exact hx
            · exact h3 y z
    | _ => cases e
theorem reps_strs : ∀ {ys : List Str}, (∀ y ∈ ys, y.length ≤ sizeLine) → Reps K F (ys.map V.str) (ys.map D.str)
  | [], _ => .nil
  | y :: ys, h => .cons (.str _ (h y List.mem_cons_self)) (reps_strs fun z hz => h z (List.mem_cons_of_mem _ hz))
theorem boolsOf_reps : ∀ {ds : List D} {vs : List V} {ys : List Bool}, Reps K F vs ds → boolsOf ds = some ys → vs = ys.map V.bl
  | [], [], ys, _, e => by cases e; rfl
  | [], _ :: _, _, h, _ => by cases h
  | _ :: _, [], _, h, _ => by cases h
  | d :: ds, v :: vs, ys, h, e => by
    cases d with
    | bl x =>
      cases h with
      | cons h r =>
        have e' : (boolsOf ds).map (x :: ·) = some ys := e
        cases q : boolsOf ds with
        | none => rw [q] at e'; cases e'
        | some zs =>
          rw [q] at e'
          cases e'
          cases h
          rw [boolsOf_reps r q]
          rfl
    | _ => cases e
theorem keys_reps : ∀ {kvs : List (Key × V)} {ks : List (Key × D)}, RepK K F kvs ks → Reps K F (kvs.map fun kv => kV kv.1) (ks.map fun kv => kd kv.1)
  | [], [], _ => .nil
  | [], _ :: _, h => by cases h
  | _ :: _, [], h => by cases h
  | _ :: _, (k, _) :: _, h => by
    cases h with
    | cons hk _ r => exact .cons (keyRep k hk) (keys_reps r)
inductive RepHs (K : PySem.W.Frag) (F : Fp) (H : Hp) : List V → List D → Prop
  | nil : RepHs K F H [] []
  | cons {v : V} {d : D} {vs : List V} {ds : List D} : RepH K F H v d → RepHs K F H vs ds → RepHs K F H (v :: vs) (d :: ds)
theorem RepHs.length : ∀ {vs : List V} {ds : List D}, RepHs K F H vs ds → vs.length = ds.length
  | _, _, .nil => rfl
  | _, _, .cons _ r => congrArg (· + 1) (RepHs.length r)
theorem RepHs.one {vs : List V} {d : D} (h : RepHs K F H vs [d]) : ∃ v, vs = [v] ∧ RepH K F H v d := by
  cases h with
  | cons h r => cases r; exact ⟨_, rfl, h⟩
theorem RepHs.two {vs : List V} {d d' : D} (h : RepHs K F H vs [d, d']) : ∃ v v', vs = [v, v'] ∧ RepH K F H v d ∧ RepH K F H v' d' := by
  cases h with
  | cons h r =>
    obtain ⟨v', rfl, h'⟩ := r.one
    exact ⟨_, _, rfl, h, h'⟩
end
section
variable {X : Cx}
/-! ### items -/
def rIxM (K : PySem.W.Frag) : R2 := fun v u H Q => ∃ F x y z, Le F.h H ∧ RepH K F H v x ∧ RepH K F H u y ∧ Mi.ix x y = some z ∧ Go K F H Q z
theorem atI_map {α : Type} {xs : List α} {i : Int} {z : α} (h : atI xs i = some z) : ∃ j : Nat, xs[j]? = some z ∧ ∀ {β : Type} (ys : List β), ys.length = xs.length → atI ys i = ys[j]? := by
  unfold atI at h
  cases q : ixN xs.length i with
  | none => rw [q] at h; cases h
  | some j =>
    rw [q] at h
    refine ⟨j, h, fun ys e => ?_⟩
    unfold atI
    rw [e, q]
    rfl
theorem Reps.atI {K : PySem.W.Frag} {F : Fp} {vs : List V} {ds : List D} (r : Reps K F vs ds) {i : Int} {z : D} (h : L2.atI ds i = some z) : ∃ w, L2.atI vs i = some w ∧ Rep K F w z := by
  obtain ⟨j, h1, h2⟩ := atI_map h
  obtain ⟨w, h3, h4⟩ := r.get h1
  exact ⟨w, by rw [h2 vs r.length]; exact h3, h4⟩
theorem ix_any (hu : X.A.units + 1 < cLine) : IxR X (rIxM X.K) := by
  intro value slice pins s σ H v u v' u' Q I r1 r2 h hs
  obtain ⟨F, x, y, z, sub, hx, hy, e, g⟩ := h
  cases x with
  | lst ds => cases y with
    | int i =>
      cases hy.int_
      obtain ⟨a, vs, rfl, s1, q1⟩ := hx.lst_ sub
      obtain ⟨w, h1, h2⟩ := q1.atI (show L2.atI ds i = some z from e)
      exact ix_seq value slice pins s σ H _ _ _ _ Q I r1 r2 (.inl ⟨a, vs, i, w, rfl, rfl, s1, h1, g.same h2⟩) hs
    | _ => cases e
  | tup ds => cases y with
    | int i =>
      cases hy.int_
      obtain ⟨a, vs, rfl, s1, q1⟩ := hx.tup_ sub
      obtain ⟨w, h1, h2⟩ := q1.atI (show L2.atI ds i = some z from e)
      exact ix_seq value slice pins s σ H _ _ _ _ Q I r1 r2 (.inr (.inl ⟨a, vs, i, w, rfl, rfl, s1, h1, g.same h2⟩)) hs
    | _ => cases e
  | str t => cases y with
    | int i =>
      cases hy.int_
      obtain ⟨rfl, ht⟩ := hx.str_
      have e : (L2.atI t.cps.toList i).map (fun c => D.str ⟨#[c]⟩) = some z := e
      cases q : L2.atI t.cps.toList i with
      | none => rw [q] at e; cases e
      | some c =>
        rw [q] at e
        cases e
        exact ix_seq value slice pins s σ H _ _ _ _ Q I r1 r2 (.inr (.inr ⟨t, i, c, rfl, rfl, ht, q, g.same (.str _ (by show 1 ≤ sizeLine; decide))⟩)) hs
    | _ => cases e
  | dic ks =>
    have e : (dk y).bind (fun k => dget ks k) = some z := by cases y <;> exact e
    cases hk : dk y with
    | none => rw [hk] at e; cases e
    | some k =>
      rw [hk] at e
      rw [dk_eq hk] at hy
      cases Rep.key hy
      obtain ⟨a, kvs, rfl, s1, q1⟩ := hx.dic_ sub
      obtain ⟨w, h1, h2⟩ := q1.get_some (show dget ks k = some z from e)
      cases (show v' = Value.ref a from r1)
      have gg : DGet H a (kV k) (some w) := by rw [← h1]; exact DGet.k s1
      exact tail_any (dict_typeIs I gg) PySem.F.slot_dict_getitem.lookup (d_getItem hu I gg r2 fun w' s3 I3 rw' => ⟨w, H, I3, rw', g.same h2⟩) hs
  | _ => cases y <;> cases e
/-! ### slices -/
def rSlM (K : PySem.W.Frag) : V → Option Int → Option Int → Hp → VK → Prop := fun v lo hi H Q => ∃ F x z, Le F.h H ∧ RepH K F H v x ∧ Mi.slc x lo hi = some z ∧ Go K F H Q z
theorem reps_cut {K : PySem.W.Frag} {F : Fp} {vs : List V} {ds : List D} (r : Reps K F vs ds) (lo hi : Option Int) : Reps K F (cutV vs lo hi) (cut ds lo hi) := by
  unfold cutV cut
  rw [r.length]
  exact (r.drop _).take _
theorem sl_any : SlR X (rSlM X.K) := by
  intro pins s σ H v v' vl vu lo hi sl Q I r1 hs pl pu h
  obtain ⟨F, x, z, sub, hx, e, g⟩ := h
  cases x with
  | lst ds =>
    cases e
    obtain ⟨a, vs, rfl, s1, q1⟩ := hx.lst_ sub
    exact sl_list pins s σ H _ _ vl vu lo hi sl Q I r1 hs pl pu ⟨a, vs, rfl, s1, g.newL sub (reps_cut q1 lo hi)⟩
  | tup ds =>
    cases e
    obtain ⟨a, vs, rfl, s1, q1⟩ := hx.tup_ sub
    have tx : Rep X.K F (.ref a) (.tup ds) := by cases hx with | tree _ r => exact r
    refine sl_tupA pins s σ H _ _ vl vu lo hi sl Q I r1 hs pl pu ⟨a, vs, rfl, s1, fun w => ?_, fun _ => g.newT sub (reps_cut q1 lo hi)⟩
    have ec : cut ds lo hi = ds := by
      unfold cut
      rw [← q1.length, w.1, w.2, q1.length]
      simp
    rw [ec] at g
    exact g.same tx
  | str t =>
    cases e
    obtain ⟨rfl, ht⟩ := hx.str_
    refine sl_str pins s σ H _ _ vl vu lo hi sl Q I r1 hs pl pu ⟨t, rfl, ht, g.same (.str _ ?_)⟩
    show (List.toArray _).size ≤ _
    rw [List.size_toArray, List.length_take, List.length_drop]
    have : t.cps.toList.length = t.length := by simp [Str.length]
    omega
  | _ => cases e
end
end Mi
end

section
set_option Elab.async false
set_option linter.all false
set_option maxRecDepth 100000
set_option maxHeartbeats 4000000
set_option autoImplicit false
/-! Mi7: built-in functions and methods by values. -/
namespace Mi
open PySem L2 PySem.Spec PyProof.Rows
variable [TbT]
section
variable {X : Cx}
def rBi (K : PySem.W.Frag) (b : BI) : List V → Hp → VK → Prop := fun vs H Q => ∃ F ds z, Le F.h H ∧ RepHs K F H vs ds ∧ Mi.bi b ds = some z ∧ Go K F H Q z
theorem one_inv {f : D → Option D} {ds : List D} {z : D} (e : one f ds = some z) : ∃ d, ds = [d] ∧ f d = some z := by
  match ds, e with
  | [d], e => exact ⟨d, rfl, e⟩
theorem two_inv {f : D → D → Option D} {ds : List D} {z : D} (e : two f ds = some z) : ∃ d d', ds = [d, d'] ∧ f d d' = some z := by
  match ds, e with
  | [d, d'], e => exact ⟨d, d', rfl, e⟩
theorem cb_len : CallR X (.builtin "len") (rBi X.K .len) := by
  intro pins s σ H vs us Q I r h
  obtain ⟨F, ds, z, sub, hd, e, g⟩ := h
  obtain ⟨d, rfl, e⟩ := one_inv e
  obtain ⟨v, rfl, hv⟩ := hd.one
  cases d with
  | lst xs =>
    cases e
    obtain ⟨a, ws, rfl, s1, q1⟩ := hv.lst_ sub
    exact call_len_seq pins s σ H _ _ Q I r ⟨a, ws, rfl, .inl s1, by rw [q1.length]; exact g.same (.int _)⟩
  | tup xs =>
    cases e
    obtain ⟨a, ws, rfl, s1, q1⟩ := hv.tup_ sub
    exact call_len_seq pins s σ H _ _ Q I r ⟨a, ws, rfl, .inr s1, by rw [q1.length]; exact g.same (.int _)⟩
  | str x =>
    cases e
    obtain ⟨rfl, hx⟩ := hv.str_
    exact call_len_str pins s σ H _ _ Q I r ⟨x, rfl, hx, g.same (.int _)⟩
  | dic ks =>
    cases e
    obtain ⟨a, ws, rfl, s1, q1⟩ := hv.dic_ sub
    exact call_lenD pins s σ H _ _ Q I r ⟨a, ws, rfl, s1, by rw [q1.length]; exact g.same (.int _)⟩
  | _ => cases e
theorem cb_list (hc : X.calm = true) : CallR X (.type "list") (rBi X.K .list) := by
  intro pins s σ H vs us Q I r h
  obtain ⟨F, ds, z, sub, hd, e, g⟩ := h
  obtain ⟨d, rfl, e⟩ := one_inv e
  obtain ⟨v, rfl, hv⟩ := hd.one
  cases d with
  | lst xs =>
    cases e
    obtain ⟨a, ws, rfl, s1, q1⟩ := hv.lst_ sub
    exact call_list_of pins s σ H _ _ Q I r ⟨a, ws, rfl, .inl s1, g.newL sub q1⟩
  | tup xs =>
    cases e
    obtain ⟨a, ws, rfl, s1, q1⟩ := hv.tup_ sub
    exact call_list_of pins s σ H _ _ Q I r ⟨a, ws, rfl, .inr s1, g.newL sub q1⟩
  | dic ks =>
    cases e
    obtain ⟨a, ws, rfl, s1, q1⟩ := hv.dic_ sub
    exact call_listD hc pins s σ H _ _ Q I r ⟨a, ws, rfl, .of s1, g.newL sub (keys_reps q1)⟩
  | _ => cases e
theorem cb_tuple : CallR X (.type "tuple") (rBi X.K .tuple) := by
  intro pins s σ H vs us Q I r h
  obtain ⟨F, ds, z, sub, hd, e, g⟩ := h
  obtain ⟨d, rfl, e⟩ := one_inv e
  obtain ⟨v, rfl, hv⟩ := hd.one
  cases d with
  | lst xs =>
    cases e
    obtain ⟨a, ws, rfl, s1, q1⟩ := hv.lst_ sub
    exact call_tuple_of pins s σ H _ _ Q I r ⟨a, ws, rfl, .inl ⟨s1, g.newT sub q1⟩⟩
  | tup xs =>
    cases e
    obtain ⟨a, ws, rfl, s1, q1⟩ := hv.tup_ sub
    have tx : Rep X.K F (.ref a) (.tup xs) := by cases hv with | tree _ r => exact r
    exact call_tuple_of pins s σ H _ _ Q I r ⟨a, ws, rfl, .inr ⟨s1, g.same tx⟩⟩
  | _ => cases e
theorem pairs_inv {d : D} {ds : List D} {ks : List (Key × D)} (e : pairsOf (d :: ds) = some ks) : ∃ k k' x r, d = .tup [k, x] ∧ dk k = some k' ∧ pairsOf ds = some r ∧ ks = (k', x) :: r := by
  unfold pairsOf at e
  split at e
  · rename_i q; cases q
  · rename_i k x r q
    injection q with q1 q2
    subst q1 q2
    cases hk : dk k with
    | none => rw [hk] at e; cases e
    | some k' =>
      rw [hk] at e
      have e' : (pairsOf ds).map ((k', x) :: ·) = some ks := e
      cases q : pairsOf ds with
      | none => rw [q] at e'; cases e'
      | some ks' =>
        rw [q] at e'
        cases e'
        exact ⟨k, k', x, ks', rfl, hk, rfl, rfl⟩
  · cases e
theorem pairs_reps {K : PySem.W.Frag} {F : Fp} {H : Hp} (sub : Le F.h H) : ∀ {ds : List D} {vs : List V} {ks : List (Key × D)}, Reps K F vs ds → pairsOf ds = some ks →
    ∃ (ps : List Addr) (kvs : List (Key × V)), vs = ps.map V.ref ∧ Paired (fun p kv => SqT K H p [kV kv.1, kv.2]) ps kvs ∧ RepK K F kvs ks
  | [], [], ks, _, e => by cases e; exact ⟨[], [], rfl, .nil, .nil⟩
  | [], _ :: _, _, h, _ => by cases h
  | _ :: _, [], _, h, _ => by cases h
  | d :: ds, v :: vs, ks, h, e => by
    obtain ⟨k, k', x, r, rfl, hk, q, rfl⟩ := pairs_inv e
    cases h with
    | cons h t =>
      obtain ⟨ps, kvs, h1, h2, h3⟩ := pairs_reps sub t q
      cases h with
      | tup s1 q1 =>
        rename_i a xs
        cases q1 with
        | cons hu q1 =>
          cases q1 with
          | cons hw q1 =>
            cases q1
            rw [dk_eq hk] at hu
            have eu := Rep.key (RepH.tree (H := H) (by cases k' <;> rfl) hu)
            subst eu
            refine ⟨a :: ps, (k', _) :: kvs, by rw [h1]; rfl, .cons (sqT_le sub s1) h2, .cons (fun y ey => ?_) hw h3⟩
            subst ey
            cases hu with
            | str _ hy => exact hy
theorem cb_dict (hc : X.calm = true) : CallR X (.type "dict") (rBi X.K .dict) := by
  intro pins s σ H vs us Q I r h
  obtain ⟨F, ds, z, sub, hd, e, g⟩ := h
  obtain ⟨d, rfl, e⟩ := one_inv e
  obtain ⟨v, rfl, hv⟩ := hd.one
  cases d with
  | lst xs =>
    have e : (pairsOf xs).map (fun kvs => D.dic (dmerge [] kvs)) = some z := e
    cases q : pairsOf xs with
    | none => rw [q] at e; cases e
    | some ks =>
      rw [q] at e
      cases e
      obtain ⟨a, ws, rfl, s1, q1⟩ := hv.lst_ sub
      obtain ⟨ps, kvs, rfl, h2, h3⟩ := pairs_reps sub q1 q
      exact call_dictP hc pins s σ H _ _ Q I r ⟨a, ps, kvs, rfl, s1, h2, g.newK sub (RepK.merge h3 .nil)⟩
  | _ => cases e
/-- sorted(t), a tuple of texts -/
theorem cr_sortedTS : CallR X (.builtin "sorted") (fun xs H Q => ∃ (a : Addr) (ks : List Str), xs = [.ref a] ∧ SqT X.K H a (ks.map V.str) ∧ ks.length < 64 ∧
    ∀ ys p, ys.Perm ks → sortedS ys = true → H p = none → Q (.ref p) (upd H p (.lst (ys.map V.str)))) := by
  intro pins s σ H xs us Q I r q
  obtain ⟨a, ks, ex, hd, h64, q⟩ := q
  subst ex
  obtain ⟨u, eu, rx⟩ := vals1 r
  subst eu
  cases rx
  obtain ⟨its, rv, ⟨o, ho, hc, n, hdt⟩, hz⟩ := I.tuple hd
  have hS := rv.strs
  have hl := rv.length
  rw [List.length_map] at hl
  have h16 : its.toArray.size ≤ sizeLine := by rw [List.size_toArray, ← hl, sizeLine_eq]; omega
  refine Calls.call_function_entry PyProof.Rows.kind_sorted PyProof.Rows.plain_sorted PyProof.Rows.entry_sorted (PyProof.Rows.args_sorted1 _) ?_
  unfold Builtin.«sorted»
  refine wpAny_bind (m := checkCount "sorted" 1 1 _) (wpAny_pure ?_)
  refine wpAny_bind (wpAny_collect_seq (A := X.A.in1) a (.inr rfl) ho hc hdt (fun h' hk => ?_) h16)
  have e0 : its.toArray.toList = its := by simp
  rw [e0]
  have I1 : Inv X pins σ H { s with heap := h' } := I.kept (t' := s.toks) hk
  refine wpAny_bind (wpAny_newList ?_ (by rw [← hl, sizeLine_eq]; omega))
  have hoL : (h'.push (seqObj "list" its.toArray 0)).get? h'.objs.size = some (seqObj "list" its.toArray 0) := Heap.get?_push_size _ rfl
  show wpAny _ _ _ _ _ { s with heap := h'.push (seqObj "list" its.toArray 0) }
  refine wpAny_bind (wpAny_holding (wpAny_call_entry PyProof.Rows.slot_list_sort ⟨_, hoL, rfl⟩ PyProof.Rows.entry_list_sort
    (list_sort_treeK strKind_oneLt (s := { s with heap := h'.push (seqObj "list" its.toArray 0) }) hoL hS.keysOf (fun v₁ v₂ rest e => keyKind_strs (by rw [← e]; exact hS)) (by rw [← hl]; exact h64) fun st' hp hs => ⟨_, rfl, ?_⟩)
    (PyProof.Rows.args_list_sort _)))
  obtain ⟨ys, g1, g2, g3⟩ := sorted_out_str hS hp hs
  obtain ⟨e', he'⟩ := PyProof.Rows.sortedHeap_at (vs := its) (out := (arrOf st').map (·.2)) hoL
  have hlen : (ys.map V.str).length ≤ sizeLine := by
    rw [List.length_map, g2.length_eq]
    exact Nat.le_trans (Nat.le_of_lt h64) (by decide)
  refine wpAny_pure ⟨_, rfl, .ref h'.objs.size, upd H h'.objs.size (.lst (ys.map V.str)), I1.laid (t' := s.toks) (fun b u e => ?_) (Nat.le_refl _)
    (show ObjOk X.prog X.w _ _ _ (.lst (ys.map V.str)) from ⟨hlen, ((arrOf st').map (·.2)).toList, e', vals_of_strs g1, by rw [Array.toArray_toList]; exact he'⟩), rfl, q ys _ g2 g3 (I1.hok.fresh (Nat.le_refl _))⟩
  have hb : b < h'.objs.size := Heap.lt_size e
  rw [PyProof.Rows.sortedHeap_old (Nat.ne_of_lt hb) (by rw [size_push']; exact Nat.lt_succ_of_lt hb)]
  exact Heap.get?_push_of_some _ e
theorem cb_sorted (hc : X.calm = true) : CallR X (.builtin "sorted") (rBi X.K .sorted) := by
  intro pins s σ H vs us Q I r h
  obtain ⟨F, ds, z, sub, hd, e, g⟩ := h
  obtain ⟨d, rfl, e⟩ := one_inv e
  obtain ⟨v, rfl, hv⟩ := hd.one
  have inv : ∀ {xs : List D}, sortedL xs = some z → ∃ ys, strsOf xs = some ys ∧ ys.length < 64 ∧ z = .lst ((sortS ys).map D.str) := fun {xs} e => by
    unfold sortedL at e
    cases q : strsOf xs with
    | none => rw [q] at e; cases e
    | some ys =>
      rw [q] at e
      have e : (if ys.length < 64 then some (D.lst ((sortS ys).map D.str)) else none) = some z := e
      split at e <;> cases e
      exact ⟨ys, rfl, by assumption, rfl⟩
  cases d with
  | lst xs =>
    obtain ⟨ys, q, hl, rfl⟩ := inv (show sortedL xs = some z from e)
    obtain ⟨a, ws, rfl, s1, q1⟩ := hv.lst_ sub
    obtain ⟨h1, h2, h3⟩ := strsOf_reps q1 q
    subst h1
    refine cr_sortedS pins s σ H _ _ Q I r ⟨a, ys, rfl, s1, hl, fun zs p hp hz hn => ?_⟩
    rw [sortS_unique hp hz]
    exact g.newL sub (reps_strs fun y hy => h3 y ((List.mergeSort_perm ys leS).mem_iff.mp hy)) p hn
  | dic ks =>
    obtain ⟨ys, q, hl, rfl⟩ := inv (show sortedL (ks.map fun kv => kd kv.1) = some z from e)
    obtain ⟨a, ws, rfl, s1, q1⟩ := hv.dic_ sub
    obtain ⟨h1, h2, h3⟩ := strsOf_reps (keys_reps q1) q
    have hk : ∀ {l : List (Key × V)} {zs : List Str}, (l.map fun kv => kV kv.1) = zs.map V.str → l.map (·.1) = zs.map Sum.inr := by
      intro l
      induction l with
      | nil => intro zs e; cases zs with
        | nil => rfl
        | cons _ _ => cases e
      | cons p l ih =>
        intro zs e
        cases zs with
        | nil => cases e
        | cons z zs =>
          rw [List.map_cons, List.map_cons] at e
          injection e with e1 e2
          rw [List.map_cons, List.map_cons, ih e2]
          obtain ⟨k, v⟩ := p
          cases k with
          | inl i => cases e1
          | inr x => cases e1; rfl
    refine call_sortedD hc pins s σ H _ _ Q I r ⟨a, ws, ys, rfl, .of s1, hk h1, hl, fun zs p hp hz hn => ?_⟩
    rw [sortS_unique hp hz]
    exact g.newL sub (reps_strs fun y hy => h3 y ((List.mergeSort_perm ys leS).mem_iff.mp hy)) p hn
  | tup xs =>
    obtain ⟨ys, q, hl, rfl⟩ := inv (show sortedL xs = some z from e)
    obtain ⟨a, ws, rfl, s1, q1⟩ := hv.tup_ sub
    obtain ⟨h1, h2, h3⟩ := strsOf_reps q1 q
    subst h1
    refine cr_sortedTS pins s σ H _ _ Q I r ⟨a, ys, rfl, s1, hl, fun zs p hp hz hn => ?_⟩
    rw [sortS_unique hp hz]
    exact g.newL sub (reps_strs fun y hy => h3 y ((List.mergeSort_perm ys leS).mem_iff.mp hy)) p hn
  | _ => cases e
theorem cb_all (hc : X.calm = true) : CallR X (.builtin "all") (rBi X.K .all) := by
  intro pins s σ H vs us Q I r h
  obtain ⟨F, ds, z, sub, hd, e, g⟩ := h
  obtain ⟨d, rfl, e⟩ := one_inv e
  obtain ⟨v, rfl, hv⟩ := hd.one
  cases d with
  | lst xs =>
    have e : (boolsOf xs).map (fun bs => D.bl (bs.all id)) = some z := e
    cases q : boolsOf xs with
    | none => rw [q] at e; cases e
    | some bs =>
      rw [q] at e
      cases e
      obtain ⟨a, ws, rfl, s1, q1⟩ := hv.lst_ sub
      have h1 := boolsOf_reps q1 q
      subst h1
      exact cr_all hc pins s σ H _ _ Q I r ⟨a, bs, rfl, s1, g.same (.bl _)⟩
  | _ => cases e
theorem cb_any (hc : X.calm = true) : CallR X (.builtin "any") (rBi X.K .any) := by
  intro pins s σ H vs us Q I r h
  obtain ⟨F, ds, z, sub, hd, e, g⟩ := h
  obtain ⟨d, rfl, e⟩ := one_inv e
  obtain ⟨v, rfl, hv⟩ := hd.one
  cases d with
  | lst xs =>
    have e : (boolsOf xs).map (fun bs => D.bl (bs.any id)) = some z := e
    cases q : boolsOf xs with
    | none => rw [q] at e; cases e
    | some bs =>
      rw [q] at e
      cases e
      obtain ⟨a, ws, rfl, s1, q1⟩ := hv.lst_ sub
      have h1 := boolsOf_reps q1 q
      subst h1
      exact cr_any hc pins s σ H _ _ Q I r ⟨a, bs, rfl, s1, g.same (.bl _)⟩
  | _ => cases e
theorem cb_min (hc : X.calm = true) : CallR X (.builtin "min") (rBi X.K .min) := by
  intro pins s σ H vs us Q I r h
  obtain ⟨F, ds, z, sub, hd, e, g⟩ := h
  obtain ⟨d, d', rfl, e⟩ := two_inv e
  obtain ⟨v, w, rfl, hv, hw⟩ := hd.two
  cases d with
  | int i => cases d' with
    | int j =>
      cases e
      cases hv.int_
      cases hw.int_
      exact call_min2 hc pins s σ H _ _ Q I r ⟨i, j, rfl, g.same (.int _)⟩
    | _ => cases e
  | _ => cases d' <;> cases e
theorem cb_max (hc : X.calm = true) : CallR X (.builtin "max") (rBi X.K .max) := by
  intro pins s σ H vs us Q I r h
  obtain ⟨F, ds, z, sub, hd, e, g⟩ := h
  obtain ⟨d, d', rfl, e⟩ := two_inv e
  obtain ⟨v, w, rfl, hv, hw⟩ := hd.two
  cases d with
  | int i => cases d' with
    | int j =>
      cases e
      cases hv.int_
      cases hw.int_
      exact call_max2 hc pins s σ H _ _ Q I r ⟨i, j, rfl, g.same (.int _)⟩
    | _ => cases e
  | _ => cases d' <;> cases e
end
end Mi
end

section
set_option Elab.async false
set_option linter.all false
set_option maxRecDepth 100000
set_option maxHeartbeats 4000000
set_option autoImplicit false
/-! Mi8: truth, isinstance, methods by values. -/
namespace Mi
open PySem L2 PySem.Spec PyProof.Rows
variable [TbT]
section
variable {K : PySem.W.Frag} {F : Fp} {H : Hp}
theorem RepH.tru (s : Le F.h H) {v : V} {d : D} {b : Bool} (h : RepH K F H v d) (e : truth d = some b) : TruV K v H b := by
  cases d with
  | non => cases e; cases h.non_; rfl
  | bl c => cases e; cases h.bl_; rfl
  | int i => cases e; cases h.int_; rfl
  | str x => cases e; obtain ⟨rfl, hx⟩ := h.str_; exact ⟨hx, rfl⟩
  | lst ds =>
    cases e
    obtain ⟨a, vs, rfl, s1, q1⟩ := h.lst_ s
    exact .inl ⟨vs, s1, by rw [q1.isEmpty]⟩
  | tup ds =>
    cases e
    obtain ⟨a, vs, rfl, s1, q1⟩ := h.tup_ s
    exact .inr (.inl ⟨vs, s1, by rw [q1.isEmpty]⟩)
  | dic ks =>
    cases e
    obtain ⟨a, vs, rfl, s1, q1⟩ := h.dic_ s
    exact .inr (.inr ⟨vs, s1, by rw [q1.isEmpty]⟩)
  | own i => cases e
/-! ### isinstance -/
def Ty.py : Ty → String
  | .int => "int"
  | .str => "str"
  | .bool => "bool"
  | .tuple => "tuple"
  | .list => "list"
  | .dict => "dict"
def tyName : D → String
  | .non => "NoneType"
  | .bl _ => "bool"
  | .int _ => "int"
  | .str _ => "str"
  | .lst _ => "list"
  | .tup _ => "tuple"
  | .dic _ => "dict"
  | .own _ => "object"
theorem kit_ty (K : PySem.W.Frag) (t : Ty) (d : D) (h : ∀ i, d ≠ .own i) : PySem.W.kitOne K (.type (tyName d)) (.type t.py) = some (isTy t d) := by
  cases d <;> first | exact absurd rfl (h _) | (cases t <;> rfl)
theorem RepH.tyX (s : Le F.h H) {v : V} {d : D} (h : RepH K F H v d) : TyX K H v (.type (tyName d)) := by
  cases d with
  | non => cases h.non_; exact .base .non
  | bl c => cases h.bl_; exact .base (.bl _)
  | int i => cases h.int_; exact .base (.int _)
  | str x => obtain ⟨rfl, hx⟩ := h.str_; exact .base (.str _)
  | lst ds =>
    obtain ⟨a, vs, rfl, s1, q1⟩ := h.lst_ s
    rcases s1 with (s1 | ⟨o, s1⟩) | ⟨o, its, n, hk, hc, _⟩
    · exact .base (.lst s1)
    · exact .base (.frz s1)
    · exact .kList hk hc
  | tup ds =>
    obtain ⟨a, vs, rfl, s1, q1⟩ := h.tup_ s
    rcases s1 with (s1 | ⟨o, s1⟩) | ⟨o, its, n, hk, hc, _⟩
    · exact .base (.tup s1)
    · exact .fTuple s1
    · exact .kTuple hk hc
  | dic ks =>
    obtain ⟨a, vs, rfl, s1, q1⟩ := h.dic_ s
    exact .base (.dK s1)
  | own i => exact h.own_.elim
end
section
variable {X : Cx}
/-! ### methods of texts -/
theorem sizes_eq (ys : List Str) : sizes ys = (ys.map (·.length)).sum := rfl
theorem join_len (x : Str) (ys : List Str) : (Txt.join x ys).length ≤ sizes ys + ys.length * x.length := by
  rw [TL.join_eq]
  exact StrLaws.join_length_le x ys
theorem spl_len (S : List Nat) : ∀ (l : List Nat) (k : Nat) (acc : List Nat), ∀ z ∈ TL.spl S k acc l, z.length ≤ acc.length + l.length
  | [], k, acc, z, h => by
    rw [TL.spl_nil] at h
    rw [List.mem_singleton.mp h]
    omega
  | c :: r, 0, acc, z, h => by
    have h : z ∈ (if TL.pre S (c :: r) = true then acc :: TL.spl S (S.length - 1) [] r else TL.spl S 0 (acc ++ [c]) r) := h
    rw [List.length_cons]
    split at h
    · rcases List.mem_cons.mp h with e | h
      · rw [e]; omega
      · have := spl_len S r _ _ z h
        rw [List.length_nil] at this
        omega
    · have := spl_len S r _ _ z h
      rw [List.length_append, List.length_singleton] at this
      omega
  | c :: r, k + 1, acc, z, h => by
    have := spl_len S r k acc z h
    rw [List.length_cons]
    omega
theorem split_len (x y : Str) (h : y.length ≠ 0) : ∀ z ∈ Txt.split x y, z.length ≤ x.length := by
  intro z hz
  have tl_len : ∀ z : Str, (TL.tl z).length = z.length := fun z => by simp [TL.tl, Str.length]
  have hy : TL.tl y ≠ [] := fun e => h (by rw [← tl_len, e]; rfl)
  by_cases hk : Builtin.Str.strKind x < Builtin.Str.strKind y
  · have e : Txt.split x y = [x] := by
      unfold Txt.split
      rw [decide_eq_true hk, Bool.or_true, if_pos rfl]
    rw [e] at hz
    rw [List.mem_singleton.mp hz]
    exact Nat.le_refl _
  · have e := TL.split_spl x y hy hk
    have h1 : TL.tl z ∈ (Txt.split x y).map TL.tl := List.mem_map_of_mem hz
    rw [e] at h1
    have h2 := spl_len _ _ _ _ _ h1
    rw [tl_len, tl_len, List.length_nil] at h2
    omega
theorem reps_one {K : PySem.W.Frag} {F : Fp} {vs : List V} {d : D} (h : Reps K F vs [d]) : ∃ v, vs = [v] ∧ Rep K F v d := by
  cases h with
  | cons h r => cases r; exact ⟨_, rfl, h⟩
theorem reps_two {K : PySem.W.Frag} {F : Fp} {vs : List V} {d d' : D} (h : Reps K F vs [d, d']) : ∃ v v', vs = [v, v'] ∧ Rep K F v d ∧ Rep K F v' d' := by
  cases h with
  | cons h r =>
    obtain ⟨v', rfl, h'⟩ := reps_one r
    exact ⟨_, _, rfl, h, h'⟩
def RepA (K : PySem.W.Frag) (F : Fp) (H : Hp) (m : Mt) (vs : List V) (ds : List D) : Prop := match m with
  | .join => RepHs K F H vs ds
  | _ => Reps K F vs ds
def rMt (K : PySem.W.Frag) (m : Mt) : V → List V → Hp → VK → Prop := fun v vs H Q => ∃ F x ds z, Le F.h H ∧ RepH K F H v x ∧ RepA K F H m vs ds ∧ Mi.mt m x ds = some z ∧ Go K F H Q z
theorem mr_split : MtR X "str.split" (rMt X.K .split) := by
  intro pins s σ H v vs v' us Q I r1 r2 h
  obtain ⟨F, x, ds, z, sub, hx, hd, e, g⟩ := h
  obtain ⟨d, rfl, e⟩ := one_inv (show one (splitD x) ds = some z from e)
  obtain ⟨w, rfl, hw⟩ := reps_one (show Reps X.K F vs [d] from hd)
  cases x with
  | str a => cases d with
    | str b =>
      have e2 : (if b.length ≠ 0 ∧ a.length + 2 ≤ sizeLine then some (D.lst ((Txt.split a b).map D.str)) else none) = some z := e
      clear e
      split at e2 <;> cases e2
      rename_i hz
      obtain ⟨rfl, ha⟩ := hx.str_
      cases hw with
      | str _ hb =>
      refine mt_split pins s σ H _ _ _ _ Q I r1 r2 ⟨a, b, rfl, rfl, by simpa using hz.1, hz.2, ?_⟩
      exact g.newL sub (reps_strs fun y hy => Nat.le_trans (split_len a b hz.1 y hy) ha)
    | _ => cases e
  | _ => cases d <;> cases e
theorem mr_join : MtR X "str.join" (rMt X.K .join) := by
  intro pins s σ H v vs v' us Q I r1 r2 h
  obtain ⟨F, x, ds, z, sub, hx, hd, e, g⟩ := h
  obtain ⟨d, rfl, e⟩ := one_inv (show one (joinD x) ds = some z from e)
  obtain ⟨w, rfl, hw⟩ := RepHs.one (show RepHs X.K F H vs [d] from hd)
  have inv : ∀ {a : Str} {xs : List D}, Mi.joinL a xs = some z → ∃ ys, strsOf xs = some ys ∧ sizes ys + ys.length * a.length ≤ 16777216 ∧ z = .str (Txt.join a ys) := fun {a xs} e => by
    unfold Mi.joinL at e
    cases q : strsOf xs with
    | none => rw [q] at e; cases e
    | some ys =>
      rw [q] at e
      have e : (if sizes ys + ys.length * a.length ≤ 16777216 then some (D.str (Txt.join a ys)) else none) = some z := e
      split at e <;> cases e
      exact ⟨ys, rfl, by assumption, rfl⟩
  have hz : ∀ (a : Str) (ys : List Str), sizes ys + ys.length * a.length ≤ 16777216 → (Txt.join a ys).length ≤ sizeLine := fun a ys h => by
    rw [sizeLine_eq]
    exact Nat.le_trans (join_len a ys) h
  cases x with
  | str a => cases d with
    | lst xs =>
      obtain ⟨ys, q, hl, rfl⟩ := inv (show Mi.joinL a xs = some z from e)
      obtain ⟨rfl, ha⟩ := hx.str_
      obtain ⟨p, ws, rfl, s1, q1⟩ := hw.lst_ sub
      obtain ⟨h1, h2, h3⟩ := strsOf_reps q1 q
      subst h1
      exact mt_join pins s σ H _ _ _ _ Q I r1 r2 ⟨a, p, ys, rfl, rfl, .inl s1, hl, g.same (.str _ (hz a ys hl))⟩
    | tup xs =>
      obtain ⟨ys, q, hl, rfl⟩ := inv (show Mi.joinL a xs = some z from e)
      obtain ⟨rfl, ha⟩ := hx.str_
      obtain ⟨p, ws, rfl, s1, q1⟩ := hw.tup_ sub
      obtain ⟨h1, h2, h3⟩ := strsOf_reps q1 q
      subst h1
      exact mt_join pins s σ H _ _ _ _ Q I r1 r2 ⟨a, p, ys, rfl, rfl, .inr s1, hl, g.same (.str _ (hz a ys hl))⟩
    | _ => cases e
  | _ => cases d <;> cases e
/-! ### methods that change a list -/
def rMu (K : PySem.W.Frag) (m : Mu) : V → List V → Hp → VK → Prop := fun v vs H Q => ∃ F a ho o ds z o', Le F.h H ∧ v = .ref a ∧ H a = some ho ∧ RepO K F ho o ∧ Reps K F vs ds ∧ Mi.mu m o ds = some (z, o') ∧
  ∀ w ho', RepO K F ho' o' → Rep K F w z → Q w (upd H a ho')
theorem mm_append : MtM X "list.append" (rMu X.K .append) := by
  intro pins s σ H v vs v' us Q I r1 r2 h
  obtain ⟨F, a, ho, o, ds, z, o', sub, rfl, ha, ro, hd, e, g⟩ := h
  match ds, hd, e with
  | [d], hd, e =>
    obtain ⟨w, rfl, hw⟩ := reps_one hd
    cases ro with
    | @lst xs es q =>
      have e2 : (if es.length < sizeLine then some (D.non, Own.lst (es ++ [d])) else none) = some (z, o') := e
      clear e
      split at e2 <;> cases e2
      rename_i hz
      exact mt_append pins s σ H _ _ _ _ Q I r1 r2 ⟨a, xs, w, rfl, rfl, ha, by rw [q.length]; exact hz, g .non _ (.lst (q.append (.cons hw .nil))) .non⟩
    | dic q => cases e
theorem mm_pop : MtM X "list.pop" (rMu X.K .pop) := by
  intro pins s σ H v vs v' us Q I r1 r2 h
  obtain ⟨F, a, ho, o, ds, z, o', sub, rfl, ha, ro, hd, e, g⟩ := h
  cases ds with
  | cons _ _ => cases e
  | nil =>
    cases hd
    cases ro with
    | @lst xs es q =>
      have e : (es[es.length - 1]?).map (fun y => (y, Own.lst es.dropLast)) = some (z, o') := e
      cases hy : es[es.length - 1]? with
      | none => rw [hy] at e; cases e
      | some y =>
        rw [hy] at e
        cases e
        obtain ⟨w, hw, rw'⟩ := q.get hy
        exact mt_pop pins s σ H _ _ _ _ Q I r1 r2 ⟨a, xs, w, rfl, rfl, ha, by rw [q.length]; exact hw, g w _ (.lst q.dropLast) rw'⟩
    | dic q => cases e
theorem mm_popAt : MtM X "list.pop" (rMu X.K .popAt) := by
  intro pins s σ H v vs v' us Q I r1 r2 h
  obtain ⟨F, a, ho, o, ds, z, o', sub, rfl, ha, ro, hd, e, g⟩ := h
  match ds, hd, e with
  | [d], hd, e =>
    obtain ⟨w, rfl, hw⟩ := reps_one hd
    cases ro with
    | @lst xs es q =>
      cases d with
      | int i =>
        cases hw
        have e : (popI es i).map (fun p => (p.1, Own.lst p.2)) = some (z, o') := e
        unfold popI at e
        cases hk : ixN es.length i with
        | none => rw [hk] at e; cases e
        | some k =>
          rw [hk] at e
          have e : ((es[k]?).map fun y => (y, es.eraseIdx k)).map (fun p => (p.1, Own.lst p.2)) = some (z, o') := e
          cases hy : es[k]? with
          | none => rw [hy] at e; cases e
          | some y =>
            rw [hy] at e
            cases e
            obtain ⟨w, hw, rw'⟩ := q.get hy
            obtain ⟨h1, h2, h3, h4⟩ := ixN_seq hk
            have hl := q.length
            obtain ⟨_, hz⟩ := I.hok a _ ha
            have hn : xs.length ≤ sizeLine := by
              have h5 : xs.length ≤ sizeLine ∧ _ := I.hok a _ ha
              exact h5.1
            have hs := line63
            exact mt_popAt pins s σ H _ _ _ _ Q I r1 r2 ⟨a, xs, i, k, w, rfl, rfl, ha, by omega, by omega, by rw [hl]; exact h1, hw, g w _ (.lst (q.eraseIdx k)) rw'⟩
      | _ => cases e
    | dic q => cases d <;> cases e
theorem mm_insert : MtM X "list.insert" (rMu X.K .insert) := by
  intro pins s σ H v vs v' us Q I r1 r2 h
  obtain ⟨F, a, ho, o, ds, z, o', sub, rfl, ha, ro, hd, e, g⟩ := h
  match ds, hd, e with
  | [d, y], hd, e =>
    obtain ⟨w, u, rfl, hw, hu⟩ := reps_two hd
    cases ro with
    | @lst xs es q =>
      cases d with
      | int i =>
        cases hw
        have e2 : (if es.length < sizeLine ∧ 0 ≤ i ∧ i < 9223372036854775808 then some (D.non, Own.lst (es.take i.toNat ++ [y] ++ es.drop i.toNat)) else none) = some (z, o') := e
        clear e
        split at e2 <;> cases e2
        rename_i hz
        exact mt_insert pins s σ H _ _ _ _ Q I r1 r2 ⟨a, xs, i, u, rfl, rfl, ha, by rw [q.length]; exact hz.1, hz.2.1, hz.2.2, g .non _ (.lst (((q.take _).append (.cons hu .nil)).append (q.drop _))) .non⟩
      | _ => cases e
    | dic q => cases d <;> cases e
theorem list_extendW (l : Addr) (items : Array Value) (n : Nat) (b : Addr) (items2 : Array Value) (n2 : Nat) (dd : Option Addr) (sl : Array (Option Value)) (hc0 : ¬(!items.isEmpty && Builtin.List.listTooLong (items.size + items2.size)) = true) (hc1 : items.size ≤ sizeLine) (hs2 : items.size + items2.size ≤ sizeLine + 1) :
    Meets (Builtin.«list.extend» ⟨[.ref l, .ref b], []⟩) (fun _ R s => s.heap.get? l = some { cls := .type "list", dict := none, data := .seq items n, slots := #[] } ∧ s.heap.get? b = some { cls := .type "list", dict := dd, data := .seq items2 n2, slots := sl } ∧ R (.ok (.ret Value.none)) { s with heap := s.heap.update l (Obj.mapSeq fun x => x ++ items2), toks := s.toks }) :=
  .of_wp fun prog w A R s h => by
    obtain ⟨hp, g, d, tk, os⟩ := s; obtain ⟨hl, hb, h⟩ := h; have f1 := AutoSeq1.idx_int; have f2 := AutoSeq1.sub_tuple_tuple; have f3 := AutoSeq1.sub_list_list; have f4 := AutoSeq1.sub_tuple_list; have f5 := AutoSeq1.sub_list_tuple
    have hz' : (items ++ items2).size ≤ sizeLine + 1 := by rw [Array.size_append]; exact hs2
    wp_walk using (wpAny_updateSeq hl rfl (hz := hc1) (_hz' := hz')), AutoSeq1.wpAny_loadPart' hl, AutoSeq1.wpAny_loadPart' hb; exact ⟨_, rfl, h⟩
theorem mt_extendL : MtM X "list.extend" (fun x vs H Q => ∃ l b xs zs, x = .ref l ∧ vs = [.ref b] ∧ H l = some (.lst xs) ∧ SqL X.K H b zs ∧ xs.length + zs.length ≤ sizeLine ∧ Q .non (upd H l (.lst (xs ++ zs)))) := by
  intro pins s σ H x vs v us Q I rx rv h
  obtain ⟨l, b, xs, zs, rfl, rfl, hH, hB, hz, q⟩ := h
  cases rx
  obtain ⟨u, rfl, ru⟩ := rv.one
  cases ru
  obtain ⟨z, its, n, r, hl, e⟩ := I.lstM hH
  obtain ⟨its2, r2, pl2, hl2⟩ := I.list hB
  have e2 := r2.length
  obtain ⟨⟨cls2, dd2, data2, sl2⟩, n2, ho2, hc2, hd02, hd2⟩ := pl2
  simp only at hc2 hd2
  subst hc2 hd2
  have hsz : its.toArray.size + its2.toArray.size ≤ sizeLine := by rw [List.size_toArray, List.size_toArray]; omega
  have hlong : ¬ (!its.toArray.isEmpty && Builtin.List.listTooLong (its.toArray.size + its2.toArray.size)) = true := by
    rw [notLongL hsz, Bool.and_false]
    exact Bool.false_ne_true
  refine call_meets PySem.F.slot_list_extend ⟨_, e, rfl⟩ PySem.F.entry_list_extend (PySem.F.args_list_extend_2 _ _)
    (list_extendW l its.toArray n b its2.toArray n2 dd2 sl2 hlong (by rw [List.size_toArray]; omega) (by omega)) ⟨e, ho2, ?_⟩
  refine ⟨.non, _, I.lset (its' := its ++ its2) hH e (by simp) (r.append r2) ?_, rfl, q⟩
  rw [List.length_append]
  omega
theorem mm_extend : MtM X "list.extend" (rMu X.K .extend) := by
  intro pins s σ H v vs v' us Q I r1 r2 h
  obtain ⟨F, a, ho, o, ds, z, o', sub, rfl, ha, ro, hd, e, g⟩ := h
  match ds, hd, e with
  | [d], hd, e =>
    obtain ⟨w, rfl, hw⟩ := reps_one hd
    cases ro with
    | @lst xs es q =>
      cases d with
      | lst ys =>
        have e2 : (if es.length + ys.length ≤ sizeLine then some (D.non, Own.lst (es ++ ys)) else none) = some (z, o') := e
        clear e
        split at e2 <;> cases e2
        rename_i hz
        cases hw with
        | lst s1 q1 =>
          exact mt_extendL pins s σ H _ _ _ _ Q I r1 r2 ⟨a, _, xs, _, rfl, rfl, ha, sqL_le sub s1, by rw [q.length, q1.length]; exact hz, g .non _ (.lst (q.append q1)) .non⟩
      | _ => cases e
    | dic q => cases d <;> cases e
end
end Mi
end

section
set_option Elab.async false
set_option linter.all false
set_option maxRecDepth 100000
set_option maxHeartbeats 4000000
set_option autoImplicit false
/-! Mi9: what an expression's interpretation says of its run: the nodes, one by one. -/
namespace Mi
open PySem L2 PySem.Spec PyProof.Rows
variable [TbT]
/-- the constants, the calls, the exceptions of a program -/
structure Ct where
  cs : List D
  cal : Cal
  XR : Exn → Value → Option Addr → Fp → Hp → Prop
section
variable (K : PySem.W.Frag) (C : Ct) (W : WX)
/-- what is wanted behind an evaluation -/
def Post {β : Type} (F : Fp) (H : Hp) (σ : L2.St) (r : R β) (P : β → En → Fp → Hp → Prop) : Prop := match r with
  | .ok d e' => ∀ F' H', Rel K F' e' σ H' → Ext F H F' H' → P d e' F' H'
  | .exc x e' => ∀ F' H' c fd, Rel K F' e' σ H' → Ext F H F' H' → C.XR x c fd F' H' → W c fd σ H'
  | .er => False
end
section
variable {K : PySem.W.Frag} {C : Ct} {W : WX} {β γ : Type} {F : Fp} {H : Hp} {e : En} {σ : L2.St}
theorem Post.mono {r : R β} {P P' : β → En → Fp → Hp → Prop} (h : Post K C W F H σ r P) (f : ∀ d e' F' H', r = .ok d e' → Rel K F' e' σ H' → Ext F H F' H' → P d e' F' H' → P' d e' F' H') : Post K C W F H σ r P' := by
  cases r with
  | ok d e' => exact fun F' H' R X => f d e' F' H' rfl R X (h F' H' R X)
  | exc x e' => exact h
  | er => exact h
theorem Post.shift {r : R β} {P : β → En → Fp → Hp → Prop} {F1 : Fp} {H1 : Hp} (x : Ext F H F1 H1) (h : Post K C W F H σ r P) : Post K C W F1 H1 σ r P := by
  cases r with
  | ok d e' => exact fun F' H' R X => h F' H' R (x.trans X)
  | exc z e' => exact fun F' H' c fd R X => h F' H' c fd R (x.trans X)
  | er => exact h
theorem Post.run {r : R β} {f : β → En → R γ} {P : γ → En → Fp → Hp → Prop} (h : Post K C W F H σ (r.bind f) P) : Post K C W F H σ r (fun d e1 F1 H1 => Post K C W F1 H1 σ (f d e1) P) := by
  cases r with
  | ok d e' => exact fun F' H' R X => Post.shift X h
  | exc x e' => exact h
  | er => exact h
theorem Post.of_ok {d : β} {P : β → En → Fp → Hp → Prop} (R : Rel K F e σ H) (h : Post K C W F H σ (.ok d e) P) : P d e F H := h F H R .refl
theorem Post.of_ {o : Option β} {P : β → En → Fp → Hp → Prop} (h : Post K C W F H σ (R.of o e) P) : ∃ z, o = some z ∧ Post K C W F H σ (.ok z e) P := by
  cases o with
  | none => exact h.elim
  | some z => exact ⟨z, rfl, h⟩
theorem Post.go {z : D} {Q : VK} (R : Rel K F e σ H) (h : Post K C W F H σ (.ok z e) fun d _ F' H' => ∀ v, Rep K F' v d → Q v H') : Go K F H Q z := fun w F' H' g r => by
  obtain ⟨R', X'⟩ := g.rel R
  exact h F' H' R' X' w r
theorem Rep.up {F F' : Fp} {v : V} {d : D} (r : Rep K F v d) (l : Fle F F') : Rep K F' v d := Rep.mono l _ _ r
theorem Rep.v {F : Fp} {v : V} {d : D} (r : Rep K F v d) : Rep K F v d := r
theorem Reps.up {F F' : Fp} {v : List V} {d : List D} (r : Reps K F v d) (l : Fle F F') : Reps K F' v d := Reps.mono l _ _ r
end
section
variable {X : Cx} {C : Ct} {W : WX}
def tI (K : PySem.W.Frag) (C : Ct) (W : WX) (c : CE) : TE := fun σ H Q => ∃ F e, Rel K F e σ H ∧ Post K C W F H σ (evE C.cs C.cal c e) (fun d _ F' H' => ∀ v, Rep K F' v d → Q v H')
def tA (K : PySem.W.Frag) (C : Ct) (W : WX) (es : CEs) : TA := fun σ H Q => ∃ F e, Rel K F e σ H ∧ Post K C W F H σ (evEs C.cs C.cal es e) (fun ds _ F' H' => ∀ vs, Reps K F' vs ds → Q vs H')
/-- a test -/
def evB (cs : List D) (cal : Cal) (c : CE) (e : En) : R Bool := (evE cs cal c e).bind fun x e => .of ((res e x).bind truth) e
def tB' (K : PySem.W.Frag) (C : Ct) (W : WX) (c : CE) : TT := fun σ H Q => ∃ F e, Rel K F e σ H ∧ Post K C W F H σ (evB C.cs C.cal c e) (fun b _ F' H' => Q b H')
theorem PE.imp {e : Expr} {t t' : TE} (h : PE X e t) (f : ∀ σ H Q, t' σ H Q → t σ H Q) : PE X e t' := ⟨fun pins s σ H Q I q => h.run pins s σ H Q I (f σ H Q q)⟩
theorem PT.imp {e : Expr} {t t' : TT} (h : PT X e t) (f : ∀ σ H Q, t' σ H Q → t σ H Q) : PT X e t' := ⟨fun pins s σ H Q I q => h.run pins s σ H Q I (f σ H Q q)⟩
theorem PW.imp {e : Expr} {t t' : TT} (h : PW X e t) (f : ∀ σ H Q, t' σ H Q → t σ H Q) : PW X e t' := ⟨fun w pins s σ H Q I q => h.run w pins s σ H Q I (f σ H Q q)⟩
theorem PA.imp {e : List Expr} {t t' : TA} (h : PA X e t) (f : ∀ σ H Q, t' σ H Q → t σ H Q) : PA X e t' := ⟨fun pos pins s σ H Q I q => h.run pos pins s σ H Q I (f σ H Q q)⟩
theorem Reps.res {K : PySem.W.Frag} {F : Fp} {H : Hp} {e : En} {σ : L2.St} (R : Rel K F e σ H) : ∀ {vs : List V} {ds ds' : List D}, Reps K F vs ds → ress e ds = some ds' → RepHs K F H vs ds'
  | [], [], ds', _, h => by cases h; exact .nil
  | [], _ :: _, _, h, _ => by cases h
  | _ :: _, [], _, h, _ => by cases h
  | _ :: _, d :: ds, ds', h, p => by
    cases h with
    | cons h r =>
    have p' : (Mi.res e d).bind (fun d => (ress e ds).map (d :: ·)) = some ds' := p
    cases h1 : Mi.res e d with
    | none => rw [h1] at p'; cases p'
    | some d' =>
      rw [h1] at p'
      have p' : (ress e ds).map (d' :: ·) = some ds' := p'
      cases h2 : ress e ds with
      | none => rw [h2] at p'; cases p'
      | some ds2 =>
        rw [h2] at p'
        cases p'
        exact .cons (RepH.of_res R h h1) (Reps.res R r h2)
theorem bind2 {α β γ : Type} {o : Option α} {p : Option β} {f : α → β → Option γ} {z : γ} (h : (o.bind fun x => p.bind fun y => f x y) = some z) : ∃ x y, o = some x ∧ p = some y ∧ f x y = some z := by
  cases o with
  | none => cases h
  | some x => cases p with
    | none => cases h
    | some y => exact ⟨x, y, rfl, rfl, h⟩
theorem bind1 {α γ : Type} {o : Option α} {f : α → Option γ} {z : γ} (h : o.bind f = some z) : ∃ x, o = some x ∧ f x = some z := by
  cases o with
  | none => cases h
  | some x => exact ⟨x, rfl, h⟩
/-! ### leaves -/
variable {pos : Pos}
theorem n_var {i : Nat} {x : Str} (hN : X.N[i]? = some x) (hv : Vis X.env.scope x) (hd : (x == ("__debug__" : Str)) = false) (hcd : (x == ("__classdict__" : Str)) = false) : PE X (.Name x pos) (tI X.K C W (.var i)) := by
  refine PE.imp (pe_var hN hv hd hcd) fun σ H Q h => ?_
  obtain ⟨F, e, R, P⟩ := h
  have P : Post X.K C W F H σ (match e.vs[i]? with
    | some (some d) => Mi.R.ok d e
    | _ => Mi.R.er) _ := P
  split at P
  · rename_i d hd
    obtain ⟨v, h1, h2⟩ := R.val i d hd
    exact ⟨v, h1, Post.of_ok R P v h2⟩
  · exact P.elim
theorem n_glb {i : Nat} {x : Str} {u : Value} {v : V} {d : D} (hg : Gl X x) (hm : X.mg x = some u) (r : RelV v u) (hc : C.cs[i]? = some d) (q : Rep X.K ⟨fun _ => none, [], []⟩ v d) (hd : (x == ("__debug__" : Str)) = false) : PE X (.Name x pos) (tI X.K C W (.glb i)) := by
  refine PE.imp (pe_glob hg hm r hd) fun σ H Q h => ?_
  obtain ⟨F, e, R, P⟩ := h
  obtain ⟨z, hz, P⟩ := Post.of_ P
  rw [hc] at hz
  cases hz
  exact Post.of_ok R P v (q.up (Fle.mk (fun _ _ z => by cases z) List.nil_prefix))
theorem n_int {i : Int} {j : Nat} : PE X (.Constant (.int i) j pos) (tI X.K C W (.int i)) := PE.imp pe_int fun σ H Q h => by
  obtain ⟨F, e, R, P⟩ := h
  exact Post.of_ok R P _ (Rep.int _).v
theorem n_bl {i : Bool} {j : Nat} : PE X (.Constant (.bool i) j pos) (tI X.K C W (.bl i)) := PE.imp pe_bl fun σ H Q h => by
  obtain ⟨F, e, R, P⟩ := h
  exact Post.of_ok R P _ (Rep.bl _).v
theorem n_non {j : Nat} : PE X (.Constant .none j pos) (tI X.K C W .non) := PE.imp pe_non fun σ H Q h => by
  obtain ⟨F, e, R, P⟩ := h
  exact Post.of_ok R P _ (Rep.non).v
theorem n_str {x : Str} {j : Nat} : PE X (.Constant (.str x) j pos) (tI X.K C W (.str x)) := PE.imp pe_str fun σ H Q h => by
  obtain ⟨F, e, R, P⟩ := h
  have P : Post X.K C W F H σ (if x.length ≤ 1000 then Mi.R.ok (D.str x) e else Mi.R.er) _ := P
  split at P
  · rename_i h
    exact Post.of_ok R P _ (Rep.str x (Nat.le_trans h (by decide))).v
  · exact P.elim
/-! ### operators -/
theorem n_bin {op : BOp} {a b : CE} {a' b' : Expr} (ha : PE X a' (tI X.K C W a)) (hb : PE X b' (tI X.K C W b)) : PE X (.BinOp a' op.py b' pos) (tI X.K C W (.bin op a b)) := by
  refine PE.imp (pe_op (or_bin op) ha hb) fun σ H Q h => ?_
  obtain ⟨F, e, R, P⟩ := h
  refine ⟨F, e, R, (Post.run P).mono fun x e1 F1 H1 _ R1 X1 P1 v rv => ?_⟩
  refine ⟨F1, e1, R1, (Post.run P1).mono fun y e2 F2 H2 _ R2 X2 P2 u ru => ?_⟩
  obtain ⟨z, hz, P3⟩ := Post.of_ P2
  obtain ⟨x', y', hx, hy, hz⟩ := bind2 hz
  exact ⟨F2, x', y', z, R2.sub, RepH.of_res R2 (rv.up X2.le) hx, RepH.of_res R2 ru hy, hz, P3.go R2⟩
theorem n_neg {a : CE} {a' : Expr} (ha : PE X a' (tI X.K C W a)) : PE X (.UnaryOp .USub a' pos) (tI X.K C W (.neg a)) := by
  refine PE.imp (pe_un un_neg ha) fun σ H Q h => ?_
  obtain ⟨F, e, R, P⟩ := h
  refine ⟨F, e, R, (Post.run P).mono fun x e1 F1 H1 _ R1 X1 P1 v rv => ?_⟩
  cases x with
  | int i =>
    cases rv
    exact ⟨i, rfl, Post.of_ok R1 P1 _ (Rep.int _).v⟩
  | _ => exact P1.elim
theorem n_cmp {op : COp} {a b : CE} {a' b' : Expr} {k : Nat} (hr : Room k X.A) (ha : PE X a' (tI X.K C W a)) (hb : PE X b' (tI X.K C W b)) (hm : behindInMarks op.py b' = false) : PE X (.Compare a' [op.py] [b'] pos) (tI X.K C W (.cmp op a b)) := by
  refine PE.imp (pe_cmpR (or_cmp op (by have := hr.un; omega)) ha hb hm) fun σ H Q h => ?_
  obtain ⟨F, e, R, P⟩ := h
  refine ⟨F, e, R, (Post.run P).mono fun x e1 F1 H1 _ R1 X1 P1 v rv => ?_⟩
  refine ⟨F1, e1, R1, (Post.run P1).mono fun y e2 F2 H2 _ R2 X2 P2 u ru => ?_⟩
  obtain ⟨z, hz, P3⟩ := Post.of_ P2
  obtain ⟨x', y', hx, hy, hz⟩ := bind2 hz
  exact ⟨F2, x', y', z, R2.sub, RepH.of_res R2 (rv.up X2.le) hx, RepH.of_res R2 ru hy, hz, P3.go R2⟩
theorem cmp_bl {op : COp} {x y z : D} (h : Mi.cmp op x y = some z) : ∃ b, z = .bl b := by
  cases op with
  | eq =>
    have h : (deq x y).map D.bl = some z := h
    cases q : deq x y <;> rw [q] at h <;> cases h
    exact ⟨_, rfl⟩
  | ne =>
    have h : ((deq x y).map fun b => D.bl (!b)) = some z := h
    cases q : deq x y <;> rw [q] at h <;> cases h
    exact ⟨_, rfl⟩
  | isin =>
    have h : (isIn x y).map D.bl = some z := h
    cases q : isIn x y <;> rw [q] at h <;> cases h
    exact ⟨_, rfl⟩
  | notin =>
    have h : ((isIn x y).map fun b => D.bl (!b)) = some z := h
    cases q : isIn x y <;> rw [q] at h <;> cases h
    exact ⟨_, rfl⟩
  | _ => cases x <;> cases y <;> first | (cases h; done) | (cases h; exact ⟨_, rfl⟩)
theorem t_cmp {op : COp} {a b : CE} {a' b' : Expr} {k : Nat} (hr : Room k X.A) (ha : PE X a' (tI X.K C W a)) (hb : PE X b' (tI X.K C W b)) (hm : behindInMarks op.py b' = false) : PT X (.Compare a' [op.py] [b'] pos) (tB' X.K C W (.cmp op a b)) := by
  refine PT.imp (pt_cmpR (or_cmp op (by have := hr.un; omega)) ha hb hm) fun σ H Q h => ?_
  obtain ⟨F, e, R, P⟩ := h
  have P := Post.run (Post.run P)
  refine ⟨F, e, R, P.mono fun x e1 F1 H1 _ R1 X1 P1 v rv => ?_⟩
  refine ⟨F1, e1, R1, (Post.run P1).mono fun y e2 F2 H2 _ R2 X2 P2 u ru => ?_⟩
  obtain ⟨z, hz, P3⟩ := Post.of_ P2
  obtain ⟨x', y', hx, hy, hz⟩ := bind2 hz
  obtain ⟨b, rfl⟩ := cmp_bl hz
  refine ⟨F2, x', y', _, R2.sub, RepH.of_res R2 (rv.up X2.le) hx, RepH.of_res R2 ru hy, hz, fun w F' H' g r => ?_⟩
  obtain ⟨R', X'⟩ := g.rel R2
  cases r
  have P4 := P3 F' H' R' X'
  exact ⟨b, rfl, Post.of_ok R' P4⟩
theorem n_chain {o1 o2 : COp} {a b c : CE} {a' b' c' : Expr} {k : Nat} (hr : Room k X.A) (ha : PE X a' (tI X.K C W a)) (hb : PE X b' (tI X.K C W b)) (hc : PE X c' (tI X.K C W c)) (hm : lastMarks [o1.py, o2.py] [b', c'] = false) : PE X (.Compare a' [o1.py, o2.py] [b', c'] pos) (tI X.K C W (.chain o1 o2 a b c)) := by
  have hu : X.A.units + 65 < cLine := by have := hr.un; omega
  refine PE.imp (pe_chain (or_cmp o1 hu) (or_cmp o2 hu) ha hb hc hm) fun σ H Q h => ?_
  obtain ⟨F, e, R, P⟩ := h
  refine ⟨F, e, R, (Post.run P).mono fun x e1 F1 H1 _ R1 X1 P1 v rv => ?_⟩
  refine ⟨F1, e1, R1, (Post.run P1).mono fun y e2 F2 H2 _ R2 X2 P2 u ru => ?_⟩
  have P2 : Post X.K C W F2 H2 σ (match (res e2 x).bind fun x => (res e2 y).bind fun y => Mi.cmp o1 x y with
    | some (.bl true) => (evE C.cs C.cal c e2).bind fun z e => .of ((res e y).bind fun y => (res e z).bind fun z => Mi.cmp o2 y z) e
    | some (.bl false) => Mi.R.ok (.bl false) e2
    | _ => .er) _ := P2
  split at P2
  · rename_i hz
    obtain ⟨x', y', hx, hy, hz⟩ := bind2 hz
    refine ⟨F2, x', y', _, R2.sub, RepH.of_res R2 (rv.up X2.le) hx, RepH.of_res R2 ru hy, hz, fun w F3 H3 g r => ?_⟩
    obtain ⟨R3, X3⟩ := g.rel R2
    cases r
    refine ⟨true, rfl, iteT ⟨F3, e2, R3, (Post.run (Post.shift X3 P2)).mono fun z e4 F4 H4 _ R4 X4 P4 w rw' => ?_⟩⟩
    obtain ⟨z', hz', P5⟩ := Post.of_ P4
    obtain ⟨y2, z2, hy2, hz2, hz'⟩ := bind2 hz'
    exact ⟨F4, y2, z2, z', R4.sub, RepH.of_res R4 (ru.up (X3.le.trans X4.le)) hy2, RepH.of_res R4 rw' hz2, hz', P5.go R4⟩
  · rename_i hz
    obtain ⟨x', y', hx, hy, hz⟩ := bind2 hz
    refine ⟨F2, x', y', _, R2.sub, RepH.of_res R2 (rv.up X2.le) hx, RepH.of_res R2 ru hy, hz, fun w F3 H3 g r => ?_⟩
    obtain ⟨R3, X3⟩ := g.rel R2
    cases r
    have P3 := P2 F3 H3 R3 X3
    exact ⟨false, rfl, iteF (P3 _ (Rep.bl _).v)⟩
  · exact P2.elim
theorem t_val {a : CE} {a' : Expr} (ha : PE X a' (tI X.K C W a)) (he : ∀ whole, isTrue a' X.env whole = (do let v ← whole; standAt a'.pos; holding [v] (truthy v))) : PT X a' (tB' X.K C W a) := by
  refine PT.imp (pt_truth ha he) fun σ H Q h => ?_
  obtain ⟨F, e, R, P⟩ := h
  refine ⟨F, e, R, (Post.run P).mono fun x e1 F1 H1 _ R1 X1 P1 v rv => ?_⟩
  obtain ⟨b, hb, P2⟩ := Post.of_ P1
  obtain ⟨x', hx, hb⟩ := bind1 hb
  exact ⟨b, (RepH.of_res R1 rv hx).tru R1.sub hb, Post.of_ok R1 P2⟩
theorem n_not {a : CE} {a' : Expr} (ha : PE X a' (tI X.K C W a)) : PE X (.UnaryOp .Not a' pos) (tI X.K C W (.not a)) := by
  refine PE.imp (pe_notT ha) fun σ H Q h => ?_
  obtain ⟨F, e, R, P⟩ := h
  refine ⟨F, e, R, (Post.run P).mono fun x e1 F1 H1 _ R1 X1 P1 v rv => ?_⟩
  obtain ⟨z, hz, P2⟩ := Post.of_ P1
  cases q : (res e1 x).bind truth with
  | none => rw [q] at hz; cases hz
  | some b =>
    rw [q] at hz
    cases hz
    obtain ⟨x', hx, hb⟩ := bind1 q
    exact ⟨b, (RepH.of_res R1 rv hx).tru R1.sub hb, Post.of_ok R1 P2 _ (Rep.bl _).v⟩
theorem evB_not (cs : List D) (cal : Cal) (a : CE) (e : En) : evB cs cal (.not a) e = (evB cs cal a e).bind fun b e => .ok (!b) e := by
  show ((evE cs cal a e).bind fun x e => Mi.R.of (((res e x).bind truth).map fun b => D.bl (!b)) e).bind _ = ((evE cs cal a e).bind _).bind _
  cases evE cs cal a e with
  | ok x e1 =>
    show (Mi.R.of (((res e1 x).bind truth).map fun b => D.bl (!b)) e1).bind _ = (Mi.R.of ((res e1 x).bind truth) e1).bind _
    cases (res e1 x).bind truth <;> rfl
  | exc x e1 => rfl
  | er => rfl
theorem t_not {a : CE} {a' : Expr} (ha : PT X a' (tB' X.K C W a)) : PT X (.UnaryOp .Not a' pos) (tB' X.K C W (.not a)) := by
  refine PT.imp (pt_not ha) fun σ H Q h => ?_
  obtain ⟨F, e, R, P⟩ := h
  rw [evB_not] at P
  exact ⟨F, e, R, (Post.run P).mono fun b e1 F1 H1 _ R1 X1 P1 => Post.of_ok R1 P1⟩
end
end Mi
end

section
set_option Elab.async false
set_option linter.all false
set_option maxRecDepth 100000
set_option maxHeartbeats 4000000
set_option autoImplicit false
/-! Mi10: further nodes: and, or, displays, items, built-ins, methods. -/
namespace Mi
open PySem L2 PySem.Spec PyProof.Rows
variable [TbT]
section
variable {X : Cx} {C : Ct} {W : WX} {pos : Pos}
/-! ### and, or -/
def evAndL (cs : List D) (cal : Cal) (a : CE) (r : CEs) (e : En) : R D := (evE cs cal a e).bind fun x e => evAnd cs cal x r e
def evOrL (cs : List D) (cal : Cal) (a : CE) (r : CEs) (e : En) : R D := (evE cs cal a e).bind fun x e => evOr cs cal x r e
def tAndI (K : PySem.W.Frag) (C : Ct) (W : WX) (a : CE) (r : CEs) : TE := fun σ H Q => ∃ F e, Rel K F e σ H ∧ Post K C W F H σ (evAndL C.cs C.cal a r e) (fun d _ F' H' => ∀ v, Rep K F' v d → Q v H')
def tOrI (K : PySem.W.Frag) (C : Ct) (W : WX) (a : CE) (r : CEs) : TE := fun σ H Q => ∃ F e, Rel K F e σ H ∧ Post K C W F H σ (evOrL C.cs C.cal a r e) (fun d _ F' H' => ∀ v, Rep K F' v d → Q v H')
theorem n_and1 {a : CE} {a' : Expr} (ha : PE X a' (tI X.K C W a)) : PE X (.BoolOp .And [a'] pos) (tAndI X.K C W a .nil) := by
  refine PE.imp (pe_one ha) fun σ H Q h => ?_
  obtain ⟨F, e, R, P⟩ := h
  exact ⟨F, e, R, (Post.run P).mono fun x e1 F1 H1 _ R1 X1 P1 => Post.of_ok R1 P1⟩
theorem n_or1 {a : CE} {a' : Expr} (ha : PE X a' (tI X.K C W a)) : PE X (.BoolOp .Or [a'] pos) (tOrI X.K C W a .nil) := by
  refine PE.imp (pe_one ha) fun σ H Q h => ?_
  obtain ⟨F, e, R, P⟩ := h
  exact ⟨F, e, R, (Post.run P).mono fun x e1 F1 H1 _ R1 X1 P1 => Post.of_ok R1 P1⟩
theorem n_andS {a b : CE} {r : CEs} {a' b' : Expr} {r' : List Expr} (ha : PE X a' (tI X.K C W a)) (hr : PE X (.BoolOp .And (b' :: r') pos) (tAndI X.K C W b r)) : PE X (.BoolOp .And (a' :: b' :: r') pos) (tAndI X.K C W a (.cons b r)) := by
  refine PE.imp (pe_andT ha hr) fun σ H Q h => ?_
  obtain ⟨F, e, R, P⟩ := h
  refine ⟨F, e, R, (Post.run P).mono fun x e1 F1 H1 _ R1 X1 P1 v rv => ?_⟩
  have P1 : Post X.K C W F1 H1 σ (match (res e1 x).bind truth with
    | some true => evAndL C.cs C.cal b r e1
    | some false => Mi.R.ok x e1
    | none => Mi.R.er) _ := P1
  split at P1
  · rename_i q
    obtain ⟨x', hx, hb⟩ := bind1 q
    exact ⟨true, (RepH.of_res R1 rv hx).tru R1.sub hb, iteT ⟨F1, e1, R1, P1⟩⟩
  · rename_i q
    obtain ⟨x', hx, hb⟩ := bind1 q
    exact ⟨false, (RepH.of_res R1 rv hx).tru R1.sub hb, iteF (Post.of_ok R1 P1 v rv)⟩
  · exact P1.elim
theorem n_orS {a b : CE} {r : CEs} {a' b' : Expr} {r' : List Expr} (ha : PE X a' (tI X.K C W a)) (hr : PE X (.BoolOp .Or (b' :: r') pos) (tOrI X.K C W b r)) : PE X (.BoolOp .Or (a' :: b' :: r') pos) (tOrI X.K C W a (.cons b r)) := by
  refine PE.imp (pe_orT ha hr) fun σ H Q h => ?_
  obtain ⟨F, e, R, P⟩ := h
  refine ⟨F, e, R, (Post.run P).mono fun x e1 F1 H1 _ R1 X1 P1 v rv => ?_⟩
  have P1 : Post X.K C W F1 H1 σ (match (res e1 x).bind truth with
    | some true => Mi.R.ok x e1
    | some false => evOrL C.cs C.cal b r e1
    | none => Mi.R.er) _ := P1
  split at P1
  · rename_i q
    obtain ⟨x', hx, hb⟩ := bind1 q
    exact ⟨true, (RepH.of_res R1 rv hx).tru R1.sub hb, iteT (Post.of_ok R1 P1 v rv)⟩
  · rename_i q
    obtain ⟨x', hx, hb⟩ := bind1 q
    exact ⟨false, (RepH.of_res R1 rv hx).tru R1.sub hb, iteF ⟨F1, e1, R1, P1⟩⟩
  · exact P1.elim
theorem n_and {a : CE} {r : CEs} {e : Expr} (h : PE X e (tAndI X.K C W a r)) : PE X e (tI X.K C W (.and a r)) := PE.imp h fun σ H Q h => h
theorem n_or {a : CE} {r : CEs} {e : Expr} (h : PE X e (tOrI X.K C W a r)) : PE X e (tI X.K C W (.or a r)) := PE.imp h fun σ H Q h => h
/-- .. as tests -/
def thn (cs : List D) (cal : Cal) (r : R D) : R Bool := r.bind fun x e => .of ((res e x).bind truth) e
def uAndI (K : PySem.W.Frag) (C : Ct) (W : WX) (a : CE) (r : CEs) : TT := fun σ H Q => ∃ F e, Rel K F e σ H ∧ Post K C W F H σ (thn C.cs C.cal (evAndL C.cs C.cal a r e)) (fun b _ F' H' => Q b H')
def uOrI (K : PySem.W.Frag) (C : Ct) (W : WX) (a : CE) (r : CEs) : TT := fun σ H Q => ∃ F e, Rel K F e σ H ∧ Post K C W F H σ (thn C.cs C.cal (evOrL C.cs C.cal a r e)) (fun b _ F' H' => Q b H')
theorem bind_ok {β : Type} (r : R β) : (r.bind fun x e => Mi.R.ok x e) = r := by cases r <;> rfl
theorem thn_and1 (cs : List D) (cal : Cal) (a : CE) (e : En) : thn cs cal (evAndL cs cal a .nil e) = evB cs cal a e := by
  have h : evAndL cs cal a .nil e = evE cs cal a e := bind_ok _
  rw [h]
  rfl
theorem thn_or1 (cs : List D) (cal : Cal) (a : CE) (e : En) : thn cs cal (evOrL cs cal a .nil e) = evB cs cal a e := by
  have h : evOrL cs cal a .nil e = evE cs cal a e := bind_ok _
  rw [h]
  rfl
theorem thn_andS (cs : List D) (cal : Cal) (a b : CE) (r : CEs) (e : En) : thn cs cal (evAndL cs cal a (.cons b r) e) = (evB cs cal a e).bind fun t e => if t then thn cs cal (evAndL cs cal b r e) else .ok false e := by
  unfold thn evAndL evB
  cases evE cs cal a e with
  | ok x e1 =>
    show (match (res e1 x).bind truth with
      | some true => (evE cs cal b e1).bind fun y e => evAnd cs cal y r e
      | some false => Mi.R.ok x e1
      | none => Mi.R.er).bind _ = (Mi.R.of ((res e1 x).bind truth) e1).bind _
    cases q : (res e1 x).bind truth with
    | none => rfl
    | some t => cases t with
      | true => rfl
      | false =>
        show Mi.R.of ((res e1 x).bind truth) e1 = _
        rw [q]
        rfl
  | exc x e1 => rfl
  | er => rfl
theorem thn_orS (cs : List D) (cal : Cal) (a b : CE) (r : CEs) (e : En) : thn cs cal (evOrL cs cal a (.cons b r) e) = (evB cs cal a e).bind fun t e => if t then .ok true e else thn cs cal (evOrL cs cal b r e) := by
  unfold thn evOrL evB
  cases evE cs cal a e with
  | ok x e1 =>
    show (match (res e1 x).bind truth with
      | some true => Mi.R.ok x e1
      | some false => (evE cs cal b e1).bind fun y e => evOr cs cal y r e
      | none => Mi.R.er).bind _ = (Mi.R.of ((res e1 x).bind truth) e1).bind _
    cases q : (res e1 x).bind truth with
    | none => rfl
    | some t => cases t with
      | false => rfl
      | true =>
        show Mi.R.of ((res e1 x).bind truth) e1 = _
        rw [q]
        rfl
  | exc x e1 => rfl
  | er => rfl
theorem t_and1 {a : CE} {a' : Expr} (ha : PT X a' (tB' X.K C W a)) : PW X (.BoolOp .And [a'] pos) (uAndI X.K C W a .nil) := by
  refine PW.imp (pw_and1 ha) fun σ H Q h => ?_
  obtain ⟨F, e, R, P⟩ := h
  rw [thn_and1] at P
  exact ⟨F, e, R, P⟩
theorem t_or1 {a : CE} {a' : Expr} (ha : PT X a' (tB' X.K C W a)) : PW X (.BoolOp .Or [a'] pos) (uOrI X.K C W a .nil) := by
  refine PW.imp (pw_or1 ha) fun σ H Q h => ?_
  obtain ⟨F, e, R, P⟩ := h
  rw [thn_or1] at P
  exact ⟨F, e, R, P⟩
theorem t_andS {a b : CE} {r : CEs} {a' b' : Expr} {r' : List Expr} (ha : PT X a' (tB' X.K C W a)) (hr : PW X (.BoolOp .And (b' :: r') pos) (uAndI X.K C W b r)) : PW X (.BoolOp .And (a' :: b' :: r') pos) (uAndI X.K C W a (.cons b r)) := by
  refine PW.imp (pw_and ha hr) fun σ H Q h => ?_
  obtain ⟨F, e, R, P⟩ := h
  rw [thn_andS] at P
  refine ⟨F, e, R, (Post.run P).mono fun b e1 F1 H1 _ R1 X1 P1 => ?_⟩
  cases b with
  | true => exact iteT ⟨F1, e1, R1, P1⟩
  | false => exact iteF (Post.of_ok R1 P1)
theorem t_orS {a b : CE} {r : CEs} {a' b' : Expr} {r' : List Expr} (ha : PT X a' (tB' X.K C W a)) (hr : PW X (.BoolOp .Or (b' :: r') pos) (uOrI X.K C W b r)) : PW X (.BoolOp .Or (a' :: b' :: r') pos) (uOrI X.K C W a (.cons b r)) := by
  refine PW.imp (pw_or ha hr) fun σ H Q h => ?_
  obtain ⟨F, e, R, P⟩ := h
  rw [thn_orS] at P
  refine ⟨F, e, R, (Post.run P).mono fun b e1 F1 H1 _ R1 X1 P1 => ?_⟩
  cases b with
  | true => exact iteT (Post.of_ok R1 P1)
  | false => exact iteF ⟨F1, e1, R1, P1⟩
theorem t_and {a : CE} {r : CEs} {e : Expr} (h : PW X e (uAndI X.K C W a r)) : PT X e (tB' X.K C W (.and a r)) := PT.imp h.pt fun σ H Q h => h
theorem t_or {a : CE} {r : CEs} {e : Expr} (h : PW X e (uOrI X.K C W a r)) : PT X e (tB' X.K C W (.or a r)) := PT.imp h.pt fun σ H Q h => h
/-! ### a if c else b -/
theorem n_ite {c a b : CE} {c' a' b' : Expr} (hc : PT X c' (tB' X.K C W c)) (ha : PE X a' (tI X.K C W a)) (hb : PE X b' (tI X.K C W b)) : PE X (.IfExp c' a' b' pos) (tI X.K C W (.ite c a b)) := by
  refine PE.imp (pe_ifExp hc ha hb) fun σ H Q h => ?_
  obtain ⟨F, e, R, P⟩ := h
  have E : evE C.cs C.cal (.ite c a b) e = (evB C.cs C.cal c e).bind fun t e => if t then evE C.cs C.cal a e else evE C.cs C.cal b e := by
    show ((evE C.cs C.cal c e).bind fun x e => match (res e x).bind truth with
      | some true => evE C.cs C.cal a e
      | some false => evE C.cs C.cal b e
      | none => Mi.R.er) = _
    unfold evB
    cases evE C.cs C.cal c e with
    | ok x e1 =>
      show (match (res e1 x).bind truth with
        | some true => evE C.cs C.cal a e1
        | some false => evE C.cs C.cal b e1
        | none => Mi.R.er) = (Mi.R.of ((res e1 x).bind truth) e1).bind _
      cases (res e1 x).bind truth with
      | none => rfl
      | some t => cases t <;> rfl
    | exc x e1 => rfl
    | er => rfl
  rw [E] at P
  refine ⟨F, e, R, (Post.run P).mono fun t e1 F1 H1 _ R1 X1 P1 => ?_⟩
  cases t with
  | true => exact iteT ⟨F1, e1, R1, P1⟩
  | false => exact iteF ⟨F1, e1, R1, P1⟩
/-! ### arguments, displays -/
def isStar : Expr → Bool
  | .Starred _ _ => true
  | _ => false
theorem star_ok {e : Expr} {es : List Expr} {env : Env} (h : isStar e = false) : starEach (e :: es) env = (false, eval e env) :: starEach es env := by
  cases e <;> first | rfl | cases h
def noStars : List Expr → Bool
  | [] => true
  | e :: es => !isStar e && noStars es
theorem stars_any {pos : Pos} {env : Env} : ∀ {es : List Expr}, noStars es = true → (backTo pos (starEach es env)).any (·.1) = false
  | [], _ => rfl
  | e :: es, h => by
    have h' : (!isStar e && noStars es) = true := h
    rw [Bool.and_eq_true] at h'
    rw [star_ok (by simpa using h'.1)]
    show (false || (backTo pos (starEach es env)).any (·.1)) = false
    rw [stars_any h'.2]
    rfl
theorem stars_all {pos : Pos} {env : Env} : ∀ {es : List Expr}, noStars es = true → (backTo pos (starEach es env)).all (fun x => !x.1) = true
  | [], _ => rfl
  | e :: es, h => by
    have h' : (!isStar e && noStars es) = true := h
    rw [Bool.and_eq_true] at h'
    rw [star_ok (by simpa using h'.1)]
    show (true && (backTo pos (starEach es env)).all (fun x => !x.1)) = true
    rw [stars_all h'.2]
    rfl
theorem a_nil : PA X [] (tA X.K C W .nil) := PA.imp pa_nil fun σ H Q h => by
  obtain ⟨F, e, R, P⟩ := h
  exact Post.of_ok R P [] .nil
theorem a_cons {a : CE} {r : CEs} {a' : Expr} {r' : List Expr} (ha : PE X a' (tI X.K C W a)) (hr : PA X r' (tA X.K C W r)) (hs : isStar a' = false) : PA X (a' :: r') (tA X.K C W (.cons a r)) := by
  refine PA.imp (pa_cons ha hr (star_ok hs)) fun σ H Q h => ?_
  obtain ⟨F, e, R, P⟩ := h
  refine ⟨F, e, R, (Post.run P).mono fun x e1 F1 H1 _ R1 X1 P1 v rv => ?_⟩
  refine ⟨F1, e1, R1, (Post.run P1).mono fun xs e2 F2 H2 _ R2 X2 P2 vs rvs => ?_⟩
  exact Post.of_ok R2 P2 _ (.cons (rv.up X2.le) rvs)
theorem n_tup {es : CEs} {es' : List Expr} {k : Nat} (h : PA X es' (tA X.K C W es)) : PE X (.Tuple es' k pos) (tI X.K C W (.tup es)) := by
  refine PE.imp (pe_tup h) fun σ H Q h => ?_
  obtain ⟨F, e, R, P⟩ := h
  refine ⟨F, e, R, (Post.run P).mono fun ds e1 F1 H1 _ R1 X1 P1 vs rvs => ?_⟩
  have P1 : Post X.K C W F1 H1 σ (if ds.length ≤ 1000 then Mi.R.ok (D.tup ds) e1 else Mi.R.er) _ := P1
  split at P1
  · rename_i hp
    exact ⟨by rw [rvs.length]; exact Nat.le_trans hp (by decide), (P1.go R1).newT R1.sub rvs⟩
  · exact P1.elim
theorem n_lst {es : CEs} {es' : List Expr} (h : PA X es' (tA X.K C W es)) : PE X (.List es' pos) (tI X.K C W (.lst es)) := by
  refine PE.imp (pe_lst h) fun σ H Q h => ?_
  obtain ⟨F, e, R, P⟩ := h
  refine ⟨F, e, R, (Post.run P).mono fun ds e1 F1 H1 _ R1 X1 P1 vs rvs => ?_⟩
  have P1 : Post X.K C W F1 H1 σ (if ds.length ≤ 1000 then Mi.R.ok (D.lst ds) e1 else Mi.R.er) _ := P1
  split at P1
  · rename_i hp
    exact ⟨by rw [rvs.length]; exact Nat.le_trans hp (by decide), (P1.go R1).newL R1.sub rvs⟩
  · exact P1.elim
/-! ### items, slices -/
def isSlice : Expr → Bool
  | .Slice _ _ _ _ => true
  | _ => false
theorem plainIx_of {b : Expr} (h : isSlice b = false) : PlainIx b := by
  intro o i
  cases b <;> first | rfl | cases h
theorem n_ix {a b : CE} {a' b' : Expr} {k : Nat} (hr : Room k X.A) (ha : PE X a' (tI X.K C W a)) (hb : PE X b' (tI X.K C W b)) (hs : isSlice b' = false) : PE X (.Subscript a' b' pos) (tI X.K C W (.ix a b)) := by
  refine PE.imp (pe_ix (ix_any (by have := hr.un; omega)) ha hb (plainIx_of hs)) fun σ H Q h => ?_
  obtain ⟨F, e, R, P⟩ := h
  refine ⟨F, e, R, (Post.run P).mono fun x e1 F1 H1 _ R1 X1 P1 v rv => ?_⟩
  refine ⟨F1, e1, R1, (Post.run P1).mono fun y e2 F2 H2 _ R2 X2 P2 u ru => ?_⟩
  obtain ⟨z, hz, P3⟩ := Post.of_ P2
  obtain ⟨x', hx, hz⟩ := bind1 hz
  have hy : isOwn y = false := by
    cases y with
    | own i => cases x' <;> cases hz
    | _ => rfl
  exact ⟨F2, x', y, z, R2.sub, RepH.of_res R2 (rv.up X2.le) hx, .tree hy ru, hz, P3.go R2⟩
def tO (K : PySem.W.Frag) (C : Ct) (W : WX) (o : CEo) : L2.St → Hp → (Option Int → Hp → Prop) → Prop := fun σ H Q => ∃ F e, Rel K F e σ H ∧ Post K C W F H σ (evO C.cs C.cal o e) (fun d _ F' H' => Q d H')
theorem PO.imp {e : Option Expr} {t t' : L2.St → Hp → (Option Int → Hp → Prop) → Prop} (h : PO X e t) (f : ∀ σ H Q, t' σ H Q → t σ H Q) : PO X e t' := ⟨fun pins s σ H Q I q => h.run pins s σ H Q I (f σ H Q q)⟩
theorem o_no : PO X none (tO X.K C W .no) := PO.imp po_none fun σ H Q h => by
  obtain ⟨F, e, R, P⟩ := h
  exact Post.of_ok R P
theorem o_yes {a : CE} {a' : Expr} (ha : PE X a' (tI X.K C W a)) : PO X (some a') (tO X.K C W (.yes a)) := PO.imp (po_some ha) fun σ H Q h => by
  obtain ⟨F, e, R, P⟩ := h
  refine ⟨F, e, R, (Post.run P).mono fun x e1 F1 H1 _ R1 X1 P1 v rv => ?_⟩
  cases x with
  | int i =>
    cases rv
    exact ⟨i, rfl, Post.of_ok R1 P1⟩
  | _ => exact P1.elim
theorem n_slc {a : CE} {lo hi : CEo} {a' : Expr} {lo' hi' : Option Expr} {p2 : Pos} (ha : PE X a' (tI X.K C W a)) (hl : PO X lo' (tO X.K C W lo)) (hh : PO X hi' (tO X.K C W hi)) : PE X (.Subscript a' (.Slice lo' hi' none p2) pos) (tI X.K C W (.slc a lo hi)) := by
  refine PE.imp (pe_slice sl_any ha hl hh) fun σ H Q h => ?_
  obtain ⟨F, e, R, P⟩ := h
  refine ⟨F, e, R, (Post.run P).mono fun x e1 F1 H1 _ R1 X1 P1 v rv => ?_⟩
  refine ⟨F1, e1, R1, (Post.run P1).mono fun l e2 F2 H2 _ R2 X2 P2 => ?_⟩
  refine ⟨F2, e2, R2, (Post.run P2).mono fun h e3 F3 H3 _ R3 X3 P3 => ?_⟩
  obtain ⟨z, hz, P4⟩ := Post.of_ P3
  obtain ⟨x', hx, hz⟩ := bind1 hz
  exact ⟨F3, x', z, R3.sub, RepH.of_res R3 (rv.up (X2.le.trans X3.le)) hx, hz, P4.go R3⟩
theorem n_rev {a : CE} {a' : Expr} {k : Nat} {p1 p2 p3 : Pos} (ha : PE X a' (tI X.K C W a)) : PE X (.Subscript a' (.Slice none none (some (.UnaryOp .USub (.Constant (.int 1) k p1) p2)) p3) pos) (tI X.K C W (.rev a)) := by
  refine PE.imp (pe_revL ha) fun σ H Q h => ?_
  obtain ⟨F, e, R, P⟩ := h
  refine ⟨F, e, R, (Post.run P).mono fun x e1 F1 H1 _ R1 X1 P1 v rv => ?_⟩
  have P1 : Post X.K C W F1 H1 σ (match res e1 x with
    | some (.lst xs) => Mi.R.ok (D.lst xs.reverse) e1
    | _ => Mi.R.er) _ := P1
  split at P1
  · rename_i xs hx
    obtain ⟨a, vs, rfl, s1, q1⟩ := (RepH.of_res R1 rv hx).lst_ R1.sub
    exact ⟨a, vs, rfl, s1, (P1.go R1).newL R1.sub q1.reverse⟩
  · exact P1.elim
/-! ### built-in functions -/
theorem n_biB {b : BI} {id : String} {x : Str} {es : CEs} {e1 : Expr} {es' : List Expr} {p : Pos} (hc : CallR X (.builtin id) (rBi X.K b)) (hg : Gl X x) (hm : X.mg x = none) (hv : bootBuiltins x = some (.builtin id)) (ha : PA X (e1 :: es') (tA X.K C W es))
    (hn : x ≠ "__name__") (hd : (x == ("__debug__" : Str)) = false) (hs : noStars (e1 :: es') = true) : PE X (.Call (.Name x p) (e1 :: es') [] pos) (tI X.K C W (.bi b es)) := by
  have hs' : (!isStar e1 && noStars es') = true := hs
  rw [Bool.and_eq_true] at hs'
  refine PE.imp (pe_callB hc hg hm hv ha hn hd (star_ok (by simpa using hs'.1)) (stars_any hs'.2)) fun σ H Q h => ?_
  obtain ⟨F, e, R, P⟩ := h
  refine ⟨F, e, R, (Post.run P).mono fun ds e1 F1 H1 _ R1 X1 P1 vs rvs => ?_⟩
  obtain ⟨z, hz, P2⟩ := Post.of_ P1
  obtain ⟨ds', hx, hz⟩ := bind1 hz
  exact ⟨F1, ds', z, R1.sub, rvs.res R1 hx, hz, P2.go R1⟩
theorem n_biT {b : BI} {T : String} {x : Str} {es : CEs} {e1 : Expr} {es' : List Expr} {p : Pos} (hc : CallR X (.type T) (rBi X.K b)) (hg : Gl X x) (hm : X.mg x = none) (hv : bootBuiltins x = some (.type T)) (ha : PA X (e1 :: es') (tA X.K C W es))
    (hn : x ≠ "__name__") (hd : (x == ("__debug__" : Str)) = false) (hs : noStars (e1 :: es') = true) : PE X (.Call (.Name x p) (e1 :: es') [] pos) (tI X.K C W (.bi b es)) := by
  have hs' : (!isStar e1 && noStars es') = true := hs
  rw [Bool.and_eq_true] at hs'
  refine PE.imp (pe_callTy hc hg hm hv ha hn hd (star_ok (by simpa using hs'.1)) (stars_any hs'.2)) fun σ H Q h => ?_
  obtain ⟨F, e, R, P⟩ := h
  refine ⟨F, e, R, (Post.run P).mono fun ds e1 F1 H1 _ R1 X1 P1 vs rvs => ?_⟩
  obtain ⟨z, hz, P2⟩ := Post.of_ P1
  obtain ⟨ds', hx, hz⟩ := bind1 hz
  exact ⟨F1, ds', z, R1.sub, rvs.res R1 hx, hz, P2.go R1⟩
theorem n_isa {t : Ty} {a : CE} {a' : Expr} {x : Str} {p p' : Pos} (ha : PE X a' (tI X.K C W a)) (hg : Gl X "isinstance") (hm : X.mg "isinstance" = none) (hgx : Gl X x) (hmx : X.mg x = none) (hvx : bootBuiltins x = some (.type t.py)) (hn : x ≠ "__name__") (hd : (x == ("__debug__" : Str)) = false) (hs : isStar a' = false) :
    PE X (.Call (.Name "isinstance" p) [a', .Name x p'] [] pos) (tI X.K C W (.isa t a)) := by
  refine PE.imp (pe_callB call_isi hg hm boot_isinstance (pa_cons ha (pa_cons (pe_bltn (v := .ty t.py) hgx hmx hvx rfl hn hd) pa_nil) (star_ok hs)) (he := star_ok hs)) fun σ H Q h => ?_
  obtain ⟨F, e, R, P⟩ := h
  refine ⟨F, e, R, (Post.run P).mono fun d e1 F1 H1 _ R1 X1 P1 v rv => ?_⟩
  obtain ⟨z, hz, P2⟩ := Post.of_ P1
  cases q : res e1 d with
  | none => rw [q] at hz; cases hz
  | some d' =>
    rw [q] at hz
    cases hz
    have rh := RepH.of_res R1 rv q
    exact ⟨v, .ty t.py, _, _, _, rfl, .ty _, rh.tyX R1.sub, kit_ty _ t d' (fun i z => by subst z; exact rh.own_), Post.of_ok R1 P2 _ (Rep.bl _).v⟩
end
end Mi
end

section
set_option Elab.async false
set_option linter.all false
set_option maxRecDepth 100000
set_option maxHeartbeats 4000000
set_option autoImplicit false
/-! Mi11: methods. -/
namespace Mi
open PySem L2 PySem.Spec PyProof.Rows
variable [TbT]
section
variable {X : Cx} {C : Ct} {W : WX} {pos : Pos}
def notSuper : Expr → Bool
  | .Call _ _ _ _ => false
  | _ => true
theorem base_of {o : Expr} {m : Str} {env : Env} {w : Sem Value} (h : notSuper o = true) : attributeBase o m env w = w := by
  cases o <;> first | rfl | cases h
theorem stars_len {env : Env} : ∀ (es : List Expr), (starEach es env).length = es.length
  | [] => rfl
  | e :: es => by
    cases e <;> exact congrArg (· + 1) (stars_len es)
theorem few_of {cpos : Pos} {env : Env} {es : List Expr} (h : noStars es = true) (hl : es.length < 29) : ((backTo cpos (starEach es env)).all (fun x => !x.1) && (backToKw cpos (keywordEach [] env)).all (fun x => x.1.isSome)
      && decide (es.length + ([] : List Keyword).length + (if ([] : List Keyword).isEmpty then 0 else 1) < 30)) = true := by
  rw [stars_all h]
  show (true && true && decide (es.length + 0 + 0 < 30)) = true
  simp
  omega
def mtT : Mt → String
  | .get1 => "dict"
  | .get2 => "dict"
  | .split => "str"
  | .join => "str"
theorem mt_ty {K : PySem.W.Frag} {F : Fp} {H : Hp} (s : Le F.h H) {m : Mt} {v : V} {o : Option D} {d : D} (ho : o = some d) (h : mtTy m o = true) (r : RepH K F H v d) : tyV K (mtT m) v H := by
  subst ho
  cases m <;> cases d <;> first | (cases h; done) | skip
  · obtain ⟨a, kvs, rfl, h1, _⟩ := r.dic_ s
    exact .inr (.inr (.inl ⟨rfl, .inl ⟨_, h1⟩⟩))
  · obtain ⟨a, kvs, rfl, h1, _⟩ := r.dic_ s
    exact .inr (.inr (.inl ⟨rfl, .inl ⟨_, h1⟩⟩))
  · obtain ⟨rfl, _⟩ := r.str_
    rfl
  · obtain ⟨rfl, _⟩ := r.str_
    rfl
theorem dget_rep {K : PySem.W.Frag} {F : Fp} {kvs : List (Key × V)} {ks : List (Key × D)} (q : RepK K F kvs ks) (k : Key) {w : V} {z : D} (r : Rep K F w z) : Rep K F ((valV kvs k).getD w) ((dget ks k).getD z) := by
  cases e : dget ks k with
  | none => rw [q.get_none e]; exact r
  | some d =>
    obtain ⟨v, h1, h2⟩ := q.get_some e
    rw [h1]
    exact h2
theorem mr_get1 (hu : X.A.units + 1 < cLine) : MtR X "dict.get" (rMt X.K .get1) := by
  intro pins s σ H v vs v' us Q I r1 r2 h
  obtain ⟨F, x, ds, z, sub, hx, hd, e, g⟩ := h
  obtain ⟨d, rfl, e⟩ := one_inv (show one (getD1 x) ds = some z from e)
  obtain ⟨w, rfl, hw⟩ := reps_one (show Reps X.K F vs [d] from hd)
  cases x with
  | dic ks =>
    have e : (dk d).map (fun k => (dget ks k).getD .non) = some z := e
    cases hk : dk d with
    | none => rw [hk] at e; cases e
    | some k =>
      rw [hk] at e
      cases e
      rw [dk_eq hk] at hw
      cases Rep.key (RepH.tree (H := H) (by cases k <;> rfl) hw)
      obtain ⟨a, kvs, rfl, s1, q1⟩ := hx.dic_ sub
      cases (show v' = Value.ref a from r1)
      obtain ⟨u, rfl, ru⟩ := r2.one
      exact d_get1 hu I (DGet.k s1) ru fun w' s' I' rw' => ⟨_, H, I', rw', g.same (dget_rep q1 k .non)⟩
  | _ => cases e
theorem mr_get2 (hu : X.A.units + 1 < cLine) : MtR X "dict.get" (rMt X.K .get2) := by
  intro pins s σ H v vs v' us Q I r1 r2 h
  obtain ⟨F, x, ds, z, sub, hx, hd, e, g⟩ := h
  obtain ⟨d, d2, rfl, e⟩ := two_inv (show two (getD2 x) ds = some z from e)
  obtain ⟨w, w2, rfl, hw, hw2⟩ := reps_two (show Reps X.K F vs [d, d2] from hd)
  cases x with
  | dic ks =>
    have e : (dk d).map (fun k => (dget ks k).getD d2) = some z := e
    cases hk : dk d with
    | none => rw [hk] at e; cases e
    | some k =>
      rw [hk] at e
      cases e
      rw [dk_eq hk] at hw
      cases Rep.key (RepH.tree (H := H) (by cases k <;> rfl) hw)
      obtain ⟨a, kvs, rfl, s1, q1⟩ := hx.dic_ sub
      cases (show v' = Value.ref a from r1)
      obtain ⟨u, u2, rfl, ru, ru2⟩ := r2.two
      exact d_get2 hu I (DGet.k s1) ru ru2 fun w' s' I' rw' => ⟨_, H, I', rw', g.same (dget_rep q1 k hw2)⟩
  | _ => cases e
theorem argm_rep {K : PySem.W.Frag} {F : Fp} {H : Hp} {e : En} {σ : L2.St} (R : Rel K F e σ H) {m : Mt} {vs : List V} {ds ds' : List D} (r : Reps K F vs ds) (h : argm m e ds = some ds') : RepA K F H m vs ds' := by
  cases m with
  | join => exact Reps.res R r h
  | _ => cases h; exact r
theorem n_mt {m : Mt} {o : CE} {es : CEs} {o' e1 : Expr} {es' : List Expr} {name : Str} {id : String} {apos cpos : Pos} (rule : MtR X id (rMt X.K m)) (pa : PlainAttrs (mtT m)) (slot : Slot (mtT m) name id) (hty : typeOf (.builtin id) = pure (.type "method_descriptor"))
    (ho : PE X o' (tI X.K C W o)) (ha : PA X (e1 :: es') (tA X.K C W es)) (h1 : notSuper o' = true) (h2 : noStars (e1 :: es') = true) (h3 : (e1 :: es').length < 29) (h4 : (apos.endLine == cpos.line) = true) :
    PE X (.Call (.Attribute o' name apos) (e1 :: es') [] cpos) (tI X.K C W (.mt m o es)) := by
  have hs' : (!isStar e1 && noStars es') = true := h2
  rw [Bool.and_eq_true] at hs'
  refine PE.imp (pe_bm pa slot hty rule ho ha (base_of h1) (few_of h2 h3) h4 (star_ok (by simpa using hs'.1)) (stars_any hs'.2)) fun σ H Q h => ?_
  obtain ⟨F, e, R, P⟩ := h
  refine ⟨F, e, R, (Post.run P).mono fun x e1 F1 H1 _ R1 X1 P1 v rv => ?_⟩
  have P1 : Post X.K C W F1 H1 σ (if mtTy m (res e1 x) = true then (evEs C.cs C.cal es e1).bind fun ds e => .of ((res e x).bind fun x => (argm m e ds).bind fun ds => Mi.mt m x ds) e else .er) _ := P1
  split at P1
  · rename_i ht
    cases hx : res e1 x with
    | none => rw [hx] at ht; cases m <;> cases ht
    | some d =>
      refine ⟨mt_ty R1.sub hx ht (RepH.of_res R1 rv hx), F1, e1, R1, (Post.run P1).mono fun ds e2 F2 H2 _ R2 X2 P2 vs rvs => ?_⟩
      obtain ⟨z, hz, P3⟩ := Post.of_ P2
      obtain ⟨x', ds', hx', hd', hz⟩ := bind2 hz
      exact ⟨F2, x', ds', z, R2.sub, RepH.of_res R2 (rv.up X2.le) hx', argm_rep R2 rvs hd', hz, P3.go R2⟩
  · exact P1.elim
/-! ### methods that change a cell -/
theorem cell_ {K : PySem.W.Frag} {F : Fp} {H : Hp} {e : En} {σ : L2.St} (R : Rel K F e σ H) {x : D} {v : V} (r : Rep K F v x) (h : (cellL e x).isSome = true) : ∃ i a xs vs, x = .own i ∧ v = .ref a ∧ F.al[i]? = some a ∧ e.st[i]? = some (.lst xs) ∧ H a = some (.lst vs) ∧ Reps K F vs xs := by
  cases x with
  | own i =>
    have h : (match e.st[i]? with
      | some (Own.lst xs) => some (i, xs)
      | _ => none).isSome = true := h
    split at h
    · rename_i xs q
      cases r with
      | own ha =>
        obtain ⟨_, ho, h1, h2⟩ := R.cell ha q
        cases h2 with
        | lst r => exact ⟨i, _, xs, _, rfl, rfl, ha, q, h1, r⟩
    · cases h
  | _ => cases h
theorem mu_go {K : PySem.W.Frag} {W : WX} {F : Fp} {H : Hp} {e : En} {σ : L2.St} {m : Mu} {x : D} {v : V} {ds : List D} {vs : List V} {Q : VK} (R : Rel K F e σ H) (rx : Rep K F v x) (rv : Reps K F vs ds)
    (P : Post K C W F H σ (Mi.R.pair (muR m x ds e)) fun d _ F' H' => ∀ v, Rep K F' v d → Q v H') : rMu K m v vs H Q := by
  cases x with
  | own i =>
    cases rx with
    | @own _ a ha =>
      have P : Post K C W F H σ (Mi.R.pair ((e.st[i]?).bind fun o => (Mi.mu m o ds).map fun p => (p.1, { e with st := e.st.set i p.2 }))) (fun d _ F' H' => ∀ v, Rep K F' v d → Q v H') := P
      cases q : e.st[i]? with
      | none => rw [q] at P; exact P.elim
      | some o =>
        rw [q] at P
        have P : Post K C W F H σ (Mi.R.pair ((Mi.mu m o ds).map fun p => (p.1, { e with st := e.st.set i p.2 }))) (fun d _ F' H' => ∀ v, Rep K F' v d → Q v H') := P
        cases hm : Mi.mu m o ds with
        | none => rw [hm] at P; exact P.elim
        | some p =>
          rw [hm] at P
          obtain ⟨_, ho, h1, h2⟩ := R.cell ha q
          exact ⟨F, a, ho, o, ds, p.1, p.2, R.sub, rfl, h1, h2, rv, hm, fun w ho' r1 r2 => P F _ (R.write ha r1) (Rel.write_ext ha) w r2⟩
  | _ => exact P.elim
theorem n_mu {m : Mu} {o : CE} {es : CEs} {o' e1 : Expr} {es' : List Expr} {name : Str} {id : String} {apos cpos : Pos} (rule : MtM X id (rMu X.K m)) (slot : Slot "list" name id) (hty : typeOf (.builtin id) = pure (.type "method_descriptor"))
    (ho : PE X o' (tI X.K C W o)) (ha : PA X (e1 :: es') (tA X.K C W es)) (h1 : notSuper o' = true) (h2 : noStars (e1 :: es') = true) (h3 : (e1 :: es').length < 29) (h4 : (apos.endLine == cpos.line) = true) :
    PE X (.Call (.Attribute o' name apos) (e1 :: es') [] cpos) (tI X.K C W (.mu m o es)) := by
  have hs' : (!isStar e1 && noStars es') = true := h2
  rw [Bool.and_eq_true] at hs'
  refine PE.imp (pe_bm PySem.F.plainAttrs_list slot hty rule ho ha (base_of h1) (few_of h2 h3) h4 (star_ok (by simpa using hs'.1)) (stars_any hs'.2)) fun σ H Q h => ?_
  obtain ⟨F, e, R, P⟩ := h
  refine ⟨F, e, R, (Post.run P).mono fun x e1 F1 H1 _ R1 X1 P1 v rv => ?_⟩
  have P1 : Post X.K C W F1 H1 σ (if (cellL e1 x).isSome = true then (evEs C.cs C.cal es e1).bind fun ds e => .pair (muR m x ds e) else .er) _ := P1
  split at P1
  · rename_i ht
    obtain ⟨i, a, xs, vs, rfl, rfl, ha, hs, hH, hr⟩ := cell_ R1 rv ht
    exact ⟨.inl ⟨rfl, vs, .of hH⟩, F1, e1, R1, (Post.run P1).mono fun ds e2 F2 H2 _ R2 X2 P2 vs rvs => mu_go R2 (rv.up X2.le) rvs P2⟩
  · exact P1.elim
theorem n_mu0 {m : Mu} {o : CE} {o' : Expr} {name : Str} {id : String} {apos cpos : Pos} (rule : MtM X id (rMu X.K m)) (slot : Slot "list" name id) (hty : typeOf (.builtin id) = pure (.type "method_descriptor"))
    (ho : PE X o' (tI X.K C W o)) (h1 : notSuper o' = true) (h4 : (apos.endLine == cpos.line) = true) :
    PE X (.Call (.Attribute o' name apos) [] [] cpos) (tI X.K C W (.mu m o .nil)) := by
  refine PE.imp (pe_bm0 PySem.F.plainAttrs_list slot hty rule ho (base_of h1) h4) fun σ H Q h => ?_
  obtain ⟨F, e, R, P⟩ := h
  refine ⟨F, e, R, (Post.run P).mono fun x e1 F1 H1 _ R1 X1 P1 v rv => ?_⟩
  have P1 : Post X.K C W F1 H1 σ (if (cellL e1 x).isSome = true then .pair (muR m x [] e1) else .er) _ := P1
  split at P1
  · rename_i ht
    obtain ⟨i, a, xs, vs, rfl, rfl, ha, hs, hH, hr⟩ := cell_ R1 rv ht
    exact ⟨.inl ⟨rfl, vs, .of hH⟩, mu_go R1 rv .nil P1⟩
  · exact P1.elim
/-! ### a new list or dict -/
/-- a list or dict just made -/
def tF (K : PySem.W.Frag) (C : Ct) (W : WX) (c : CE) : TE := fun σ H Q => ∃ F e, Rel K F e σ H ∧ Post K C W F H σ (evE C.cs C.cal c e) (fun d _ F' H' => ∀ p o ho, H p = none → H' p = some ho → F'.h p = none → p ∉ F'.al → d = o.d → RepO K F' ho o → Q (.ref p) H')
theorem RepO.top {K : PySem.W.Frag} {F : Fp} {p : Addr} {ho : HO} {o : Own} (r : RepO K F ho o) (h : F.h p = none) : Rep K (F.put p ho) (.ref p) o.d := by
  cases r with
  | lst q => exact .lst (.of upd_same) (q.up (fle_put h))
  | dic q => exact .dic upd_same (RepK.mono (fle_put h) _ _ q)
theorem frz_of {K : PySem.W.Frag} {c : CE} {σ : L2.St} {H : Hp} {Q : VK} (h : tI K C W c σ H Q) : tF K C W c σ H Q := by
  obtain ⟨F, e, R, P⟩ := h
  refine ⟨F, e, R, ?_⟩
  cases hr : evE C.cs C.cal c e with
  | ok d e' =>
    rw [hr] at P
    intro F' H' R' X' p o ho h0 h1 h2 h3 hd r
    subst hd
    have z := P (F'.put p ho) H' (by
      have z := R'.lay (o := ho) h2 h3 (r.plain h1) r.ntb
      rw [upd_self h1] at z
      exact z) (by
      have z := X'.lay (o := ho) h0 h2
      rw [upd_self h1] at z
      exact z)
    exact z _ (r.top h2)
  | exc x e' => rw [hr] at P; exact P
  | er => rw [hr] at P; exact P.elim
theorem n_frz {c : CE} {c' : Expr} (h : PE X c' (tF X.K C W c)) : PE X c' (tI X.K C W c) := PE.imp h fun _ _ _ h => frz_of h
theorem new_of {K : PySem.W.Frag} {c : CE} {σ : L2.St} {H : Hp} {Q : VK} (h : tI K C W (.new c) σ H Q) : tF K C W c σ H Q := by
  obtain ⟨F, e, R, P⟩ := h
  refine ⟨F, e, R, ?_⟩
  have P : Post K C W F H σ ((evE C.cs C.cal c e).bind fun x e => Mi.R.pair (newC e x)) _ := P
  cases hr : evE C.cs C.cal c e with
  | ok d e' =>
    rw [hr] at P
    intro F' H' R' X' p o ho h0 h1 h2 h3 hd r
    subst hd
    have ha : (F'.new p).al[e'.st.length]? = some p := by
      show (F'.al ++ [p])[e'.st.length]? = some p
      rw [← R'.sl, List.getElem?_append_right (Nat.le_refl _), Nat.sub_self]
      rfl
    cases r with
    | @lst xs ds q => exact P (F'.new p) H' (R'.newC h1 h2 h3 (.lst q)) (X'.newC h0) _ (.own ha)
    | @dic xs ds q => exact P (F'.new p) H' (R'.newC h1 h2 h3 (.dic q)) (X'.newC h0) _ (.own ha)
  | exc x e' => rw [hr] at P; exact P
  | er => rw [hr] at P; exact P.elim
theorem n_new {c : CE} {c' : Expr} (h : PE X c' (tF X.K C W c)) : PE X c' (tI X.K C W (.new c)) := PE.imp h fun _ _ _ h => new_of h
/-- what is wanted of a new list or dict -/
def GoN (K : PySem.W.Frag) (F : Fp) (H : Hp) (Q : VK) (z : D) : Prop := ∀ p o ho, H p = none → z = o.d → RepO K F ho o → Q (.ref p) (upd H p ho)
theorem GoN.l {K : PySem.W.Frag} {F : Fp} {H : Hp} {Q : VK} {ds : List D} (g : GoN K F H Q (.lst ds)) {xs : List V} (r : Reps K F xs ds) : ∀ p, H p = none → Q (.ref p) (upd H p (.lst xs)) := fun p h => g p (.lst ds) _ h rfl (.lst r)
theorem GoN.k {K : PySem.W.Frag} {F : Fp} {H : Hp} {Q : VK} {ds : List (Key × D)} (g : GoN K F H Q (.dic ds)) {xs : List (Key × V)} (r : RepK K F xs ds) : ∀ p, H p = none → Q (.ref p) (upd H p (.dK xs)) := fun p h => g p (.dic ds) _ h rfl (.dic r)
/-- from the fresh result's Post -/
theorem goN_of {K : PySem.W.Frag} {F0 F : Fp} {H0 H : Hp} {e : En} {σ : L2.St} {d : D} {Q : VK} (R : Rel K F e σ H) (X : Ext F0 H0 F H)
    (P : ∀ F' H', Rel K F' e σ H' → Ext F H F' H' → ∀ p o ho, H0 p = none → H' p = some ho → F'.h p = none → p ∉ F'.al → d = o.d → RepO K F' ho o → Q (.ref p) H') : GoN K F H Q d := fun p o ho h hd r => by
  have h0 : H0 p = none := by
    cases q : H0 p with
    | none => rfl
    | some u => exact absurd h (X.there p (by rw [q]; exact nofun))
  exact P F (upd H p ho) (R.grow h) (grow_ext h) p o ho h0 upd_same (R.fnone h) (R.alne h) hd r
theorem f_lst {es : CEs} {es' : List Expr} (h : PA X es' (tA X.K C W es)) : PE X (.List es' pos) (tF X.K C W (.lst es)) := by
  refine PE.imp (pe_lst h) fun σ H Q h => ?_
  obtain ⟨F, e, R, P⟩ := h
  refine ⟨F, e, R, (Post.run P).mono fun ds e1 F1 H1 _ R1 X1 P1 vs rvs => ?_⟩
  have P1 : Post X.K C W F1 H1 σ (if ds.length ≤ 1000 then Mi.R.ok (D.lst ds) e1 else Mi.R.er) _ := P1
  split at P1
  · rename_i hp
    exact ⟨by rw [rvs.length]; exact Nat.le_trans hp (by decide), (goN_of R1 X1 P1).l rvs⟩
  · exact P1.elim
end
end Mi
end

section
set_option Elab.async false
set_option linter.all false
set_option maxRecDepth 100000
set_option maxHeartbeats 4000000
set_option autoImplicit false
/-! Mi12: new dicts and lists. -/
namespace Mi
open PySem L2 PySem.Spec PyProof.Rows
variable [TbT]
section
variable {X : Cx} {C : Ct} {W : WX} {pos : Pos}
def prs (K : PySem.W.Frag) (C : Ct) (W : WX) : CKs → List (TE × TE)
  | .nil => []
  | .cons k v r => (tI K C W k, tI K C W v) :: prs K C W r
theorem key_len {K : PySem.W.Frag} {F : Fp} {v : V} {k : Key} (h : Rep K F v (kd k)) : ∀ x, k = .inr x → x.length ≤ sizeLine := fun x e => by
  subst e
  cases h with
  | str _ h => exact h
theorem key_v {K : PySem.W.Frag} {F : Fp} {v : V} {k : Key} (h : Rep K F v (kd k)) : v = kV k := by
  cases k with
  | inl i => cases h; rfl
  | inr x => cases h; rfl
theorem tp {K : PySem.W.Frag} {σ : L2.St} : ∀ (ks : CKs) (F : Fp) (e : En) (H : Hp) (Q : List (V × V) → Hp → Prop), Rel K F e σ H →
    Post K C W F H σ (evKs C.cs C.cal ks e) (fun kvs _ F' H' => ∀ xs : List (Key × V), RepK K F' xs kvs → Q (xs.map fun kv => (kV kv.1, kv.2)) H') → tPairs (prs K C W ks) σ H Q
  | .nil, F, e, H, Q, R, P => Post.of_ok R P [] .nil
  | .cons k v r, F, e, H, Q, R, P => by
    refine ⟨F, e, R, (Post.run P).mono fun x e1 F1 H1 _ R1 X1 P1 u ru => ?_⟩
    refine ⟨F1, e1, R1, (Post.run P1).mono fun y e2 F2 H2 _ R2 X2 P2 w rw' => ?_⟩
    have P2 : Post K C W F2 H2 σ (match dk x with
      | some x => (evKs C.cs C.cal r e2).bind fun kvs e => Mi.R.ok ((x, y) :: kvs) e
      | none => Mi.R.er) _ := P2
    split at P2
    · rename_i k' hk
      have ru2 := ru.up X2.le
      rw [dk_eq hk] at ru2
      refine tp r F2 e2 H2 _ R2 ((Post.run P2).mono fun kvs e3 F3 H3 _ R3 X3 P3 xs rxs => ?_)
      have ru3 := ru2.up X3.le
      have z := Post.of_ok R3 P3 ((k', w) :: xs) (.cons (key_len ru3) (rw'.up X3.le) rxs)
      rw [List.map_cons] at z
      rw [key_v ru3]
      exact z
    · exact P2.elim
/-- {k: v, ..} -/
theorem f_dict {ks : CKs} {keys : List (Option Expr)} {values : List Expr} (h : PPs X pos keys values (prs X.K C W ks)) (hall : keys.all (·.isSome) = true) (hl : keys.length = values.length) (h0 : keys ≠ []) (h15 : keys.length ≤ 15) :
    PE X (.Dict keys values pos) (tF X.K C W (.dict ks)) := by
  refine PE.imp (pe_disp h hall hl h0 h15) fun σ H Q h => ?_
  obtain ⟨F, e, R, P⟩ := h
  intro p hp
  have R0 := R.grow (o := .dK []) hp
  have X0 := grow_ext (F := F) (o := .dK []) hp
  have hn : p ∉ F.al := R.alne hp
  refine tp ks F e _ _ R0 ?_
  have P : Post X.K C W F H σ ((evKs C.cs C.cal ks e).bind fun kvs e => if kvs.length ≤ 15 then Mi.R.ok (D.dic (dmerge [] kvs)) e else Mi.R.er) _ := P
  cases hr : evKs C.cs C.cal ks e with
  | ok kvs e1 =>
    rw [hr] at P
    have P : Post X.K C W F H σ (if kvs.length ≤ 15 then Mi.R.ok (D.dic (dmerge [] kvs)) e1 else Mi.R.er) _ := P
    intro F1 H1 R1 X1 xs rxs
    refine ⟨X1.keep p _ upd_same hn (fun ps z => by cases z), xs, rfl, ?_⟩
    split at P
    · rename_i hz
      refine ⟨by rw [rxs.length]; exact hz, ?_⟩
      have hf1 : F1.h p = none := (X1.new p (by rw [upd_same]; exact nofun)).trans (R.fnone hp)
      have hn1 : p ∉ F1.al := fun m => (X1.ow p m).elim hn fun z => by rw [upd_same] at z; cases z
      exact P F1 _ (R1.side hf1 hn1 (plain_dK (X1.keep p _ upd_same hn fun ps z => by cases z))) ((X0.trans X1).side hp) p (.dic (dmerge [] kvs)) _ hp upd_same hf1 hn1 rfl (.dic (RepK.merge rxs .nil))
    · exact P.elim
  | exc x e1 =>
    rw [hr] at P
    exact fun F' H' c fd R' X' => P F' H' c fd R' (X0.trans X')
  | er =>
    rw [hr] at P
    exact P.elim
theorem f_dict0 : PE X (.Dict [] [] pos) (tF X.K C W (.dict .nil)) := by
  refine PE.imp pe_dnewK fun σ H Q h => ?_
  obtain ⟨F, e, R, P⟩ := h
  exact (goN_of R .refl (P : Post X.K C W F H σ (Mi.R.ok (D.dic []) e) _)).k .nil
/-! ### built-in functions that make a list or dict -/
def rBiN (K : PySem.W.Frag) (b : BI) : List V → Hp → VK → Prop := fun vs H Q => ∃ F ds z, Le F.h H ∧ RepHs K F H vs ds ∧ Mi.bi b ds = some z ∧ GoN K F H Q z
theorem cbN_list (hc : X.calm = true) : CallR X (.type "list") (rBiN X.K .list) := by
  intro pins s σ H vs us Q I r h
  obtain ⟨F, ds, z, sub, hd, e, g⟩ := h
  obtain ⟨d, rfl, e⟩ := one_inv e
  obtain ⟨v, rfl, hv⟩ := hd.one
  cases d with
  | lst xs =>
    cases e
    obtain ⟨a, ws, rfl, s1, q1⟩ := hv.lst_ sub
    exact call_list_of pins s σ H _ _ Q I r ⟨a, ws, rfl, .inl s1, g.l q1⟩
  | tup xs =>
    cases e
    obtain ⟨a, ws, rfl, s1, q1⟩ := hv.tup_ sub
    exact call_list_of pins s σ H _ _ Q I r ⟨a, ws, rfl, .inr s1, g.l q1⟩
  | dic ks =>
    cases e
    obtain ⟨a, ws, rfl, s1, q1⟩ := hv.dic_ sub
    exact call_listD hc pins s σ H _ _ Q I r ⟨a, ws, rfl, .of s1, g.l (keys_reps q1)⟩
  | _ => cases e
theorem cbN_dict (hc : X.calm = true) : CallR X (.type "dict") (rBiN X.K .dict) := by
  intro pins s σ H vs us Q I r h
  obtain ⟨F, ds, z, sub, hd, e, g⟩ := h
  obtain ⟨d, rfl, e⟩ := one_inv e
  obtain ⟨v, rfl, hv⟩ := hd.one
  cases d with
  | lst xs =>
    have e : (pairsOf xs).map (fun kvs => D.dic (dmerge [] kvs)) = some z := e
    cases q : pairsOf xs with
    | none => rw [q] at e; cases e
    | some ks =>
      rw [q] at e
      cases e
      obtain ⟨a, ws, rfl, s1, q1⟩ := hv.lst_ sub
      obtain ⟨ps, kvs, rfl, h2, h3⟩ := pairs_reps sub q1 q
      exact call_dictP hc pins s σ H _ _ Q I r ⟨a, ps, kvs, rfl, s1, h2, g.k (RepK.merge h3 .nil)⟩
  | _ => cases e
theorem f_biT {b : BI} {T : String} {x : Str} {es : CEs} {e1 : Expr} {es' : List Expr} {p : Pos} (hc : CallR X (.type T) (rBiN X.K b)) (hg : Gl X x) (hm : X.mg x = none) (hv : bootBuiltins x = some (.type T)) (ha : PA X (e1 :: es') (tA X.K C W es))
    (hn : x ≠ "__name__") (hd : (x == ("__debug__" : Str)) = false) (hs : noStars (e1 :: es') = true) : PE X (.Call (.Name x p) (e1 :: es') [] pos) (tF X.K C W (.bi b es)) := by
  have hs' : (!isStar e1 && noStars es') = true := hs
  rw [Bool.and_eq_true] at hs'
  refine PE.imp (pe_callTy hc hg hm hv ha hn hd (star_ok (by simpa using hs'.1)) (stars_any hs'.2)) fun σ H Q h => ?_
  obtain ⟨F, e, R, P⟩ := h
  refine ⟨F, e, R, (Post.run P).mono fun ds e1 F1 H1 _ R1 X1 P1 vs rvs => ?_⟩
  obtain ⟨z, hz, P2⟩ := Post.of_ P1
  obtain ⟨ds', hx, hz⟩ := bind1 hz
  exact ⟨F1, ds', z, R1.sub, Reps.res R1 rvs hx, hz, goN_of R1 X1 P2⟩
/-! ### list + list, a slice of a list -/
def rCatN (K : PySem.W.Frag) : R2 := fun v u H Q => ∃ F x y z, Le F.h H ∧ RepH K F H v x ∧ RepH K F H u y ∧ Mi.bin .add x y = some z ∧ GoN K F H Q z ∧ ∃ zs, z = .lst zs
theorem bin_lst {x y : D} {zs : List D} (e : Mi.bin .add x y = some (.lst zs)) : ∃ xs ys, x = .lst xs ∧ y = .lst ys := by
  cases x <;> cases y <;> first | (cases e; done) | exact ⟨_, _, rfl, rfl⟩ | skip
  · have e : (if _ then some (D.str _) else none) = some (D.lst zs) := e
    split at e <;> cases e
  · have e : (if _ then some (D.tup _) else none) = some (D.lst zs) := e
    split at e <;> cases e
theorem or_catN : OpR X (binaryOp .Add) (rCatN X.K) := by
  intro pins s σ H v u v' u' Q I r1 r2 h
  obtain ⟨F, x, y, z, sub, hx, hy, e, g, zs, rfl⟩ := h
  obtain ⟨xs, ys, rfl, rfl⟩ := bin_lst e
  have e : (if xs.length + ys.length ≤ sizeLine then some (D.lst (xs ++ ys)) else none) = some (.lst zs) := e
  split at e <;> cases e
  rename_i hz
  obtain ⟨a, vs, rfl, s1, q1⟩ := hx.lst_ sub
  obtain ⟨b, ws, rfl, s2, q2⟩ := hy.lst_ sub
  exact op_catL pins s σ H _ _ _ _ Q I r1 r2 ⟨a, b, vs, ws, rfl, rfl, s1, s2, by rw [q1.length, q2.length]; exact hz, g.l (q1.append q2)⟩
/-- only lists are wanted -/
def evL (cs : List D) (cal : Cal) (c : CE) (e : En) : R D := (evE cs cal c e).bind fun x e => match x with
  | .lst xs => .ok (.lst xs) e
  | .dic xs => .ok (.dic xs) e
  | _ => .er
def tN (K : PySem.W.Frag) (C : Ct) (W : WX) (c : CE) : TE := fun σ H Q => ∃ F e, Rel K F e σ H ∧ Post K C W F H σ (evL C.cs C.cal c e) (fun d _ F' H' => ∀ p o ho, H p = none → H' p = some ho → F'.h p = none → p ∉ F'.al → d = o.d → RepO K F' ho o → Q (.ref p) H')
theorem n_newN {c : CE} {c' : Expr} (h : PE X c' (tN X.K C W c)) : PE X c' (tI X.K C W (.new c)) := by
  refine PE.imp h fun σ H Q h => ?_
  obtain ⟨F, e, R, P⟩ := h
  refine ⟨F, e, R, ?_⟩
  have P : Post X.K C W F H σ ((evE C.cs C.cal c e).bind fun x e => Mi.R.pair (newC e x)) _ := P
  show Post X.K C W F H σ ((evE C.cs C.cal c e).bind _) _
  cases hr : evE C.cs C.cal c e with
  | ok d e' =>
    rw [hr] at P
    have ha : ∀ {F' : Fp} {H' : Hp} {p : Addr}, Rel X.K F' e' σ H' → (F'.new p).al[e'.st.length]? = some p := fun {F' H' p} R' => by
      show (F'.al ++ [p])[e'.st.length]? = some p
      rw [← R'.sl, List.getElem?_append_right (Nat.le_refl _), Nat.sub_self]
      rfl
    cases d with
    | lst xs =>
      intro F' H' R' X' p o ho h0 h1 h2 h3 hd r
      cases r with
      | lst q =>
        cases hd
        exact P (F'.new p) H' (R'.newC h1 h2 h3 (.lst q)) (X'.newC h0) _ (.own (ha R'))
      | dic q => cases hd
    | dic xs =>
      intro F' H' R' X' p o ho h0 h1 h2 h3 hd r
      cases r with
      | dic q =>
        cases hd
        exact P (F'.new p) H' (R'.newC h1 h2 h3 (.dic q)) (X'.newC h0) _ (.own (ha R'))
      | lst q => cases hd
    | _ => exact P.elim
  | exc x e' => rw [hr] at P; exact P
  | er => rw [hr] at P; exact P.elim
theorem N_cat {a b : CE} {a' b' : Expr} (ha : PE X a' (tI X.K C W a)) (hb : PE X b' (tI X.K C W b)) : PE X (.BinOp a' .Add b' pos) (tN X.K C W (.bin .add a b)) := by
  refine PE.imp (pe_op or_catN ha hb) fun σ H Q h => ?_
  obtain ⟨F, e, R, P⟩ := h
  have P := Post.run (Post.run P)
  refine ⟨F, e, R, P.mono fun x e1 F1 H1 _ R1 X1 P1 v rv => ?_⟩
  refine ⟨F1, e1, R1, (Post.run P1).mono fun y e2 F2 H2 _ R2 X2 P2 u ru => ?_⟩
  cases hz : ((res e2 x).bind fun x => (res e2 y).bind fun y => Mi.bin .add x y) with
  | none => rw [hz] at P2; exact P2.elim
  | some z =>
    rw [hz] at P2
    have P3 := Post.of_ok R2 P2
    obtain ⟨x', y', hx, hy, hz'⟩ := bind2 hz
    cases z with
    | lst zs => exact ⟨F2, x', y', _, R2.sub, RepH.of_res R2 (rv.up X2.le) hx, RepH.of_res R2 ru hy, hz', goN_of R2 (X1.trans X2) P3, zs, rfl⟩
    | dic zs => cases x' <;> cases y' <;> first | (cases hz'; done) | (exact absurd hz' (by show (if _ then some _ else none) ≠ some _; split <;> nofun))
    | _ => exact P3.elim
def rSlN (K : PySem.W.Frag) : V → Option Int → Option Int → Hp → VK → Prop := fun v lo hi H Q => ∃ F x z, Le F.h H ∧ RepH K F H v x ∧ Mi.slc x lo hi = some z ∧ GoN K F H Q z ∧ ∃ zs, z = .lst zs
theorem sl_N : SlR X (rSlN X.K) := by
  intro pins s σ H v v' vl vu lo hi sl Q I r1 hs pl pu h
  obtain ⟨F, x, z, sub, hx, e, g, zs, rfl⟩ := h
  cases x with
  | lst ds =>
    cases e
    obtain ⟨a, vs, rfl, s1, q1⟩ := hx.lst_ sub
    exact sl_list pins s σ H _ _ vl vu lo hi sl Q I r1 hs pl pu ⟨a, vs, rfl, s1, g.l (reps_cut q1 lo hi)⟩
  | _ => cases e
theorem N_slc {a : CE} {lo hi : CEo} {a' : Expr} {lo' hi' : Option Expr} {p2 : Pos} (ha : PE X a' (tI X.K C W a)) (hl : PO X lo' (tO X.K C W lo)) (hh : PO X hi' (tO X.K C W hi)) : PE X (.Subscript a' (.Slice lo' hi' none p2) pos) (tN X.K C W (.slc a lo hi)) := by
  refine PE.imp (pe_slice sl_N ha hl hh) fun σ H Q h => ?_
  obtain ⟨F, e, R, P⟩ := h
  have P := Post.run (Post.run P)
  refine ⟨F, e, R, P.mono fun x e1 F1 H1 _ R1 X1 P1 v rv => ?_⟩
  refine ⟨F1, e1, R1, (Post.run P1).mono fun l e2 F2 H2 _ R2 X2 P2 => ?_⟩
  refine ⟨F2, e2, R2, (Post.run P2).mono fun h e3 F3 H3 _ R3 X3 P3 => ?_⟩
  cases hz : ((res e3 x).bind fun x => Mi.slc x l h) with
  | none => rw [hz] at P3; exact P3.elim
  | some z =>
    rw [hz] at P3
    have P4 := Post.of_ok R3 P3
    obtain ⟨x', hx, hz'⟩ := bind1 hz
    cases z with
    | lst zs => exact ⟨F3, x', _, R3.sub, RepH.of_res R3 (rv.up (X2.le.trans X3.le)) hx, hz', goN_of R3 ((X1.trans X2).trans X3) P4, zs, rfl⟩
    | dic zs => cases x' <;> cases hz'
    | _ => exact P4.elim
end
end Mi
end

section
set_option Elab.async false
set_option linter.all false
set_option maxRecDepth 100000
set_option maxHeartbeats 4000000
set_option autoImplicit false
/-! Mi13: targets. -/
namespace Mi
open PySem L2 PySem.Spec PySem.Calls PyProof.Rows
variable [TbT]
section
variable {prog : Program} {w : World} {A : Around} {E : Value → Shared → Prop} {s : Shared} {env : Env}
theorem starT {l : Addr} {items : Array Value} {n i : Nat} {Q : List Value → Shared → Prop} (hl : IsTup s.heap l items) (hh : A.handled = none) (hi : i < n) (hn : n ≤ items.size + 1) (hz : items.size ≤ 16384)
    (h : ∀ h₂ tk, Heap.ExtBut s.heap.objs.size s.heap h₂ → Q (items.toList.take i ++ [.ref h₂.objs.size] ++ (items.toList.drop i).drop (items.size + 1 - n)) { s with heap := h₂.push { cls := .type "list", data := .seq ((items.toList.drop i).take (items.size + 1 - n)).toArray }, toks := tk }) : wpAny (model prog w) A (unpackItems (.ref l) n (some i)) Q E s := by
  have hlt : l ≠ s.heap.objs.size := by obtain ⟨o, ho, _⟩ := hl; exact Nat.ne_of_lt (Heap.lt_size ho)
  have hll : l < s.heap.objs.size := by obtain ⟨o, ho, _⟩ := hl; exact Heap.lt_size ho
  unfold unpackItems
  refine wpAny_bind ?_
  unfold notIterableAtAll
  refine wpAny_bind (wpAny_specialOf hl.typeIs slot_tuple_iter.lookup ?_)
  refine wpAny_pure ?_
  simp only [Bool.false_eq_true, if_false]
  refine wpAny_bind (wpAny_holding (iter_tuple hl ?_))
  refine wpAny_bind (wpAny_holding (draw_tuple hlt i 0 _ _ ⟨_, Heap.get?_push_size _ rfl, rfl, rfl⟩ (hl.push _) (by omega) fun h₁ hit₁ hs₁ => ?_))
  have hl₁ : IsTup h₁ l items := (hl.push _).extBut hs₁.extBut hlt
  rw [Nat.zero_add] at hit₁
  have hit₁' := hit₁
  obtain ⟨oi, hoi, _⟩ := hit₁'
  have hl₁' := hl₁
  obtain ⟨ol, hol, _⟩ := hl₁'
  rw [List.drop_zero]
  have hfl : (items.toList.take i).length = i := by rw [List.length_take, Array.length_toList]; omega
  rw [if_neg (show ¬ ((items.toList.take i).length < i) by rw [hfl]; omega)]
  have hsz1 : s.heap.objs.size < h₁.objs.size := Heap.lt_size hoi
  refine wpAny_bind (wpAny_holding (PySem.W.kun_collect (s := { s with heap := h₁ }) (T := "tuple_iterator") (.inr (.inr (.inr rfl))) (Walks.tuple (A := A.in1) hh s.heap.objs.size l hlt items) (fun j u st => st.1.typeIs) (k := i) (by omega) ⟨hit₁, hl₁⟩ (Heap.lt_size hoi) (Heap.lt_size hol) (fun h₂ tk hk => ?_) (by rw [sizeLine_eq]; omega)))
  have hrl : (items.toList.drop i).length = items.size - i := by rw [List.length_drop, Array.length_toList]
  have hmid : (items.toList.drop i).length - (n - 1 - i) = items.size + 1 - n := by rw [hrl]; omega
  show wpAny _ _ (if (items.toList.drop i).length < n - 1 - i then _ else _) _ _ _
  rw [if_neg (by rw [hrl]; omega)]
  show wpAny _ _ (newList ((items.toList.drop i).take ((items.toList.drop i).length - (n - 1 - i))) >>= fun d => pure (items.toList.take i ++ [d] ++ (items.toList.drop i).drop ((items.toList.drop i).length - (n - 1 - i)))) _ _ _
  rw [hmid]
  have he : Heap.ExtBut s.heap.objs.size s.heap h₂ := fun b o hb e => hk b o hb (hs₁.extBut b o hb (Heap.get?_push_of_some _ e))
  refine wpAny_bind ?_
  unfold newList
  refine wpAny_newObj_type (wpAny_pure (h h₂ tk he)) ?_
  show (List.toArray _).size ≤ _
  rw [List.size_toArray, List.length_take, hrl, sizeLine_eq]
  omega
end
section
variable {X : Cx} {C : Ct} {W : WX} {pos : Pos}
/-- a, b, *r = a tuple of at least that length -/
def gStar (K : PySem.W.Frag) (n : Nat) (t : TGs) : TG := fun v σ H Q => ∃ a xs, v = .ref a ∧ SqT K H a xs ∧ n ≤ xs.length ∧ xs.length ≤ 16384 ∧ ∀ p, H p = none → t (xs.take n ++ [.ref p]) σ (upd H p (.lst (xs.drop n))) Q
theorem pgs_star {e : Expr} {t : TG} {p : Pos} (h1 : PG X e t) : PGs X [.Starred e p] (gCons t gNil) := by
  refine ⟨fun pins s σ H vs us Q I r h => ?_⟩
  obtain ⟨v, vr, e1, h⟩ := h
  subst e1
  cases r with
  | cons r rr =>
    show wpAny _ _ (assignInOrder (assign e X.env :: []) _) _ _ _
    refine assignInOrder_cons (L2.thn (h1.run pins s σ H _ _ _ I r h) fun _ s1 ⟨σ1, H1, I1, q1⟩ => ?_)
    exact pgs_nil.run pins s1 σ1 H1 _ _ Q I1 rr q1
theorem Vals.take {xs : List V} {us : List Value} (h : Vals xs us) (n : Nat) : Vals (xs.take n) (us.take n) := by
  induction h generalizing n with
  | nil => rw [List.take_nil, List.take_nil]; exact .nil
  | cons r t ih =>
    cases n with
    | zero => exact .nil
    | succ n => exact .cons r (ih n)
theorem Vals.drop {xs : List V} {us : List Value} (h : Vals xs us) (n : Nat) : Vals (xs.drop n) (us.drop n) := by
  induction h generalizing n with
  | nil => rw [List.drop_nil, List.drop_nil]; exact .nil
  | cons r t ih =>
    cases n with
    | zero => exact .cons r t
    | succ n => exact ih n
theorem Vals.app {xs ys : List V} {us ws : List Value} (h : Vals xs us) (g : Vals ys ws) : Vals (xs ++ ys) (us ++ ws) := by
  induction h with
  | nil => exact g
  | cons r t ih => exact .cons r ih
theorem pg_star {es : List Expr} {k n : Nat} {t : TGs} (hc : X.calm = true) (h : PGs X es t) (hn : (assignEach es X.env).length = n + 1) (hst : (assignEach es X.env).findIdx? (·.1) = some n) : PG X (.Tuple es k pos) (gStar X.K n t) := by
  refine ⟨fun pins s σ H v u Q I r hw => ?_⟩
  obtain ⟨a, xs, e1, hq, hl, h16, hw⟩ := hw
  subst e1
  cases r
  obtain ⟨its, rv, ht, hz⟩ := I.tuple hq
  have hlen := rv.length
  rw [PyProof.Rows.assign_Tuple]
  refine wpAny_bind (wpAny_standAt ?_)
  unfold unpack
  rw [hn, hst]
  refine wpAny_bind (wpAny_holding (starT ht (I.ok.hd hc) (Nat.lt_succ_self n) (by simp; omega) (by simp; omega) fun h₂ tk he => ?_))
  have I1 : Inv X pins σ H { s with heap := h₂, toks := tk } := I.kept fun b o e => he b o (Nat.ne_of_lt (Heap.lt_size e)) e
  have e0 : its.toArray.size + 1 - (n + 1) = xs.length - n := by simp; omega
  have hrest : ((its.toArray.toList.drop n).take (xs.length - n)) = its.drop n := by
    rw [show its.toArray.toList = its from rfl]
    exact List.take_of_length_le (by rw [List.length_drop]; omega)
  have hnil : ((its.toArray.toList.drop n).drop (xs.length - n)) = [] := by
    rw [show its.toArray.toList = its from rfl, List.drop_drop]
    exact List.drop_eq_nil_of_le (by omega)
  rw [e0, hrest, hnil, List.append_nil]
  have hp : H h₂.objs.size = none := I1.hok.fresh (Nat.le_refl _)
  have rd : Vals (xs.drop n) (its.drop n) := Mi.Vals.drop rv n
  have I2 := I1.lnew (t' := tk) rd (by rw [List.length_drop, sizeLine_eq]; omega)
  exact h.run pins _ σ _ _ _ Q I2 (Mi.Vals.app (Mi.Vals.take rv n) (.cons (show L2.RelV (V.ref h₂.objs.size) (.ref h₂.objs.size) from rfl) .nil)) (hw _ hp)
/-! ### targets by trees -/
mutual
def slots : CT → List Nat
  | .nm i => [i]
  | .tup ts => slotss ts
  | .star ts r => slotss ts ++ [r]
def slotss : List CT → List Nat
  | [] => []
  | t :: ts => slots t ++ slotss ts
end
def Chg (vs : List Nat) (σ σ' : L2.St) : Prop := σ'.length = σ.length ∧ ∀ i, i ∉ vs → σ'[i]? = σ[i]?
theorem Chg.refl {vs : List Nat} {σ : L2.St} : Chg vs σ σ := ⟨rfl, fun _ _ => rfl⟩
theorem Chg.trans {vs ws : List Nat} {σ σ1 σ2 : L2.St} (a : Chg vs σ σ1) (b : Chg ws σ1 σ2) : Chg (vs ++ ws) σ σ2 :=
  ⟨b.1.trans a.1, fun i h => by
    rw [List.mem_append, not_or] at h
    exact (b.2 i h.2).trans (a.2 i h.1)⟩
def gI (K : PySem.W.Frag) (t : CT) : TG := fun v σ H Q => ∃ F e d e', Rel K F e σ H ∧ Rep K F v d ∧ asg t d e = some e' ∧ ∀ F' H' σ', Rel K F' e' σ' H' → Ext F H F' H' → Chg (slots t) σ σ' → Q σ' H'
def gsI (K : PySem.W.Frag) (ts : List CT) : TGs := fun vs σ H Q => ∃ F e ds e', Rel K F e σ H ∧ Reps K F vs ds ∧ asgs ts ds e = some e' ∧ ∀ F' H' σ', Rel K F' e' σ' H' → Ext F H F' H' → Chg (slotss ts) σ σ' → Q σ' H'
/-- the last one starred -/
def gsS (K : PySem.W.Frag) (ts : List CT) (r : Nat) : TGs := fun vs σ H Q => ∃ F e ds z e', Rel K F e σ H ∧ (∃ ws u, vs = ws ++ [u] ∧ Reps K F ws ds ∧ Rep K F u z) ∧ ((asgs ts ds e).bind fun e => put r z e) = some e' ∧ ∀ F' H' σ', Rel K F' e' σ' H' → Ext F H F' H' → Chg (slotss ts ++ [r]) σ σ' → Q σ' H'
theorem PG.imp {e : Expr} {t t' : TG} (h : PG X e t) (f : ∀ v σ H Q, t' v σ H Q → t v σ H Q) : PG X e t' := ⟨fun pins s σ H v u Q I r q => h.run pins s σ H v u Q I r (f v σ H Q q)⟩
theorem PGs.imp {e : List Expr} {t t' : TGs} (h : PGs X e t) (f : ∀ v σ H Q, t' v σ H Q → t v σ H Q) : PGs X e t' := ⟨fun pins s σ H v u Q I r q => h.run pins s σ H v u Q I r (f v σ H Q q)⟩
theorem chg_set {i : Nat} {v : Option V} {σ : L2.St} : Chg [i] σ (σ.set i v) := ⟨List.length_set, fun j h => List.getElem?_set_ne fun z => h (by rw [z]; exact List.mem_singleton_self _)⟩
theorem g_nm {i : Nat} {x : Str} (hN : X.N.Nodup) (hi : X.N[i]? = some x) (hx : Loc X.env.scope x) (hf : X.fn x = true ∨ X.env.scope.names.lookup x = some .local) : PG X (.Name x pos) (gI X.K (.nm i)) :=
  PG.imp (pg_name hN hi hx hf) fun v σ H Q h => by
    obtain ⟨F, e, d, e', R, r, h1, h2⟩ := h
    exact h2 F H _ (R.put h1 r) .refl chg_set
theorem gs_nil : PGs X [] (gsI X.K []) := PGs.imp pgs_nil fun vs σ H Q h => by
  obtain ⟨F, e, ds, e', R, r, h1, h2⟩ := h
  cases ds with
  | cons d ds => cases h1
  | nil =>
    cases r
    cases h1
    exact ⟨rfl, h2 F H σ R .refl .refl⟩
theorem gs_cons {e1 : Expr} {es : List Expr} {t : CT} {ts : List CT} (h1 : PG X e1 (gI X.K t)) (h2 : PGs X es (gsI X.K ts)) (hs : isStar e1 = false) : PGs X (e1 :: es) (gsI X.K (t :: ts)) := by
  refine PGs.imp (pgs_cons h1 h2 (by cases e1 <;> first | rfl | cases hs)) fun vs σ H Q h => ?_
  obtain ⟨F, e, ds, e', R, r, ha, hq⟩ := h
  cases ds with
  | nil => cases ha
  | cons d ds =>
    cases r with
    | @cons v _ vs _ r1 r2 =>
      have ha : ((asg t d e).bind fun e => asgs ts ds e) = some e' := ha
      obtain ⟨e1, ha1, ha2⟩ := bind1 ha
      refine ⟨v, vs, rfl, F, e, d, e1, R, r1, ha1, fun F' H' σ' R' X' c' => ?_⟩
      refine ⟨F', e1, ds, e', R', r2.up X'.le, ha2, fun F2 H2 σ2 R2 X2 c2 => hq F2 H2 σ2 R2 (X'.trans X2) (c'.trans c2)⟩
theorem each_len {env : Env} : ∀ es : List Expr, (assignEach es env).length = es.length
  | [] => rfl
  | e :: es => by cases e <;> exact congrArg (· + 1) (each_len es)
theorem each_none {env : Env} : ∀ es : List Expr, noStars es = true → (assignEach es env).findIdx? (·.1) = none
  | [], _ => rfl
  | e :: es, h => by
    have h' : (!isStar e && noStars es) = true := h
    rw [Bool.and_eq_true] at h'
    have z : assignEach (e :: es) env = (false, assign e env) :: assignEach es env := by
      cases e <;> first | rfl | (exact absurd h'.1 Bool.false_ne_true)
    rw [z, List.findIdx?_cons, each_none es h'.2]
    rfl
theorem asgs_len : ∀ (ts : List CT) (ds : List D) (e e' : En), asgs ts ds e = some e' → ds.length = ts.length
  | [], [], _, _, _ => rfl
  | [], _ :: _, _, _, h => by cases h
  | _ :: _, [], _, _, h => by cases h
  | t :: ts, d :: ds, e, e', h => by
    have h : ((asg t d e).bind fun e => asgs ts ds e) = some e' := h
    obtain ⟨e1, _, h2⟩ := bind1 h
    exact congrArg (· + 1) (asgs_len ts ds _ _ h2)
theorem g_tup {es : List Expr} {k : Nat} {ts : List CT} (hc : X.calm = true) (h : PGs X es (gsI X.K ts)) (hl : es.length = ts.length) (hs : noStars es = true) : PG X (.Tuple es k pos) (gI X.K (.tup ts)) := by
  refine PG.imp (pg_tup hc h (each_len es) (each_none es hs)) fun v σ H Q h => ?_
  obtain ⟨F, e, d, e', R, r, ha, hq⟩ := h
  cases d with
  | tup ds =>
    cases r with
    | @tup a xs _ h1 h2 =>
      have hn := asgs_len ts ds e e' ha
      exact ⟨a, xs, rfl, sqT_le R.sub h1, by rw [h2.length, hn, hl], F, e, ds, e', R, h2, ha, hq⟩
  | _ => cases ha
theorem gs_star {e1 : Expr} {r : Nat} {p : Pos} (h1 : PG X e1 (gI X.K (.nm r))) : PGs X [.Starred e1 p] (gsS X.K [] r) := by
  refine PGs.imp (pgs_star h1) fun vs σ H Q h => ?_
  obtain ⟨F, e, ds, z, e', R, ⟨ws, u, rfl, r1, r2⟩, ha, hq⟩ := h
  cases ds with
  | cons d ds => cases ha
  | nil =>
    cases r1
    exact ⟨u, [], rfl, F, e, z, e', R, r2, ha, fun F' H' σ' R' X' c' => ⟨rfl, hq F' H' σ' R' X' c'⟩⟩
theorem gs_consS {e1 : Expr} {es : List Expr} {t : CT} {ts : List CT} {r : Nat} (h1 : PG X e1 (gI X.K t)) (h2 : PGs X es (gsS X.K ts r)) (hs : isStar e1 = false) : PGs X (e1 :: es) (gsS X.K (t :: ts) r) := by
  refine PGs.imp (pgs_cons h1 h2 (by cases e1 <;> first | rfl | cases hs)) fun vs σ H Q h => ?_
  obtain ⟨F, e, ds, z, e', R, ⟨ws, u, rfl, r1, r2⟩, ha, hq⟩ := h
  cases ds with
  | nil => cases ha
  | cons d ds =>
    cases r1 with
    | @cons v _ vs _ q1 q2 =>
      have ha : (((asg t d e).bind fun e => asgs ts ds e).bind fun e => put r z e) = some e' := ha
      obtain ⟨e2, ha1, ha2⟩ := bind1 ha
      obtain ⟨e1, ha1, ha3⟩ := bind1 ha1
      refine ⟨v, vs ++ [u], rfl, F, e, d, e1, R, q1, ha1, fun F' H' σ' R' X' c' => ?_⟩
      refine ⟨F', e1, ds, z, e', R', ⟨vs, u, rfl, q2.up X'.le, r2.up X'.le⟩, by rw [ha3]; exact ha2, fun F2 H2 σ2 R2 X2 c2 => hq F2 H2 σ2 R2 (X'.trans X2) ?_⟩
      have c := c'.trans c2
      rw [← List.append_assoc] at c
      exact c
theorem g_star {es : List Expr} {k : Nat} {ts : List CT} {r : Nat} (hc : X.calm = true) (h : PGs X es (gsS X.K ts r)) (hn : (assignEach es X.env).length = ts.length + 1) (hst : (assignEach es X.env).findIdx? (·.1) = some ts.length) : PG X (.Tuple es k pos) (gI X.K (.star ts r)) := by
  refine PG.imp (pg_star hc h hn hst) fun v σ H Q h => ?_
  obtain ⟨F, e, d, e', R, r1, ha, hq⟩ := h
  cases d with
  | tup ds =>
    cases r1 with
    | @tup a xs _ h1 h2 =>
      have ha : (if ts.length ≤ ds.length ∧ ds.length ≤ 16384 then (asgs ts (ds.take ts.length) e).bind fun e => put r (.lst (ds.drop ts.length)) e else none) = some e' := ha
      split at ha
      · rename_i hz
        have hlen := h2.length
        refine ⟨a, xs, rfl, sqT_le R.sub h1, by omega, by omega, fun p hp => ?_⟩
        have l : Fle F (F.put p (.lst (xs.drop ts.length))) := fle_put (R.fnone hp)
        exact ⟨F.put p (.lst (xs.drop ts.length)), e, _, _, e', R.alloc hp (fun ps z => by cases z), ⟨_, _, rfl, (h2.take _).up l, .lst (.of upd_same) ((h2.drop _).up l)⟩, ha, fun F' H' σ' R' X' c' => hq F' H' σ' R' ((R.alloc_ext hp).trans X') c'⟩
      · cases ha
  | _ => cases ha
end
end Mi
end

section
set_option Elab.async false
set_option linter.all false
set_option maxRecDepth 100000
set_option maxHeartbeats 4000000
set_option autoImplicit false
/-! Mi14: enumerate over a tuple. -/
namespace Mi
open PySem L2 PySem.Spec PySem.Calls PyProof.Rows
variable [TbT]
theorem meets_enum1 {v : Value} {o : Obj} {H : Heap → Prop} (B : Begins v o H) :
    Meets (Builtin.«enumerate.__new__» ⟨[.type "enumerate", v], []⟩) (fun _ R s => H s.heap ∧
      R (.ok (.ret (.ref (s.heap.push o).objs.size))) { s with heap := (s.heap.push o).push { cls := .type "enumerate", data := .fields #[.none, .bool false, .ref s.heap.objs.size, rawInt 0, .none, .none] } }) :=
  .of_wp fun prog w A R s h => by
    obtain ⟨hp, g, d, tk, os⟩ := s; obtain ⟨h1, h⟩ := h
    have hsub := sub_enumerate
    have q1 : ∀ {A' : Around} {E : Value → Shared → Prop} {Q : Value → Shared → Prop}, Q (.ref hp.objs.size) ⟨hp.push o, g, d, tk, os⟩ → wpAny (model prog w) A' (pyIter v) Q E ⟨hp, g, d, tk, os⟩ :=
      fun q => B.iter prog w _ _ ⟨hp, g, d, tk, os⟩ _ h1 q
    wp_walk using q1
    refine wpAny_stack_any fun st => wpAny_pure ?_
    split
    · rename_i c _ _ _ _ _
      cases (c == Value.type "enumerate")
      · wp_walk using q1
        exact ⟨_, rfl, h⟩
      · wp_walk using q1
        exact ⟨_, rfl, h⟩
    · wp_walk using q1
      exact ⟨_, rfl, h⟩
section
variable {prog : Program} {w : World} {A : Around} {E : Value → Shared → Prop} {s : Shared}
theorem enum_begins1 {v : Value} {o : Obj} {H : Heap → Prop} {Q : Value → Shared → Prop} (B : Begins v o H) (h1 : H s.heap)
    (h : ∀ h', IsEnum h' (s.heap.objs.size + 1) s.heap.objs.size 0 .none → h'.get? s.heap.objs.size = some o → h'.objs.size = s.heap.objs.size + 2 →
      (∀ b o, s.heap.get? b = some o → h'.get? b = some o) → Q (.ref (s.heap.objs.size + 1)) { s with heap := h' }) :
    wpAny (model prog w) A (call (.type "enumerate") [v]) Q E s := by
  refine callType_new F.called_enumerate (by decide) (F.typeCall_enumerate_1 _) (F.newCall_enumerate_1 _) (fun obj => F.args_object_init_2 obj _) F.entry_enumerate_new
    (meets_enum1 B) ⟨h1, ?_⟩
  have hz : (s.heap.push o).objs.size = s.heap.objs.size + 1 := Heap.size_push ..
  show _ ∧ _
  rw [hz]
  have he : IsEnum ((s.heap.push o).push { cls := .type "enumerate", data := .fields #[.none, .bool false, .ref s.heap.objs.size, rawInt 0, .none, .none] }) (s.heap.objs.size + 1) s.heap.objs.size 0 .none := by
    have := Heap.get?_push_size (s.heap.push o) (o := { cls := .type "enumerate", data := .fields #[.none, .bool false, .ref s.heap.objs.size, rawInt 0, .none, .none] }) rfl
    rw [hz] at this; exact this
  refine ⟨⟨_, he, rfl⟩, h _ he (Heap.get?_push_of_some _ (Heap.get?_push_size _ B.free)) (by rw [Heap.size_push, hz]) fun b o x => Heap.get?_push_of_some _ (Heap.get?_push_of_some _ x)⟩
end
/-- the tuple at a as it stands at each turn, each item in a new pair -/
def IteT (K : PySem.W.Frag) (a : Addr) : It :=
  ⟨fun i H => ∃ (xs : List V) (x : V), SqT K H a xs ∧ xs[i]? = some x, fun i H v H' => ∃ T x, v = .ref T ∧ H T = none ∧ H' = upd H T (.tup [.int (i : Nat), x]) ∧ ∀ xs, SqT K H a xs → xs[i]? = some x, fun i H => ∃ xs : List V, SqT K H a xs ∧ xs.length ≤ i⟩
theorem turn_enumT {P : Program} {w : World} {K : PySem.W.Frag} {elts : List Expr} {kk : Nat} {tpos : Pos} (a e it : Addr) (hai : a ≠ it) (hae : a ≠ e) :
    Turn P w K (.Tuple elts kk tpos) (IteT K a) [e, it] e (fun i h => (∃ old, IsEnum h e it ((i : Nat) : Int) old) ∧ h.IsTupleIter it a i ∧ e ≠ it) where
  mem := by simp
  obj := fun i h st b hb => by
    obtain ⟨⟨old, he⟩, ⟨o, ho, hc, hd⟩, _⟩ := st
    have e' : b = e ∨ b = it := by simpa using hb
    rcases e' with z | z
    · rw [z]; exact ⟨_, he, fun v q => nomatch q⟩
    · rw [z]; exact ⟨o, ho, fun v q => by rw [hd] at q; cases q⟩
  keep := fun i h h' st k => let ⟨⟨old, he⟩, hi, hne⟩ := st; ⟨⟨old, k e (by simp) _ he⟩, hi.at fun o q => k it (by simp) o q, hne⟩
  item := by
    intro X hP hw hK hc i pins s σ H E I hf st hg
    subst hP hw hK
    obtain ⟨⟨old, he⟩, hit, hne⟩ := st
    obtain ⟨xs, x, hq, hx⟩ := hg
    obtain ⟨its, rv, p, hz⟩ := I.tuple hq
    obtain ⟨u, hu, ru⟩ := rv.get hx
    have hel : e < s.heap.objs.size := Heap.lt_size he
    have hil : it < s.heap.objs.size := by obtain ⟨_, q, _⟩ := hit; exact Heap.lt_size q
    have D := Draws.tuple (prog := X.prog) (w := X.w) (A := X.A.in1) (I.ok.hd hc) it a hai its.toArray
    have hlt : i < its.toArray.size := by
      obtain ⟨h1, _⟩ := List.getElem?_eq_some_iff.mp hu
      simpa using h1
    refine wpAny_pyNext_enum_itemC D he ⟨hit, p⟩ hlt hne (by simp [hne, Ne.symm hae]) fun y h' tk hPy ho hit' hT hsz hk => ?_
    have ey : y = u := by
      have h1 : its.toArray[i]? = some y := hPy
      have h2 : its.toArray[i]? = some u := by simpa using hu
      rw [h1] at h2
      exact Option.some.inj h2
    subst ey
    refine ⟨_, rfl, wpAny_letOwnedTupleGo_enum (s := { s with heap := h', toks := tk + 1 }) ho fun h'' he' sb => ?_⟩
    have hT2 : h''.get? s.heap.objs.size = some { cls := .type "tuple", data := .seq #[.int i tk, y] } := (sb.2 _ (Nat.ne_of_gt hel)).trans hT
    have new : ObjOk X.prog X.w (upd H s.heap.objs.size (.tup [.int (i : Nat), x])) h'' s.heap.objs.size (.tup [.int (i : Nat), x]) :=
      ⟨by show 2 ≤ sizeLine; decide, [.int i tk, y], .cons ⟨_, rfl⟩ (.cons ru .nil), ⟨_, hT2, rfl, _, rfl⟩⟩
    have I1 : Inv X pins σ (upd H s.heap.objs.size (.tup [.int (i : Nat), x])) { s with heap := h'', toks := tk + 1 } :=
      I.turnedNew (ch := [e, it]) (fun b ob hb q => (sb.2 b (fun z => hb (by simp [z]))).trans (hk b ob (fun z => hb (by simp [z])) (fun z => hb (by simp [z])) q)) hf (Nat.le_refl _) new
    refine ⟨.ref s.heap.objs.size, _, I1, rfl, ⟨_, x, rfl, I.hok.fresh (Nat.le_refl _), rfl, fun ys hy => by rw [I.tuple_inj hy hq]; exact hx⟩, ⟨⟨y, ?_⟩, hit'.1.at fun o q => (sb.2 it (Ne.symm hne)).trans q, hne⟩, fun b hb => ?_⟩
    · have e1 : ((i + 1 : Nat) : Int) = (i : Int) + 1 := by omega
      rw [e1]; exact he'
    · have hb' : b < s.heap.objs.size := by
        have e' : b = e ∨ b = it := by simpa using hb
        rcases e' with z | z
        · rw [z]; exact hel
        · rw [z]; exact hil
      rw [upd_ne (Nat.ne_of_lt hb')]
      exact (hf b hb).1
  done := by
    intro X hP hw hK hc i pins s σ H E I hf st hg
    subst hP hw hK
    obtain ⟨⟨old, he⟩, hit, hne⟩ := st
    obtain ⟨xs, hq, hx⟩ := hg
    obtain ⟨its, rv, p, hz⟩ := I.tuple hq
    obtain ⟨f0, f1, f2, f3, f4, f5⟩ := hf it (by simp)
    have hl := rv.length
    have hT : s.TypeIs (.ref e) "enumerate" := ⟨_, he, rfl⟩
    unfold pyNext
    refine wpAny_bind (wpAny_attempt (wpAny_callSpecial?_slot (name := Str.ofString "__next__") hT F.slot_enumerate_next
      (wpAny_call_entry F.slot_enumerate_next hT F.entry_enumerate_next ?_ (F.args_enumerate_next_1 _))))
    show wpAny _ _ (field (.ref e) 2 >>= _) _ _ _
    refine wpAny_bind (wpAny_field he rfl (x := .ref it) rfl ?_)
    refine wpAny_bind (wpAny_nextOf_tuple_end (I.ok.hd hc) hit (show s.heap.IsTuple a its.toArray from p) (by simp; omega) fun h' x eb hx' => ?_)
    obtain ⟨o, ho, hc⟩ := hx'
    refine wpAny_bind (wpAny_isInstance (T := "StopIteration") (b := true) ⟨o, ho, hc⟩ isSubtype_stop ?_)
    exact wpAny_pure ⟨rfl, I.turned (t' := s.toks) (fun b o hb q => eb b o hb q) f0 f1 f3 f4 f5⟩
  self := fun A i s Q E st h => let ⟨⟨_, he⟩, _⟩ := st; wpAny_pyIter_enum he h

/-! ### what is walked, by values -/
section
variable {X : Cx} {tg : Expr}
def iEnumA (K : PySem.W.Frag) (ta : TA) : TI := fun σ H R => ta σ H fun vs H1 => ∃ a xs, vs = [.ref a] ∧ ((SqL K H1 a xs ∧ R (Ite K a) H1) ∨ (SqT K H1 a xs ∧ R (IteT K a) H1))
theorem pi_enumA {e : Expr} {ta : TA} {p pos tpos : Pos} {elts : List Expr} {kk : Nat} (hg : Gl X "enumerate") (hm : X.mg "enumerate" = none) (ha : PA X [e] ta) (hs : starEach [e] X.env = [(false, eval e X.env)]) :
    PI X (.Tuple elts kk tpos) (.Call (.Name "enumerate" p) [e] [] pos) (iEnumA X.K ta) := by
  refine ⟨fun pins s σ H R I h => ?_⟩
  refine Call_ (ld_blt I hg hm boot_enumerate (PyProof.Rows.callWith_type1 (L2.thn (ha.run pos pins s σ H _ I h) fun us s1 ⟨vs, H1, I1, r1, q1⟩ => ?_) hs rfl))
  obtain ⟨a, xs, ex, q⟩ := q1
  subst ex
  cases r1 with
  | cons r rr =>
    cases rr
    cases r
    have fresh : ∀ b, b ∈ [s1.heap.objs.size + 1, s1.heap.objs.size] → FpOk X pins H1 b := fun b hb => by
      have e' : b = s1.heap.objs.size + 1 ∨ b = s1.heap.objs.size := by simpa using hb
      have hle : s1.heap.objs.size ≤ b := by
        rcases e' with z | z
        · rw [z]; exact Nat.le_add_right _ _
        · rw [z]; exact Nat.le_refl _
      exact I1.fpOk hle (I1.hok.fresh hle)
    rcases q with ⟨hq, q⟩ | ⟨hq, q⟩
    · obtain ⟨its, rv, p', hz⟩ := I1.list hq
      refine call_enumerate_list p'.isList fun h' he hit hsz hk => wpAny_pyIter_enum he ?_
      have I2 : Inv X pins σ H1 { s1 with heap := h' } := I1.kept (t' := s1.toks) hk
      exact ⟨s1.heap.objs.size + 1, [s1.heap.objs.size + 1, s1.heap.objs.size], _, _, H1, rfl, I2, turn_enum a (s1.heap.objs.size + 1) s1.heap.objs.size, ⟨⟨.none, he⟩, hit, Nat.succ_ne_self _⟩, fresh, q⟩
    · obtain ⟨its, rv, p', hz⟩ := I1.tuple hq
      obtain ⟨o1, ho1, _⟩ := id p'
      have hal := Heap.lt_size ho1
      refine enum_begins1 (begins_tuple a its.toArray) (show s1.heap.IsTuple a its.toArray from p') fun h' he hit hsz hk => wpAny_pyIter_enum he ?_
      have I2 : Inv X pins σ H1 { s1 with heap := h' } := I1.kept (t' := s1.toks) hk
      exact ⟨s1.heap.objs.size + 1, [s1.heap.objs.size + 1, s1.heap.objs.size], _, _, H1, rfl, I2, turn_enumT a (s1.heap.objs.size + 1) s1.heap.objs.size (Nat.ne_of_lt hal) (Nat.ne_of_lt (Nat.lt_succ_of_lt hal)), ⟨⟨.none, he⟩, ⟨_, hit, rfl, rfl⟩, Nat.succ_ne_self _⟩, fresh, q⟩
def iSeq (K : PySem.W.Frag) (tl : TE) : TI := fun σ H R => tl σ H fun x H1 => (∃ a, x = .ref a ∧ (∃ xs, SqL K H1 a xs) ∧ R (Itl K a) H1) ∨ (∃ a, x = .ref a ∧ (∃ xs, SqT K H1 a xs) ∧ R (Itt K a) H1) ∨ ∃ z, x = .str z ∧ R (Its z) H1
theorem pi_seq {l : Expr} {tl : TE} (hl : PE X l tl) : PI X tg l (iSeq X.K tl) := by
  refine ⟨fun pins s σ H R I h => ?_⟩
  refine L2.thn (hl.run pins s σ H _ I h) fun v s1 ⟨x, H1, I1, r1, q1⟩ => ?_
  rcases q1 with ⟨a, e, ⟨xs, hq⟩, q⟩ | ⟨a, e, ⟨xs, hq⟩, q⟩ | ⟨z, e, q⟩
  · subst e
    cases r1
    obtain ⟨its, rv, p, hz⟩ := I1.list hq
    refine wpAny_pyIter_list p.isList ?_
    refine ⟨s1.heap.objs.size, [s1.heap.objs.size], _, _, H1, rfl, I1.kept (t' := s1.toks) fun b o e => Heap.get?_push_of_some _ e, turn_list a _, ⟨_, Heap.get?_push_size _ rfl, rfl, rfl⟩, fun b hb => ?_, q⟩
    have e : b = s1.heap.objs.size := by simpa using hb
    subst e
    exact I1.fpOk (Nat.le_refl _) (I1.hok.fresh (Nat.le_refl _))
  · subst e
    cases r1
    obtain ⟨its, rv, p, hz⟩ := I1.tuple hq
    refine wpAny_pyIter_tuple (show s1.heap.IsTuple a its.toArray from p) ?_
    refine ⟨s1.heap.objs.size, [s1.heap.objs.size], _, _, H1, rfl, I1.kept (t' := s1.toks) fun b o e => Heap.get?_push_of_some _ e, turn_tuple a _, ⟨_, Heap.get?_push_size _ rfl, rfl, rfl⟩, fun b hb => ?_, q⟩
    have e : b = s1.heap.objs.size := by simpa using hb
    subst e
    exact I1.fpOk (Nat.le_refl _) (I1.hok.fresh (Nat.le_refl _))
  · subst e
    obtain ⟨t, rfl⟩ := r1
    cases ha : z.cps.all (· < 128)
    · exact wpAny_pyIter_wide ha (pi_one (tk := s1.toks) I1 _ (turn_str _ z t "str_iterator" (.inr rfl)) ⟨_, Heap.get?_push_size _ rfl, rfl, rfl⟩ q)
    · exact wpAny_pyIter_ascii ha (pi_one (tk := s1.toks) I1 _ (turn_str _ z t "str_ascii_iterator" (.inl rfl)) ⟨_, Heap.get?_push_size _ rfl, rfl, rfl⟩ q)
theorem PI.imp {tg e : Expr} {t t' : TI} (h : PI X tg e t) (f : ∀ σ H R, t' σ H R → t σ H R) : PI X tg e t' := ⟨fun pins s σ H R I q => h.run pins s σ H R I (f σ H R q)⟩
end
end Mi
end

section
set_option Elab.async false
set_option linter.all false
set_option maxRecDepth 100000
set_option maxHeartbeats 4000000
set_option autoImplicit false
/-! Mi15: what is walked, by trees. -/
namespace Mi
open PySem L2 RZ PySem.Spec PySem.Calls PyProof.Rows
variable [TbT]
def YD (K : PySem.W.Frag) (F : Fp) (ds : List D) : Nat → Hp → V → Hp → Prop := fun i H x H' => ∃ d, ds[i]? = some d ∧ ((H' = H ∧ Rep K F x d) ∨ ∃ T o, x = .ref T ∧ H T = none ∧ H' = upd H T o ∧ (∀ ps, o ≠ .tbl ps) ∧ ∀ F1, Fle F F1 → F1.h T = none → Rep K (F1.put T o) x d)
def ItS (K : PySem.W.Frag) (F : Fp) (J : It) : Src → Prop
  | .fix ds => Walk J ds.length (fun H => Le F.h H) (YD K F ds)
  | .live j => ∃ a, F.al[j]? = some a ∧ J = Itl K a
section
variable {K : PySem.W.Frag} {F : Fp}
theorem its_list {a : Addr} {xs : List V} {ds : List D} (h : SqL K F.h a xs) (r : Reps K F xs ds) : ItS K F (Itl K a) (.fix ds) := by
  show Walk _ ds.length _ _
  rw [← r.length]
  refine (walk_list (xs := xs)).mono (fun H l => sqL_le l h) fun i H x H' hi l y => ?_
  obtain ⟨rfl, hx⟩ := y
  obtain ⟨d, h1, h2⟩ := r.get' hx
  exact ⟨d, h1, .inl ⟨rfl, h2⟩⟩
theorem its_tup {a : Addr} {xs : List V} {ds : List D} (h : SqT K F.h a xs) (r : Reps K F xs ds) : ItS K F (Itt K a) (.fix ds) := by
  show Walk _ ds.length _ _
  rw [← r.length]
  refine (walk_tup (xs := xs)).mono (fun H l => sqT_le l h) fun i H x H' hi l y => ?_
  obtain ⟨rfl, hx⟩ := y
  obtain ⟨d, h1, h2⟩ := r.get' hx
  exact ⟨d, h1, .inl ⟨rfl, h2⟩⟩
theorem its_str {z : Str} : ItS K F (Its z) (.fix (z.cps.toList.map fun c => .str ⟨#[c]⟩)) := by
  show Walk _ (List.map _ _).length _ _
  rw [List.length_map, Array.length_toList]
  refine (walk_str (z := z)).mono (fun H l => True.intro) fun i H x H' hi l y => ?_
  obtain ⟨rfl, c, h1, rfl⟩ := y
  refine ⟨.str ⟨#[c]⟩, ?_, .inl ⟨rfl, .str _ ?_⟩⟩
  · rw [List.getElem?_map, Array.getElem?_toList, h1]; rfl
  · show 1 ≤ sizeLine
    decide
theorem range_get {lo : Int} {n i : Nat} (h : i < n) : (rangeD lo n)[i]? = some (.int (lo + i)) := by
  unfold rangeD
  rw [List.getElem?_map, List.getElem?_range h]
  rfl
theorem its_range {lo : Int} {n : Nat} : ItS K F (Itr lo n) (.fix (rangeD lo n)) := by
  show Walk _ (rangeD lo n).length _ _
  have e : (rangeD lo n).length = n := by unfold rangeD; rw [List.length_map, List.length_range]
  rw [e]
  refine (walk_range (lo := lo) (n := n)).mono (fun H l => True.intro) fun i H x H' hi l y => ?_
  obtain ⟨rfl, rfl⟩ := y
  exact ⟨_, range_get hi, .inl ⟨rfl, .int _⟩⟩
theorem enum_get : ∀ (xs : List D) (n i : Nat), (enumD xs n)[i]? = (xs[i]?).map fun d => .tup [.int ((n + i : Nat) : Int), d]
  | [], _, _ => rfl
  | x :: xs, n, 0 => rfl
  | x :: xs, n, i + 1 => by
    show (enumD xs (n + 1))[i]? = (xs[i]?).map _
    rw [enum_get xs (n + 1) i, show n + 1 + i = n + (i + 1) by omega]
theorem enum_len : ∀ (xs : List D) (n : Nat), (enumD xs n).length = xs.length
  | [], _ => rfl
  | x :: xs, n => congrArg (· + 1) (enum_len xs (n + 1))
theorem pair_rep {F1 : Fp} {T : Addr} {x y : V} {d e : D} (l : Fle F F1) (n : F1.h T = none) (r1 : Rep K F x d) (r2 : Rep K F y e) : Rep K (F1.put T (.tup [x, y])) (.ref T) (.tup [d, e]) := by
  have l2 := l.trans (fle_put (o := .tup [x, y]) n)
  exact .tup (.of upd_same) (.cons (Rep.mono l2 _ _ r1) (.cons (Rep.mono l2 _ _ r2) .nil))
theorem its_enum {a : Addr} {xs : List V} {ds : List D} (h : SqL K F.h a xs) (r : Reps K F xs ds) : ItS K F (Ite K a) (.fix (enumD ds 0)) := by
  show Walk _ (enumD ds 0).length _ _
  rw [enum_len, ← r.length]
  refine (walk_enum (xs := xs)).mono (fun H l => sqL_le l h) fun i H x H' hi l y => ?_
  obtain ⟨T, u, v, rfl, hT, rfl, hu, hv⟩ := y
  cases hu
  obtain ⟨d, h1, h2⟩ := r.get' hv
  exact ⟨.tup [.int ((0 + i : Nat) : Int), d], by rw [enum_get, h1]; rfl, .inr ⟨T, _, rfl, hT, rfl, (fun ps z => by cases z), fun F1 l n => by
    rw [Nat.zero_add]
    exact pair_rep l n (.int _) h2⟩⟩
theorem walk_enumT {a : Addr} {xs : List V} : Walk (IteT K a) xs.length (fun H => SqT K H a xs) (YPair (fun i => some (.int (i : Nat))) (fun i => xs[i]?)) := by
  refine ⟨fun i _ hi q => ⟨xs, xs[i], q, by simp [hi]⟩, fun _ q => ⟨xs, q, Nat.le_refl _⟩, fun i H v H' _ q y => ?_⟩
  obtain ⟨T, x, h1, h2, h3, h4⟩ := y
  exact ⟨T, .int (i : Nat), x, h1, h2, h3, rfl, h4 xs q⟩
theorem its_enumT {a : Addr} {xs : List V} {ds : List D} (h : SqT K F.h a xs) (r : Reps K F xs ds) : ItS K F (IteT K a) (.fix (enumD ds 0)) := by
  show Walk _ (enumD ds 0).length _ _
  rw [enum_len, ← r.length]
  refine (walk_enumT (xs := xs)).mono (fun H l => sqT_le l h) fun i H x H' hi l y => ?_
  obtain ⟨T, u, v, rfl, hT, rfl, hu, hv⟩ := y
  cases hu
  obtain ⟨d, h1, h2⟩ := r.get' hv
  exact ⟨.tup [.int ((0 + i : Nat) : Int), d], by rw [enum_get, h1]; rfl, .inr ⟨T, _, rfl, hT, rfl, (fun ps z => by cases z), fun F1 l n => by
    rw [Nat.zero_add]
    exact pair_rep l n (.int _) h2⟩⟩
theorem walk_zipT {a b : Addr} {xs ys : List V} : Walk (ItzT K a b) (min xs.length ys.length) (fun H => SqT K H a xs ∧ SqT K H b ys) (YPair (fun i => xs[i]?) (fun i => ys[i]?)) := by
  refine ⟨fun i _ hi q => ?_, fun _ q => ⟨xs, ys, q.1, q.2, by omega⟩, fun i H v H' _ q y => ?_⟩
  · have h1 : i < xs.length := by omega
    have h2 : i < ys.length := by omega
    exact ⟨xs, ys, xs[i], ys[i], q.1, q.2, by simp [h1], by simp [h2]⟩
  · obtain ⟨T, x, z, h1, h2, h3, h4, h5⟩ := y
    exact ⟨T, x, z, h1, h2, h3, h4 xs q.1, h5 ys q.2⟩
theorem zip_len (xs ys : List D) : (zipD xs ys).length = min xs.length ys.length := by unfold zipD; rw [List.length_map, List.length_zip]
theorem zip_get {xs ys : List D} {i : Nat} {d e : D} (h1 : xs[i]? = some d) (h2 : ys[i]? = some e) : (zipD xs ys)[i]? = some (.tup [d, e]) := by
  unfold zipD
  rw [List.getElem?_map]
  have : (xs.zip ys)[i]? = some (d, e) := by
    rw [List.getElem?_zip_eq_some]
    exact ⟨h1, h2⟩
  rw [this]
  rfl
theorem its_zip {a b : Addr} {xs ys : List V} {ds es : List D} (h : SqL K F.h a xs) (h' : SqL K F.h b ys) (r : Reps K F xs ds) (r' : Reps K F ys es) : ItS K F (Itz K a b) (.fix (zipD ds es)) := by
  show Walk _ (zipD ds es).length _ _
  rw [zip_len, ← r.length, ← r'.length]
  refine (walk_zip (xs := xs) (ys := ys) rfl).mono (fun H l => ⟨sqL_le l h, sqL_le l h'⟩) fun i H x H' hi l y => ?_
  obtain ⟨T, u, v, rfl, hT, rfl, hu, hv⟩ := y
  obtain ⟨d, h1, h2⟩ := r.get' hu
  obtain ⟨e, h3, h4⟩ := r'.get' hv
  exact ⟨.tup [d, e], zip_get h1 h3, .inr ⟨T, _, rfl, hT, rfl, (fun ps z => by cases z), fun F1 l n => pair_rep l n h2 h4⟩⟩
theorem its_zipT {a b : Addr} {xs ys : List V} {ds es : List D} (h : SqT K F.h a xs) (h' : SqT K F.h b ys) (r : Reps K F xs ds) (r' : Reps K F ys es) : ItS K F (ItzT K a b) (.fix (zipD ds es)) := by
  show Walk _ (zipD ds es).length _ _
  rw [zip_len, ← r.length, ← r'.length]
  refine (walk_zipT (xs := xs) (ys := ys)).mono (fun H l => ⟨sqT_le l h, sqT_le l h'⟩) fun i H x H' hi l y => ?_
  obtain ⟨T, u, v, rfl, hT, rfl, hu, hv⟩ := y
  obtain ⟨d, h1, h2⟩ := r.get' hu
  obtain ⟨e, h3, h4⟩ := r'.get' hv
  exact ⟨.tup [d, e], zip_get h1 h3, .inr ⟨T, _, rfl, hT, rfl, (fun ps z => by cases z), fun F1 l n => pair_rep l n h2 h4⟩⟩
end
section
variable {X : Cx} {C : Ct} {W : WX} {tg : Expr} {pos : Pos}
def iS (K : PySem.W.Frag) (C : Ct) (W : WX) (it : CI) : TI := fun σ H R => ∃ F e, Rel K F e σ H ∧ Post K C W F H σ (evI C.cs C.cal it e) (fun s _ F' H' => ∀ J, ItS K F' J s → R J H')
theorem i_seq {a : CE} {a' : Expr} (ha : PE X a' (tI X.K C W a)) : PI X tg a' (iS X.K C W (.seq a)) := by
  refine PI.imp (pi_seq ha) fun σ H R0 h => ?_
  obtain ⟨F, e, R, P⟩ := h
  refine ⟨F, e, R, (Post.run P).mono fun x e1 F1 H1 _ R1 X1 P1 v rv => ?_⟩
  obtain ⟨s, hs, P2⟩ := Post.of_ P1
  have P3 := Post.of_ok R1 P2
  cases x with
  | lst ds =>
    cases hs
    cases rv with
    | lst h r => exact .inl ⟨_, rfl, ⟨_, sqL_le R1.sub h⟩, P3 _ (its_list h r)⟩
  | tup ds =>
    cases hs
    cases rv with
    | tup h r => exact .inr (.inl ⟨_, rfl, ⟨_, sqT_le R1.sub h⟩, P3 _ (its_tup h r)⟩)
  | str z =>
    cases hs
    cases rv with
    | str _ hz => exact .inr (.inr ⟨z, rfl, P3 _ its_str⟩)
  | own j =>
    have hs : (cellL e1 (.own j)).map (fun _ => Src.live j) = some s := hs
    cases hc : cellL e1 (.own j) with
    | none => rw [hc] at hs; cases hs
    | some p =>
      rw [hc] at hs
      cases hs
      obtain ⟨i, a, xs, vs, h1, rfl, ha, hst, hH, hr⟩ := cell_ R1 rv (by rw [hc]; rfl)
      cases h1
      exact .inl ⟨a, rfl, ⟨vs, .of hH⟩, P3 _ ⟨a, ha, rfl⟩⟩
  | _ => cases hs
theorem i_range {a : CE} {a' : Expr} {p : Pos} (hg : Gl X "range") (hm : X.mg "range" = none) (ha : PE X a' (tI X.K C W a)) (hs : isStar a' = false) : PI X tg (.Call (.Name "range" p) [a'] [] pos) (iS X.K C W (.range a)) := by
  refine PI.imp (pi_range1 hg hm (pa_cons ha pa_nil (star_ok hs)) (star_ok hs)) fun σ H R0 h => ?_
  obtain ⟨F, e, R, P⟩ := h
  refine ⟨F, e, R, (Post.run P).mono fun x e1 F1 H1 _ R1 X1 P1 v rv => ?_⟩
  cases x with
  | int j =>
    cases rv
    have P1 : Post X.K C W F1 H1 σ (if -4611686018427387904 ≤ j ∧ j ≤ 16777216 then Mi.R.ok (Src.fix (rangeD 0 j.toNat)) e1 else Mi.R.er) _ := P1
    split at P1
    · exact ⟨j, rfl, by omega, by omega, Post.of_ok R1 P1 _ its_range⟩
    · exact P1.elim
  | _ => exact P1.elim
theorem i_range2 {a b : CE} {a' b' : Expr} {p : Pos} (hg : Gl X "range") (hm : X.mg "range" = none) (ha : PE X a' (tI X.K C W a)) (hb : PE X b' (tI X.K C W b)) (hs : isStar a' = false) (hs' : isStar b' = false) : PI X tg (.Call (.Name "range" p) [a', b'] [] pos) (iS X.K C W (.range2 a b)) := by
  refine PI.imp (pi_range2 hg hm (pa_cons ha (pa_cons hb pa_nil (star_ok hs')) (star_ok hs)) (by rw [star_ok hs, star_ok hs']; rfl) (star_ok hs')) fun σ H R0 h => ?_
  obtain ⟨F, e, R, P⟩ := h
  refine ⟨F, e, R, (Post.run P).mono fun x e1 F1 H1 _ R1 X1 P1 v rv => ?_⟩
  refine ⟨F1, e1, R1, (Post.run P1).mono fun y e2 F2 H2 _ R2 X2 P2 u ru => ?_⟩
  cases x with
  | int i =>
    cases y with
    | int j =>
      cases rv
      cases ru
      have P2 : Post X.K C W F2 H2 σ (if -4611686018427387904 ≤ i ∧ i < 4611686018427387904 ∧ -4611686018427387904 ≤ j ∧ j < 4611686018427387904 ∧ j - i ≤ 16777216 then Mi.R.ok (Src.fix (rangeD i (j - i).toNat)) e2 else Mi.R.er) _ := P2
      split at P2
      · exact ⟨i, j, rfl, by omega, Post.of_ok R2 P2 _ its_range⟩
      · exact P2.elim
    | _ => exact P2.elim
  | _ => exact P2.elim
theorem i_enum {a : CE} {a' : Expr} {p tpos : Pos} {elts : List Expr} {kk : Nat} (hg : Gl X "enumerate") (hm : X.mg "enumerate" = none) (ha : PE X a' (tI X.K C W a)) (hs : isStar a' = false) : PI X (.Tuple elts kk tpos) (.Call (.Name "enumerate" p) [a'] [] pos) (iS X.K C W (.enum a)) := by
  refine PI.imp (pi_enumA hg hm (pa_cons ha pa_nil (star_ok hs)) (star_ok hs)) fun σ H R0 h => ?_
  obtain ⟨F, e, R, P⟩ := h
  refine ⟨F, e, R, (Post.run P).mono fun x e1 F1 H1 _ R1 X1 P1 v rv => ?_⟩
  obtain ⟨s, hs, P2⟩ := Post.of_ P1
  have P3 := Post.of_ok R1 P2
  cases x with
  | lst ds =>
    cases hs
    cases rv with
    | lst h r => exact ⟨_, _, rfl, .inl ⟨sqL_le R1.sub h, P3 _ (its_enum h r)⟩⟩
  | tup ds =>
    cases hs
    cases rv with
    | tup h r => exact ⟨_, _, rfl, .inr ⟨sqT_le R1.sub h, P3 _ (its_enumT h r)⟩⟩
  | _ => cases hs
theorem i_zip {a b : CE} {a' b' : Expr} {p tpos : Pos} {elts : List Expr} {kk : Nat} (hg : Gl X "zip") (hm : X.mg "zip" = none) (ha : PE X a' (tI X.K C W a)) (hb : PE X b' (tI X.K C W b)) (hs : isStar a' = false) (hs' : isStar b' = false) : PI X (.Tuple elts kk tpos) (.Call (.Name "zip" p) [a', b'] [] pos) (iS X.K C W (.zip a b)) := by
  refine PI.imp (pi_zipA hg hm (pa_cons ha (pa_cons hb pa_nil (star_ok hs')) (star_ok hs)) (star_ok hs) (stars_any (by show (!isStar b' && true) = true; rw [hs']; rfl))) fun σ H R0 h => ?_
  obtain ⟨F, e, R, P⟩ := h
  refine ⟨F, e, R, (Post.run P).mono fun x e1 F1 H1 _ R1 X1 P1 v rv => ?_⟩
  refine ⟨F1, e1, R1, (Post.run P1).mono fun y e2 F2 H2 _ R2 X2 P2 u ru => ?_⟩
  obtain ⟨s, hs, P3⟩ := Post.of_ P2
  have P4 := Post.of_ok R2 P3
  have rv := rv.up X2.le
  cases x with
  | lst ds => cases y with
    | lst es =>
      cases hs
      cases rv with
      | lst h r => cases ru with
        | lst h' r' => exact ⟨_, _, _, _, rfl, .inl ⟨sqL_le R2.sub h, sqL_le R2.sub h', P4 _ (its_zip h h' r r')⟩⟩
    | _ => cases hs
  | tup ds => cases y with
    | tup es =>
      cases hs
      cases rv with
      | tup h r => cases ru with
        | tup h' r' => exact ⟨_, _, _, _, rfl, .inr ⟨sqT_le R2.sub h, sqT_le R2.sub h', P4 _ (its_zipT h h' r r')⟩⟩
    | _ => cases hs
  | _ => cases y <;> cases hs
end
end Mi
end

section
set_option Elab.async false
set_option linter.all false
set_option maxRecDepth 100000
set_option maxHeartbeats 4000000
set_option autoImplicit false
/-! Mi16: comprehensions. -/
namespace Mi
open PySem L2 RZ PySem.Spec PySem.Calls PyProof.Rows
variable [TbT]
section
variable {K : PySem.W.Frag}
theorem its_mono {F F' : Fp} {J : It} {s : Src} (l : Fle F F') (h : ItS K F J s) : ItS K F' J s := by
  cases s with
  | fix ds =>
    refine Walk.mono (h : Walk J ds.length _ _) (fun H q => l.h.trans q) fun i H x H' hi q y => ?_
    obtain ⟨d, h1, y⟩ := y
    refine ⟨d, h1, ?_⟩
    rcases y with ⟨e, r⟩ | ⟨T, o, h2, h3, h4, h5, r⟩
    · exact .inl ⟨e, r.up l⟩
    · exact .inr ⟨T, o, h2, h3, h4, h5, fun F1 l1 => r F1 (l.trans l1)⟩
  | live j =>
    obtain ⟨a, h1, h2⟩ := h
    exact ⟨a, l.get h1, h2⟩
/-- one turn: at its end, or an item -/
theorem its_step {F : Fp} {J : It} {ds : List D} {i : Nat} {e : En} {σ : L2.St} {H : Hp} (h : ItS K F J (.fix ds)) (R : Rel K F e σ H) : (ds.drop i = [] → i ≤ ds.length → J.stop i H) ∧
    ∀ d r, ds.drop i = d :: r → J.go i H ∧ ∀ x H', J.yld i H x H' → ∃ F', Gr F H F' H' ∧ Rep K F' x d := by
  have w : Walk J ds.length (fun H => Le F.h H) (YD K F ds) := h
  refine ⟨fun e0 hi => ?_, fun d r e0 => ?_⟩
  · have : ds.length ≤ i := List.drop_eq_nil_iff.mp e0
    have hi : i = ds.length := by omega
    subst hi
    exact w.stops H R.sub
  · have hd : ds[i]? = some d := by
      have : (ds.drop i)[0]? = some d := by rw [e0]; rfl
      rwa [List.getElem?_drop, Nat.add_zero] at this
    have hlt : i < ds.length := (List.getElem?_eq_some_iff.mp hd).1
    refine ⟨w.goes i H hlt R.sub, fun x H' y => ?_⟩
    obtain ⟨d', h1, y⟩ := w.yields i H x H' hlt R.sub y
    rw [hd] at h1
    cases h1
    rcases y with ⟨rfl, r⟩ | ⟨T, o, rfl, hT, rfl, hnt, r⟩
    · exact ⟨F, .inl ⟨rfl, rfl⟩, r⟩
    · exact ⟨F.put T o, .inr ⟨T, o, hT, rfl, rfl, hnt⟩, r F (Fle.refl _) (R.fnone hT)⟩
theorem its_stepO {F : Fp} {J : It} {j : Nat} {i : Nat} {e : En} {σ : L2.St} {H : Hp} {k : Nat} {xs : List D} (h : ItS K F J (.live j)) (R : Rel K F e σ H) (hc : cellL e (.own j) = some (k, xs)) : (xs[i]? = none → J.stop i H) ∧
    ∀ d, xs[i]? = some d → J.go i H ∧ ∀ x H', J.yld i H x H' → ∃ F', Gr F H F' H' ∧ Rep K F' x d := by
  obtain ⟨a, h1, rfl⟩ := h
  obtain ⟨j', a', ys, vs, e1, _, ha, hst, hH, hr⟩ := cell_ R (v := .ref a) (.own h1) (by rw [hc]; rfl)
  cases e1
  rw [h1] at ha
  cases ha
  have ey : ys = xs := by
    have hc : (match e.st[j]? with
      | some (Own.lst xs) => some (j, xs)
      | _ => none) = some (k, xs) := hc
    rw [hst] at hc
    cases hc
    rfl
  subst ey
  refine ⟨fun e0 => ⟨vs, .of hH, ?_⟩, fun d e0 => ?_⟩
  · rw [hr.length]
    exact List.getElem?_eq_none_iff.mp e0
  · obtain ⟨v, h2, h3⟩ := hr.get e0
    refine ⟨⟨vs, v, .of hH, h2⟩, fun x H' y => ?_⟩
    obtain ⟨rfl, y⟩ := y
    have := y vs (.of hH)
    rw [h2] at this
    cases this
    exact ⟨F, .inl ⟨rfl, rfl⟩, h3⟩
end
/-- the turns that are left -/
def Run {α : Type} (base : List (Option D)) (f : D → En → R (Option α)) (s : Src) (i m : Nat) (st : List Own) (rs : List α) (e2 : En) : Prop := match s with
  | .fix ds => m = ds.length - i ∧ i ≤ ds.length ∧ turns base f (ds.drop i) st = .ok rs e2
  | .live j => turnsO base f j m i st = .ok rs e2
def consO {α : Type} (o : Option α) (r : List α) : List α := match o with
  | some a => a :: r
  | none => r
theorem run_step {α : Type} {K : PySem.W.Frag} {base : List (Option D)} {f : D → En → R (Option α)} {s : Src} {i m : Nat} {st : List Own} {rs : List α} {e2 : En} {F : Fp} {J : It} {σ : L2.St} {H : Hp} (h : ItS K F J s) (R : Rel K F ⟨base, st⟩ σ H) (r : Run base f s i m st rs e2) :
    (J.stop i H ∧ rs = [] ∧ e2 = ⟨base, st⟩) ∨ (J.go i H ∧ ∃ d o e1 rs' m', m' < m ∧ f d ⟨base, st⟩ = .ok o e1 ∧ rs = consO o rs' ∧ Run base f s (i + 1) m' e1.st rs' e2 ∧ ∀ x H', J.yld i H x H' → ∃ F', Gr F H F' H' ∧ Rep K F' x d) := by
  cases s with
  | fix ds =>
    obtain ⟨rfl, hi, r⟩ := r
    obtain ⟨h1, h2⟩ := its_step h R (i := i)
    cases hd : ds.drop i with
    | nil =>
      rw [hd] at r
      cases r
      exact .inl ⟨h1 hd hi, rfl, rfl⟩
    | cons d t =>
      rw [hd] at r
      have hlt : i < ds.length := by
        rcases Nat.lt_or_ge i ds.length with q | q
        · exact q
        · rw [List.drop_eq_nil_of_le q] at hd; cases hd
      have ht : ds.drop (i + 1) = t := by
        have : (ds.drop i).drop 1 = t := by rw [hd]; rfl
        rwa [List.drop_drop] at this
      have r : (match f d ⟨base, st⟩ with
        | .ok o e1 => (match turns base f t e1.st with
          | .ok r e2 => Mi.R.ok (match o with | some a => a :: r | none => r) e2
          | _ => .er)
        | _ => .er) = .ok rs e2 := r
      obtain ⟨g1, g2⟩ := h2 d t hd
      cases hf : f d ⟨base, st⟩ with
      | ok o e1 =>
        rw [hf] at r
        have r : (match turns base f t e1.st with
          | .ok r e2 => Mi.R.ok (match o with | some a => a :: r | none => r) e2
          | _ => .er) = .ok rs e2 := r
        cases ht2 : turns base f t e1.st with
        | ok rs' e3 =>
          rw [ht2] at r
          cases r
          exact .inr ⟨g1, d, o, e1, rs', ds.length - (i + 1), by omega, hf, by cases o <;> rfl, ⟨rfl, hlt, by rw [ht]; exact ht2⟩, g2⟩
        | exc x e3 => rw [ht2] at r; cases r
        | er => rw [ht2] at r; cases r
      | exc x e3 => rw [hf] at r; cases r
      | er => rw [hf] at r; cases r
  | live j =>
    cases m with
    | zero => cases r
    | succ m =>
      have r : (match cellL ⟨base, st⟩ (.own j) with
        | some (_, xs) => (match xs[i]? with
          | some d => (match f d ⟨base, st⟩ with
            | .ok o e1 => (match turnsO base f j m (i + 1) e1.st with
              | .ok r e2 => Mi.R.ok (match o with | some a => a :: r | none => r) e2
              | _ => .er)
            | _ => .er)
          | none => .ok [] ⟨base, st⟩)
        | none => .er) = .ok rs e2 := r
      cases hc : cellL ⟨base, st⟩ (.own j) with
      | none => rw [hc] at r; cases r
      | some p =>
        obtain ⟨k, xs⟩ := p
        rw [hc] at r
        obtain ⟨h1, h2⟩ := its_stepO h R hc (i := i)
        have r : (match xs[i]? with
          | some d => (match f d ⟨base, st⟩ with
            | .ok o e1 => (match turnsO base f j m (i + 1) e1.st with
              | .ok r e2 => Mi.R.ok (match o with | some a => a :: r | none => r) e2
              | _ => .er)
            | _ => .er)
          | none => .ok [] ⟨base, st⟩) = .ok rs e2 := r
        cases hd : xs[i]? with
        | none =>
          rw [hd] at r
          cases r
          exact .inl ⟨h1 hd, rfl, rfl⟩
        | some d =>
          rw [hd] at r
          obtain ⟨g1, g2⟩ := h2 d hd
          have r : (match f d ⟨base, st⟩ with
            | .ok o e1 => (match turnsO base f j m (i + 1) e1.st with
              | .ok r e2 => Mi.R.ok (match o with | some a => a :: r | none => r) e2
              | _ => .er)
            | _ => .er) = .ok rs e2 := r
          cases hf : f d ⟨base, st⟩ with
          | ok o e1 =>
            rw [hf] at r
            have r : (match turnsO base f j m (i + 1) e1.st with
              | .ok r e2 => Mi.R.ok (match o with | some a => a :: r | none => r) e2
              | _ => .er) = .ok rs e2 := r
            cases ht2 : turnsO base f j m (i + 1) e1.st with
            | ok rs' e3 =>
              rw [ht2] at r
              cases r
              exact .inr ⟨g1, d, o, e1, rs', m, Nat.lt_succ_self m, hf, by cases o <;> rfl, ht2, g2⟩
            | exc x e3 => rw [ht2] at r; cases r
            | er => rw [ht2] at r; cases r
          | exc x e3 => rw [hf] at r; cases r
          | er => rw [hf] at r; cases r
theorem turns_end {α : Type} {base : List (Option D)} {f : D → En → R (Option α)} : ∀ (ds : List D) (st : List Own) (x : Exn) (e : En), turns base f ds st ≠ .exc x e
  | [], _, _, _, h => by cases h
  | d :: ds, st, x, e, h => by
    have h : (match f d ⟨base, st⟩ with
      | .ok o e1 => (match turns base f ds e1.st with
        | .ok r e2 => Mi.R.ok (match o with | some a => a :: r | none => r) e2
        | _ => .er)
      | _ => .er) = .exc x e := h
    split at h
    · split at h <;> cases h
    · cases h
theorem turnsO_end {α : Type} {base : List (Option D)} {f : D → En → R (Option α)} {j : Nat} : ∀ (m n : Nat) (st : List Own) (x : Exn) (e : En), turnsO base f j m n st ≠ .exc x e
  | 0, _, _, _, _, h => by cases h
  | m + 1, n, st, x, e, h => by
    have h : (match cellL ⟨base, st⟩ (.own j) with
      | some (_, xs) => (match xs[n]? with
        | some d => (match f d ⟨base, st⟩ with
          | .ok o e1 => (match turnsO base f j m (n + 1) e1.st with
            | .ok r e2 => Mi.R.ok (match o with | some a => a :: r | none => r) e2
            | _ => .er)
          | _ => .er)
        | none => .ok [] ⟨base, st⟩)
      | none => .er) = .exc x e := h
    split at h
    · split at h
      · split at h
        · split at h <;> cases h
        · cases h
      · cases h
    · cases h
theorem turnsS_run {α : Type} {base : List (Option D)} {f : D → En → R (Option α)} {s : Src} {st : List Own} : (∃ rs e2 m, turnsS base f s st = .ok rs e2 ∧ Run base f s 0 m st rs e2) ∨ turnsS base f s st = .er := by
  cases hr : turnsS base f s st with
  | ok rs e2 =>
    cases s with
    | fix ds => exact .inl ⟨rs, e2, _, rfl, rfl, Nat.zero_le _, hr⟩
    | live j => exact .inl ⟨rs, e2, fuel, rfl, hr⟩
  | exc x e =>
    cases s with
    | fix ds => exact absurd hr (turns_end _ _ _ _)
    | live j => exact absurd hr (turnsO_end _ _ _ _ _)
  | er => exact .inr rfl
section
variable {K : PySem.W.Frag}
/-- the slots as they were -/
theorem Rel.revs {F0 F : Fp} {e : En} {σ σ0 : L2.St} {H : Hp} {vs0 : List (Option D)} (R : Rel K F e σ H) (l : Fle F0 F) (hl : σ0.length = vs0.length) (hv : ∀ (i : Nat) d, vs0[i]? = some (some d) → ∃ v, σ0[i]? = some (some v) ∧ Rep K F0 v d) : Rel K F ⟨vs0, e.st⟩ σ0 H :=
  ⟨R.sub, hl, fun i d h => by
    obtain ⟨v, h1, h2⟩ := hv i d h
    exact ⟨v, h1, h2.up l⟩, R.sl, R.own, R.inj, R.tab, R.ntb⟩
theorem wipeL_length (σ : List (Option D)) : ∀ vs : List Nat, (wipeL σ vs).length = σ.length
  | [] => rfl
  | v :: vs => by unfold wipeL; rw [List.length_set, wipeL_length σ vs]
theorem wipeL_some {σ : List (Option D)} {i : Nat} {x : D} : ∀ {vs : List Nat}, (wipeL σ vs)[i]? = some (some x) → σ[i]? = some (some x) ∧ i ∉ vs
  | [], h => ⟨h, by simp⟩
  | v :: vs, h => by
    unfold wipeL at h
    by_cases e : v = i
    · subst e
      by_cases q : v < (wipeL σ vs).length
      · rw [List.getElem?_set_self q] at h; cases h
      · rw [List.getElem?_eq_none (by rw [List.length_set]; omega)] at h; cases h
    · rw [List.getElem?_set_ne e] at h
      obtain ⟨h1, h2⟩ := wipeL_some h
      refine ⟨h1, fun m => ?_⟩
      rcases List.mem_cons.mp m with z | z
      · exact e z.symm
      · exact h2 z
theorem Rel.wiped {F : Fp} {e : En} {σ : L2.St} {H : Hp} (R : Rel K F e σ H) (vs : List Nat) : Rel K F ⟨wipeL e.vs vs, e.st⟩ (wipe σ vs) H :=
  ⟨R.sub, by rw [wipe_length]; exact R.len.trans (wipeL_length _ _).symm, fun i d h => by
    obtain ⟨h1, h2⟩ := wipeL_some h
    obtain ⟨v, h3, h4⟩ := R.val i d h1
    exact ⟨v, (wipe_out h2).trans h3, h4⟩, R.sl, R.own, R.inj, R.tab, R.ntb⟩
theorem wipe_in {σ : L2.St} {i : Nat} : ∀ {vs : List Nat}, i ∈ vs → i < σ.length → (wipe σ vs)[i]? = some none
  | [], h, _ => by cases h
  | v :: vs, h, hi => by
    unfold wipe
    by_cases e : v = i
    · subst e
      rw [List.getElem?_set_self (by rw [wipe_length]; exact hi)]
    · rw [List.getElem?_set_ne e]
      rcases List.mem_cons.mp h with z | z
      · exact absurd z.symm e
      · exact wipe_in z hi
theorem wipe_chg {σ σ2 : L2.St} {vs ws : List Nat} (h : Chg ws (wipe σ vs) σ2) (hs : ∀ i ∈ ws, i ∈ vs) : wipe σ2 vs = wipe σ vs := by
  have hl : σ2.length = σ.length := h.1.trans (wipe_length _ _)
  apply List.ext_getElem?
  intro i
  by_cases m : i ∈ vs
  · by_cases q : i < σ.length
    · rw [wipe_in m q, wipe_in m (by rw [hl]; exact q)]
    · rw [List.getElem?_eq_none (by rw [wipe_length, hl]; omega), List.getElem?_eq_none (by rw [wipe_length]; omega)]
  · rw [wipe_out m]
    exact h.2 i fun z => m (hs i z)
end

section
variable {X : Cx} {C : Ct} {W : WX} {pos : Pos}
def WF : WX := fun _ _ _ _ => False
def tTs (K : PySem.W.Frag) (C : Ct) (W : WX) (tt : CEo) : TT := fun σ H Q => ∃ F e, Rel K F e σ H ∧ Post K C W F H σ (evT C.cs C.cal tt e) (fun b _ F' H' => Q b H')
theorem ts_no : PTs X [] (tTs X.K C W .no) := ⟨fun pins s σ H Q I h => by
  obtain ⟨F, e, R, P⟩ := h
  exact pts_nil.run pins s σ H Q I (Post.of_ok R P)⟩
theorem ts_yes {c : CE} {c' : Expr} (hc : PT X c' (tB' X.K C W c)) : PTs X [c'] (tTs X.K C W (.yes c)) := ⟨fun pins s σ H Q I h => (pts_one hc).run pins s σ H Q I h⟩
def elF (C : Ct) (elt : CE) (tg : CT) (tt : CEo) (d : D) (e : En) : R (Option D) := match asg tg d e with
  | some e => (evT C.cs C.cal tt e).bind fun b e => if b then (evE C.cs C.cal elt e).bind fun y e => .ok (some y) e else .ok none e
  | none => .er
/-- one item: target, test, element -/
theorem el_turn {K : PySem.W.Frag} {elt : CE} {t : CT} {tt : CEo} {d : D} {e e1 : En} {o : Option D} {F : Fp} {H : Hp} {σ : L2.St} {x : V} {vs : List Nat} {Nx : Hp → Prop} {Ny : V → Hp → Prop} (hf : elF C elt t tt d e = .ok o e1) (R : Rel K F e (wipe σ vs) H) (rx : Rep K F x d) (hs : ∀ i ∈ slots t, i ∈ vs)
    (hn : o = none → ∀ F' H' σ', Rel K F' e1 σ' H' → Ext F H F' H' → Nx H') (hy : ∀ y, o = some y → ∀ v F' H' σ', Rel K F' e1 σ' H' → Ext F H F' H' → Rep K F' v y → Ny v H') :
    gI K t x (wipe σ vs) H fun σ2 H2 => wipe σ2 vs = wipe σ vs ∧ tTs K C WF tt σ2 H2 fun b H3 => if b = true then tI K C WF elt σ2 H3 Ny else Nx H3 := by
  unfold elF at hf
  split at hf
  · rename_i ea ha
    refine ⟨F, e, d, ea, R, rx, ha, fun F1 H1 σ1 R1 X1 c1 => ⟨wipe_chg c1 hs, F1, ea, R1, ?_⟩⟩
    cases ht : evT C.cs C.cal tt ea with
    | ok b eb =>
      rw [ht] at hf
      have hf : (if b = true then (evE C.cs C.cal elt eb).bind fun y e => Mi.R.ok (some y) e else Mi.R.ok none eb) = .ok o e1 := hf
      intro F2 H2 R2 X2
      cases b with
      | false =>
        cases hf
        exact hn rfl F2 H2 σ1 R2 (X1.trans X2)
      | true =>
        have hf : (evE C.cs C.cal elt eb).bind (fun y e => Mi.R.ok (some y) e) = .ok o e1 := hf
        show tI K C WF elt σ1 H2 Ny
        refine ⟨F2, eb, R2, ?_⟩
        cases hv : evE C.cs C.cal elt eb with
        | ok y ey =>
          rw [hv] at hf
          cases hf
          exact fun F3 H3 R3 X3 v rv => hy y rfl v F3 H3 σ1 R3 ((X1.trans X2).trans X3) rv
        | exc z ey => rw [hv] at hf; cases hf
        | er => rw [hv] at hf; cases hf
    | exc z ey => rw [ht] at hf; cases hf
    | er => rw [ht] at hf; cases hf
  · cases hf
theorem comp_tLc {K : PySem.W.Frag} {elt : CE} {t : CT} {it : CI} {tt : CEo} {vs : List Nat} (hs : ∀ i ∈ slots t, i ∈ vs) {σ : L2.St} {H : Hp} {Q : VK} (h : tF K C W (.comp elt t it tt vs) σ H Q) : tLc (iS K C W it) (gI K t) (tTs K C WF tt) (tI K C WF elt) vs σ H Q := by
  obtain ⟨F, e, R, P⟩ := h
  refine ⟨F, e, R, (Post.run P).mono fun s e1 F1 H1 _ R1 X1 P1 J hJ => ?_⟩
  intro Da hD
  have P1 : Post K C W F1 H1 σ ((turnsS (wipeL e1.vs vs) (elF C elt t tt) s e1.st).bind fun ys e' => if ys.length ≤ sizeLine then Mi.R.ok (D.lst ys) ⟨e1.vs, e'.st⟩ else Mi.R.er) _ := P1
  rcases turnsS_run (base := wipeL e1.vs vs) (f := elF C elt t tt) (s := s) (st := e1.st) with ⟨ys, e2, m, hr, run0⟩ | hr
  · rw [hr] at P1
    have P1 : Post K C W F1 H1 σ (if ys.length ≤ sizeLine then Mi.R.ok (D.lst ys) ⟨e1.vs, e2.st⟩ else Mi.R.er) _ := P1
    split at P1
    · rename_i hz
      have h0 : H Da = none := by
        cases q : H Da with
        | none => rfl
        | some u => exact absurd hD (X1.there Da (by rw [q]; exact nofun))
      have hDn : Da ∉ F1.al := R1.alne hD
      refine ⟨fun i m H' => ∃ F' st acc ads rs, Run (wipeL e1.vs vs) (elF C elt t tt) s i m st rs e2 ∧ Rel K F' ⟨wipeL e1.vs vs, st⟩ (wipe σ vs) H' ∧ Ext F1 H1 F' H' ∧ H' Da = some (.lst acc) ∧ F'.h Da = none ∧ Da ∉ F'.al ∧ Reps K F' acc ads ∧ ads ++ rs = ys,
        ⟨m, F1, e1.st, [], [], ys, run0, (R1.wiped _).side (R1.fnone hD) hDn (plain_none hD), Ext.refl.side hD, upd_same, R1.fnone hD, hDn, .nil, rfl⟩, ?_⟩
      rintro i m H' ⟨F', st, acc, ads, rs, run, R', X', hDa, hF, hA, ra, ey⟩
      have hJ' := its_mono X'.le hJ
      rcases run_step hJ' R' run with ⟨hst, rfl, rfl⟩ | ⟨hgo, d, o, e3, rs', m', hm, hf, hrs, run', hy⟩
      · refine .inl ⟨hst, ?_⟩
        rw [List.append_nil] at ey
        subst ey
        exact P1 F' H' (R'.revs X'.le R1.len R1.val) X' Da (.lst ads) _ h0 hDa hF hA rfl (.lst ra)
      · refine .inr ⟨hgo, fun H2 => ∃ F2 acc ads, Rel K F2 ⟨wipeL e1.vs vs, e3.st⟩ (wipe σ vs) H2 ∧ Ext F1 H1 F2 H2 ∧ H2 Da = some (.lst acc) ∧ F2.h Da = none ∧ Da ∉ F2.al ∧ Reps K F2 acc ads ∧ ads ++ rs' = ys, ?_, ?_⟩
        · rintro H2 ⟨F2, acc2, ads2, q1, q2, q3, q4, q5, q6, q7⟩
          exact ⟨m', hm, F2, e3.st, acc2, ads2, rs', run', q1, q2, q3, q4, q5, q6, q7⟩
        · intro x H2 y
          obtain ⟨F2, g, rx⟩ := hy x H2 y
          obtain ⟨R2, X2⟩ := g.rel R'
          -- what is known of Da behind a step
          have side : ∀ {F3 H3}, Ext F' H' F3 H3 → H3 Da = some (.lst acc) ∧ F3.h Da = none ∧ Da ∉ F3.al := fun {F3 H3} X3 =>
            ⟨X3.keep Da _ hDa hA (fun ps z => by cases z), (X3.new Da (by rw [hDa]; exact nofun)).trans hF, fun z => (X3.ow Da z).elim hA fun z => by rw [hDa] at z; cases z⟩
          refine el_turn (Ny := fun v H4 => ∃ acc, H4 Da = some (.lst acc) ∧ acc.length < sizeLine ∧ _) hf R2 rx hs (fun ho F3 H3 σ3 R3 X3 => ?_) fun yv ho v F3 H3 σ3 R3 X3 rv => ?_
          · subst ho
            have X4 := X2.trans X3
            obtain ⟨s1, s2, s3⟩ := side X4
            refine ⟨F3, acc, ads, R3.revs (X'.le.trans X4.le) (R'.len) (fun i d h => ?_), X'.trans X4, s1, s2, s3, ra.up X4.le, ?_⟩
            · exact (R1.wiped vs).val i d h
            · rw [← ey, hrs]; rfl
          · subst ho
            have X4 := X2.trans X3
            obtain ⟨s1, s2, s3⟩ := side X4
            refine ⟨acc, s1, ?_, F3, acc ++ [v], ads ++ [yv], (R3.revs (X'.le.trans X4.le) (R'.len) (fun i d h => (R1.wiped vs).val i d h)).side s2 s3 (plain_lst s1), (X'.trans X4).side hD, upd_same, s2, s3, (ra.up X4.le).append (.cons rv .nil), ?_⟩
            · have : ys.length = ads.length + (rs'.length + 1) := by rw [← ey, hrs, List.length_append]; rfl
              rw [ra.length]
              omega
            · rw [← ey, hrs, List.append_assoc]; rfl
    · exact P1.elim
  · rw [hr] at P1
    exact P1.elim
theorem f_comp {elt : CE} {t : CT} {it : CI} {tt : CEo} {vs : List Nat} {elt' tg' iter' : Expr} {ifs' : List Expr} {scope : Scope} {own : List (Str × Nat)} (hc : X.calm = true) (hN : X.N.Nodup) (hi : PI X tg' iter' (iS X.K C W it)) (ok : BlkOk X.N X.env.scope scope own) (hv : own.map (·.2) = vs) (hs : ∀ i ∈ slots t, i ∈ vs)
    (hg : ∀ (s : Shared) (H : Hp) (Cc : Addr) (cl : List (Str × Addr)) (fp : List Addr), PG (X.blk s H scope (compEnvC scope cl Cc X.env) fp) tg' (gI X.K t))
    (ht : ∀ (s : Shared) (H : Hp) (Cc : Addr) (cl : List (Str × Addr)) (fp : List Addr), PTs (X.blk s H scope (compEnvC scope cl Cc X.env) fp) ifs' (tTs X.K C WF tt))
    (he : ∀ (s : Shared) (H : Hp) (Cc : Addr) (cl : List (Str × Addr)) (fp : List Addr), PE (X.blk s H scope (compEnvC scope cl Cc X.env) fp) elt' (tI X.K C WF elt))
    (hfs : ∀ x, foldedSetIterable iter' X.env x = pure x) : PE X (.ListComp elt' [⟨tg', iter', ifs', 0⟩] scope pos) (tF X.K C W (.comp elt t it tt vs)) := by
  subst hv
  exact PE.imp (pe_lc hc hN hi ok hg ht he hfs) fun σ H Q h => comp_tLc hs h
end
end Mi
end

section
set_option Elab.async false
set_option linter.all false
set_option maxRecDepth 100000
set_option maxHeartbeats 4000000
set_option autoImplicit false
/-! Mi17: dict comprehensions; sorted with a key. -/
namespace Mi
open PySem L2 RZ PySem.Spec PySem.Calls PyProof.Rows
variable [TbT]
section
variable {X : Cx} {C : Ct} {W : WX} {pos : Pos}
def elK (C : Ct) (k v : CE) (tg : CT) (tt : CEo) (d : D) (e : En) : R (Option (Key × D)) := match asg tg d e with
  | some e => (evT C.cs C.cal tt e).bind fun b e => if b then (evE C.cs C.cal k e).bind fun y e => (evE C.cs C.cal v e).bind fun z e => (match dk y with
      | some k => .ok (some (k, z)) e
      | none => .er) else .ok none e
  | none => .er
theorem elk_turn {K : PySem.W.Frag} {k v : CE} {t : CT} {tt : CEo} {d : D} {e e1 : En} {o : Option (Key × D)} {F : Fp} {H : Hp} {σ : L2.St} {x : V} {vs : List Nat} {Nx : Hp → Prop} {Ny : V → V → Hp → Prop} (hf : elK C k v t tt d e = .ok o e1) (R : Rel K F e (wipe σ vs) H) (rx : Rep K F x d) (hs : ∀ i ∈ slots t, i ∈ vs)
    (hn : o = none → ∀ F' H' σ', Rel K F' e1 σ' H' → Ext F H F' H' → Nx H') (hy : ∀ kk z, o = some (kk, z) → ∀ v F' H' σ', Rel K F' e1 σ' H' → Ext F H F' H' → (∀ x, kk = .inr x → x.length ≤ sizeLine) → Rep K F' v z → Ny (kV kk) v H') :
    gI K t x (wipe σ vs) H fun σ2 H2 => wipe σ2 vs = wipe σ vs ∧ tTs K C WF tt σ2 H2 fun b H3 => if b = true then tI K C WF k σ2 H3 fun y H4 => tI K C WF v σ2 H4 fun z H5 => Ny y z H5 else Nx H3 := by
  unfold elK at hf
  split at hf
  · rename_i ea ha
    refine ⟨F, e, d, ea, R, rx, ha, fun F1 H1 σ1 R1 X1 c1 => ⟨wipe_chg c1 hs, F1, ea, R1, ?_⟩⟩
    cases ht : evT C.cs C.cal tt ea with
    | ok b eb =>
      rw [ht] at hf
      have hf : (if b = true then (evE C.cs C.cal k eb).bind fun y e => (evE C.cs C.cal v e).bind fun z e => (match dk y with
        | some k => Mi.R.ok (some (k, z)) e
        | none => .er) else Mi.R.ok none eb) = .ok o e1 := hf
      intro F2 H2 R2 X2
      cases b with
      | false =>
        cases hf
        exact hn rfl F2 H2 σ1 R2 (X1.trans X2)
      | true =>
        have hf : ((evE C.cs C.cal k eb).bind fun y e => (evE C.cs C.cal v e).bind fun z e => (match dk y with
          | some k => Mi.R.ok (some (k, z)) e
          | none => .er)) = .ok o e1 := hf
        show tI K C WF k σ1 H2 _
        refine ⟨F2, eb, R2, ?_⟩
        cases hk : evE C.cs C.cal k eb with
        | ok y ey =>
          rw [hk] at hf
          have hf : ((evE C.cs C.cal v ey).bind fun z e => (match dk y with
            | some k => Mi.R.ok (some (k, z)) e
            | none => .er)) = .ok o e1 := hf
          refine fun F3 H3 R3 X3 u ru => ⟨F3, ey, R3, ?_⟩
          cases hv : evE C.cs C.cal v ey with
          | ok z ez =>
            rw [hv] at hf
            have hf : (match dk y with
              | some k => Mi.R.ok (some (k, z)) ez
              | none => .er) = .ok o e1 := hf
            cases hd : dk y with
            | none => rw [hd] at hf; cases hf
            | some kk =>
              rw [hd] at hf
              cases hf
              intro F4 H4 R4 X4 w rw'
              rw [dk_eq hd] at ru
              have eu := key_v ru
              subst eu
              exact hy kk z rfl w F4 H4 σ1 R4 (((X1.trans X2).trans X3).trans X4) (key_len ru) rw'
          | exc z ez => rw [hv] at hf; cases hf
          | er => rw [hv] at hf; cases hf
        | exc z ey => rw [hk] at hf; cases hf
        | er => rw [hk] at hf; cases hf
    | exc z ey => rw [ht] at hf; cases hf
    | er => rw [ht] at hf; cases hf
  · cases hf
theorem dmerge_snoc (acc ads : List (Key × D)) (k : Key) (z : D) : dmerge acc (ads ++ [(k, z)]) = dput (dmerge acc ads) k z := by
  unfold dmerge
  rw [List.foldl_append]
  rfl
theorem dcomp_tDc {K : PySem.W.Frag} {k v : CE} {t : CT} {it : CI} {tt : CEo} {vs : List Nat} (hs : ∀ i ∈ slots t, i ∈ vs) {σ : L2.St} {H : Hp} {Q : VK} (h : tF K C W (.dcomp k v t it tt vs) σ H Q) : tDc (iS K C W it) (gI K t) (tTs K C WF tt) (tI K C WF k) (tI K C WF v) vs σ H Q := by
  obtain ⟨F, e, R, P⟩ := h
  refine ⟨F, e, R, (Post.run P).mono fun s e1 F1 H1 _ R1 X1 P1 J hJ => ?_⟩
  intro Da hD
  have P1 : Post K C W F1 H1 σ ((turnsS (wipeL e1.vs vs) (elK C k v t tt) s e1.st).bind fun ys e' => if ys.length ≤ sizeLine then Mi.R.ok (D.dic (dmerge [] ys)) ⟨e1.vs, e'.st⟩ else Mi.R.er) _ := P1
  rcases turnsS_run (base := wipeL e1.vs vs) (f := elK C k v t tt) (s := s) (st := e1.st) with ⟨ys, e2, m, hr, run0⟩ | hr
  · rw [hr] at P1
    have P1 : Post K C W F1 H1 σ (if ys.length ≤ sizeLine then Mi.R.ok (D.dic (dmerge [] ys)) ⟨e1.vs, e2.st⟩ else Mi.R.er) _ := P1
    split at P1
    · rename_i hz
      have h0 : H Da = none := by
        cases q : H Da with
        | none => rfl
        | some u => exact absurd hD (X1.there Da (by rw [q]; exact nofun))
      have hDn : Da ∉ F1.al := R1.alne hD
      refine ⟨fun i m H' => ∃ F' st acc ads rs, Run (wipeL e1.vs vs) (elK C k v t tt) s i m st rs e2 ∧ Rel K F' ⟨wipeL e1.vs vs, st⟩ (wipe σ vs) H' ∧ Ext F1 H1 F' H' ∧ H' Da = some (.dK acc) ∧ F'.h Da = none ∧ Da ∉ F'.al ∧ RepK K F' acc (dmerge [] ads) ∧ acc.length ≤ ads.length ∧ ads ++ rs = ys,
        ⟨m, F1, e1.st, [], [], ys, run0, (R1.wiped _).side (R1.fnone hD) hDn (plain_none hD), Ext.refl.side hD, upd_same, R1.fnone hD, hDn, .nil, Nat.le_refl _, rfl⟩, ?_⟩
      rintro i m H' ⟨F', st, acc, ads, rs, run, R', X', hDa, hF, hA, ra, hl, ey⟩
      have hJ' := its_mono X'.le hJ
      rcases run_step hJ' R' run with ⟨hst, rfl, rfl⟩ | ⟨hgo, d, o, e3, rs', m', hm, hf, hrs, run', hy⟩
      · refine .inl ⟨hst, ?_⟩
        rw [List.append_nil] at ey
        subst ey
        exact P1 F' H' (R'.revs X'.le R1.len R1.val) X' Da (.dic (dmerge [] ads)) _ h0 hDa hF hA rfl (.dic ra)
      · refine .inr ⟨hgo, fun H2 => ∃ F2 acc ads, Rel K F2 ⟨wipeL e1.vs vs, e3.st⟩ (wipe σ vs) H2 ∧ Ext F1 H1 F2 H2 ∧ H2 Da = some (.dK acc) ∧ F2.h Da = none ∧ Da ∉ F2.al ∧ RepK K F2 acc (dmerge [] ads) ∧ acc.length ≤ ads.length ∧ ads ++ rs' = ys, ?_, ?_⟩
        · rintro H2 ⟨F2, acc2, ads2, q1, q2, q3, q4, q5, q6, q7, q8⟩
          exact ⟨m', hm, F2, e3.st, acc2, ads2, rs', run', q1, q2, q3, q4, q5, q6, q7, q8⟩
        · intro x H2 y
          obtain ⟨F2, g, rx⟩ := hy x H2 y
          obtain ⟨R2, X2⟩ := g.rel R'
          have side : ∀ {F3 H3}, Ext F' H' F3 H3 → H3 Da = some (.dK acc) ∧ F3.h Da = none ∧ Da ∉ F3.al := fun {F3 H3} X3 =>
            ⟨X3.keep Da _ hDa hA (fun ps z => by cases z), (X3.new Da (by rw [hDa]; exact nofun)).trans hF, fun z => (X3.ow Da z).elim hA fun z => by rw [hDa] at z; cases z⟩
          refine elk_turn (Ny := fun u v H4 => ∃ kvs k, u = kV k ∧ H4 Da = some (.dK kvs) ∧ kvs.length < sizeLine ∧ _) hf R2 rx hs (fun ho F3 H3 σ3 R3 X3 => ?_) fun kk z ho v F3 H3 σ3 R3 X3 hkl rv => ?_
          · subst ho
            have X4 := X2.trans X3
            obtain ⟨s1, s2, s3⟩ := side X4
            refine ⟨F3, acc, ads, R3.revs (X'.le.trans X4.le) (R'.len) (fun i d h => ?_), X'.trans X4, s1, s2, s3, RepK.mono X4.le _ _ ra, hl, ?_⟩
            · exact (R1.wiped vs).val i d h
            · rw [← ey, hrs]; rfl
          · subst ho
            have X4 := X2.trans X3
            obtain ⟨s1, s2, s3⟩ := side X4
            have hlen : ys.length = ads.length + (rs'.length + 1) := by rw [← ey, hrs, List.length_append]; rfl
            refine ⟨acc, kk, rfl, s1, by omega, F3, putK acc kk v, ads ++ [(kk, z)], (R3.revs (X'.le.trans X4.le) (R'.len) (fun i d h => (R1.wiped vs).val i d h)).side s2 s3 (plain_dK s1), (X'.trans X4).side hD, upd_same, s2, s3, ?_, ?_, ?_⟩
            · rw [dmerge_snoc]
              exact (RepK.mono X4.le _ _ ra).put hkl rv
            · have h2 := length_putK acc kk v
              rw [List.length_append]
              show _ ≤ ads.length + 1
              omega
            · rw [← ey, hrs, List.append_assoc]; rfl
    · exact P1.elim
  · rw [hr] at P1
    exact P1.elim
theorem f_dcomp {k v : CE} {t : CT} {it : CI} {tt : CEo} {vs : List Nat} {k' v' tg' iter' : Expr} {ifs' : List Expr} {scope : Scope} {own : List (Str × Nat)} (hc : X.calm = true) (hN : X.N.Nodup) (hi : PI X tg' iter' (iS X.K C W it)) (ok : BlkOk X.N X.env.scope scope own) (hv : own.map (·.2) = vs) (hs : ∀ i ∈ slots t, i ∈ vs)
    (hg : ∀ (s : Shared) (H : Hp) (Cc : Addr) (cl : List (Str × Addr)) (fp : List Addr), PG (X.blk s H scope (compEnvC scope cl Cc X.env) fp) tg' (gI X.K t))
    (ht : ∀ (s : Shared) (H : Hp) (Cc : Addr) (cl : List (Str × Addr)) (fp : List Addr), PTs (X.blk s H scope (compEnvC scope cl Cc X.env) fp) ifs' (tTs X.K C WF tt))
    (hk : ∀ (s : Shared) (H : Hp) (Cc : Addr) (cl : List (Str × Addr)) (fp : List Addr), PE (X.blk s H scope (compEnvC scope cl Cc X.env) fp) k' (tI X.K C WF k))
    (he : ∀ (s : Shared) (H : Hp) (Cc : Addr) (cl : List (Str × Addr)) (fp : List Addr), PE (X.blk s H scope (compEnvC scope cl Cc X.env) fp) v' (tI X.K C WF v))
    (hfs : ∀ x, foldedSetIterable iter' X.env x = pure x) : PE X (.DictComp k' v' [⟨tg', iter', ifs', 0⟩] scope pos) (tF X.K C W (.dcomp k v t it tt vs)) := by
  subst hv
  exact PE.imp (pe_dc hc hN hi ok hg ht hk he hfs) fun σ H Q h => dcomp_tDc hs h
end
end Mi
end

section
set_option Elab.async false
set_option linter.all false
set_option maxRecDepth 100000
set_option maxHeartbeats 4000000
set_option autoImplicit false
/-! Mi18 (printed by mkset.py): len(set(xs)), xs some texts. -/
namespace Mi
open PySem L2 PySem.Spec PyProof.Rows
def dups (xs : List Str) : Nat := xs.eraseDups.length
theorem dups_snoc (xs : List Str) (x : Str) : dups (xs ++ [x]) = if xs.any (· == x) = true then dups xs else dups xs + 1 := by
  unfold dups
  rw [List.eraseDups_append]
  by_cases h : xs.any (· == x) = true
  · rw [if_pos h]
    have hm : x ∈ xs := by
      obtain ⟨y, hy, hq⟩ := List.any_eq_true.mp h
      rw [← beq_iff_eq.mp hq]
      exact hy
    have e : [x].removeAll xs = [] := by simp [List.removeAll, hm]
    rw [e]
    simp
  · rw [if_neg h]
    have hm : x ∉ xs := fun q => h (List.any_eq_true.mpr ⟨x, q, beq_self_eq_true x⟩)
    have e : [x].removeAll xs = [x] := by simp [List.removeAll, hm]
    rw [e, List.length_append, List.eraseDups_cons]
    simp
theorem dups_le (xs : List Str) : ∀ i, dups (xs.take i) ≤ i := by
  intro i
  induction i with
  | zero => simp [dups]
  | succ i ih =>
    by_cases h : i < xs.length
    · rw [List.take_succ_eq_append_getElem h, dups_snoc]
      split <;> omega
    · rw [List.take_of_length_le (by omega)]
      rw [List.take_of_length_le (by omega)] at ih
      omega
section
variable {prog : Program} {w : World} {A : Around} {R : Result → Shared → Prop} {I : Addr} {fp wr : List Addr} {G : Array GenState → Array GenState → Prop} {n : Nat} {P : Nat → Value → Prop} {St : Nat → Shared → Prop}
theorem loopS (W : WalksS prog w A.in1 I fp wr G n P St) (S : Addr) (hSf : S ∉ fp) (xs : List Str) (hsz : xs.length = n) (hn1 : n < 4000)
    (hval : ∀ i v, P i v → ∃ t, v = .str (xs.getD i Str.empty) t) :
    ∀ (k i : Nat) (s : Shared), n - i = k → i ≤ n → St i s →
      s.heap.SetOf (PySem.strKind prog w) S (fun k' => (xs.take i).any (· == k')) (dups (xs.take i)) →
      (∀ s', Moved (S :: wr) G s s' → s'.heap.SetOf (PySem.strKind prog w) S (fun k' => (xs.take n).any (· == k')) (dups (xs.take n)) → R (.ok (.ret .none)) s') →
      codeAny (model prog w) A (.builtin "set.update.loop" ⟨[.ref S, .ref I], []⟩) R s := by
  have hSw : S ∉ wr := fun h => hSf (W.sub _ h)
  have mine : ∀ b ∈ wr, b ∈ S :: wr := fun b hb => List.mem_cons_of_mem _ hb
  intro k
  induction k with
  | zero =>
    intro i s hk hi hst hS hR
    obtain rfl : i = n := by omega
    refine codeAny_builtin PyProof.Rows.F.entry_set_update_loop ?_
    rw [Around.under_plainId PyProof.Rows.F.plain_set_update_loop _]
    show wpAny _ A.in1 (pyNext (.ref I) >>= _) _ _ s
    refine wpAny_bind (W.done s _ _ hst fun s' hm => ?_)
    show wpAny _ A.in1 (ret Value.none) _ _ s'
    obtain ⟨o, es, ep, t, ho, more⟩ := hS
    exact wpAny_pure (hR s' (hm.mono mine) ⟨o, es, ep, t, hm.heap S _ hSw ho, more⟩)
  | succ k ih =>
    intro i s hk hi hst hS hR
    have hlt : i < n := by omega
    have hx : i < xs.length := by omega
    refine codeAny_builtin PyProof.Rows.F.entry_set_update_loop ?_
    rw [Around.under_plainId PyProof.Rows.F.plain_set_update_loop _]
    show wpAny _ A.in1 (pyNext (.ref I) >>= _) _ _ s
    refine wpAny_bind (W.item i s _ _ hlt hst fun v s' hP hst' hm => ?_)
    obtain ⟨t, rfl⟩ := hval i v hP
    have hS2 : s'.heap.SetOf (PySem.strKind prog w) S (fun k' => (xs.take i).any (· == k')) (dups (xs.take i)) := by
      obtain ⟨o, es, ep, tb, ho, more⟩ := hS
      exact ⟨o, es, ep, tb, hm.heap S _ hSw ho, more⟩
    show wpAny _ A.in1 (holding [Value.str (xs.getD i Str.empty) t] (setAdd S (.str (xs.getD i Str.empty) t)) >>= _) _ _ s'
    refine wpAny_bind (wpAny_holding ?_)
    unfold setAdd
    refine wpAny_holding ?_
    refine wpAny_bind ((PySem.strKind prog w).pyHash (k := xs.getD i Str.empty) (strKind_is _ _ _ _) ?_)
    have hdl := dups_le xs i
    refine wpAny_setAddHashed_of (knd := PySem.strKind prog w) (s := { s' with toks := s'.toks + 1 }) (strKind_is _ _ _ _) rfl hS2 (by unfold scanBound; omega) fun h' hsb hS3 => ?_
    have ex : xs.take (i + 1) = xs.take i ++ [xs.getD i Str.empty] := by
      rw [List.take_succ_eq_append_getElem hx, List.getD_eq_getElem?_getD, List.getElem?_eq_getElem hx]
      rfl
    have hSi : h'.SetOf (PySem.strKind prog w) S (fun k' => (xs.take (i + 1)).any (· == k')) (dups (xs.take (i + 1))) := by
      refine SetOf_congr hS3 (fun k' => ?_) ?_
      · rw [ex, List.any_append]
        by_cases e : k' = xs.getD i Str.empty
        · rw [e]; simp
        · have hb : (xs.getD i Str.empty == k') = false := beq_eq_false_iff_ne.mpr (Ne.symm e)
          rw [List.any_cons, hb, decide_eq_false e]
          rfl
      · rw [ex, dups_snoc]
    refine wpAny_pure ⟨plainId_quiet PyProof.Rows.F.plain_set_update_loop _, ih (i + 1) _ (by omega) hlt (W.frame _ s' _ _ hst' (Nat.le_succ _) fun b hb o e => ?_) hSi fun s'' hm'' hS'' => ?_⟩
    · rw [hsb.2 b (fun h : b = S => hSf (by rw [← h]; exact hb))]; exact e
    · refine hR s'' (Moved.trans W.gtrans ((hm.mono mine).then_heap (Nat.le_succ _) fun b o hb e => ?_) hm'') hS''
      rw [hsb.2 b (fun h : b = S => hb (by rw [h]; exact List.mem_cons_self))]; exact e
end
section
variable {prog : Program} {w : World} {A : Around} {E : Value → Shared → Prop} {s : Shared}
theorem call_setL {l : Addr} {items : Array Value} {xs : List Str} {Q : Value → Shared → Prop}
    (hh : A.handled = none) (hl : s.heap.IsList l items) (hi : PyProof.Rows.StrsAre items.toList xs) (hn1 : xs.length < 4000)
    (h : ∀ (h' : Heap) (tk : Nat), h'.SetOf (PySem.strKind prog w) s.heap.objs.size (fun k' => (xs.take items.size).any (· == k')) (dups (xs.take items.size)) →
      (∀ b o, b < s.heap.objs.size → s.heap.get? b = some o → h'.get? b = some o) → Q (.ref s.heap.objs.size) { s with heap := h', toks := tk }) :
    wpAny (model prog w) A (call (.type "set") [.ref l]) Q E s := by
  obtain ⟨c, tl, hmro⟩ := PySem.F.called_set.mro
  have f1 := PySem.F.called_set.made
  have f2 := PySem.F.called_set.sub
  refine wpAny_call (codeAny_of_tree ?_)
  show wpAny _ _ (callAny (.type "set") _) _ _ _
  refine wpAny_pure ⟨Code.quiet_builtin _ (by decide +kernel), codeAny_builtin PySem.F.entry_type_call ?_⟩
  rw [Around.under_plain (weight_type_call_type "set" [.ref l] []) rfl]
  have f3 := PySem.F.called_set.notType
  have f4 := PySem.F.called_set.canCreate
  have f5 := PySem.F.typeCall_set_1 (.ref l)
  repeat (any_goals (first | assumption | wp_step))
  let N (led : Bool) : Obj := { cls := .type "set", dict := none, data := .set #[] 0 (.fresh 0 0 led) }
  refine codeAny_mono (code_set_new_1 (.ref l) (E := E) (Q₁ := fun obj s₁ => ∃ led : Bool, obj = .ref s.heap.objs.size ∧ s₁ = { s with heap := s.heap.push (N led) }) fun led => ⟨led, rfl, rfl⟩) fun r s₁ hr => ?_
  cases r with
  | error e => exact hr
  | ok fl =>
    cases fl with
    | ret obj =>
      obtain ⟨led, rfl, rfl⟩ := hr
      have hS : (s.heap.push (N led)).get? s.heap.objs.size = some (N led) := Heap.get?_push_size _ rfl
      have hT : Shared.TypeIs { s with heap := s.heap.push (N led) } (.ref s.heap.objs.size) "set" := ⟨_, hS, rfl⟩
      have f6 := PySem.F.called_set.init.lookup
      have f7 := PySem.F.called_set.init.bind (.ref s.heap.objs.size)
      repeat (any_goals (first | assumption | wp_step))
      refine codeAny_mono (codeAny_call_builtin (R := wants (fun r s₂ => r = .none ∧ ∃ h' tk, s₂ = { s with heap := h', toks := tk } ∧
          h'.SetOf (PySem.strKind prog w) s.heap.objs.size (fun k' => (xs.take items.size).any (· == k')) (dups (xs.take items.size)) ∧
          (∀ b o, b < s.heap.objs.size → s.heap.get? b = some o → h'.get? b = some o)) E) PySem.F.called_set.init.plain PySem.F.entry_set_init (check_set_init_1 hT ?_)) fun r₂ s₂ hr₂ => ?_
      · obtain ⟨⟨ocls, odict, odata, oslots⟩, hol, hcl, nl, hdl⟩ := hl
        simp only at hcl hdl
        subst hcl; subst hdl
        have hol' : (s.heap.push (N led)).get? l = some { cls := .type "list", dict := odict, data := .seq items nl, slots := oslots } := Heap.get?_push_of_some _ hol
        have g1 := PySem.F.sub_list_set
        have g2 := PySem.F.sub_list_frozenset
        have g3 : (Value.type "list" == Value.type "dict") = false := by decide
        have hl1 : (s.heap.push (N led)).IsList l items := ⟨_, hol', rfl, nl, rfl⟩
        unfold Builtin.«set.__init__» noKeywords Builtin.Frozenset.updateFrom
        generalize hPI : pyIter = PI
        wp_walk
        subst hPI
        refine wpAny_pyIter_list hl1 ?_
        refine wpAny_bind (wpAny_runValue ?_)
        have hlS : l < s.heap.objs.size := Heap.lt_size hol
        have hz : (s.heap.push (N led)).objs.size = s.heap.objs.size + 1 := Heap.size_push ..
        have hne : l ≠ (s.heap.push (N led)).objs.size := by rw [hz]; exact Nat.ne_of_lt (Nat.lt_succ_of_lt hlS)
        have hSf : s.heap.objs.size ∉ [(s.heap.push (N led)).objs.size, l] := by
          rw [hz]
          intro m
          rcases List.mem_cons.mp m with e | m
          · exact absurd e (Nat.ne_of_lt (Nat.lt_succ_self _))
          · exact absurd (List.mem_singleton.mp m) (Nat.ne_of_gt hlS)
        have hsz : xs.length = items.size := by rw [← StrsAre.len_eq hi, Array.length_toList]
        have hval : ∀ (i : Nat) (v : Value), items[i]? = some v → ∃ t, v = .str (xs.getD i Str.empty) t := fun i v hv => SS.strs_at hi i v (by rw [Array.getElem?_toList]; exact hv)
        refine loopS ((Walks.list (by simp [hh]) _ l hne items).toS) s.heap.objs.size hSf xs hsz (by rw [← hsz]; exact hn1) hval (items.size - 0) 0 _ (by omega) (Nat.zero_le _)
          ⟨⟨_, Heap.get?_push_size _ rfl, rfl, rfl⟩, (hl1.push _)⟩ ?hS0 ?hR
        case hS0 =>
          have hget : ((s.heap.push (N led)).push { cls := .type "list_iterator", data := .fields #[.ref l, .int 0 0] }).get? s.heap.objs.size = some (N led) := Heap.get?_push_of_some _ hS
          exact PyProof.Rows.SetOf_congr ((PyProof.Rows.setObjOf_fresh (knd := PySem.strKind prog w) led).setOf hget (by unfold scanBound; omega)) (fun _ => rfl) rfl
        case hR =>
          intro s' hm hS'
          obtain ⟨h', g', d', tk', os'⟩ := s'
          obtain rfl : g' = s.gens := hm.gens
          obtain rfl : d' = s.drawn := hm.drawn
          obtain rfl : os' = s.os := hm.os
          show wpAny _ _ _ _ _ _
          refine wpAny_pure ?_
          show wpAny _ _ (ret Value.none) _ _ _
          refine wpAny_pure ⟨rfl, h', tk', rfl, hS', fun b o hb e => hm.heap b o (fun m => ?_) (Heap.get?_push_of_some _ (Heap.get?_push_of_some _ e))⟩
          rcases List.mem_cons.mp m with e | m
          · exact absurd e (Nat.ne_of_lt hb)
          · rw [List.mem_singleton.mp m, hz] at hb
            exact absurd hb (Nat.not_lt.mpr (Nat.le_succ _))
      · cases r₂ with
        | error e => exact hr₂
        | ok fl₂ =>
          cases fl₂ with
          | ret r =>
            obtain ⟨rfl, h', tk, rfl, hS', hk'⟩ := hr₂
            repeat (any_goals (first | assumption | wp_step))
            exact h _ _ hS' hk'
          | _ => exact hr₂.elim
    | _ => exact hr.elim
theorem call_setT {l : Addr} {items : Array Value} {xs : List Str} {Q : Value → Shared → Prop}
    (hh : A.handled = none) (hl : s.heap.IsTuple l items) (hi : PyProof.Rows.StrsAre items.toList xs) (hn1 : xs.length < 4000)
    (h : ∀ (h' : Heap) (tk : Nat), h'.SetOf (PySem.strKind prog w) s.heap.objs.size (fun k' => (xs.take items.size).any (· == k')) (dups (xs.take items.size)) →
      (∀ b o, b < s.heap.objs.size → s.heap.get? b = some o → h'.get? b = some o) → Q (.ref s.heap.objs.size) { s with heap := h', toks := tk }) :
    wpAny (model prog w) A (call (.type "set") [.ref l]) Q E s := by
  obtain ⟨c, tl, hmro⟩ := PySem.F.called_set.mro
  have f1 := PySem.F.called_set.made
  have f2 := PySem.F.called_set.sub
  refine wpAny_call (codeAny_of_tree ?_)
  show wpAny _ _ (callAny (.type "set") _) _ _ _
  refine wpAny_pure ⟨Code.quiet_builtin _ (by decide +kernel), codeAny_builtin PySem.F.entry_type_call ?_⟩
  rw [Around.under_plain (weight_type_call_type "set" [.ref l] []) rfl]
  have f3 := PySem.F.called_set.notType
  have f4 := PySem.F.called_set.canCreate
  have f5 := PySem.F.typeCall_set_1 (.ref l)
  repeat (any_goals (first | assumption | wp_step))
  let N (led : Bool) : Obj := { cls := .type "set", dict := none, data := .set #[] 0 (.fresh 0 0 led) }
  refine codeAny_mono (code_set_new_1 (.ref l) (E := E) (Q₁ := fun obj s₁ => ∃ led : Bool, obj = .ref s.heap.objs.size ∧ s₁ = { s with heap := s.heap.push (N led) }) fun led => ⟨led, rfl, rfl⟩) fun r s₁ hr => ?_
  cases r with
  | error e => exact hr
  | ok fl =>
    cases fl with
    | ret obj =>
      obtain ⟨led, rfl, rfl⟩ := hr
      have hS : (s.heap.push (N led)).get? s.heap.objs.size = some (N led) := Heap.get?_push_size _ rfl
      have hT : Shared.TypeIs { s with heap := s.heap.push (N led) } (.ref s.heap.objs.size) "set" := ⟨_, hS, rfl⟩
      have f6 := PySem.F.called_set.init.lookup
      have f7 := PySem.F.called_set.init.bind (.ref s.heap.objs.size)
      repeat (any_goals (first | assumption | wp_step))
      refine codeAny_mono (codeAny_call_builtin (R := wants (fun r s₂ => r = .none ∧ ∃ h' tk, s₂ = { s with heap := h', toks := tk } ∧
          h'.SetOf (PySem.strKind prog w) s.heap.objs.size (fun k' => (xs.take items.size).any (· == k')) (dups (xs.take items.size)) ∧
          (∀ b o, b < s.heap.objs.size → s.heap.get? b = some o → h'.get? b = some o)) E) PySem.F.called_set.init.plain PySem.F.entry_set_init (check_set_init_1 hT ?_)) fun r₂ s₂ hr₂ => ?_
      · obtain ⟨⟨ocls, odict, odata, oslots⟩, hol, hcl, nl, hdl⟩ := hl
        simp only at hcl hdl
        subst hcl; subst hdl
        have hol' : (s.heap.push (N led)).get? l = some { cls := .type "tuple", dict := odict, data := .seq items nl, slots := oslots } := Heap.get?_push_of_some _ hol
        have g1 := PySem.F.sub_tuple_set
        have g2 := PySem.F.sub_tuple_frozenset
        have g3 : (Value.type "tuple" == Value.type "dict") = false := by decide
        have hl1 : (s.heap.push (N led)).IsTuple l items := ⟨_, hol', rfl, nl, rfl⟩
        unfold Builtin.«set.__init__» noKeywords Builtin.Frozenset.updateFrom
        generalize hPI : pyIter = PI
        wp_walk
        subst hPI
        refine wpAny_pyIter_tuple hl1 ?_
        refine wpAny_bind (wpAny_runValue ?_)
        have hlS : l < s.heap.objs.size := Heap.lt_size hol
        have hz : (s.heap.push (N led)).objs.size = s.heap.objs.size + 1 := Heap.size_push ..
        have hne : l ≠ (s.heap.push (N led)).objs.size := by rw [hz]; exact Nat.ne_of_lt (Nat.lt_succ_of_lt hlS)
        have hSf : s.heap.objs.size ∉ [(s.heap.push (N led)).objs.size, l] := by
          rw [hz]
          intro m
          rcases List.mem_cons.mp m with e | m
          · exact absurd e (Nat.ne_of_lt (Nat.lt_succ_self _))
          · exact absurd (List.mem_singleton.mp m) (Nat.ne_of_gt hlS)
        have hsz : xs.length = items.size := by rw [← StrsAre.len_eq hi, Array.length_toList]
        have hval : ∀ (i : Nat) (v : Value), items[i]? = some v → ∃ t, v = .str (xs.getD i Str.empty) t := fun i v hv => SS.strs_at hi i v (by rw [Array.getElem?_toList]; exact hv)
        refine loopS ((Walks.tuple (by simp [hh]) _ l hne items).toS) s.heap.objs.size hSf xs hsz (by rw [← hsz]; exact hn1) hval (items.size - 0) 0 _ (by omega) (Nat.zero_le _)
          ⟨⟨_, Heap.get?_push_size _ rfl, rfl, rfl⟩, (hl1.push _)⟩ ?hS0 ?hR
        case hS0 =>
          have hget : ((s.heap.push (N led)).push { cls := .type "tuple_iterator", data := .fields #[.ref l, .int 0 0] }).get? s.heap.objs.size = some (N led) := Heap.get?_push_of_some _ hS
          exact PyProof.Rows.SetOf_congr ((PyProof.Rows.setObjOf_fresh (knd := PySem.strKind prog w) led).setOf hget (by unfold scanBound; omega)) (fun _ => rfl) rfl
        case hR =>
          intro s' hm hS'
          obtain ⟨h', g', d', tk', os'⟩ := s'
          obtain rfl : g' = s.gens := hm.gens
          obtain rfl : d' = s.drawn := hm.drawn
          obtain rfl : os' = s.os := hm.os
          show wpAny _ _ _ _ _ _
          refine wpAny_pure ?_
          show wpAny _ _ (ret Value.none) _ _ _
          refine wpAny_pure ⟨rfl, h', tk', rfl, hS', fun b o hb e => hm.heap b o (fun m => ?_) (Heap.get?_push_of_some _ (Heap.get?_push_of_some _ e))⟩
          rcases List.mem_cons.mp m with e | m
          · exact absurd e (Nat.ne_of_lt hb)
          · rw [List.mem_singleton.mp m, hz] at hb
            exact absurd hb (Nat.not_lt.mpr (Nat.le_succ _))
      · cases r₂ with
        | error e => exact hr₂
        | ok fl₂ =>
          cases fl₂ with
          | ret r =>
            obtain ⟨rfl, h', tk, rfl, hS', hk'⟩ := hr₂
            repeat (any_goals (first | assumption | wp_step))
            exact h _ _ hS' hk'
          | _ => exact hr₂.elim
    | _ => exact hr.elim
end
section
variable {X : Cx} {C : Ct} {W : WX}
theorem strs_are : ∀ {ys : List Str} {us : List Value}, Vals (ys.map V.str) us → StrsAre us ys
  | [], _, .nil => .nil
  | y :: ys, _, .cons r t => by
    obtain ⟨k, rfl⟩ := r
    exact .cons y k (strs_are t)
/-- len(set(xs)) -/
def tLenS (K : PySem.W.Frag) (ta : TE) : TE := fun σ H Q => ta σ H fun x H1 => ∃ l, ∃ xs : List Str, x = .ref l ∧ (SqL K H1 l (xs.map V.str) ∨ SqT K H1 l (xs.map V.str)) ∧ xs.length < 4000 ∧ Q (.int (dups xs)) H1
theorem pe_lenS {a : Expr} {ta : TE} {p p2 q pos : Pos} (hc : X.calm = true) (hg : Gl X "len") (hm : X.mg "len" = none) (hg2 : Gl X "set") (hm2 : X.mg "set" = none) (ha : PE X a ta)
    (na : starEach [a] X.env = (false, eval a X.env) :: starEach [] X.env) : PE X (.Call (.Name "len" p) [.Call (.Name "set" p2) [a] [] q] [] pos) (tLenS X.K ta) := by
  refine ⟨fun pins s σ H Q I h => ?_⟩
  refine Call_ (ld_blt I hg hm boot_len ?_)
  refine PyProof.Rows.callWith_builtin1 (PyProof.Rows.args_cons ?_ rfl) rfl rfl
  refine Call_ (ld_blt I hg2 hm2 boot_set ?_)
  refine PyProof.Rows.callWith_type1 (PyProof.Rows.args_cons (L2.thn (ha.run pins s σ H _ I h) fun v s1 ⟨x, H1, I1, r1, q1⟩ => PyProof.Rows.args_nil ?_) na) na rfl
  obtain ⟨l, xs, rfl, hq, h1, q1⟩ := q1
  cases r1
  have fin : ∀ (its : List Value), Vals (xs.map V.str) its → ∀ (h' : Heap) (tk : Nat), h'.SetOf (PySem.strKind X.prog X.w) s1.heap.objs.size (fun k' => (xs.take its.toArray.size).any (· == k')) (dups (xs.take its.toArray.size)) →
      (∀ b o, b < s1.heap.objs.size → s1.heap.get? b = some o → h'.get? b = some o) →
      wpAny (model X.prog X.w) X.A (spliced (backTo pos (starEach [] X.env))) (fun vs s₂ => wpAny (model X.prog X.w) X.A (call (.builtin "len") (Value.ref s1.heap.objs.size :: vs)) (EP X pins σ Q) X.xe s₂) X.xe { s1 with heap := h', toks := tk } := fun its r h' tk hS hk => by
    refine PyProof.Rows.args_nil ?_
    have hl : its.toArray.size = xs.length := by rw [List.size_toArray, ← r.length, List.length_map]
    rw [hl, List.take_length] at hS
    obtain ⟨o, es, ep, t, ho, hex, hd, _, _, _, hf, hn⟩ := hS
    have I2 : Inv X pins σ H1 { s1 with heap := h', toks := tk } := I1.kept fun b o e => hk b o (Heap.lt_size e) e
    have hdl := dups_le xs xs.length
    rw [List.take_length] at hdl
    refine call_len_set ho hex hd hf (by rw [hn] <;> omega) ⟨.int (dups xs), H1, I2.tok _, ⟨_, by rw [hn]⟩, q1⟩
  rcases hq with hq | hq
  · obtain ⟨its, r, pl, hz⟩ := I1.list hq
    exact call_setL (I1.ok.hd hc) pl.isList (by simpa using strs_are r) h1 fun h' tk hS hk => fin its r h' tk hS hk
  · obtain ⟨its, r, pl, hz⟩ := I1.tuple hq
    exact call_setT (I1.ok.hd hc) pl (by simpa using strs_are r) h1 fun h' tk hS hk => fin its r h' tk hS hk
variable [TbT]
theorem n_lenS {a : CE} {a' : Expr} {p p2 q pos : Pos} (hc : X.calm = true) (hg : Gl X "len") (hm : X.mg "len" = none) (hg2 : Gl X "set") (hm2 : X.mg "set" = none) (ha : PE X a' (tI X.K C W a)) (hs : isStar a' = false) :
    PE X (.Call (.Name "len" p) [.Call (.Name "set" p2) [a'] [] q] [] pos) (tI X.K C W (.bi .lenset (.cons a .nil))) := by
  refine PE.imp (pe_lenS hc hg hm hg2 hm2 ha (star_ok hs)) fun σ H Q h => ?_
  obtain ⟨F, e, R, P⟩ := h
  have P := Post.run (Post.run P)
  refine ⟨F, e, R, P.mono fun x e1 F1 H1 _ R1 X1 P1 v rv => ?_⟩
  have P1 : Post X.K C W F1 H1 σ (Mi.R.of ((ress e1 [x]).bind fun ds => Mi.bi .lenset ds) e1) _ := Post.of_ok R1 (Post.run (Post.of_ok R1 P1))
  obtain ⟨z, hz, P2⟩ := Post.of_ P1
  obtain ⟨ds, hd, hz⟩ := bind1 hz
  obtain ⟨d, rfl, hz⟩ := one_inv (show one lensetD ds = some z from hz)
  have hx : res e1 x = some d := by
    have hd : (res e1 x).bind (fun d => (some []).map (d :: ·)) = some [d] := hd
    cases q : res e1 x with
    | none => rw [q] at hd; cases hd
    | some d' =>
      rw [q] at hd
      cases hd
      rfl
  have rh := RepH.of_res R1 rv hx
  have inv : ∀ {xs : List D}, lensetL xs = some z → ∃ ys, strsOf xs = some ys ∧ ys.length < 64 ∧ z = .int (dups ys) := fun {xs} e => by
    unfold lensetL at e
    cases q : strsOf xs with
    | none => rw [q] at e; cases e
    | some ys =>
      rw [q] at e
      have e : (if ys.length < 64 then some (D.int ys.eraseDups.length) else none) = some z := e
      split at e <;> cases e
      exact ⟨ys, rfl, by assumption, rfl⟩
  cases d with
  | lst xs =>
    obtain ⟨ys, h1, h2, rfl⟩ := inv hz
    obtain ⟨l, vs, rfl, s1, q1⟩ := rh.lst_ R1.sub
    obtain ⟨h3, h4, h5⟩ := strsOf_reps q1 h1
    subst h3
    exact ⟨l, ys, rfl, .inl s1, by omega, Post.of_ok R1 P2 _ (.int _)⟩
  | tup xs =>
    obtain ⟨ys, h1, h2, rfl⟩ := inv hz
    obtain ⟨l, vs, rfl, s1, q1⟩ := rh.tup_ R1.sub
    obtain ⟨h3, h4, h5⟩ := strsOf_reps q1 h1
    subst h3
    exact ⟨l, ys, rfl, .inr s1, by omega, Post.of_ok R1 P2 _ (.int _)⟩
  | _ => cases hz
end
end Mi
end

section
set_option Elab.async false
set_option linter.all false
set_option maxRecDepth 100000
set_option maxHeartbeats 4000000
set_option autoImplicit false
/-! Mi19: calls of defs. -/
namespace Mi
open PySem L2 RZ PySem.Spec PySem.Calls PyProof.Rows
variable [TbT]
/-- the store alone -/
def RelS (K : PySem.W.Frag) (F : Fp) (st : List Own) (H : Hp) : Prop := Rel K F ⟨[], st⟩ [] H
section
variable {K : PySem.W.Frag} {C : Ct} {F : Fp} {H : Hp}
theorem Rel.s {e : En} {σ : L2.St} (R : Rel K F e σ H) : RelS K F e.st H := ⟨R.sub, rfl, fun i d h => (by cases h), R.sl, R.own, R.inj, R.tab, R.ntb⟩
theorem RelS.rel {F0 : Fp} {st : List Own} {vs : List (Option D)} {σ : L2.St} (R : RelS K F st H) (l : Fle F0 F) (hl : σ.length = vs.length) (hv : ∀ (i : Nat) d, vs[i]? = some (some d) → ∃ v, σ[i]? = some (some v) ∧ Rep K F0 v d) : Rel K F ⟨vs, st⟩ σ H :=
  Rel.revs R l hl hv
/-- what is wanted behind a call -/
def PostC (K : PySem.W.Frag) (C : Ct) (F : Fp) (H : Hp) (r : CRes) (Q : VK) (E : XK) : Prop := match r with
  | .ok d st => ∀ F' H' v, RelS K F' st H' → Ext F H F' H' → Rep K F' v d → Q v H'
  | .exc x st => ∀ F' H' c fd, RelS K F' st H' → Ext F H F' H' → C.XR x c fd F' H' → E c fd H'
  | .er => False
/-- a def's promise: what the interpreter says -/
def spI (K : PySem.W.Frag) (C : Ct) (np f : Nat) : Sp := fun vs H Q E => ∃ F st ds, RelS K F st H ∧ Reps K F vs ds ∧ vs.length = np ∧ PostC K C F H (C.cal f ds st) Q E
end
/-- a def's promise where no guard is kept (repr looks at them) -/
structure FnG (P : Program) (w : World) (K : PySem.W.Frag) (mg : Str → Option Value) (base : Heap) (CX : CXT) (k : Nat) (f : Addr) (fd : FuncData) (ps : List Str) (sp : Sp) : Prop where
  len : ∀ vs H Q E, sp vs H Q E → vs.length = ps.length
  run : ∀ (A : Around) (outer : List Env) (s : Shared) (H : Hp) (args : Args) (us : List Value) (vs : List V) (Q : VK) (E : XK), Room k A → A.guards = some [] → Env0 P w K mg base A outer s H → BindsTo s fd args (ps.zip us) → Vals vs us → sp vs H Q E →
    codeAny (model P w) A (.call (.ref f) args) (L2.CR CX outer P w H s Q E) s
section
variable {X : Cx} {C : Ct} {W : WX} {pos : Pos} {CX : CXT} {k : Nat} {f : Addr} {fd : FuncData} {ps : List Str} {sp : Sp} {E : L2.St → XK} {x : Str} {p : Pos} {e : Expr} {es : List Expr} {t : TA}
theorem run_fnG {pins : List (Addr × Obj)} {σ : L2.St} {H : Hp} {s : Shared} {Q : VK} {us : List Value} {vs : List V} (F : FnG X.prog X.w X.K X.mg X.base CX k f fd ps sp) (hr : Room k X.A) (hgd : X.A.guards = some []) (hb : Binds X.K fd ps []) (hx : PassesAt CX X σ (E σ))
    (I : Inv X pins σ H s) (r : Vals vs us) (h : sp vs H Q (E σ)) : wpAny (model X.prog X.w) X.A (call (.ref f) us) (EP X pins σ Q) X.xe s := by
  have hl : us.length = ps.length := r.length.symm.trans (F.len _ _ _ _ h)
  have b := hb s us I.kIn (by rw [List.append_nil]; exact hl)
  rw [List.append_nil] at b
  refine wpAny_call (codeAny_mono (F.run X.A X.stack s H ⟨us, []⟩ us vs Q (E σ) hr hgd I.env0 b r h) fun r s' hq => ?_)
  match r, hq with
  | .error e, hq => exact hx pins H s e s' I hq
  | .ok (.ret u), hq => exact I.after hq
theorem pe_callG (F : FnG X.prog X.w X.K X.mg X.base CX k f fd ps sp) (hr : Room k X.A) (hgd : X.A.guards = some []) (hg : Gl X x) (hm : X.mg x = some (.ref f)) (hk : PySem.W.keepIn X.K (.ref f) = true) (hb : Binds X.K fd ps []) (hx : ∀ σ, PassesAt CX X σ (E σ))
    (ha : PA X (e :: es) t) (hdb : (x == ("__debug__" : Str)) = false) (he : starEach (e :: es) X.env = (false, eval e X.env) :: starEach es X.env) (hpl : (backTo pos (starEach es X.env)).any (·.1) = false) :
    PE X (.Call (.Name x p) (e :: es) [] pos) (tCallS sp E t) := ⟨fun pins s σ H Q I h =>
  wpAny_Call_Name_kw (ld_glob I hg hm (PySem.W.callWith_K (h₀ := X.base) I.ok.mod.kin hk (L2.thn (ha.run pos pins s σ H _ I h) fun us s1 ⟨vs, H1, I1, r, q⟩ => ⟨I1.kIn, run_fnG F hr hgd hb (hx σ) I1 r q⟩) he hpl) hdb)⟩
theorem pe_callG0 (F : FnG X.prog X.w X.K X.mg X.base CX k f fd ps sp) (hr : Room k X.A) (hgd : X.A.guards = some []) (hg : Gl X x) (hm : X.mg x = some (.ref f)) (hk : PySem.W.keepIn X.K (.ref f) = true) (hb : Binds X.K fd ps []) (hx : ∀ σ, PassesAt CX X σ (E σ))
    (hdb : (x == ("__debug__" : Str)) = false) : PE X (.Call (.Name x p) [] [] pos) (tCallS sp E tNil) := ⟨fun pins s σ H Q I h =>
  wpAny_Call_Name_kw (ld_glob I hg hm (PySem.W.callWith_K0 I.kIn hk (run_fnG (us := []) F hr hgd hb (hx σ) I .nil h)) hdb)⟩
def CEs.len : CEs → Nat
  | .nil => 0
  | .cons _ r => r.len + 1
theorem evEs_len {cs : List D} {cal : Cal} : ∀ (es : CEs) (e e' : En) (ds : List D), evEs cs cal es e = .ok ds e' → ds.length = es.len
  | .nil, e, e', ds, h => by cases h; rfl
  | .cons a r, e, e', ds, h => by
    have h : ((evE cs cal a e).bind fun x e => (evEs cs cal r e).bind fun xs e => Mi.R.ok (x :: xs) e) = .ok ds e' := h
    cases h1 : evE cs cal a e with
    | ok x e1 =>
      rw [h1] at h
      have h : ((evEs cs cal r e1).bind fun xs e => Mi.R.ok (x :: xs) e) = .ok ds e' := h
      cases h2 : evEs cs cal r e1 with
      | ok xs e2 =>
        rw [h2] at h
        cases h
        exact congrArg (· + 1) (evEs_len r _ _ _ h2)
      | exc z e2 => rw [h2] at h; cases h
      | er => rw [h2] at h; cases h
    | exc z e2 => rw [h1] at h; cases h
    | er => rw [h1] at h; cases h
/-- from what is wanted of a call's end -/
theorem post_c {K : PySem.W.Frag} {F : Fp} {H : Hp} {en : En} {σ : L2.St} {fi : Nat} {ds : List D} {Q : VK} (R : Rel K F en σ H) (P : Post K C W F H σ (callR C.cal fi ds en) fun d _ F' H' => ∀ v, Rep K F' v d → Q v H') : PostC K C F H (C.cal fi ds en.st) Q (WE W σ) := by
  unfold callR at P
  cases hr : C.cal fi ds en.st with
  | ok d st =>
    rw [hr] at P
    exact fun F' H' v R' X' r => P F' H' (R'.rel X'.le R.len R.val) X' v r
  | exc x st =>
    rw [hr] at P
    exact fun F' H' c fd R' X' r => P F' H' c fd (R'.rel X'.le R.len R.val) X' r
  | er =>
    rw [hr] at P
    exact P
theorem n_call {np fi : Nat} {es' : CEs} (F : FnG X.prog X.w X.K X.mg X.base CX k f fd ps (spI X.K C np fi)) (hr : Room k X.A) (hgd : X.A.guards = some []) (hg : Gl X x) (hm : X.mg x = some (.ref f)) (hk : PySem.W.keepIn X.K (.ref f) = true) (hb : Binds X.K fd ps []) (hx : ∀ σ, PassesAt CX X σ (WE W σ))
    (ha : PA X (e :: es) (tA X.K C W es')) (hdb : (x == ("__debug__" : Str)) = false) (hs : noStars (e :: es) = true) (hel : es'.len = np) :
    PE X (.Call (.Name x p) (e :: es) [] pos) (tI X.K C W (.call fi es')) := by
  have hs' : (!isStar e && noStars es) = true := hs
  rw [Bool.and_eq_true] at hs'
  refine PE.imp (pe_callG F hr hgd hg hm hk hb hx ha hdb (star_ok (by simpa using hs'.1)) (stars_any hs'.2)) fun σ H Q h => ?_
  obtain ⟨F0, en, R, P⟩ := h
  refine ⟨F0, en, R, (Post.run P).mono fun ds e1 F1 H1 he R1 X1 P1 vs rvs => ?_⟩
  exact ⟨F1, e1.st, ds, R1.s, rvs, by rw [rvs.length]; exact (evEs_len es' _ _ _ he).trans hel, post_c R1 P1⟩
theorem n_call0 {fi : Nat} (F : FnG X.prog X.w X.K X.mg X.base CX k f fd ps (spI X.K C 0 fi)) (hr : Room k X.A) (hgd : X.A.guards = some []) (hg : Gl X x) (hm : X.mg x = some (.ref f)) (hk : PySem.W.keepIn X.K (.ref f) = true) (hb : Binds X.K fd ps []) (hx : ∀ σ, PassesAt CX X σ (WE W σ))
    (hdb : (x == ("__debug__" : Str)) = false) : PE X (.Call (.Name x p) [] [] pos) (tI X.K C W (.call fi .nil)) := by
  refine PE.imp (pe_callG0 F hr hgd hg hm hk hb hx hdb) fun σ H Q h => ?_
  obtain ⟨F0, en, R, P⟩ := h
  exact ⟨F0, en.st, [], R.s, .nil, rfl, post_c R P⟩
end
end Mi
end

section
set_option Elab.async false
set_option linter.all false
set_option maxRecDepth 100000
set_option maxHeartbeats 4000000
set_option autoImplicit false
/-! Mi20: statements. -/
namespace Mi
open PySem L2 RZ PySem.Spec PySem.Calls PyProof.Rows
variable [TbT]
section
variable (K : PySem.W.Frag) (C : Ct) (W : WX)
/-- what is wanted behind a statement -/
def PostS (F : Fp) (H : Hp) (r : S) (D : Ends) : Prop := match r with
  | .nx e' => ∀ F' H' σ', Rel K F' e' σ' H' → Ext F H F' H' → D.nx σ' H'
  | .rt d e' => ∀ F' H' σ' v, Rel K F' e' σ' H' → Ext F H F' H' → Rep K F' v d → D.rt v H'
  | .bk e' => ∀ F' H' σ', Rel K F' e' σ' H' → Ext F H F' H' → D.bk σ' H'
  | .ct e' => ∀ F' H' σ', Rel K F' e' σ' H' → Ext F H F' H' → D.ct σ' H'
  | .exc x e' => ∀ F' H' σ' c fd, Rel K F' e' σ' H' → Ext F H F' H' → C.XR x c fd F' H' → W c fd σ' H'
  | .er => False
def tS (s : CS) : TS := fun D σ H => ∃ F e, Rel K F e σ H ∧ PostS K C W F H (evS C.cs C.cal s e) D
def tSs (s : CSs) : TS := fun D σ H => ∃ F e, Rel K F e σ H ∧ PostS K C W F H (evSs C.cs C.cal s e) D
end
section
variable {K : PySem.W.Frag} {C : Ct} {W : WX} {F : Fp} {H : Hp} {e : En} {σ : L2.St} {D : Ends} {α : Type}
theorem PostS.shift {F1 : Fp} {H1 : Hp} {r : S} (x : Ext F H F1 H1) (h : PostS K C W F H r D) : PostS K C W F1 H1 r D := by
  cases r with
  | nx e' => exact fun F' H' σ' R X => h F' H' σ' R (x.trans X)
  | rt d e' => exact fun F' H' σ' v R X => h F' H' σ' v R (x.trans X)
  | bk e' => exact fun F' H' σ' R X => h F' H' σ' R (x.trans X)
  | ct e' => exact fun F' H' σ' R X => h F' H' σ' R (x.trans X)
  | exc z e' => exact fun F' H' σ' c fd R X => h F' H' σ' c fd R (x.trans X)
  | er => exact h
/-- an evaluation, then the rest -/
theorem PostS.run {r : R α} {f : α → En → S} (h : PostS K C W F H (r.s f) D) : Post K C W F H σ r (fun d e1 F1 H1 => PostS K C W F1 H1 (f d e1) D) := by
  cases r with
  | ok d e' => exact fun F' H' R X => PostS.shift X h
  | exc x e' => exact fun F' H' c fd R X => h F' H' σ c fd R X
  | er => exact h
theorem PostS.of_ {o : Option En} (h : PostS K C W F H (.of o) D) : ∃ e', o = some e' ∧ PostS K C W F H (.nx e') D := by
  cases o with
  | none => exact h.elim
  | some e' => exact ⟨e', rfl, h⟩
end
section
variable {X : Cx} {C : Ct} {W : WX} {pos : Pos}
theorem PS.imp {s : Stmt} {t t' : TS} (h : PS X s t) (f : ∀ D σ H, t' D σ H → t D σ H) : PS X s t' := ⟨fun pins s σ H D I q => h.run pins s σ H D I (f D σ H q)⟩
theorem PSs.imp {s : List Stmt} {t t' : TS} (h : PSs X s t) (f : ∀ D σ H, t' D σ H → t D σ H) : PSs X s t' := ⟨fun pins s σ H D I q => h.run pins s σ H D I (f D σ H q)⟩
theorem s_nil : PSs X [] (tSs X.K C W .nil) := PSs.imp pss_nil fun D σ H h => by
  obtain ⟨F, e, R, P⟩ := h
  exact P F H σ R .refl
theorem s_cons {a : CS} {r : CSs} {a' : Stmt} {r' : List Stmt} (ha : PS X a' (tS X.K C W a)) (hr : PSs X r' (tSs X.K C W r)) : PSs X (a' :: r') (tSs X.K C W (.cons a r)) := by
  refine PSs.imp (pss_cons ha hr) fun D σ H h => ?_
  obtain ⟨F, e, R, P⟩ := h
  refine ⟨F, e, R, ?_⟩
  have P : PostS X.K C W F H (match evS C.cs C.cal a e with
    | .nx e => evSs C.cs C.cal r e
    | s => s) D := P
  cases hs : evS C.cs C.cal a e with
  | nx e' => rw [hs] at P; exact fun F' H' σ' R' X' => ⟨F', e', R', PostS.shift X' P⟩
  | rt d e' => rw [hs] at P; exact P
  | bk e' => rw [hs] at P; exact P
  | ct e' => rw [hs] at P; exact P
  | exc x e' => rw [hs] at P; exact P
  | er => rw [hs] at P; exact P
/-- what is left of a block where nothing comes through -/
theorem s_pass : PS X (.Pass pos) (tS X.K C W .pass) := PS.imp ps_pass fun D σ H h => by
  obtain ⟨F, e, R, P⟩ := h
  exact P F H σ R .refl
theorem s_doc {x j pos pos'} : PS X (.Expr (.Constant (.str x) j pos) pos') (tS X.K C W .pass) := PS.imp ps_doc fun D σ H h => by
  obtain ⟨F, e, R, P⟩ := h
  exact P F H σ R .refl
theorem s_brk : PS X (.Break pos) (tS X.K C W .brk) := PS.imp ps_break fun D σ H h => by
  obtain ⟨F, e, R, P⟩ := h
  exact P F H σ R .refl
theorem s_cont : PS X (.Continue pos) (tS X.K C W .cont) := PS.imp ps_continue fun D σ H h => by
  obtain ⟨F, e, R, P⟩ := h
  exact P F H σ R .refl
theorem s_never {s : Stmt} : PS X s (tS X.K C W .never) := PS.imp ps_never fun D σ H h => by
  obtain ⟨F, e, R, P⟩ := h
  exact P
theorem s_expr {a : CE} {a' : Expr} (ha : PE X a' (tI X.K C W a)) (hs : swapsWith a' none pos.line X.env = pure false) : PS X (.Expr a' pos) (tS X.K C W (.expr a)) := by
  refine PS.imp (ps_expr ha hs) fun D σ H h => ?_
  obtain ⟨F, e, R, P⟩ := h
  exact ⟨F, e, R, (PostS.run P).mono fun x e1 F1 H1 _ R1 X1 P1 v rv => P1 F1 H1 σ R1 .refl⟩
theorem s_ret {a : CE} {a' : Expr} (ha : PE X a' (tI X.K C W a)) : PS X (.Return (some a') pos) (tS X.K C W (.ret a)) := by
  refine PS.imp (ps_ret ha) fun D σ H h => ?_
  obtain ⟨F, e, R, P⟩ := h
  exact ⟨F, e, R, (PostS.run P).mono fun x e1 F1 H1 _ R1 X1 P1 v rv => P1 F1 H1 σ v R1 .refl rv⟩
theorem s_retn : PS X (.Return none pos) (tS X.K C W .retn) := PS.imp ps_retN fun D σ H h => by
  obtain ⟨F, e, R, P⟩ := h
  exact P F H σ .non R .refl .non
theorem s_cond {c : CE} {a b : CSs} {c' : Expr} {a' b' : List Stmt} (hc : PT X c' (tB' X.K C W c)) (ha : PSs X a' (tSs X.K C W a)) (hb : PSs X b' (tSs X.K C W b)) : PS X (.If c' a' b' pos) (tS X.K C W (.cond c a b)) := by
  refine PS.imp (ps_if hc ha hb) fun D σ H h => ?_
  obtain ⟨F, e, R, P⟩ := h
  have E : evS C.cs C.cal (.cond c a b) e = (evB C.cs C.cal c e).s fun t e => if t then evSs C.cs C.cal a e else evSs C.cs C.cal b e := by
    show ((evE C.cs C.cal c e).s fun x e => match (res e x).bind truth with
      | some true => evSs C.cs C.cal a e
      | some false => evSs C.cs C.cal b e
      | none => .er) = _
    unfold evB
    cases evE C.cs C.cal c e with
    | ok x e1 =>
      show (match (res e1 x).bind truth with
        | some true => evSs C.cs C.cal a e1
        | some false => evSs C.cs C.cal b e1
        | none => S.er) = (Mi.R.of ((res e1 x).bind truth) e1).s _
      cases (res e1 x).bind truth with
      | none => rfl
      | some t => cases t <;> rfl
    | exc x e1 => rfl
    | er => rfl
  rw [E] at P
  refine ⟨F, e, R, (PostS.run P).mono fun t e1 F1 H1 _ R1 X1 P1 => ?_⟩
  cases t with
  | true => exact ⟨F1, e1, R1, P1⟩
  | false => exact ⟨F1, e1, R1, P1⟩
theorem s_set {i : Nat} {x : Str} {a : CE} {a' : Expr} {pos' : Pos} (hN : X.N.Nodup) (hi : X.N[i]? = some x) (hx : Loc X.env.scope x) (ha : PE X a' (tI X.K C W a)) (hs : swapsWith a' (some (.Name x pos')) pos.line X.env = pure false) (hf : X.fn x = true ∨ X.env.scope.names.lookup x = some .local) :
    PS X (.Assign [.Name x pos'] a' pos) (tS X.K C W (.set i a)) := by
  refine PS.imp (ps_set hN hi hx ha hs hf) fun D σ H h => ?_
  obtain ⟨F, e, R, P⟩ := h
  refine ⟨F, e, R, (PostS.run P).mono fun d e1 F1 H1 _ R1 X1 P1 v rv => ?_⟩
  obtain ⟨e2, h2, P2⟩ := PostS.of_ P1
  exact P2 F1 H1 _ (R1.put h2 rv) .refl
/-- what a name is given, as a reading -/
theorem set_of {K : PySem.W.Frag} {i : Nat} {a : CE} {D : Ends} {σ : L2.St} {H : Hp} (h : tS K C W (.set i a) D σ H) : tI K C W a σ H fun v H1 => gName i v σ H1 D.nx := by
  obtain ⟨F, e, R, P⟩ := h
  refine ⟨F, e, R, (PostS.run P).mono fun d e1 F1 H1 _ R1 X1 P1 v rv => ?_⟩
  obtain ⟨e2, h2, P2⟩ := PostS.of_ P1
  exact P2 F1 H1 _ (R1.put h2 rv) .refl
theorem s_unp {t : CT} {a : CE} {t' a' : Expr} (ha : PE X a' (tI X.K C W a)) (ht : PG X t' (gI X.K t)) (hs : swapsWithSole [t'] a' pos.line X.env = pure false) (hw : swappedStores [t'] a' X.env = pure none) (h1 : (assignEach [t'] X.env).map (·.2) = [assign t' X.env]) :
    PS X (.Assign [t'] a' pos) (tS X.K C W (.unp t a)) := by
  refine PS.imp (ps_asg ha ht hs hw h1) fun D σ H h => ?_
  obtain ⟨F, e, R, P⟩ := h
  refine ⟨F, e, R, (PostS.run P).mono fun d e1 F1 H1 _ R1 X1 P1 v rv => ?_⟩
  obtain ⟨e2, h2, P2⟩ := PostS.of_ P1
  exact ⟨F1, e1, d, e2, R1, rv, h2, fun F2 H2 σ2 R2 X2 c2 => P2 F2 H2 σ2 R2 X2⟩
theorem s_par {i j : Nat} {x y : Str} {a b : CE} {a' b' : Expr} {px py pt : Pos} {kt k2 pt2} (hc : X.calm = true) (hN : X.N.Nodup) (hi : X.N[i]? = some x) (hj : X.N[j]? = some y) (hij : i ≠ j)
    (hx : X.env.scope.names.lookup x = some .local) (hy : X.env.scope.names.lookup y = some .local) (ha : PA X [a', b'] (tA X.K C W (.cons a (.cons b .nil))))
    (hw : swappedStores [.Tuple [.Name x px, .Name y py] kt pt] (.Tuple [a', b'] k2 pt2) X.env = pure (some [x, y]))
    (hs : swapsWithSole [.Tuple [.Name x px, .Name y py] kt pt] (.Tuple [a', b'] k2 pt2) pos.line X.env = pure false) :
    PS X (.Assign [.Tuple [.Name x px, .Name y py] kt pt] (.Tuple [a', b'] k2 pt2) pos) (tS X.K C W (.par [i, j] (.cons a (.cons b .nil)))) := by
  refine PS.imp (ps_par hc hN hi hj hij hx hy ha hw hs) fun D σ H h => ?_
  obtain ⟨F, e, R, P⟩ := h
  refine ⟨F, e, R, (PostS.run P).mono fun ds e1 F1 H1 _ R1 X1 P1 vs rvs => ?_⟩
  obtain ⟨e2, h2, P2⟩ := PostS.of_ P1
  match ds, rvs, h2 with
  | [], _, h2 => cases h2
  | [d], _, h2 =>
    have h2 : (put i d e1).bind (fun e => puts [j] [] e) = some e2 := h2
    obtain ⟨_, _, h3⟩ := bind1 h2
    cases h3
  | d :: d2 :: d3 :: r, _, h2 =>
    have h2 : (put i d e1).bind (fun e => (put j d2 e).bind fun e => puts [] (d3 :: r) e) = some e2 := h2
    obtain ⟨_, _, h3⟩ := bind1 h2
    obtain ⟨_, _, h3⟩ := bind1 h3
    cases h3
  | [d, d2], rvs, h2 =>
    have h2 : (put i d e1).bind (fun e => (put j d2 e).bind fun e => puts [] [] e) = some e2 := h2
    obtain ⟨e3, h3, h2⟩ := bind1 h2
    obtain ⟨e4, h4, h2⟩ := bind1 h2
    cases h2
    obtain ⟨v, w, rfl, rv, rw'⟩ := reps_two rvs
    exact ⟨v, w, rfl, P2 F1 H1 _ ((R1.put h3 rv).put h4 rw') .refl⟩
/-! ### o[k] = v -/
theorem set_any (hu : X.A.units + 1 < cLine) : PSet X (fun o i v H Q => rSetL o i v H Q ∨ rSetD o i v H Q) := by
  intro pins s σ H o i v ov iv u Q I r1 r2 r3 h
  rcases h with h | h
  · exact set_list pins s σ H o i v ov iv u Q I r1 r2 r3 h
  · exact set_dict hu pins s σ H o i v ov iv u Q I r1 r2 r3 h
theorem s_sub {a k v : CE} {a' k' v' : Expr} {p2 : Pos} (hu : X.A.units + 1 < cLine) (ha : PE X a' (tI X.K C W a)) (hk : PE X k' (tI X.K C W k)) (hv : PE X v' (tI X.K C W v)) (hsl : isSlice k' = false)
    (hs : swapsWithSole [.Subscript a' k' p2] v' pos.line X.env = pure false) (hw : swappedStores [.Subscript a' k' p2] v' X.env = pure none) : PS X (.Assign [.Subscript a' k' p2] v' pos) (tS X.K C W (.sub a k v)) := by
  have hg : ∀ v, assign (.Subscript a' k' p2) X.env v = (do
      let ov ← holding [v] (eval a' X.env)
      let iv ← holding [v, ov] (eval k' X.env)
      standAt p2
      holding [v, ov, iv] (setItem ov iv v)
      release [v, ov, iv] []) := by
    intro v
    cases k' <;> first | rfl | cases hsl
  refine PS.imp (ps_asg hv (pg_sub ha hk (set_any hu) hg) hs hw rfl) fun D σ H h => ?_
  obtain ⟨F, e, R, P⟩ := h
  refine ⟨F, e, R, (PostS.run P).mono fun z e1 F1 H1 _ R1 X1 P1 w rw' => ?_⟩
  refine ⟨F1, e1, R1, (PostS.run P1).mono fun x e2 F2 H2 _ R2 X2 P2 u ru => ?_⟩
  refine ⟨F2, e2, R2, (PostS.run P2).mono fun y e3 F3 H3 _ R3 X3 P3 q rq => ?_⟩
  obtain ⟨e4, h4, P4⟩ := PostS.of_ P3
  cases x with
  | own i =>
    have ru := ru.up X3.le
    cases ru with
    | @own _ p hp =>
      have h4 : ((e3.st[i]?).bind fun o => (setIt o y z).map fun o' => { e3 with st := e3.st.set i o' }) = some e4 := h4
      obtain ⟨o, ho, h4⟩ := bind1 h4
      cases hset : setIt o y z with
      | none => rw [hset] at h4; cases h4
      | some o' =>
        rw [hset] at h4
        cases h4
        obtain ⟨_, hx, hH, rO⟩ := R3.cell hp ho
        have rw3 := rw'.up (X2.le.trans X3.le)
        cases rO with
        | @lst xs ds rr =>
          cases y with
          | int n =>
            cases rq
            have hset : (ixN ds.length n).map (fun k => Own.lst (ds.set k z)) = some o' := hset
            cases hix : ixN ds.length n with
            | none => rw [hix] at hset; cases hset
            | some k =>
              rw [hix] at hset
              cases hset
              exact .inl ⟨p, xs, n, k, rfl, rfl, hH, by rw [rr.length]; exact hix, P4 F3 _ σ (R3.write hp (.lst (rr.set rw3 k))) (Rel.write_ext hp)⟩
          | _ => cases hset
        | @dic kvs ks rr =>
          have hset : (dk y).bind (fun k => if ks.length < sizeLine then some (Own.dic (dput ks k z)) else none) = some o' := hset
          obtain ⟨k, hk, hset⟩ := bind1 hset
          split at hset
          · rename_i hz
            cases hset
            rw [dk_eq hk] at rq
            have eq := key_v rq
            subst eq
            exact .inr ⟨p, _, rfl, DPut.k hH (by rw [rr.length]; exact hz), P4 F3 _ σ (R3.write hp (.dic (rr.put (key_len rq) rw3))) (Rel.write_ext hp)⟩
          · cases hset
  | _ => cases h4
/-! ### name op= e -/
theorem s_aug {i : Nat} {x : Str} {a : CE} {a' : Expr} {pos' : Pos} {op : BOp} (hop : op = .add ∨ op = .sub) (hN : X.N.Nodup) (hi : X.N[i]? = some x) (hx : Loc X.env.scope x) (ha : PE X a' (tI X.K C W a)) (hf : X.fn x = true ∨ X.env.scope.names.lookup x = some .local) :
    PS X (.AugAssign (.Name x pos') op.py a' pos) (tS X.K C W (.aug i op a)) := by
  have key : ∀ (f : Int → Int → Int), (∀ m n, Mi.bin op (.int m) (.int n) = some (.int (f m n))) → PIp X op.py (ipI f) → PS X (.AugAssign (.Name x pos') op.py a' pos) (tS X.K C W (.aug i op a)) := fun f hf1 hf2 => by
    refine PS.imp (ps_aug hN hi hx ha hf2 hf) fun D σ H h => ?_
    obtain ⟨F, e, R, P⟩ := h
    have P : PostS X.K C W F H (match e.vs[i]? with
      | some (some x) => (evE C.cs C.cal a e).s fun y e => (match x, y with
        | .int _, .int _ => .of ((Mi.bin op x y).bind fun z => put i z e)
        | _, _ => .er)
      | _ => .er) D := P
    split at P
    · rename_i x hx
      obtain ⟨v, h1, h2⟩ := R.val i x hx
      refine ⟨v, h1, F, e, R, (PostS.run P).mono fun y e1 F1 H1 _ R1 X1 P1 w rw' => ?_⟩
      cases x with
      | int m =>
        cases y with
        | int n =>
          cases h2
          cases rw'
          have P1 : PostS X.K C W F1 H1 (.of ((Mi.bin op (.int m) (.int n)).bind fun z => put i z e1)) D := P1
          rw [hf1] at P1
          obtain ⟨e2, h3, P2⟩ := PostS.of_ P1
          exact ⟨m, n, rfl, rfl, P2 F1 H1 _ (R1.put (show put i (.int (f m n)) e1 = some e2 from h3) (.int _)) .refl⟩
        | _ => exact P1.elim
      | _ => exact P1.elim
    · exact P.elim
  rcases hop with rfl | rfl
  · exact key _ (fun _ _ => rfl) ip_add
  · exact key _ (fun _ _ => rfl) ip_sub
/-! ### loops -/
theorem s_while {c : CE} {b : CSs} {c' : Expr} {b' : List Stmt} (hp : PassesOwn (model X.prog X.w) X.A X.env X.xe) (hc : PT X c' (tB' X.K C W c)) (hb : PSs X b' (tSs X.K C W b)) : PS X (.While c' b' [] pos) (tS X.K C W (.whil c b)) := by
  refine PS.imp (ps_while hp hc hb) fun D σ H h => ?_
  obtain ⟨F, e, R, P⟩ := h
  refine ⟨fun m σ H => ∃ F e, Rel X.K F e σ H ∧ PostS X.K C W F H (whileL (evB C.cs C.cal c) (evSs C.cs C.cal b) m e) D, ⟨fuel, F, e, R, P⟩, fun m σ H h => ?_⟩
  obtain ⟨F, e, R, P⟩ := h
  cases m with
  | zero => exact P.elim
  | succ m =>
    have P : PostS X.K C W F H (match evB C.cs C.cal c e with
      | .ok true e => (match evSs C.cs C.cal b e with
        | .nx e => whileL (evB C.cs C.cal c) (evSs C.cs C.cal b) m e
        | .ct e => whileL (evB C.cs C.cal c) (evSs C.cs C.cal b) m e
        | .bk e => .nx e
        | s => s)
      | .ok false e => .nx e
      | .exc x e => .exc x e
      | .er => .er) D := P
    refine ⟨F, e, R, ?_⟩
    cases hr : evB C.cs C.cal c e with
    | exc x e1 =>
      rw [hr] at P
      exact fun F' H' c fd R' X' => P F' H' σ c fd R' X'
    | er => rw [hr] at P; exact P
    | ok t e1 =>
      rw [hr] at P
      intro F1 H1 R1 X1
      cases t with
      | false => exact P F1 H1 σ R1 X1
      | true =>
        have P : PostS X.K C W F H (match evSs C.cs C.cal b e1 with
          | .nx e => whileL (evB C.cs C.cal c) (evSs C.cs C.cal b) m e
          | .ct e => whileL (evB C.cs C.cal c) (evSs C.cs C.cal b) m e
          | .bk e => .nx e
          | s => s) D := P
        refine ⟨fun σ H => ∃ F e, Rel X.K F e σ H ∧ PostS X.K C W F H (whileL (evB C.cs C.cal c) (evSs C.cs C.cal b) m e) D, fun σ' H' q => ⟨m, Nat.lt_succ_self m, q⟩, F1, e1, R1, ?_⟩
        have P := PostS.shift X1 P
        cases hs : evSs C.cs C.cal b e1 with
        | nx e2 => rw [hs] at P; exact fun F' H' σ' R' X' => ⟨F', e2, R', PostS.shift X' P⟩
        | ct e2 => rw [hs] at P; exact fun F' H' σ' R' X' => ⟨F', e2, R', PostS.shift X' P⟩
        | bk e2 => rw [hs] at P; exact P
        | rt d e2 => rw [hs] at P; exact P
        | exc x e2 => rw [hs] at P; exact P
        | er => rw [hs] at P; exact P

def LoopS (t : CT) (b : En → S) (s : Src) (i m : Nat) (e : En) : S := match s with
  | .fix ds => forL t b (ds.drop i) e
  | .live j => forO t b j m i e
def Fits (s : Src) (i m : Nat) : Prop := match s with
  | .fix ds => m = ds.length - i ∧ i ≤ ds.length
  | .live _ => True
/-- one turn's statements -/
def turnS (t : CT) (b : En → S) (d : D) (e : En) (k : En → S) : S := match asg t d e with
  | some e => (match b e with
    | .nx e => k e
    | .ct e => k e
    | .bk e => .nx e
    | s => s)
  | none => .er
theorem loop_step {K : PySem.W.Frag} {t : CT} {b : En → S} {s : Src} {i m : Nat} {e : En} {F : Fp} {J : It} {σ : L2.St} {H : Hp} (h : ItS K F J s) (R : Rel K F e σ H) (hf : Fits s i m) :
    LoopS t b s i m e = .er ∨ (J.stop i H ∧ LoopS t b s i m e = .nx e) ∨ (J.go i H ∧ ∃ d m', m' < m ∧ Fits s (i + 1) m' ∧ LoopS t b s i m e = turnS t b d e (fun e => LoopS t b s (i + 1) m' e) ∧ ∀ x H', J.yld i H x H' → ∃ F', Gr F H F' H' ∧ Rep K F' x d) := by
  cases s with
  | fix ds =>
    obtain ⟨rfl, hi⟩ := hf
    obtain ⟨h1, h2⟩ := its_step h R (i := i)
    cases hd : ds.drop i with
    | nil =>
      refine .inr (.inl ⟨h1 hd hi, ?_⟩)
      show forL t b (ds.drop i) e = _
      rw [hd]
      rfl
    | cons d r =>
      have hlt : i < ds.length := by
        rcases Nat.lt_or_ge i ds.length with q | q
        · exact q
        · rw [List.drop_eq_nil_of_le q] at hd; cases hd
      have ht : ds.drop (i + 1) = r := by
        have : (ds.drop i).drop 1 = r := by rw [hd]; rfl
        rwa [List.drop_drop] at this
      obtain ⟨g1, g2⟩ := h2 d r hd
      refine .inr (.inr ⟨g1, d, ds.length - (i + 1), by omega, ⟨rfl, hlt⟩, ?_, g2⟩)
      show forL t b (ds.drop i) e = turnS t b d e fun e => forL t b (ds.drop (i + 1)) e
      rw [hd, ht]
      rfl
  | live j =>
    cases m with
    | zero => exact .inl rfl
    | succ m =>
      cases hc : cellL e (.own j) with
      | none =>
        refine .inl ?_
        show (match cellL e (.own j) with
          | some (_, xs) => (match xs[i]? with
            | some d => turnS t b d e fun e => forO t b j m (i + 1) e
            | none => .nx e)
          | none => .er) = S.er
        rw [hc]
      | some p =>
        obtain ⟨k, xs⟩ := p
        obtain ⟨h1, h2⟩ := its_stepO h R hc (i := i)
        have E : LoopS t b (.live j) i (m + 1) e = (match cellL e (.own j) with
          | some (_, xs) => (match xs[i]? with
            | some d => turnS t b d e fun e => forO t b j m (i + 1) e
            | none => .nx e)
          | none => .er) := rfl
        rw [hc] at E
        have E : LoopS t b (.live j) i (m + 1) e = (match xs[i]? with
          | some d => turnS t b d e fun e => forO t b j m (i + 1) e
          | none => .nx e) := E
        cases hd : xs[i]? with
        | none =>
          rw [hd] at E
          exact .inr (.inl ⟨h1 hd, E⟩)
        | some d =>
          rw [hd] at E
          obtain ⟨g1, g2⟩ := h2 d hd
          exact .inr (.inr ⟨g1, d, m, Nat.lt_succ_self m, True.intro, E, g2⟩)
theorem s_for {t : CT} {it : CI} {b : CSs} {t' it' : Expr} {b' : List Stmt} (hp : PassesOwn (model X.prog X.w) X.A X.env X.xe) (hc : X.calm = true) (hi : PI X t' it' (iS X.K C W it)) (hg : PG X t' (gI X.K t)) (hb : PSs X b' (tSs X.K C W b))
    (hfs : ∀ x, foldedSetIterable it' X.env x = pure x) : PS X (.For t' it' b' [] pos) (tS X.K C W (.fr t it b)) := by
  refine PS.imp (ps_for hp hc hi hg hb hfs) fun D σ H h => ?_
  obtain ⟨F, e, R, P⟩ := h
  refine ⟨F, e, R, (PostS.run P).mono fun s e1 F1 H1 _ R1 X1 P1 J hJ => ?_⟩
  have P1 : PostS X.K C W F1 H1 (forS t (evSs C.cs C.cal b) s e1) D := P1
  have start : ∃ m, Fits s 0 m ∧ LoopS t (evSs C.cs C.cal b) s 0 m e1 = forS t (evSs C.cs C.cal b) s e1 := by
    cases s with
    | fix ds => exact ⟨ds.length - 0, ⟨rfl, Nat.zero_le _⟩, rfl⟩
    | live j => exact ⟨fuel, True.intro, rfl⟩
  obtain ⟨m0, f0, e0⟩ := start
  refine ⟨fun i m σ H => ∃ F e, Rel X.K F e σ H ∧ ItS X.K F J s ∧ Fits s i m ∧ PostS X.K C W F H (LoopS t (evSs C.cs C.cal b) s i m e) D, ⟨m0, F1, e1, R1, hJ, f0, by rw [e0]; exact P1⟩, ?_⟩
  rintro i m σ H ⟨F, e, R, hJ, hf, P⟩
  rcases loop_step (b := evSs C.cs C.cal b) (t := t) hJ R hf with he | ⟨hst, he⟩ | ⟨hgo, d, m', hm, hf', he, hy⟩
  · rw [he] at P
    exact P.elim
  · rw [he] at P
    exact .inl ⟨hst, P F H σ R .refl⟩
  · rw [he] at P
    refine .inr ⟨hgo, fun σ H => ∃ F e, Rel X.K F e σ H ∧ ItS X.K F J s ∧ Fits s (i + 1) m' ∧ PostS X.K C W F H (LoopS t (evSs C.cs C.cal b) s (i + 1) m' e) D, fun σ' H' q => ⟨m', hm, q⟩, fun x H2 y => ?_⟩
    obtain ⟨F2, g, rx⟩ := hy x H2 y
    obtain ⟨R2, X2⟩ := g.rel R
    unfold turnS at P
    cases ha : asg t d e with
    | none => rw [ha] at P; exact P.elim
    | some ea =>
      rw [ha] at P
      have P : PostS X.K C W F H (match evSs C.cs C.cal b ea with
        | .nx e => LoopS t (evSs C.cs C.cal b) s (i + 1) m' e
        | .ct e => LoopS t (evSs C.cs C.cal b) s (i + 1) m' e
        | .bk e => .nx e
        | s => s) D := P
      refine ⟨F2, e, d, ea, R2, rx, ha, fun F3 H3 σ3 R3 X3 c3 => ⟨F3, ea, R3, ?_⟩⟩
      have P := PostS.shift (X2.trans X3) P
      have l3 : Fle F F3 := X2.le.trans X3.le
      cases hs : evSs C.cs C.cal b ea with
      | nx e2 => rw [hs] at P; exact fun F' H' σ' R' X' => ⟨F', e2, R', its_mono (l3.trans X'.le) hJ, hf', PostS.shift X' P⟩
      | ct e2 => rw [hs] at P; exact fun F' H' σ' R' X' => ⟨F', e2, R', its_mono (l3.trans X'.le) hJ, hf', PostS.shift X' P⟩
      | bk e2 => rw [hs] at P; exact P
      | rt d e2 => rw [hs] at P; exact P
      | exc x e2 => rw [hs] at P; exact P
      | er => rw [hs] at P; exact P
/-! ### name = a comprehension of the same line -/
theorem s_setLc {i : Nat} {y : Str} {py : Pos} {nw : Bool} {elt : CE} {t : CT} {it : CI} {tt : CEo} {vs : List Nat} {elt' tg' iter' : Expr} {ifs' : List Expr} {scope : Scope} {own : List (Str × Nat)} {cpos : Pos} (hc : X.calm = true) (hN : X.N.Nodup) (hy : X.N[i]? = some y) (hyl : X.env.scope.names.lookup y = some .local)
    (hsw : swapsWith (.ListComp elt' [⟨tg', iter', ifs', 0⟩] scope cpos) (some (.Name y py)) pos.line X.env = pure true) (hi : PI X tg' iter' (iS X.K C W it)) (ok : BlkOk X.N X.env.scope scope own) (hv : own.map (·.2) = vs) (hs : ∀ i ∈ slots t, i ∈ vs)
    (hg : ∀ (s : Shared) (H : Hp) (Cc : Addr) (cl : List (Str × Addr)) (fp : List Addr), PG (X.blk s H scope (compEnvC scope cl Cc X.env) fp) tg' (gI X.K t))
    (ht : ∀ (s : Shared) (H : Hp) (Cc : Addr) (cl : List (Str × Addr)) (fp : List Addr), PTs (X.blk s H scope (compEnvC scope cl Cc X.env) fp) ifs' (tTs X.K C WF tt))
    (he : ∀ (s : Shared) (H : Hp) (Cc : Addr) (cl : List (Str × Addr)) (fp : List Addr), PE (X.blk s H scope (compEnvC scope cl Cc X.env) fp) elt' (tI X.K C WF elt))
    (hfs : ∀ x, foldedSetIterable iter' X.env x = pure x) : PS X (.Assign [.Name y py] (.ListComp elt' [⟨tg', iter', ifs', 0⟩] scope cpos) pos) (tS X.K C W (.set i (if nw then .new (.comp elt t it tt vs) else .comp elt t it tt vs))) := by
  subst hv
  refine PS.imp (ps_setLc hc hN hy hyl hsw hi ok hg ht he hfs) fun D σ H h => ?_
  have h := set_of h
  cases nw with
  | false => exact comp_tLc hs (frz_of h)
  | true => exact comp_tLc hs (new_of h)
end
end Mi
end

section
set_option Elab.async false
set_option linter.all false
set_option maxRecDepth 100000
set_option maxHeartbeats 4000000
set_option autoImplicit false
/-! Mi21: defs. -/
namespace Mi
open PySem L2 RZ PySem.Spec PySem.Calls PyProof.Rows
variable [TbT]
section
variable {K : PySem.W.Frag}
def Fp.cut (F : Fp) (n : Nat) : Fp := ⟨F.h, F.al.take n, F.tb⟩
mutual
theorem Rep.cut {F : Fp} {n : Nat} : ∀ (d : D) (v : V), ptr n d = true → Rep K F v d → Rep K (F.cut n) v d
  | .non, _, _, h => by cases h; exact .non
  | .bl _, _, _, h => by cases h; exact .bl _
  | .int _, _, _, h => by cases h; exact .int _
  | .str _, _, _, h => by
    cases h with
    | str _ h => exact .str _ h
  | .lst ds, _, c, h => by
    cases h with
    | lst h r => exact .lst h (Reps.cut ds _ c r)
  | .tup ds, _, c, h => by
    cases h with
    | tup h r => exact .tup h (Reps.cut ds _ c r)
  | .dic ks, _, c, h => by
    cases h with
    | dic h r => exact .dic h (RepK.cut ks _ c r)
  | .own i, _, c, h => by
    cases h with
    | own h =>
      have c : decide (i < n) = true := c
      refine .own ?_
      show (F.al.take n)[i]? = _
      rw [List.getElem?_take_of_lt (by simpa using c)]
      exact h
theorem Reps.cut {F : Fp} {n : Nat} : ∀ (ds : List D) (vs : List V), ptrs n ds = true → Reps K F vs ds → Reps K (F.cut n) vs ds
  | [], _, _, h => by cases h; exact .nil
  | d :: ds, _, c, h => by
    have c : (ptr n d && ptrs n ds) = true := c
    rw [Bool.and_eq_true] at c
    cases h with
    | cons h r => exact .cons (Rep.cut d _ c.1 h) (Reps.cut ds _ c.2 r)
theorem RepK.cut {F : Fp} {n : Nat} : ∀ (ds : List (Key × D)) (vs : List (Key × V)), ptrK n ds = true → RepK K F vs ds → RepK K (F.cut n) vs ds
  | [], _, _, h => by cases h; exact .nil
  | (k, d) :: ds, _, c, h => by
    have c : (ptr n d && ptrK n ds) = true := c
    rw [Bool.and_eq_true] at c
    cases h with
    | cons hk h r => exact .cons hk (Rep.cut d _ c.1 h) (RepK.cut ds _ c.2 r)
end
theorem RepO.cut {F : Fp} {n : Nat} {ho : HO} {o : Own} (c : ptrO n o = true) (r : RepO K F ho o) : RepO K (F.cut n) ho o := by
  cases r with
  | lst r => exact .lst (Reps.cut _ _ c r)
  | dic r => exact .dic (RepK.cut _ _ c r)
/-- F2: F cut to n cells, perhaps one of the others become a tree -/
structure Cut (F F2 : Fp) (H : Hp) (n : Nat) : Prop where
  al : F2.al = F.al.take n
  le : Le F.h F2.h
  sub : Le F2.h H
  out : ∀ b, F2.h b ≠ F.h b → ∃ j, n ≤ j ∧ F.al[j]? = some b
  tb : F2.tb = F.tb
  ntb : ∀ a ps, F2.h a ≠ some (.tbl ps)
theorem Cut.fle {F F2 : Fp} {H : Hp} {n : Nat} (c : Cut F F2 H n) : Fle (F.cut n) F2 := ⟨c.le, by rw [c.al]; exact List.prefix_refl _⟩
theorem Cut.same {F : Fp} {H : Hp} {n : Nat} {e : En} {σ : L2.St} (R : Rel K F e σ H) : Cut F (F.cut n) H n := ⟨rfl, Le.refl _, R.sub, fun b h => absurd rfl h, rfl, R.ntb⟩
theorem give_rep {F : Fp} {H : Hp} {e : En} {σ : L2.St} {n : Nat} {d0 d : D} {v : V} (R : Rel K F e σ H) (r : Rep K F v d0) (hg : give n e d0 = some d) (hp : ptr n d = true) : ∃ F2, Cut F F2 H n ∧ Rep K F2 v d := by
  cases d0 with
  | own i =>
    have hg : (if i < n then some (.own i) else (e.st[i]?).map Own.d) = some d := hg
    split at hg
    · cases hg
      exact ⟨_, Cut.same R, Rep.cut _ _ hp r⟩
    · rename_i hi
      cases r with
      | @own _ a ha =>
        cases q : e.st[i]? with
        | none => rw [q] at hg; cases hg
        | some o =>
          rw [q] at hg
          cases hg
          obtain ⟨hf, ho, h1, h2⟩ := R.cell ha q
          have c2 : ptrO n o = true := by cases o <;> exact hp
          have cf : (F.cut n).h a = none := hf
          refine ⟨(F.cut n).put a ho, ⟨rfl, le_upd hf, fun b u w => ?_, fun b w => ⟨i, Nat.le_of_not_lt hi, ?_⟩, rfl, put_ntb (F := F.cut n) R.ntb h2.ntb⟩, (h2.cut c2).top cf⟩
          · have w : upd F.h a ho b = some u := w
            by_cases z : b = a
            · subst z; rw [upd_same] at w; rw [h1]; exact w
            · rw [upd_ne z] at w; exact R.sub b u w
          · by_cases z : b = a
            · rw [z]; exact ha
            · exact absurd (show upd F.h a ho b = F.h b from upd_ne z) w
  | _ =>
    cases hg
    exact ⟨_, Cut.same R, Rep.cut _ _ hp r⟩
theorem Cut.rel {F F2 : Fp} {H : Hp} {e : En} {σ : L2.St} {n : Nat} (c : Cut F F2 H n) (R : Rel K F e σ H) (ha : (e.st.take n).all (ptrO n) = true) : RelS K F2 (e.st.take n) H := by
  refine ⟨c.sub, rfl, fun i d h => (by cases h), ?_, fun i o h => ?_, ?_, R.tab, c.ntb⟩
  · show F2.al.length = (e.st.take n).length
    rw [c.al, List.length_take, List.length_take, R.sl]
  · have h : (e.st.take n)[i]? = some o := h
    have hi : i < n := by
      obtain ⟨z, _⟩ := List.getElem?_eq_some_iff.mp h
      rw [List.length_take] at z
      omega
    have h' := h
    rw [List.getElem?_take_of_lt hi] at h'
    obtain ⟨a, h1, h2, ho, h3, h4⟩ := R.own i o h'
    have hfa : F2.h a = none := by
      by_cases z : F2.h a = F.h a
      · rw [z]; exact h2
      · obtain ⟨j, hj, hj2⟩ := c.out a z
        have := nodup_get R.inj h1 hj2
        omega
    have hp : ptrO n o = true := List.all_eq_true.mp ha o (List.mem_of_getElem? h)
    exact ⟨a, by rw [c.al, List.getElem?_take_of_lt hi]; exact h1, hfa, ho, h3, (h4.cut hp).mono c.fle⟩
  · rw [c.al]
    exact List.Nodup.sublist (List.take_sublist _ _) R.inj
/-- from the cut end of a call that saw the cells F.al: what its caller sees -/
theorem Cut.ext {F F1 F2 : Fp} {H H' : Hp} (c : Cut F1 F2 H' F.al.length) (x : Ext F H F1 H') (nd : F1.al.Nodup) : Ext F H F2 H' := by
  obtain ⟨t, ht⟩ := x.le.al
  have e : F1.al.take F.al.length = F.al := by rw [← ht, List.take_left]
  refine ⟨⟨x.le.h.trans c.le, by rw [c.al, e]; exact List.prefix_refl _⟩, fun a n => ?_, x.keep, x.there, fun b w => .inl ?_, c.tb.trans x.tb⟩
  · by_cases z : F2.h a = F1.h a
    · rw [z]; exact x.new a n
    · obtain ⟨j, hj, hj2⟩ := c.out a z
      have m : a ∈ F1.al := List.mem_of_getElem? hj2
      rcases x.ow a m with w | w
      · obtain ⟨i, hi, e1⟩ := List.getElem_of_mem w
        have h1 : F1.al[i]? = some a := by
          rw [← ht, List.getElem?_append_left hi, List.getElem?_eq_getElem hi, e1]
        have := nodup_get nd h1 hj2
        omega
      · exact absurd w n
  · rw [c.al, e] at w
    exact w
/-- a call that saw no cell -/
theorem Cut.framed {F F1 F2 : Fp} {H H' : Hp} {st : List Own} (R : RelS K F st H) (c : Cut F1 F2 H' 0) (x : Ext ⟨F.h, [], F.tb⟩ H F1 H') (ht : LamX.Tabs TbT.T H') : RelS K ⟨F2.h, F.al, F.tb⟩ st H' ∧ Ext F H ⟨F2.h, F.al, F.tb⟩ H' ∧ Fle F2 ⟨F2.h, F.al, F.tb⟩ := by
  have old : ∀ a, H a ≠ none → F2.h a = F.h a := fun a n => by
    by_cases z : F2.h a = F1.h a
    · rw [z]; exact x.new a n
    · obtain ⟨j, _, hj⟩ := c.out a z
      rcases x.ow a (List.mem_of_getElem? hj) with w | w
      · cases w
      · exact absurd w n
  have l : Fle F ⟨F2.h, F.al, F.tb⟩ := ⟨x.le.h.trans c.le, List.prefix_refl _⟩
  refine ⟨⟨c.sub, rfl, fun i d h => (by cases h), R.sl, fun i o h => ?_, R.inj, ht, c.ntb⟩, ⟨l, old, fun b o h _ t => x.keep b o h (by simp) t, x.there, fun b w => .inl w, rfl⟩, Le.refl _, ?_⟩
  · obtain ⟨a, h1, h2, ho, h3, h4⟩ := R.own i o h
    exact ⟨a, h1, (old a (by rw [h3]; exact nofun)).trans h2, ho, x.keep a ho h3 (by simp) h4.ntb, h4.mono l⟩
  · rw [c.al]
    exact List.nil_prefix
end
/-- how a program's exceptions lie: told by the trees' heap, kept where it is cut -/
def XOk (C : Ct) : Prop := ∀ (n : Nat) (x : Exn) (c : Value) (fd : Option Addr) (F F2 : Fp) (H : Hp), C.XR x c fd F H → ptrF n x.fld = true → F2.al = F.al.take n → Le F.h F2.h → C.XR x c fd F2 H ∧ ∀ F3, Fle F2 F3 → C.XR x c fd F3 H
section
variable {K : PySem.W.Frag} {C : Ct}
theorem en_start {N : List Str} {np ns : Nat} {F : Fp} {H : Hp} {st : List Own} {vs : List V} {ds : List D} (R : RelS K F st H) (r : Reps K F vs ds) (hn : N.length = ns) (hl : vs.length = np) : Rel K F ⟨ds.map some ++ List.replicate (ns - np) none, st⟩ (L2.start N vs) H := by
  refine ⟨R.sub, ?_, fun i d h => ?_, R.sl, R.own, R.inj, R.tab, R.ntb⟩
  · show (vs.map some ++ List.replicate (N.length - vs.length) none).length = (ds.map some ++ List.replicate (ns - np) none).length
    rw [List.length_append, List.length_append, List.length_map, List.length_map, List.length_replicate, List.length_replicate, r.length, hn, ← hl, r.length]
  · have h : (ds.map some ++ List.replicate (ns - np) none)[i]? = some (some d) := h
    have hi : i < ds.length := by
      rcases Nat.lt_or_ge i ds.length with q | q
      · exact q
      · rw [List.getElem?_append_right (by rw [List.length_map]; exact q), List.getElem?_replicate] at h
        split at h <;> cases h
    rw [List.getElem?_append_left (by rw [List.length_map]; exact hi), List.getElem?_map] at h
    cases q : ds[i]? with
    | none => rw [q] at h; cases h
    | some d' =>
      rw [q] at h
      cases h
      obtain ⟨v, h1, h2⟩ := r.get q
      refine ⟨v, ?_, h2⟩
      show (vs.map some ++ List.replicate (N.length - vs.length) none)[i]? = _
      have hv : i < vs.length := by rw [r.length]; exact hi
      rw [List.getElem?_append_left (by rw [List.length_map]; exact hv), List.getElem?_map, h1]
      rfl
/-- the body's end, from the call's -/
theorem end_of {F : Fp} {H : Hp} {st : List Own} {md : Md} {r : S} {Q : VK} {E : XK} (X : XOk C) (R : RelS K F st H)
    (P : PostC K C F H (match r with
      | .nx e => endOk md st .non e
      | .rt d e => endOk md st d e
      | .exc x e => endX md st x e
      | _ => .er) Q E) : PostS K C (fun c fd _ H' => E c fd H') (if md = .pure then ⟨F.h, [], F.tb⟩ else F) H r { nx := fun _ H' => Q .non H', rt := Q } := by
  have sl : F.al.length = st.length := R.sl
  have ok : ∀ (d : D) (e : En), PostC K C F H (endOk md st d e) Q E → ∀ F' H' σ' v, Rel K F' e σ' H' → Ext (if md = .pure then ⟨F.h, [], F.tb⟩ else F) H F' H' → Rep K F' v d → Q v H' := by
    intro d e P F' H' σ' v R' X' r
    cases md with
    | all => exact P F' H' v R'.s X' r
    | pure =>
      have P : PostC K C F H (match cutOk 0 d e with
        | some (d, _) => .ok d st
        | none => .er) Q E := P
      cases hc : cutOk 0 d e with
      | none => rw [hc] at P; exact P.elim
      | some p =>
        obtain ⟨d', st'⟩ := p
        rw [hc] at P
        have hc : (give 0 e d).bind (fun d => if ptr 0 d && (e.st.take 0).all (ptrO 0) then some (d, e.st.take 0) else none) = some (d', st') := hc
        obtain ⟨d2, h1, h2⟩ := bind1 hc
        split at h2
        · rename_i hp
          cases h2
          rw [Bool.and_eq_true] at hp
          obtain ⟨F2, c, r2⟩ := give_rep R' r h1 hp.1
          obtain ⟨q1, q2, q3⟩ := Cut.framed R c X' R'.tab
          exact P _ _ v q1 q2 (r2.up q3)
        · cases h2
    | cut =>
      have X' : Ext F H F' H' := X'
      have P : PostC K C F H (match cutOk st.length d e with
        | some (d, st') => .ok d st'
        | none => .er) Q E := P
      cases hc : cutOk st.length d e with
      | none => rw [hc] at P; exact P.elim
      | some p =>
        obtain ⟨d', st'⟩ := p
        rw [hc] at P
        have hc : (give st.length e d).bind (fun d => if ptr st.length d && (e.st.take st.length).all (ptrO st.length) then some (d, e.st.take st.length) else none) = some (d', st') := hc
        obtain ⟨d2, h1, h2⟩ := bind1 hc
        split at h2
        · rename_i hp
          cases h2
          rw [Bool.and_eq_true] at hp
          obtain ⟨F2, c, r2⟩ := give_rep R' r h1 hp.1
          have c2 := c
          rw [← sl] at c2
          exact P F2 H' v (c.rel R' hp.2) (c2.ext X' R'.inj) r2
        · cases h2
  cases r with
  | nx e => exact fun F' H' σ' R' X' => ok .non e P F' H' σ' .non R' X' .non
  | rt d e => exact ok d e P
  | bk e => exact P.elim
  | ct e => exact P.elim
  | er => exact P
  | exc x e =>
    intro F' H' σ' c fd R' X' hx
    cases md with
    | all => exact P F' H' c fd R'.s X' hx
    | pure =>
      have P : PostC K C F H (match cutX 0 x e with
        | some _ => .exc x st
        | none => .er) Q E := P
      cases hc : cutX 0 x e with
      | none => rw [hc] at P; exact P.elim
      | some p =>
        rw [hc] at P
        have hc : (if ptrF 0 x.fld && (e.st.take 0).all (ptrO 0) then some (x, e.st.take 0) else none) = some p := hc
        split at hc
        · rename_i hp
          rw [Bool.and_eq_true] at hp
          obtain ⟨q1, q2, q3⟩ := Cut.framed R (Cut.same R') X' R'.tab
          exact P _ _ c fd q1 q2 ((X 0 x c fd F' (F'.cut 0) H' hx hp.1 rfl (Le.refl _)).2 _ q3)
        · cases hc
    | cut =>
      have X' : Ext F H F' H' := X'
      have P : PostC K C F H (match cutX st.length x e with
        | some (x, st') => .exc x st'
        | none => .er) Q E := P
      cases hc : cutX st.length x e with
      | none => rw [hc] at P; exact P.elim
      | some p =>
        obtain ⟨x', st'⟩ := p
        rw [hc] at P
        have hc : (if ptrF st.length x.fld && (e.st.take st.length).all (ptrO st.length) then some (x, e.st.take st.length) else none) = some (x', st') := hc
        split at hc
        · rename_i hp
          cases hc
          rw [Bool.and_eq_true] at hp
          have c2 : Cut F' (F'.cut st.length) H' st.length := Cut.same R'
          have c3 := c2
          rw [← sl] at c3
          rw [← sl] at hp
          have q := c2.rel R' (by rw [sl] at hp; exact hp.2)
          have c4 := c3.ext X' R'.inj
          rw [sl] at c4 hp
          exact P _ H' c fd q c4 ((X st.length x c fd F' (F'.cut st.length) H' hx hp.1 rfl (Le.refl _)).1)
        · cases hc
end
end Mi
end

section
set_option Elab.async false
set_option linter.all false
set_option maxRecDepth 100000
set_option maxHeartbeats 4000000
set_option autoImplicit false
/-! Mi35: calls with keywords: keyword-only parameters, all given or none. -/
namespace Mi
open PySem L2 RZ PySem.Spec PySem.Calls PyProof.Rows
variable [TbT]
/-- a keyword-only parameter's default -/
def dV : D → V
  | .int i => .int i
  | .bl b => .bl b
  | _ => .non
def dfE : CE → D → Bool
  | .int i, .int j => decide (i = j)
  | .bl a, .bl b => decide (a = b)
  | .non, .non => true
  | _, _ => false
def dfEs : CEs → List (Str × D) → Bool
  | .nil, [] => true
  | .cons a r, k :: ks => dfE a k.2 && dfEs r ks
  | _, _ => false
structure KwB (K : PySem.W.Frag) (fd : FuncData) (ps : List Str) (n : Nat) (ks : List (Str × D)) : Prop where
  dfl : ∃ ds, Vals (ks.map fun k => dV k.2) ds ∧ ∀ (s : Shared) (us : List Value), K.In s.heap → us.length = n → BindsTo s fd ⟨us, []⟩ (ps.zip (us ++ ds))
  all : ∀ (s : Shared) (us ws : List Value), K.In s.heap → us.length = n → ws.length = ks.length → BindsTo s fd ⟨us, (ks.map (·.1)).zip ws⟩ (ps.zip (us ++ ws))
def CEs.app : CEs → CEs → CEs
  | .nil, b => b
  | .cons a r, b => .cons a (r.app b)
theorem CEs.app_len : ∀ a b : CEs, (a.app b).len = a.len + b.len
  | .nil, b => by
    show b.len = 0 + b.len
    omega
  | .cons a r, b => by
    show (r.app b).len + 1 = r.len + 1 + b.len
    rw [CEs.app_len r b]; omega
theorem R.bind_assoc {α β γ : Type} (r : R α) (f : α → En → R β) (g : β → En → R γ) : (r.bind f).bind g = r.bind fun a e => (f a e).bind g := by cases r <;> rfl
theorem evEs_app {cs : List D} {cal : Cal} : ∀ (a b : CEs) (e : En), evEs cs cal (a.app b) e = (evEs cs cal a e).bind fun xs e => (evEs cs cal b e).bind fun ys e => .ok (xs ++ ys) e
  | .nil, b, e => by
    show evEs cs cal b e = (evEs cs cal b e).bind fun ys e => .ok ys e
    cases evEs cs cal b e <;> rfl
  | .cons a r, b, e => by
    show ((evE cs cal a e).bind fun x e => (evEs cs cal (r.app b) e).bind fun xs e => .ok (x :: xs) e) = ((evE cs cal a e).bind fun x e => (evEs cs cal r e).bind fun xs e => .ok (x :: xs) e).bind _
    rw [R.bind_assoc]
    congr 1
    funext x e1
    rw [evEs_app r b, R.bind_assoc, R.bind_assoc]
    congr 1
    funext xs e2
    rw [R.bind_assoc]
    show (evEs cs cal b e2).bind _ = (evEs cs cal b e2).bind _
    rfl
theorem dfE_ok {cs : List D} {cal : Cal} {a : CE} {d : D} (h : dfE a d = true) (e : En) : evE cs cal a e = .ok d e := by
  unfold dfE at h
  split at h
  · have h := of_decide_eq_true h
    subst h; rfl
  · have h := of_decide_eq_true h
    subst h; rfl
  · rfl
  · cases h
theorem dfE_rep {a : CE} {d : D} (h : dfE a d = true) {K : PySem.W.Frag} {F : Fp} : Rep K F (dV d) d := by
  unfold dfE at h
  split at h
  · have h := of_decide_eq_true h
    subst h; exact .int _
  · have h := of_decide_eq_true h
    subst h; exact .bl _
  · exact .non
  · cases h
theorem dfEs_ok {cs : List D} {cal : Cal} : ∀ {es : CEs} {ks : List (Str × D)}, dfEs es ks = true → ∀ e : En, evEs cs cal es e = .ok (ks.map (·.2)) e
  | .nil, [], _, e => rfl
  | .nil, _ :: _, h, _ => by cases h
  | .cons _ _, [], h, _ => by cases h
  | .cons a r, k :: ks, h, e => by
    have h : (dfE a k.2 && dfEs r ks) = true := h
    rw [Bool.and_eq_true] at h
    show ((evE cs cal a e).bind fun x e => (evEs cs cal r e).bind fun xs e => .ok (x :: xs) e) = _
    rw [dfE_ok h.1, R.bind, dfEs_ok h.2]
    rfl
theorem dfEs_reps {K : PySem.W.Frag} {F : Fp} : ∀ {es : CEs} {ks : List (Str × D)}, dfEs es ks = true → Reps K F (ks.map fun k => dV k.2) (ks.map (·.2))
  | .nil, [], _ => .nil
  | .nil, _ :: _, h => by cases h
  | .cons _ _, [], h => by cases h
  | .cons a r, k :: ks, h => by
    have h : (dfE a k.2 && dfEs r ks) = true := h
    rw [Bool.and_eq_true] at h
    exact .cons (dfE_rep h.1) (dfEs_reps h.2)
theorem dfEs_len : ∀ {es : CEs} {ks : List (Str × D)}, dfEs es ks = true → es.len = ks.length
  | .nil, [], _ => rfl
  | .nil, _ :: _, h => by cases h
  | .cons _ _, [], h => by cases h
  | .cons a r, k :: ks, h => by
    have h : (dfE a k.2 && dfEs r ks) = true := h
    rw [Bool.and_eq_true] at h
    show r.len + 1 = ks.length + 1
    rw [dfEs_len h.2]
theorem Reps.app {K : PySem.W.Frag} {F : Fp} : ∀ {vs us : List V} {ds es : List D}, Reps K F vs ds → Reps K F us es → Reps K F (vs ++ us) (ds ++ es)
  | [], _, _, _, h, k => by cases h; exact k
  | _ :: _, _, _, _, h, k => by
    cases h with
    | cons h r => exact .cons h (Reps.app r k)
section
variable {X : Cx} {C : Ct} {W : WX} {pos : Pos} {CX : CXT} {k : Nat} {f : Addr} {fd : FuncData} {ps : List Str} {sp : Sp} {E : L2.St → XK} {x : Str} {p : Pos} {e : Expr} {es : List Expr} {kws : List Keyword} {t tk : TA}
theorem run_fnGB {pins : List (Addr × Obj)} {σ : L2.St} {H : Hp} {s : Shared} {Q : VK} {us us0 : List Value} {kv : List (Str × Value)} {vs : List V} (F : FnG X.prog X.w X.K X.mg X.base CX k f fd ps sp) (hr : Room k X.A) (hgd : X.A.guards = some []) (hx : PassesAt CX X σ (E σ))
    (I : Inv X pins σ H s) (b : BindsTo s fd ⟨us0, kv⟩ (ps.zip us)) (r : Vals vs us) (h : sp vs H Q (E σ)) : wpAny (model X.prog X.w) X.A (call (.ref f) us0 kv) (EP X pins σ Q) X.xe s := by
  refine wpAny_call (codeAny_mono (F.run X.A X.stack s H ⟨us0, kv⟩ us vs Q (E σ) hr hgd I.env0 b r h) fun r s' hq => ?_)
  match r, hq with
  | .error e, hq => exact hx pins H s e s' I hq
  | .ok (.ret u), hq => exact I.after hq
def tCallD (sp : Sp) (E : L2.St → XK) (dv : List V) (n : Nat) (t : TA) : TE := fun σ H Q => t σ H fun vs H1 => vs.length = n ∧ sp (vs ++ dv) H1 Q (E σ)
/-- the keywords left out -/
theorem pe_callGD {n : Nat} {ks : List (Str × D)} (F : FnG X.prog X.w X.K X.mg X.base CX k f fd ps sp) (hr : Room k X.A) (hgd : X.A.guards = some []) (hg : Gl X x) (hm : X.mg x = some (.ref f)) (hk : PySem.W.keepIn X.K (.ref f) = true) (hb : KwB X.K fd ps n ks) (hx : ∀ σ, PassesAt CX X σ (E σ))
    (ha : PA X (e :: es) t) (hdb : (x == ("__debug__" : Str)) = false) (he : starEach (e :: es) X.env = (false, eval e X.env) :: starEach es X.env) (hpl : (backTo pos (starEach es X.env)).any (·.1) = false) :
    PE X (.Call (.Name x p) (e :: es) [] pos) (tCallD sp E (ks.map fun k => dV k.2) n t) := by
  obtain ⟨ds, rd, hb⟩ := hb.dfl
  exact ⟨fun pins s σ H Q I h =>
    wpAny_Call_Name_kw (ld_glob I hg hm (PySem.W.callWith_K (h₀ := X.base) I.ok.mod.kin hk (L2.thn (ha.run pos pins s σ H _ I h) fun us s1 ⟨vs, H1, I1, r, hl, q⟩ => ⟨I1.kIn, run_fnGB F hr hgd (hx σ) I1 (hb s1 us I1.kIn (r.length.symm.trans hl)) (r.append rd) q⟩) he hpl) hdb)⟩
def tCallK (sp : Sp) (E : L2.St → XK) (n m : Nat) (t tk : TA) : TE := fun σ H Q => t σ H fun vs H1 => tk σ H1 fun zs H2 => vs.length = n ∧ zs.length = m ∧ sp (vs ++ zs) H2 Q (E σ)
/-- all keywords given, in order -/
theorem pe_callGK {n : Nat} {ks : List (Str × D)} (F : FnG X.prog X.w X.K X.mg X.base CX k f fd ps sp) (hr : Room k X.A) (hgd : X.A.guards = some []) (hg : Gl X x) (hm : X.mg x = some (.ref f)) (hk : PySem.W.keepIn X.K (.ref f) = true) (hb : KwB X.K fd ps n ks) (hx : ∀ σ, PassesAt CX X σ (E σ))
    (ha : PA X (e :: es) t) (hkw : PK X kws tk) (hdb : (x == ("__debug__" : Str)) = false) (hall : (backToKw pos (keywordEach kws X.env)).all (·.1.isSome) = true) (hks : (backToKw pos (keywordEach kws X.env)).filterMap (·.1) = ks.map (·.1))
    (he : starEach (e :: es) X.env = (false, eval e X.env) :: starEach es X.env) (hpl : ((backTo pos (starEach (e :: es) X.env)).any (·.1) || (backToKw pos (keywordEach kws X.env)).any (·.1.isNone)) = false) :
    PE X (.Call (.Name x p) (e :: es) kws pos) (tCallK sp E n ks.length t tk) := by
  refine ⟨fun pins s σ H Q I h => ?_⟩
  refine wpAny_Call_Name_kw (ld_glob I hg hm ?_ hdb)
  refine PySem.W.callWith_KW (h₀ := X.base) I.ok.mod.kin hk hall (L2.thn (ha.run pos pins s σ H _ I h) fun us s1 ⟨vs, H1, I1, r, q⟩ => ?_) hpl he
  refine L2.thn (hkw.run pos pins s1 σ H1 _ I1 q) fun ws s2 ⟨zs, H2, I2, rz, l1, l2, q2⟩ => ⟨I2.kIn, ?_⟩
  rw [hks]
  exact run_fnGB F hr hgd (hx σ) I2 (hb.all s2 us ws I2.kIn (r.length.symm.trans l1) (rz.length.symm.trans l2)) (r.append rz) q2
/-! ### keywords by names -/
def kwNames : List Keyword → List (Str × D) → Bool
  | [], [] => true
  | k :: r, q :: ks => decide (k.arg = some q.1) && kwNames r ks
  | _, _ => false
theorem kwNames_len : ∀ {kws : List Keyword} {ks : List (Str × D)}, kwNames kws ks = true → kws.length = ks.length
  | [], [], _ => rfl
  | [], _ :: _, h => by cases h
  | _ :: _, [], h => by cases h
  | _ :: r, q :: ks, h => by
    rw [kwNames, Bool.and_eq_true] at h
    show r.length + 1 = ks.length + 1
    rw [kwNames_len h.2]
theorem kw_all {env : Env} : ∀ {kws : List Keyword} {ks : List (Str × D)}, kwNames kws ks = true → (backToKw pos (keywordEach kws env)).all (·.1.isSome) = true ∧ (backToKw pos (keywordEach kws env)).filterMap (·.1) = ks.map (·.1) ∧ (backToKw pos (keywordEach kws env)).any (·.1.isNone) = false
  | [], [], _ => ⟨rfl, rfl, rfl⟩
  | [], _ :: _, h => by cases h
  | _ :: _, [], h => by cases h
  | ⟨a, v, p⟩ :: r, q :: ks, h => by
    have h : (decide (a = some q.1) && kwNames r ks) = true := h
    rw [Bool.and_eq_true] at h
    obtain ⟨h1, h2, h3⟩ := kw_all (env := env) h.2
    have e := of_decide_eq_true h.1
    subst e
    exact ⟨by
      show (true && (backToKw pos (keywordEach r env)).all (·.1.isSome)) = true
      rw [h1]; rfl, by
      show q.1 :: (backToKw pos (keywordEach r env)).filterMap (·.1) = q.1 :: _
      rw [h2], by
      show (false || (backToKw pos (keywordEach r env)).any (·.1.isNone)) = false
      rw [h3]; rfl⟩
theorem k_nil : PK X [] (tA X.K C W .nil) := ⟨fun pos pins s σ H Q I h => pk_nil.run pos pins s σ H Q I (by
  obtain ⟨F, e, R, P⟩ := h
  exact Post.of_ok R P [] .nil)⟩
theorem k_cons {a : CE} {r : CEs} {a' : Expr} {nm : Option Str} {kp : Pos} {r' : List Keyword} (ha : PE X a' (tI X.K C W a)) (hr : PK X r' (tA X.K C W r)) : PK X (⟨nm, a', kp⟩ :: r') (tA X.K C W (.cons a r)) := ⟨fun pos pins s σ H Q I h => (pk_cons ha hr).run pos pins s σ H Q I (by
  obtain ⟨F, e, R, P⟩ := h
  refine ⟨F, e, R, (Post.run P).mono fun x e1 F1 H1 _ R1 X1 P1 v rv => ?_⟩
  refine ⟨F1, e1, R1, (Post.run P1).mono fun xs e2 F2 H2 _ R2 X2 P2 vs rvs => ?_⟩
  exact Post.of_ok R2 P2 _ (.cons (rv.up X2.le) rvs))⟩
/-! ### the nodes -/
theorem n_callD {n fi : Nat} {ks : List (Str × D)} {e1 e2 : CEs} (F : FnG X.prog X.w X.K X.mg X.base CX k f fd ps (spI X.K C (n + ks.length) fi)) (hr : Room k X.A) (hgd : X.A.guards = some []) (hg : Gl X x) (hm : X.mg x = some (.ref f)) (hk : PySem.W.keepIn X.K (.ref f) = true) (hb : KwB X.K fd ps n ks) (hx : ∀ σ, PassesAt CX X σ (WE W σ))
    (ha : PA X (e :: es) (tA X.K C W e1)) (hdb : (x == ("__debug__" : Str)) = false) (hs : noStars (e :: es) = true) (hel : e1.len = n) (hd : dfEs e2 ks = true) :
    PE X (.Call (.Name x p) (e :: es) [] pos) (tI X.K C W (.call fi (e1.app e2))) := by
  have hs' : (!isStar e && noStars es) = true := hs
  rw [Bool.and_eq_true] at hs'
  refine PE.imp (pe_callGD F hr hgd hg hm hk hb hx ha hdb (star_ok (by simpa using hs'.1)) (stars_any hs'.2)) fun σ H Q h => ?_
  obtain ⟨F0, en, R, P⟩ := h
  have P : Post X.K C W F0 H σ ((evEs C.cs C.cal (e1.app e2) en).bind fun ds e => callR C.cal fi ds e) _ := P
  rw [evEs_app, Mi.R.bind_assoc] at P
  refine ⟨F0, en, R, (Post.run P).mono fun ds e1' F1 H1 he R1 X1 P1 vs rvs => ?_⟩
  rw [dfEs_ok hd] at P1
  have hl := evEs_len e1 _ _ _ he
  refine ⟨by rw [rvs.length]; exact hl.trans hel, F1, e1'.st, ds ++ ks.map (·.2), R1.s, rvs.app (dfEs_reps hd), by rw [List.length_append, List.length_map, rvs.length, hl, hel], post_c R1 P1⟩
theorem n_callK {n fi : Nat} {ks : List (Str × D)} {e1 e2 : CEs} (F : FnG X.prog X.w X.K X.mg X.base CX k f fd ps (spI X.K C (n + ks.length) fi)) (hr : Room k X.A) (hgd : X.A.guards = some []) (hg : Gl X x) (hm : X.mg x = some (.ref f)) (hk : PySem.W.keepIn X.K (.ref f) = true) (hb : KwB X.K fd ps n ks) (hx : ∀ σ, PassesAt CX X σ (WE W σ))
    (ha : PA X (e :: es) (tA X.K C W e1)) (hkw : PK X kws (tA X.K C W e2)) (hdb : (x == ("__debug__" : Str)) = false) (hs : noStars (e :: es) = true) (hel : e1.len = n) (hel2 : e2.len = ks.length) (hn : kwNames kws ks = true) :
    PE X (.Call (.Name x p) (e :: es) kws pos) (tI X.K C W (.call fi (e1.app e2))) := by
  have hs' : (!isStar e && noStars es) = true := hs
  rw [Bool.and_eq_true] at hs'
  obtain ⟨k1, k2, k3⟩ := kw_all (pos := pos) (env := X.env) hn
  refine PE.imp (pe_callGK F hr hgd hg hm hk hb hx ha hkw hdb k1 k2 (star_ok (by simpa using hs'.1)) (by rw [stars_any hs, k3]; rfl)) fun σ H Q h => ?_
  obtain ⟨F0, en, R, P⟩ := h
  have P : Post X.K C W F0 H σ ((evEs C.cs C.cal (e1.app e2) en).bind fun ds e => callR C.cal fi ds e) _ := P
  rw [evEs_app, Mi.R.bind_assoc] at P
  refine ⟨F0, en, R, (Post.run P).mono fun ds e1' F1 H1 he R1 X1 P1 vs rvs => ?_⟩
  rw [Mi.R.bind_assoc] at P1
  refine ⟨F1, e1', R1, (Post.run P1).mono fun es2 e2' F2 H2 he2 R2 X2 P2 zs rzs => ?_⟩
  have hl := evEs_len e1 _ _ _ he
  have hl2 := evEs_len e2 _ _ _ he2
  refine ⟨by rw [rvs.length]; exact hl.trans hel, by rw [rzs.length]; exact hl2.trans hel2, F2, e2'.st, ds ++ es2, R2.s, (rvs.up X2.le).app rzs, by rw [List.length_append, rvs.length, rzs.length, hl, hel, hl2, hel2], post_c R2 P2⟩
end
end Mi
end

section
set_option Elab.async false
set_option linter.all false
set_option maxRecDepth 100000
set_option maxHeartbeats 4000000
set_option autoImplicit false
/-! Mi22: how a text is held against its terms. -/
namespace Mi
open PySem L2 RZ PySem.Spec PySem.Calls PyProof.Rows
/-- what is known where a text is read: the slots, the block's names, constants, defs, names that are left to the interpreter -/
structure ME where
  N : List Str
  sc : Scope
  fc : Option Scope
  glb : List Str
  fns : List (Str × Nat)
  blt : List Str
  lm : Bool
  kw : List (List (Str × D))
def ME.kwOf (M : ME) (i : Nat) : List (Str × D) := (M.kw[i]?).getD []
def ME.fn (M : ME) (x : Str) : Bool := match M.fc with
  | none => true
  | some sc => sc.names.lookup x == some .cell
def ME.kind (M : ME) (x : Str) : Option NameKind := M.sc.names.lookup x
def vis : Option NameKind → Bool
  | some .local => true
  | some .cell => true
  | some .free => true
  | _ => false
def isLoc : Option NameKind → Bool
  | some .local => true
  | some .cell => true
  | _ => false
def isGl : Option NameKind → Bool
  | some .globalImplicit => true
  | _ => false
def isLo : Option NameKind → Bool
  | some .local => true
  | _ => false
def plainName (x : Str) : Bool := !(x == ("__debug__" : Str)) && !(x == ("__classdict__" : Str)) && !(x == ("__name__" : Str))
def mVar (M : ME) (i : Nat) : Expr → Bool
  | .Name x _ => decide (M.N[i]? = some x) && vis (M.kind x) && plainName x
  | _ => false
def mGlb (M : ME) (i : Nat) : Expr → Bool
  | .Name x _ => decide (M.glb[i]? = some x) && isGl (M.kind x) && plainName x
  | _ => false
/-- a built-in's name -/
def mBlt (M : ME) (x : Str) : Bool := decide (x ∈ M.blt) && isGl (M.kind x) && plainName x
def mConst (c : Const → Bool) : Expr → Bool
  | .Constant k _ _ => c k
  | _ => false
/-- the block of a comprehension -/
def ME.blk (M : ME) (scope : Scope) : ME := { M with sc := relS scope M.sc, fc := some scope, lm := false }
/-- a lambda's block -/
def ME.lam (M : ME) (scope : Scope) : ME := { M with sc := scope, fc := some scope, lm := false }
/-- a lambda of one parameter, the slot p -/
def lamC (N : List Str) (sc scope : Scope) (p : Nat) (y : Str) : Bool :=
  decide (scope.kind = .function) && !scope.isCoroutine && !scope.isGenerator && decide (scope.names.lookup y = some .local) && decide (N[p]? = some y) && scope.names.all (fun z => !decide (z.2 = .cell) && (!decide (z.2 = .local) || decide (z.1 = y)) && (!decide (z.2 = .free) || decide (sc.names.lookup z.1 = some .cell) || decide (sc.names.lookup z.1 = some .free)))
/-- plain parameters, one alone -/
def oneParam : Arguments → Option Str
  | ⟨[], [a], none, [], [], none, []⟩ => some a.arg
  | _ => none
def BI.name : BI → Str
  | .len => "len"
  | .lenset => "len"
  | .list => "list"
  | .tuple => "tuple"
  | .dict => "dict"
  | .sorted => "sorted"
  | .repr => "repr"
  | .all => "all"
  | .any => "any"
  | .min => "min"
  | .max => "max"
def BI.plain : BI → Bool
  | .lenset => false
  | _ => true
def Mt.name : Mt → Str
  | .get1 => "get"
  | .get2 => "get"
  | .split => "split"
  | .join => "join"
def Mu.name : Mu → Str
  | .append => "append"
  | .pop => "pop"
  | .popAt => "pop"
  | .insert => "insert"
  | .extend => "extend"
/-! ### targets -/
mutual
def mG : CT → ME → Expr → Bool
  | .nm i, M, e => match e with
    | .Name x _ => decide (M.N[i]? = some x) && isLoc (M.kind x) && (M.fn x || isLo (M.kind x))
    | _ => false
  | .tup ts, M, e => match e with
    | .Tuple es _ _ => mGs ts M es && noStars es
    | _ => false
  | .star ts r, M, e => match e with
    | .Tuple es _ _ => mGS ts r M es
    | _ => false
def mGs : List CT → ME → List Expr → Bool
  | [], _, es => match es with
    | [] => true
    | _ => false
  | t :: ts, M, es => match es with
    | e :: es => mG t M e && mGs ts M es
    | [] => false
def mGS : List CT → Nat → ME → List Expr → Bool
  | [], r, M, es => match es with
    | [.Starred e _] => (match e with
      | .Name x _ => decide (M.N[r]? = some x) && isLoc (M.kind x) && (M.fn x || isLo (M.kind x))
      | _ => false)
    | _ => false
  | t :: ts, r, M, es => match es with
    | e :: es => mG t M e && !isStar e && mGS ts r M es
    | [] => false
end
def notSet : Expr → Bool
  | .Set _ _ _ => false
  | _ => true
def isIf : Expr → Bool
  | .IfExp _ _ _ _ => true
  | _ => false
def noIfs : List Expr → Bool
  | [] => true
  | e :: es => !isIf e && noIfs es
/-- a test read by its value -/
def plainT : Expr → Bool
  | .UnaryOp op _ _ => (match op with | .Not => false | _ => true)
  | .BoolOp _ _ _ => false
  | .IfExp _ _ _ _ => false
  | .Compare _ _ _ _ => false
  | _ => true
mutual
def mE : CE → ME → Expr → Bool
  | .var i, M, e => mVar M i e
  | .glb i, M, e => mGlb M i e
  | .int i, _, e => mConst (fun k => match k with | .int j => decide (i = j) | _ => false) e
  | .str x, _, e => mConst (fun k => match k with | .str y => decide (x = y) | _ => false) e
  | .bl b, _, e => mConst (fun k => match k with | .bool c => decide (b = c) | _ => false) e
  | .non, _, e => mConst (fun k => match k with | .none => true | _ => false) e
  | .bin op a b, M, e => match e with
    | .BinOp a' o b' _ => decide (o = op.py) && mE a M a' && mE b M b'
    | _ => false
  | .neg a, M, e => match e with
    | .UnaryOp o a' _ => (match o with | .USub => mE a M a' | _ => false)
    | _ => false
  | .cmp op a b, M, e => match e with
    | .Compare a' os bs _ => (match os, bs with
      | [o], [b'] => decide (o = op.py) && mE a M a' && mE b M b' && !behindInMarks op.py b'
      | _, _ => false)
    | _ => false
  | .chain o1 o2 a b c, M, e => match e with
    | .Compare a' os bs _ => (match os, bs with
      | [p, q], [b', c'] => decide (p = o1.py) && decide (q = o2.py) && mE a M a' && mE b M b' && mE c M c' && !lastMarks [o1.py, o2.py] [b', c']
      | _, _ => false)
    | _ => false
  | .and a es, M, e => match e with
    | .BoolOp o xs _ => (match o, xs with
      | .And, a' :: r => mE a M a' && mEs es M r && !isIf a' && noIfs r
      | _, _ => false)
    | _ => false
  | .or a es, M, e => match e with
    | .BoolOp o xs _ => (match o, xs with
      | .Or, a' :: r => mE a M a' && mEs es M r && !isIf a' && noIfs r
      | _, _ => false)
    | _ => false
  | .not a, M, e => match e with
    | .UnaryOp o a' _ => (match o with | .Not => mE a M a' && !isIf a' | _ => false)
    | _ => false
  | .ite c a b, M, e => match e with
    | .IfExp c' a' b' _ => mE c M c' && mE a M a' && mE b M b' && !isIf c'
    | _ => false
  | .tup es, M, e => match e with
    | .Tuple xs _ _ => mEs es M xs && noStars xs
    | _ => false
  | .lst es, M, e => match e with
    | .List xs _ => mEs es M xs && noStars xs
    | _ => false
  | .dict ks, M, e => match e with
    | .Dict xs ys _ => mKs ks M xs ys && decide (xs.length ≤ 15)
    | _ => false
  | .ix a b, M, e => match e with
    | .Subscript a' b' _ => mE a M a' && mE b M b' && !isSlice b'
    | _ => false
  | .slc a lo hi, M, e => match e with
    | .Subscript a' s _ => (match s with
      | .Slice lo' hi' st _ => (match st with
        | none => mE a M a' && mO lo M lo' && mO hi M hi'
        | some _ => false)
      | _ => false)
    | _ => false
  | .rev a, M, e => match e with
    | .Subscript a' s _ => (match s with
      | .Slice none none (some (.UnaryOp .USub (.Constant (.int j) _ _) _)) _ => decide (j = 1) && mE a M a'
      | _ => false)
    | _ => false
  | .call f es, M, e => match e with
    | .Call fn xs kw _ => (match fn with
      | .Name x _ => decide (M.fns[f]? = some (x, es.len)) && isGl (M.kind x) && plainName x && noStars xs && (match kw with
        | [] => (match M.kwOf f with
          | [] => mEs es M xs
          | _ :: _ => !xs.isEmpty && mEd es M (M.kwOf f) xs)
        | _ :: _ => !xs.isEmpty && kwNames kw (M.kwOf f) && mEq es M kw xs)
      | _ => false)
    | _ => false
  | .bi b es, M, e => match b with
    | .lenset => (match e with
      | .Call (.Name x _) [.Call (.Name y _) [a'] [] _] [] _ => decide (x = "len") && decide (y = "set") && mBlt M x && mBlt M y && mEs es M [a']
      | _ => false)
    | b => (match e with
      | .Call fn (x1 :: xs) kw _ => (match fn, kw with
        | .Name x _, [] => decide (x = b.name) && b.plain && mBlt M x && mEs es M (x1 :: xs) && noStars (x1 :: xs)
        | _, _ => false)
      | _ => false)
  | .isa t a, M, e => match e with
    | .Call (.Name x _) [a', .Name y _] [] _ => decide (x = "isinstance") && mBlt M x && decide (y = Str.ofString t.py) && mBlt M y && mE a M a' && !isStar a'
    | _ => false
  | .mt m o es, M, e => match e with
    | .Call (.Attribute o' name apos) (x1 :: xs) [] cpos => decide (name = m.name) && mE o M o' && mEs es M (x1 :: xs) && notSuper o' && noStars (x1 :: xs) && decide ((x1 :: xs).length < 29) && (apos.endLine == cpos.line)
    | _ => false
  | .mu m o es, M, e => match e with
    | .Call (.Attribute o' name apos) xs [] cpos => decide (name = m.name) && mE o M o' && mEs es M xs && notSuper o' && noStars xs && decide (xs.length < 29) && (apos.endLine == cpos.line)
    | _ => false
  | .comp elt t it tt vs, M, e => match e with
    | .ListComp elt' gs scope _ => (match gs with
      | [g] => decide (g.is_async = 0) && mI it M g.target g.iter && notSet g.iter && blkC M.N M.sc scope (vs.map fun i => ((M.N[i]?).getD "", i)) && (slots t).all (fun i => decide (i ∈ vs)) && mG t (M.blk scope) g.target && mTs tt (M.blk scope) g.ifs && mE elt (M.blk scope) elt'
      | _ => false)
    | _ => false
  | .dcomp k v t it tt vs, M, e => match e with
    | .DictComp k' v' gs scope _ => (match gs with
      | [g] => decide (g.is_async = 0) && mI it M g.target g.iter && notSet g.iter && blkC M.N M.sc scope (vs.map fun i => ((M.N[i]?).getD "", i)) && (slots t).all (fun i => decide (i ∈ vs)) && mG t (M.blk scope) g.target && mTs tt (M.blk scope) g.ifs && mE k (M.blk scope) k' && mE v (M.blk scope) v'
      | _ => false)
    | _ => false
  | .sortk a p b, M, e => match e with
    | .Call (.Name x _) [a'] [⟨some kw, .Lambda ps body scope _, _⟩] _ => M.lm && decide (x = "sorted") && decide (kw = "key") && mBlt M x && mE a M a' && !isStar a' && (oneParam ps).isSome && lamC M.N M.sc scope p ((oneParam ps).getD "") && mE b (M.lam scope) body
    | _ => false
  | .new a, M, e => match a with
    | .lst es => (match e with
      | .List xs _ => mEs es M xs && noStars xs
      | _ => false)
    | .dict ks => (match e with
      | .Dict xs ys _ => mKs ks M xs ys && decide (xs.length ≤ 15)
      | _ => false)
    | .comp elt t it tt vs => (match e with
      | .ListComp elt' gs scope _ => (match gs with
        | [g] => decide (g.is_async = 0) && mI it M g.target g.iter && notSet g.iter && blkC M.N M.sc scope (vs.map fun i => ((M.N[i]?).getD "", i)) && (slots t).all (fun i => decide (i ∈ vs)) && mG t (M.blk scope) g.target && mTs tt (M.blk scope) g.ifs && mE elt (M.blk scope) elt'
        | _ => false)
      | _ => false)
    | .dcomp k v t it tt vs => (match e with
      | .DictComp k' v' gs scope _ => (match gs with
        | [g] => decide (g.is_async = 0) && mI it M g.target g.iter && notSet g.iter && blkC M.N M.sc scope (vs.map fun i => ((M.N[i]?).getD "", i)) && (slots t).all (fun i => decide (i ∈ vs)) && mG t (M.blk scope) g.target && mTs tt (M.blk scope) g.ifs && mE k (M.blk scope) k' && mE v (M.blk scope) v'
        | _ => false)
      | _ => false)
    | .bi b es => (match e with
      | .Call fn (x1 :: xs) kw _ => (match fn, kw with
        | .Name x _, [] => (decide (b = .list) || decide (b = .dict)) && decide (x = b.name) && mBlt M x && mEs es M (x1 :: xs) && noStars (x1 :: xs)
        | _, _ => false)
      | _ => false)
    | .sortk a p b => (match e with
      | .Call (.Name x _) [a'] [⟨some kw, .Lambda ps body scope _, _⟩] _ => M.lm && decide (x = "sorted") && decide (kw = "key") && mBlt M x && mE a M a' && !isStar a' && (oneParam ps).isSome && lamC M.N M.sc scope p ((oneParam ps).getD "") && mE b (M.lam scope) body
      | _ => false)
    | .bin op a b => (match e with
      | .BinOp a' o b' _ => decide (op = .add) && decide (o = .Add) && mE a M a' && mE b M b'
      | _ => false)
    | .slc a lo hi => (match e with
      | .Subscript a' s _ => (match s with
        | .Slice lo' hi' st _ => (match st with
          | none => mE a M a' && mO lo M lo' && mO hi M hi'
          | some _ => false)
        | _ => false)
      | _ => false)
    | _ => false
def mEs : CEs → ME → List Expr → Bool
  | .nil, _, es => match es with
    | [] => true
    | _ => false
  | .cons a r, M, es => match es with
    | e :: es => mE a M e && !isStar e && mEs r M es
    | [] => false
/-- some expressions, then the defaults -/
def mEd : CEs → ME → List (Str × D) → List Expr → Bool
  | .nil, _, ks, es => match es with
    | [] => dfEs .nil ks
    | _ => false
  | .cons a r, M, ks, es => match es with
    | e :: es => mE a M e && !isStar e && mEd r M ks es
    | [] => dfEs (.cons a r) ks
/-- some expressions, then the keywords -/
def mEq : CEs → ME → List Keyword → List Expr → Bool
  | .nil, _, kws, es => match es, kws with
    | [], [] => true
    | _, _ => false
  | .cons a r, M, kws, es => match es with
    | e :: es => mE a M e && !isStar e && mEq r M kws es
    | [] => match kws with
      | ⟨_, v, _⟩ :: kws => mE a M v && mEq r M kws []
      | [] => false
def mKs : CKs → ME → List (Option Expr) → List Expr → Bool
  | .nil, _, ks, vs => match ks, vs with
    | [], [] => true
    | _, _ => false
  | .cons k v r, M, ks, vs => match ks, vs with
    | some k' :: ks, v' :: vs => mE k M k' && mE v M v' && mKs r M ks vs
    | _, _ => false
def mO : CEo → ME → Option Expr → Bool
  | .no, _, e => match e with
    | none => true
    | _ => false
  | .yes a, M, e => match e with
    | some e => mE a M e
    | none => false
def mTs : CEo → ME → List Expr → Bool
  | .no, _, e => match e with
    | [] => true
    | _ => false
  | .yes a, M, e => match e with
    | [e] => mE a M e && !isIf e
    | _ => false
def mI : CI → ME → Expr → Expr → Bool
  | .seq a, M, _, e => mE a M e
  | .range a, M, _, e => match e with
    | .Call (.Name x _) [a'] [] _ => decide (x = "range") && mBlt M x && mE a M a' && !isStar a'
    | _ => false
  | .range2 a b, M, _, e => match e with
    | .Call (.Name x _) [a', b'] [] _ => decide (x = "range") && mBlt M x && mE a M a' && mE b M b' && !isStar a' && !isStar b'
    | _ => false
  | .enum a, M, t, e => match t, e with
    | .Tuple _ _ _, .Call (.Name x _) [a'] [] _ => decide (x = "enumerate") && mBlt M x && mE a M a' && !isStar a'
    | _, _ => false
  | .zip a b, M, t, e => match t, e with
    | .Tuple _ _ _, .Call (.Name x _) [a', b'] [] _ => decide (x = "zip") && mBlt M x && mE a M a' && mE b M b' && !isStar a' && !isStar b'
    | _, _ => false
end
end Mi
end

section
set_option Elab.async false
set_option linter.all false
set_option maxRecDepth 100000
set_option maxHeartbeats 4000000
set_option autoImplicit false
/-! Mi28: sorted by a key that is a def of the text. -/
namespace Mi
open PySem L2 RZ PySem.W PySem.Spec PySem.Calls PyProof.Rows
variable [TbT]
section
variable {X : Cx} {pins : List (Addr × Obj)} {σ : L2.St} {A : Around} {a kS : Addr} {e1 : Nat} {vs : List Value} {f : Value} {P : PySem.Fin → Shared → Prop} {E : Value → Shared → Prop}
def IntK (v : Value) (k : Int) : Prop := ∃ t, v = .int k t
theorem intK_reads {h : Heap} : ∀ {as : List Value} {ks : List Int}, EachIs IntK as ks → EachIs (fun v k => ∃ as, Reads h v k as) as (ks.map PyData.int)
  | _, _, .nil => .nil
  | _, _, .cons ⟨t, e⟩ r => by
    subst e
    exact .cons ⟨[], .int _ _⟩ (intK_reads r)
theorem intK_alike (ks : List Int) : AllAlike (ks.map PyData.int) := fun d hd d' hd' => by
  obtain ⟨i, _, rfl⟩ := List.mem_map.mp hd
  obtain ⟨j, _, rfl⟩ := List.mem_map.mp hd'
  rfl
theorem intK_sortable (ks : List Int) : Sortable (ks.map PyData.int) := .inr fun d hd => by
  obtain ⟨i, _, rfl⟩ := List.mem_map.mp hd
  exact ⟨fun z => (by cases z), fun xs z => (by cases z)⟩
/-- what is not tracked and no frame stays -/
def Kp (X : Cx) (s : Shared) (H : Hp) (s' : Shared) (H' : Hp) : Prop := ∀ b o, b ∉ frs X.stack → s.heap.get? b = some o → H b = none → s'.heap.get? b = some o ∧ H' b = none
theorem keyI_rest (J : Nat → List Int → Hp → Prop) {q : Addr} {fo : Obj} {s : Shared} {H : Hp} (I : Inv X pins σ H s) (ha : s.heap.get? a = some (seqObj "list" #[] e1)) (hk : s.heap.get? kS = some (seqObj "list" #[] 0)) (hq : s.heap.get? q = some fo) (hka : kS ≠ a) (hqa : q ≠ a) (hqk : q ≠ kS)
    (fa : ∀ H, H a = none → FpOk X pins H a) (fk : ∀ H, H kS = none → FpOk X pins H kS) (ra : a ∉ frs X.stack) (rk : kS ∉ frs X.stack) (rq : q ∉ frs X.stack) (nA : H a = none) (nK : H kS = none) (nQ : H q = none) (h0 : J 0 [] H) (hZ : vs.length ≤ sizeLine) (hu : A.units + 1 < cLine)
    (turn : ∀ (j : Nat) (v : Value) (s : Shared) (H : Hp) (ks : List Int), vs[j]? = some v → Inv X pins σ H s → s.heap.get? q = some fo → H q = none → J j ks H →
      wpAny (model X.prog X.w) A (call f [v]) (fun u s' => ∃ k H', IntK u k ∧ Inv X pins σ H' s' ∧ J (j + 1) (ks ++ [k]) H' ∧ Kp X s H s' H') (fun _ _ => False) s)
    (fin : ∀ (s' : Shared) (H' : Hp) (ks : List Int) (out : List Value) (c : Nat), Inv X pins σ H' s' → H' a = none → J vs.length ks H' → ks.length = vs.length → s'.heap.get? a = some (seqObj "list" out.toArray c) → KeyedOut false (ks.map PyData.int) vs out → P (.done (.ret .none)) s') :
    wpAny (model X.prog X.w) A (ksk_rest a f false vs.toArray e1 (.ref kS)) P E s := by
  unfold ksk_rest
  refine wpAny_bind (wpAny_rule ?_)
  first
    | rw [List.forIn_toArray]
    | (rw [← Array.forIn_toList]; simp only [List.toList_toArray])
    | rw [← Array.forIn_toList]
  refine wpAny_bind (ksk_fold (fun i s' => ∃ H' kA e ks, Inv X pins σ H' s' ∧ H' a = none ∧ H' kS = none ∧ H' q = none ∧ J i ks H' ∧ s'.heap.get? kS = some (seqObj "list" kA e) ∧ s'.heap.get? a = some (seqObj "list" #[] e1) ∧ s'.heap.get? q = some fo ∧ EachIs IntK kA.toList ks ∧ ks.length = i) vs 0 s
    ⟨H, #[], 0, [], I, nA, nK, nQ, h0, hk, ha, hq, EachIs.nil, rfl⟩ ?step ?done)
  case step =>
    rintro j x s' hx ⟨H', kA, e, ks, I', nA', nK', nQ', hJ, nk', na', hq', hks, hl⟩
    simp only [Nat.zero_add] at hJ hl ⊢
    have hj : j < vs.length := (List.getElem?_eq_some_iff.mp hx).1
    have hz : kA.size ≤ vs.length := by
      have h1 := hks.length
      rw [Array.length_toList] at h1
      omega
    refine wpAny_bind (wpAny_attempt (wpAny_mono (turn j x s' H' ks hx I' hq' nQ' hJ) (fun v s'' he => ?_) fun _ _ hF => hF.elim))
    obtain ⟨k, H2, hv, I2, hJ2, kp⟩ := he
    try dsimp only
    obtain ⟨nk2, nK2⟩ := kp kS _ rk nk' nK'
    obtain ⟨na2, nA2⟩ := kp a _ ra na' nA'
    obtain ⟨hq2, nQ2⟩ := kp q _ rq hq' nQ'
    have s1 := Heap.SameBut.update s''.heap kS (Obj.mapSeq (·.push v))
    obtain ⟨c2, hc2⟩ : ∃ c2, (s''.heap.update kS (Obj.mapSeq (·.push v))).get? kS = some (seqObj "list" (kA.push v) c2) := ⟨_, get?_update_seq nk2 (·.push v)⟩
    refine wpAny_bind (listUpdate_at nk2 rfl ?_ (Nat.le_trans hz hZ) (Nat.le_trans (Nat.le_of_eq (Array.size_push ..)) (Nat.succ_le_succ (Nat.le_trans hz hZ))))
    refine wpAny_pure ⟨rfl, H2, kA.push v, c2, ks ++ [k], ?_, nA2, nK2, nQ2, hJ2, hc2, (s1.2 a hka.symm).trans na2, (s1.2 q hqk).trans hq2, ?_, by rw [List.length_append, hl]; rfl⟩
    · exact I2.turnedL (t' := s''.toks) (ch := [kS]) (fun b o hb q => (s1.2 b (by simpa using hb)).trans q) fun b hb => by
        rw [List.mem_singleton.mp hb]
        exact fk H2 nK2
    · have ea : (kA.push v).toList = kA.toList ++ [v] := by simp
      rw [ea]
      exact each_snoc hv hks
  case done =>
    rintro s' ⟨H', kA, e, ks, I', nA', nK', nQ', hJ, nk', na', hq', hks, hl⟩
    simp only [Nat.zero_add] at hJ hl
    have hsz : kA.size = vs.length := by
      have h1 := hks.length
      rw [Array.length_toList] at h1
      omega
    try dsimp only
    refine wpAny_bind (listItems_at nk' rfl ?_)
    obtain ⟨G, g1, g2⟩ := restrict s'.heap fun b => !decide (b = kS)
    have gk : G.get? kS = none := g2 kS (by simp)
    have gb : ∀ b, b ≠ kS → G.get? b = s'.heap.get? b := fun b hb => g1 b (by simp [hb])
    have kp : KeepsBut a G s'.heap := fun b o _ q => by
      by_cases z : b = kS
      · rw [z, gk] at q; cases q
      · rw [← gb b z]; exact q
    have hread := intK_reads (h := s'.heap) hks
    refine keyH_end (κ := dataKind s'.heap (ks.map PyData.int)) (h₁ := G) kp gk nk' na' hka (SortsAt.data (s := s') hread (intK_alike ks) (intK_sortable ks) fun d hd => ?_) hsz hZ fun h3 tk3 c k3 n3 => ?_
    · obtain ⟨i, _, rfl⟩ := List.mem_map.mp hd
      show A.units + 0 < cLine
      omega
    · refine fin _ H' ks _ c (I'.turnedL (t' := tk3) (ch := [a, kS]) (fun b o hb q => ?_) fun b hb => ?_) nA' hJ (by rw [hl]) n3 ⟨s'.heap, kA.toList, intK_alike ks, rfl, hread⟩
      · rw [List.mem_cons, List.mem_singleton, not_or] at hb
        exact k3 b o hb.1 ((gb b hb.2).trans q)
      · rcases List.mem_cons.mp hb with z | z
        · rw [z]; exact fa H' nA'
        · rw [List.mem_singleton.mp z]; exact fk H' nK'
/-- the list that is there at a, tracked from now on -/
theorem Inv.adopt {H : Hp} {s : Shared} {a : Addr} {xs : List V} (I : Inv X pins σ H s) (f : FpOk X pins H a) (new : ObjOk X.prog X.w (upd H a (.lst xs)) s.heap a (.lst xs)) : Inv X pins σ (upd H a (.lst xs)) s := by
  obtain ⟨f0, f1, f2, f3, f4, f5⟩ := f
  have na : ∀ {b u}, H b = some u → b ≠ a := fun {b u} e z => by rw [z, f0] at e; cases e
  refine I.step (h' := s.heap) (g' := s.gens) (d' := s.drawn) (t' := s.toks) (ch := [a]) (fun b hb => ?_) (fun b o _ _ _ e _ => e) (fun b o _ _ _ e _ => ⟨o.slots, e⟩) (fun b o hb e n => ?_) (fun b o _ e => ⟨o, e⟩) (fun b ys e => ?_) (fun b o u e => ?_) (fun b ps e => ⟨#[], ?_⟩) (fun m hm => hm) (fun b u e => ?_) I.bare
  · rw [List.mem_singleton.mp hb]
    exact ⟨f3, f1, f4, f5⟩
  · rw [upd_ne (by simpa using hb)]; exact n
  · rw [upd_ne (na e)]; exact e
  · rw [upd_ne (na e)]; exact e
  · rw [upd_ne (na e), e]; simp
  · by_cases z : b = a
    · subst z
      rw [upd_same] at e
      cases e
      exact new
    · rw [upd_ne z] at e
      exact (I.hok b u e).stay (fun d v _ q => q) (fun d q => by rw [upd_ne (na q)]; exact q) fun d ys q => by rw [upd_ne (na q)]; exact q
theorem Inv.frS {H : Hp} {s : Shared} (I : Inv X pins σ H s) {b : Addr} (f : FpOk X pins H b) : b ∉ frs X.stack := fun z => by
  rcases List.mem_cons.mp (I.stkSub _ z) with e | e
  · exact f.2.1 e
  · exact f.2.2.1 e
theorem fpOk_any {H H' : Hp} {b : Addr} (f : FpOk X pins H b) (n : H' b = none) : FpOk X pins H' b := ⟨n, f.2⟩
/-- the items sorted by their keys -/
theorem keyed_of {vs : List V} {us out : List Value} {ks : List Int} (r : Vals vs us) (hl : ks.length = us.length) (ko : KeyedOut false (ks.map PyData.int) us out) : Vals (((vs.zip ks).mergeSort fun p q => decide (p.2 ≤ q.2)).map (·.1)) out := by
  have hvl := r.length
  have hR : EachIs (fun (u : Value) (p : V × Int) => RelV p.1 u) us (vs.zip ks) := by
    clear ko
    induction r generalizing ks with
    | nil => exact .nil
    | @cons v u vs us h t ih =>
      cases ks with
      | nil => cases hl
      | cons k ks => exact .cons h (ih (by simpa using hl) t.length)
  have hm : (vs.zip ks).map (fun p => PyData.int p.2) = ks.map PyData.int := by
    have z := congrArg (List.map PyData.int) (List.map_snd_zip (l₁ := vs) (l₂ := ks) (by omega))
    rw [List.map_map] at z
    exact z
  rw [← hm] at ko
  have h := keyedOut_each (fun p : V × Int => PyData.int p.2) ko hR
  have e : (vs.zip ks).mergeSort (dataLe false fun p : V × Int => PyData.int p.2) = (vs.zip ks).mergeSort fun p q => decide (p.2 ≤ q.2) := by
    congr 1
    funext p q
    show (!(PyProof.Rows.lexLt itemOrd [Sum.inl q.2] [Sum.inl p.2])) = decide (p.2 ≤ q.2)
    have z : PyProof.Rows.lexLt itemOrd [Sum.inl q.2] [Sum.inl p.2] = decide (q.2 < p.2) := by
      unfold PyProof.Rows.lexLt
      show (decide (q.2 < p.2) || _) = _
      unfold PyProof.Rows.lexLt
      simp
    rw [z]
    by_cases h : p.2 ≤ q.2
    · rw [decide_eq_true h, decide_eq_false (by omega)]; rfl
    · rw [decide_eq_false h, decide_eq_true (by omega)]; rfl
  rw [e] at h
  generalize (vs.zip ks).mergeSort (fun p q => decide (p.2 ≤ q.2)) = l at h
  clear e ko hR
  induction h with
  | nil => exact .nil
  | cons h t ih => exact .cons h ih
/-- sorted(xs, key=f), f's calls told at the hand layer -/
theorem sorted_keyI {l q : Addr} {fo : Obj} {xs : List V} {s : Shared} {H : Hp} {Q : VK} (J : Nat → List Int → Hp → Prop) (I : Inv X pins σ H s) (hl : SqL X.K H l xs) (hq : s.heap.get? q = some fo) (rq : q ∉ frs X.stack) (nQ : H q = none) (h0 : J 0 [] H) (hu : X.A.units + 3 < cLine)
    (turn : ∀ (j : Nat) (x : V) (v : Value) (s : Shared) (H : Hp) (ks : List Int), xs[j]? = some x → RelV x v → Inv X pins σ H s → s.heap.get? q = some fo → H q = none → J j ks H →
      wpAny (model X.prog X.w) X.A.in1.in1 (call (.ref q) [v]) (fun u s' => ∃ k H', IntK u k ∧ Inv X pins σ H' s' ∧ J (j + 1) (ks ++ [k]) H' ∧ Kp X s H s' H') (fun _ _ => False) s)
    (fin : ∀ (H' : Hp) (ks : List Int) (p : Addr), J xs.length ks H' → ks.length = xs.length → H' p = none → Q (.ref p) (upd H' p (.lst (((xs.zip ks).mergeSort fun p q => decide (p.2 ≤ q.2)).map (·.1))))) :
    wpAny (model X.prog X.w) X.A (call (.builtin "sorted") [.ref l] [(Str.ofString "key", .ref q)]) (EP X pins σ Q) X.xe s := by
  obtain ⟨its, rv, pl, hz⟩ := I.list hl
  have hlen := rv.length
  have hsz : its.length ≤ sizeLine := by rw [← hlen]; exact hz
  refine sorted_of_sort (vs := its) pl.isList hsz (ksk_s1 _ _) (fun _ => ksk_l1 _ _) fun E' => ?_
  rw [ksk_t1]
  have hcs : (copyHeap s.heap its).objs.size = s.heap.objs.size + 2 := by
    show (((s.heap.push (seqObj "list" #[] 0)).update s.heap.objs.size (Obj.mapSeq (· ++ its.toArray))).push (seqObj "list" its.toArray 0)).objs.size = _
    rw [size_push', Heap.size_update, size_push']
  have I1 : Inv X pins σ H { s with heap := copyHeap s.heap its } := I.kept (t' := s.toks) fun b o e => copyHeap_old e
  have nA : H (s.heap.objs.size + 1) = none := I.hok.fresh (Nat.le_succ _)
  have ho := copyHeap_at s.heap its
  have hqlt : q < s.heap.objs.size := Heap.lt_size hq
  have hqa : q ≠ s.heap.objs.size + 1 := Nat.ne_of_lt (Nat.lt_succ_of_lt hqlt)
  have hqk : q ≠ s.heap.objs.size + 3 := Nat.ne_of_lt (Nat.lt_of_lt_of_le hqlt (Nat.le_add_right _ _))
  have hka : s.heap.objs.size + 3 ≠ s.heap.objs.size + 1 := by omega
  have fA : FpOk X pins H (s.heap.objs.size + 1) := I.fpOk (Nat.le_succ _) nA
  obtain ⟨e1, ho1⟩ : ∃ e1, ((copyHeap s.heap its).update (s.heap.objs.size + 1) (Obj.mapSeq fun _ => (#[] : Array Value))).get? (s.heap.objs.size + 1) = some (seqObj "list" #[] e1) := ⟨_, get?_update_seq ho fun _ => #[]⟩
  have hkS : (((copyHeap s.heap its).update (s.heap.objs.size + 1) (Obj.mapSeq fun _ => (#[] : Array Value))).push (seqObj "tuple" its.toArray 0)).objs.size = s.heap.objs.size + 3 := by rw [size_push', Heap.size_update, hcs]
  unfold ksk_tree
  refine wpAny_bind (listItems_at ho rfl ?_)
  refine wpAny_bind (listUpdate_at ho rfl ?_ (by rw [List.size_toArray]; exact hsz) (Nat.zero_le _))
  refine wpAny_bind (seqEpoch_at ho1 rfl ?_)
  refine wpAny_bind (wpAny_newTuple ?_ (by show its.length ≤ _; exact hsz))
  refine wpAny_bind (wpAny_newList ?_ (Nat.zero_le _))
  refine wpAny_holding ?_
  have kp : ∀ b o, b ≠ s.heap.objs.size + 1 → s.heap.get? b = some o → (sortingHeap (copyHeap s.heap its) (s.heap.objs.size + 1) its).get? b = some o := fun b o hb e => sortingHeap_old hb (copyHeap_old e)
  have I2 : Inv X pins σ H { s with heap := sortingHeap (copyHeap s.heap its) (s.heap.objs.size + 1) its } := L2.Inv.turnedL (s := { s with heap := copyHeap s.heap its }) (h' := sortingHeap (copyHeap s.heap its) (s.heap.objs.size + 1) its) (t' := s.toks) (ch := [s.heap.objs.size + 1]) I1 (fun b o hb e => sortingHeap_old (by simpa using hb) e) fun b hb => by
    rw [List.mem_singleton.mp hb]
    exact fA
  have nK : H (s.heap.objs.size + 3) = none := I.hok.fresh (by omega)
  have fK : FpOk X pins H (s.heap.objs.size + 3) := I.fpOk (by omega) nK
  show wpAny (model X.prog X.w) X.A.in1.in1 (ksk_rest (s.heap.objs.size + 1) (.ref q) false its.toArray e1 (.ref (((copyHeap s.heap its).update (s.heap.objs.size + 1) (Obj.mapSeq fun _ => (#[] : Array Value))).push (seqObj "tuple" its.toArray 0)).objs.size)) _ _ { s with heap := sortingHeap (copyHeap s.heap its) (s.heap.objs.size + 1) its }
  rw [hkS]
  refine keyI_rest (q := q) (fo := fo) J I2 (Heap.get?_push_of_some _ (Heap.get?_push_of_some _ ho1)) ?_ (kp q fo hqa hq) hka hqa hqk (fun H' n => fpOk_any fA n) (fun H' n => fpOk_any fK n) (Mi.Inv.frS I fA) (Mi.Inv.frS I fK) rq nA nK nQ h0 hsz (by show X.A.units + 1 + 1 + 1 < cLine; omega)
    (fun j v s H ks hv I hq nq hJ => ?_) fun s' H' ks out c I' nA' hJ hkl hD ko => ?_
  · have z := Heap.get?_push_size (((copyHeap s.heap its).update (s.heap.objs.size + 1) (Obj.mapSeq fun _ => (#[] : Array Value))).push (seqObj "tuple" its.toArray 0)) (o := seqObj "list" #[] 0) rfl
    rw [hkS] at z
    exact z
  · obtain ⟨x, hx, rx⟩ : ∃ x, xs[j]? = some x ∧ RelV x v := by
      have hj : j < xs.length := by rw [hlen]; exact (List.getElem?_eq_some_iff.mp hv).1
      obtain ⟨u, h1, h2⟩ := rv.get (List.getElem?_eq_getElem hj)
      rw [hv] at h1
      cases h1
      exact ⟨_, List.getElem?_eq_getElem hj, h2⟩
    exact turn j x v s H ks hx rx I hq nq hJ
  · refine ⟨rfl, ?_⟩
    have r2 := keyed_of rv hkl ko
    rw [← hlen] at hJ
    have hz2 : (((xs.zip ks).mergeSort fun p q => decide (p.2 ≤ q.2)).map (·.1)).length ≤ sizeLine := by
      rw [List.length_map, List.length_mergeSort, List.length_zip]
      omega
    refine ⟨.ref (s.heap.objs.size + 1), _, Inv.adopt I' (fpOk_any fA nA') ⟨hz2, out, c, r2, hD⟩, rfl, fin H' ks _ hJ (by omega) nA'⟩
end
end Mi
end

section
set_option Elab.async false
set_option linter.all false
set_option maxRecDepth 100000
set_option maxHeartbeats 4000000
set_option autoImplicit false
/-! Mi29: sorted by a lambda of one parameter. -/
namespace Mi
open PySem L2 RZ PySem.W PySem.Spec PySem.Calls PyProof.Rows LamX
/-- a lambda's names: its parameter y, captured ones, globals -/
structure LamP (N : List Str) (sc scope : Scope) (p : Nat) (y : Str) : Prop where
  kind : scope.kind = .function
  co : scope.isCoroutine = false
  gen : scope.isGenerator = false
  par : scope.names.lookup y = some .local
  idx : N[p]? = some y
  own : ∀ z ∈ scope.names, z.2 ≠ .cell ∧ (z.2 = .local → z.1 = y)
  free : ∀ z ∈ scope.names, z.2 = .free → sc.names.lookup z.1 = some .cell ∨ sc.names.lookup z.1 = some .free
theorem lamP_by {N : List Str} {sc scope : Scope} {p : Nat} {y : Str} (h : lamC N sc scope p y = true) : LamP N sc scope p y := by
  unfold lamC at h
  simp only [Bool.and_eq_true, Bool.or_eq_true, Bool.not_eq_true', decide_eq_true_eq, decide_eq_false_iff_not, List.all_eq_true] at h
  obtain ⟨⟨⟨⟨⟨h1, h2⟩, h3⟩, h4⟩, h5⟩, h6⟩ := h
  refine ⟨h1, h2, h3, h4, h5, fun z hz => ⟨(h6 z hz).1.1, fun e => ?_⟩, fun z hz e => ?_⟩
  · rcases (h6 z hz).1.2 with q | q
    · exact absurd e q
    · exact q
  · rcases (h6 z hz).2 with (q | q) | q
    · exact absurd e q
    · exact .inl q
    · exact .inr q
section
variable {X : Cx} {pins : List (Addr × Obj)} {σ : L2.St} {H : Hp} {s : Shared}
theorem LamP.has {scope : Scope} {p : Nat} {y : Str} (L : LamP X.N X.env.scope scope p y) (ok : X.Ok) : ∀ z ∈ scope.names, z.2 = .free → ∃ c, X.env.cells.lookup z.1 = some c := fun z hz e => by
  rcases L.free z hz e with k | k
  · exact ok.has _ (.inl k)
  · exact ok.has _ (.inr k)
/-- at the entry of the lambda's body -/
theorem lam_in {A : Around} {E : XK} {scope : Scope} {f c' : Addr} {p : Nat} {y : Str} {h₁ : Heap} {tk : Nat} {v : V} {u : Value} (I : Inv X pins σ H s) (nd : X.N.Nodup) (L : LamP X.N X.env.scope scope p y) (e0 : Env0 X.prog X.w X.K X.mg X.base A X.stack s H) (hd : A.handled = none)
    (r : RelV v u) (hns : h₁.Ns s.heap.objs.size fun z => [(y, u)].reverse.lookup z) (kp : ∀ b o, s.heap.get? b = some o → h₁.get? b = some o) :
    Inv (lamCx X A X.stack s H E scope f c') [] (σ.set p (some v)) H { s with heap := h₁, toks := tk } := by
  have hfree := L.has I.ok
  have cm : ∀ {z c}, (cloFrom X.env.cells scope.names []).lookup z = some c → X.env.cells.lookup z = some c := fun {z c} e => by
    rcases cloFrom_mem (PySem.mem_of_lookup e) with hm | ⟨h1, h2⟩
    · cases hm
    · obtain ⟨c1, hc⟩ := hfree _ h1 rfl
      have hc : X.env.cells.lookup z = some c1 := hc
      have e2 : c = c1 := by
        rw [h2, hc] <;> rfl
      rw [e2]
      exact hc
  have look : ∀ {z}, scope.names.lookup z = some .free → ∃ c, (cloFrom X.env.cells scope.names []).lookup z = some c := fun {z} hl => by
    have hy : (z, NameKind.free) ∈ scope.names := PySem.mem_of_lookup hl
    exact mem_lookup (cloFrom_has (cells := X.env.cells) (acc := []) hy)
  have cellK : ∀ {c : Addr} {v : Option Value}, s.heap.IsCell c v → h₁.IsCell c v := fun {c v} ⟨o, ho, hd⟩ => ⟨o, kp _ _ ho, hd⟩
  have noA : ∀ b : Addr, b ∉ (lamCx X A X.stack s H E scope f c').ex := fun b z => absurd (show b ∈ ([] : List Addr) from z) (by simp)
  have hp : p < σ.length := by
    rw [I.len]
    exact (List.getElem?_eq_some_iff.mp L.idx).1
  refine ⟨⟨e0.mod, L.kind, rfl, rfl, Nat.le_refl _, fun y z c e1 e2 => I.ok.inj y z c (cm e1) (cm e2), fun z hy => ?_, fun y c z _ => ?_, fun _ => hd, Around.frames_deeper e0.frames, .inr ⟨rfl, rfl⟩, fun b z => absurd z (noA b), e0.bs, e0.bsz, fun b _ _ => noA b,
      fun b z => absurd z (noA b), e0.funs, e0.frf⟩,
    rfl, e0.bare, Un.kept kp, ⟨_, hns, fun i z v' e1 e2 e3 => ?_⟩, fun z c e => ?_, e0.hok.fresh (Nat.le_refl _), fun z c e => ?_, fun q hq => absurd (show q ∈ ([] : List (Addr × Obj)) ++ [] from hq) (by simp), e0.hok.kept kp, by rw [List.length_set]; exact I.len⟩
  · have hy : scope.names.lookup z = some .cell ∨ scope.names.lookup z = some .free := hy
    rcases hy with hy | hy
    · exact absurd rfl (L.own _ (PySem.mem_of_lookup hy)).1
    · exact look hy
  · have z : false = true := z
    cases z
  · have e3 : Vis scope z := e3
    have e1 : X.N[i]? = some z := e1
    by_cases hi : p = i
    · subst hi
      rw [L.idx] at e1
      cases e1
      rw [List.getElem?_set_self hp] at e2
      cases e2
      exact ⟨u, r, .inl ⟨L.par, by simp⟩⟩
    · rw [List.getElem?_set_ne hi] at e2
      rcases e3 with k | k | k
      · have ez := (L.own _ (PySem.mem_of_lookup k)).2 rfl
        have ez : z = y := ez
        subst ez
        exact absurd ((List.getElem?_inj (List.getElem?_eq_some_iff.mp L.idx).1 nd).mp (L.idx.trans e1.symm)) hi
      · exact absurd rfl (L.own _ (PySem.mem_of_lookup k)).1
      · obtain ⟨m, hn, hl⟩ := I.loc
        have hvis : Vis X.env.scope z := (L.free _ (PySem.mem_of_lookup k) rfl).elim (fun k => .inr (.inl k)) (fun k => .inr (.inr k))
        obtain ⟨w', r', q⟩ := hl i z v' e1 e2 hvis
        obtain ⟨c2, h2⟩ := look k
        refine ⟨w', r', .inr ⟨.inr k, c2, h2, ?_⟩⟩
        have c1 := cm h2
        rcases q with ⟨k', _⟩ | ⟨_, c3, e', z⟩
        · have k' : X.env.scope.names.lookup z = some .local := k'
          rcases L.free _ (PySem.mem_of_lookup k) rfl with k2 | k2 <;> rw [show X.env.scope.names.lookup z = _ from k2] at k' <;> cases k'
        · rw [c1] at e'
          cases e'
          exact cellK z
  · obtain ⟨w', z⟩ := I.cell z c (cm e)
    exact ⟨w', cellK z⟩
  · exact I.freeC z c (cm e)
/-- the lambda called by sorted -/
theorem lam_call {params : Arguments} {body : Expr} {scope : Scope} {pm ctv : Value} {f c' : Addr} {p k : Nat} {y : Str} {t : TE} {Q : VK} {v : V} {u : Value} (I : Inv X pins σ H s) (nd : X.N.Nodup) (L : LamP X.N X.env.scope scope p y)
    (hf : s.heap.get? f = some (PySem.W.kla_obj "<lambda>" (X.env.qual ++ "<lambda>") params body scope (cloFrom X.env.cells scope.names []) pm c' ctv)) (hc : H c' = some (CodeO c' (X.env.qual ++ "<lambda>"))) (hr : Room (k + 3) X.A)
    (hbind : ∀ (q : Str) (cl : List (Str × Addr)) (pm cv ctv u : Value), bindArgs (PySem.W.kla_fn "<lambda>" q params body scope cl pm cv ctv) ⟨[u], []⟩ = pure [(y, u)]) (r : RelV v u)
    (hbody : Room k (X.A.in1.in1.deeper (lamEnv X scope s.heap.objs.size f c')) → PE (lamCx X X.A.in1.in1 X.stack s H (fun _ _ _ => False) scope f c') body t) (h : t (σ.set p (some v)) H Q) :
    wpAny (model X.prog X.w) X.A.in1.in1 (call (.ref f) [u]) (fun u' s' => ∃ v' H', Inv X pins σ H' s' ∧ RelV v' u' ∧ Q v' H' ∧ Kp X s H s' H') (fun _ _ => False) s := by
  have hr2 : Room (k + 1) X.A.in1.in1 := Room.in1 (Room.in1 hr)
  obtain ⟨⟨oc, vs, tq, hoc, hdc, hvc⟩, _, _⟩ := I.hok c' _ hc
  have rc : codeAny (model X.prog X.w) X.A.in1.in1 (.call (.ref f) ⟨[u], []⟩) (L2.CR (L2.CX X.prog X.w) X.stack X.prog X.w H s Q (fun _ _ _ => False)) s := by
    refine PySem.W.kla_callFunE hr2.depth hf rfl L.co L.gen rfl ⟨c', oc, vs, tq, rfl, hoc, hdc, hvc⟩ ?_
    rw [hbind]
    refine wpAny_pure (wpAny_newFunctionEnv (fun z hz => (L.own z hz).1) (fun z hz => ?_) (fun h₁ hns hsb => ⟨I.nolimit.fresh _ hsb, ?_⟩) L.kind)
    · rw [List.mem_singleton.mp hz]
      exact L.par
    · show codeAny _ _ (.expr body (lamEnv X scope s.heap.objs.size f c')) _ _
      have kp : ∀ b o, s.heap.get? b = some o → h₁.get? b = some o := fun b o e => hsb.extBut b o (Nat.ne_of_lt (Heap.lt_size e)) (Heap.get?_push_of_some _ e)
      have J : Inv (lamCx X X.A.in1.in1 X.stack s H (fun _ _ _ => False) scope f c') [] (σ.set p (some v)) H { s with heap := h₁, toks := s.toks + [(y, u)].length } :=
        lam_in I nd L I.env0.in1.in1 hr.hd r hns kp
      refine PySem.W.kla_codeExpr (wpAny_mono ((hbody (hr2.deeper _)).run [] _ _ H Q J h) (fun v s' hq => ?_) fun e s' hq => hq)
      obtain ⟨w', H', J', rv, q⟩ := hq
      exact ⟨w', H', J'.os, J'.bare, J'.base, J'.hok, rv, q⟩
  refine wpAny_call (codeAny_mono rc fun r s' hq => ?_)
  cases r with
  | error e =>
    obtain ⟨_, _, _, _, _, _, _, _, _, _, _, _, z⟩ := hq
    exact z.elim
  | ok fl =>
    cases fl with
    | ret u' =>
      obtain ⟨v0, H', os, bare, un, hok, r0, q⟩ := hq
      obtain ⟨v1, H1, I1, r1, e1, e2⟩ := I.after (Q := fun v H'' => v = v0 ∧ H'' = H') ⟨v0, H', os, bare, un, hok, r0, rfl, rfl⟩
      subst e1
      subst e2
      exact ⟨_, _, I1, r1, q, fun b o hb e n => ⟨un.keep b o e n hb (by simp), un.free b o e n (by simp)⟩⟩
    | next => exact False.elim hq
    | brk => exact False.elim hq
    | cont => exact False.elim hq
end
end Mi
end

section
set_option Elab.async false
set_option linter.all false
set_option maxRecDepth 100000
set_option maxHeartbeats 4000000
set_option autoImplicit false
/-! Mi30: sorted by a lambda: the node. -/
namespace Mi
open PySem L2 RZ PySem.W PySem.Spec PySem.Calls PyProof.Rows LamX
variable [TbT]
theorem bind_one {q : Str} {params : Arguments} {body : Expr} {scope : Scope} {cl : List (Str × Addr)} {pm cv ctv u : Value} {y : Str} (h : oneParam params = some y) : bindArgs (PySem.W.kla_fn "<lambda>" q params body scope cl pm cv ctv) ⟨[u], []⟩ = pure [(y, u)] := by
  unfold oneParam at h
  split at h
  · cases h
    have e : ∀ z : Str, (z == z) = true := fun z => beq_self_eq_true z
    simp [bindArgs, List.lookup, e, seqItems?]
    rfl
  · cases h
section
variable {X : Cx} {pins : List (Addr × Obj)} {σ : L2.St} {H : Hp} {s : Shared}
/-- the lambda is made; what was tracked is tracked still -/
theorem lam_make3 {T : List (Addr × Str)} {c P : Addr} {params : Arguments} {body : Expr} {scope : Scope} {pos : Pos} {E : Value → Shared → Prop} {Q : Value → Shared → Prop} (I : Inv X pins σ H s) (TB : TabB X.base X.mg c P) (hcode : X.env.code = .ref c)
    (hm : (P, X.env.qual ++ "<lambda>") ∈ T) (hu : ∀ p ∈ T, p.1 = P → p.2 = X.env.qual ++ "<lambda>") (hT : Tabs T H) (hdef : defaultsOf params X.env = ([], [])) (hfree : ∀ y ∈ scope.names, y.2 = .free → ∃ c, X.env.cells.lookup y.1 = some c)
    (h : ∀ (f c' : Addr) (pm ctv : Value) (H1 : Hp) (s' : Shared), Inv X pins σ H1 s' → ExtN H H1 → (∀ b, H b ≠ none → H1 b ≠ none) → Tabs T H1 →
      s'.heap.get? f = some (PySem.W.kla_obj "<lambda>" (X.env.qual ++ "<lambda>") params body scope (cloFrom X.env.cells scope.names []) pm c' ctv) → H1 f = none → f ∉ frs X.stack → H1 c' = some (CodeO c' (X.env.qual ++ "<lambda>")) → Q (.ref f) s') :
    wpAny (model X.prog X.w) X.A (eval (.Lambda params body scope pos) X.env) Q E s := by
  obtain ⟨ps, hP, ht, ha⟩ := hT _ hm
  refine PySem.W.kla_eval hdef ?_
  have bP : s.heap.BuiltinsAt X.mg P := TB.bm.keeps I.bk
  have hP' : s.heap.get? P = some { cls := .none, data := .fields ps } := I.hok P _ hP
  have nofr : ∀ f, s.heap.objs.size ≤ f → f ∉ frs X.stack := fun f hf => Mi.Inv.frS I (I.fpOk hf (I.hok.fresh hf))
  cases hc : codeAmong pos ps.toList with
  | none =>
    refine PySem.W.kla_makeFunction (mg := X.mg) (c := c) (P := P) (ps := ps) (closure_ok hfree) I.ok.glob (I.mod.glob.keeps I.bk) hcode (TB.code.keeps I.bk) hP' ht hc TB.gP bP fun c' ctv h' tk hx hge hlt hrec htb => ?_
    obtain ⟨c2, oc, vs, t, e2, hoc, hd, hv⟩ := hrec
    cases e2
    have hsz : s.heap.objs.size ≤ h'.objs.size := Nat.le_trans hge (Nat.le_of_lt hlt)
    have nC : H c' = none := I.hok.fresh hge
    have I1 := inv_table (t' := tk) (more := #[rawInt pos.line, rawInt pos.col, .ref c']) (h' := h'.push (PySem.W.kla_obj "<lambda>" (X.env.qual ++ "<lambda>") params body scope (cloFrom X.env.cells scope.names []) ((X.mg "__name__").getD .none) c' ctv)) I hP
      (fun b o hb e => Heap.get?_push_of_some _ (hx b o hb e)) (Heap.get?_push_of_some _ htb) hge ⟨oc, vs, t, Heap.get?_push_of_some _ hoc, hd, hv⟩
    have hE : ExtN H (upd (upd H P (.tbl (ps ++ #[rawInt pos.line, rawInt pos.col, .ref c']))) c' (CodeO c' (X.env.qual ++ "<lambda>"))) := fun b o e n => by
      rw [upd_ne (ne_of_none e nC), upd_ne (fun z => n ps (Option.some.inj (e.symm.trans (by rw [z]; exact hP))))]
      exact e
    have hN : ∀ b, H b ≠ none → upd (upd H P (.tbl (ps ++ #[rawInt pos.line, rawInt pos.col, .ref c']))) c' (CodeO c' (X.env.qual ++ "<lambda>")) b ≠ none := fun b n => by
      by_cases z : b = c'
      · rw [z, upd_same]; exact nofun
      · by_cases z2 : b = P
        · rw [upd_ne z, z2, upd_same]; exact nofun
        · rw [upd_ne z, upd_ne z2]; exact n
    have eL : (ps ++ #[rawInt pos.line, rawInt pos.col, .ref c']).toList = ps.toList ++ [rawInt pos.line, rawInt pos.col, .ref c'] := by simp
    refine h h'.objs.size c' ((X.mg "__name__").getD .none) ctv _ _ I1 hE hN (fun p hp => ?_) (Heap.get?_push_size _ rfl) ?_ (nofr _ hsz) upd_same
    · by_cases hb : p.1 = P
      · rw [hu p hp hb, hb]
        refine ⟨_, by rw [upd_ne (ne_of_none hP nC), upd_same], by rw [eL]; exact PySem.TriplesOk_snoc _ _ _ _ ht, fun p' cv hcv => ?_⟩
        rw [eL] at hcv
        rcases among_app _ ht hcv with z | z
        · obtain ⟨c0, e1, e2⟩ := ha p' cv z
          exact ⟨c0, e1, hE _ _ e2 codeO_ne⟩
        · exact ⟨c', z, upd_same⟩
      · obtain ⟨ps', a1, a2, a3⟩ := hT p hp
        refine ⟨ps', by rw [upd_ne (ne_of_none a1 nC), upd_ne hb]; exact a1, a2, fun p' cv hcv => ?_⟩
        obtain ⟨c0, e1, e2⟩ := a3 p' cv hcv
        exact ⟨c0, e1, hE _ _ e2 codeO_ne⟩
    · have n1 : h'.objs.size ≠ c' := Nat.ne_of_gt hlt
      have n2 : h'.objs.size ≠ P := Nat.ne_of_gt (Nat.lt_of_lt_of_le (Heap.lt_size hP') hsz)
      rw [upd_ne n1, upd_ne n2]
      exact I.hok.fresh hsz
  | some cv =>
    obtain ⟨c', e, hco⟩ := ha pos cv hc
    subst e
    refine PySem.W.kla_makeFunctionHit (mg := X.mg) (c := c) (P := P) (ps := ps) (closure_ok hfree) I.ok.glob (I.mod.glob.keeps I.bk) hcode (TB.code.keeps I.bk) hP' ht hc bP fun ctv h' tk hx hsz => ?_
    have I1 : Inv X pins σ H { s with heap := h'.push (PySem.W.kla_obj "<lambda>" (X.env.qual ++ "<lambda>") params body scope (cloFrom X.env.cells scope.names []) ((X.mg "__name__").getD .none) c' ctv), toks := tk } := I.kept fun b o e => Heap.get?_push_of_some _ (hx b o e)
    exact h h'.objs.size c' ((X.mg "__name__").getD .none) ctv H _ I1 (ExtN.refl H) (fun _ n => n) hT (Heap.get?_push_size _ rfl) (I.hok.fresh hsz) (nofr _ hsz) hco
end
section
variable {K : PySem.W.Frag} {F : Fp} {H H' : Hp} {e : En} {σ : L2.St}
theorem Rel.extN (R : Rel K F e σ H) (x : ExtN H H') (t : Tabs TbT.T H') : Rel K F e σ H' := by
  refine ⟨fun a u q => x a u (R.sub a u q) fun ps z => R.ntb a ps (by rw [q, z]), R.len, R.val, R.sl, fun i o q => ?_, R.inj, t, R.ntb⟩
  obtain ⟨a, h1, h2, ho, h3, h4⟩ := R.own i o q
  exact ⟨a, h1, h2, ho, x a ho h3 h4.ntb, h4⟩
theorem extN_ext (x : ExtN H H') (n : ∀ b, H b ≠ none → H' b ≠ none) : Ext F H F H' := ⟨Fle.refl _, fun _ _ => rfl, fun b o q _ t => x b o q t, n, fun _ h => .inl h, rfl⟩
/-- two lists sorted by one list of keys stay side by side -/
theorem reps_sorted {xs : List V} {ds : List D} {ks : List Int} (r : Reps K F xs ds) (hl : ks.length = xs.length) : Reps K F (((xs.zip ks).mergeSort fun p q => decide (p.2 ≤ q.2)).map (·.1)) (keyed ds ks) := by
  have hT : ∃ T : List ((V × D) × Int), T.map (fun t => (t.1.1, t.2)) = xs.zip ks ∧ T.map (fun t => (t.1.2, t.2)) = ds.zip ks ∧ ∀ t ∈ T, Rep K F t.1.1 t.1.2 := by
    clear hl
    induction xs generalizing ds ks with
    | nil =>
      cases r
      exact ⟨[], rfl, rfl, fun t h => by cases h⟩
    | cons x xs ih =>
      cases r with
      | cons h r =>
        cases ks with
        | nil => exact ⟨[], rfl, rfl, fun t h => by cases h⟩
        | cons k ks =>
          obtain ⟨T, h1, h2, h3⟩ := ih r (ks := ks)
          refine ⟨((_, _), k) :: T, by rw [List.map_cons, h1, List.zip_cons_cons], by rw [List.map_cons, h2, List.zip_cons_cons], fun t ht => ?_⟩
          rcases List.mem_cons.mp ht with z | z
          · rw [z]; exact h
          · exact h3 t z
  obtain ⟨T, h1, h2, h3⟩ := hT
  unfold keyed
  rw [← h1, ← h2, ← List.map_mergeSort (r := fun t u : (V × D) × Int => decide (t.2 ≤ u.2)) (fun a _ b _ => rfl), ← List.map_mergeSort (r := fun t u : (V × D) × Int => decide (t.2 ≤ u.2)) (fun a _ b _ => rfl), List.map_map, List.map_map]
  have h4 : ∀ t ∈ T.mergeSort (fun t u => decide (t.2 ≤ u.2)), Rep K F t.1.1 t.1.2 := fun t ht => h3 t (List.mem_mergeSort.mp ht)
  generalize T.mergeSort (fun t u => decide (t.2 ≤ u.2)) = L at h4
  clear h3 h1 h2
  induction L with
  | nil => exact .nil
  | cons t L ih => exact .cons (h4 t (List.mem_cons_self ..)) (ih fun u hu => h4 u (List.mem_cons_of_mem _ hu))
theorem reps_at : ∀ {xs : List V} {ds : List D} {j : Nat} {x : V}, Reps K F xs ds → xs[j]? = some x → ∃ d, ds[j]? = some d ∧ Rep K F x d
  | _, _, 0, _, .cons h _, e => by cases e; exact ⟨_, rfl, h⟩
  | _, _, j + 1, _, .cons _ r, e => reps_at (j := j) r e
/-- the keys' run, one item on -/
theorem keys_step {f : D → List Own → R D} {d : D} {ds : List D} {st : List Own} {ks : List Int} {st' : List Own} (h : keysOf f (d :: ds) st = some (ks, st')) : ∃ i e1 kr, f d st = .ok (.int i) e1 ∧ keysOf f ds e1.st = some (kr, st') ∧ ks = i :: kr := by
  unfold keysOf at h
  split at h
  · rename_i i e1 hf
    cases q : keysOf f ds e1.st with
    | none => rw [q] at h; cases h
    | some p =>
      rw [q] at h
      cases h
      exact ⟨i, e1, p.1, hf, q, rfl⟩
  · cases h
end
section
variable {X : Cx} {C : Ct} {W : WX}
/-- sorted(a, key=lambda y: b) -/
theorem f_sortk {a b : CE} {p : Nat} {y : Str} {a' body : Expr} {params : Arguments} {scope : Scope} {p0 lp kp pos : Pos} (hg : Gl X "sorted") (hm : X.mg "sorted" = none) (ha : PE X a' (tI X.K C W a)) (hs : isStar a' = false) (nd : X.N.Nodup) (hr : Room 3 X.A)
    (hT : ∃ c P, TabB X.base X.mg c P ∧ X.env.code = .ref c ∧ (P, X.env.qual ++ "<lambda>") ∈ TbT.T ∧ ∀ p ∈ TbT.T, p.1 = P → p.2 = X.env.qual ++ "<lambda>") (L : LamP X.N X.env.scope scope p y) (hp1 : oneParam params = some y)
    (hbody : ∀ (s : Shared) (H : Hp) (f c' : Addr), PE (lamCx X X.A.in1.in1 X.stack s H (fun _ _ _ => False) scope f c') body (tI X.K C WF b)) :
    PE X (.Call (.Name "sorted" p0) [a'] [⟨some "key", .Lambda params body scope lp, kp⟩] pos) (tF X.K C W (.sortk a p b)) := by
  refine ⟨fun pins s σ H Q I h => ?_⟩
  obtain ⟨F, e, R, P⟩ := h
  refine wpAny_Call_Name_kw (ld_blt I hg hm rfl ?_)
  have hdef : defaultsOf params X.env = ([], []) := by
    unfold oneParam at hp1
    split at hp1
    · rfl
    · cases hp1
  obtain ⟨c, Pt, TB, hcode, hmT, hu⟩ := hT
  let QA : V → Hp → Prop := fun v H1 => ∃ F1 e1 d, Rel X.K F1 e1 σ H1 ∧ Ext F H F1 H1 ∧ Rep X.K F1 v d ∧ Post X.K C W F1 H1 σ (match res e1 d with
      | some (.lst ds) => if p < e1.vs.length then (match keysOf (fun d st => evE C.cs C.cal b ⟨e1.vs.set p (some d), st⟩) ds e1.st with
        | some (ks, st) => Mi.R.ok (D.lst (keyed ds ks)) { e1 with st := st }
        | none => .er) else .er
      | _ => .er) (fun (d : D) _ F' H' => ∀ p o ho, H p = none → H' p = some ho → F'.h p = none → p ∉ F'.al → d = o.d → RepO X.K F' ho o → Q (.ref p) H')
  have hA : wpAny (model X.prog X.w) X.A (eval a' X.env) (EP X pins σ QA) X.xe s :=
    ha.run pins s σ H QA I ⟨F, e, R, (Post.run P).mono fun d e1 F1 H1 _ R1 X1 P1 v rv => ⟨F1, e1, d, R1, X1, rv, P1⟩⟩
  have hse : starEach [a'] X.env = (false, eval a' X.env) :: starEach [] X.env := star_ok hs
  have hbt : backTo pos (starEach [a'] X.env) = (false, eval a' X.env) :: backTo pos (starEach [] X.env) := by rw [hse]; rfl
  refine PyProof.Rows.callWith_kw ?_ hbt (by rw [hbt]; rfl) rfl rfl
  rw [hbt]
  refine Calls.spliced_cons (L2.thn hA fun u s1 hq => Calls.spliced_nil ?_)
  obtain ⟨v, H1, I1, r1, F1, e1, d, R1, X1, rv, P1⟩ := hq
  refine PyProof.Rows.kws_cons (lam_make3 I1 TB hcode hmT hu R1.tab hdef (L.has I1.ok) fun f c' pm ctv H2 s2 I2 eN nN T2 hf hfn hfr hco => PyProof.Rows.kws_nil ?_)
  have R2 := R1.extN eN T2
  have X2 : Ext F1 H1 F1 H2 := extN_ext eN nN
  split at P1
  case h_2 => exact P1.elim
  rename_i ds hds
  split at P1
  case isFalse => exact P1.elim
  rename_i hp
  split at P1
  case h_2 => exact P1.elim
  rename_i ks stE hks
  obtain ⟨l, xs, rfl, hl, rx⟩ := (RepH.of_res R2 rv hds).lst_ R2.sub
  obtain rfl : u = Value.ref l := r1
  have hcal : c' ∉ F1.al := fun m => by
    obtain ⟨i, hi, e3⟩ := List.getElem_of_mem m
    have hi2 : i < e1.st.length := R2.sl ▸ hi
    obtain ⟨_, ho, h1, h2⟩ := R2.cell (i := i) (a := c') (o := e1.st[i]) (by rw [List.getElem?_eq_getElem hi, e3]) (by rw [List.getElem?_eq_getElem hi2])
    rw [hco] at h1
    cases h1
    cases h2
  refine sorted_keyI (q := f) (xs := xs) (fun j ka H' => ∃ F' st kr, Rel X.K F' ⟨e1.vs, st⟩ σ H' ∧ Ext F1 H2 F' H' ∧ keysOf (fun d st => evE C.cs C.cal b ⟨e1.vs.set p (some d), st⟩) (ds.drop j) st = some (kr, stE) ∧ ka ++ kr = ks) I2 hl hf hfr hfn
    ⟨F1, e1.st, ks, R2, .refl, hks, rfl⟩ (by have := hr.un; omega) (fun j x xv s3 H3 ka hx rxv I3 hf3 hn3 hJ => ?_) fun H3 ka p3 hJ hkl hn3 => ?_
  · obtain ⟨F3, st3, kr, R3, X3, hk3, he⟩ := hJ
    have hj : j < ds.length := by
      rw [← rx.length]
      exact (List.getElem?_eq_some_iff.mp hx).1
    obtain ⟨d3, hd3, rd3⟩ := reps_at rx hx
    have ed : ds.drop j = d3 :: ds.drop (j + 1) := by
      rw [List.drop_eq_getElem_cons hj]
      rw [List.getElem?_eq_getElem hj] at hd3
      rw [Option.some.inj hd3]
    rw [ed] at hk3
    obtain ⟨i, e4, kr', hev, hk4, rfl⟩ := keys_step hk3
    have hev : evE C.cs C.cal b ⟨e1.vs.set p (some d3), st3⟩ = .ok (.int i) e4 := hev
    refine wpAny_mono (lam_call (k := 0) (t := tI X.K C WF b) (Q := fun v' H' => v' = V.int i ∧ ∃ F', Rel X.K F' e4 (σ.set p (some x)) H' ∧ Ext F3 H3 F' H') I3 nd L hf3 (X3.keep c' _ hco hcal codeO_ne) hr (fun q cl pm cv ctv u => bind_one hp1) rxv (fun _ => hbody s3 H3 f c')
      ⟨F3, ⟨e1.vs.set p (some d3), st3⟩, R3.put (by unfold put; rw [if_pos hp]) (rd3.up X3.le), ?_⟩) (fun u' s4 hq => ?_) fun _ _ z => z
    · rw [hev]
      exact fun F' H' R' X' v rv => ⟨rv.int_, F', R', X'⟩
    · obtain ⟨v', H4, I4, r4, ⟨rfl, F4, R4, X4⟩, kp⟩ := hq
      exact ⟨i, H4, r4, I4, ⟨F4, e4.st, kr', R4.revs (X3.le.trans X4.le) R2.len R2.val, X3.trans X4, hk4, by rw [List.append_assoc]; exact he⟩, kp⟩
  · obtain ⟨F3, st3, kr, R3, X3, hk3, he⟩ := hJ
    have hdl := rx.length
    rw [hdl, List.drop_length] at hk3
    cases hk3
    rw [List.append_nil] at he
    subst he
    have XA := (X1.trans X2).trans X3
    have h0 : H p3 = none := by
      cases q : H p3 with
      | none => rfl
      | some u => exact absurd hn3 (XA.there p3 (by rw [q]; exact nofun))
    exact P1 F3 _ (R3.grow hn3) ((X2.trans X3).trans (grow_ext hn3)) p3 (.lst (keyed ds ka)) _ h0 upd_same (R3.fnone hn3) (R3.alne hn3) rfl (.lst (reps_sorted (rx.up X3.le) hkl))
end
end Mi
end

section
set_option Elab.async false
set_option linter.all false
set_option maxRecDepth 100000
set_option maxHeartbeats 8000000
set_option autoImplicit false
/-! Mi23: what is held against its terms does what they say: expressions. -/
namespace Mi
open PySem L2 RZ PySem.Spec PySem.Calls PyProof.Rows
variable [TbT]
/-- what must be true where a text is read -/
structure Good (X : Cx) (M : ME) (C : Ct) (W : WX) : Prop where
  calm : X.calm = true
  nd : X.N.Nodup
  N : X.N = M.N
  sc : X.env.scope = M.sc
  fn : ∀ x, X.fn x = M.fn x
  room : Room 0 X.A
  gd : X.A.guards = some []
  glb : ∀ (i : Nat) x, M.glb[i]? = some x → ∃ u v d, X.mg x = some u ∧ RelV v u ∧ C.cs[i]? = some d ∧ Rep X.K ⟨fun _ => none, [], []⟩ v d
  fns : ∀ (i : Nat) x np, M.fns[i]? = some (x, np) → ∃ f fd ps k, FnG X.prog X.w X.K X.mg X.base (L2.CX X.prog X.w) k f fd ps (spI X.K C np i) ∧ Room (k + if M.lm then 3 else 0) X.A ∧ X.mg x = some (.ref f) ∧ PySem.W.keepIn X.K (.ref f) = true ∧ (M.kwOf i = [] → Binds X.K fd ps []) ∧ (M.kwOf i ≠ [] → ∃ n, np = n + (M.kwOf i).length ∧ KwB X.K fd ps n (M.kwOf i))
  tk : ∀ σ, PassesAt (L2.CX X.prog X.w) X σ (WE W σ)
  blt : ∀ x ∈ M.blt, X.mg x = none
  lam : M.lm = true → Room 3 X.A ∧ ∃ c P, LamX.TabB X.base X.mg c P ∧ X.env.code = .ref c ∧ (P, X.env.qual ++ "<lambda>") ∈ TbT.T ∧ ∀ p ∈ TbT.T, p.1 = P → p.2 = X.env.qual ++ "<lambda>"
theorem Good.blk {X : Cx} {M : ME} {C : Ct} {W : WX} (G : Good X M C W) (s : Shared) (H : Hp) (scope : Scope) (cl : List (Str × Addr)) (Cc : Addr) (fp : List Addr) : Good (X.blk s H scope (compEnvC scope cl Cc X.env) fp) (M.blk scope) C WF where
  calm := G.calm
  nd := G.nd
  N := G.N
  sc := by
    show relS scope X.env.scope = relS scope M.sc
    rw [G.sc]
  fn := fun x => rfl
  room := G.room
  gd := G.gd
  glb := G.glb
  fns := fun i x np h => by
    obtain ⟨f, fd, ps, k, q1, q2, q3⟩ := G.fns i x np h
    exact ⟨f, fd, ps, k, q1, q2.mono (Nat.le_add_right _ _), q3⟩
  tk := fun σ pins H s e s' I c => by
    obtain ⟨_, _, _, _, _, _, _, _, _, _, _, _, z⟩ := c
    exact z.elim
  blt := G.blt
  lam := fun z => by cases z
theorem Good.inLam {X : Cx} {M : ME} {C : Ct} {W : WX} (G : Good X M C W) (hlm : M.lm = true) {scope : Scope} {p : Nat} {y : Str} (L : LamP X.N X.env.scope scope p y) (s : Shared) (H : Hp) (f c' : Addr) : Good (LamX.lamCx X X.A.in1.in1 X.stack s H (fun _ _ _ => False) scope f c') (M.lam scope) C WF where
  calm := rfl
  nd := G.nd
  N := G.N
  sc := rfl
  fn := fun x => by
    show false = (scope.names.lookup x == some .cell)
    cases q : scope.names.lookup x == some .cell with
    | false => rfl
    | true => exact absurd rfl (L.own (x, .cell) (PySem.mem_of_lookup (by simpa using q))).1
  room := ((Room.in1 (Room.in1 (G.lam hlm).1)).deeper _)
  gd := G.gd
  glb := G.glb
  fns := fun i x np h => by
    obtain ⟨f, fd, ps, k, q1, q2, q3⟩ := G.fns i x np h
    rw [if_pos hlm] at q2
    exact ⟨f, fd, ps, k, q1, (Room.in1 (Room.in1 q2)).deeper _, q3⟩
  tk := fun σ pins H s e s' I c => by
    obtain ⟨_, _, _, _, _, _, _, _, _, _, _, _, z⟩ := c
    exact z.elim
  blt := G.blt
  lam := fun z => by cases z
section
variable {X : Cx} {M : ME} {C : Ct} {W : WX}
theorem Good.un (G : Good X M C W) : X.A.units + 200 < cLine := by have := G.room.un; omega
theorem Good.gl (G : Good X M C W) {x : Str} (h : isGl (M.kind x) = true) : Gl X x := by
  show X.env.scope.names.lookup x = some .globalImplicit
  rw [G.sc]
  unfold isGl ME.kind at h
  split at h
  · assumption
  · cases h
theorem Good.vs (G : Good X M C W) {x : Str} (h : vis (M.kind x) = true) : Vis X.env.scope x := by
  unfold Vis
  rw [G.sc]
  unfold vis ME.kind at h
  split at h
  · exact .inl (by assumption)
  · exact .inr (.inl (by assumption))
  · exact .inr (.inr (by assumption))
  · cases h
theorem Good.lc (G : Good X M C W) {x : Str} (h : isLoc (M.kind x) = true) : Loc X.env.scope x := by
  unfold L2.Loc
  rw [G.sc]
  unfold isLoc ME.kind at h
  split at h
  · exact .inl (by assumption)
  · exact .inr (by assumption)
  · cases h
theorem Good.lo (G : Good X M C W) {x : Str} (h : isLo (M.kind x) = true) : X.env.scope.names.lookup x = some .local := by
  rw [G.sc]
  unfold isLo ME.kind at h
  split at h
  · assumption
  · cases h
theorem Good.fl (G : Good X M C W) {x : Str} (h : (M.fn x || isLo (M.kind x)) = true) : X.fn x = true ∨ X.env.scope.names.lookup x = some .local := by
  rw [Bool.or_eq_true] at h
  rcases h with h | h
  · exact .inl ((G.fn x).trans h)
  · exact .inr (G.lo h)
theorem pn_d {x : Str} (h : plainName x = true) : (x == ("__debug__" : Str)) = false := by
  unfold plainName at h
  simp only [Bool.and_eq_true, Bool.not_eq_true'] at h
  exact h.1.1
theorem pn_c {x : Str} (h : plainName x = true) : (x == ("__classdict__" : Str)) = false := by
  unfold plainName at h
  simp only [Bool.and_eq_true, Bool.not_eq_true'] at h
  exact h.1.2
theorem pn_n {x : Str} (h : plainName x = true) : x ≠ "__name__" := by
  unfold plainName at h
  simp only [Bool.and_eq_true, Bool.not_eq_true'] at h
  exact beq_eq_false_iff_ne.mp h.2
theorem Good.bl (G : Good X M C W) {x : Str} (h : mBlt M x = true) : Gl X x ∧ X.mg x = none ∧ plainName x = true := by
  unfold mBlt at h
  simp only [Bool.and_eq_true, decide_eq_true_eq] at h
  exact ⟨G.gl h.1.2, G.blt x h.1.1, h.2⟩
/-! ### targets -/
theorem nm_ok (G : Good X M C W) {i : Nat} {e : Expr} (h : mG (.nm i) M e = true) : PG X e (gI X.K (.nm i)) := by
  cases e with
  | Name x p =>
    have h : (decide (M.N[i]? = some x) && isLoc (M.kind x) && (M.fn x || isLo (M.kind x))) = true := h
    rw [Bool.and_eq_true, Bool.and_eq_true, decide_eq_true_eq] at h
    exact g_nm G.nd (by rw [G.N]; exact h.1.1) (G.lc h.1.2) (G.fl h.2)
  | _ => cases h
mutual
theorem mG_ok (G : Good X M C W) : ∀ (t : CT) (e : Expr), mG t M e = true → PG X e (gI X.K t)
  | .nm i, e, h => nm_ok G h
  | .tup ts, e, h => by
    cases e with
    | Tuple es k p =>
      have h : (mGs ts M es && noStars es) = true := h
      rw [Bool.and_eq_true] at h
      exact g_tup G.calm (mGs_ok G ts es h.1 h.2) (mGs_len ts es h.1) h.2
    | _ => cases h
  | .star ts r, e, h => by
    cases e with
    | Tuple es k p =>
      have h : mGS ts r M es = true := h
      obtain ⟨h1, h2, h3⟩ := mGS_ok G ts r es h
      exact g_star G.calm h1 h2 h3
    | _ => cases h
theorem mGs_ok (G : Good X M C W) : ∀ (ts : List CT) (es : List Expr), mGs ts M es = true → noStars es = true → PGs X es (gsI X.K ts)
  | [], es, h, _ => by
    cases es with
    | nil => exact gs_nil
    | cons e es => cases h
  | t :: ts, es, h, hs => by
    cases es with
    | nil => cases h
    | cons e es =>
      have h : (mG t M e && mGs ts M es) = true := h
      have hs : (!isStar e && noStars es) = true := hs
      rw [Bool.and_eq_true] at h hs
      exact gs_cons (mG_ok G t e h.1) (mGs_ok G ts es h.2 hs.2) (by simpa using hs.1)
theorem mGS_ok (G : Good X M C W) : ∀ (ts : List CT) (r : Nat) (es : List Expr), mGS ts r M es = true → PGs X es (gsS X.K ts r) ∧ (assignEach es X.env).length = ts.length + 1 ∧ (assignEach es X.env).findIdx? (·.1) = some ts.length
  | [], r, es, h => by
    unfold mGS at h
    split at h
    · rename_i e p
      cases e with
      | Name x p2 => exact ⟨gs_star (nm_ok G (i := r) h), rfl, rfl⟩
      | _ => cases h
    · cases h
  | t :: ts, r, es, h => by
    cases es with
    | nil => cases h
    | cons e es =>
      have h : (mG t M e && !isStar e && mGS ts r M es) = true := h
      rw [Bool.and_eq_true, Bool.and_eq_true] at h
      have he : isStar e = false := by simpa using h.1.2
      obtain ⟨h1, h2, h3⟩ := mGS_ok G ts r es h.2
      have z : assignEach (e :: es) X.env = (false, assign e X.env) :: assignEach es X.env := by
        cases e <;> first | rfl | cases he
      refine ⟨gs_consS (mG_ok G t e h.1.1) h1 he, ?_, ?_⟩
      · rw [z, List.length_cons, h2]; rfl
      · rw [z, List.findIdx?_cons, h3]; rfl
theorem mGs_len : ∀ (ts : List CT) (es : List Expr), mGs ts M es = true → es.length = ts.length
  | [], es, h => by
    cases es with
    | nil => rfl
    | cons e es => cases h
  | t :: ts, es, h => by
    cases es with
    | nil => cases h
    | cons e es =>
      have h : (mG t M e && mGs ts M es) = true := h
      rw [Bool.and_eq_true] at h
      exact congrArg (· + 1) (mGs_len ts es h.2)
end
/-! ### tests -/
theorem isTrue_plain {e : Expr} (h : plainT e = true) (env : Env) : ∀ whole, isTrue e env whole = (do let v ← whole; standAt e.pos; holding [v] (truthy v)) := by
  intro whole
  cases e with
  | UnaryOp op a p => cases op <;> first | rfl | cases h
  | _ => first | rfl | cases h
/-- read as a value, and as a test -/
def Bth (X : Cx) (C : Ct) (W : WX) (e : Expr) (c : CE) : Prop := PE X e (tI X.K C W c) ∧ PT X e (tB' X.K C W c)
theorem bth {e : Expr} {c : CE} (h : PE X e (tI X.K C W c)) (p : plainT e = true) : Bth X C W e c := ⟨h, t_val h (isTrue_plain p X.env)⟩
theorem chain_of {K : PySem.W.Frag} {o1 o2 : COp} {a b c : CE} {σ : L2.St} {H : Hp} {Q : VK} (h : tI K C W (.chain o1 o2 a b c) σ H Q) : tChain (rCmp K o1) (rCmp K o2) (tI K C W a) (tI K C W b) (tI K C W c) σ H Q := by
  obtain ⟨F, e, R, P⟩ := h
  refine ⟨F, e, R, (Post.run P).mono fun x e1 F1 H1 _ R1 X1 P1 v rv => ?_⟩
  refine ⟨F1, e1, R1, (Post.run P1).mono fun y e2 F2 H2 _ R2 X2 P2 u ru => ?_⟩
  have P2 : Post K C W F2 H2 σ (match (res e2 x).bind fun x => (res e2 y).bind fun y => Mi.cmp o1 x y with
    | some (.bl true) => (evE C.cs C.cal c e2).bind fun z e => .of ((res e y).bind fun y => (res e z).bind fun z => Mi.cmp o2 y z) e
    | some (.bl false) => Mi.R.ok (.bl false) e2
    | _ => .er) _ := P2
  split at P2
  · rename_i hz
    obtain ⟨x', y', hx, hy, hz⟩ := bind2 hz
    refine ⟨F2, x', y', _, R2.sub, RepH.of_res R2 (rv.up X2.le) hx, RepH.of_res R2 ru hy, hz, fun w F3 H3 g r => ?_⟩
    obtain ⟨R3, X3⟩ := g.rel R2
    cases r
    refine ⟨true, rfl, iteT ⟨F3, e2, R3, (Post.run (Post.shift X3 P2)).mono fun z e4 F4 H4 _ R4 X4 P4 w rw' => ?_⟩⟩
    obtain ⟨z', hz', P5⟩ := Post.of_ P4
    obtain ⟨y2, z2, hy2, hz2, hz'⟩ := bind2 hz'
    exact ⟨F4, y2, z2, z', R4.sub, RepH.of_res R4 (ru.up (X3.le.trans X4.le)) hy2, RepH.of_res R4 rw' hz2, hz', P5.go R4⟩
  · rename_i hz
    obtain ⟨x', y', hx, hy, hz⟩ := bind2 hz
    refine ⟨F2, x', y', _, R2.sub, RepH.of_res R2 (rv.up X2.le) hx, RepH.of_res R2 ru hy, hz, fun w F3 H3 g r => ?_⟩
    obtain ⟨R3, X3⟩ := g.rel R2
    cases r
    have P3 := P2 F3 H3 R3 X3
    exact ⟨false, rfl, iteF (P3 _ (.bl _))⟩
  · exact P2.elim
theorem chain_bl {o1 o2 : COp} {a b c : CE} {e e' : En} {x : D} (h : evE C.cs C.cal (.chain o1 o2 a b c) e = .ok x e') : ∃ t, x = .bl t := by
  have h : ((evE C.cs C.cal a e).bind fun x e => (evE C.cs C.cal b e).bind fun y e => match (res e x).bind fun x => (res e y).bind fun y => Mi.cmp o1 x y with
    | some (.bl true) => (evE C.cs C.cal c e).bind fun z e => .of ((res e y).bind fun y => (res e z).bind fun z => Mi.cmp o2 y z) e
    | some (.bl false) => Mi.R.ok (.bl false) e
    | _ => .er) = .ok x e' := h
  cases h1 : evE C.cs C.cal a e with
  | ok x1 e1 =>
    rw [h1] at h
    have h : ((evE C.cs C.cal b e1).bind fun y e => match (res e x1).bind fun x => (res e y).bind fun y => Mi.cmp o1 x y with
      | some (.bl true) => (evE C.cs C.cal c e).bind fun z e => .of ((res e y).bind fun y => (res e z).bind fun z => Mi.cmp o2 y z) e
      | some (.bl false) => Mi.R.ok (.bl false) e
      | _ => .er) = .ok x e' := h
    cases h2 : evE C.cs C.cal b e1 with
    | ok y e2 =>
      rw [h2] at h
      have h : (match (res e2 x1).bind fun x => (res e2 y).bind fun y => Mi.cmp o1 x y with
        | some (.bl true) => (evE C.cs C.cal c e2).bind fun z e => .of ((res e y).bind fun y => (res e z).bind fun z => Mi.cmp o2 y z) e
        | some (.bl false) => Mi.R.ok (.bl false) e2
        | _ => .er) = .ok x e' := h
      split at h
      · cases h3 : evE C.cs C.cal c e2 with
        | ok z e3 =>
          rw [h3] at h
          have h : Mi.R.of ((res e3 y).bind fun y => (res e3 z).bind fun z => Mi.cmp o2 y z) e3 = .ok x e' := h
          cases q : ((res e3 y).bind fun y => (res e3 z).bind fun z => Mi.cmp o2 y z) with
          | none => rw [q] at h; cases h
          | some w =>
            rw [q] at h
            cases h
            obtain ⟨_, _, _, _, q⟩ := bind2 q
            exact cmp_bl q
        | exc z e3 => rw [h3] at h; cases h
        | er => rw [h3] at h; cases h
      · cases h
        exact ⟨_, rfl⟩
      · cases h
    | exc z e3 => rw [h2] at h; cases h
    | er => rw [h2] at h; cases h
  | exc z e3 => rw [h1] at h; cases h
  | er => rw [h1] at h; cases h
theorem t_chain {o1 o2 : COp} {a b c : CE} {a' b' c' : Expr} {pos : Pos} (hu : X.A.units + 65 < cLine) (ha : PE X a' (tI X.K C W a)) (hb : PE X b' (tI X.K C W b)) (hc : PE X c' (tI X.K C W c)) (hm : lastMarks [o1.py, o2.py] [b', c'] = false) : PT X (.Compare a' [o1.py, o2.py] [b', c'] pos) (tB' X.K C W (.chain o1 o2 a b c)) := by
  refine PT.imp (pt_chain (or_cmp o1 hu) (or_cmp o2 hu) ha hb hc hm) fun σ H Q h => ?_
  refine chain_of ?_
  obtain ⟨F, e, R, P⟩ := h
  refine ⟨F, e, R, (Post.run P).mono fun x e1 F1 H1 he R1 X1 P1 v rv => ?_⟩
  obtain ⟨t, rfl⟩ := chain_bl he
  cases rv
  exact ⟨t, rfl, Post.of_ok R1 P1⟩
/-- several -/
def BthS (X : Cx) (C : Ct) (W : WX) (es' : List Expr) (es : CEs) : Prop := PA X es' (tA X.K C W es) ∧
  (∀ a a' pos, PE X a' (tI X.K C W a) → PE X (.BoolOp .And (a' :: es') pos) (tAndI X.K C W a es)) ∧ (∀ a a' pos, PE X a' (tI X.K C W a) → PE X (.BoolOp .Or (a' :: es') pos) (tOrI X.K C W a es)) ∧
  (noIfs es' = true → (∀ a a' pos, PT X a' (tB' X.K C W a) → PW X (.BoolOp .And (a' :: es') pos) (uAndI X.K C W a es)) ∧ (∀ a a' pos, PT X a' (tB' X.K C W a) → PW X (.BoolOp .Or (a' :: es') pos) (uOrI X.K C W a es)))
def Bt (X : Cx) (C : Ct) (W : WX) (e : Expr) (c : CE) : Prop := PE X e (tI X.K C W c) ∧ (isIf e = false → PT X e (tB' X.K C W c))
theorem bt {e : Expr} {c : CE} (h : PE X e (tI X.K C W c)) (p : plainT e = true) : Bt X C W e c := ⟨h, fun _ => t_val h (isTrue_plain p X.env)⟩
/-- repr(x), x a list or tuple of data -/
theorem cb_repr (hg : X.A.guards = some []) (hu : X.A.units + 66 < cLine) : CallR X (.builtin "repr") (rBi X.K .repr) := by
  intro pins s σ H vs us Q I r h
  obtain ⟨F, ds, z, sub, hd, e, g⟩ := h
  obtain ⟨d, rfl, e⟩ := one_inv (show one reprD ds = some z from e)
  obtain ⟨v, rfl, hv⟩ := hd.one
  obtain ⟨u, rfl, ru⟩ := r.one
  have key : ∀ {a : Addr}, v = .ref a → Dp X.K H v (toPy d) → showOk d = true → z = .str (toPy d).shown → wpAny (model X.prog X.w) X.A (call (.builtin "repr") [u]) (EP X pins σ Q) X.xe s := fun {a} ev dp hs ez => by
    subst ev ez
    cases (show u = Value.ref a from ru)
    obtain ⟨h, h4⟩ := Bool.and_eq_true_iff.mp hs
    obtain ⟨h, h3⟩ := Bool.and_eq_true_iff.mp h
    obtain ⟨h1, h2⟩ := Bool.and_eq_true_iff.mp h
    have h3 := of_decide_eq_true h3
    have h4 := of_decide_eq_true h4
    obtain ⟨as, rd⟩ := Dp.reads I _ _ _ dp rfl
    refine repr_of_reads' rd h1 (PyData.noDict_hsm (PyData.hasDict_of_canLay _ h2)) hg (by omega) (fun _ _ e => e) (fun h' t tk hk => ?_) h3
    exact ⟨.str (toPy d).shown, H, I.kept hk, ⟨_, rfl⟩, g.same (.str _ h3)⟩
  have inv : ∀ {x : D}, reprS x = some z → showOk x = true ∧ z = .str (toPy x).shown := fun {x} e => by
    unfold reprS at e
    split at e <;> cases e
    exact ⟨by assumption, rfl⟩
  have cl : ∀ {x : D}, showOk x = true → (toPy x).canLay0 = true := fun {x} h => by
    obtain ⟨h, _⟩ := Bool.and_eq_true_iff.mp h
    obtain ⟨h, _⟩ := Bool.and_eq_true_iff.mp h
    exact (Bool.and_eq_true_iff.mp h).2
  cases d with
  | lst xs =>
    obtain ⟨h1, h2⟩ := inv (show reprS (.lst xs) = some z from e)
    obtain ⟨a, vs, rfl, s1, q1⟩ := hv.lst_ sub
    exact key rfl (.lst s1 (Reps.dp sub xs vs (cl h1) q1)) h1 h2
  | tup xs =>
    obtain ⟨h1, h2⟩ := inv (show reprS (.tup xs) = some z from e)
    obtain ⟨a, vs, rfl, s1, q1⟩ := hv.tup_ sub
    exact key rfl (.tup s1 (Reps.dp sub xs vs (cl h1) q1)) h1 h2
  | _ => cases e
/-- a built-in's call -/
theorem bi_ok (G : Good X M C W) {b : BI} {es : CEs} {x : Str} {x1 : Expr} {xs : List Expr} {p pos : Pos} (hb : b.plain = true) (hx : x = b.name) (hm : mBlt M x = true) (ha : PA X (x1 :: xs) (tA X.K C W es)) (hs : noStars (x1 :: xs) = true) : PE X (.Call (.Name x p) (x1 :: xs) [] pos) (tI X.K C W (.bi b es)) := by
  obtain ⟨h1, h2, h3⟩ := G.bl hm
  subst hx
  cases b with
  | len => exact n_biB cb_len h1 h2 boot_len ha (pn_n h3) (pn_d h3) hs
  | list => exact n_biT (cb_list G.calm) h1 h2 (by decide +kernel) ha (pn_n h3) (pn_d h3) hs
  | tuple => exact n_biT cb_tuple h1 h2 (by decide +kernel) ha (pn_n h3) (pn_d h3) hs
  | dict => exact n_biT (cb_dict G.calm) h1 h2 (by decide +kernel) ha (pn_n h3) (pn_d h3) hs
  | sorted => exact n_biB (cb_sorted G.calm) h1 h2 (by decide +kernel) ha (pn_n h3) (pn_d h3) hs
  | repr => exact n_biB (cb_repr G.gd (by have := G.un; omega)) h1 h2 (by decide +kernel) ha (pn_n h3) (pn_d h3) hs
  | all => exact n_biB (cb_all G.calm) h1 h2 (by decide +kernel) ha (pn_n h3) (pn_d h3) hs
  | any => exact n_biB (cb_any G.calm) h1 h2 (by decide +kernel) ha (pn_n h3) (pn_d h3) hs
  | min => exact n_biB (cb_min G.calm) h1 h2 (by decide +kernel) ha (pn_n h3) (pn_d h3) hs
  | max => exact n_biB (cb_max G.calm) h1 h2 (by decide +kernel) ha (pn_n h3) (pn_d h3) hs
  | _ => cases hb
theorem mt_ok (G : Good X M C W) {m : Mt} {o : CE} {es : CEs} {o' x1 : Expr} {xs : List Expr} {name : Str} {apos cpos : Pos} (hn : name = m.name) (ho : PE X o' (tI X.K C W o)) (ha : PA X (x1 :: xs) (tA X.K C W es)) (h1 : notSuper o' = true) (h2 : noStars (x1 :: xs) = true) (h3 : (x1 :: xs).length < 29) (h4 : (apos.endLine == cpos.line) = true) :
    PE X (.Call (.Attribute o' name apos) (x1 :: xs) [] cpos) (tI X.K C W (.mt m o es)) := by
  subst hn
  have hu : X.A.units + 1 < cLine := by have := G.un; omega
  cases m with
  | get1 => exact n_mt (mr_get1 hu) PySem.F.plainAttrs_dict PySem.F.slot_dict_get PySem.F.type_dict_get ho ha h1 h2 h3 h4
  | get2 => exact n_mt (mr_get2 hu) PySem.F.plainAttrs_dict PySem.F.slot_dict_get PySem.F.type_dict_get ho ha h1 h2 h3 h4
  | split => exact n_mt mr_split PySem.F.plainAttrs_str PySem.F.slot_str_split PySem.F.type_str_split ho ha h1 h2 h3 h4
  | join => exact n_mt mr_join PySem.F.plainAttrs_str PySem.F.slot_str_join PySem.F.type_str_join ho ha h1 h2 h3 h4
theorem mu_ok (G : Good X M C W) {m : Mu} {o : CE} {es : CEs} {o' x1 : Expr} {xs : List Expr} {name : Str} {apos cpos : Pos} (hn : name = m.name) (ho : PE X o' (tI X.K C W o)) (ha : PA X (x1 :: xs) (tA X.K C W es)) (h1 : notSuper o' = true) (h2 : noStars (x1 :: xs) = true) (h3 : (x1 :: xs).length < 29) (h4 : (apos.endLine == cpos.line) = true) :
    PE X (.Call (.Attribute o' name apos) (x1 :: xs) [] cpos) (tI X.K C W (.mu m o es)) := by
  subst hn
  cases m with
  | append => exact n_mu mm_append PySem.F.slot_list_append PySem.F.type_list_append ho ha h1 h2 h3 h4
  | pop => exact n_mu mm_pop PySem.F.slot_list_pop PySem.F.type_list_pop ho ha h1 h2 h3 h4
  | popAt => exact n_mu mm_popAt PySem.F.slot_list_pop PySem.F.type_list_pop ho ha h1 h2 h3 h4
  | insert => exact n_mu mm_insert PySem.F.slot_list_insert PySem.F.type_list_insert ho ha h1 h2 h3 h4
  | extend => exact n_mu mm_extend PySem.F.slot_list_extend PySem.F.type_list_extend ho ha h1 h2 h3 h4
theorem mu0_ok (G : Good X M C W) {m : Mu} {o : CE} {es : CEs} {o' : Expr} {name : Str} {apos cpos : Pos} (hn : name = m.name) (ho : PE X o' (tI X.K C W o)) (ha : PA X [] (tA X.K C W es)) (he : es = .nil) (h1 : notSuper o' = true) (h4 : (apos.endLine == cpos.line) = true) :
    PE X (.Call (.Attribute o' name apos) [] [] cpos) (tI X.K C W (.mu m o es)) := by
  subst hn he
  cases m with
  | append => exact n_mu0 mm_append PySem.F.slot_list_append PySem.F.type_list_append ho h1 h4
  | pop => exact n_mu0 mm_pop PySem.F.slot_list_pop PySem.F.type_list_pop ho h1 h4
  | popAt => exact n_mu0 mm_popAt PySem.F.slot_list_pop PySem.F.type_list_pop ho h1 h4
  | insert => exact n_mu0 mm_insert PySem.F.slot_list_insert PySem.F.type_list_insert ho h1 h4
  | extend => exact n_mu0 mm_extend PySem.F.slot_list_extend PySem.F.type_list_extend ho h1 h4
theorem notSet_ok {e : Expr} (h : notSet e = true) (env : Env) : ∀ x, foldedSetIterable e env x = pure x := by
  intro x
  cases e <;> first | rfl | cases h
theorem mono_room {k : Nat} : ∀ (A : Around), Room k A → Room 0 A := fun A h => h.mono (Nat.zero_le _)
end
end Mi
end

section
set_option Elab.async false
set_option linter.all false
set_option maxRecDepth 100000
set_option maxHeartbeats 8000000
set_option autoImplicit false
/-! Mi24: the matcher's soundness, expressions. -/
namespace Mi
open PySem L2 RZ PySem.Spec PySem.Calls PyProof.Rows
variable [TbT]
theorem nxt {a b : Bool} (h : (a && b) = true) : a = true ∧ b = true := by rwa [Bool.and_eq_true] at h
theorem neg {a : Bool} (h : (!a) = true) : a = false := by simpa using h
/-- what a display of pairs is -/
def BthK (X : Cx) (C : Ct) (W : WX) (keys : List (Option Expr)) (vals : List Expr) (ks : CKs) : Prop := (∀ pos, PPs X pos keys vals (prs X.K C W ks)) ∧ keys.all (·.isSome) = true ∧ keys.length = vals.length ∧ (keys = [] → ks = .nil ∧ vals = [])
theorem dict_ok {X : Cx} {C : Ct} {W : WX} {keys : List (Option Expr)} {vals : List Expr} {ks : CKs} {pos : Pos} (h : BthK X C W keys vals ks) (hl : keys.length ≤ 15) : PE X (.Dict keys vals pos) (tF X.K C W (.dict ks)) := by
  obtain ⟨h1, h2, h3, h4⟩ := h
  cases keys with
  | nil =>
    obtain ⟨rfl, rfl⟩ := h4 rfl
    exact f_dict0
  | cons k keys => exact f_dict (h1 pos) h2 h3 nofun hl
/-- what a comprehension's parts are -/
structure Blk (X : Cx) (C : Ct) (W : WX) (t : CT) (it : CI) (tt : CEo) (vs : List Nat) (tg' iter' : Expr) (ifs' : List Expr) (scope : Scope) (own : List (Str × Nat)) : Prop where
  hi : PI X tg' iter' (iS X.K C W it)
  ok : BlkOk X.N X.env.scope scope own
  hv : own.map (·.2) = vs
  hs : ∀ i ∈ slots t, i ∈ vs
  hg : ∀ (s : Shared) (H : Hp) (Cc : Addr) (cl : List (Str × Addr)) (fp : List Addr), PG (X.blk s H scope (compEnvC scope cl Cc X.env) fp) tg' (gI X.K t)
  ht : ∀ (s : Shared) (H : Hp) (Cc : Addr) (cl : List (Str × Addr)) (fp : List Addr), PTs (X.blk s H scope (compEnvC scope cl Cc X.env) fp) ifs' (tTs X.K C WF tt)
  hfs : ∀ x, foldedSetIterable iter' X.env x = pure x
theorem blk_ok {X : Cx} {M : ME} {C : Ct} {W : WX} (G : Good X M C W) {t : CT} {it : CI} {tt : CEo} {vs : List Nat} {tg' iter' : Expr} {ifs' : List Expr} {scope : Scope} (hi : PI X tg' iter' (iS X.K C W it)) (hns : notSet iter' = true)
    (hb : blkC M.N M.sc scope (vs.map fun i => ((M.N[i]?).getD "", i)) = true) (hs : ((slots t).all fun i => decide (i ∈ vs)) = true) (hg : mG t (M.blk scope) tg' = true)
    (ht : ∀ (X : Cx) (W : WX), Good X (M.blk scope) C W → PTs X ifs' (tTs X.K C W tt)) : Blk X C W t it tt vs tg' iter' ifs' scope (vs.map fun i => ((M.N[i]?).getD "", i)) where
  hi := hi
  ok := by
    rw [G.N, G.sc]
    exact blkOk_by hb
  hv := by
    rw [List.map_map]
    exact List.map_id _
  hs := fun i h => by
    have := List.all_eq_true.mp hs i h
    simpa using this
  hg := fun s H Cc cl fp => mG_ok (G.blk s H scope cl Cc fp) t tg' hg
  ht := fun s H Cc cl fp => ht _ _ (G.blk s H scope cl Cc fp)
  hfs := notSet_ok hns X.env
mutual
theorem mE_ok (C : Ct) : ∀ (c : CE) (M : ME) (X : Cx) (W : WX) (e : Expr), Good X M C W → mE c M e = true → Bt X C W e c
  | .var i, M, X, W, e, G, h => by
    cases e with
    | Name x p =>
      have h : (decide (M.N[i]? = some x) && vis (M.kind x) && plainName x) = true := h
      obtain ⟨h1, h3⟩ := nxt h
      obtain ⟨h1, h2⟩ := nxt h1
      exact bt (n_var (by rw [G.N]; simpa using h1) (G.vs h2) (pn_d h3) (pn_c h3)) rfl
    | _ => cases h
  | .glb i, M, X, W, e, G, h => by
    cases e with
    | Name x p =>
      have h : (decide (M.glb[i]? = some x) && isGl (M.kind x) && plainName x) = true := h
      obtain ⟨h1, h3⟩ := nxt h
      obtain ⟨h1, h2⟩ := nxt h1
      obtain ⟨u, v, d, q1, q2, q3, q4⟩ := G.glb i x (by simpa using h1)
      exact bt (n_glb (G.gl h2) q1 q2 q3 q4 (pn_d h3)) rfl
    | _ => cases h
  | .int i, M, X, W, e, G, h => by
    cases e with
    | Constant k j p =>
      cases k with
      | int n =>
        have h : decide (i = n) = true := h
        have h : i = n := by simpa using h
        subst h
        exact bt n_int rfl
      | _ => cases h
    | _ => cases h
  | .str x, M, X, W, e, G, h => by
    cases e with
    | Constant k j p =>
      cases k with
      | str n =>
        have h : decide (x = n) = true := h
        have h : x = n := by simpa using h
        subst h
        exact bt n_str rfl
      | _ => cases h
    | _ => cases h
  | .bl b, M, X, W, e, G, h => by
    cases e with
    | Constant k j p =>
      cases k with
      | bool n =>
        have h : decide (b = n) = true := h
        have h : b = n := by simpa using h
        subst h
        exact bt n_bl rfl
      | _ => cases h
    | _ => cases h
  | .non, M, X, W, e, G, h => by
    cases e with
    | Constant k j p =>
      cases k with
      | none => exact bt n_non rfl
      | _ => cases h
    | _ => cases h
  | .bin op a b, M, X, W, e, G, h => by
    cases e with
    | BinOp a' o b' p =>
      have h : (decide (o = op.py) && mE a M a' && mE b M b') = true := h
      obtain ⟨h1, h3⟩ := nxt h
      obtain ⟨h1, h2⟩ := nxt h1
      have h1 : o = op.py := by simpa using h1
      subst h1
      exact bt (n_bin (mE_ok C a M X W a' G h2).1 (mE_ok C b M X W b' G h3).1) rfl
    | _ => cases h
  | .neg a, M, X, W, e, G, h => by
    cases e with
    | UnaryOp o a' p =>
      cases o with
      | USub => exact bt (n_neg (mE_ok C a M X W a' G h).1) rfl
      | _ => cases h
    | _ => cases h
  | .cmp op a b, M, X, W, e, G, h => by
    cases e with
    | Compare a' os bs p =>
      match os, bs, h with
      | [o], [b'], h =>
        have h : (decide (o = op.py) && mE a M a' && mE b M b' && !behindInMarks op.py b') = true := h
        obtain ⟨h, h4⟩ := nxt h
        obtain ⟨h1, h3⟩ := nxt h
        obtain ⟨h1, h2⟩ := nxt h1
        have h1 : o = op.py := by simpa using h1
        subst h1
        have qa := (mE_ok C a M X W a' G h2).1
        have qb := (mE_ok C b M X W b' G h3).1
        exact ⟨n_cmp G.room qa qb (neg h4), fun _ => t_cmp G.room qa qb (neg h4)⟩
      | [], _, h => cases h
      | [_], [], h => cases h
      | [_], _ :: _ :: _, h => cases h
      | _ :: _ :: _, _, h => cases h
    | _ => cases h
  | .chain o1 o2 a b c, M, X, W, e, G, h => by
    cases e with
    | Compare a' os bs p =>
      match os, bs, h with
      | [p1, p2], [b', c'], h =>
        have h : (decide (p1 = o1.py) && decide (p2 = o2.py) && mE a M a' && mE b M b' && mE c M c' && !lastMarks [o1.py, o2.py] [b', c']) = true := h
        obtain ⟨h, h6⟩ := nxt h
        obtain ⟨h, h5⟩ := nxt h
        obtain ⟨h, h4⟩ := nxt h
        obtain ⟨h, h3⟩ := nxt h
        obtain ⟨h1, h2⟩ := nxt h
        have h1 : p1 = o1.py := by simpa using h1
        have h2 : p2 = o2.py := by simpa using h2
        subst h1 h2
        have qa := (mE_ok C a M X W a' G h3).1
        have qb := (mE_ok C b M X W b' G h4).1
        have qc := (mE_ok C c M X W c' G h5).1
        exact ⟨n_chain G.room qa qb qc (neg h6), fun _ => t_chain (by have := G.un; omega) qa qb qc (neg h6)⟩
      | [], _, h => cases h
      | [_], _, h => cases h
      | [_, _], [], h => cases h
      | [_, _], [_], h => cases h
      | [_, _], _ :: _ :: _ :: _, h => cases h
      | _ :: _ :: _ :: _, _, h => cases h
    | _ => cases h
  | .and a es, M, X, W, e, G, h => by
    cases e with
    | BoolOp o xs p =>
      cases o with
      | And =>
        cases xs with
        | nil => cases h
        | cons a' r =>
          have h : (mE a M a' && mEs es M r && !isIf a' && noIfs r) = true := h
          obtain ⟨h, h4⟩ := nxt h
          obtain ⟨h, h3⟩ := nxt h
          obtain ⟨h1, h2⟩ := nxt h
          have qa := mE_ok C a M X W a' G h1
          have qs := mEs_ok C es M X W r G h2
          exact ⟨n_and (qs.2.1 a a' p qa.1), fun _ => t_and ((qs.2.2.2 h4).1 a a' p (qa.2 (neg h3)))⟩
      | Or => cases xs <;> cases h
    | _ => cases h
  | .or a es, M, X, W, e, G, h => by
    cases e with
    | BoolOp o xs p =>
      cases o with
      | Or =>
        cases xs with
        | nil => cases h
        | cons a' r =>
          have h : (mE a M a' && mEs es M r && !isIf a' && noIfs r) = true := h
          obtain ⟨h, h4⟩ := nxt h
          obtain ⟨h, h3⟩ := nxt h
          obtain ⟨h1, h2⟩ := nxt h
          have qa := mE_ok C a M X W a' G h1
          have qs := mEs_ok C es M X W r G h2
          exact ⟨n_or (qs.2.2.1 a a' p qa.1), fun _ => t_or ((qs.2.2.2 h4).2 a a' p (qa.2 (neg h3)))⟩
      | And => cases xs <;> cases h
    | _ => cases h
  | .not a, M, X, W, e, G, h => by
    cases e with
    | UnaryOp o a' p =>
      cases o with
      | Not =>
        have h : (mE a M a' && !isIf a') = true := h
        obtain ⟨h1, h2⟩ := nxt h
        have qa := mE_ok C a M X W a' G h1
        exact ⟨n_not qa.1, fun _ => t_not (qa.2 (neg h2))⟩
      | _ => cases h
    | _ => cases h
  | .ite c a b, M, X, W, e, G, h => by
    cases e with
    | IfExp c' a' b' p =>
      have h : (mE c M c' && mE a M a' && mE b M b' && !isIf c') = true := h
      obtain ⟨h, h4⟩ := nxt h
      obtain ⟨h, h3⟩ := nxt h
      obtain ⟨h1, h2⟩ := nxt h
      exact ⟨n_ite ((mE_ok C c M X W c' G h1).2 (neg h4)) (mE_ok C a M X W a' G h2).1 (mE_ok C b M X W b' G h3).1, fun z => by cases z⟩
    | _ => cases h
  | .tup es, M, X, W, e, G, h => by
    cases e with
    | Tuple xs k p =>
      have h : (mEs es M xs && noStars xs) = true := h
      exact bt (n_tup (mEs_ok C es M X W xs G (nxt h).1).1) rfl
    | _ => cases h
  | .lst es, M, X, W, e, G, h => by
    cases e with
    | List xs p =>
      have h : (mEs es M xs && noStars xs) = true := h
      exact bt (n_lst (mEs_ok C es M X W xs G (nxt h).1).1) rfl
    | _ => cases h
  | .dict ks, M, X, W, e, G, h => by
    cases e with
    | Dict xs ys p =>
      have h : (mKs ks M xs ys && decide (xs.length ≤ 15)) = true := h
      obtain ⟨h1, h2⟩ := nxt h
      exact bt (n_frz (dict_ok (mKs_ok C ks M X W xs ys G h1) (by simpa using h2))) rfl
    | _ => cases h
  | .ix a b, M, X, W, e, G, h => by
    cases e with
    | Subscript a' b' p =>
      have h : (mE a M a' && mE b M b' && !isSlice b') = true := h
      obtain ⟨h, h3⟩ := nxt h
      obtain ⟨h1, h2⟩ := nxt h
      exact bt (n_ix G.room (mE_ok C a M X W a' G h1).1 (mE_ok C b M X W b' G h2).1 (neg h3)) rfl
    | _ => cases h
  | .slc a lo hi, M, X, W, e, G, h => by
    cases e with
    | Subscript a' s p =>
      cases s with
      | Slice lo' hi' st p2 =>
        cases st with
        | none =>
          have h : (mE a M a' && mO lo M lo' && mO hi M hi') = true := h
          obtain ⟨h, h3⟩ := nxt h
          obtain ⟨h1, h2⟩ := nxt h
          exact bt (n_slc (mE_ok C a M X W a' G h1).1 (mO_ok C lo M X W lo' G h2) (mO_ok C hi M X W hi' G h3)) rfl
        | some z => cases h
      | _ => cases h
    | _ => cases h
  | .rev a, M, X, W, e, G, h => by
    cases e with
    | Subscript a' s p =>
      replace h : (match (generalizing := false) s with
        | .Slice none none (some (.UnaryOp .USub (.Constant (.int j) _ _) _)) _ => decide (j = 1) && mE a M a'
        | _ => false) = true := h
      split at h
      · obtain ⟨h1, h2⟩ := nxt h
        rename_i j k p1 p2 p3
        have h1 : j = 1 := by simpa using h1
        subst h1
        exact bt (n_rev (mE_ok C a M X W a' G h2).1) rfl
      · cases h
    | _ => cases h
  | .call f es, M, X, W, e, G, h => by
    cases e with
    | Call fn xs kw p =>
      replace h : (match (generalizing := false) fn with
        | .Name x _ => decide (M.fns[f]? = some (x, es.len)) && isGl (M.kind x) && plainName x && noStars xs && (match (generalizing := false) kw with
          | [] => (match (generalizing := false) M.kwOf f with
            | [] => mEs es M xs
            | _ :: _ => !xs.isEmpty && mEd es M (M.kwOf f) xs)
          | _ :: _ => !xs.isEmpty && kwNames kw (M.kwOf f) && mEq es M kw xs)
        | _ => false) = true := h
      split at h
      · rename_i x p2
        obtain ⟨h, h5⟩ := nxt h
        obtain ⟨h, h4⟩ := nxt h
        obtain ⟨h, h3⟩ := nxt h
        obtain ⟨h1, h2⟩ := nxt h
        obtain ⟨fa, fd, ps, k, q1, q2, q3, q4, q5, q6⟩ := G.fns f x es.len (by simpa using h1)
        have q2 := q2.mono (Nat.le_add_right k _)
        cases kw with
        | nil =>
          cases hk : M.kwOf f with
          | nil =>
            rw [hk] at h5
            have q5 := q5 hk
            have qs := (mEs_ok C es M X W xs G h5)
            cases xs with
            | nil =>
              cases es with
              | nil => exact bt (n_call0 q1 q2 G.gd (G.gl h2) q3 q4 q5 G.tk (pn_d h3)) rfl
              | cons a r => cases h5
            | cons x1 xs => exact bt (n_call q1 q2 G.gd (G.gl h2) q3 q4 q5 G.tk qs.1 (pn_d h3) h4 rfl) rfl
          | cons kk ks =>
            rw [hk] at h5
            obtain ⟨n, e1, B⟩ := q6 (by rw [hk]; exact nofun)
            rw [hk] at e1 B
            have h5 : (!xs.isEmpty && mEd es M (kk :: ks) xs) = true := h5
            obtain ⟨h6, h7⟩ := nxt h5
            obtain ⟨a1, a2, rfl, d1, d2⟩ := mEd_ok C es M X W (kk :: ks) xs G h7
            have dl := dfEs_len d2
            rw [CEs.app_len, dl] at e1
            rw [CEs.app_len, dl] at q1
            have en : a1.len = n := by omega
            rw [en] at q1
            cases xs with
            | nil => cases h6
            | cons x1 xs => exact bt (n_callD q1 q2 G.gd (G.gl h2) q3 q4 B G.tk d1 (pn_d h3) h4 en d2) rfl
        | cons kq kws =>
          have h5 : (!xs.isEmpty && kwNames (kq :: kws) (M.kwOf f) && mEq es M (kq :: kws) xs) = true := h5
          obtain ⟨h5, h7⟩ := nxt h5
          obtain ⟨h6, h8⟩ := nxt h5
          have kl := kwNames_len h8
          obtain ⟨n, e1, B⟩ := q6 (fun z => by rw [z] at kl; cases kl)
          obtain ⟨a1, a2, rfl, d1, d2, d3⟩ := mEq_ok C es M X W (kq :: kws) xs G h7
          rw [CEs.app_len, d3, kl] at e1
          rw [CEs.app_len, d3, kl] at q1
          have en : a1.len = n := by omega
          rw [en] at q1
          cases xs with
          | nil => cases h6
          | cons x1 xs => exact bt (n_callK q1 q2 G.gd (G.gl h2) q3 q4 B G.tk d1 d2 (pn_d h3) h4 en (d3.trans kl) h8) rfl
      · cases h
    | _ => cases h
  | .bi b es, M, X, W, e, G, h => by
    by_cases hb : b = .lenset
    · subst hb
      replace h : (match (generalizing := false) e with
        | .Call (.Name x _) [.Call (.Name y _) [a'] [] _] [] _ => decide (x = "len") && decide (y = "set") && mBlt M x && mBlt M y && mEs es M [a']
        | _ => false) = true := h
      split at h
      · rename_i x p1 y p2 a' p3 p4
        obtain ⟨h, h5⟩ := nxt h
        obtain ⟨h, h4⟩ := nxt h
        obtain ⟨h, h3⟩ := nxt h
        obtain ⟨h1, h2⟩ := nxt h
        have h1 : x = "len" := by simpa using h1
        have h2 : y = "set" := by simpa using h2
        subst h1 h2
        obtain ⟨q1, q2, _⟩ := G.bl h3
        obtain ⟨q3, q4, _⟩ := G.bl h4
        match es, h5 with
        | .nil, h5 => cases h5
        | .cons _ (.cons _ _), h5 =>
          have h5 := (nxt h5).2
          cases h5
        | .cons a .nil, h5 =>
          have h5 : (mE a M a' && !isStar a' && true) = true := h5
          obtain ⟨h5, h6⟩ := nxt (nxt h5).1
          exact bt (n_lenS G.calm q1 q2 q3 q4 (mE_ok C a M X W a' G h5).1 (neg h6)) rfl
      · cases h
    · replace h : (match (generalizing := false) e with
        | .Call fn (x1 :: xs) kw _ => (match fn, kw with
          | .Name x _, [] => decide (x = b.name) && b.plain && mBlt M x && mEs es M (x1 :: xs) && noStars (x1 :: xs)
          | _, _ => false)
        | _ => false) = true := by
        cases b <;> first | exact absurd rfl hb | exact h
      split at h
      · rename_i fn x1 xs kw p
        split at h
        · rename_i x p2
          obtain ⟨h, h5⟩ := nxt h
          obtain ⟨h, h4⟩ := nxt h
          obtain ⟨h, h3⟩ := nxt h
          obtain ⟨h1, h2⟩ := nxt h
          exact bt (bi_ok G h2 (by simpa using h1) h3 (mEs_ok C es M X W _ G h4).1 h5) rfl
        · cases h
      · cases h
  | .isa t a, M, X, W, e, G, h => by
    replace h : (match (generalizing := false) e with
      | .Call (.Name x _) [a', .Name y _] [] _ => decide (x = "isinstance") && mBlt M x && decide (y = Str.ofString t.py) && mBlt M y && mE a M a' && !isStar a'
      | _ => false) = true := h
    split at h
    · rename_i x p1 a' y p2 p3
      obtain ⟨h, h6⟩ := nxt h
      obtain ⟨h, h5⟩ := nxt h
      obtain ⟨h, h4⟩ := nxt h
      obtain ⟨h, h3⟩ := nxt h
      obtain ⟨h1, h2⟩ := nxt h
      have h1 : x = "isinstance" := by simpa using h1
      have h3 : y = Str.ofString t.py := by simpa using h3
      subst h1 h3
      obtain ⟨q1, q2, _⟩ := G.bl h2
      obtain ⟨q3, q4, q5⟩ := G.bl h4
      exact bt (n_isa (mE_ok C a M X W a' G h5).1 q1 q2 q3 q4 (by cases t <;> decide +kernel) (pn_n q5) (pn_d q5) (neg h6)) rfl
    · cases h
  | .mt m o es, M, X, W, e, G, h => by
    replace h : (match (generalizing := false) e with
      | .Call (.Attribute o' name apos) (x1 :: xs) [] cpos => decide (name = m.name) && mE o M o' && mEs es M (x1 :: xs) && notSuper o' && noStars (x1 :: xs) && decide ((x1 :: xs).length < 29) && (apos.endLine == cpos.line)
      | _ => false) = true := h
    split at h
    · rename_i o' name apos x1 xs cpos
      obtain ⟨h, h7⟩ := nxt h
      obtain ⟨h, h6⟩ := nxt h
      obtain ⟨h, h5⟩ := nxt h
      obtain ⟨h, h4⟩ := nxt h
      obtain ⟨h, h3⟩ := nxt h
      obtain ⟨h1, h2⟩ := nxt h
      exact bt (mt_ok G (by simpa using h1) (mE_ok C o M X W o' G h2).1 (mEs_ok C es M X W _ G h3).1 h4 h5 (by simpa using h6) h7) rfl
    · cases h
  | .mu m o es, M, X, W, e, G, h => by
    replace h : (match (generalizing := false) e with
      | .Call (.Attribute o' name apos) xs [] cpos => decide (name = m.name) && mE o M o' && mEs es M xs && notSuper o' && noStars xs && decide (xs.length < 29) && (apos.endLine == cpos.line)
      | _ => false) = true := h
    split at h
    · rename_i o' name apos xs cpos
      obtain ⟨h, h7⟩ := nxt h
      obtain ⟨h, h6⟩ := nxt h
      obtain ⟨h, h5⟩ := nxt h
      obtain ⟨h, h4⟩ := nxt h
      obtain ⟨h, h3⟩ := nxt h
      obtain ⟨h1, h2⟩ := nxt h
      have qs := (mEs_ok C es M X W _ G h3).1
      cases xs with
      | nil =>
        have he : es = .nil := by
          cases es with
          | nil => rfl
          | cons a r => cases h3
        exact bt (mu0_ok G (by simpa using h1) (mE_ok C o M X W o' G h2).1 qs he h4 h7) rfl
      | cons x1 xs => exact bt (mu_ok G (by simpa using h1) (mE_ok C o M X W o' G h2).1 qs h4 h5 (by simpa using h6) h7) rfl
    · cases h
  | .comp elt t it tt vs, M, X, W, e, G, h => by
    cases e with
    | ListComp elt' gs scope p =>
      match gs, h with
      | [⟨tg', iter', ifs', ia⟩], h =>
        have h : (decide (ia = 0) && mI it M tg' iter' && notSet iter' && blkC M.N M.sc scope (vs.map fun i => ((M.N[i]?).getD "", i)) && (slots t).all (fun i => decide (i ∈ vs)) && mG t (M.blk scope) tg' && mTs tt (M.blk scope) ifs' && mE elt (M.blk scope) elt') = true := h
        obtain ⟨h, h8⟩ := nxt h
        obtain ⟨h, h7⟩ := nxt h
        obtain ⟨h, h6⟩ := nxt h
        obtain ⟨h, h5⟩ := nxt h
        obtain ⟨h, h4⟩ := nxt h
        obtain ⟨h, h3⟩ := nxt h
        obtain ⟨h1, h2⟩ := nxt h
        have h1 : ia = 0 := by simpa using h1
        subst h1
        have B := blk_ok G (mI_ok C it M X W tg' iter' G h2) h3 h4 h5 h6 fun X W G => mTs_ok C tt _ X W ifs' G h7
        exact bt (n_frz (f_comp G.calm G.nd B.hi B.ok B.hv B.hs B.hg B.ht (fun s H Cc cl fp => (mE_ok C elt _ _ _ elt' (G.blk s H scope cl Cc fp) h8).1) B.hfs)) rfl
    | _ => cases h
  | .dcomp k v t it tt vs, M, X, W, e, G, h => by
    cases e with
    | DictComp k' v' gs scope p =>
      match gs, h with
      | [⟨tg', iter', ifs', ia⟩], h =>
        have h : (decide (ia = 0) && mI it M tg' iter' && notSet iter' && blkC M.N M.sc scope (vs.map fun i => ((M.N[i]?).getD "", i)) && (slots t).all (fun i => decide (i ∈ vs)) && mG t (M.blk scope) tg' && mTs tt (M.blk scope) ifs' && mE k (M.blk scope) k' && mE v (M.blk scope) v') = true := h
        obtain ⟨h, h9⟩ := nxt h
        obtain ⟨h, h8⟩ := nxt h
        obtain ⟨h, h7⟩ := nxt h
        obtain ⟨h, h6⟩ := nxt h
        obtain ⟨h, h5⟩ := nxt h
        obtain ⟨h, h4⟩ := nxt h
        obtain ⟨h, h3⟩ := nxt h
        obtain ⟨h1, h2⟩ := nxt h
        have h1 : ia = 0 := by simpa using h1
        subst h1
        have B := blk_ok G (mI_ok C it M X W tg' iter' G h2) h3 h4 h5 h6 fun X W G => mTs_ok C tt _ X W ifs' G h7
        exact bt (n_frz (f_dcomp G.calm G.nd B.hi B.ok B.hv B.hs B.hg B.ht (fun s H Cc cl fp => (mE_ok C k _ _ _ k' (G.blk s H scope cl Cc fp) h8).1) (fun s H Cc cl fp => (mE_ok C v _ _ _ v' (G.blk s H scope cl Cc fp) h9).1) B.hfs)) rfl
    | _ => cases h
  | .sortk a p b, M, X, W, e, G, h => by
    replace h : (match (generalizing := false) e with
      | .Call (.Name x _) [a'] [⟨some kw, .Lambda ps body scope _, _⟩] _ => M.lm && decide (x = "sorted") && decide (kw = "key") && mBlt M x && mE a M a' && !isStar a' && (oneParam ps).isSome && lamC M.N M.sc scope p ((oneParam ps).getD "") && mE b (M.lam scope) body
      | _ => false) = true := h
    split at h
    · rename_i x p1 a' kw ps body scope p2 p3 p4
      obtain ⟨h, h9⟩ := nxt h
      obtain ⟨h, h8⟩ := nxt h
      obtain ⟨h, h7⟩ := nxt h
      obtain ⟨h, h6⟩ := nxt h
      obtain ⟨h, h5⟩ := nxt h
      obtain ⟨h, h4⟩ := nxt h
      obtain ⟨h, h3⟩ := nxt h
      obtain ⟨h1, h2⟩ := nxt h
      have h2 : x = "sorted" := by simpa using h2
      have h3 : kw = "key" := by simpa using h3
      subst h2 h3
      obtain ⟨y, hy⟩ := Option.isSome_iff_exists.mp h7
      rw [hy] at h8
      have L : LamP X.N X.env.scope scope p y := by
        rw [G.N, G.sc]
        exact lamP_by h8
      obtain ⟨q1, q2, _⟩ := G.bl h4
      obtain ⟨r3, hT⟩ := G.lam h1
      exact bt (n_frz (f_sortk q1 q2 (mE_ok C a M X W a' G h5).1 (neg h6) G.nd r3 hT L hy fun s H f c' => (mE_ok C b _ _ _ body (G.inLam h1 L s H f c') h9).1)) rfl
    · cases h
  | .new (.lst es), M, X, W, e, G, h => by
    cases e with
    | List xs p =>
      have h : (mEs es M xs && noStars xs) = true := h
      exact bt (n_new (f_lst (mEs_ok C es M X W xs G (nxt h).1).1)) rfl
    | _ => cases h
  | .new (.dict ks), M, X, W, e, G, h => by
    cases e with
    | Dict xs ys p =>
      have h : (mKs ks M xs ys && decide (xs.length ≤ 15)) = true := h
      obtain ⟨h1, h2⟩ := nxt h
      exact bt (n_new (dict_ok (mKs_ok C ks M X W xs ys G h1) (by simpa using h2))) rfl
    | _ => cases h
  | .new (.comp elt t it tt vs), M, X, W, e, G, h => by
    cases e with
    | ListComp elt' gs scope p =>
      match gs, h with
      | [⟨tg', iter', ifs', ia⟩], h =>
        have h : (decide (ia = 0) && mI it M tg' iter' && notSet iter' && blkC M.N M.sc scope (vs.map fun i => ((M.N[i]?).getD "", i)) && (slots t).all (fun i => decide (i ∈ vs)) && mG t (M.blk scope) tg' && mTs tt (M.blk scope) ifs' && mE elt (M.blk scope) elt') = true := h
        obtain ⟨h, h8⟩ := nxt h
        obtain ⟨h, h7⟩ := nxt h
        obtain ⟨h, h6⟩ := nxt h
        obtain ⟨h, h5⟩ := nxt h
        obtain ⟨h, h4⟩ := nxt h
        obtain ⟨h, h3⟩ := nxt h
        obtain ⟨h1, h2⟩ := nxt h
        have h1 : ia = 0 := by simpa using h1
        subst h1
        have B := blk_ok G (mI_ok C it M X W tg' iter' G h2) h3 h4 h5 h6 fun X W G => mTs_ok C tt _ X W ifs' G h7
        exact bt (n_new (f_comp G.calm G.nd B.hi B.ok B.hv B.hs B.hg B.ht (fun s H Cc cl fp => (mE_ok C elt _ _ _ elt' (G.blk s H scope cl Cc fp) h8).1) B.hfs)) rfl
    | _ => cases h
  | .new (.dcomp k v t it tt vs), M, X, W, e, G, h => by
    cases e with
    | DictComp k' v' gs scope p =>
      match gs, h with
      | [⟨tg', iter', ifs', ia⟩], h =>
        have h : (decide (ia = 0) && mI it M tg' iter' && notSet iter' && blkC M.N M.sc scope (vs.map fun i => ((M.N[i]?).getD "", i)) && (slots t).all (fun i => decide (i ∈ vs)) && mG t (M.blk scope) tg' && mTs tt (M.blk scope) ifs' && mE k (M.blk scope) k' && mE v (M.blk scope) v') = true := h
        obtain ⟨h, h9⟩ := nxt h
        obtain ⟨h, h8⟩ := nxt h
        obtain ⟨h, h7⟩ := nxt h
        obtain ⟨h, h6⟩ := nxt h
        obtain ⟨h, h5⟩ := nxt h
        obtain ⟨h, h4⟩ := nxt h
        obtain ⟨h, h3⟩ := nxt h
        obtain ⟨h1, h2⟩ := nxt h
        have h1 : ia = 0 := by simpa using h1
        subst h1
        have B := blk_ok G (mI_ok C it M X W tg' iter' G h2) h3 h4 h5 h6 fun X W G => mTs_ok C tt _ X W ifs' G h7
        exact bt (n_new (f_dcomp G.calm G.nd B.hi B.ok B.hv B.hs B.hg B.ht (fun s H Cc cl fp => (mE_ok C k _ _ _ k' (G.blk s H scope cl Cc fp) h8).1) (fun s H Cc cl fp => (mE_ok C v _ _ _ v' (G.blk s H scope cl Cc fp) h9).1) B.hfs)) rfl
    | _ => cases h
  | .new (.bi b es), M, X, W, e, G, h => by
    replace h : (match (generalizing := false) e with
      | .Call fn (x1 :: xs) kw _ => (match fn, kw with
        | .Name x _, [] => (decide (b = .list) || decide (b = .dict)) && decide (x = b.name) && mBlt M x && mEs es M (x1 :: xs) && noStars (x1 :: xs)
        | _, _ => false)
      | _ => false) = true := h
    split at h
    · rename_i fn x1 xs kw p
      split at h
      · rename_i x p2
        obtain ⟨h, h5⟩ := nxt h
        obtain ⟨h, h4⟩ := nxt h
        obtain ⟨h, h3⟩ := nxt h
        obtain ⟨h1, h2⟩ := nxt h
        have h2 : x = b.name := by simpa using h2
        obtain ⟨q1, q2, q3⟩ := G.bl h3
        have qs := (mEs_ok C es M X W _ G h4).1
        rw [Bool.or_eq_true] at h1
        rcases h1 with h1 | h1
        · have h1 : b = .list := by simpa using h1
          subst h1 h2
          exact bt (n_new (f_biT (cbN_list G.calm) q1 q2 (by decide +kernel) qs (pn_n q3) (pn_d q3) h5)) rfl
        · have h1 : b = .dict := by simpa using h1
          subst h1 h2
          exact bt (n_new (f_biT (cbN_dict G.calm) q1 q2 (by decide +kernel) qs (pn_n q3) (pn_d q3) h5)) rfl
      · cases h
    · cases h
  | .new (.bin op a b), M, X, W, e, G, h => by
    cases e with
    | BinOp a' o b' p =>
      have h : (decide (op = .add) && decide (o = .Add) && mE a M a' && mE b M b') = true := h
      obtain ⟨h, h4⟩ := nxt h
      obtain ⟨h, h3⟩ := nxt h
      obtain ⟨h1, h2⟩ := nxt h
      have h1 : op = .add := by simpa using h1
      have h2 : o = .Add := by simpa using h2
      subst h1 h2
      exact bt (n_newN (N_cat (mE_ok C a M X W a' G h3).1 (mE_ok C b M X W b' G h4).1)) rfl
    | _ => cases h
  | .new (.slc a lo hi), M, X, W, e, G, h => by
    cases e with
    | Subscript a' s p =>
      cases s with
      | Slice lo' hi' st p2 =>
        cases st with
        | none =>
          have h : (mE a M a' && mO lo M lo' && mO hi M hi') = true := h
          obtain ⟨h, h3⟩ := nxt h
          obtain ⟨h1, h2⟩ := nxt h
          exact bt (n_newN (N_slc (mE_ok C a M X W a' G h1).1 (mO_ok C lo M X W lo' G h2) (mO_ok C hi M X W hi' G h3))) rfl
        | some z => cases h
      | _ => cases h
    | _ => cases h
  | .new (.var _), _, _, _, _, _, h => by cases h
  | .new (.glb _), _, _, _, _, _, h => by cases h
  | .new (.int _), _, _, _, _, _, h => by cases h
  | .new (.str _), _, _, _, _, _, h => by cases h
  | .new (.bl _), _, _, _, _, _, h => by cases h
  | .new .non, _, _, _, _, _, h => by cases h
  | .new (.neg _), _, _, _, _, _, h => by cases h
  | .new (.cmp _ _ _), _, _, _, _, _, h => by cases h
  | .new (.chain _ _ _ _ _), _, _, _, _, _, h => by cases h
  | .new (.and _ _), _, _, _, _, _, h => by cases h
  | .new (.or _ _), _, _, _, _, _, h => by cases h
  | .new (.not _), _, _, _, _, _, h => by cases h
  | .new (.ite _ _ _), _, _, _, _, _, h => by cases h
  | .new (.tup _), _, _, _, _, _, h => by cases h
  | .new (.ix _ _), _, _, _, _, _, h => by cases h
  | .new (.rev _), _, _, _, _, _, h => by cases h
  | .new (.call _ _), _, _, _, _, _, h => by cases h
  | .new (.isa _ _), _, _, _, _, _, h => by cases h
  | .new (.mt _ _ _), _, _, _, _, _, h => by cases h
  | .new (.mu _ _ _), _, _, _, _, _, h => by cases h
  | .new (.sortk a p b), M, X, W, e, G, h => by
    replace h : (match (generalizing := false) e with
      | .Call (.Name x _) [a'] [⟨some kw, .Lambda ps body scope _, _⟩] _ => M.lm && decide (x = "sorted") && decide (kw = "key") && mBlt M x && mE a M a' && !isStar a' && (oneParam ps).isSome && lamC M.N M.sc scope p ((oneParam ps).getD "") && mE b (M.lam scope) body
      | _ => false) = true := h
    split at h
    · rename_i x p1 a' kw ps body scope p2 p3 p4
      obtain ⟨h, h9⟩ := nxt h
      obtain ⟨h, h8⟩ := nxt h
      obtain ⟨h, h7⟩ := nxt h
      obtain ⟨h, h6⟩ := nxt h
      obtain ⟨h, h5⟩ := nxt h
      obtain ⟨h, h4⟩ := nxt h
      obtain ⟨h, h3⟩ := nxt h
      obtain ⟨h1, h2⟩ := nxt h
      have h2 : x = "sorted" := by simpa using h2
      have h3 : kw = "key" := by simpa using h3
      subst h2 h3
      obtain ⟨y, hy⟩ := Option.isSome_iff_exists.mp h7
      rw [hy] at h8
      have L : LamP X.N X.env.scope scope p y := by
        rw [G.N, G.sc]
        exact lamP_by h8
      obtain ⟨q1, q2, _⟩ := G.bl h4
      obtain ⟨r3, hT⟩ := G.lam h1
      exact bt (n_new (f_sortk q1 q2 (mE_ok C a M X W a' G h5).1 (neg h6) G.nd r3 hT L hy fun s H f c' => (mE_ok C b _ _ _ body (G.inLam h1 L s H f c') h9).1)) rfl
    · cases h
  | .new (.new _), _, _, _, _, _, h => by cases h
theorem mEs_ok (C : Ct) : ∀ (es : CEs) (M : ME) (X : Cx) (W : WX) (es' : List Expr), Good X M C W → mEs es M es' = true → BthS X C W es' es
  | .nil, M, X, W, es', G, h => by
    cases es' with
    | nil => exact ⟨a_nil, fun a a' p q => n_and1 q, fun a a' p q => n_or1 q, fun _ => ⟨fun a a' p q => t_and1 q, fun a a' p q => t_or1 q⟩⟩
    | cons e es' => cases h
  | .cons c r, M, X, W, es', G, h => by
    cases es' with
    | nil => cases h
    | cons e es' =>
      have h : (mE c M e && !isStar e && mEs r M es') = true := h
      obtain ⟨h, h3⟩ := nxt h
      obtain ⟨h1, h2⟩ := nxt h
      have qe := mE_ok C c M X W e G h1
      obtain ⟨r1, r2, r3, r4⟩ := mEs_ok C r M X W es' G h3
      refine ⟨a_cons qe.1 r1 (neg h2), fun a a' p q => n_andS q (r2 c e p qe.1), fun a a' p q => n_orS q (r3 c e p qe.1), fun hn => ?_⟩
      have hn : (!isIf e && noIfs es') = true := hn
      obtain ⟨n1, n2⟩ := nxt hn
      exact ⟨fun a a' p q => t_andS q ((r4 n2).1 c e p (qe.2 (neg n1))), fun a a' p q => t_orS q ((r4 n2).2 c e p (qe.2 (neg n1)))⟩
theorem mEd_ok (C : Ct) : ∀ (es : CEs) (M : ME) (X : Cx) (W : WX) (ks : List (Str × D)) (es' : List Expr), Good X M C W → mEd es M ks es' = true → ∃ a b, es = CEs.app a b ∧ PA X es' (tA X.K C W a) ∧ dfEs b ks = true
  | .nil, M, X, W, ks, es', G, h => by
    cases es' with
    | nil => exact ⟨.nil, .nil, rfl, a_nil, h⟩
    | cons e es' => cases h
  | .cons c r, M, X, W, ks, es', G, h => by
    cases es' with
    | nil => exact ⟨.nil, .cons c r, rfl, a_nil, h⟩
    | cons e es' =>
      have h : (mE c M e && !isStar e && mEd r M ks es') = true := h
      obtain ⟨h, h3⟩ := nxt h
      obtain ⟨h1, h2⟩ := nxt h
      have qe := mE_ok C c M X W e G h1
      obtain ⟨a, b, rfl, r1, r2⟩ := mEd_ok C r M X W ks es' G h3
      exact ⟨.cons c a, b, rfl, a_cons qe.1 r1 (neg h2), r2⟩
theorem mEq_ok (C : Ct) : ∀ (es : CEs) (M : ME) (X : Cx) (W : WX) (kws : List Keyword) (es' : List Expr), Good X M C W → mEq es M kws es' = true → ∃ a b, es = CEs.app a b ∧ PA X es' (tA X.K C W a) ∧ PK X kws (tA X.K C W b) ∧ b.len = kws.length
  | .nil, M, X, W, kws, es', G, h => by
    cases es' with
    | nil =>
      cases kws with
      | nil => exact ⟨.nil, .nil, rfl, a_nil, k_nil, rfl⟩
      | cons q kws => cases h
    | cons e es' => cases h
  | .cons c r, M, X, W, kws, es', G, h => by
    cases es' with
    | nil =>
      cases kws with
      | nil => cases h
      | cons q kws =>
        obtain ⟨nm, v, kp⟩ := q
        have h : (mE c M v && mEq r M kws []) = true := h
        obtain ⟨h1, h2⟩ := nxt h
        have qe := mE_ok C c M X W v G h1
        obtain ⟨b, r2, r3⟩ := mEk_ok C r M X W kws G h2
        exact ⟨.nil, .cons c r, rfl, a_nil, k_cons qe.1 b, by show r.len + 1 = kws.length + 1; rw [r2]⟩
    | cons e es' =>
      have h : (mE c M e && !isStar e && mEq r M kws es') = true := h
      obtain ⟨h, h3⟩ := nxt h
      obtain ⟨h1, h2⟩ := nxt h
      have qe := mE_ok C c M X W e G h1
      obtain ⟨a, b, rfl, r1, r2, r3⟩ := mEq_ok C r M X W kws es' G h3
      exact ⟨.cons c a, b, rfl, a_cons qe.1 r1 (neg h2), r2, r3⟩
theorem mEk_ok (C : Ct) : ∀ (es : CEs) (M : ME) (X : Cx) (W : WX) (kws : List Keyword), Good X M C W → mEq es M kws [] = true → PK X kws (tA X.K C W es) ∧ es.len = kws.length ∧ True
  | .nil, M, X, W, kws, G, h => by
    cases kws with
    | nil => exact ⟨k_nil, rfl, trivial⟩
    | cons q kws => cases h
  | .cons c r, M, X, W, kws, G, h => by
    cases kws with
    | nil => cases h
    | cons q kws =>
      obtain ⟨nm, v, kp⟩ := q
      have h : (mE c M v && mEq r M kws []) = true := h
      obtain ⟨h1, h2⟩ := nxt h
      have qe := mE_ok C c M X W v G h1
      obtain ⟨b, r2, _⟩ := mEk_ok C r M X W kws G h2
      exact ⟨k_cons qe.1 b, by show r.len + 1 = kws.length + 1; rw [r2], trivial⟩
theorem mKs_ok (C : Ct) : ∀ (ks : CKs) (M : ME) (X : Cx) (W : WX) (keys : List (Option Expr)) (vals : List Expr), Good X M C W → mKs ks M keys vals = true → BthK X C W keys vals ks
  | .nil, M, X, W, keys, vals, G, h => by
    cases keys with
    | nil =>
      cases vals with
      | nil => exact ⟨fun _ => pps_nil, rfl, rfl, fun _ => ⟨rfl, rfl⟩⟩
      | cons v vs => cases h
    | cons k ks => cases vals <;> cases h
  | .cons k v r, M, X, W, keys, vals, G, h => by
    cases keys with
    | nil => cases vals <;> cases h
    | cons k' keys =>
      cases vals with
      | nil => cases k' <;> cases h
      | cons v' vals =>
        cases k' with
        | none => cases h
        | some k' =>
          have h : (mE k M k' && mE v M v' && mKs r M keys vals) = true := h
          obtain ⟨h, h3⟩ := nxt h
          obtain ⟨h1, h2⟩ := nxt h
          obtain ⟨q1, q2, q3, q4⟩ := mKs_ok C r M X W keys vals G h3
          exact ⟨fun p => pps_cons (mE_ok C k M X W k' G h1).1 (mE_ok C v M X W v' G h2).1 (q1 p), by rw [List.all_cons, q2]; rfl, congrArg (· + 1) q3, nofun⟩
theorem mO_ok (C : Ct) : ∀ (o : CEo) (M : ME) (X : Cx) (W : WX) (e : Option Expr), Good X M C W → mO o M e = true → PO X e (tO X.K C W o)
  | .no, M, X, W, e, G, h => by
    cases e with
    | none => exact o_no
    | some e => cases h
  | .yes a, M, X, W, e, G, h => by
    cases e with
    | none => cases h
    | some e => exact o_yes (mE_ok C a M X W e G h).1
theorem mTs_ok (C : Ct) : ∀ (o : CEo) (M : ME) (X : Cx) (W : WX) (e : List Expr), Good X M C W → mTs o M e = true → PTs X e (tTs X.K C W o)
  | .no, M, X, W, e, G, h => by
    cases e with
    | nil => exact ts_no
    | cons e es => cases h
  | .yes a, M, X, W, e, G, h => by
    match e, h with
    | [e], h =>
      have h : (mE a M e && !isIf e) = true := h
      obtain ⟨h1, h2⟩ := nxt h
      exact ts_yes ((mE_ok C a M X W e G h1).2 (neg h2))
theorem mI_ok (C : Ct) : ∀ (it : CI) (M : ME) (X : Cx) (W : WX) (t e : Expr), Good X M C W → mI it M t e = true → PI X t e (iS X.K C W it)
  | .seq a, M, X, W, t, e, G, h => i_seq (mE_ok C a M X W e G h).1
  | .range a, M, X, W, t, e, G, h => by
    replace h : (match (generalizing := false) e with
      | .Call (.Name x _) [a'] [] _ => decide (x = "range") && mBlt M x && mE a M a' && !isStar a'
      | _ => false) = true := h
    split at h
    · rename_i x p1 a' p2
      obtain ⟨h, h4⟩ := nxt h
      obtain ⟨h, h3⟩ := nxt h
      obtain ⟨h1, h2⟩ := nxt h
      have h1 : x = "range" := by simpa using h1
      subst h1
      obtain ⟨q1, q2, _⟩ := G.bl h2
      exact i_range q1 q2 (mE_ok C a M X W a' G h3).1 (neg h4)
    · cases h
  | .range2 a b, M, X, W, t, e, G, h => by
    replace h : (match (generalizing := false) e with
      | .Call (.Name x _) [a', b'] [] _ => decide (x = "range") && mBlt M x && mE a M a' && mE b M b' && !isStar a' && !isStar b'
      | _ => false) = true := h
    split at h
    · rename_i x p1 a' b' p2
      obtain ⟨h, h6⟩ := nxt h
      obtain ⟨h, h5⟩ := nxt h
      obtain ⟨h, h4⟩ := nxt h
      obtain ⟨h, h3⟩ := nxt h
      obtain ⟨h1, h2⟩ := nxt h
      have h1 : x = "range" := by simpa using h1
      subst h1
      obtain ⟨q1, q2, _⟩ := G.bl h2
      exact i_range2 q1 q2 (mE_ok C a M X W a' G h3).1 (mE_ok C b M X W b' G h4).1 (neg h5) (neg h6)
    · cases h
  | .enum a, M, X, W, t, e, G, h => by
    replace h : (match (generalizing := false) t, e with
      | .Tuple _ _ _, .Call (.Name x _) [a'] [] _ => decide (x = "enumerate") && mBlt M x && mE a M a' && !isStar a'
      | _, _ => false) = true := h
    split at h
    · rename_i t1 t2 t3 x p1 a' p2
      obtain ⟨h, h4⟩ := nxt h
      obtain ⟨h, h3⟩ := nxt h
      obtain ⟨h1, h2⟩ := nxt h
      have h1 : x = "enumerate" := by simpa using h1
      subst h1
      obtain ⟨q1, q2, _⟩ := G.bl h2
      exact i_enum q1 q2 (mE_ok C a M X W a' G h3).1 (neg h4)
    · cases h
  | .zip a b, M, X, W, t, e, G, h => by
    replace h : (match (generalizing := false) t, e with
      | .Tuple _ _ _, .Call (.Name x _) [a', b'] [] _ => decide (x = "zip") && mBlt M x && mE a M a' && mE b M b' && !isStar a' && !isStar b'
      | _, _ => false) = true := h
    split at h
    · rename_i t1 t2 t3 x p1 a' b' p2
      obtain ⟨h, h6⟩ := nxt h
      obtain ⟨h, h5⟩ := nxt h
      obtain ⟨h, h4⟩ := nxt h
      obtain ⟨h, h3⟩ := nxt h
      obtain ⟨h1, h2⟩ := nxt h
      have h1 : x = "zip" := by simpa using h1
      subst h1
      obtain ⟨q1, q2, _⟩ := G.bl h2
      exact i_zip q1 q2 (mE_ok C a M X W a' G h3).1 (mE_ok C b M X W b' G h4).1 (neg h5) (neg h6)
    · cases h
end
end Mi
end

section
set_option Elab.async false
set_option linter.all false
set_option maxRecDepth 100000
set_option maxHeartbeats 8000000
set_option autoImplicit false
/-! Mi25: statements held against their terms. -/
namespace Mi
open PySem L2 RZ PySem.Spec PySem.Calls PyProof.Rows
variable [TbT]
section
variable {X : Cx} {C : Ct} {W : WX} {pos : Pos}
/-! ### name = {k: v for ..} on one line -/
theorem s_setDc {i : Nat} {y : Str} {py : Pos} {nw : Bool} {k v : CE} {t : CT} {it : CI} {tt : CEo} {vs : List Nat} {k' v' tg' iter' : Expr} {ifs' : List Expr} {scope : Scope} {own : List (Str × Nat)} {cpos : Pos} (hc : X.calm = true) (hN : X.N.Nodup) (hy : X.N[i]? = some y) (hyl : X.env.scope.names.lookup y = some .local)
    (hsw : swapsWith (.DictComp k' v' [⟨tg', iter', ifs', 0⟩] scope cpos) (some (.Name y py)) pos.line X.env = pure true) (B : Blk X C W t it tt vs tg' iter' ifs' scope own)
    (hk : ∀ (s : Shared) (H : Hp) (Cc : Addr) (cl : List (Str × Addr)) (fp : List Addr), PE (X.blk s H scope (compEnvC scope cl Cc X.env) fp) k' (tI X.K C WF k))
    (he : ∀ (s : Shared) (H : Hp) (Cc : Addr) (cl : List (Str × Addr)) (fp : List Addr), PE (X.blk s H scope (compEnvC scope cl Cc X.env) fp) v' (tI X.K C WF v)) :
    PS X (.Assign [.Name y py] (.DictComp k' v' [⟨tg', iter', ifs', 0⟩] scope cpos) pos) (tS X.K C W (.set i (if nw then .new (.dcomp k v t it tt vs) else .dcomp k v t it tt vs))) := by
  obtain ⟨hi, ok, hv, hs, hg, ht, hfs⟩ := B
  subst hv
  refine ⟨fun pins s σ H D I h => ?_⟩
  have h : tDc (iS X.K C W it) (gI X.K t) (tTs X.K C WF tt) (tI X.K C WF k) (tI X.K C WF v) (own.map (·.2)) σ H (fun x H1 => gName i x σ H1 D.nx) := by
    have h := set_of h
    cases nw with
    | false => exact dcomp_tDc hs (frz_of h)
    | true => exact dcomp_tDc hs (new_of h)
  rw [exec_Assign_Name_used _ _ _ _ hsw]
  refine wpAny_bind (wpAny_standAt (wpAny_bind ?_))
  show wpAny _ X.A (do let _ ← comprehension (.DictComp k' v' [⟨tg', iter', ifs', 0⟩] scope cpos) scope X.env (firstIterPos [⟨tg', iter', ifs', 0⟩] cpos) newDict false (eval iter' X.env) (some (assign (.Name y py) X.env))) _ _ s
  refine wpAny_bind (L2.thn (dc_core (Qf := fun _ s' => SP X pins D .next s') hc hN I hi ok hg ht hk he hfs h fun L Cc s' m H' I' q hn f => ?_) fun _ s' hq => wpAny_pure (wpAny_pure hq))
  show wpAny _ _ (assign (.Name y py) X.env (.ref L)) _ _ _
  refine wpAny_assign_Name (store_ok2 (v := V.ref L) I' hN hy (.inl hyl) rfl (fun s2 I2 ⟨a, sb, ha⟩ => ?_) (.inr hyl))
  obtain ⟨f0, f1, f2, f3, f4, f5⟩ := f
  have haC : Cc ≠ a := by
    rcases ha with z | z
    · rw [z]; exact f1
    · exact fun e => f4 y a z e.symm
  exact ⟨m, hn.sameBut sb haC, fun h3 sb3 => ⟨_, H', I2.turned (t' := s2.toks) (fun b o hb e => (sb3.2 b hb).trans e) f0 f1 f3 f4 f5, q⟩⟩
theorem sw_trueD {k' v' : Expr} {gs : List Comprehension} {scope : Scope} {p py : Pos} {y : Str} {l : Nat} {env : Env} (hk : env.scope.kind = .function) (hy : env.scope.names.lookup y = some .local) (hl : (py.line == p.line) = true)
    (ha : (scope.names.any fun (n, k) => n == y && (k == .local || k == .cell)) = false) : swapsWith (.DictComp k' v' gs scope p) (some (.Name y py)) l env = pure true := by
  have ky : env.kindOf y = some .local := hy
  have hb : env.blockKind = .function := by unfold Env.blockKind; rw [hk]; rfl
  unfold swapsWith
  simp only [hb, ky, ha, Expr.pos, hl]
  rfl
def isComp : Expr → Bool
  | .ListComp _ _ _ _ => true
  | .SetComp _ _ _ _ => true
  | .DictComp _ _ _ _ _ => true
  | _ => false
theorem sw_no {e : Expr} (h : isComp e = false) (t : Option Expr) (l : Nat) (env : Env) : swapsWith e t l env = pure false := by
  cases e <;> first | rfl | cases h
theorem sole_no {e t : Expr} (h : isComp e = false) (l : Nat) (env : Env) : swapsWithSole [t] e l env = pure false := sw_no h (some t) l env
/-! ### a, b, c = x, y, z -/
theorem s_par3 {i j k : Nat} {x y z : Str} {a b c : CE} {a' b' c' : Expr} {px py pz pt : Pos} {kt k2 pt2} (hc : X.calm = true) (hN : X.N.Nodup) (hi : X.N[i]? = some x) (hj : X.N[j]? = some y) (hk : X.N[k]? = some z) (hij : i ≠ j) (hik : i ≠ k) (hjk : j ≠ k)
    (hx : X.env.scope.names.lookup x = some .local) (hy : X.env.scope.names.lookup y = some .local) (hz : X.env.scope.names.lookup z = some .local) (ha : PA X [a', b', c'] (tA X.K C W (.cons a (.cons b (.cons c .nil)))))
    (hw : swappedStores [.Tuple [.Name x px, .Name y py, .Name z pz] kt pt] (.Tuple [a', b', c'] k2 pt2) X.env = pure (some [x, y, z])) :
    PS X (.Assign [.Tuple [.Name x px, .Name y py, .Name z pz] kt pt] (.Tuple [a', b', c'] k2 pt2) pos) (tS X.K C W (.par [i, j, k] (.cons a (.cons b (.cons c .nil))))) := by
  refine ⟨fun pins s σ H D I h => ?_⟩
  obtain ⟨F, e, R, P⟩ := h
  have h : tA X.K C W (.cons a (.cons b (.cons c .nil))) σ H (fun vs H1 => ∃ u v w, vs = [u, v, w] ∧ D.nx (((σ.set i (some u)).set j (some v)).set k (some w)) H1) := by
    refine ⟨F, e, R, (PostS.run P).mono fun ds e1 F1 H1 he R1 X1 P1 vs rvs => ?_⟩
    obtain ⟨e2, h2, P2⟩ := PostS.of_ P1
    have hl := evEs_len _ _ _ _ he
    match ds, rvs, h2, hl with
    | [d1, d2, d3], rvs, h2, _ =>
      have h2 : (put i d1 e1).bind (fun e => (put j d2 e).bind fun e => (put k d3 e).bind fun e => puts [] [] e) = some e2 := h2
      obtain ⟨e3, h3, h2⟩ := bind1 h2
      obtain ⟨e4, h4, h2⟩ := bind1 h2
      obtain ⟨e5, h5, h2⟩ := bind1 h2
      cases h2
      cases rvs with
      | cons r1 rvs =>
        obtain ⟨v, w, rfl, r2, r3⟩ := reps_two rvs
        exact ⟨_, v, w, rfl, P2 F1 H1 _ (((R1.put h3 r1).put h4 r2).put h5 r3) .refl⟩
  rw [exec_Assign_arm]
  refine wpAny_bind (wpAny_standAt ?_)
  rw [sole_no rfl]
  refine wpAny_bind (wpAny_pure ?_)
  rw [if_neg (by decide)]
  refine wpAny_bind (Tuple_ (L2.thn (ha.run _ pins s σ H _ I h) fun us s1 ⟨vs, H1, I1, r1, q1⟩ => ?_))
  obtain ⟨u, v, w, rfl, q1⟩ := q1
  obtain ⟨u1, u2, u3, rfl, ru, rv, rw'⟩ : ∃ u1 u2 u3, us = [u1, u2, u3] ∧ RelV u u1 ∧ RelV v u2 ∧ RelV w u3 := by
    cases r1 with
    | cons p q =>
      cases q with
      | cons p' q' =>
        cases q' with
        | cons p2 q2 =>
          cases q2
          exact ⟨_, _, _, rfl, p, p', p2⟩
  refine wpAny_newObj_type ?_ (by show 3 ≤ sizeLine; decide)
  have I2 : Inv X pins σ H1 { s1 with heap := s1.heap.push { cls := .type "tuple", data := .seq [u1, u2, u3].toArray } } := I1.kept (t' := s1.toks) fun b o e => Heap.get?_push_of_some _ e
  rw [hw]
  refine wpAny_bind (wpAny_pure ?_)
  show wpAny (model X.prog X.w) X.A (do rule "assign.swapped-stores"; let items ← unpackItems (.ref s1.heap.objs.size) 3 none; assignInOrder [fun v => bindName X.env z v, fun v => bindName X.env y v, fun v => bindName X.env x v] items.reverse; pure Flow.next) _ _ _
  refine wpAny_bind (wpAny_rule (wpAny_bind (unpackItems_tuple (items := #[u1, u2, u3]) (I.ok.hd hc) (IsTup.new s1.heap _) fun h' hx' => ?_)))
  have I3 := I2.kept (h' := h') (t' := s1.toks) fun b o e => hx' b o (Nat.ne_of_lt (Heap.lt_size e)) e
  show wpAny _ _ (assignInOrder [fun v => bindName X.env z v, fun v => bindName X.env y v, fun v => bindName X.env x v] [u3, u2, u1] >>= fun _ => pure Flow.next) _ _ _
  refine wpAny_bind (assignInOrder_cons (wpAny_bindName (store_ok I3 hN hk (.inl hz) rw' (fun s2 I4 => ?_) (.inr hz))))
  refine assignInOrder_cons (wpAny_bindName (store_ok I4 hN hj (.inl hy) rv (fun s3 I5 => ?_) (.inr hy)))
  refine assignInOrder_cons (wpAny_bindName (store_ok I5 hN hi (.inl hx) ru (fun s4 I6 => assignInOrder_nil (wpAny_pure ?_)) (.inr hx)))
  have e1 : ((σ.set k (some w)).set j (some v)).set i (some u) = ((σ.set i (some u)).set j (some v)).set k (some w) := by
    rw [List.set_comm _ _ (Ne.symm hij), List.set_comm _ _ (Ne.symm hik), List.set_comm _ _ (Ne.symm hjk)]
  rw [e1] at I6
  exact ⟨_, H1, I6, q1⟩
/-- what makes two or three stores go from the right -/
def swp (M : ME) (xs : List (Str × Pos)) (vs : List Expr) : Bool :=
  xs.all (fun x => isLo (M.kind x.1) && x.2.line == ((xs.head?.map (·.2.line)).getD 0)) && decide ((xs.map (·.1)).Nodup) && noStars vs && !(vs.all (foldedForSure 8)) && !(vs.all (constantsAlone 8)) && (match M.sc.kind with | .function => true | _ => false)
theorem noStar_any : ∀ {vs : List Expr}, noStars vs = true → (vs.any fun | .Starred .. => true | _ => false) = false
  | [], _ => rfl
  | v :: vs, h => by
    have h : (!isStar v && noStars vs) = true := h
    obtain ⟨h1, h2⟩ := nxt h
    rw [List.any_cons, noStar_any h2]
    cases v <;> first | rfl | cases h1
end
section
variable {X : Cx} {M : ME} {C : Ct} {W : WX} {pos : Pos}
theorem swp_two (G : Good X M C W) {x y : Str} {px py pt pt2 : Pos} {kt k2 : Nat} {a b : Expr} (h : swp M [(x, px), (y, py)] [a, b] = true) :
    swappedStores [.Tuple [.Name x px, .Name y py] kt pt] (.Tuple [a, b] k2 pt2) X.env = pure (some [x, y]) ∧ X.env.scope.names.lookup x = some .local ∧ X.env.scope.names.lookup y = some .local ∧ x ≠ y := by
  obtain ⟨h, h6⟩ := nxt h
  obtain ⟨h, h5⟩ := nxt h
  obtain ⟨h, h4⟩ := nxt h
  obtain ⟨h, h3⟩ := nxt h
  obtain ⟨h1, h2⟩ := nxt h
  have h1 : (isLo (M.kind x) && px.line == px.line && (isLo (M.kind y) && py.line == px.line && true)) = true := h1
  obtain ⟨h1, h7⟩ := nxt h1
  obtain ⟨hx, _⟩ := nxt h1
  obtain ⟨h7, _⟩ := nxt h7
  obtain ⟨hy, hl⟩ := nxt h7
  have lx := G.lo hx
  have ly := G.lo hy
  have kx : X.env.kindOf x = some .local := lx
  have ky : X.env.kindOf y = some .local := ly
  have hn : x ≠ y := by
    have h2 : decide ([x, y].Nodup) = true := h2
    simp at h2
    exact h2
  have hk : X.env.scope.kind = .function := by
    rw [G.sc]
    split at h6
    · assumption
    · cases h6
  have hb : X.env.blockKind = .function := by unfold Env.blockKind; rw [hk]; rfl
  refine ⟨?_, lx, ly, hn⟩
  have e1 := noStar_any h3
  have e4 : [a, b].all (foldedForSure 8) = false := neg h4
  have e5 : [a, b].all (constantsAlone 8) = false := neg h5
  have ed : ([x, y] : List Str).eraseDups = [x, y] := by
    rw [List.eraseDups_cons]
    have : (y == x) = false := beq_eq_false_iff_ne.mpr (Ne.symm hn)
    simp [this, List.eraseDups_cons]
  unfold swappedStores
  simp only [hb, e4, e5, kx, ky, Expr.pos, List.head?_cons, Option.map_some, Option.getD_some, List.filterMap_cons, List.filterMap_nil, hl, beq_self_eq_true, Bool.and_self, Bool.true_and, List.length_cons, List.length_nil, if_true, ed]
  rw [if_neg (by decide), if_neg (fun z => absurd (z.symm.trans e1) (by decide)), if_neg (by decide), if_neg (by decide), if_neg (by decide)]
theorem swp_three (G : Good X M C W) {x y z : Str} {px py pz pt pt2 : Pos} {kt k2 : Nat} {a b c : Expr} (h : swp M [(x, px), (y, py), (z, pz)] [a, b, c] = true) :
    swappedStores [.Tuple [.Name x px, .Name y py, .Name z pz] kt pt] (.Tuple [a, b, c] k2 pt2) X.env = pure (some [x, y, z]) ∧ X.env.scope.names.lookup x = some .local ∧ X.env.scope.names.lookup y = some .local ∧ X.env.scope.names.lookup z = some .local ∧ x ≠ y ∧ x ≠ z ∧ y ≠ z := by
  obtain ⟨h, h6⟩ := nxt h
  obtain ⟨h, h5⟩ := nxt h
  obtain ⟨h, h4⟩ := nxt h
  obtain ⟨h, h3⟩ := nxt h
  obtain ⟨h1, h2⟩ := nxt h
  have h1 : (isLo (M.kind x) && px.line == px.line && (isLo (M.kind y) && py.line == px.line && (isLo (M.kind z) && pz.line == px.line && true))) = true := h1
  obtain ⟨h1, h7⟩ := nxt h1
  obtain ⟨hx, _⟩ := nxt h1
  obtain ⟨h7, h8⟩ := nxt h7
  obtain ⟨hy, hl⟩ := nxt h7
  obtain ⟨h8, _⟩ := nxt h8
  obtain ⟨hz, hl2⟩ := nxt h8
  have lx := G.lo hx
  have ly := G.lo hy
  have lz := G.lo hz
  have kx : X.env.kindOf x = some .local := lx
  have ky : X.env.kindOf y = some .local := ly
  have kz : X.env.kindOf z = some .local := lz
  have hn : (x ≠ y ∧ x ≠ z) ∧ y ≠ z := by
    have h2 : decide ([x, y, z].Nodup) = true := h2
    simp at h2
    exact h2
  have hk : X.env.scope.kind = .function := by
    rw [G.sc]
    split at h6
    · assumption
    · cases h6
  have hb : X.env.blockKind = .function := by unfold Env.blockKind; rw [hk]; rfl
  refine ⟨?_, lx, ly, lz, hn.1.1, hn.1.2, hn.2⟩
  have e1 := noStar_any h3
  have e4 : [a, b, c].all (foldedForSure 8) = false := neg h4
  have e5 : [a, b, c].all (constantsAlone 8) = false := neg h5
  have ed : ([x, y, z] : List Str).eraseDups = [x, y, z] := by
    have q1 : (y == x) = false := beq_eq_false_iff_ne.mpr (Ne.symm hn.1.1)
    have q2 : (z == x) = false := beq_eq_false_iff_ne.mpr (Ne.symm hn.1.2)
    have q3 : (z == y) = false := beq_eq_false_iff_ne.mpr (Ne.symm hn.2)
    rw [List.eraseDups_cons]
    simp [q1, q2, q3, List.eraseDups_cons]
  unfold swappedStores
  simp only [hb, e4, e5, kx, ky, kz, Expr.pos, List.head?_cons, Option.map_some, Option.getD_some, List.filterMap_cons, List.filterMap_nil, hl, hl2, beq_self_eq_true, Bool.and_self, Bool.true_and, List.length_cons, List.length_nil, if_true, ed]
  rw [if_neg (by decide), if_neg (fun z => absurd (z.symm.trans e1) (by decide)), if_neg (by decide), if_neg (by decide), if_neg (by decide)]
/-! ### the matcher of statements -/
/-- a comprehension's value stored straight into a local name of its line -/
def mSw (M : ME) (x : Str) (px : Pos) (scope : Scope) (cpos : Pos) : Bool :=
  isLo (M.kind x) && (px.line == cpos.line) && !(scope.names.any fun (n, k) => n == x && (k == .local || k == .cell)) && (match M.sc.kind with | .function => true | _ => false)
def compOf : CE → Option CE
  | .comp a b c d e => some (.comp a b c d e)
  | .dcomp a b c d e f => some (.dcomp a b c d e f)
  | .new (.comp a b c d e) => some (.comp a b c d e)
  | .new (.dcomp a b c d e f) => some (.dcomp a b c d e f)
  | _ => none
def mSet (M : ME) (i : Nat) (a : CE) (x : Str) (px : Pos) (e : Expr) : Bool :=
  decide (M.N[i]? = some x) && isLoc (M.kind x) && (M.fn x || isLo (M.kind x)) && mE a M e &&
  (match e with
    | .ListComp _ _ scope cpos => !(isLo (M.kind x) && (px.line == cpos.line)) || (mSw M x px scope cpos && (compOf a).isSome)
    | .DictComp _ _ _ scope cpos => !(isLo (M.kind x) && (px.line == cpos.line)) || (mSw M x px scope cpos && (compOf a).isSome)
    | .SetComp _ _ _ _ => false
    | _ => true)
/-- a plain local name of that line -/
def nmLo (M : ME) (line : Nat) : Expr → Bool
  | .Name x p => isLo (M.kind x) && p.line == line
  | _ => false
/-- no store out of turn -/
def plainSt (M : ME) (t v : Expr) : Bool := match t with
  | .Tuple ts _ _ => (match v with
    | .Tuple vs _ _ => !(ts.length == 2 || ts.length == 3) || decide (vs.length ≠ ts.length) || !(ts.all (nmLo M ((ts.head?.map (·.pos.line)).getD 0)))
    | _ => true)
  | .List _ _ => false
  | _ => true
mutual
def mS : CS → ME → Stmt → Bool
  | .set i a, M, s => match s with
    | .Assign [.Name x px] e _ => mSet M i a x px e
    | _ => false
  | .par is rs, M, s => match s with
    | .Assign [.Tuple ts _ _] (.Tuple vs _ _) _ => mEs rs M vs && (match is, ts, vs with
      | [i, j], [.Name x px, .Name y py], [a, b] => decide (M.N[i]? = some x) && decide (M.N[j]? = some y) && swp M [(x, px), (y, py)] [a, b]
      | [i, j, k], [.Name x px, .Name y py, .Name z pz], [a, b, c] => decide (M.N[i]? = some x) && decide (M.N[j]? = some y) && decide (M.N[k]? = some z) && swp M [(x, px), (y, py), (z, pz)] [a, b, c]
      | _, _, _ => false)
    | _ => false
  | .unp t a, M, s => match s with
    | .Assign [t'] e _ => mG t M t' && mE a M e && !isComp e && plainSt M t' e && !isStar t'
    | _ => false
  | .sub a k v, M, s => match s with
    | .Assign [.Subscript a' k' _] e _ => mE a M a' && mE k M k' && mE v M e && !isSlice k' && !isComp e
    | _ => false
  | .aug i op a, M, s => match s with
    | .AugAssign (.Name x _) o e _ => decide (M.N[i]? = some x) && isLoc (M.kind x) && (M.fn x || isLo (M.kind x)) && decide (o = op.py) && (decide (op = .add) || decide (op = .sub)) && mE a M e
    | _ => false
  | .expr a, M, s => match s with
    | .Expr e _ => mE a M e && !isComp e
    | _ => false
  | .ret a, M, s => match s with
    | .Return (some e) _ => mE a M e
    | _ => false
  | .retn, _, s => match s with
    | .Return none _ => true
    | _ => false
  | .pass, _, s => match s with
    | .Pass _ => true
    | .Expr (.Constant (.str _) _ _) _ => true
    | _ => false
  | .cond c a b, M, s => match s with
    | .If c' a' b' _ => mE c M c' && !isIf c' && mSs a M a' && mSs b M b'
    | _ => false
  | .whil c b, M, s => match s with
    | .While c' b' [] _ => mE c M c' && !isIf c' && mSs b M b'
    | _ => false
  | .fr t it b, M, s => match s with
    | .For t' it' b' [] _ => mG t M t' && mI it M t' it' && notSet it' && mSs b M b'
    | _ => false
  | .brk, _, s => match s with
    | .Break _ => true
    | _ => false
  | .cont, _, s => match s with
    | .Continue _ => true
    | _ => false
  | .never, _, _ => true
def mSs : CSs → ME → List Stmt → Bool
  | .nil, _, ss => match ss with
    | [] => true
    | _ => false
  | .cons a r, M, ss => match ss with
    | s :: ss => mS a M s && mSs r M ss
    | [] => false
end
end
end Mi
end

section
set_option Elab.async false
set_option linter.all false
set_option maxRecDepth 100000
set_option maxHeartbeats 8000000
set_option autoImplicit false
/-! Mi26: statements held against their terms do what they say. -/
namespace Mi
open PySem L2 RZ PySem.Spec PySem.Calls PyProof.Rows
variable [TbT]
section
variable {X : Cx} {M : ME} {C : Ct} {W : WX} {pos : Pos}
theorem comp_parts (G : Good X M C W) {elt : CE} {t : CT} {it : CI} {tt : CEo} {vs : List Nat} {elt' : Expr} {gs : List Comprehension} {scope : Scope} {p : Pos} (h : mE (.comp elt t it tt vs) M (.ListComp elt' gs scope p) = true) :
    ∃ tg' iter' ifs', gs = [⟨tg', iter', ifs', 0⟩] ∧ Blk X C W t it tt vs tg' iter' ifs' scope (vs.map fun i => ((M.N[i]?).getD "", i)) ∧ ∀ (s : Shared) (H : Hp) (Cc : Addr) (cl : List (Str × Addr)) (fp : List Addr), PE (X.blk s H scope (compEnvC scope cl Cc X.env) fp) elt' (tI X.K C WF elt) := by
  match gs, h with
  | [⟨tg', iter', ifs', ia⟩], h =>
    replace h : (decide (ia = 0) && mI it M tg' iter' && notSet iter' && blkC M.N M.sc scope (vs.map fun i => ((M.N[i]?).getD "", i)) && (slots t).all (fun i => decide (i ∈ vs)) && mG t (M.blk scope) tg' && mTs tt (M.blk scope) ifs' && mE elt (M.blk scope) elt') = true := h
    obtain ⟨h, h8⟩ := nxt h
    obtain ⟨h, h7⟩ := nxt h
    obtain ⟨h, h6⟩ := nxt h
    obtain ⟨h, h5⟩ := nxt h
    obtain ⟨h, h4⟩ := nxt h
    obtain ⟨h, h3⟩ := nxt h
    obtain ⟨h1, h2⟩ := nxt h
    have h1 : ia = 0 := by simpa using h1
    subst h1
    exact ⟨tg', iter', ifs', rfl, blk_ok G (mI_ok C it M X W tg' iter' G h2) h3 h4 h5 h6 fun X W G => mTs_ok C tt _ X W ifs' G h7, fun s H Cc cl fp => (mE_ok C elt _ _ _ elt' (G.blk s H scope cl Cc fp) h8).1⟩
theorem dcomp_parts (G : Good X M C W) {k v : CE} {t : CT} {it : CI} {tt : CEo} {vs : List Nat} {k' v' : Expr} {gs : List Comprehension} {scope : Scope} {p : Pos} (h : mE (.dcomp k v t it tt vs) M (.DictComp k' v' gs scope p) = true) :
    ∃ tg' iter' ifs', gs = [⟨tg', iter', ifs', 0⟩] ∧ Blk X C W t it tt vs tg' iter' ifs' scope (vs.map fun i => ((M.N[i]?).getD "", i)) ∧ (∀ (s : Shared) (H : Hp) (Cc : Addr) (cl : List (Str × Addr)) (fp : List Addr), PE (X.blk s H scope (compEnvC scope cl Cc X.env) fp) k' (tI X.K C WF k)) ∧
      ∀ (s : Shared) (H : Hp) (Cc : Addr) (cl : List (Str × Addr)) (fp : List Addr), PE (X.blk s H scope (compEnvC scope cl Cc X.env) fp) v' (tI X.K C WF v) := by
  match gs, h with
  | [⟨tg', iter', ifs', ia⟩], h =>
    replace h : (decide (ia = 0) && mI it M tg' iter' && notSet iter' && blkC M.N M.sc scope (vs.map fun i => ((M.N[i]?).getD "", i)) && (slots t).all (fun i => decide (i ∈ vs)) && mG t (M.blk scope) tg' && mTs tt (M.blk scope) ifs' && mE k (M.blk scope) k' && mE v (M.blk scope) v') = true := h
    obtain ⟨h, h9⟩ := nxt h
    obtain ⟨h, h8⟩ := nxt h
    obtain ⟨h, h7⟩ := nxt h
    obtain ⟨h, h6⟩ := nxt h
    obtain ⟨h, h5⟩ := nxt h
    obtain ⟨h, h4⟩ := nxt h
    obtain ⟨h, h3⟩ := nxt h
    obtain ⟨h1, h2⟩ := nxt h
    have h1 : ia = 0 := by simpa using h1
    subst h1
    exact ⟨tg', iter', ifs', rfl, blk_ok G (mI_ok C it M X W tg' iter' G h2) h3 h4 h5 h6 fun X W G => mTs_ok C tt _ X W ifs' G h7, fun s H Cc cl fp => (mE_ok C k _ _ _ k' (G.blk s H scope cl Cc fp) h8).1, fun s H Cc cl fp => (mE_ok C v _ _ _ v' (G.blk s H scope cl Cc fp) h9).1⟩
theorem mSw_ok (G : Good X M C W) {x : Str} {px : Pos} {scope : Scope} {cpos : Pos} (h : mSw M x px scope cpos = true) : X.env.scope.kind = .function ∧ X.env.scope.names.lookup x = some .local ∧ (px.line == cpos.line) = true ∧ (scope.names.any fun (n, k) => n == x && (k == .local || k == .cell)) = false := by
  obtain ⟨h, h4⟩ := nxt h
  obtain ⟨h, h3⟩ := nxt h
  obtain ⟨h1, h2⟩ := nxt h
  refine ⟨?_, G.lo h1, h2, neg h3⟩
  rw [G.sc]
  split at h4
  · assumption
  · cases h4
theorem Good.nlo (G : Good X M C W) {x : Str} (h : isLo (M.kind x) = false) : (X.env.kindOf x == some .local) = false := by
  show (X.env.scope.names.lookup x == some .local) = false
  rw [G.sc]
  unfold isLo ME.kind at h
  split at h
  · cases h
  · rename_i n
    exact beq_eq_false_iff_ne.mpr n
theorem sw_offL (G : Good X M C W) {x : Str} {px cpos : Pos} {elt : Expr} {gs : List Comprehension} {scope : Scope} {l : Nat} (h : (isLo (M.kind x) && (px.line == cpos.line)) = false) : swapsWith (.ListComp elt gs scope cpos) (some (.Name x px)) l X.env = pure false := by
  unfold swapsWith
  rw [Bool.and_eq_false_iff] at h
  rcases h with h | h
  · simp only [G.nlo h, Bool.and_false, Bool.false_and]
  · have h : (px.line == (Expr.ListComp elt gs scope cpos).pos.line) = false := h
    simp only [h, Bool.and_false, Bool.false_and]
theorem sw_offD (G : Good X M C W) {x : Str} {px cpos : Pos} {k v : Expr} {gs : List Comprehension} {scope : Scope} {l : Nat} (h : (isLo (M.kind x) && (px.line == cpos.line)) = false) : swapsWith (.DictComp k v gs scope cpos) (some (.Name x px)) l X.env = pure false := by
  unfold swapsWith
  rw [Bool.and_eq_false_iff] at h
  rcases h with h | h
  · simp only [G.nlo h, Bool.and_false, Bool.false_and]
  · have h : (px.line == (Expr.DictComp k v gs scope cpos).pos.line) = false := h
    simp only [h, Bool.and_false, Bool.false_and]
theorem mSet_ok (G : Good X M C W) {i : Nat} {a : CE} {x : Str} {px : Pos} {e : Expr} (h : mSet M i a x px e = true) : PS X (.Assign [.Name x px] e pos) (tS X.K C W (.set i a)) := by
  unfold mSet at h
  obtain ⟨h, h5⟩ := nxt h
  obtain ⟨h, h4⟩ := nxt h
  obtain ⟨h, h3⟩ := nxt h
  obtain ⟨h1, h2⟩ := nxt h
  have hi : X.N[i]? = some x := by rw [G.N]; simpa using h1
  have plain : isComp e = false → PS X (.Assign [.Name x px] e pos) (tS X.K C W (.set i a)) := fun hc =>
    s_set G.nd hi (G.lc h2) (mE_ok C a M X W e G h4).1 (sw_no hc _ _ _) (G.fl h3)
  cases e with
  | ListComp elt' gs scope cpos =>
    have h5 : (!(isLo (M.kind x) && (px.line == cpos.line)) || (mSw M x px scope cpos && (compOf a).isSome)) = true := h5
    rw [Bool.or_eq_true] at h5
    rcases h5 with h5 | h5
    · exact s_set G.nd hi (G.lc h2) (mE_ok C a M X W _ G h4).1 (sw_offL G (neg h5)) (G.fl h3)
    obtain ⟨h5, h6⟩ := nxt h5
    obtain ⟨k1, k2, k3, k4⟩ := mSw_ok G h5
    have go : ∀ (nw : Bool) {elt : CE} {t : CT} {it : CI} {tt : CEo} {vs : List Nat}, mE (.comp elt t it tt vs) M (.ListComp elt' gs scope cpos) = true → PS X (.Assign [.Name x px] (.ListComp elt' gs scope cpos) pos) (tS X.K C W (.set i (if nw then .new (.comp elt t it tt vs) else .comp elt t it tt vs))) := by
      intro nw elt t it tt vs h
      obtain ⟨tg', iter', ifs', rfl, B, he⟩ := comp_parts G h
      exact s_setLc G.calm G.nd hi k2 (sw_true k1 k2 k3 k4) B.hi B.ok B.hv B.hs B.hg B.ht he B.hfs
    match a, h4, h6 with
    | .comp elt t it tt vs, h4, _ => exact go false h4
    | .new (.comp elt t it tt vs), h4, _ => exact go true h4
    | .dcomp _ _ _ _ _ _, h4, _ => cases h4
    | .new (.dcomp _ _ _ _ _ _), h4, _ => cases h4
  | DictComp k' v' gs scope cpos =>
    have h5 : (!(isLo (M.kind x) && (px.line == cpos.line)) || (mSw M x px scope cpos && (compOf a).isSome)) = true := h5
    rw [Bool.or_eq_true] at h5
    rcases h5 with h5 | h5
    · exact s_set G.nd hi (G.lc h2) (mE_ok C a M X W _ G h4).1 (sw_offD G (neg h5)) (G.fl h3)
    obtain ⟨h5, h6⟩ := nxt h5
    obtain ⟨k1, k2, k3, k4⟩ := mSw_ok G h5
    have go : ∀ (nw : Bool) {k v : CE} {t : CT} {it : CI} {tt : CEo} {vs : List Nat}, mE (.dcomp k v t it tt vs) M (.DictComp k' v' gs scope cpos) = true → PS X (.Assign [.Name x px] (.DictComp k' v' gs scope cpos) pos) (tS X.K C W (.set i (if nw then .new (.dcomp k v t it tt vs) else .dcomp k v t it tt vs))) := by
      intro nw k v t it tt vs h
      obtain ⟨tg', iter', ifs', rfl, B, hk, he⟩ := dcomp_parts G h
      exact s_setDc G.calm G.nd hi k2 (sw_trueD k1 k2 k3 k4) B hk he
    match a, h4, h6 with
    | .dcomp k v t it tt vs, h4, _ => exact go false h4
    | .new (.dcomp k v t it tt vs), h4, _ => exact go true h4
    | .comp _ _ _ _ _, h4, _ => cases h4
    | .new (.comp _ _ _ _ _), h4, _ => cases h4
  | SetComp elt' gs scope cpos => cases h5
  | _ => exact plain rfl
theorem Good.ix (G : Good X M C W) {i : Nat} {x : Str} (h : decide (M.N[i]? = some x) = true) : X.N[i]? = some x := by
  rw [G.N]
  exact of_decide_eq_true h
theorem fm_short {α β : Type} (f : α → Option β) : ∀ (l : List α), (l.all fun a => (f a).isSome) = false → (l.filterMap f).length < l.length
  | [], h => by cases h
  | a :: l, h => by
    rw [List.filterMap_cons]
    cases q : f a with
    | none =>
      have := List.length_filterMap_le f l
      show (l.filterMap f).length < l.length + 1
      omega
    | some b =>
      rw [List.all_cons, q] at h
      have := fm_short f l h
      show (l.filterMap f).length + 1 < l.length + 1
      omega
theorem plainSt_ok (G : Good X M C W) {t v : Expr} (h : plainSt M t v = true) : swappedStores [t] v X.env = pure none := by
  cases t with
  | Tuple ts k p =>
    cases v with
    | Tuple vs k2 p2 =>
      have h : (!(ts.length == 2 || ts.length == 3) || decide (vs.length ≠ ts.length) || !(ts.all (nmLo M ((ts.head?.map (·.pos.line)).getD 0)))) = true := h
      rw [Bool.or_eq_true] at h
      rcases h with h | h
      · have hc : (!(ts.length == 2 || ts.length == 3) || vs.length != ts.length || X.env.blockKind != .function) = true := by
          rw [Bool.or_eq_true] at h
          rcases h with h | h
          · rw [h]; rfl
          · have h : vs.length ≠ ts.length := by simpa using h
            have : (vs.length != ts.length) = true := by simpa using h
            rw [this, Bool.or_true]
            rfl
        unfold swappedStores
        simp only []
        rw [if_pos hc]
      · have h := neg h
        unfold swappedStores
        simp only []
        split
        · rfl
        · split
          · rfl
          · have hs := fm_short (fun e : Expr => match e with
              | .Name id pos => if (X.env.kindOf id == some .local && pos.line == (ts.head?.map (·.pos.line)).getD 0) = true then some id else none
              | _ => none) ts (by
                refine Eq.trans ?_ h
                refine congrArg (fun f => ts.all f) (funext fun e => ?_)
                cases e with
                | Name x q =>
                  show ((if (X.env.kindOf x == some .local && q.line == (ts.head?.map (·.pos.line)).getD 0) = true then some x else none) : Option Str).isSome = (isLo (M.kind x) && q.line == (ts.head?.map (·.pos.line)).getD 0)
                  have ek : (X.env.kindOf x == some .local) = isLo (M.kind x) := by
                    cases hl : isLo (M.kind x) with
                    | false => exact G.nlo hl
                    | true =>
                      show (X.env.scope.names.lookup x == some .local) = true
                      rw [G.lo hl]
                      rfl
                  rw [ek]
                  cases (isLo (M.kind x) && q.line == (ts.head?.map (·.pos.line)).getD 0) <;> rfl
                | _ => rfl)
            rw [if_pos ?_]
            rw [Bool.or_eq_true]
            left
            exact bne_iff_ne.mpr (Nat.ne_of_lt hs)
    | _ => rfl
  | List ts p => cases h
  | _ => rfl
mutual
theorem mS_ok (C : Ct) (G : Good X M C W) (hp : PassesOwn (model X.prog X.w) X.A X.env X.xe) : ∀ (c : CS) (s : Stmt), mS c M s = true → PS X s (tS X.K C W c)
  | .set i a, s, h => by
    replace h : (match (generalizing := false) s with
      | .Assign [.Name x px] e _ => mSet M i a x px e
      | _ => false) = true := h
    split at h
    · exact mSet_ok G h
    · cases h
  | .par is rs, s, h => by
    replace h : (match (generalizing := false) s with
      | .Assign [.Tuple ts _ _] (.Tuple vs _ _) _ => mEs rs M vs && (match (generalizing := false) is, ts, vs with
        | [i, j], [.Name x px, .Name y py], [a, b] => decide (M.N[i]? = some x) && decide (M.N[j]? = some y) && swp M [(x, px), (y, py)] [a, b]
        | [i, j, k], [.Name x px, .Name y py, .Name z pz], [a, b, c] => decide (M.N[i]? = some x) && decide (M.N[j]? = some y) && decide (M.N[k]? = some z) && swp M [(x, px), (y, py), (z, pz)] [a, b, c]
        | _, _, _ => false)
      | _ => false) = true := h
    split at h
    · obtain ⟨h1, h⟩ := nxt h
      have qs := (mEs_ok C rs M X W _ G h1).1
      have nb : ∀ {x y : Str} {i j : Nat}, X.N[i]? = some x → X.N[j]? = some y → x ≠ y → i ≠ j := fun {x y i j} a b n z => n (by rw [z, b] at a; exact (Option.some.inj a).symm)
      split at h
      · obtain ⟨h, h4⟩ := nxt h
        obtain ⟨h2, h3⟩ := nxt h
        obtain ⟨k1, k2, k3, k4⟩ := swp_two G h4
        have hi := G.ix h2
        have hj := G.ix h3
        match rs, qs, h1 with
        | .cons a (.cons b .nil), qs, _ => exact s_par G.calm G.nd hi hj (nb hi hj k4) k2 k3 qs k1 rfl
        | .nil, _, h1 => cases h1
        | .cons a .nil, _, h1 => exact absurd (nxt h1).2 (by intro z; cases z)
        | .cons a (.cons b (.cons c r)), _, h1 => exact absurd (nxt (nxt h1).2).2 (by intro z; cases z)
      · obtain ⟨h, h5⟩ := nxt h
        obtain ⟨h, h4⟩ := nxt h
        obtain ⟨h2, h3⟩ := nxt h
        obtain ⟨k1, k2, k3, k4, k5, k6, k7⟩ := swp_three G h5
        have hi := G.ix h2
        have hj := G.ix h3
        have hk := G.ix h4
        match rs, qs, h1 with
        | .cons a (.cons b (.cons c .nil)), qs, _ => exact s_par3 G.calm G.nd hi hj hk (nb hi hj k5) (nb hi hk k6) (nb hj hk k7) k2 k3 k4 qs k1
        | .nil, _, h1 => cases h1
        | .cons a .nil, _, h1 => exact absurd (nxt h1).2 (by intro z; cases z)
        | .cons a (.cons b .nil), _, h1 => exact absurd (nxt (nxt h1).2).2 (by intro z; cases z)
        | .cons a (.cons b (.cons c (.cons d r))), _, h1 => exact absurd (nxt (nxt (nxt h1).2).2).2 (by intro z; cases z)
      · cases h
    · cases h
  | .unp t a, s, h => by
    replace h : (match (generalizing := false) s with
      | .Assign [t'] e _ => mG t M t' && mE a M e && !isComp e && plainSt M t' e && !isStar t'
      | _ => false) = true := h
    split at h
    · rename_i t' e p
      obtain ⟨h, h5⟩ := nxt h
      obtain ⟨h, h4⟩ := nxt h
      obtain ⟨h, h3⟩ := nxt h
      obtain ⟨h1, h2⟩ := nxt h
      exact s_unp (mE_ok C a M X W e G h2).1 (mG_ok G t t' h1) (sole_no (neg h3) _ _) (plainSt_ok G h4) (by cases t' <;> first | rfl | cases h5)
    · cases h
  | .sub a k v, s, h => by
    replace h : (match (generalizing := false) s with
      | .Assign [.Subscript a' k' _] e _ => mE a M a' && mE k M k' && mE v M e && !isSlice k' && !isComp e
      | _ => false) = true := h
    split at h
    · obtain ⟨h, h5⟩ := nxt h
      obtain ⟨h, h4⟩ := nxt h
      obtain ⟨h, h3⟩ := nxt h
      obtain ⟨h1, h2⟩ := nxt h
      exact s_sub (by have := G.un; omega) (mE_ok C a M X W _ G h1).1 (mE_ok C k M X W _ G h2).1 (mE_ok C v M X W _ G h3).1 (neg h4) (sole_no (neg h5) _ _) (plainSt_ok G rfl)
    · cases h
  | .aug i op a, s, h => by
    replace h : (match (generalizing := false) s with
      | .AugAssign (.Name x _) o e _ => decide (M.N[i]? = some x) && isLoc (M.kind x) && (M.fn x || isLo (M.kind x)) && decide (o = op.py) && (decide (op = .add) || decide (op = .sub)) && mE a M e
      | _ => false) = true := h
    split at h
    · obtain ⟨h, h6⟩ := nxt h
      obtain ⟨h, h5⟩ := nxt h
      obtain ⟨h, h4⟩ := nxt h
      obtain ⟨h, h3⟩ := nxt h
      obtain ⟨h1, h2⟩ := nxt h
      have h4 := of_decide_eq_true h4
      subst h4
      rw [Bool.or_eq_true] at h5
      exact s_aug (h5.imp of_decide_eq_true of_decide_eq_true) G.nd (by rw [G.N]; exact of_decide_eq_true h1) (G.lc h2) (mE_ok C a M X W _ G h6).1 (G.fl h3)
    · cases h
  | .expr a, s, h => by
    replace h : (match (generalizing := false) s with
      | .Expr e _ => mE a M e && !isComp e
      | _ => false) = true := h
    split at h
    · obtain ⟨h1, h2⟩ := nxt h
      exact s_expr (mE_ok C a M X W _ G h1).1 (sw_no (neg h2) _ _ _)
    · cases h
  | .ret a, s, h => by
    replace h : (match (generalizing := false) s with
      | .Return (some e) _ => mE a M e
      | _ => false) = true := h
    split at h
    · exact s_ret (mE_ok C a M X W _ G h).1
    · cases h
  | .retn, s, h => by
    replace h : (match (generalizing := false) s with
      | .Return none _ => true
      | _ => false) = true := h
    split at h
    · exact s_retn
    · cases h
  | .pass, s, h => by
    replace h : (match (generalizing := false) s with
      | .Pass _ => true
      | .Expr (.Constant (.str _) _ _) _ => true
      | _ => false) = true := h
    split at h
    · exact s_pass
    · exact s_doc
    · cases h
  | .cond c a b, s, h => by
    replace h : (match (generalizing := false) s with
      | .If c' a' b' _ => mE c M c' && !isIf c' && mSs a M a' && mSs b M b'
      | _ => false) = true := h
    split at h
    · obtain ⟨h, h4⟩ := nxt h
      obtain ⟨h, h3⟩ := nxt h
      obtain ⟨h1, h2⟩ := nxt h
      exact s_cond ((mE_ok C c M X W _ G h1).2 (neg h2)) (mSs_ok C G hp a _ h3) (mSs_ok C G hp b _ h4)
    · cases h
  | .whil c b, s, h => by
    replace h : (match (generalizing := false) s with
      | .While c' b' [] _ => mE c M c' && !isIf c' && mSs b M b'
      | _ => false) = true := h
    split at h
    · obtain ⟨h, h3⟩ := nxt h
      obtain ⟨h1, h2⟩ := nxt h
      exact s_while hp ((mE_ok C c M X W _ G h1).2 (neg h2)) (mSs_ok C G hp b _ h3)
    · cases h
  | .fr t it b, s, h => by
    replace h : (match (generalizing := false) s with
      | .For t' it' b' [] _ => mG t M t' && mI it M t' it' && notSet it' && mSs b M b'
      | _ => false) = true := h
    split at h
    · obtain ⟨h, h4⟩ := nxt h
      obtain ⟨h, h3⟩ := nxt h
      obtain ⟨h1, h2⟩ := nxt h
      exact s_for hp G.calm (mI_ok C it M X W _ _ G h2) (mG_ok G t _ h1) (mSs_ok C G hp b _ h4) (notSet_ok h3 _)
    · cases h
  | .brk, s, h => by
    replace h : (match (generalizing := false) s with
      | .Break _ => true
      | _ => false) = true := h
    split at h
    · exact s_brk
    · cases h
  | .cont, s, h => by
    replace h : (match (generalizing := false) s with
      | .Continue _ => true
      | _ => false) = true := h
    split at h
    · exact s_cont
    · cases h
  | .never, s, h => s_never
theorem mSs_ok (C : Ct) (G : Good X M C W) (hp : PassesOwn (model X.prog X.w) X.A X.env X.xe) : ∀ (c : CSs) (s : List Stmt), mSs c M s = true → PSs X s (tSs X.K C W c)
  | .nil, ss, h => by
    cases ss with
    | nil => exact s_nil
    | cons s ss => cases h
  | .cons a r, ss, h => by
    cases ss with
    | nil => cases h
    | cons s ss =>
      have h : (mS a M s && mSs r M ss) = true := h
      obtain ⟨h1, h2⟩ := nxt h
      exact s_cons (mS_ok C G hp a s h1) (mSs_ok C G hp r ss h2)
end
end
end Mi
end

section
set_option Elab.async false
set_option linter.all false
set_option maxRecDepth 100000
set_option maxHeartbeats 8000000
set_option autoImplicit false
/-! Mi27: a program's defs do what the interpreter says. -/
namespace Mi
open PySem L2 RZ PySem.Spec PySem.Calls PyProof.Rows
variable [TbT]
section
variable {P : Program} {w : World} {K : PySem.W.Frag} {mg : Str → Option Value} {base : Heap}
/-- a def by its body, no guard kept -/
theorem fnG_of {CX : CXT} {k : Nat} {f : Addr} {name qual : Str} {params : Arguments} {body : List Stmt} {scope : Scope} {dV kV doc pm cdv ct oc : Value} {an od : Option Addr}
    {osl : Array (Option Value)} {N ps : List Str} {sp : Sp} (lk : K.lookup f = some ⟨oc, od, .func (PySem.W.fnOf name qual params body scope dV kV doc pm an cdv ct), osl⟩) (hcd : PySem.W.codeIn K cdv qual = true) (S : FnScope N ps scope)
    (len : ∀ vs H Q E, sp vs H Q E → vs.length = ps.length)
    (hbody : ∀ (A : Around) (outer : List Env) (s : Shared) (H : Hp) (vs : List V) (Q : VK) (E : XK), Room k (A.deeper (envOfC qual scope s.heap.objs.size f cdv)) → (A.deeper (envOfC qual scope s.heap.objs.size f cdv)).guards = some [] → sp vs H Q E →
      ∃ t, PSs (cxOf CX P w K mg base N qual scope f cdv A outer s H E) body t ∧ t { nx := fun _ H' => Q .non H', rt := Q } (L2.start N vs) H) :
    FnG P w K mg base CX (k + 1) f (PySem.W.fnOf name qual params body scope dV kV doc pm an cdv ct) ps sp := by
  refine ⟨len, fun A outer s H args us vs Q E hr hgd e0 hb r hsp => ?_⟩
  have keep : ∀ {b o}, base.get? b = some o → s.heap.get? b = some o := fun {b o} e => (e0.bs b o e).1
  have KX : K.In s.heap := e0.mod.kin.keeps fun b o e => keep e
  have lim : s.heap.NoLimit := e0.mod.nolimit.keeps fun b o e => keep e
  have hkind : ∀ y ∈ ps.zip us, scope.names.lookup y.1 = some .local ∨ (scope.names.lookup y.1 = some .cell ∧ ((cellsFrom (s.heap.objs.size + 1) scope.names []).lookup y.1).isSome = true) := fun ⟨n, v⟩ hy =>
    (S.par n (List.of_mem_zip hy).1).imp id fun q => ⟨q, PySem.W.cellsFrom_some _ _ _ (.inl q)⟩
  refine codeAny_call_function hr.depth (KX _ _ lk) rfl S.co S.gen rfl (PySem.W.codeRec_of KX hcd) (hb _ _ _ _ ?_)
  refine wpAny_newFunctionEnv_cells S.kind hkind fun env he s1 x => ?_
  subst he
  refine ⟨lim.keeps x.toInCall.keep, codeAny_func ?_⟩
  obtain ⟨t, ht, hq⟩ := hbody A outer s H vs Q E (hr.deeper _) hgd hsp
  have I : Inv (cxOf CX P w K mg base N qual scope f cdv A outer s H E) [] (L2.start N vs) H s1 := inv_start S hr.hd e0 (len _ _ _ _ hsp) r x
  refine wpAny_mono (ht.run [] s1 (L2.start N vs) H _ I hq) (fun fl s' hs => ?_) fun e s' hs => hs
  cases fl with
  | ret u =>
    obtain ⟨v, σ', H', J, rv, q⟩ := hs
    exact ⟨v, H', J.os, J.bare, J.base, J.hok, rv, q⟩
  | next =>
    obtain ⟨σ', H', J, q⟩ := hs
    exact ⟨V.non, H', J.os, J.bare, J.base, J.hok, rfl, q⟩
  | brk =>
    obtain ⟨_, _, _, q⟩ := hs
    exact False.elim q
  | cont =>
    obtain ⟨_, _, _, q⟩ := hs
    exact False.elim q
/-- a def of a program: its row, its slots, parameters, its terms -/
structure PDef where
  name : Str
  st : Stmt
  N : List Str
  ps : List Str
  fn : Fn
  lm : Bool
  kw : List (Str × D)
/-- what a def asks that makes lambdas: its code object's table -/
def LamF [TbT] (mg : Str → Option Value) (base : Heap) (d : PDef) (fd : FuncData) : Prop := d.lm = true → ∃ c P, LamX.TabB base mg c P ∧ fd.code = .ref c ∧ (P, (d.name ++ ".<locals>." : Str) ++ "<lambda>") ∈ TbT.T ∧ ∀ p ∈ TbT.T, p.1 = P → p.2 = (d.name ++ ".<locals>." : Str) ++ "<lambda>"
def PDef.ok (glb : List Str) (fns : List (Str × Nat)) (kw : List (List (Str × D))) (blt : List Str) (d : PDef) : Bool :=
  mSs d.fn.body ⟨d.N, defScope d.st, none, glb, fns, blt, d.lm, kw⟩ (defBody d.st) && C8.scC d.N d.ps (defScope d.st) && decide (d.ps.length = d.fn.np) && decide (d.N.length = d.fn.ns)
def BindOk (d : PDef) : Prop := ∀ (kV doc pm : Value) (an : Option Addr) (cdv ct : Value) (us : List Value), us.length = d.ps.length → bindArgs (PySem.W.fnOf d.name d.name (defArgs d.st) (defBody d.st) (defScope d.st) .none kV doc pm an cdv ct) ⟨us, []⟩ = pure (d.ps.zip us)
abbrev PFun (K : PySem.W.Frag) (d : PDef) (f : Addr) (fd : FuncData) : Prop := FunD K d.name d.name (defArgs d.st) (defBody d.st) (defScope d.st) [] (d.kw.map fun k => (k.1, dV k.2)) f fd
def kwTab (defs : List PDef) : List (List (Str × D)) := defs.map (·.kw)
def fnTab (defs : List PDef) : List (Str × Nat) := defs.map fun d => (d.name, d.fn.np)
theorem guards_deeper {A : Around} {env : Env} (h : A.guards = some []) : (A.deeper env).guards = some [] := h
/-- at the entry of a def's body -/
theorem good_of {cs : List D} {cal : Cal} {XR : Exn → Value → Option Addr → Fp → Hp → Prop} {defs : List PDef} {glb blt : List Str} {k : Nat} {d : PDef} {f : Addr} {cdv : Value} {A : Around} {outer : List Env} {s : Shared} {H : Hp} {E : XK}
    (hN : d.N.Nodup) (hr : Room (k + 3) (A.deeper (envOfC d.name (defScope d.st) s.heap.objs.size f cdv))) (hgd : (A.deeper (envOfC d.name (defScope d.st) s.heap.objs.size f cdv)).guards = some [])
    (hG : ∀ (i : Nat) x, glb[i]? = some x → ∃ u v d, mg x = some u ∧ RelV v u ∧ cs[i]? = some d ∧ Rep K ⟨fun _ => none, [], []⟩ v d) (hT : ∀ x ∈ blt, mg x = none)
    (hf : ∀ (i : Nat) d, defs[i]? = some d → ∃ f fd, FnG P w K mg base (L2.CX P w) k f fd d.ps (spI K ⟨cs, cal, XR⟩ d.fn.np i) ∧ mg d.name = some (.ref f) ∧ PySem.W.keepIn K (.ref f) = true ∧ (d.kw = [] → Binds K fd d.ps []) ∧ (d.kw ≠ [] → ∃ n, d.fn.np = n + d.kw.length ∧ KwB K fd d.ps n d.kw))
    (hL : d.lm = true → ∃ c P, LamX.TabB base mg c P ∧ cdv = .ref c ∧ (P, (d.name ++ ".<locals>." : Str) ++ "<lambda>") ∈ TbT.T ∧ ∀ p ∈ TbT.T, p.1 = P → p.2 = (d.name ++ ".<locals>." : Str) ++ "<lambda>") :
    Good (cxOf (L2.CX P w) P w K mg base d.N d.name (defScope d.st) f cdv A outer s H E) ⟨d.N, defScope d.st, none, glb, fnTab defs, blt, d.lm, kwTab defs⟩ ⟨cs, cal, XR⟩ (fun c fd _ H' => E c fd H') where
  calm := rfl
  nd := hN
  N := rfl
  sc := rfl
  fn := fun x => rfl
  room := hr.mono (Nat.zero_le _)
  gd := hgd
  glb := hG
  fns := fun i x np h => by
    have h : (defs.map fun d => (d.name, d.fn.np))[i]? = some (x, np) := h
    rw [List.getElem?_map] at h
    cases q : defs[i]? with
    | none => rw [q] at h; cases h
    | some d' =>
      rw [q] at h
      cases h
      obtain ⟨f', fd', q1, q2, q3, q4⟩ := hf i d' q
      have ek : ME.kwOf ⟨d.N, defScope d.st, none, glb, fnTab defs, blt, d.lm, kwTab defs⟩ i = d'.kw := by
        show ((defs.map (·.kw))[i]?).getD [] = d'.kw
        rw [List.getElem?_map, q]; rfl
      rw [ek]
      exact ⟨f', fd', d'.ps, k, q1, hr.mono (by split <;> omega), q2, q3, q4⟩
  tk := fun σ => passAt (takes_of rfl rfl rfl rfl) σ
  blt := hT
  lam := fun z => ⟨hr.mono (Nat.le_add_left ..), hL z⟩
theorem run_eq {cs : List D} {fns : List Fn} {n i : Nat} {ds : List D} {st : List Own} {fn : Fn} (h : fns[i]? = some fn) (hc : ds.length = fn.np ∧ (fn.md = .pure → ptrs 0 ds = true)) :
    run cs fns (n + 1) i ds st = (match evSs cs (run cs fns n) fn.body ⟨ds.map some ++ List.replicate (fn.ns - fn.np) none, if fn.md = .pure then [] else st⟩ with
      | .nx e => endOk fn.md st .non e
      | .rt d e => endOk fn.md st d e
      | .exc x e => endX fn.md st x e
      | _ => .er) := by
  simp only [run, h]
  first
    | (rw [if_pos hc]; done)
    | (rw [if_pos hc]; generalize evSs cs _ _ _ = r; cases r <;> rfl)
theorem run_ne {cs : List D} {fns : List Fn} {n i : Nat} {ds : List D} {st : List Own} {fn : Fn} (h : fns[i]? = some fn) (hc : ¬(ds.length = fn.np ∧ (fn.md = .pure → ptrs 0 ds = true))) : run cs fns (n + 1) i ds st = .er := by
  simp only [run, h]
  rw [if_neg hc]
theorem post_cal {K : PySem.W.Frag} {cs : List D} {c1 c2 : Cal} {XR : Exn → Value → Option Addr → Fp → Hp → Prop} {F : Fp} {H : Hp} {r : CRes} {Q : VK} {E : XK} (h : PostC K ⟨cs, c1, XR⟩ F H r Q E) : PostC K ⟨cs, c2, XR⟩ F H r Q E := by
  cases r with
  | ok d st => exact h
  | exc x st => exact h
  | er => exact h
/-- every def of the program, at every level -/
theorem prog_ok {cs : List D} {XR : Exn → Value → Option Addr → Fp → Hp → Prop} {defs : List PDef} {glb blt : List Str} (hX : ∀ cal, XOk ⟨cs, cal, XR⟩)
    (hC : defs.all (·.ok glb (fnTab defs) (kwTab defs) blt) = true) (hB : ∀ (i : Nat) d, defs[i]? = some d → d.kw = [] → BindOk d)
    (hB2 : ∀ (i : Nat) d, defs[i]? = some d → d.kw ≠ [] → ∀ f fd, PFun K d f fd → ∃ n, d.fn.np = n + d.kw.length ∧ KwB K fd d.ps n d.kw)
    (hF : ∀ (i : Nat) d, defs[i]? = some d → ∃ f fd, PFun K d f fd ∧ mg d.name = some (.ref f) ∧ LamF mg base d fd)
    (hG : ∀ (i : Nat) x, glb[i]? = some x → ∃ u v d, mg x = some u ∧ RelV v u ∧ cs[i]? = some d ∧ Rep K ⟨fun _ => none, [], []⟩ v d) (hT : ∀ x ∈ blt, mg x = none) :
    ∀ (n i : Nat) (d : PDef), defs[i]? = some d → ∀ (f : Addr) (fd : FuncData), PFun K d f fd → LamF mg base d fd → FnG P w K mg base (L2.CX P w) (4 * n) f fd d.ps (spI K ⟨cs, run cs (defs.map (·.fn)) n, XR⟩ d.fn.np i)
  | 0, i, d, hd, f, fd, F, _ => ⟨fun vs H Q E h => by
      obtain ⟨_, _, _, _, _, _, z⟩ := h
      exact z.elim, fun A outer s H args us vs Q E hr hgd e0 hb r h => by
      obtain ⟨_, _, _, _, _, _, z⟩ := h
      exact z.elim⟩
  | n + 1, i, d, hd, f, fd, F, hL => by
    show FnG P w K mg base (L2.CX P w) (4 * n + 3 + 1) f fd d.ps _
    have ok := List.all_eq_true.mp hC d (List.mem_of_getElem? hd)
    unfold PDef.ok at ok
    obtain ⟨ok, o4⟩ := nxt ok
    obtain ⟨ok, o3⟩ := nxt ok
    obtain ⟨o1, o2⟩ := nxt ok
    have o3 := of_decide_eq_true o3
    have o4 := of_decide_eq_true o4
    have S := C8.fnScope_by o2
    obtain ⟨oc, od, dV, kV, doc, pm, an, cdv, ct, osl, rfl, lk, hcd, _, _⟩ := F.ex
    refine fnG_of lk hcd S (fun vs H Q E h => ?_) fun A outer s H vs Q E hr hgd h => ?_
    · obtain ⟨_, _, _, _, _, z, _⟩ := h
      rw [z, o3]
    · have G : Good (cxOf (L2.CX P w) P w K mg base d.N d.name (defScope d.st) f cdv A outer s H E) ⟨d.N, defScope d.st, none, glb, fnTab defs, blt, d.lm, kwTab defs⟩ ⟨cs, run cs (defs.map (·.fn)) n, XR⟩ (fun c fd _ H' => E c fd H') :=
        good_of S.nd hr hgd hG hT (fun j d' hd' => by
          obtain ⟨f', fd', F', m', L'⟩ := hF j d' hd'
          exact ⟨f', fd', prog_ok hX hC hB hB2 hF hG hT n j d' hd' f' fd' F' L', m', F'.kp, fun z => F'.bindsN (hB j d' hd' z), fun z => hB2 j d' hd' z f' fd' F'⟩) hL
      refine ⟨_, mSs_ok _ G (passes_of rfl) d.fn.body (defBody d.st) o1, ?_⟩
      obtain ⟨F0, st, ds, R, rv, hl, PC⟩ := h
      have hdn : (defs.map (·.fn))[i]? = some d.fn := by rw [List.getElem?_map, hd]; rfl
      have PC : PostC K ⟨cs, run cs (defs.map (·.fn)) n, XR⟩ F0 H (run cs (defs.map (·.fn)) (n + 1) i ds st) Q E := post_cal PC
      by_cases hc : ds.length = d.fn.np ∧ (d.fn.md = .pure → ptrs 0 ds = true)
      · rw [run_eq hdn hc] at PC
        have P2 := end_of (C := ⟨cs, run cs (defs.map (·.fn)) n, XR⟩) (md := d.fn.md) (hX _) R PC
        refine ⟨if d.fn.md = .pure then ⟨F0.h, [], F0.tb⟩ else F0, ⟨ds.map some ++ List.replicate (d.fn.ns - d.fn.np) none, if d.fn.md = .pure then [] else st⟩, ?_, P2⟩
        by_cases hm : d.fn.md = .pure
        · rw [if_pos hm, if_pos hm]
          have R0 : RelS K ⟨F0.h, [], F0.tb⟩ [] H := ⟨R.sub, rfl, fun i d h => (by cases h), rfl, fun i o h => (by cases h), List.Pairwise.nil, R.tab, R.ntb⟩
          exact en_start R0 (Reps.cut ds vs (hc.2 hm) rv) o4 hl
        · rw [if_neg hm, if_neg hm]
          exact en_start R rv o4 hl
      · rw [run_ne hdn hc] at PC
        exact PC.elim
end
end Mi
end

section
set_option Elab.async false
set_option linter.all false
set_option maxRecDepth 100000
set_option maxHeartbeats 2000000
set_option autoImplicit false
/-! Mi31: the end of a law whose defs keep no guard. -/
namespace Mi
open PySem PySem.Spec PyProof.Rows L2 LamX
/-- what is tracked when the law is called: the tables ts; the script at a, unless the frame has it -/
def Hstart (ts : List Addr) (a : Addr) (free : Bool) (o : Obj) (ns : List Int) : Hp := fun b => if b ∈ ts then some (.tbl #[]) else if b = a ∧ free = true then some (.frz o (.lst (ns.map V.int))) else none
theorem hs_cases {ts : List Addr} {a : Addr} {fr : Bool} {o : Obj} {ns : List Int} {b : Addr} {u : HO} (h : Hstart ts a fr o ns b = some u) : (b ∈ ts ∧ u = .tbl #[]) ∨ (b = a ∧ fr = true ∧ u = .frz o (.lst (ns.map V.int))) := by
  unfold Hstart at h
  split at h
  · rename_i m
    exact .inl ⟨m, (Option.some.inj h).symm⟩
  · split at h
    · rename_i m
      exact .inr ⟨m.1, m.2, (Option.some.inj h).symm⟩
    · cases h
theorem law_callG {P : Program} {w : World} {K : PySem.W.Frag} {mg mb : Str → Option Value} {k : Nat} {fa a : Addr} {cs : List (Addr × Addr)} {fd : FuncData} {x : Str} {sp : Sp} {s₁ : Shared} {vs : List Value} {ns : List Int}
    (KX : K.In s₁.heap) (hns : s₁.heap.Ns mainGlobals mg) (hb : s₁.heap.Ns builtinsNs mb) (hbb : ∀ x : Str, x ≠ "__name__" → mb x = bootBuiltins x) (hlim : s₁.heap.NoLimit) (hg : s₁.gens = #[])
    (hT : ∀ p ∈ cs, s₁.heap.get? p.2 = some { cls := .none, data := .fields #[] }) (nT : ∀ p ∈ cs, K.lookup p.2 = none) (C : ∀ p ∈ cs, PySem.W.CodeHd s₁.heap p.1 p.2)
    (hbm : ∃ (bm : Addr) (ob : Obj), mg "__builtins__" = some (.ref bm) ∧ bm ≠ builtinsNs ∧ s₁.heap.get? bm = some ob ∧ ob.cls = .type "module" ∧ ob.dict = some builtinsNs ∧ ob.data = .plain)
    (ha : s₁.heap.get? a = some { cls := .type "list", data := .seq vs.toArray }) (hi : IntsAre vs ns) (hl : ns.length ≤ sizeLine) (hr : Room k callerA)
    (F : ∀ base : Heap, K.In base → base.Ns mainGlobals mg → (∀ p ∈ cs, TabB base mg p.1 p.2) → FnG P w K mg base (L2.CX P w) k fa fd [x] sp) (hbind : ∀ (s : Shared) (u : Value), BindsTo s fd ⟨[u], []⟩ [(x, u)])
    (hsp : ∀ H : Hp, (∀ p ∈ cs, H p.2 = some (.tbl #[])) → (∀ b ps, H b = some (.tbl ps) → b ∈ cs.map (·.2)) → SqL K H a (ns.map V.int) → sp [.ref a] H (fun v _ => v = .bl true) fun _ _ _ => False) :
    codeAny (model P w) callerA (.call (.ref fa) ⟨[.ref a], []⟩) (fun r s' => r = .ok (.ret (.bool true)) ∧ OldK s₁.heap s'.heap ∧ s'.os = s₁.os ∧ AllBare s'.gens) s₁ := by
  have rv := vals_ints hi
  have at_ : ∀ b ∈ cs.map (·.2), s₁.heap.get? b = some { cls := .none, data := .fields #[] } := fun b m => by
    obtain ⟨p, hp, rfl⟩ := List.mem_map.mp m
    exact hT p hp
  have mem : ∀ p ∈ cs, p.2 ∈ cs.map (·.2) := fun p hp => List.mem_map.mpr ⟨p, hp, rfl⟩
  have aT : a ∉ cs.map (·.2) := fun m => by
    have z := (at_ a m).symm.trans ha
    cases z
  obtain ⟨fr, hfr⟩ : ∃ fr : Bool, fr = (K.lookup a).isNone := ⟨_, rfl⟩
  obtain ⟨ob, hob⟩ : ∃ o : Obj, o = { cls := .type "list", data := .seq vs.toArray } := ⟨_, rfl⟩
  rw [← hob] at ha
  obtain ⟨H, hH⟩ : ∃ H, H = Hstart (cs.map (·.2)) a fr ob ns := ⟨_, rfl⟩
  have tr : ∀ {b u}, H b = some u → (b ∈ cs.map (·.2) ∧ u = .tbl #[]) ∨ (b = a ∧ fr = true ∧ u = .frz ob (.lst (ns.map V.int))) := fun {b u} h => by
    rw [hH] at h
    exact hs_cases h
  have Ht : ∀ p ∈ cs, H p.2 = some (.tbl #[]) := fun p hp => by
    rw [hH]
    exact if_pos (mem p hp)
  have base_of : ∀ {b : Addr} {o : Obj}, s₁.heap.get? b = some o → H b = none → (hidT s₁.heap H).get? b = some o := fun e n => hidT_get e n
  -- neither a list nor a table: not tracked
  have un_ : ∀ {b : Addr} {o : Obj}, s₁.heap.get? b = some o → (∀ vs n, o.data ≠ .seq vs n) → o.data ≠ .fields #[] → H b = none := fun {b o} e h1 h2 => by
    cases q : H b with
    | none => rfl
    | some u =>
      rcases tr q with ⟨m, _⟩ | ⟨rfl, _⟩
      · rw [at_ b m] at e
        cases e
        exact (h2 rfl).elim
      · rw [ha, hob] at e
        cases e
        exact (h1 _ _ rfl).elim
  have dct : ∀ {b : Addr} {m : Str → Option Value}, s₁.heap.Ns b m → (hidT s₁.heap H).Ns b m := fun {b m} ⟨o, es, ep, e, d, r⟩ => ⟨o, es, ep, base_of e (un_ e (fun vs n z => by rw [d] at z; cases z) fun z => by rw [d] at z; cases z), d, r⟩
  have KB : K.In (hidT s₁.heap H) := fun b o e => base_of (KX b o e) (by
    cases q : H b with
    | none => rfl
    | some u =>
      rcases tr q with ⟨m, _⟩ | ⟨rfl, h, _⟩
      · obtain ⟨p, hp, rfl⟩ := List.mem_map.mp m
        rw [nT p hp] at e
        cases e
      · rw [hfr, e] at h
        cases h)
  have TB : ∀ p ∈ cs, TabB (hidT s₁.heap H) mg p.1 p.2 := fun p hp => by
    refine ⟨?_, ?_, fun z => ?_⟩
    · obtain ⟨o, us, file, tf, flags, tg, inF, text, tt, e1, r1, r2, r⟩ := C p hp
      refine ⟨o, us, file, tf, flags, tg, inF, text, tt, base_of e1 (un_ e1 (fun vs n z => by rw [r2] at z; cases z) fun z => ?_), r1, r2, r⟩
      rw [r2] at z
      cases z
      have r3 := r.1
      simp at r3
    · obtain ⟨bm, o, b1, b2, b3, b4, b5, b6⟩ := hbm
      refine ⟨bm, o, b1, b2, fun q => ?_, fun q => ?_, base_of b3 (un_ b3 (fun vs n z => by rw [b6] at z; cases z) fun z => by rw [b6] at z; cases z), b4, b5, b6⟩
      · obtain ⟨o', es, ep, e, hd, _⟩ := hns
        rw [q, e] at b3
        cases b3
        rw [hd] at b6
        cases b6
      · rw [q, hT p hp] at b3
        cases b3
        cases b6
    · obtain ⟨o, es, ep, e, hd, _⟩ := hns
      rw [z, hT p hp] at e
      cases e
      cases hd
  have HO_ : HOk P w H s₁.heap := fun b u h => by
    rcases tr h with ⟨m, rfl⟩ | ⟨rfl, _, rfl⟩
    · exact at_ b m
    · exact ⟨ha, by rw [List.length_map]; exact hl, vs, _, rv, by rw [ha, hob]⟩
  have HS : SqL K H a (ns.map V.int) := by
    cases q : K.lookup a with
    | none => exact .inl (.inr ⟨ob, by rw [hH]; exact (if_neg aT).trans (if_pos ⟨rfl, by rw [hfr, q]; rfl⟩)⟩)
    | some o =>
      have e := KX a o q
      rw [ha] at e
      cases e
      subst hob
      exact .inr ⟨_, vs.toArray, _, q, rfl, rfl, rfl, by rw [List.size_toArray, hi.length]; exact hl, by simpa using rv⟩
  have M : L2.Mod K mg (hidT s₁.heap H) := ⟨KB, dct hns, ⟨mb, dct hb, hbb⟩, let ⟨mc, h1, h2⟩ := hlim; ⟨mc, dct h1, h2⟩⟩
  have e0 : Env0 P w K mg (hidT s₁.heap H) callerA [] s₁ H := ⟨rfl, M, fun b o e => of_hidT e, Nat.le_of_eq (hidT_size _ _), trivial, fun b m => absurd (show b ∈ ([] : List Addr) from m) (by simp), HO_, .of_eq hg⟩
  have goal := (F _ KB (dct hns) TB).run callerA [] s₁ H ⟨[.ref a], []⟩ [.ref a] [.ref a] _ _ hr rfl e0 (hbind s₁ (.ref a)) (.cons rfl .nil) (hsp H Ht (fun b ps h => by
    rcases tr h with ⟨m, _⟩ | ⟨_, _, z⟩
    · exact m
    · cases z) HS)
  refine codeAny_mono goal fun r s' h => ?_
  cases r with
  | error e =>
    obtain ⟨_, _, _, _, _, _, _, _, _, _, _, _, z⟩ := h
    exact z.elim
  | ok fl =>
    cases fl with
    | next => exact False.elim h
    | brk => exact False.elim h
    | cont => exact False.elim h
    | ret u =>
      obtain ⟨v, H', os, bare, un, hok', r', q⟩ := h
      have q' : v = .bl true := q
      subst q'
      obtain rfl : u = Value.bool true := r'
      have key : ∀ b o, b ∉ cs.map (·.2) → s₁.heap.get? b = some o → s'.heap.get? b = some o := fun b o nb e => by
        cases q : H b with
        | none => exact un.keep b o e q (fun z => absurd (show b ∈ ([] : List Addr) from z) (by simp)) (by simp)
        | some u =>
          rcases tr q with ⟨m, _⟩ | ⟨rfl, _, rfl⟩
          · exact absurd m nb
          · have z2 := (hok' b _ (un.frzs b ob _ q)).1
            rw [ha] at e
            cases e
            exact z2
      have grown : ∀ p ∈ cs, ∃ more : Array Value, s'.heap.get? p.2 = some { cls := .none, data := .fields more } := fun p hp => by
        obtain ⟨more, z⟩ := un.tbls p.2 #[] (Ht p hp)
        exact ⟨_, hok' p.2 _ z⟩
      refine ⟨rfl, ⟨fun b o e => ?_, fun b o e => ?_⟩, os, bare⟩
      · by_cases m : b ∈ cs.map (·.2)
        · obtain ⟨p, hp, rfl⟩ := List.mem_map.mp m
          obtain ⟨more, hm⟩ := grown p hp
          rw [hT p hp] at e
          cases e
          exact .inr (.inl ⟨((C p hp).tab (hT p hp)).isCodeTable, rfl, #[], more, rfl, by rw [Array.empty_append]; exact hm⟩)
        · exact .inl (key b o m e)
      · by_cases m : b ∈ cs.map (·.2)
        · obtain ⟨p, hp, rfl⟩ := List.mem_map.mp m
          obtain ⟨more, hm⟩ := grown p hp
          exact ⟨_, hm⟩
        · exact ⟨o, key b o m e⟩
/-- what is known of the law's promise at the head's heap h -/
def LawAtG (l : PySem.W.OpenLaw) (w : World) (K : PySem.W.Frag) (k n : Nat) (x : Str) (mg : Str → Option Value) (fa : Addr) (h : Heap) : Prop :=
  ∃ (fd : FuncData) (cs : List (Addr × Addr)) (sp : Sp), (∀ p ∈ cs, h.get? p.2 = some { cls := .none, data := .fields #[] }) ∧ (∀ p ∈ cs, K.lookup p.2 = none) ∧ (∀ p ∈ cs, PySem.W.CodeHd h p.1 p.2) ∧ (∀ (s : Shared) (u : Value), BindsTo s fd ⟨[u], []⟩ [(x, u)]) ∧
    (∀ (H : Hp) (a : Addr) (ns : List Int), ns.length ≤ n → (∀ z ∈ ns, Builtin.Int.intBits z ≤ 1048576) → (∀ p ∈ cs, H p.2 = some (.tbl #[])) → (∀ b ps, H b = some (.tbl ps) → b ∈ cs.map (·.2)) → SqL K H a (ns.map V.int) → sp [.ref a] H (fun v _ => v = .bl true) fun _ _ _ => False) ∧
    ∀ base : Heap, K.In base → base.Ns mainGlobals mg → (∀ p ∈ cs, TabB base mg p.1 p.2) → FnG l.prog w K mg base (L2.CX l.prog w) k fa fd [x] sp
theorem walk_ofG {l : PySem.W.OpenLaw} {n k : Nat} {q : Program} {loose : List Str} {XP : (Str → Option Value) → Heap → Prop} {YP : World → Heap → Prop} {d : DefRec} {x : Str}
    (hn : l.most = some n) (hn2 : n ≤ sizeLine) (hdf : d.params.defaults = []) (hr : Room k callerA)
    (F : ∀ (w : World) (mg : Str → Option Value) (fa : Addr) (h : Heap), YP w h → h.Ns mainGlobals mg → mg d.name = some (.ref fa) → ∃ K : PySem.W.Frag, K.In h ∧ LawAtG l w K k n x mg fa h) :
    PySem.W.WalkO q loose XP YP l.row.toRowW d [] (fun f vs => PySem.call f vs) := by
  refine Att.attach_callB hn hdf fun w s₀ s₁ mg mb fa o pm cd doc a vs ns G Y ho hd hcd hmg hobj hints hlen hbits hg => ?_
  obtain ⟨K, KX, fd, cs, sp, hT, nT, C, hb, hsp, hF⟩ := F w mg fa _ Y G.T.g hmg
  exact law_callG KX G.T.g G.T.b G.T.builtins G.T.nolimit hg hT nT C G.T.bmain hobj hints (Nat.le_trans hlen hn2) hr hF hb fun H hH hO hS => hsp H a ns hlen hbits hH hO hS
end Mi
end

section
set_option Elab.async false
set_option linter.all false
set_option maxRecDepth 100000
set_option maxHeartbeats 2000000
set_option autoImplicit false
/-! Mi32: the law's own start. -/
namespace Mi
open PySem L2 RZ PySem.Spec PySem.Calls PyProof.Rows
variable [TbT]
/-- what is tracked but the tables -/
def noTab (H : Hp) : Hp := fun b => match H b with
  | some (.tbl _) => none
  | u => u
theorem noTab_le {H : Hp} : Le (noTab H) H := fun b u h => by
  unfold noTab at h
  split at h
  · cases h
  · exact h
theorem noTab_ne {H : Hp} (b : Addr) (ps : Array Value) : noTab H b ≠ some (.tbl ps) := fun h => by
  unfold noTab at h
  split at h
  · cases h
  · rename_i q
    exact q ps h
theorem noTab_at {H : Hp} {b : Addr} {u : HO} (h : H b = some u) (n : ∀ ps, u ≠ .tbl ps) : noTab H b = some u := by
  unfold noTab
  split
  · rename_i ps q
    rw [h] at q
    exact absurd (Option.some.inj q) (n ps)
  · exact h
theorem reps_ints {K : PySem.W.Frag} {F : Fp} : ∀ ns : List Int, Reps K F (ns.map V.int) (ns.map D.int)
  | [] => .nil
  | n :: ns => .cons (.int n) (reps_ints ns)
theorem sqL_noTab {K : PySem.W.Frag} {H : Hp} {a : Addr} {xs : List V} (h : SqL K H a xs) : SqL K (noTab H) a xs := by
  rcases h with h | h
  · rcases h with h | ⟨o, h⟩
    · exact .inl (.inl (noTab_at h fun ps z => by cases z))
    · exact .inl (.inr ⟨o, noTab_at h fun ps z => by cases z⟩)
  · exact .inr h
/-- the law's promise at its start: the interpreter says True -/
theorem sp_start {K : PySem.W.Frag} {C : Ct} {i : Nat} {H : Hp} {a : Addr} {ns : List Int} (hS : SqL K H a (ns.map V.int)) (hT : ∀ p ∈ TbT.T, H p.1 = some (.tbl #[])) (hr : C.cal i [.lst (ns.map D.int)] [] = .ok (.bl true) []) :
    spI K C 1 i [.ref a] H (fun v _ => v = .bl true) (fun _ _ _ => False) := by
  refine ⟨⟨noTab H, [], []⟩, [], [.lst (ns.map D.int)], ⟨noTab_le, rfl, fun i d h => (by cases h), rfl, fun i o h => (by cases h), List.Pairwise.nil, fun p hp => LamX.TabS.nil (hT p hp), noTab_ne⟩, .cons (.lst (sqL_noTab hS) (reps_ints ns)) .nil, rfl, ?_⟩
  rw [hr]
  intro F' H' v R X rv
  cases rv
  rfl
end Mi
end

section
set_option Elab.async false
set_option linter.all false
set_option maxRecDepth 100000
set_option maxHeartbeats 2000000
set_option autoImplicit false
/-! Mi34: from a head's facts and the interpreter's answer to a law's end. -/
namespace Mi
open PySem L2 RZ PySem.Spec PySem.Calls PyProof.Rows
def dDv : D → He.Dv
  | .int i => .int i
  | .bl b => .bl b
  | _ => .non
theorem dDv_v {K : PySem.W.Frag} (d : D) : (dDv d).v K = dV d := by cases d <;> rfl
def ddOf (d : PDef) : He.DefD := ⟨(d.name, none), d.name, d.name, defArgs d.st, defBody d.st, defScope d.st, [], d.kw.map fun k => (k.1, dDv k.2)⟩
theorem ddOf_kws {K : PySem.W.Frag} (d : PDef) : (ddOf d).kws K = d.kw.map fun k => (k.1, dV k.2) := by
  show (d.kw.map fun k => (k.1, dDv k.2)).map (fun q => (q.1, q.2.v K)) = _
  rw [List.map_map]
  refine List.map_congr_left fun k _ => ?_
  show (k.1, (dDv k.2).v K) = _
  rw [dDv_v]
abbrev NX : Exn → Value → Option Addr → Fp → Hp → Prop := fun _ _ _ _ _ => False
theorem nx_ok {cs : List D} (cal : Cal) : XOk ⟨cs, cal, NX⟩ := fun _ _ _ _ _ _ _ h => False.elim h
section
variable {K : PySem.W.Frag} {h : Heap} {mg : Str → Option Value} {fa : List He.Fa} {fn : List He.DefD}
/-- a constant -/
abbrev CstOk (K : PySem.W.Frag) (mg : Str → Option Value) (x : Str) (d : D) : Prop := ∃ u v, mg x = some u ∧ RelV v u ∧ Rep K ⟨fun _ => none, [], []⟩ v d
theorem cst_int (X : K.In h) (G : h.Ns mainGlobals mg) (c : He.SaysD fa fn K) {x : Str} {i : Int} (m : He.Fa.int x i ∈ fa) : CstOk K mg x (.int i) := by
  obtain ⟨t, e⟩ := He.int_ok X G (c.facts m)
  exact ⟨_, .int i, e, ⟨t, rfl⟩, .int i⟩
theorem cst_str (X : K.In h) (G : h.Ns mainGlobals mg) (c : He.SaysD fa fn K) {x z : Str} (m : He.Fa.str x z ∈ fa) (hz : z.length ≤ sizeLine) : CstOk K mg x (.str z) := by
  obtain ⟨t, e⟩ := He.str_ok X G (c.facts m)
  exact ⟨_, .str z, e, ⟨t, rfl⟩, .str z hz⟩
theorem reps_dvs {F : Fp} : ∀ zs : List Str, (∀ z ∈ zs, z.length ≤ sizeLine) → Reps K F ((zs.map He.Dv.str).map (He.Dv.v K)) (zs.map D.str)
  | [], _ => .nil
  | z :: zs, h => .cons (.str z (h z List.mem_cons_self)) (reps_dvs zs fun y hy => h y (List.mem_cons_of_mem _ hy))
theorem cst_strs (X : K.In h) (G : h.Ns mainGlobals mg) (c : He.SaysD fa fn K) {x : Str} {zs : List Str} (m : He.Fa.glo x ∈ fa) (hz : ∀ z ∈ zs, z.length ≤ sizeLine) (ht : He.tupB K x (zs.map He.Dv.str) = true) : CstOk K mg x (.tup (zs.map .str)) :=
  ⟨_, .ref (He.ga K x), He.glo_ok X G (c.facts m), rfl, .tup (He.tupB_ok ht _) (reps_dvs zs hz)⟩
end
/-- one def makes lambdas (nm); the law stands at i -/
theorem at_end {l : PySem.W.OpenLaw} {w : World} {K : PySem.W.Frag} {h : Heap} {mg : Str → Option Value} {f : Addr} {defs : List PDef} {glb blt : List Str} {cs : List D} {fa : List He.Fa} {ex : PySem.W.Frag → Bool} {nm : Str} {dl : PDef} {i N : Nat} {x : Str}
    (X : K.In h) (G : h.Ns mainGlobals mg) (c : He.SaysX fa (defs.map ddOf) [] [(nm, none)] ex w h K)
    (hfa : ∀ d ∈ defs, He.Fa.glo d.name ∈ fa) (hbl : ∀ x ∈ blt, He.Fa.free x ∈ fa)
    (hC : defs.all (·.ok glb (fnTab defs) (kwTab defs) blt) = true) (hB : ∀ d ∈ defs, d.kw = [] → BindOk d) (hB2 : ∀ d ∈ defs, d.kw ≠ [] → ∀ f fd, PFun K d f fd → ∃ n, d.fn.np = n + d.kw.length ∧ KwB K fd d.ps n d.kw) (hlm : ∀ d ∈ defs, d.lm = true → d.name = nm)
    (hG : ∀ (i : Nat) x, glb[i]? = some x → ∃ d, cs[i]? = some d ∧ CstOk K mg x d)
    (hi : defs[i]? = some dl) (hps : dl.ps = [x]) (hnp : dl.fn.np = 1) (hkw : dl.kw = []) (hmg : mg dl.name = some (.ref f))
    (plain : ∀ ns : List Int, ns.length ≤ 63 → run cs (defs.map (·.fn)) N i [.lst (ns.map .int)] [] = .ok (.bl true) []) : LawAtG l w K (4 * N) 63 x mg f h := by
  letI : TbT := ⟨[((He.cT K (nm, none)).2, (nm ++ ".<locals>." : Str) ++ "<lambda>")]⟩
  have cd : He.SaysD fa (defs.map ddOf) K := He.SaysT.d c.t
  have hdl : dl ∈ defs := List.mem_of_getElem? hi
  have fun1 : ∀ d ∈ defs, ∃ fd, PFun K d (He.ga K d.name) fd ∧ mg d.name = some (.ref (He.ga K d.name)) := fun d hd => by
    obtain ⟨fd, F⟩ := cd.defs (d := ddOf d) (List.mem_map.mpr ⟨d, hd, rfl⟩)
    rw [ddOf_kws] at F
    exact ⟨fd, F, He.glo_ok X G (cd.facts (hfa d hd))⟩
  have lam : ∀ base : Heap, LamX.TabB base mg (He.cT K (nm, none)).1 (He.cT K (nm, none)).2 → ∀ d ∈ defs, ∀ fd, PFun K d (He.ga K d.name) fd → LamF mg base d fd := fun base T d hd fd F z => by
    obtain ⟨oc, od, dV, kV, doc, pm, an, cdv, ct, osl, e, lk, hcd, _, _⟩ := F.ex
    obtain ⟨c', rfl⟩ := He.codeIn_ref hcd
    have nmd := hlm d hd z
    have e2 : He.codeOf K (nm, none) = c' := He.codeOf_eq (p := (nm, none)) (by rw [← nmd]; exact lk) (by rw [e])
    refine ⟨c', (He.cT K (nm, none)).2, ?_, by rw [e], ?_, fun p hp _ => ?_⟩
    · have : (He.cT K (nm, none)).1 = c' := e2
      rw [← this]
      exact T
    · rw [nmd]
      exact List.mem_singleton.mpr rfl
    · rw [nmd]
      exact (List.mem_singleton.mp hp) ▸ rfl
  have hG' : ∀ (i : Nat) x, glb[i]? = some x → ∃ u v d, mg x = some u ∧ RelV v u ∧ cs[i]? = some d ∧ Rep K ⟨fun _ => none, [], []⟩ v d := fun i x e => by
    obtain ⟨d, e1, u, v, e2, e3, e4⟩ := hG i x e
    exact ⟨u, v, d, e2, e3, e1, e4⟩
  have hT : ∀ x ∈ blt, mg x = none := fun x hx => He.free_ok X G (cd.facts (hbl x hx))
  obtain ⟨fd, F, m⟩ := fun1 dl hdl
  have ef : f = He.ga K dl.name := by
    have := hmg.symm.trans m
    cases this
    rfl
  subst ef
  refine ⟨fd, [He.cT K (nm, none)], spI K ⟨cs, run cs (defs.map (·.fn)) N, NX⟩ 1 i, fun p hp => ?_, fun p hp => ?_, fun p hp => ?_, fun s u => ?_, fun H a ns hl _ hH _ hS => ?_, fun base Kb _ T => ?_⟩
  · rw [List.mem_singleton.mp hp]
    exact c.empty (nm, none) (List.mem_singleton.mpr rfl)
  · rw [List.mem_singleton.mp hp]
    exact c.out (nm, none) (List.mem_singleton.mpr rfl)
  · rw [List.mem_singleton.mp hp]
    exact PySem.W.codeHd_of_K X (c.hd (nm, none) (List.mem_singleton.mpr rfl))
  · have b := FunD.bindsA (ps := dl.ps) F (hB dl hdl hkw)
    have := b s [u] (by rw [hps]; rfl)
    rw [hps] at this
    exact this
  · refine sp_start (C := ⟨cs, run cs (defs.map (·.fn)) N, NX⟩) hS (fun p hp => ?_) (plain ns hl)
    rw [List.mem_singleton.mp hp]
    exact hH _ (List.mem_singleton.mpr rfl)
  · have key := prog_ok (P := l.prog) (w := w) (K := K) (mg := mg) (base := base) (XR := NX) (fun cal => nx_ok cal) hC (fun i d e => hB d (List.mem_of_getElem? e)) (fun i d e => hB2 d (List.mem_of_getElem? e)) (fun i d e => by
      obtain ⟨fd, F, m⟩ := fun1 d (List.mem_of_getElem? e)
      exact ⟨_, fd, F, m, lam base (T _ (List.mem_singleton.mpr rfl)) d (List.mem_of_getElem? e) fd F⟩) hG' hT N i dl hi _ fd F (lam base (T _ (List.mem_singleton.mpr rfl)) dl hdl fd F)
    rw [hps, hnp] at key
    exact key
end Mi
end

section
set_option Elab.async false
set_option linter.all false
set_option maxRecDepth 100000
set_option maxHeartbeats 4000000
/-! printed by gen2.py -/
namespace Mi.A
open PySem L2
/-- 0: is_number -/
def fis_number : Fn := ⟨3, 3, .pure, .cons (.ret (.and (.isa .int (.var 0)) (.cons (.not (.isa .bool (.var 0))) (.cons (.chain .le .le (.var 1) (.var 0) (.var 2)) (.nil))))) (.nil)⟩
/-- 1: is_name -/
def fis_name : Fn := ⟨1, 2, .pure, .cons (.cond (.or (.not (.isa .str (.var 0))) (.cons (.not (.chain .le .le (.int 1) (.bi .len (.cons (.var 0) (.nil))) (.glb 1))) (.nil))) (.cons (.ret (.bl false)) (.nil)) (.nil)) (.cons (.ret (.bi .all (.cons (.comp (.cmp .isin (.var 1) (.glb 0)) (.nm 1) (.seq (.var 0)) (.no) [1]) (.nil)))) (.nil))⟩
/-- 2: is_tuple_of -/
def fis_tuple_of : Fn := ⟨2, 2, .pure, .cons (.ret (.and (.isa .tuple (.var 0)) (.cons (.cmp .eq (.bi .len (.cons (.var 0) (.nil))) (.var 1)) (.nil)))) (.nil)⟩
/-- 3: are_up_to -/
def fare_up_to : Fn := ⟨2, 2, .pure, .cons (.ret (.and (.isa .tuple (.var 0)) (.cons (.cmp .le (.bi .len (.cons (.var 0) (.nil))) (.var 1)) (.nil)))) (.nil)⟩
/-- 4: are_words -/
def fare_words : Fn := ⟨1, 2, .pure, .cons (.cond (.or (.not (.call 3 (.cons (.var 0) (.cons (.bi .len (.cons (.glb 2) (.nil))) (.nil))))) (.cons (.not (.bi .all (.cons (.comp (.isa .str (.var 1)) (.nm 1) (.seq (.var 0)) (.no) [1]) (.nil)))) (.nil))) (.cons (.ret (.bl false)) (.nil)) (.nil)) (.cons (.ret (.cmp .eq (.var 0) (.bi .tuple (.cons (.comp (.var 1) (.nm 1) (.seq (.glb 2)) (.yes (.cmp .isin (.var 1) (.var 0))) [1]) (.nil))))) (.nil))⟩
/-- 5: is_interest -/
def fis_interest : Fn := ⟨1, 6, .pure, .cons (.cond (.not (.call 2 (.cons (.var 0) (.cons (.int 5) (.nil))))) (.cons (.ret (.bl false)) (.nil)) (.nil)) (.cons (.unp (.tup [.nm 1, .nm 2, .nm 3, .nm 4, .nm 5]) (.var 0)) (.cons (.cond (.or (.not (.call 1 (.cons (.var 1) (.nil)))) (.cons (.not (.call 4 (.cons (.var 2) (.nil)))) (.cons (.cmp .eq (.var 2) (.tup (.nil))) (.nil)))) (.cons (.ret (.bl false)) (.nil)) (.nil)) (.cons (.ret (.and (.isa .str (.var 3)) (.cons (.cmp .isin (.var 3) (.tup (.cons (.glb 4) (.cons (.glb 3) (.nil))))) (.cons (.isa .bool (.var 4)) (.cons (.isa .bool (.var 5)) (.nil)))))) (.nil))))⟩
/-- 6: is_entry -/
def fis_entry : Fn := ⟨1, 4, .pure, .cons (.cond (.or (.not (.call 2 (.cons (.var 0) (.cons (.int 3) (.nil))))) (.cons (.not (.call 5 (.cons (.ix (.var 0) (.int 0)) (.nil)))) (.cons (.not (.isa .bool (.ix (.var 0) (.int 1)))) (.nil)))) (.cons (.ret (.bl false)) (.nil)) (.nil)) (.cons (.unp (.tup [.nm 1, .nm 2]) (.slc (.ix (.var 0) (.int 0)) (.yes (.int 1)) (.yes (.int 3)))) (.cons (.cond (.not (.call 4 (.cons (.ix (.var 0) (.int 2)) (.nil)))) (.cons (.ret (.bl false)) (.nil)) (.nil)) (.cons (.ret (.or (.cmp .eq (.ix (.var 0) (.int 2)) (.tup (.nil))) (.cons (.and (.cmp .eq (.var 2) (.glb 3)) (.cons (.bi .all (.cons (.comp (.cmp .isin (.var 3) (.var 1)) (.nm 3) (.seq (.ix (.var 0) (.int 2))) (.no) [3]) (.nil))) (.nil))) (.nil)))) (.nil))))⟩
/-- 7: is_pipe -/
def fis_pipe : Fn := ⟨1, 1, .pure, .cons (.cond (.or (.not (.call 2 (.cons (.var 0) (.cons (.int 4) (.nil))))) (.cons (.not (.call 1 (.cons (.ix (.var 0) (.int 0)) (.nil)))) (.cons (.not (.call 0 (.cons (.ix (.var 0) (.int 1)) (.cons (.int 1) (.cons (.glb 5) (.nil)))))) (.nil)))) (.cons (.ret (.bl false)) (.nil)) (.nil)) (.cons (.ret (.and (.call 0 (.cons (.ix (.var 0) (.int 2)) (.cons (.int 0) (.cons (.ix (.var 0) (.int 1)) (.nil))))) (.cons (.isa .bool (.ix (.var 0) (.int 3))) (.nil)))) (.nil))⟩
/-- 8: are_waiting -/
def fare_waiting : Fn := ⟨1, 2, .pure, .cons (.cond (.not (.call 3 (.cons (.var 0) (.cons (.glb 7) (.nil))))) (.cons (.ret (.bl false)) (.nil)) (.nil)) (.cons (.ret (.bi .all (.cons (.comp (.and (.call 2 (.cons (.var 1) (.cons (.int 2) (.nil)))) (.cons (.call 1 (.cons (.ix (.var 1) (.int 0)) (.nil))) (.cons (.call 0 (.cons (.ix (.var 1) (.int 1)) (.cons (.int 1) (.cons (.glb 6) (.nil))))) (.nil)))) (.nm 1) (.seq (.var 0)) (.no) [1]) (.nil)))) (.nil))⟩
/-- 9: targets_of -/
def ftargets_of : Fn := ⟨1, 2, .pure, .cons (.ret (.comp (.ix (.ix (.var 1) (.int 0)) (.int 0)) (.nm 1) (.seq (.ix (.var 0) (.int 1))) (.no) [1])) (.nil)⟩
/-- 10: is_set -/
def fis_set : Fn := ⟨1, 5, .pure, .cons (.cond (.or (.not (.call 2 (.cons (.var 0) (.cons (.int 5) (.nil))))) (.cons (.not (.call 1 (.cons (.ix (.var 0) (.int 0)) (.nil)))) (.cons (.not (.call 3 (.cons (.ix (.var 0) (.int 1)) (.cons (.glb 6) (.nil))))) (.nil)))) (.cons (.ret (.bl false)) (.nil)) (.nil)) (.cons (.cond (.or (.not (.bi .all (.cons (.comp (.call 6 (.cons (.var 4) (.nil))) (.nm 4) (.seq (.ix (.var 0) (.int 1))) (.no) [4]) (.nil)))) (.cons (.not (.call 8 (.cons (.ix (.var 0) (.int 3)) (.nil)))) (.cons (.not (.call 8 (.cons (.ix (.var 0) (.int 4)) (.nil)))) (.nil)))) (.cons (.ret (.bl false)) (.nil)) (.nil)) (.cons (.set 1 (.call 9 (.cons (.var 0) (.nil)))) (.cons (.cond (.or (.cmp .lt (.bi .lenset (.cons (.var 1) (.nil))) (.bi .len (.cons (.var 1) (.nil)))) (.cons (.not (.call 3 (.cons (.ix (.var 0) (.int 2)) (.cons (.glb 6) (.nil))))) (.nil))) (.cons (.ret (.bl false)) (.nil)) (.nil)) (.cons (.set 2 (.ix (.var 0) (.int 2))) (.cons (.ret (.and (.bi .all (.cons (.comp (.and (.isa .str (.var 3)) (.cons (.cmp .isin (.var 3) (.var 1)) (.nil))) (.nm 3) (.seq (.var 2)) (.no) [3]) (.nil))) (.cons (.cmp .eq (.bi .lenset (.cons (.var 2) (.nil))) (.bi .len (.cons (.var 2) (.nil)))) (.nil)))) (.nil))))))⟩
/-- 11: waiting_at -/
def fwaiting_at : Fn := ⟨1, 3, .pure, .cons (.ret (.comp (.var 1) (.tup [.nm 1, .nm 2]) (.seq (.bin .add (.ix (.var 0) (.int 3)) (.ix (.var 0) (.int 4)))) (.no) [1, 2])) (.nil)⟩
/-- 12: so_words -/
def fso_words : Fn := ⟨2, 11, .pure, .cons (.unp (.tup [.nm 2, .nm 3]) (.var 0)) (.cons (.fr (.tup [.nm 4, .nm 5, .nm 6, .nm 7]) (.seq (.var 2)) (.cons (.cond (.cmp .eq (.var 4) (.var 1)) (.cons (.set 8 (.dict (.cons (.str "in") (.or (.cmp .gt (.var 6) (.int 0)) (.cons (.var 7) (.nil))) (.cons (.str "out") (.and (.cmp .lt (.var 6) (.var 5)) (.cons (.not (.var 7)) (.nil))) (.cons (.str "gone") (.var 7) (.nil)))))) (.cons (.ret (.bi .tuple (.cons (.comp (.var 10) (.nm 10) (.seq (.glb 2)) (.yes (.ix (.var 8) (.var 10))) [10]) (.nil)))) (.nil))) (.nil)) (.nil))) (.cons (.ret (.ite (.bi .any (.cons (.comp (.and (.cmp .eq (.ix (.var 9) (.int 0)) (.var 1)) (.cons (.cmp .ne (.ix (.var 9) (.int 2)) (.tup (.nil))) (.nil))) (.nm 9) (.seq (.var 3)) (.no) [9]) (.nil))) (.tup (.cons (.str "in") (.nil))) (.tup (.nil)))) (.nil)))⟩
/-- 13: due_words -/
def fdue_words : Fn := ⟨2, 11, .pure, .cons (.unp (.tup [.tup [.nm 5, .nm 6, .nm 7, .nm 8, .nm 9], .nm 3, .nm 4]) (.var 1)) (.cons (.set 2 (.bi .tuple (.cons (.comp (.var 10) (.nm 10) (.seq (.call 12 (.cons (.var 0) (.cons (.var 5) (.nil))))) (.yes (.cmp .isin (.var 10) (.var 6))) [10]) (.nil)))) (.cons (.cond (.cmp .eq (.var 7) (.glb 4)) (.cons (.ret (.tup (.cons (.var 2) (.cons (.and (.var 3) (.cons (.cmp .ne (.var 2) (.tup (.nil))) (.nil))) (.nil))))) (.nil)) (.nil)) (.cons (.ret (.tup (.cons (.var 2) (.cons (.and (.var 3) (.cons (.bi .any (.cons (.comp (.cmp .isin (.var 10) (.var 4)) (.nm 10) (.seq (.var 2)) (.no) [10]) (.nil))) (.nil))) (.nil))))) (.nil))))⟩
/-- 14: due_targets -/
def fdue_targets : Fn := ⟨2, 3, .pure, .cons (.ret (.comp (.ix (.ix (.var 2) (.int 0)) (.int 0)) (.nm 2) (.seq (.ix (.var 1) (.int 1))) (.yes (.ix (.call 13 (.cons (.var 0) (.cons (.var 2) (.nil)))) (.int 1))) [2])) (.nil)⟩
/-- 15: below -/
def fbelow : Fn := ⟨2, 7, .pure, .cons (.set 2 (.dcomp (.ix (.var 6) (.int 0)) (.call 9 (.cons (.var 6) (.nil))) (.nm 6) (.seq (.var 0)) (.no) [6])) (.cons (.set 3 (.new (.dict (.nil)))) (.cons (.set 4 (.new (.bi .list (.cons (.mt .get2 (.var 2) (.cons (.var 1) (.cons (.lst (.nil)) (.nil)))) (.nil))))) (.cons (.whil (.cmp .ne (.var 4) (.lst (.nil))) (.cons (.set 5 (.mu .pop (.var 4) (.nil))) (.cons (.cond (.cmp .notin (.var 5) (.var 3)) (.cons (.sub (.var 3) (.var 5) (.bl true)) (.cons (.expr (.mu .extend (.var 4) (.cons (.mt .get2 (.var 2) (.cons (.var 5) (.cons (.lst (.nil)) (.nil)))) (.nil)))) (.nil))) (.nil)) (.nil)))) (.cons (.ret (.bi .tuple (.cons (.bi .sorted (.cons (.var 3) (.nil))) (.nil)))) (.nil)))))⟩
/-- 16: has_forms -/
def fhas_forms : Fn := ⟨2, 6, .pure, .cons (.par [2, 3] (.cons (.new (.lst (.nil))) (.cons (.new (.lst (.nil))) (.nil)))) (.cons (.fr (.tup [.nm 4, .nm 5]) (.enum (.var 0)) (.cons (.cond (.or (.not (.call 7 (.cons (.var 5) (.nil)))) (.cons (.cmp .isin (.ix (.var 5) (.int 0)) (.var 2)) (.nil))) (.cons (.never) (.nil)) (.nil)) (.cons (.expr (.mu .append (.var 2) (.cons (.ix (.var 5) (.int 0)) (.nil)))) (.nil)))) (.cons (.fr (.tup [.nm 4, .nm 5]) (.enum (.var 1)) (.cons (.cond (.or (.not (.call 10 (.cons (.var 5) (.nil)))) (.cons (.cmp .isin (.ix (.var 5) (.int 0)) (.var 2)) (.nil))) (.cons (.never) (.nil)) (.nil)) (.cons (.expr (.mu .append (.var 2) (.cons (.ix (.var 5) (.int 0)) (.nil)))) (.cons (.expr (.mu .extend (.var 3) (.cons (.call 11 (.cons (.var 5) (.nil))) (.nil)))) (.cons (.cond (.or (.cmp .lt (.bi .lenset (.cons (.var 3) (.nil))) (.bi .len (.cons (.var 3) (.nil)))) (.cons (.cmp .gt (.bi .len (.cons (.var 3) (.nil))) (.glb 7)) (.nil))) (.cons (.never) (.nil)) (.nil)) (.nil)))))) (.cons (.ret (.var 2)) (.nil))))⟩
/-- 17: need_webs -/
def fneed_webs : Fn := ⟨2, 11, .pure, .cons (.cond (.or (.not (.call 3 (.cons (.var 0) (.cons (.glb 8) (.nil))))) (.cons (.not (.call 3 (.cons (.var 1) (.cons (.glb 9) (.nil))))) (.nil))) (.cons (.never) (.nil)) (.nil)) (.cons (.set 2 (.call 16 (.cons (.var 0) (.cons (.var 1) (.nil))))) (.cons (.set 3 (.comp (.ix (.var 5) (.int 0)) (.nm 5) (.seq (.var 1)) (.no) [5])) (.cons (.fr (.tup [.nm 4, .nm 5]) (.enum (.var 1)) (.cons (.fr (.tup [.star [.nm 8, .nm 9] 10, .nm 6, .nm 7]) (.seq (.ix (.var 5) (.int 1))) (.cons (.cond (.or (.cmp .notin (.var 8) (.var 2)) (.cons (.and (.cmp .isin (.var 8) (.var 3)) (.cons (.cmp .ne (.var 9) (.tup (.cons (.str "in") (.nil)))) (.nil))) (.nil))) (.cons (.never) (.nil)) (.nil)) (.nil))) (.nil))) (.cons (.fr (.tup [.nm 4, .nm 5]) (.enum (.var 1)) (.cons (.cond (.cmp .isin (.ix (.var 5) (.int 0)) (.call 15 (.cons (.var 1) (.cons (.ix (.var 5) (.int 0)) (.nil))))) (.cons (.never) (.nil)) (.nil)) (.nil))) (.nil)))))⟩
/-- 18: settled_row -/
def fsettled_row : Fn := ⟨2, 5, .pure, .cons (.set 2 (.call 14 (.cons (.var 0) (.cons (.var 1) (.nil))))) (.cons (.set 3 (.comp (.var 4) (.nm 4) (.seq (.ix (.var 1) (.int 2))) (.yes (.cmp .isin (.var 4) (.var 2))) [4])) (.cons (.ret (.bi .tuple (.cons (.bin .add (.var 3) (.comp (.var 4) (.nm 4) (.seq (.var 2)) (.yes (.cmp .notin (.var 4) (.var 3))) [4])) (.nil)))) (.nil)))⟩
/-- 19: own_settled -/
def fown_settled : Fn := ⟨2, 8, .pure, .cons (.set 2 (.new (.dcomp (.ix (.var 5) (.int 0)) (.var 5) (.nm 5) (.seq (.var 1)) (.no) [5]))) (.cons (.set 3 (.bi .list (.cons (.var 2) (.nil)))) (.cons (.fr (.nm 4) (.seq (.sortk (.var 3) 7 (.bi .len (.cons (.call 15 (.cons (.var 1) (.cons (.var 7) (.nil)))) (.nil))))) (.cons (.set 5 (.ix (.var 2) (.var 4))) (.cons (.set 6 (.call 18 (.cons (.tup (.cons (.var 0) (.cons (.bi .tuple (.cons (.comp (.ix (.var 2) (.var 7)) (.nm 7) (.seq (.var 3)) (.no) [7]) (.nil))) (.nil)))) (.cons (.var 5) (.nil))))) (.cons (.sub (.var 2) (.var 4) (.bin .add (.bin .add (.slc (.var 5) (.no) (.yes (.int 2))) (.tup (.cons (.var 6) (.nil)))) (.slc (.var 5) (.yes (.int 3)) (.no)))) (.nil))))) (.cons (.ret (.tup (.cons (.var 0) (.cons (.bi .tuple (.cons (.comp (.ix (.var 2) (.var 7)) (.nm 7) (.seq (.var 3)) (.no) [7]) (.nil))) (.nil))))) (.nil))))⟩
/-- 20: settled -/
def fsettled : Fn := ⟨2, 2, .pure, .cons (.expr (.call 17 (.cons (.var 0) (.cons (.var 1) (.nil))))) (.cons (.ret (.call 19 (.cons (.var 0) (.cons (.var 1) (.nil))))) (.nil))⟩
/-- 21: _law_mixed -/
def f_law_mixed : Fn := ⟨2, 2, .pure, .cons (.set 0 (.bin .mod (.var 0) (.int 2147483647))) (.cons (.ret (.bin .mod (.bin .mul (.bin .mod (.bin .add (.bin .add (.bin .mul (.var 0) (.bin .add (.int 48271) (.bin .mul (.bin .mul (.int 2) (.var 1)) (.var 1)))) (.bin .mul (.int 69621) (.var 1))) (.int 11)) (.int 2147483647)) (.int 69621)) (.int 2147483629))) (.nil))⟩
/-- 22: _law_begin -/
def f_law_begin : Fn := ⟨1, 3, .all, .cons (.set 1 (.ite (.cmp .ne (.var 0) (.lst (.nil))) (.bi .list (.cons (.var 0) (.nil))) (.lst (.cons (.int 0) (.nil))))) (.cons (.ret (.new (.dict (.cons (.str "cells") (.var 1) (.cons (.str "lefts") (.new (.comp (.ite (.cmp .ge (.var 2) (.bin .pow (.int 10) (.int 18))) (.var 2) (.int 0)) (.nm 2) (.seq (.var 1)) (.no) [2])) (.cons (.str "at") (.int 0) (.nil))))))) (.nil))⟩
/-- 23: _law_draw -/
def f_law_draw : Fn := ⟨2, 6, .cut, .cons (.set 2 (.ix (.var 0) (.str "at"))) (.cons (.sub (.var 0) (.str "at") (.bin .add (.var 2) (.int 1))) (.cons (.set 3 (.bin .mod (.var 2) (.bi .len (.cons (.ix (.var 0) (.str "cells")) (.nil))))) (.cons (.set 4 (.ix (.ix (.var 0) (.str "lefts")) (.var 3))) (.cons (.cond (.cmp .gt (.var 4) (.int 0)) (.cons (.sub (.ix (.var 0) (.str "lefts")) (.var 3) (.bin .fdiv (.var 4) (.var 1))) (.cons (.ret (.bin .mod (.var 4) (.var 1))) (.nil))) (.nil)) (.cons (.set 5 (.call 21 (.cons (.call 21 (.cons (.ix (.ix (.var 0) (.str "cells")) (.var 3)) (.cons (.var 2) (.nil)))) (.cons (.bin .add (.int 40) (.var 2)) (.nil))))) (.cons (.ret (.bin .mod (.bin .fdiv (.bin .add (.bin .mul (.var 5) (.int 2147483647)) (.call 21 (.cons (.var 5) (.cons (.bin .add (.int 7) (.var 2)) (.nil))))) (.int 64)) (.var 1))) (.nil)))))))⟩
/-- 24: _law_names -/
def f_law_names : Fn := ⟨2, 12, .cut, .cons (.set 2 (.str "abcdefghijklmnopqrstuvwxyz")) (.cons (.unp (.tup [.nm 5, .nm 6]) (.tup (.cons (.call 23 (.cons (.var 0) (.cons (.int 4) (.nil)))) (.cons (.call 23 (.cons (.var 0) (.cons (.int 26) (.nil)))) (.nil))))) (.cons (.cond (.cmp .eq (.var 5) (.int 0)) (.cons (.set 7 (.str "in out gone level edge once alone off fresh row sleeps woken pipe set entry put wait")) (.cons (.set 7 (.bin .add (.mt .split (.var 7) (.cons (.str " ") (.nil))) (.lst (.cons (.str "add") (.cons (.str "open") (.cons (.str "shut") (.nil))))))) (.cons (.ret (.comp (.ix (.var 7) (.bin .mod (.bin .add (.var 6) (.bin .mul (.int 7) (.var 8))) (.int 20))) (.nm 8) (.range (.var 1)) (.no) [8])) (.nil)))) (.nil)) (.cons (.set 3 (.mt .join (.str "") (.cons (.comp (.ix (.var 2) (.call 23 (.cons (.var 0) (.cons (.int 26) (.nil))))) (.nm 8) (.range (.int 7)) (.no) [8]) (.nil)))) (.cons (.cond (.cmp .eq (.var 5) (.int 1)) (.cons (.ret (.comp (.slc (.bin .add (.ix (.var 2) (.bin .mod (.bin .add (.var 6) (.bin .fdiv (.var 8) (.int 8))) (.int 26))) (.var 3)) (.no) (.yes (.bin .add (.int 1) (.bin .mod (.bin .add (.var 8) (.var 6)) (.int 8))))) (.nm 8) (.range (.var 1)) (.no) [8])) (.nil)) (.nil)) (.cons (.set 4 (.comp (.ix (.var 2) (.bin .mod (.bin .add (.var 6) (.bin .mul (.int 5) (.var 8))) (.int 26))) (.nm 8) (.range (.var 1)) (.no) [8])) (.cons (.cond (.cmp .eq (.var 5) (.int 2)) (.cons (.unp (.tup [.nm 9, .nm 10]) (.tup (.cons (.call 23 (.cons (.var 0) (.cons (.int 7) (.nil)))) (.cons (.call 23 (.cons (.var 0) (.cons (.int 8) (.nil)))) (.nil))))) (.cons (.ret (.comp (.bin .add (.bin .add (.slc (.var 3) (.no) (.yes (.bi .min (.cons (.var 9) (.cons (.var 10) (.nil)))))) (.var 11)) (.slc (.var 3) (.yes (.var 9)) (.yes (.var 10)))) (.nm 11) (.seq (.var 4)) (.no) [11])) (.nil))) (.nil)) (.cons (.ret (.comp (.bin .add (.var 11) (.slc (.var 3) (.no) (.yes (.call 23 (.cons (.var 0) (.cons (.int 8) (.nil))))))) (.nm 11) (.seq (.var 4)) (.no) [11])) (.nil))))))))⟩
/-- 25: _law_pipe -/
def f_law_pipe : Fn := ⟨2, 4, .cut, .cons (.set 2 (.ix (.lst (.cons (.int 1) (.cons (.int 9) (.cons (.bin .add (.int 1) (.call 23 (.cons (.var 0) (.cons (.int 9) (.nil))))) (.nil))))) (.call 23 (.cons (.var 0) (.cons (.int 3) (.nil)))))) (.cons (.set 3 (.ix (.lst (.cons (.int 0) (.cons (.var 2) (.cons (.call 23 (.cons (.var 0) (.cons (.bin .add (.var 2) (.int 1)) (.nil)))) (.nil))))) (.call 23 (.cons (.var 0) (.cons (.int 3) (.nil)))))) (.cons (.ret (.tup (.cons (.var 1) (.cons (.var 2) (.cons (.var 3) (.cons (.cmp .eq (.call 23 (.cons (.var 0) (.cons (.int 4) (.nil)))) (.int 0)) (.nil))))))) (.nil)))⟩
/-- 26: _law_entry -/
def f_law_entry : Fn := ⟨3, 9, .cut, .cons (.set 3 (.new (.lst (.cons (.tup (.cons (.str "in") (.nil))) (.cons (.tup (.cons (.str "out") (.nil))) (.cons (.tup (.cons (.str "gone") (.nil))) (.cons (.tup (.cons (.str "in") (.cons (.str "out") (.nil)))) (.cons (.tup (.cons (.str "in") (.cons (.str "gone") (.nil)))) (.cons (.tup (.cons (.str "out") (.cons (.str "gone") (.nil)))) (.nil)))))))))) (.cons (.expr (.mu .append (.var 3) (.cons (.tup (.cons (.str "in") (.cons (.str "out") (.cons (.str "gone") (.nil))))) (.nil)))) (.cons (.set 4 (.ite (.var 2) (.tup (.cons (.str "in") (.nil))) (.ix (.var 3) (.call 23 (.cons (.var 0) (.cons (.int 7) (.nil))))))) (.cons (.set 5 (.ix (.lst (.cons (.str "level") (.cons (.str "edge") (.nil)))) (.call 23 (.cons (.var 0) (.cons (.int 2) (.nil)))))) (.cons (.set 6 (.tup (.cons (.var 1) (.cons (.var 4) (.cons (.var 5) (.cons (.cmp .eq (.call 23 (.cons (.var 0) (.cons (.int 4) (.nil)))) (.int 0)) (.cons (.cmp .eq (.call 23 (.cons (.var 0) (.cons (.int 4) (.nil)))) (.int 0)) (.nil)))))))) (.cons (.set 7 (.bi .tuple (.cons (.comp (.var 8) (.nm 8) (.seq (.var 4)) (.yes (.cmp .gt (.call 23 (.cons (.var 0) (.cons (.int 3) (.nil)))) (.int 0))) [8]) (.nil)))) (.cons (.ret (.tup (.cons (.var 6) (.cons (.cmp .gt (.call 23 (.cons (.var 0) (.cons (.int 5) (.nil)))) (.int 0)) (.cons (.ite (.cmp .eq (.var 5) (.str "edge")) (.var 7) (.tup (.nil))) (.nil)))))) (.nil)))))))⟩
/-- 27: _law_entries -/
def f_law_entries : Fn := ⟨3, 8, .cut, .cons (.par [4, 5] (.cons (.new (.bin .add (.bi .list (.cons (.var 1) (.nil))) (.var 2))) (.cons (.new (.lst (.nil))) (.nil)))) (.cons (.fr (.nm 3) (.range (.bi .min (.cons (.bi .len (.cons (.var 4) (.nil))) (.cons (.ix (.lst (.cons (.call 23 (.cons (.var 0) (.cons (.int 7) (.nil)))) (.cons (.int 6) (.cons (.int 2) (.cons (.int 3) (.nil)))))) (.call 23 (.cons (.var 0) (.cons (.int 4) (.nil))))) (.nil))))) (.cons (.set 6 (.call 23 (.cons (.var 0) (.cons (.bi .len (.cons (.var 4) (.nil))) (.nil))))) (.cons (.cond (.and (.cmp .eq (.var 3) (.int 0)) (.cons (.cmp .ne (.var 2) (.lst (.nil))) (.cons (.cmp .eq (.call 23 (.cons (.var 0) (.cons (.int 2) (.nil)))) (.int 0)) (.nil)))) (.cons (.set 6 (.bin .sub (.bi .len (.cons (.var 4) (.nil))) (.int 1))) (.nil)) (.nil)) (.cons (.set 7 (.mu .popAt (.var 4) (.cons (.var 6) (.nil)))) (.cons (.expr (.mu .append (.var 5) (.cons (.call 26 (.cons (.var 0) (.cons (.var 7) (.cons (.cmp .isin (.var 7) (.var 2)) (.nil))))) (.nil)))) (.nil)))))) (.cons (.ret (.bi .tuple (.cons (.var 5) (.nil)))) (.nil)))⟩
/-- 28: _law_any_row -/
def f_law_any_row : Fn := ⟨2, 6, .cut, .cons (.par [3, 4] (.cons (.new (.comp (.ix (.ix (.var 5) (.int 0)) (.int 0)) (.nm 5) (.seq (.var 1)) (.no) [5])) (.cons (.new (.lst (.nil))) (.nil)))) (.cons (.fr (.nm 2) (.range (.call 23 (.cons (.var 0) (.cons (.bin .add (.bi .len (.cons (.var 3) (.nil))) (.int 1)) (.nil))))) (.cons (.expr (.mu .append (.var 4) (.cons (.mu .popAt (.var 3) (.cons (.call 23 (.cons (.var 0) (.cons (.bi .len (.cons (.var 3) (.nil))) (.nil)))) (.nil))) (.nil)))) (.nil))) (.cons (.ret (.bi .tuple (.cons (.var 4) (.nil)))) (.nil)))⟩
/-- 29: _law_waiting -/
def f_law_waiting : Fn := ⟨2, 8, .cut, .cons (.set 2 (.new (.bi .dict (.cons (.comp (.tup (.cons (.var 4) (.cons (.tup (.cons (.tup (.nil)) (.cons (.tup (.nil)) (.nil)))) (.nil)))) (.nm 4) (.seq (.var 1)) (.no) [4]) (.nil))))) (.cons (.fr (.nm 3) (.seq (.slc (.call 24 (.cons (.var 0) (.cons (.int 6) (.nil)))) (.no) (.yes (.call 23 (.cons (.var 0) (.cons (.int 7) (.nil))))))) (.cons (.cond (.cmp .ne (.var 1) (.lst (.nil))) (.cons (.set 4 (.ix (.var 1) (.call 23 (.cons (.var 0) (.cons (.bi .len (.cons (.var 1) (.nil))) (.nil)))))) (.cons (.unp (.tup [.nm 6, .nm 7]) (.ix (.var 2) (.var 4))) (.cons (.set 5 (.tup (.cons (.tup (.cons (.var 3) (.cons (.bin .add (.int 1) (.call 23 (.cons (.var 0) (.cons (.int 6) (.nil))))) (.nil)))) (.nil)))) (.cons (.sub (.var 2) (.var 4) (.ite (.cmp .eq (.call 23 (.cons (.var 0) (.cons (.int 2) (.nil)))) (.int 0)) (.tup (.cons (.bin .add (.var 6) (.var 5)) (.cons (.var 7) (.nil)))) (.tup (.cons (.var 6) (.cons (.bin .add (.var 7) (.var 5)) (.nil)))))) (.nil))))) (.nil)) (.nil))) (.cons (.ret (.var 2)) (.nil)))⟩
/-- 30: _law_web -/
def f_law_web : Fn := ⟨1, 10, .cut, .cons (.set 1 (.ix (.lst (.cons (.call 23 (.cons (.var 0) (.cons (.int 5) (.nil)))) (.cons (.int 4) (.cons (.int 2) (.cons (.int 1) (.nil)))))) (.call 23 (.cons (.var 0) (.cons (.int 4) (.nil)))))) (.cons (.set 2 (.call 24 (.cons (.var 0) (.cons (.bin .add (.var 1) (.ix (.lst (.cons (.bin .add (.int 1) (.call 23 (.cons (.var 0) (.cons (.int 4) (.nil))))) (.cons (.int 4) (.cons (.int 2) (.cons (.int 3) (.nil)))))) (.call 23 (.cons (.var 0) (.cons (.int 4) (.nil)))))) (.nil))))) (.cons (.set 3 (.bi .tuple (.cons (.comp (.call 25 (.cons (.var 0) (.cons (.var 9) (.nil)))) (.nm 9) (.seq (.slc (.var 2) (.no) (.yes (.var 1)))) (.no) [9]) (.nil)))) (.cons (.unp (.tup [.nm 6, .nm 7, .nm 8]) (.tup (.cons (.new (.slc (.var 2) (.yes (.var 1)) (.no))) (.cons (.lst (.nil)) (.cons (.new (.dict (.nil))) (.nil)))))) (.cons (.whil (.cmp .ne (.var 6) (.lst (.nil))) (.cons (.set 9 (.mu .popAt (.var 6) (.cons (.call 23 (.cons (.var 0) (.cons (.bi .len (.cons (.var 6) (.nil))) (.nil)))) (.nil)))) (.cons (.sub (.var 8) (.var 9) (.call 27 (.cons (.var 0) (.cons (.slc (.var 2) (.no) (.yes (.var 1))) (.cons (.var 7) (.nil)))))) (.cons (.set 7 (.bin .add (.var 7) (.lst (.cons (.var 9) (.nil))))) (.nil))))) (.cons (.set 4 (.call 29 (.cons (.var 0) (.cons (.slc (.var 2) (.yes (.var 1)) (.no)) (.nil))))) (.cons (.set 5 (.comp (.bin .add (.tup (.cons (.var 9) (.cons (.ix (.var 8) (.var 9)) (.cons (.call 28 (.cons (.var 0) (.cons (.ix (.var 8) (.var 9)) (.nil)))) (.nil))))) (.ix (.var 4) (.var 9))) (.nm 9) (.seq (.slc (.var 2) (.yes (.var 1)) (.no))) (.no) [9])) (.cons (.ret (.tup (.cons (.var 3) (.cons (.bi .tuple (.cons (.var 5) (.nil))) (.nil))))) (.nil))))))))⟩
/-- 31: _law_ready -/
def f_law_ready : Fn := ⟨3, 10, .cut, .cons (.fr (.tup [.nm 3, .nm 4, .nm 5, .nm 6]) (.seq (.var 0)) (.cons (.cond (.cmp .eq (.var 3) (.var 2)) (.cons (.set 7 (.new (.lst (.cons (.tup (.cons (.str "in") (.cons (.or (.cmp .gt (.var 5) (.int 0)) (.cons (.var 6) (.nil))) (.nil)))) (.cons (.tup (.cons (.str "gone") (.cons (.var 6) (.nil)))) (.nil)))))) (.cons (.expr (.mu .insert (.var 7) (.cons (.int 1) (.cons (.tup (.cons (.str "out") (.cons (.and (.cmp .lt (.var 5) (.var 4)) (.cons (.not (.var 6)) (.nil))) (.nil)))) (.nil))))) (.cons (.ret (.comp (.var 8) (.tup [.nm 8, .nm 9]) (.seq (.var 7)) (.yes (.var 9)) [8, 9])) (.nil)))) (.nil)) (.nil))) (.cons (.ret (.ite (.cmp .ne (.ix (.var 1) (.var 2)) (.tup (.nil))) (.lst (.cons (.str "in") (.nil))) (.lst (.nil)))) (.nil))⟩
/-- 32: _law_due -/
def f_law_due : Fn := ⟨3, 13, .cut, .cons (.unp (.tup [.tup [.nm 7, .nm 8, .nm 9, .nm 10, .nm 11], .nm 3, .nm 4]) (.var 2)) (.cons (.unp (.tup [.nm 5, .nm 6]) (.tup (.cons (.ite (.cmp .eq (.var 9) (.str "edge")) (.var 4) (.var 8)) (.cons (.call 31 (.cons (.var 0) (.cons (.var 1) (.cons (.var 7) (.nil))))) (.nil))))) (.cons (.ret (.and (.var 3) (.cons (.cmp .ne (.comp (.var 12) (.nm 12) (.seq (.var 6)) (.yes (.cmp .isin (.var 12) (.var 5))) [12]) (.lst (.nil))) (.nil)))) (.nil)))⟩
/-- 33: _law_row -/
def f_law_row : Fn := ⟨4, 12, .cut, .cons (.cond (.cmp .notin (.var 3) (.var 2)) (.cons (.set 4 (.ix (.comp (.var 10) (.nm 10) (.seq (.var 1)) (.yes (.cmp .eq (.ix (.var 10) (.int 0)) (.var 3))) [10]) (.int 0))) (.cons (.set 5 (.comp (.ix (.var 10) (.int 0)) (.nm 10) (.seq (.var 1)) (.no) [10])) (.cons (.fr (.nm 6) (.seq (.ix (.var 4) (.int 1))) (.cons (.cond (.cmp .isin (.ix (.ix (.var 6) (.int 0)) (.int 0)) (.var 5)) (.cons (.expr (.call 33 (.cons (.var 0) (.cons (.var 1) (.cons (.var 2) (.cons (.ix (.ix (.var 6) (.int 0)) (.int 0)) (.nil))))))) (.nil)) (.nil)) (.nil))) (.cons (.set 7 (.comp (.ix (.ix (.var 6) (.int 0)) (.int 0)) (.nm 6) (.seq (.ix (.var 4) (.int 1))) (.yes (.call 32 (.cons (.var 0) (.cons (.var 2) (.cons (.var 6) (.nil)))))) [6])) (.cons (.set 8 (.comp (.var 11) (.nm 11) (.seq (.ix (.var 4) (.int 2))) (.yes (.cmp .isin (.var 11) (.var 7))) [11])) (.cons (.set 9 (.comp (.var 11) (.nm 11) (.seq (.var 7)) (.yes (.cmp .notin (.var 11) (.var 8))) [11])) (.cons (.sub (.var 2) (.var 3) (.bi .tuple (.cons (.bin .add (.var 8) (.var 9)) (.nil)))) (.nil)))))))) (.nil)) (.nil)⟩
/-- 34: _law_settled -/
def f_law_settled : Fn := ⟨2, 4, .pure, .cons (.set 2 (.new (.dict (.nil)))) (.cons (.fr (.nm 3) (.seq (.var 1)) (.cons (.expr (.call 33 (.cons (.var 0) (.cons (.var 1) (.cons (.var 2) (.cons (.ix (.var 3) (.int 0)) (.nil))))))) (.nil))) (.cons (.ret (.tup (.cons (.var 0) (.cons (.bi .tuple (.cons (.comp (.bin .add (.bin .add (.slc (.var 3) (.no) (.yes (.int 2))) (.tup (.cons (.ix (.var 2) (.ix (.var 3) (.int 0))) (.nil)))) (.slc (.var 3) (.yes (.int 3)) (.no))) (.nm 3) (.seq (.var 1)) (.no) [3]) (.nil))) (.nil))))) (.nil)))⟩
/-- 35: _law_rows_put -/
def f_law_rows_put : Fn := ⟨2, 6, .pure, .cons (.set 2 (.new (.lst (.nil)))) (.cons (.fr (.nm 3) (.seq (.var 0)) (.cons (.set 4 (.ite (.cmp .eq (.var 1) (.int 1)) (.bi .tuple (.cons (.rev (.comp (.ix (.ix (.var 5) (.int 0)) (.int 0)) (.nm 5) (.seq (.ix (.var 3) (.int 1))) (.no) [5])) (.nil))) (.tup (.nil)))) (.cons (.expr (.mu .append (.var 2) (.cons (.bin .add (.bin .add (.slc (.var 3) (.no) (.yes (.int 2))) (.tup (.cons (.var 4) (.nil)))) (.slc (.var 3) (.yes (.int 3)) (.no))) (.nil)))) (.nil)))) (.cons (.ret (.bi .tuple (.cons (.var 2) (.nil)))) (.nil)))⟩
/-- 36: need_hall -/
def fneed_hall : Fn := ⟨1, 3, .pure, .cons (.cond (.not (.call 2 (.cons (.var 0) (.cons (.int 2) (.nil))))) (.cons (.never) (.nil)) (.nil)) (.cons (.expr (.call 17 (.cons (.ix (.var 0) (.int 0)) (.cons (.ix (.var 0) (.int 1)) (.nil))))) (.cons (.fr (.tup [.nm 1, .nm 2]) (.enum (.ix (.var 0) (.int 1))) (.cons (.cond (.cmp .ne (.bi .sorted (.cons (.ix (.var 2) (.int 2)) (.nil))) (.bi .sorted (.cons (.call 14 (.cons (.var 0) (.cons (.var 2) (.nil)))) (.nil)))) (.cons (.never) (.nil)) (.nil)) (.nil))) (.cons (.ret (.var 0)) (.nil))))⟩
/-- 37: row_called -/
def frow_called : Fn := ⟨2, 3, .pure, .cons (.fr (.nm 2) (.seq (.var 0)) (.cons (.cond (.and (.isa .str (.var 1)) (.cons (.cmp .eq (.ix (.var 2) (.int 0)) (.var 1)) (.nil))) (.cons (.ret (.var 2)) (.nil)) (.nil)) (.nil))) (.cons (.never) (.nil))⟩
/-- 38: told_entry -/
def ftold_entry : Fn := ⟨1, 9, .pure, .cons (.unp (.tup [.nm 1, .nm 2, .nm 3]) (.var 0)) (.cons (.unp (.tup [.nm 4, .nm 5, .nm 6, .nm 7, .nm 8]) (.var 1)) (.cons (.ret (.tup (.cons (.var 1) (.cons (.and (.var 2) (.cons (.not (.var 7)) (.nil))) (.cons (.tup (.nil)) (.nil)))))) (.nil)))⟩
/-- 39: told_at -/
def ftold_at : Fn := ⟨3, 10, .pure, .cons (.set 3 (.dcomp (.ix (.ix (.var 8) (.int 0)) (.int 0)) (.var 8) (.nm 8) (.seq (.ix (.var 1) (.int 1))) (.no) [8])) (.cons (.unp (.tup [.nm 6, .nm 7]) (.tup (.cons (.slc (.ix (.var 1) (.int 2)) (.no) (.yes (.var 2))) (.cons (.slc (.ix (.var 1) (.int 2)) (.yes (.var 2)) (.no)) (.nil))))) (.cons (.set 4 (.bi .tuple (.cons (.comp (.tup (.cons (.var 9) (.cons (.ix (.call 13 (.cons (.var 0) (.cons (.ix (.var 3) (.var 9)) (.nil)))) (.int 0)) (.nil)))) (.nm 9) (.seq (.var 6)) (.no) [9]) (.nil)))) (.cons (.set 5 (.bi .tuple (.cons (.comp (.ite (.cmp .isin (.ix (.ix (.var 8) (.int 0)) (.int 0)) (.var 6)) (.call 38 (.cons (.var 8) (.nil))) (.var 8)) (.nm 8) (.seq (.ix (.var 1) (.int 1))) (.no) [8]) (.nil)))) (.cons (.ret (.tup (.cons (.var 4) (.cons (.bin .add (.tup (.cons (.ix (.var 1) (.int 0)) (.cons (.var 5) (.cons (.bin .add (.var 7) (.var 6)) (.nil))))) (.slc (.var 1) (.yes (.int 3)) (.no))) (.nil))))) (.nil)))))⟩
/-- 40: own_telling -/
def fown_telling : Fn := ⟨3, 8, .pure, .cons (.unp (.tup [.nm 3, .nm 4]) (.var 0)) (.cons (.unp (.tup [.nm 5, .nm 6]) (.call 39 (.cons (.var 0) (.cons (.call 37 (.cons (.var 4) (.cons (.var 1) (.nil)))) (.cons (.var 2) (.nil)))))) (.cons (.ret (.tup (.cons (.var 5) (.cons (.call 19 (.cons (.var 3) (.cons (.bi .tuple (.cons (.comp (.ite (.cmp .eq (.ix (.var 7) (.int 0)) (.var 1)) (.var 6) (.var 7)) (.nm 7) (.seq (.var 4)) (.no) [7]) (.nil))) (.nil)))) (.nil))))) (.nil)))⟩
/-- 41: telling -/
def ftelling : Fn := ⟨3, 5, .pure, .cons (.unp (.tup [.nm 3, .nm 4]) (.call 36 (.cons (.var 0) (.nil)))) (.cons (.expr (.call 37 (.cons (.var 4) (.cons (.var 1) (.nil))))) (.cons (.cond (.not (.call 0 (.cons (.var 2) (.cons (.int 1) (.cons (.glb 6) (.nil)))))) (.cons (.never) (.nil)) (.nil)) (.cons (.ret (.call 40 (.cons (.var 0) (.cons (.var 1) (.cons (.var 2) (.nil)))))) (.nil))))⟩
/-- 42: _law_hall -/
def f_law_hall : Fn := ⟨1, 3, .cut, .cons (.unp (.tup [.nm 1, .nm 2]) (.call 30 (.cons (.var 0) (.nil)))) (.cons (.ret (.call 34 (.cons (.var 1) (.cons (.var 2) (.nil))))) (.nil))⟩
/-- 43: _law_told -/
def f_law_told : Fn := ⟨3, 17, .pure, .cons (.unp (.tup [.nm 4, .nm 5]) (.var 0)) (.cons (.par [6, 7, 8] (.cons (.new (.bi .dict (.cons (.comp (.tup (.cons (.ix (.var 3) (.int 0)) (.cons (.ix (.var 3) (.int 2)) (.nil)))) (.nm 3) (.seq (.var 5)) (.no) [3]) (.nil)))) (.cons (.new (.lst (.nil))) (.cons (.new (.lst (.nil))) (.nil))))) (.cons (.fr (.nm 3) (.seq (.var 5)) (.cons (.cond (.cmp .eq (.ix (.var 3) (.int 0)) (.var 1)) (.cons (.par [12, 13] (.cons (.slc (.ix (.var 3) (.int 2)) (.no) (.yes (.var 2))) (.cons (.bi .dict (.cons (.comp (.tup (.cons (.ix (.ix (.var 11) (.int 0)) (.int 0)) (.cons (.var 11) (.nil)))) (.nm 11) (.seq (.ix (.var 3) (.int 1))) (.no) [11]) (.nil))) (.nil)))) (.cons (.fr (.nm 9) (.seq (.var 12)) (.cons (.set 14 (.call 31 (.cons (.var 4) (.cons (.var 6) (.cons (.var 9) (.nil)))))) (.cons (.expr (.mu .append (.var 7) (.cons (.tup (.cons (.var 9) (.cons (.bi .tuple (.cons (.comp (.var 16) (.nm 16) (.seq (.ix (.ix (.ix (.var 13) (.var 9)) (.int 0)) (.int 1))) (.yes (.cmp .isin (.var 16) (.var 14))) [16]) (.nil))) (.nil)))) (.nil)))) (.nil)))) (.cons (.set 10 (.new (.lst (.nil)))) (.cons (.fr (.nm 11) (.seq (.ix (.var 3) (.int 1))) (.cons (.set 15 (.cmp .isin (.ix (.ix (.var 11) (.int 0)) (.int 0)) (.var 12))) (.cons (.expr (.mu .append (.var 10) (.cons (.ite (.var 15) (.tup (.cons (.ix (.var 11) (.int 0)) (.cons (.and (.ix (.var 11) (.int 1)) (.cons (.not (.ix (.ix (.var 11) (.int 0)) (.int 3))) (.nil))) (.cons (.tup (.nil)) (.nil))))) (.var 11)) (.nil)))) (.nil)))) (.cons (.set 3 (.bin .add (.tup (.cons (.var 1) (.cons (.bi .tuple (.cons (.var 10) (.nil))) (.cons (.bin .add (.slc (.ix (.var 3) (.int 2)) (.yes (.var 2)) (.no)) (.var 12)) (.nil))))) (.slc (.var 3) (.yes (.int 3)) (.no)))) (.nil)))))) (.nil)) (.cons (.expr (.mu .append (.var 8) (.cons (.var 3) (.nil)))) (.nil)))) (.cons (.ret (.tup (.cons (.bi .tuple (.cons (.var 7) (.nil))) (.cons (.call 34 (.cons (.var 4) (.cons (.bi .tuple (.cons (.var 8) (.nil))) (.nil)))) (.nil))))) (.nil))))⟩
/-- 44: _law_chain -/
def f_law_chain : Fn := ⟨1, 18, .cut, .cons (.set 1 (.call 24 (.cons (.var 0) (.cons (.int 8) (.nil))))) (.cons (.set 2 (.bi .tuple (.cons (.comp (.call 25 (.cons (.var 0) (.cons (.var 6) (.nil)))) (.nm 6) (.seq (.slc (.var 1) (.no) (.yes (.bin .add (.int 1) (.call 23 (.cons (.var 0) (.cons (.int 3) (.nil)))))))) (.no) [6]) (.nil)))) (.cons (.unp (.tup [.nm 3, .nm 4, .nm 5]) (.tup (.cons (.new (.slc (.var 1) (.yes (.int 4)) (.no))) (.cons (.new (.dict (.nil))) (.cons (.str "") (.nil)))))) (.cons (.whil (.cmp .ne (.var 3) (.lst (.nil))) (.cons (.set 6 (.mu .popAt (.var 3) (.cons (.call 23 (.cons (.var 0) (.cons (.bi .len (.cons (.var 3) (.nil))) (.nil)))) (.nil)))) (.cons (.set 7 (.new (.lst (.nil)))) (.cons (.fr (.nm 8) (.seq (.var 2)) (.cons (.cond (.or (.cmp .eq (.var 5) (.str "")) (.cons (.cmp .eq (.call 23 (.cons (.var 0) (.cons (.int 3) (.nil)))) (.int 0)) (.nil))) (.cons (.expr (.mu .append (.var 7) (.cons (.call 26 (.cons (.var 0) (.cons (.ix (.var 8) (.int 0)) (.cons (.bl false) (.nil))))) (.nil)))) (.nil)) (.nil)) (.nil))) (.cons (.cond (.cmp .ne (.var 5) (.str "")) (.cons (.unp (.tup [.tup [.nm 13, .nm 14, .nm 15, .nm 16, .nm 17], .nm 11, .nm 12]) (.call 26 (.cons (.var 0) (.cons (.var 5) (.cons (.bl true) (.nil)))))) (.cons (.set 9 (.or (.var 11) (.cons (.cmp .gt (.call 23 (.cons (.var 0) (.cons (.int 3) (.nil)))) (.int 0)) (.nil)))) (.cons (.set 10 (.tup (.cons (.tup (.cons (.var 13) (.cons (.var 14) (.cons (.var 15) (.cons (.and (.var 16) (.cons (.cmp .eq (.call 23 (.cons (.var 0) (.cons (.int 2) (.nil)))) (.int 0)) (.nil))) (.cons (.var 17) (.nil))))))) (.cons (.var 9) (.cons (.var 12) (.nil)))))) (.cons (.expr (.mu .insert (.var 7) (.cons (.call 23 (.cons (.var 0) (.cons (.bin .add (.bi .len (.cons (.var 7) (.nil))) (.int 1)) (.nil)))) (.cons (.var 10) (.nil))))) (.nil))))) (.nil)) (.cons (.sub (.var 4) (.var 6) (.tup (.cons (.bi .tuple (.cons (.var 7) (.nil))) (.cons (.call 28 (.cons (.var 0) (.cons (.var 7) (.nil)))) (.nil))))) (.cons (.set 5 (.var 6)) (.nil)))))))) (.cons (.ret (.call 34 (.cons (.var 2) (.cons (.bi .tuple (.cons (.comp (.bin .add (.bin .add (.tup (.cons (.var 6) (.nil))) (.ix (.var 4) (.var 6))) (.tup (.cons (.tup (.nil)) (.cons (.tup (.nil)) (.nil))))) (.nm 6) (.seq (.slc (.var 1) (.yes (.int 4)) (.no))) (.no) [6]) (.nil))) (.nil))))) (.nil)))))⟩
/-- 45: _law_at -/
def f_law_at : Fn := ⟨2, 3, .pure, .cons (.ret (.ix (.comp (.var 2) (.nm 2) (.seq (.ix (.var 0) (.int 1))) (.yes (.cmp .eq (.ix (.var 2) (.int 0)) (.var 1))) [2]) (.int 0))) (.nil)⟩
/-- 46: _law_pieces_right -/
def f_law_pieces_right : Fn := ⟨3, 12, .cut, .cons (.par [5, 6, 7] (.cons (.ix (.call 45 (.cons (.var 1) (.cons (.var 2) (.nil)))) (.int 2)) (.cons (.var 1) (.cons (.tup (.nil)) (.nil))))) (.cons (.set 3 (.call 41 (.cons (.var 1) (.cons (.var 2) (.cons (.int 6) (.nil)))))) (.cons (.whil (.cmp .ne (.var 5) (.tup (.nil))) (.cons (.set 8 (.bin .add (.int 1) (.call 23 (.cons (.var 0) (.cons (.bi .len (.cons (.var 5) (.nil))) (.nil)))))) (.cons (.unp (.tup [.nm 9, .nm 6]) (.call 41 (.cons (.var 6) (.cons (.var 2) (.cons (.var 8) (.nil)))))) (.cons (.cond (.or (.not (.isa .tuple (.var 9))) (.cons (.cmp .ne (.bi .len (.cons (.var 9) (.nil))) (.var 8)) (.nil))) (.cons (.ret (.bl false)) (.nil)) (.nil)) (.cons (.par [7, 5] (.cons (.bin .add (.var 7) (.var 9)) (.cons (.slc (.var 5) (.yes (.var 8)) (.no)) (.nil)))) (.cons (.cond (.cmp .ne (.slc (.ix (.call 45 (.cons (.var 6) (.cons (.var 2) (.nil)))) (.int 2)) (.no) (.yes (.bi .len (.cons (.var 5) (.nil))))) (.var 5)) (.cons (.ret (.bl false)) (.nil)) (.nil)) (.nil))))))) (.cons (.set 4 (.bi .tuple (.cons (.comp (.var 10) (.tup [.nm 10, .nm 11]) (.seq (.var 7)) (.no) [10, 11]) (.nil)))) (.cons (.ret (.and (.cmp .eq (.bi .repr (.cons (.tup (.cons (.var 7) (.cons (.var 6) (.nil)))) (.nil))) (.bi .repr (.cons (.var 3) (.nil)))) (.cons (.cmp .eq (.var 4) (.ix (.call 45 (.cons (.var 1) (.cons (.var 2) (.nil)))) (.int 2))) (.nil)))) (.nil)))))⟩
/-- 47: _law_again_right -/
def f_law_again_right : Fn := ⟨2, 11, .pure, .cons (.unp (.tup [.nm 3, .nm 4]) (.call 41 (.cons (.var 0) (.cons (.var 1) (.cons (.int 6) (.nil)))))) (.cons (.unp (.tup [.nm 5, .nm 6]) (.call 41 (.cons (.var 4) (.cons (.var 1) (.cons (.int 6) (.nil)))))) (.cons (.set 2 (.new (.lst (.nil)))) (.cons (.fr (.tup [.nm 7, .nm 8]) (.seq (.var 3)) (.cons (.set 9 (.ix (.comp (.var 10) (.nm 10) (.seq (.ix (.call 45 (.cons (.var 0) (.cons (.var 1) (.nil)))) (.int 1))) (.yes (.cmp .eq (.ix (.ix (.var 10) (.int 0)) (.int 0)) (.var 7))) [10]) (.int 0))) (.cons (.cond (.and (.cmp .eq (.ix (.ix (.var 9) (.int 0)) (.int 2)) (.str "level")) (.cons (.not (.ix (.ix (.var 9) (.int 0)) (.int 3))) (.nil))) (.cons (.expr (.mu .append (.var 2) (.cons (.tup (.cons (.var 7) (.cons (.var 8) (.nil)))) (.nil)))) (.nil)) (.nil)) (.nil)))) (.cons (.ret (.and (.cmp .eq (.bi .repr (.cons (.var 5) (.nil))) (.bi .repr (.cons (.bi .tuple (.cons (.var 2) (.nil))) (.nil)))) (.cons (.cmp .eq (.bi .repr (.cons (.var 6) (.nil))) (.bi .repr (.cons (.var 4) (.nil)))) (.nil)))) (.nil)))))⟩
/-- 48: so_at -/
def fso_at : Fn := ⟨2, 4, .pure, .cons (.unp (.tup [.nm 2, .nm 3]) (.call 36 (.cons (.var 0) (.nil)))) (.cons (.expr (.call 37 (.cons (.bin .add (.var 2) (.var 3)) (.cons (.var 1) (.nil))))) (.cons (.ret (.call 12 (.cons (.var 0) (.cons (.var 1) (.nil))))) (.nil)))⟩
/-- 49: entry_of -/
def fentry_of : Fn := ⟨3, 6, .pure, .cons (.set 3 (.ix (.call 37 (.cons (.ix (.call 36 (.cons (.var 0) (.nil))) (.int 1)) (.cons (.var 1) (.nil)))) (.int 1))) (.cons (.set 4 (.call 37 (.cons (.comp (.tup (.cons (.ix (.ix (.var 5) (.int 0)) (.int 0)) (.cons (.var 5) (.nil)))) (.nm 5) (.seq (.var 3)) (.no) [5]) (.cons (.var 2) (.nil))))) (.cons (.ret (.ix (.var 4) (.int 1))) (.nil)))⟩
/-- 50: is_due -/
def fis_due : Fn := ⟨3, 3, .pure, .cons (.ret (.ix (.call 13 (.cons (.var 0) (.cons (.call 49 (.cons (.var 0) (.cons (.var 1) (.cons (.var 2) (.nil))))) (.nil)))) (.int 1))) (.nil)⟩
/-- 51: _law_told_right -/
def f_law_told_right : Fn := ⟨3, 9, .pure, .cons (.fr (.tup [.nm 3, .nm 4]) (.seq (.var 2)) (.cons (.set 5 (.comp (.ix (.ix (.var 7) (.int 0)) (.int 1)) (.nm 7) (.seq (.ix (.var 1) (.int 1))) (.yes (.cmp .eq (.ix (.ix (.var 7) (.int 0)) (.int 0)) (.var 3))) [7])) (.cons (.cond (.or (.cmp .ne (.bi .len (.cons (.var 5) (.nil))) (.int 1)) (.cons (.cmp .isnot (.call 50 (.cons (.var 0) (.cons (.ix (.var 1) (.int 0)) (.cons (.var 3) (.nil))))) (.bl true)) (.cons (.cmp .notin (.var 3) (.ix (.var 1) (.int 2))) (.nil)))) (.cons (.ret (.bl false)) (.nil)) (.nil)) (.cons (.set 6 (.call 48 (.cons (.var 0) (.cons (.var 3) (.nil))))) (.cons (.cond (.or (.cmp .ne (.var 4) (.bi .tuple (.cons (.comp (.var 8) (.nm 8) (.seq (.ix (.var 5) (.int 0))) (.yes (.cmp .isin (.var 8) (.var 6))) [8]) (.nil)))) (.cons (.cmp .eq (.var 4) (.tup (.nil))) (.nil))) (.cons (.ret (.bl false)) (.nil)) (.nil)) (.nil)))))) (.cons (.ret (.or (.cmp .eq (.bi .len (.cons (.var 2) (.nil))) (.int 0)) (.cons (.cmp .eq (.comp (.var 3) (.tup [.nm 3, .nm 4]) (.seq (.var 2)) (.no) [3, 4]) (.bi .list (.cons (.slc (.ix (.var 1) (.int 2)) (.no) (.yes (.bi .len (.cons (.var 2) (.nil))))) (.nil)))) (.nil)))) (.nil))⟩
/-- 52: _law_rows_right -/
def f_law_rows_right : Fn := ⟨3, 9, .pure, .cons (.fr (.tup [.nm 3, .nm 4]) (.zip (.ix (.var 0) (.int 1)) (.ix (.var 1) (.int 1))) (.cons (.set 5 (.comp (.ix (.ix (.var 7) (.int 0)) (.int 0)) (.nm 7) (.seq (.ix (.var 4) (.int 1))) (.yes (.call 50 (.cons (.var 1) (.cons (.ix (.var 4) (.int 0)) (.cons (.ix (.ix (.var 7) (.int 0)) (.int 0)) (.nil)))))) [7])) (.cons (.cond (.or (.cmp .ne (.bi .sorted (.cons (.var 5) (.nil))) (.bi .sorted (.cons (.ix (.var 4) (.int 2)) (.nil)))) (.cons (.cmp .ne (.ix (.var 3) (.int 0)) (.ix (.var 4) (.int 0))) (.cons (.cmp .ne (.slc (.var 3) (.yes (.int 3)) (.no)) (.slc (.var 4) (.yes (.int 3)) (.no))) (.nil)))) (.cons (.ret (.bl false)) (.nil)) (.nil)) (.cons (.set 6 (.comp (.var 8) (.nm 8) (.seq (.ix (.var 3) (.int 2))) (.yes (.cmp .isin (.var 8) (.ix (.var 4) (.int 2)))) [8])) (.cons (.cond (.and (.cmp .ne (.ix (.var 3) (.int 0)) (.var 2)) (.cons (.or (.cmp .ne (.ix (.var 3) (.int 1)) (.ix (.var 4) (.int 1))) (.cons (.cmp .ne (.bi .list (.cons (.ix (.var 4) (.int 2)) (.nil))) (.var 6)) (.nil))) (.nil))) (.cons (.ret (.bl false)) (.nil)) (.nil)) (.nil)))))) (.cons (.ret (.and (.cmp .eq (.ix (.var 0) (.int 0)) (.ix (.var 1) (.int 0))) (.cons (.cmp .eq (.bi .len (.cons (.ix (.var 0) (.int 1)) (.nil))) (.bi .len (.cons (.ix (.var 1) (.int 1)) (.nil)))) (.nil)))) (.nil))⟩
/-- 53: _law_entries_right -/
def f_law_entries_right : Fn := ⟨3, 8, .pure, .cons (.set 3 (.new (.lst (.nil)))) (.cons (.fr (.tup [.nm 4, .nm 5, .nm 6]) (.seq (.ix (.var 0) (.int 1))) (.cons (.set 7 (.cmp .isin (.ix (.var 4) (.int 0)) (.var 2))) (.cons (.expr (.mu .append (.var 3) (.cons (.ite (.var 7) (.tup (.cons (.var 4) (.cons (.and (.var 5) (.cons (.not (.ix (.var 4) (.int 3))) (.nil))) (.cons (.tup (.nil)) (.nil))))) (.tup (.cons (.var 4) (.cons (.var 5) (.cons (.var 6) (.nil)))))) (.nil)))) (.nil)))) (.cons (.ret (.cmp .eq (.bi .repr (.cons (.ix (.var 1) (.int 1)) (.nil))) (.bi .repr (.cons (.bi .tuple (.cons (.var 3) (.nil))) (.nil))))) (.nil)))⟩
def cs : List D := [.str "abcdefghijklmnopqrstuvwxyz", .int 8, .tup [.str "in", .str "out", .str "gone"], .str "edge", .str "level", .int 9, .int 6, .int 6, .int 4, .int 4]
def glb : List Str := ["SMALL", "MOST_LETTERS", "WORDS", "EDGE", "LEVEL", "MOST_ROOM", "MOST_ENTRIES", "MOST_WAITERS", "MOST_PIPES", "MOST_SETS"]
/-- which defs stand where -/
structure Has (fns : List Fn) : Prop where
  h0 : fns[0]? = some fis_number := by rfl
  h1 : fns[1]? = some fis_name := by rfl
  h2 : fns[2]? = some fis_tuple_of := by rfl
  h3 : fns[3]? = some fare_up_to := by rfl
  h4 : fns[4]? = some fare_words := by rfl
  h5 : fns[5]? = some fis_interest := by rfl
  h6 : fns[6]? = some fis_entry := by rfl
  h7 : fns[7]? = some fis_pipe := by rfl
  h8 : fns[8]? = some fare_waiting := by rfl
  h9 : fns[9]? = some ftargets_of := by rfl
  h10 : fns[10]? = some fis_set := by rfl
  h11 : fns[11]? = some fwaiting_at := by rfl
  h12 : fns[12]? = some fso_words := by rfl
  h13 : fns[13]? = some fdue_words := by rfl
  h14 : fns[14]? = some fdue_targets := by rfl
  h15 : fns[15]? = some fbelow := by rfl
  h16 : fns[16]? = some fhas_forms := by rfl
  h17 : fns[17]? = some fneed_webs := by rfl
  h18 : fns[18]? = some fsettled_row := by rfl
  h19 : fns[19]? = some fown_settled := by rfl
  h21 : fns[21]? = some f_law_mixed := by rfl
  h22 : fns[22]? = some f_law_begin := by rfl
  h23 : fns[23]? = some f_law_draw := by rfl
  h24 : fns[24]? = some f_law_names := by rfl
  h25 : fns[25]? = some f_law_pipe := by rfl
  h26 : fns[26]? = some f_law_entry := by rfl
  h28 : fns[28]? = some f_law_any_row := by rfl
  h31 : fns[31]? = some f_law_ready := by rfl
  h32 : fns[32]? = some f_law_due := by rfl
  h33 : fns[33]? = some f_law_row := by rfl
  h34 : fns[34]? = some f_law_settled := by rfl
structure HasW (fns : List Fn) : Prop extends Has fns where
  h27 : fns[27]? = some f_law_entries := by rfl
  h29 : fns[29]? = some f_law_waiting := by rfl
  h30 : fns[30]? = some f_law_web := by rfl
instance {fns : List Fn} : Coe (HasW fns) (Has fns) := ⟨HasW.toHas⟩
structure HasS (fns : List Fn) : Prop extends Has fns where
  h20 : fns[20]? = some fsettled := by rfl
instance {fns : List Fn} : Coe (HasS fns) (Has fns) := ⟨HasS.toHas⟩
end Mi.A
end

section
set_option Elab.async false
set_option linter.all false
set_option maxRecDepth 100000
set_option maxHeartbeats 4000000
/-! A1: the interpreter's rows for simp; the plain words of halls. -/
namespace Mi.A
open PySem L2
@[simp] theorem evE_var {cs : List D} {cal : Cal} {e : En} : evE cs cal (.var i : CE) e = (match e.vs[i]? with
    | some (some d) => .ok d e
    | _ => .er) := by rfl
@[simp] theorem evE_glb {cs : List D} {cal : Cal} {e : En} : evE cs cal (.glb i : CE) e = (.of cs[i]? e) := by rfl
@[simp] theorem evE_int {cs : List D} {cal : Cal} {e : En} : evE cs cal (.int i : CE) e = (.ok (.int i) e) := by rfl
@[simp] theorem evE_str {cs : List D} {cal : Cal} {e : En} : evE cs cal (.str x : CE) e = (if x.length ≤ 1000 then .ok (.str x) e else .er) := by rfl
@[simp] theorem evE_bl {cs : List D} {cal : Cal} {e : En} : evE cs cal (.bl b : CE) e = (.ok (.bl b) e) := by rfl
@[simp] theorem evE_non {cs : List D} {cal : Cal} {e : En} : evE cs cal (.non : CE) e = (.ok .non e) := by rfl
@[simp] theorem evE_bin {cs : List D} {cal : Cal} {e : En} : evE cs cal (.bin op a b : CE) e = ((evE cs cal a e).bind fun x e => (evE cs cal b e).bind fun y e => .of ((res e x).bind fun x => (res e y).bind fun y => Mi.bin op x y) e) := by rfl
@[simp] theorem evE_neg {cs : List D} {cal : Cal} {e : En} : evE cs cal (.neg a : CE) e = ((evE cs cal a e).bind fun x e => match x with
    | .int i => .ok (.int (-i)) e
    | _ => .er) := by rfl
@[simp] theorem evE_cmp {cs : List D} {cal : Cal} {e : En} : evE cs cal (.cmp op a b : CE) e = ((evE cs cal a e).bind fun x e => (evE cs cal b e).bind fun y e => .of ((res e x).bind fun x => (res e y).bind fun y => Mi.cmp op x y) e) := by rfl
@[simp] theorem evE_chain {cs : List D} {cal : Cal} {e : En} : evE cs cal (.chain o1 o2 a b c : CE) e = ((evE cs cal a e).bind fun x e => (evE cs cal b e).bind fun y e => match (res e x).bind fun x => (res e y).bind fun y => Mi.cmp o1 x y with
    | some (.bl true) => (evE cs cal c e).bind fun z e => .of ((res e y).bind fun y => (res e z).bind fun z => Mi.cmp o2 y z) e
    | some (.bl false) => .ok (.bl false) e
    | _ => .er) := by rfl
@[simp] theorem evE_and {cs : List D} {cal : Cal} {e : En} : evE cs cal (.and a es : CE) e = ((evE cs cal a e).bind fun x e => evAnd cs cal x es e) := by rfl
@[simp] theorem evE_or {cs : List D} {cal : Cal} {e : En} : evE cs cal (.or a es : CE) e = ((evE cs cal a e).bind fun x e => evOr cs cal x es e) := by rfl
@[simp] theorem evE_not {cs : List D} {cal : Cal} {e : En} : evE cs cal (.not a : CE) e = ((evE cs cal a e).bind fun x e => .of (((res e x).bind truth).map fun b => .bl (!b)) e) := by rfl
@[simp] theorem evE_ite {cs : List D} {cal : Cal} {e : En} : evE cs cal (.ite c a b : CE) e = ((evE cs cal c e).bind fun x e => match (res e x).bind truth with
    | some true => evE cs cal a e
    | some false => evE cs cal b e
    | none => .er) := by rfl
@[simp] theorem evE_tup {cs : List D} {cal : Cal} {e : En} : evE cs cal (.tup es : CE) e = ((evEs cs cal es e).bind fun ds e => if ds.length ≤ 1000 then .ok (.tup ds) e else .er) := by rfl
@[simp] theorem evE_lst {cs : List D} {cal : Cal} {e : En} : evE cs cal (.lst es : CE) e = ((evEs cs cal es e).bind fun ds e => if ds.length ≤ 1000 then .ok (.lst ds) e else .er) := by rfl
@[simp] theorem evE_dict {cs : List D} {cal : Cal} {e : En} : evE cs cal (.dict ks : CE) e = ((evKs cs cal ks e).bind fun kvs e => if kvs.length ≤ 15 then .ok (.dic (dmerge [] kvs)) e else .er) := by rfl
@[simp] theorem evE_ix {cs : List D} {cal : Cal} {e : En} : evE cs cal (.ix a i : CE) e = ((evE cs cal a e).bind fun x e => (evE cs cal i e).bind fun y e => .of ((res e x).bind fun x => Mi.ix x y) e) := by rfl
@[simp] theorem evE_slc {cs : List D} {cal : Cal} {e : En} : evE cs cal (.slc a lo hi : CE) e = ((evE cs cal a e).bind fun x e => (evO cs cal lo e).bind fun l e => (evO cs cal hi e).bind fun h e => .of ((res e x).bind fun x => Mi.slc x l h) e) := by rfl
@[simp] theorem evE_rev {cs : List D} {cal : Cal} {e : En} : evE cs cal (.rev a : CE) e = ((evE cs cal a e).bind fun x e => match res e x with
    | some (.lst xs) => .ok (.lst xs.reverse) e
    | _ => .er) := by rfl
theorem evE_call {cs : List D} {cal : Cal} {e : En} : evE cs cal (.call f es : CE) e = ((evEs cs cal es e).bind fun ds e => callR cal f ds e) := by rfl
@[simp] theorem evE_bi {cs : List D} {cal : Cal} {e : En} : evE cs cal (.bi b es : CE) e = ((evEs cs cal es e).bind fun ds e => .of ((ress e ds).bind fun ds => Mi.bi b ds) e) := by rfl
@[simp] theorem evE_isa {cs : List D} {cal : Cal} {e : En} : evE cs cal (.isa t a : CE) e = ((evE cs cal a e).bind fun x e => .of ((res e x).map fun x => .bl (isTy t x)) e) := by rfl
@[simp] theorem evE_mt {cs : List D} {cal : Cal} {e : En} : evE cs cal (.mt m o es : CE) e = ((evE cs cal o e).bind fun x e => if mtTy m (res e x) then (evEs cs cal es e).bind fun ds e => .of ((res e x).bind fun x => (argm m e ds).bind fun ds => Mi.mt m x ds) e else .er) := by rfl
@[simp] theorem evE_mu {cs : List D} {cal : Cal} {e : En} : evE cs cal (.mu m o es : CE) e = ((evE cs cal o e).bind fun x e => if (cellL e x).isSome then (evEs cs cal es e).bind fun ds e => .pair (muR m x ds e) else .er) := by rfl
theorem evE_comp {cs : List D} {cal : Cal} {e : En} : evE cs cal (.comp elt tg it tt vs : CE) e = ((evI cs cal it e).bind fun s e => (turnsS (wipeL e.vs vs) (fun d e => match asg tg d e with
    | some e => (evT cs cal tt e).bind fun b e => if b then (evE cs cal elt e).bind fun y e => .ok (some y) e else .ok none e
    | none => .er) s e.st).bind fun ys e' => if ys.length ≤ sizeLine then .ok (.lst ys) ⟨e.vs, e'.st⟩ else .er) := by rfl
theorem evE_dcomp {cs : List D} {cal : Cal} {e : En} : evE cs cal (.dcomp k v tg it tt vs : CE) e = ((evI cs cal it e).bind fun s e => (turnsS (wipeL e.vs vs) (fun d e => match asg tg d e with
    | some e => (evT cs cal tt e).bind fun b e => if b then (evE cs cal k e).bind fun y e => (evE cs cal v e).bind fun z e => (match dk y with
      | some k => .ok (some (k, z)) e
      | none => .er) else .ok none e
    | none => .er) s e.st).bind fun ys e' => if ys.length ≤ sizeLine then .ok (.dic (dmerge [] ys)) ⟨e.vs, e'.st⟩ else .er) := by rfl
theorem evE_sortk {cs : List D} {cal : Cal} {e : En} : evE cs cal (.sortk a p b : CE) e = ((evE cs cal a e).bind fun x e => match res e x with
    | some (.lst ds) => if p < e.vs.length then (match keysOf (fun d st => evE cs cal b ⟨e.vs.set p (some d), st⟩) ds e.st with
      | some (ks, st) => .ok (.lst (keyed ds ks)) { e with st := st }
      | none => .er) else .er
    | _ => .er) := by rfl
@[simp] theorem evE_new {cs : List D} {cal : Cal} {e : En} : evE cs cal (.new a : CE) e = ((evE cs cal a e).bind fun x e => .pair (newC e x)) := by rfl
@[simp] theorem evEs_nil {cs : List D} {cal : Cal} {e : En} : evEs cs cal (.nil : CEs) e = (.ok [] e) := by rfl
@[simp] theorem evEs_cons {cs : List D} {cal : Cal} {e : En} : evEs cs cal (.cons a r : CEs) e = ((evE cs cal a e).bind fun x e => (evEs cs cal r e).bind fun xs e => .ok (x :: xs) e) := by rfl
@[simp] theorem evKs_nil {cs : List D} {cal : Cal} {e : En} : evKs cs cal (.nil : CKs) e = (.ok [] e) := by rfl
@[simp] theorem evKs_cons {cs : List D} {cal : Cal} {e : En} : evKs cs cal (.cons k v r : CKs) e = ((evE cs cal k e).bind fun x e => (evE cs cal v e).bind fun y e => match dk x with
    | some x => (evKs cs cal r e).bind fun kvs e => .ok ((x, y) :: kvs) e
    | none => .er) := by rfl
@[simp] theorem evAnd_nil {cs : List D} {cal : Cal} {e : En} : evAnd cs cal x (.nil : CEs) e = (.ok x e) := by rfl
@[simp] theorem evAnd_cons {cs : List D} {cal : Cal} {e : En} : evAnd cs cal x (.cons a r : CEs) e = (match (res e x).bind truth with
    | some true => (evE cs cal a e).bind fun y e => evAnd cs cal y r e
    | some false => .ok x e
    | none => .er) := by rfl
@[simp] theorem evOr_nil {cs : List D} {cal : Cal} {e : En} : evOr cs cal x (.nil : CEs) e = (.ok x e) := by rfl
@[simp] theorem evOr_cons {cs : List D} {cal : Cal} {e : En} : evOr cs cal x (.cons a r : CEs) e = (match (res e x).bind truth with
    | some true => .ok x e
    | some false => (evE cs cal a e).bind fun y e => evOr cs cal y r e
    | none => .er) := by rfl
@[simp] theorem evO_no {cs : List D} {cal : Cal} {e : En} : evO cs cal (.no : CEo) e = (.ok none e) := by rfl
@[simp] theorem evO_yes {cs : List D} {cal : Cal} {e : En} : evO cs cal (.yes a : CEo) e = ((evE cs cal a e).bind fun x e => match x with
    | .int i => .ok (some i) e
    | _ => .er) := by rfl
@[simp] theorem evT_no {cs : List D} {cal : Cal} {e : En} : evT cs cal (.no : CEo) e = (.ok true e) := by rfl
@[simp] theorem evT_yes {cs : List D} {cal : Cal} {e : En} : evT cs cal (.yes a : CEo) e = ((evE cs cal a e).bind fun x e => .of ((res e x).bind truth) e) := by rfl
@[simp] theorem evI_seq {cs : List D} {cal : Cal} {e : En} : evI cs cal (.seq a : CI) e = ((evE cs cal a e).bind fun x e => .of (srcOf e x) e) := by rfl
@[simp] theorem evI_range {cs : List D} {cal : Cal} {e : En} : evI cs cal (.range a : CI) e = ((evE cs cal a e).bind fun x e => match x with
    | .int j => if -4611686018427387904 ≤ j ∧ j ≤ 16777216 then .ok (.fix (rangeD 0 j.toNat)) e else .er
    | _ => .er) := by rfl
@[simp] theorem evI_range2 {cs : List D} {cal : Cal} {e : En} : evI cs cal (.range2 a b : CI) e = ((evE cs cal a e).bind fun x e => (evE cs cal b e).bind fun y e => match x, y with
    | .int i, .int j => if -4611686018427387904 ≤ i ∧ i < 4611686018427387904 ∧ -4611686018427387904 ≤ j ∧ j < 4611686018427387904 ∧ j - i ≤ 16777216 then .ok (.fix (rangeD i (j - i).toNat)) e else .er
    | _, _ => .er) := by rfl
@[simp] theorem evI_enum {cs : List D} {cal : Cal} {e : En} : evI cs cal (.enum a : CI) e = ((evE cs cal a e).bind fun x e => .of ((seqOf x).map fun xs => .fix (enumD xs 0)) e) := by rfl
@[simp] theorem evI_zip {cs : List D} {cal : Cal} {e : En} : evI cs cal (.zip a b : CI) e = ((evE cs cal a e).bind fun x e => (evE cs cal b e).bind fun y e => .of (zipOf x y) e) := by rfl
@[simp] theorem evS_set {cs : List D} {cal : Cal} {e : En} : evS cs cal (.set i a : CS) e = ((evE cs cal a e).s fun x e => .of (put i x e)) := by rfl
@[simp] theorem evS_par {cs : List D} {cal : Cal} {e : En} : evS cs cal (.par is rs : CS) e = ((evEs cs cal rs e).s fun xs e => .of (puts is xs e)) := by rfl
@[simp] theorem evS_unp {cs : List D} {cal : Cal} {e : En} : evS cs cal (.unp t a : CS) e = ((evE cs cal a e).s fun x e => .of (asg t x e)) := by rfl
@[simp] theorem evS_sub {cs : List D} {cal : Cal} {e : En} : evS cs cal (.sub a k v : CS) e = ((evE cs cal v e).s fun z e => (evE cs cal a e).s fun x e => (evE cs cal k e).s fun y e => .of (subR x y z e)) := by rfl
@[simp] theorem evS_aug {cs : List D} {cal : Cal} {e : En} : evS cs cal (.aug i op a : CS) e = (match e.vs[i]? with
    | some (some x) => (evE cs cal a e).s fun y e => (match x, y with
      | .int _, .int _ => .of ((Mi.bin op x y).bind fun z => put i z e)
      | _, _ => .er)
    | _ => .er) := by rfl
@[simp] theorem evS_expr {cs : List D} {cal : Cal} {e : En} : evS cs cal (.expr a : CS) e = ((evE cs cal a e).s fun _ e => .nx e) := by rfl
@[simp] theorem evS_ret {cs : List D} {cal : Cal} {e : En} : evS cs cal (.ret a : CS) e = ((evE cs cal a e).s fun x e => .rt x e) := by rfl
@[simp] theorem evS_retn {cs : List D} {cal : Cal} {e : En} : evS cs cal (.retn : CS) e = (.rt .non e) := by rfl
@[simp] theorem evS_pass {cs : List D} {cal : Cal} {e : En} : evS cs cal (.pass : CS) e = (.nx e) := by rfl
@[simp] theorem evS_cond {cs : List D} {cal : Cal} {e : En} : evS cs cal (.cond c a b : CS) e = ((evE cs cal c e).s fun x e => match (res e x).bind truth with
    | some true => evSs cs cal a e
    | some false => evSs cs cal b e
    | none => .er) := by rfl
theorem evS_whil {cs : List D} {cal : Cal} {e : En} : evS cs cal (.whil c b : CS) e = (whileL (fun e => (evE cs cal c e).bind fun x e => .of ((res e x).bind truth) e) (evSs cs cal b) fuel e) := by rfl
theorem evS_fr {cs : List D} {cal : Cal} {e : En} : evS cs cal (.fr t it b : CS) e = ((evI cs cal it e).s fun s e => forS t (evSs cs cal b) s e) := by rfl
@[simp] theorem evS_brk {cs : List D} {cal : Cal} {e : En} : evS cs cal (.brk : CS) e = (.bk e) := by rfl
@[simp] theorem evS_cont {cs : List D} {cal : Cal} {e : En} : evS cs cal (.cont : CS) e = (.ct e) := by rfl
@[simp] theorem evS_never {cs : List D} {cal : Cal} {e : En} : evS cs cal (.never : CS) (e : En) = (.er) := by rfl
@[simp] theorem evSs_nil {cs : List D} {cal : Cal} {e : En} : evSs cs cal (.nil : CSs) e = (.nx e) := by rfl
@[simp] theorem evSs_cons {cs : List D} {cal : Cal} {e : En} : evSs cs cal (.cons a r : CSs) e = (match evS cs cal a e with
    | .nx e => evSs cs cal r e
    | s => s) := by rfl
section
variable {α β : Type} {e : En}
@[simp] theorem bind_ok {a : α} {f : α → En → R β} : (R.ok a e).bind f = f a e := rfl
@[simp] theorem bind_exc {x : Exn} {f : α → En → R β} : (R.exc x e).bind f = .exc x e := rfl
@[simp] theorem bind_er {f : α → En → R β} : (R.er).bind f = .er := rfl
@[simp] theorem of_some {a : α} : R.of (some a) e = .ok a e := rfl
@[simp] theorem of_none : R.of (none : Option α) e = .er := rfl
@[simp] theorem s_ok {a : α} {f : α → En → S} : (R.ok a e).s f = f a e := rfl
@[simp] theorem s_er {f : α → En → S} : (R.er).s f = .er := rfl
@[simp] theorem sof_some : S.of (some e) = .nx e := rfl
@[simp] theorem sof_none : S.of none = .er := rfl
@[simp] theorem pair_some {a : α} : R.pair (some (a, e)) = .ok a e := rfl
end
@[simp] theorem res_own {e : En} {i : Nat} : res e (.own i) = (e.st[i]?).map Own.d := rfl
@[simp] theorem res_non {e : En} : res e .non = some .non := rfl
@[simp] theorem res_bl {e : En} {b : Bool} : res e (.bl b) = some (.bl b) := rfl
@[simp] theorem res_int {e : En} {b : Int} : res e (.int b) = some (.int b) := rfl
@[simp] theorem res_str {e : En} {b : Str} : res e (.str b) = some (.str b) := rfl
@[simp] theorem res_lst {e : En} {b : List D} : res e (.lst b) = some (.lst b) := rfl
@[simp] theorem res_tup {e : En} {b : List D} : res e (.tup b) = some (.tup b) := rfl
@[simp] theorem res_dic {e : En} {b : List (Key × D)} : res e (.dic b) = some (.dic b) := rfl
@[simp] theorem ress_nil {e : En} : ress e [] = some [] := rfl
@[simp] theorem ress_cons {e : En} {d : D} {ds : List D} : ress e (d :: ds) = (res e d).bind fun d => (ress e ds).map (d :: ·) := rfl
@[simp] theorem own_lst {xs : List D} : Own.d (.lst xs) = .lst xs := rfl
@[simp] theorem own_dic {xs : List (Key × D)} : Own.d (.dic xs) = .dic xs := rfl
@[simp] theorem truth_bl {b : Bool} : truth (.bl b) = some b := rfl
@[simp] theorem evE_call' {cs : List D} {cal : Cal} {e : En} {f : Nat} {es : CEs} : evE cs cal (.call f es) e = ((evEs cs cal es e).bind fun ds e => match cal f ds e.st with
    | .ok d st => .ok d ⟨e.vs, st⟩
    | .exc x st => .exc x ⟨e.vs, st⟩
    | .er => .er) := by rfl
@[simp] theorem dk_str {x : Str} : dk (.str x) = some (.inr x) := rfl
@[simp] theorem dk_int {x : Int} : dk (.int x) = some (.inl x) := rfl
@[simp] theorem asg_nm {i : Nat} {d : D} {e : En} : asg (.nm i) d e = put i d e := rfl
@[simp] theorem asg_tup {ts : List CT} {ds : List D} {e : En} : asg (.tup ts) (.tup ds) e = asgs ts ds e := rfl
@[simp] theorem asgs_nil {e : En} : asgs [] [] e = some e := rfl
@[simp] theorem asgs_cons {t : CT} {ts : List CT} {d : D} {ds : List D} {e : En} : asgs (t :: ts) (d :: ds) e = (asg t d e).bind fun e => asgs ts ds e := rfl
@[simp] theorem put_ok {i : Nat} {d : D} {vs : List (Option D)} {st : List Own} : put i d ⟨vs, st⟩ = if i < vs.length then some ⟨vs.set i (some d), st⟩ else none := rfl
theorem run_at {cs : List D} {fns : List Fn} {n i : Nat} {ds : List D} {st : List Own} {fn : Fn} (h : fns[i]? = some fn) (hc : ds.length = fn.np) (hp : fn.md = .pure → ptrs 0 ds = true) :
    run cs fns (n + 1) i ds st = (match evSs cs (run cs fns n) fn.body ⟨ds.map some ++ List.replicate (fn.ns - fn.np) none, if fn.md = .pure then [] else st⟩ with
      | .nx e => endOk fn.md st .non e
      | .rt d e => endOk fn.md st d e
      | .exc x e => endX fn.md st x e
      | _ => .er) := by
  simp only [run, h]
  first
    | (rw [if_pos ⟨hc, hp⟩]; done)
    | (rw [if_pos ⟨hc, hp⟩]; generalize evSs cs _ _ _ = r; cases r <;> rfl)
/-- a pure def: what its body hands back -/
theorem run_pure {cs : List D} {fns : List Fn} {n i : Nat} {ds : List D} {st : List Own} {fn : Fn} {d : D} {e : En} (h : fns[i]? = some fn) (hc : ds.length = fn.np) (hm : fn.md = .pure) (hp : ptrs 0 ds = true)
    (hb : evSs cs (run cs fns n) fn.body ⟨ds.map some ++ List.replicate (fn.ns - fn.np) none, []⟩ = .rt d e) (hd : ptr 0 d = true) : run cs fns (n + 1) i ds st = .ok d st := by
  rw [run_at h hc fun _ => hp, if_pos hm, hb, hm]
  have g : give 0 e d = some d := by
    cases d <;> first | rfl | (simp [ptr] at hd)
  simp [endOk, cutOk, g, hd]
@[simp] theorem cs_0 : cs[0]? = some (.str "abcdefghijklmnopqrstuvwxyz") := rfl
@[simp] theorem cs_1 : cs[1]? = some (.int 8) := rfl
@[simp] theorem cs_2 : cs[2]? = some (.tup [.str "in", .str "out", .str "gone"]) := rfl
@[simp] theorem cs_3 : cs[3]? = some (.str "edge") := rfl
@[simp] theorem cs_4 : cs[4]? = some (.str "level") := rfl
@[simp] theorem cs_5 : cs[5]? = some (.int 9) := rfl
@[simp] theorem cs_6 : cs[6]? = some (.int 6) := rfl
@[simp] theorem cs_7 : cs[7]? = some (.int 6) := rfl
@[simp] theorem cs_8 : cs[8]? = some (.int 4) := rfl
@[simp] theorem cs_9 : cs[9]? = some (.int 4) := rfl
@[simp] theorem bi_len {x : D} : Mi.bi .len [x] = lenD x := rfl
@[simp] theorem bi_lenset {x : D} : Mi.bi .lenset [x] = lensetD x := rfl
@[simp] theorem bi_list {x : D} : Mi.bi .list [x] = listD x := rfl
@[simp] theorem bi_tuple {x : D} : Mi.bi .tuple [x] = tupleD x := rfl
@[simp] theorem bi_dict {x : D} : Mi.bi .dict [x] = dictD x := rfl
@[simp] theorem bi_sorted {x : D} : Mi.bi .sorted [x] = sortedD x := rfl
@[simp] theorem bi_repr {x : D} : Mi.bi .repr [x] = reprD x := rfl
@[simp] theorem bi_all {x : D} : Mi.bi .all [x] = allD x := rfl
@[simp] theorem bi_any {x : D} : Mi.bi .any [x] = anyD x := rfl
@[simp] theorem bi_min {x y : D} : Mi.bi .min [x, y] = minD x y := rfl
@[simp] theorem lenD_lst {x : List D} : lenD (.lst x) = some (.int x.length) := rfl
@[simp] theorem lenD_tup {x : List D} : lenD (.tup x) = some (.int x.length) := rfl
@[simp] theorem lenD_str {x : Str} : lenD (.str x) = some (.int x.length) := rfl
@[simp] theorem lenD_dic {x : List (Key × D)} : lenD (.dic x) = some (.int x.length) := rfl
@[simp] theorem tupleD_lst {x : List D} : tupleD (.lst x) = some (.tup x) := rfl
@[simp] theorem listD_lst {x : List D} : listD (.lst x) = some (.lst x) := rfl
@[simp] theorem ix_tup {x : List D} {i : Int} : Mi.ix (.tup x) (.int i) = atI x i := rfl
@[simp] theorem ix_lst {x : List D} {i : Int} : Mi.ix (.lst x) (.int i) = atI x i := rfl
@[simp] theorem isTy_str {x : Str} : isTy .str (.str x) = true := rfl
@[simp] theorem isTy_bool {x : Bool} : isTy .bool (.bl x) = true := rfl
@[simp] theorem isTy_int {x : Int} : isTy .int (.int x) = true := rfl
@[simp] theorem isTy_bool_int {x : Int} : isTy .bool (.int x) = false := rfl
@[simp] theorem isTy_tup {x : List D} : isTy .tuple (.tup x) = true := rfl
@[simp] theorem cmp_eq {x y : D} : Mi.cmp .eq x y = (deq x y).map .bl := by cases x <;> cases y <;> rfl
@[simp] theorem cmp_ne {x y : D} : Mi.cmp .ne x y = (deq x y).map fun b => .bl (!b) := by cases x <;> cases y <;> rfl
@[simp] theorem cmp_in {x y : D} : Mi.cmp .isin x y = (isIn x y).map .bl := by cases x <;> cases y <;> rfl
@[simp] theorem cmp_notin {x y : D} : Mi.cmp .notin x y = (isIn x y).map fun b => .bl (!b) := by cases x <;> cases y <;> rfl
@[simp] theorem cmp_lt {x y : Int} : Mi.cmp .lt (.int x) (.int y) = some (.bl (decide (x < y))) := rfl
@[simp] theorem cmp_le {x y : Int} : Mi.cmp .le (.int x) (.int y) = some (.bl (decide (x ≤ y))) := rfl
@[simp] theorem cmp_gt {x y : Int} : Mi.cmp .gt (.int x) (.int y) = some (.bl (decide (y < x))) := rfl
@[simp] theorem cmp_ge {x y : Int} : Mi.cmp .ge (.int x) (.int y) = some (.bl (decide (y ≤ x))) := rfl
@[simp] theorem evI_seq_fix {cs : List D} {cal : Cal} {a : CE} {e e' : En} {d : D} {ds : List D} (h : evE cs cal a e = .ok d e') (hs : srcOf e' d = some (.fix ds)) : evI cs cal (.seq a) e = .ok (.fix ds) e' := by
  show ((evE cs cal a e).bind fun x e => .of (srcOf e x) e) = _
  rw [h, bind_ok, hs]
  rfl
end Mi.A
end

section
set_option Elab.async false
set_option linter.all false
set_option maxRecDepth 100000
set_option maxHeartbeats 4000000
/-! A2: halls as plain data. -/
namespace Mi.A
open PySem L2
/-! ### texts -/
def lo (c : Nat) : Bool := decide (97 ≤ c) && decide (c ≤ 122)
def Str.l (x : Str) : List Nat := x.cps.toList
theorem strEq {x y : Str} : x = y ↔ x.cps.toList = y.cps.toList := by
  constructor
  · intro h; rw [h]
  · intro h
    cases x; cases y
    simpa [Array.toList_inj] using h
theorem len_l {x : Str} : x.length = x.cps.toList.length := by simp [Str.length]
/-- a name -/
structure Nm (x : Str) : Prop where
  one : 1 ≤ x.cps.toList.length
  most : x.cps.toList.length ≤ 8
  small : ∀ c ∈ x.cps.toList, 97 ≤ c ∧ c ≤ 122
/-- a text of plain signs -/
def Pl (x : Str) : Prop := ∀ c ∈ x.cps.toList, c < 128
theorem Nm.pl {x : Str} (h : Nm x) : Pl x := fun c hc => by have := h.small c hc; omega
theorem Pl.ok {x : Str} (h : Pl x) : PyData.strOk x = true := by
  unfold PyData.strOk
  rw [← Array.all_toList, List.all_eq_true]
  intro c hc
  have := h c hc
  simp; omega
/-! ### how values are compared -/
theorem shaped_str {x : Str} (h : Pl x) : SeqAt.shaped (.str x) = true := by
  simp [SeqAt.shaped, PyData.canLay0, PyData.depth, h.ok]
theorem toPys_map {α : Type} (f : α → D) : ∀ xs : List α, toPys (xs.map f) = xs.map fun x => toPy (f x)
  | [] => rfl
  | x :: xs => by
    show toPy (f x) :: toPys (xs.map f) = _
    rw [toPys_map f xs]
    rfl
theorem canLayAll_iff : ∀ xs : List PyData, PyData.canLayAll0 xs = xs.all (·.canLay0)
  | [] => by simp [PyData.canLayAll0]
  | x :: xs => by simp [PyData.canLayAll0, canLayAll_iff xs]
theorem depthAll_le {n : Nat} : ∀ {xs : List PyData}, (∀ x ∈ xs, x.depth ≤ n) → PyData.depthAll xs ≤ n
  | [], _ => by simp [PyData.depthAll]
  | x :: xs, h => by
    have h1 := h x List.mem_cons_self
    have h2 := depthAll_le (n := n) (xs := xs) fun y hy => h y (List.mem_cons_of_mem _ hy)
    simp only [PyData.depthAll]
    omega
theorem eqvAll_map {α : Type} [DecidableEq α] (f : α → PyData) (h : ∀ x y, PyData.eqv (f x) (f y) = decide (x = y)) : ∀ xs ys : List α, PyData.eqvAll (xs.map f) (ys.map f) = decide (xs = ys)
  | [], [] => by simp [PyData.eqvAll]
  | [], _ :: _ => by simp [PyData.eqvAll]
  | _ :: _, [] => by simp [PyData.eqvAll]
  | x :: xs, y :: ys => by
    simp only [List.map_cons, PyData.eqvAll, h, eqvAll_map f h xs ys]
    by_cases e1 : x = y <;> by_cases e2 : xs = ys <;> simp [e1, e2]
theorem eqv_str {x y : Str} : PyData.eqv (.str x) (.str y) = decide (x = y) := by
  simp only [PyData.eqv]
  by_cases h : x = y <;> simp [h]
/-- some words as a tuple -/
def ws (l : List Str) : D := .tup (l.map .str)
theorem shaped_seq {xs : List PyData} {n : Nat} (hn : n < 64) (h : ∀ x ∈ xs, x.canLay0 = true ∧ x.depth ≤ n) : SeqAt.shaped (.tuple xs) = true ∧ SeqAt.shaped (.list xs) = true := by
  have h1 : xs.all (·.canLay0) = true := List.all_eq_true.mpr fun x hx => (h x hx).1
  have h2 := depthAll_le (n := n) fun x hx => (h x hx).2
  simp only [SeqAt.shaped, PyData.canLay0, canLayAll_iff, h1, PyData.depth]
  simp; omega
theorem shaped_strs {l : List Str} (h : ∀ x ∈ l, Pl x) : SeqAt.shaped (.tuple (l.map .str)) = true ∧ SeqAt.shaped (.list (l.map .str)) = true := by
  refine shaped_seq (n := 0) (by omega) fun x hx => ?_
  obtain ⟨y, hy, rfl⟩ := List.mem_map.mp hx
  simp [PyData.canLay0, PyData.depth, (h y hy).ok]
theorem toPy_ws {l : List Str} : toPy (ws l) = .tuple (l.map .str) := by
  simp only [ws, toPy, toPys_map]
theorem deq_str {x y : Str} (hx : Pl x) (hy : Pl y) : deq (.str x) (.str y) = some (decide (x = y)) := by
  simp [deq, toPy, shaped_str hx, shaped_str hy, eqv_str]
theorem deq_ws {x y : List Str} (hx : ∀ z ∈ x, Pl z) (hy : ∀ z ∈ y, Pl z) : deq (ws x) (ws y) = some (decide (x = y)) := by
  have e : PyData.eqv (.tuple (x.map PyData.str)) (.tuple (y.map PyData.str)) = decide (x = y) := by
    simp only [PyData.eqv]
    exact eqvAll_map _ (fun a b => eqv_str) x y
  simp [deq, toPy_ws, shaped_strs hx, shaped_strs hy, e]
theorem deq_strs {x y : List Str} (hx : ∀ z ∈ x, Pl z) (hy : ∀ z ∈ y, Pl z) : deq (.lst (x.map .str)) (.lst (y.map .str)) = some (decide (x = y)) := by
  have e : PyData.eqv (.list (x.map PyData.str)) (.list (y.map PyData.str)) = decide (x = y) := by
    simp only [PyData.eqv]
    exact eqvAll_map _ (fun a b => eqv_str) x y
  simp [deq, toPy, toPys_map, shaped_strs hx, shaped_strs hy, e]
theorem deq_int {x y : Int} : deq (.int x) (.int y) = some (decide (x = y)) := by
  simp [deq, toPy, SeqAt.shaped, PyData.canLay0, PyData.depth, PyData.eqv]
  by_cases h : x = y <;> simp [h]
theorem isIn_strs_l {x : Str} {l : List Str} : isIn (.str x) (.lst (l.map .str)) = some (decide (x ∈ l)) := by
  have h1 : (l.map D.str).all flat = true := by simp [flat]
  simp only [isIn, flat, h1]
  simp only [Bool.and_self, if_true, List.any_map]
  congr 1
  rw [Bool.eq_iff_iff]
  simp only [List.any_eq_true, Function.comp, eqF, toPy, eqv_str, decide_eq_true_eq]
  exact ⟨fun ⟨y, hy, e⟩ => e ▸ hy, fun h => ⟨x, h, rfl⟩⟩
theorem isIn_strs_t {x : Str} {l : List Str} : isIn (.str x) (.tup (l.map .str)) = some (decide (x ∈ l)) := by
  have h1 : (l.map D.str).all flat = true := by simp [flat]
  simp only [isIn, flat, h1]
  simp only [Bool.and_self, if_true, List.any_map]
  congr 1
  rw [Bool.eq_iff_iff]
  simp only [List.any_eq_true, Function.comp, eqF, toPy, eqv_str, decide_eq_true_eq]
  exact ⟨fun ⟨y, hy, e⟩ => e ▸ hy, fun h => ⟨x, h, rfl⟩⟩
theorem isIn_ws {x : Str} {l : List Str} : isIn (.str x) (ws l) = some (decide (x ∈ l)) := isIn_strs_t
theorem boolsOf_map {α : Type} (p : α → Bool) : ∀ xs : List α, boolsOf (xs.map fun x => .bl (p x)) = some (xs.map p)
  | [] => rfl
  | x :: xs => by
    show (boolsOf (xs.map fun x => .bl (p x))).map _ = _
    rw [boolsOf_map p xs]
    rfl
theorem strsOf_map : ∀ xs : List Str, strsOf (xs.map .str) = some xs
  | [] => rfl
  | x :: xs => by
    show (strsOf (xs.map .str)).map _ = _
    rw [strsOf_map xs]
    rfl
theorem all_map {α : Type} (p : α → Bool) (xs : List α) : allD (.lst (xs.map fun x => .bl (p x))) = some (.bl (xs.all p)) := by
  simp [allD, boolsOf_map, List.all_map]
theorem any_map {α : Type} (p : α → Bool) (xs : List α) : anyD (.lst (xs.map fun x => .bl (p x))) = some (.bl (xs.any p)) := by
  simp [anyD, boolsOf_map, List.any_map]
@[simp] theorem all_tt {α : Type} {xs : List α} : (xs.all fun _ => true) = true := List.all_eq_true.mpr fun _ _ => rfl
theorem ptrs_map {α : Type} {n : Nat} (f : α → D) : ∀ {xs : List α}, (∀ x ∈ xs, ptr n (f x) = true) → ptrs n (xs.map f) = true
  | [], _ => rfl
  | x :: xs, h => by
    show (ptr n (f x) && ptrs n (xs.map f)) = true
    rw [h x List.mem_cons_self, ptrs_map f fun y hy => h y (List.mem_cons_of_mem _ hy)]
    rfl
@[simp] theorem ptr_ws {n : Nat} {l : List Str} : ptr n (ws l) = true := ptrs_map _ fun _ _ => rfl
@[simp] theorem ptr_strs {n : Nat} {l : List Str} : ptrs n (l.map .str) = true := ptrs_map _ fun _ _ => rfl
/-! ### comprehensions -/
theorem turns_map {α β : Type} {base : List (Option D)} {f : D → En → R (Option β)} {dx : α → D} {g : α → Option β} {st : List Own} : ∀ {xs : List α}, (∀ x ∈ xs, ∃ vs, f (dx x) ⟨base, st⟩ = .ok (g x) ⟨vs, st⟩) →
    turns base f (xs.map dx) st = .ok (xs.filterMap g) ⟨base, st⟩
  | [], _ => rfl
  | x :: xs, h => by
    obtain ⟨vs, e⟩ := h x List.mem_cons_self
    have ih := turns_map (f := f) (dx := dx) (g := g) (base := base) (st := st) (xs := xs) fun y hy => h y (List.mem_cons_of_mem _ hy)
    rw [List.map_cons, turns, e]
    dsimp only
    rw [ih, List.filterMap_cons]
    cases g x <;> rfl
theorem filterMap_some' {α β : Type} (g : α → β) (xs : List α) : xs.filterMap (fun x => some (g x)) = xs.map g := by
  induction xs with
  | nil => rfl
  | cons x xs ih => rw [List.filterMap_cons, ih]; rfl
theorem filterMap_if {α β : Type} (p : α → Bool) (g : α → β) (xs : List α) : xs.filterMap (fun x => if p x = true then some (g x) else none) = (xs.filter p).map g := by
  induction xs with
  | nil => rfl
  | cons x xs ih =>
    rw [List.filterMap_cons, ih, List.filter_cons]
    by_cases h : p x = true
    · rw [if_pos h, if_pos h]; rfl
    · rw [if_neg h, if_neg h]
/-- a list comprehension that keeps the store, over some values -/
theorem comp_all {cs : List D} {cal : Cal} {α : Type} {elt : CE} {tg : CT} {it : CI} {vs : List Nat} {e : En} {dx : α → D} {xs : List α} (g : α → D) (hi : evI cs cal it e = .ok (.fix (xs.map dx)) e) (hl : xs.length ≤ sizeLine)
    (h : ∀ x ∈ xs, ∃ vs1 vs2, asg tg (dx x) ⟨wipeL e.vs vs, e.st⟩ = some ⟨vs1, e.st⟩ ∧ evE cs cal elt ⟨vs1, e.st⟩ = .ok (g x) ⟨vs2, e.st⟩) : evE cs cal (.comp elt tg it .no vs) e = .ok (.lst (xs.map g)) e := by
  rw [evE_comp, hi, bind_ok]
  simp only [turnsS]
  rw [turns_map (dx := dx) (g := fun x => some (g x))]
  · rw [bind_ok, filterMap_some', if_pos (by rw [List.length_map]; exact hl)]
  · intro x hx
    obtain ⟨vs1, vs2, h1, h2⟩ := h x hx
    exact ⟨vs2, by simp only [h1, evT_no, bind_ok, h2, if_true]⟩
/-- the same with a test -/
theorem comp_if {cs : List D} {cal : Cal} {α : Type} {elt tt : CE} {tg : CT} {it : CI} {vs : List Nat} {e : En} {dx : α → D} {xs : List α} (p : α → Bool) (g : α → D) (hi : evI cs cal it e = .ok (.fix (xs.map dx)) e) (hl : xs.length ≤ sizeLine)
    (h : ∀ x ∈ xs, ∃ vs1 vs2, asg tg (dx x) ⟨wipeL e.vs vs, e.st⟩ = some ⟨vs1, e.st⟩ ∧ evT cs cal (.yes tt) ⟨vs1, e.st⟩ = .ok (p x) ⟨vs2, e.st⟩ ∧ (p x = true → ∃ vs3, evE cs cal elt ⟨vs2, e.st⟩ = .ok (g x) ⟨vs3, e.st⟩)) :
    evE cs cal (.comp elt tg it (.yes tt) vs) e = .ok (.lst ((xs.filter p).map g)) e := by
  rw [evE_comp, hi, bind_ok]
  simp only [turnsS]
  rw [turns_map (dx := dx) (g := fun x => if p x = true then some (g x) else none)]
  · rw [bind_ok, filterMap_if, if_pos (by
      rw [List.length_map]
      exact Nat.le_trans (List.length_filter_le _ _) hl)]
  · intro x hx
    obtain ⟨vs1, vs2, h1, h2, h3⟩ := h x hx
    by_cases hp : p x = true
    · obtain ⟨vs3, h3⟩ := h3 hp
      exact ⟨vs3, by simp only [h1, h2, bind_ok, hp, if_true, h3]⟩
    · exact ⟨vs2, by simp only [h1, h2, bind_ok, if_neg hp]⟩
end Mi.A
end

section
set_option Elab.async false
set_option linter.all false
set_option maxRecDepth 100000
set_option maxHeartbeats 4000000
/-! A3: pipes, entries, sets; the looks at them. -/
namespace Mi.A
open PySem L2
abbrev sIn : Str := "in"
abbrev sOut : Str := "out"
abbrev sGone : Str := "gone"
abbrev sLevel : Str := "level"
abbrev sEdge : Str := "edge"
def words : List Str := [sIn, sOut, sGone]
theorem pl_words : ∀ z ∈ words, Pl z := by
  intro z hz
  simp only [words, List.mem_cons, List.not_mem_nil, or_false] at hz
  rcases hz with rfl | rfl | rfl <;> (intro c; revert c; decide)
structure Pipe where
  name : Str
  room : Int
  held : Int
  shut : Bool
def Pipe.d (p : Pipe) : D := .tup [.str p.name, .int p.room, .int p.held, .bl p.shut]
structure Ent where
  target : Str
  asked : List Str
  edge : Bool
  once : Bool
  alone : Bool
  on : Bool
  fresh : List Str
def mode (b : Bool) : Str := if b = true then sEdge else sLevel
def Ent.i (e : Ent) : D := .tup [.str e.target, ws e.asked, .str (mode e.edge), .bl e.once, .bl e.alone]
def Ent.d (e : Ent) : D := .tup [e.i, .bl e.on, ws e.fresh]
structure Wt where
  who : Str
  most : Int
def Wt.d (w : Wt) : D := .tup [.str w.who, .int w.most]
structure SetT where
  name : Str
  ents : List Ent
  row : List Str
  asleep : List Wt
  woken : List Wt
def SetT.d (s : SetT) : D := .tup [.str s.name, .tup (s.ents.map Ent.d), ws s.row, .tup (s.asleep.map Wt.d), .tup (s.woken.map Wt.d)]
def pipesD (ps : List Pipe) : D := .tup (ps.map Pipe.d)
def setsD (ss : List SetT) : D := .tup (ss.map SetT.d)
def hallD (ps : List Pipe) (ss : List SetT) : D := .tup [pipesD ps, setsD ss]
def SetT.targets (s : SetT) : List Str := s.ents.map (·.target)
def SetT.waiters (s : SetT) : List Str := (s.asleep ++ s.woken).map (·.who)
/-- words in their order -/
def Wd (l : List Str) : Prop := l = words.filter (fun w => decide (w ∈ l))
structure PipeOk (p : Pipe) : Prop where
  nm : Nm p.name
  r1 : 1 ≤ p.room
  r9 : p.room ≤ 9
  h0 : 0 ≤ p.held
  hr : p.held ≤ p.room
structure EntOk (e : Ent) : Prop where
  nm : Nm e.target
  asked : Wd e.asked
  some : e.asked ≠ []
  fresh : Wd e.fresh
  edge : e.fresh = [] ∨ (e.edge = true ∧ ∀ w ∈ e.fresh, w ∈ e.asked)
structure WtOk (w : Wt) : Prop where
  nm : Nm w.who
  one : 1 ≤ w.most
  six : w.most ≤ 6
structure SetOk (s : SetT) : Prop where
  nm : Nm s.name
  e6 : s.ents.length ≤ 6
  ents : ∀ e ∈ s.ents, EntOk e
  tn : s.targets.Nodup
  rn : s.row.Nodup
  rt : ∀ t ∈ s.row, t ∈ s.targets
  a6 : s.asleep.length ≤ 6
  w6 : s.woken.length ≤ 6
  asl : ∀ w ∈ s.asleep, WtOk w
  wok : ∀ w ∈ s.woken, WtOk w
theorem nodup_len {α : Type} [DecidableEq α] : ∀ {xs ys : List α}, xs.Nodup → (∀ x ∈ xs, x ∈ ys) → xs.length ≤ ys.length
  | [], _, _, _ => Nat.zero_le _
  | x :: xs, ys, h, hs => by
    rw [List.nodup_cons] at h
    have hx := hs x List.mem_cons_self
    have := nodup_len (ys := ys.erase x) h.2 fun z hz => (List.mem_erase_of_ne fun (e : z = x) => h.1 (by rw [← e]; exact hz)).mpr (hs z (List.mem_cons_of_mem _ hz))
    rw [List.length_erase_of_mem hx] at this
    have hp := List.length_pos_of_mem hx
    simp only [List.length_cons]
    omega
theorem SetOk.r6 {s : SetT} (h : SetOk s) : s.row.length ≤ 6 := by
  have := nodup_len h.rn h.rt
  rw [SetT.targets, List.length_map] at this
  exact Nat.le_trans this h.e6
theorem Wd.pl {l : List Str} (h : Wd l) : ∀ z ∈ l, Pl z := fun z hz => by
  rw [h] at hz
  exact pl_words z (List.mem_filter.mp hz).1
theorem Wd.three {l : List Str} (h : Wd l) : l.length ≤ 3 := by
  rw [h]
  exact Nat.le_trans (List.length_filter_le _ _) (by decide)
theorem Wd.nil : Wd [] := by simp [Wd]
@[simp] theorem pipe_ptr {n : Nat} {p : Pipe} : ptr n p.d = true := rfl
@[simp] theorem ent_i_ptr {n : Nat} {e : Ent} : ptr n e.i = true := by
  simp [Ent.i, ptr, ptrs, -ptr_ws]
  exact ptr_ws
@[simp] theorem ent_ptr {n : Nat} {e : Ent} : ptr n e.d = true := by
  show (ptr n e.i && (true && (ptr n (ws e.fresh) && true))) = true
  rw [ent_i_ptr, ptr_ws]; rfl
@[simp] theorem wt_ptr {n : Nat} {w : Wt} : ptr n w.d = true := rfl
@[simp] theorem set_ptr {n : Nat} {s : SetT} : ptr n s.d = true := by
  show (true && (ptrs n (s.ents.map Ent.d) && (ptr n (ws s.row) && (ptrs n (s.asleep.map Wt.d) && (ptrs n (s.woken.map Wt.d) && true))))) = true
  rw [ptrs_map _ fun _ _ => ent_ptr, ptr_ws, ptrs_map _ fun _ _ => wt_ptr, ptrs_map _ fun _ _ => wt_ptr]; rfl
@[simp] theorem pipes_ptr {n : Nat} {s : List Pipe} : ptr n (pipesD s) = true := ptrs_map _ fun _ _ => pipe_ptr
@[simp] theorem sets_ptr {n : Nat} {s : List SetT} : ptr n (setsD s) = true := ptrs_map _ fun _ _ => set_ptr
@[simp] theorem hall_ptr {n : Nat} {p : List Pipe} {s : List SetT} : ptr n (hallD p s) = true := by
  show (ptr n (pipesD p) && (ptr n (setsD s) && true)) = true
  rw [pipes_ptr, sets_ptr]; rfl
variable {fns : List Fn}
theorem is_number_ok (P : Has fns) {n : Nat} {a b c : Int} {st : List Own} : run cs fns (n+1) 0 [.int a, .int b, .int c] st = .ok (.bl (decide (b ≤ a) && decide (a ≤ c))) st := by
  refine run_pure P.h0 rfl rfl rfl (e := ⟨[some (.int a), some (.int b), some (.int c)], []⟩) ?_ rfl
  simp [fis_number, truth, isTy, cmp]
  by_cases h1 : b ≤ a <;> by_cases h2 : a ≤ c <;> simp [h1, h2]
theorem small_iff {c : Nat} : c ∈ (Str.ofString "abcdefghijklmnopqrstuvwxyz").cps.toList ↔ 97 ≤ c ∧ c ≤ 122 := by
  have e : (Str.ofString "abcdefghijklmnopqrstuvwxyz").cps.toList = List.range' 97 26 := by decide +kernel
  rw [e, List.mem_range'_1]
  omega
theorem isIn_small {c : Nat} (h : 97 ≤ c ∧ c ≤ 122) : isIn (.str ⟨#[c]⟩) (.str (Str.ofString "abcdefghijklmnopqrstuvwxyz")) = some true := by
  have := small_iff.mpr h
  simp only [isIn]
  rw [decide_eq_true this]
theorem le8 {n : Nat} (h : n ≤ 8) : n ≤ sizeLine := Nat.le_trans h (by decide)
theorem is_name_ok (P : Has fns) {n : Nat} {x : Str} (h : Nm x) {st : List Own} : run cs fns (n+1) 1 [.str x] st = .ok (.bl true) st := by
  have h1 : 1 ≤ x.length := by rw [len_l]; exact h.one
  have h8 : x.length ≤ 8 := by rw [len_l]; exact h.most
  refine run_pure P.h1 rfl rfl rfl (e := ⟨[some (.str x), none], []⟩) ?_ rfl
  have hc : evE cs (run cs fns n) (.comp (.cmp .isin (.var 1) (.glb 0)) (.nm 1) (.seq (.var 0)) .no [1]) ⟨[some (.str x), none], []⟩ = .ok (.lst (x.cps.toList.map fun _ => D.bl true)) ⟨[some (.str x), none], []⟩ := by
    refine comp_all (dx := fun c => D.str ⟨#[c]⟩) (fun _ => .bl true) ?_ (le8 h.most) fun c hc => ?_
    · simp [srcOf, itemsOf]
    · refine ⟨[some (.str x), some (.str ⟨#[c]⟩)], [some (.str x), some (.str ⟨#[c]⟩)], by simp [wipeL], ?_⟩
      simp [isIn_small (h.small c hc)]
  have e1 : (1:Int) ≤ x.length := by omega
  have e2 : (x.length : Int) ≤ 8 := by omega
  simp [fis_name, hc, e1, e2, all_map]
theorem is_tuple_of_ok (P : Has fns) {n : Nat} {ds : List D} {k : Int} (hp : ptrs 0 ds = true) {st : List Own} : run cs fns (n+1) 2 [.tup ds, .int k] st = .ok (.bl (decide ((ds.length : Int) = k))) st := by
  refine run_pure P.h2 rfl rfl (by simp [ptrs, ptr, hp]) (e := ⟨[some (.tup ds), some (.int k)], []⟩) ?_ rfl
  simp [fis_tuple_of, deq_int]
theorem are_up_to_ok (P : Has fns) {n : Nat} {ds : List D} {k : Int} (hp : ptrs 0 ds = true) {st : List Own} : run cs fns (n+1) 3 [.tup ds, .int k] st = .ok (.bl (decide ((ds.length : Int) ≤ k))) st := by
  refine run_pure P.h3 rfl rfl (by simp [ptrs, ptr, hp]) (e := ⟨[some (.tup ds), some (.int k)], []⟩) ?_ rfl
  simp [fare_up_to]
theorem are_words_ok (P : Has fns) {n : Nat} {l : List Str} (h : Wd l) {st : List Own} : run cs fns (n+2) 4 [ws l] st = .ok (.bl true) st := by
  refine run_pure P.h4 rfl rfl (by simp [ptrs]) (e := ⟨[some (ws l), none], []⟩) ?_ rfl
  have h1 := are_up_to_ok P (n := n) (ds := l.map .str) (k := 3) ptr_strs (st := [])
  have h3 : (l.length : Int) ≤ 3 := by have := h.three; omega
  have hl : l.length ≤ sizeLine := le8 (Nat.le_trans h.three (by decide))
  have c1 : evE cs (run cs fns (n + 1)) (.comp (.isa .str (.var 1)) (.nm 1) (.seq (.var 0)) .no [1]) ⟨[some (ws l), none], []⟩ = .ok (.lst (l.map fun _ => D.bl true)) ⟨[some (ws l), none], []⟩ := by
    refine comp_all (dx := D.str) (fun _ => .bl true) ?_ hl fun c hc => ?_
    · simp [srcOf, itemsOf, ws]
    · exact ⟨[some (ws l), some (.str c)], [some (ws l), some (.str c)], by simp [wipeL], by simp⟩
  have c2 : evE cs (run cs fns (n + 1)) (.comp (.var 1) (.nm 1) (.seq (.glb 2)) (.yes (.cmp .isin (.var 1) (.var 0))) [1]) ⟨[some (ws l), none], []⟩ = .ok (.lst ((words.filter fun w => decide (w ∈ l)).map .str)) ⟨[some (ws l), none], []⟩ := by
    refine comp_if (dx := D.str) (xs := words) (fun w => decide (w ∈ l)) .str ?_ (by decide) fun c hc => ?_
    · simp [srcOf, itemsOf, words]
    · refine ⟨[some (ws l), some (.str c)], [some (ws l), some (.str c)], by simp [wipeL], ?_, fun _ => ⟨_, by simp; rfl⟩⟩
      have : res ⟨[some (ws l), some (.str c)], []⟩ (ws l) = some (ws l) := rfl
      simp [this, isIn_ws]
  have e3 := deq_ws h.pl (y := words.filter fun w => decide (w ∈ l)) (fun z hz => pl_words z (List.mem_filter.mp hz).1)
  have e4 : decide (l = words.filter fun w => decide (w ∈ l)) = true := decide_eq_true h
  rw [e4] at e3
  simp only [ws] at c1 c2 e3 ⊢
  simp [fare_words, h1, h3, c1, c2, all_map, e3]
theorem atI_nat {α : Type} {xs : List α} (k : Nat) : atI xs (k : Int) = xs[k]? := by
  unfold atI ixN
  rw [if_pos (Int.natCast_nonneg k)]
  by_cases h : (k : Int) < xs.length
  · rw [if_pos h]; rfl
  · rw [if_neg h]
    have : xs.length ≤ k := by omega
    rw [List.getElem?_eq_none this]; rfl
@[simp] theorem atI0 {α : Type} {xs : List α} : atI xs 0 = xs[0]? := atI_nat 0
@[simp] theorem atI1 {α : Type} {xs : List α} : atI xs 1 = xs[1]? := atI_nat 1
@[simp] theorem atI2 {α : Type} {xs : List α} : atI xs 2 = xs[2]? := atI_nat 2
@[simp] theorem atI3 {α : Type} {xs : List α} : atI xs 3 = xs[3]? := atI_nat 3
@[simp] theorem atI4 {α : Type} {xs : List α} : atI xs 4 = xs[4]? := atI_nat 4
theorem mode_in (b : Bool) : isIn (.str (mode b)) (.tup [.str sLevel, .str sEdge]) = some true := by
  have := isIn_strs_t (x := mode b) (l := [sLevel, sEdge])
  simp only [List.map_cons, List.map_nil] at this
  rw [this]
  cases b <;> simp [mode]
theorem is_interest_ok (P : Has fns) {n : Nat} {e : Ent} (h : EntOk e) {st : List Own} : run cs fns (n+3) 5 [e.i] st = .ok (.bl true) st := by
  refine run_pure P.h5 rfl rfl (by simp [ptrs]) (e := ⟨[some e.i, some (.str e.target), some (ws e.asked), some (.str (mode e.edge)), some (.bl e.once), some (.bl e.alone)], []⟩) ?_ rfl
  have h2 := is_tuple_of_ok P (n := n+1) (ds := [.str e.target, ws e.asked, .str (mode e.edge), .bl e.once, .bl e.alone]) (k := 5) ent_i_ptr (st := [])
  have h3 := is_name_ok P (n := n+1) h.nm (st := [])
  have h4 := are_words_ok P (n := n) h.asked (st := [])
  have h5 := deq_ws h.asked.pl (y := []) (by simp)
  rw [decide_eq_false h.some] at h5
  have h6 := mode_in e.edge
  simp only [ws, List.map_nil] at h5 h2 h4
  simp only [Ent.i, ws]
  simp [fis_interest, h2, h3, h4, h5, h6]
theorem slc_tup {xs : List D} {lo hi : Option Int} : Mi.slc (.tup xs) lo hi = some (.tup (cut xs lo hi)) := rfl
theorem is_entry_ok (P : Has fns) {n : Nat} {e : Ent} (h : EntOk e) {st : List Own} : run cs fns (n+4) 6 [e.d] st = .ok (.bl true) st := by
  refine run_pure P.h6 rfl rfl (by simp [ptrs]) (e := ⟨[some e.d, some (ws e.asked), some (.str (mode e.edge)), none], []⟩) ?_ rfl
  have h2 := is_tuple_of_ok P (n := n+2) (ds := [e.i, .bl e.on, ws e.fresh]) (k := 3) ent_ptr (st := [])
  have h3 := is_interest_ok P (n := n) h (st := [])
  have h4 := are_words_ok P (n := n+1) h.fresh (st := [])
  have h5 := deq_ws h.fresh.pl (y := []) (by simp)
  have h6 : deq (.str (mode e.edge)) (.str sEdge) = some e.edge := by
    rw [deq_str (by cases e.edge <;> (intro c; revert c; decide)) (by intro c; revert c; decide)]
    cases e.edge <;> decide
  have hc : e.edge = true ∧ (∀ w ∈ e.fresh, w ∈ e.asked) → evE cs (run cs fns (n + 3)) (.comp (.cmp .isin (.var 3) (.var 1)) (.nm 3) (.seq (.ix (.var 0) (.int 2))) .no [3]) ⟨[some e.d, some (ws e.asked), some (.str (mode e.edge)), none], []⟩ = .ok (.lst (e.fresh.map fun _ => D.bl true)) ⟨[some e.d, some (ws e.asked), some (.str (mode e.edge)), none], []⟩ := fun hh => by
    refine comp_all (dx := D.str) (fun _ => .bl true) ?_ (le8 (Nat.le_trans h.fresh.three (by decide))) fun c hc => ?_
    · simp [Ent.d, srcOf, itemsOf, ws]
    · refine ⟨[some e.d, some (ws e.asked), some (.str (mode e.edge)), some (.str c)], [some e.d, some (ws e.asked), some (.str (mode e.edge)), some (.str c)], by simp [wipeL], ?_⟩
      have : isIn (.str c) (ws e.asked) = some true := by rw [isIn_ws, decide_eq_true (hh.2 c hc)]
      simp only [ws] at this ⊢
      simp [this]
  have hs : cut [D.str e.target, ws e.asked, D.str (mode e.edge), D.bl e.once, D.bl e.alone] (some 1) (some 3) = [ws e.asked, D.str (mode e.edge)] := rfl
  simp only [Ent.d, Ent.i, ws, List.map_nil] at h2 h3 h4 h5 hs hc ⊢
  rcases h.edge with h7 | h7
  · simp [h7] at h5 h4 h2
    simp [fis_entry, h2, h3, h4, h5, h6, h7, slc_tup, hs]
  · have hc := hc h7
    by_cases h8 : e.fresh = []
    · simp [h8] at h5 h4 h2
      simp [fis_entry, h2, h3, h4, h5, h6, h8, slc_tup, hs]
    · rw [decide_eq_false h8] at h5
      have h6 : deq (.str (mode e.edge)) (.str sEdge) = some true := by rw [h6, h7.1]
      simp [fis_entry, h2, h3, h4, h5, h6, slc_tup, hs, hc, all_map]
theorem is_pipe_ok (P : Has fns) {n : Nat} {p : Pipe} (h : PipeOk p) {st : List Own} : run cs fns (n+2) 7 [p.d] st = .ok (.bl true) st := by
  refine run_pure P.h7 rfl rfl rfl (e := ⟨[some p.d], []⟩) ?_ rfl
  have h2 := is_tuple_of_ok P (n := n) (ds := [.str p.name, .int p.room, .int p.held, .bl p.shut]) (k := 4) rfl (st := [])
  have h3 := is_name_ok P (n := n) h.nm (st := [])
  have h4 := is_number_ok P (n := n) (a := p.room) (b := 1) (c := 9) (st := [])
  have h5 := is_number_ok P (n := n) (a := p.held) (b := 0) (c := p.room) (st := [])
  simp only [Pipe.d]
  simp [fis_pipe, h2, h3, h4, h5, h.r1, h.r9, h.h0, h.hr]
theorem are_waiting_ok (P : Has fns) {n : Nat} {l : List Wt} (h6 : l.length ≤ 6) (h : ∀ w ∈ l, WtOk w) {st : List Own} : run cs fns (n+2) 8 [.tup (l.map Wt.d)] st = .ok (.bl true) st := by
  have hp : ptrs 0 (l.map Wt.d) = true := ptrs_map _ fun _ _ => wt_ptr
  refine run_pure P.h8 rfl rfl (by simp [ptrs, ptr, hp]) (e := ⟨[some (.tup (l.map Wt.d)), none], []⟩) ?_ rfl
  have h1 := are_up_to_ok P (n := n) (ds := l.map Wt.d) (k := 6) hp (st := [])
  have h3 : (l.length : Int) ≤ 6 := by omega
  have hc : evE cs (run cs fns (n + 1)) (.comp (.and (.call 2 (.cons (.var 1) (.cons (.int 2) (.nil)))) (.cons (.call 1 (.cons (.ix (.var 1) (.int 0)) (.nil))) (.cons (.call 0 (.cons (.ix (.var 1) (.int 1)) (.cons (.int 1) (.cons (.glb 6) (.nil))))) (.nil)))) (.nm 1) (.seq (.var 0)) .no [1]) ⟨[some (.tup (l.map Wt.d)), none], []⟩ = .ok (.lst (l.map fun _ => D.bl true)) ⟨[some (.tup (l.map Wt.d)), none], []⟩ := by
    refine comp_all (dx := Wt.d) (fun _ => .bl true) ?_ (le8 (by omega)) fun c hc => ?_
    · simp [srcOf, itemsOf]
    · refine ⟨[some (.tup (l.map Wt.d)), some c.d], [some (.tup (l.map Wt.d)), some c.d], by simp [wipeL], ?_⟩
      have g := h c hc
      have h2 := is_tuple_of_ok P (n := n) (ds := [.str c.who, .int c.most]) (k := 2) rfl (st := [])
      have h3 := is_name_ok P (n := n) g.nm (st := [])
      have h4 := is_number_ok P (n := n) (a := c.most) (b := 1) (c := 6) (st := [])
      simp only [Wt.d]
      simp [h2, h3, h4, g.one, g.six]
  simp [fare_waiting, h1, h3, hc, all_map]
theorem targets_of_ok (P : Has fns) {n : Nat} {s : SetT} (h6 : s.ents.length ≤ 6) {st : List Own} : run cs fns (n+1) 9 [s.d] st = .ok (.lst (s.targets.map .str)) st := by
  refine run_pure P.h9 rfl rfl (by simp [ptrs]) (e := ⟨[some s.d, none], []⟩) ?_ ptr_strs
  have hc : evE cs (run cs fns n) (.comp (.ix (.ix (.var 1) (.int 0)) (.int 0)) (.nm 1) (.seq (.ix (.var 0) (.int 1))) (.no) [1]) ⟨[some s.d, none], []⟩ = .ok (.lst (s.ents.map fun e => D.str e.target)) ⟨[some s.d, none], []⟩ := by
    refine comp_all (dx := Ent.d) (fun e => .str e.target) ?_ (le8 (by omega)) fun c hc => ?_
    · simp [SetT.d, srcOf, itemsOf]
    · refine ⟨[some s.d, some c.d], [some s.d, some c.d], by simp [wipeL], ?_⟩
      simp [Ent.d, Ent.i]
  simp [ftargets_of, hc, SetT.targets, Function.comp]
end Mi.A
end

section
set_option Elab.async false
set_option linter.all false
set_option maxRecDepth 100000
set_option maxHeartbeats 4000000
/-! A4: loops; need_webs. -/
namespace Mi.A
open PySem L2
@[simp] theorem cellL_own {e : En} {i : Nat} : cellL e (.own i) = match e.st[i]? with
    | some (.lst xs) => some (i, xs)
    | _ => none := rfl
@[simp] theorem muR_own {m : Mu} {i : Nat} {ds : List D} {e : En} : muR m (.own i) ds e = (e.st[i]?).bind fun o => (Mi.mu m o ds).map fun p => (p.1, { e with st := e.st.set i p.2 }) := rfl
@[simp] theorem mu_append {o : Own} {y : D} : Mi.mu .append o [y] = appendO o y := rfl
@[simp] theorem mu_extend {o : Own} {y : D} : Mi.mu .extend o [y] = extendO o y := rfl
@[simp] theorem mu_pop {o : Own} : Mi.mu .pop o [] = popO o := rfl
@[simp] theorem mu_popAt {o : Own} {y : D} : Mi.mu .popAt o [y] = popAtO o y := rfl
@[simp] theorem mu_insert {o : Own} {x y : D} : Mi.mu .insert o [x, y] = insertO o x y := rfl
@[simp] theorem subR_own {i : Nat} {k v : D} {e : En} : subR (.own i) k v e = (e.st[i]?).bind fun o => (setIt o k v).map fun o' => { e with st := e.st.set i o' } := rfl
@[simp] theorem newC_lst {e : En} {xs : List D} : newC e (.lst xs) = some (.own e.st.length, { e with st := e.st ++ [.lst xs] }) := rfl
@[simp] theorem newC_dic {e : En} {xs : List (Key × D)} : newC e (.dic xs) = some (.own e.st.length, { e with st := e.st ++ [.dic xs] }) := rfl
@[simp] theorem puts_nil {e : En} : puts [] [] e = some e := rfl
@[simp] theorem puts_cons {i : Nat} {is : List Nat} {d : D} {ds : List D} {e : En} : puts (i :: is) (d :: ds) e = (put i d e).bind fun e => puts is ds e := rfl
theorem forL_ok {α : Type} {t : CT} {b : En → S} {dx : α → D} {I : List α → En → Prop} : ∀ {xs : List α} {pre : List α} {e : En}, I pre e →
    (∀ p x q e, xs = p ++ x :: q → I (pre ++ p) e → ∃ e1 e2, asg t (dx x) e = some e1 ∧ b e1 = .nx e2 ∧ I (pre ++ p ++ [x]) e2) → ∃ e', forL t b (xs.map dx) e = .nx e' ∧ I (pre ++ xs) e'
  | [], pre, e, h0, _ => ⟨e, rfl, by rw [List.append_nil]; exact h0⟩
  | x :: xs, pre, e, h0, hs => by
    obtain ⟨e1, e2, a1, a2, a3⟩ := hs [] x xs e rfl (by rw [List.append_nil]; exact h0)
    rw [List.append_nil] at a3
    obtain ⟨e', h1, h2⟩ := forL_ok (xs := xs) (pre := pre ++ [x]) (e := e2) (I := I) (t := t) (b := b) (dx := dx) a3 fun p y q e hx hi => by
      have := hs (x :: p) y q e (by rw [hx]; rfl) (by rw [List.append_assoc] at hi; exact hi)
      rw [List.append_assoc pre [x] p]
      exact this
    refine ⟨e', ?_, by rw [List.append_assoc] at h2; exact h2⟩
    rw [List.map_cons, forL, a1]
    dsimp only
    rw [a2]
    exact h1
theorem forE_ok {α : Type} {t : CT} {b : En → S} {dx : α → D} {I : List α → En → Prop} : ∀ {xs : List α} {n : Nat} {pre : List α} {e : En}, I pre e →
    (∀ p x q (i : Nat) e, xs = p ++ x :: q → I (pre ++ p) e → ∃ e1 e2, asg t (.tup [.int i, dx x]) e = some e1 ∧ b e1 = .nx e2 ∧ I (pre ++ p ++ [x]) e2) → ∃ e', forL t b (enumD (xs.map dx) n) e = .nx e' ∧ I (pre ++ xs) e'
  | [], n, pre, e, h0, _ => ⟨e, rfl, by rw [List.append_nil]; exact h0⟩
  | x :: xs, n, pre, e, h0, hs => by
    obtain ⟨e1, e2, a1, a2, a3⟩ := hs [] x xs n e rfl (by rw [List.append_nil]; exact h0)
    rw [List.append_nil] at a3
    obtain ⟨e', h1, h2⟩ := forE_ok (xs := xs) (n := n + 1) (pre := pre ++ [x]) (e := e2) (I := I) (t := t) (b := b) (dx := dx) a3 fun p y q i e hx hi => by
      have := hs (x :: p) y q i e (by rw [hx]; rfl) (by rw [List.append_assoc] at hi; exact hi)
      rw [List.append_assoc pre [x] p]
      exact this
    refine ⟨e', ?_, by rw [List.append_assoc] at h2; exact h2⟩
    rw [List.map_cons, enumD, forL, a1]
    dsimp only
    rw [a2]
    exact h1
/-- a for over some values -/
theorem fr_ok {cs : List D} {cal : Cal} {α : Type} {t : CT} {it : CI} {b : CSs} {e : En} {dx : α → D} {xs : List α} {e0 : En} (I : List α → En → Prop) (hi : evI cs cal it e = .ok (.fix (xs.map dx)) e0) (h0 : I [] e0)
    (hs : ∀ p x q e, xs = p ++ x :: q → I p e → ∃ e1 e2, asg t (dx x) e = some e1 ∧ evSs cs cal b e1 = .nx e2 ∧ I (p ++ [x]) e2) : ∃ e', evS cs cal (.fr t it b) e = .nx e' ∧ I xs e' := by
  rw [evS_fr, hi]
  exact forL_ok (pre := []) h0 hs
theorem frE_ok {cs : List D} {cal : Cal} {α : Type} {t : CT} {it : CI} {b : CSs} {e : En} {dx : α → D} {xs : List α} {e0 : En} (I : List α → En → Prop) (hi : evI cs cal it e = .ok (.fix (enumD (xs.map dx) 0)) e0) (h0 : I [] e0)
    (hs : ∀ p x q (i : Nat) e, xs = p ++ x :: q → I p e → ∃ e1 e2, asg t (.tup [.int i, dx x]) e = some e1 ∧ evSs cs cal b e1 = .nx e2 ∧ I (p ++ [x]) e2) : ∃ e', evS cs cal (.fr t it b) e = .nx e' ∧ I xs e' := by
  rw [evS_fr, hi]
  exact forE_ok (pre := []) h0 hs
/-- one statement that is done, then the others -/
theorem ss_nx {cs : List D} {cal : Cal} {a : CS} {r : CSs} {e e' : En} (h : evS cs cal a e = .nx e') : evSs cs cal (.cons a r) e = evSs cs cal r e' := by
  rw [evSs_cons, h]
/-- a statement's end: going on, handing back -/
def SW (s : S) (N : En → Prop) (T : D → En → Prop) : Prop := match s with
  | .nx e => N e
  | .rt d e => T d e
  | _ => False
section
variable {T : D → En → Prop} {cs : List D} {cal : Cal} {a : CS} {r : CSs} {e e' : En} {N N' : En → Prop}
theorem SW.seq (h : SW (evS cs cal a e) (fun e' => SW (evSs cs cal r e') N T) T) : SW (evSs cs cal (.cons a r) e) N T := by
  rw [evSs_cons]
  cases q : evS cs cal a e <;> rw [q] at h <;> first | exact h | exact h.elim
theorem SW.nx (h : evS cs cal a e = .nx e') (k : SW (evSs cs cal r e') N T) : SW (evSs cs cal (.cons a r) e) N T := by
  rw [evSs_cons, h]
  exact k
theorem SW.rt {d : D} (h : evS cs cal a e = .rt d e') (k : T d e') : SW (evSs cs cal (.cons a r) e) N T := by
  rw [evSs_cons, h]
  exact k
theorem SW.nil (h : N e) : SW (evSs cs cal .nil e) N T := h
theorem SW.mono {s : S} (h : SW s N T) (k : ∀ e, N e → N' e) : SW s N' T := by
  cases s <;> first | exact k _ h | exact h
theorem SW.forL {α : Type} {t : CT} {b : En → S} {dx : α → D} {I : List α → En → Prop} : ∀ {xs : List α} {pre : List α} {e : En}, I pre e →
    (∀ p x q e, xs = p ++ x :: q → I (pre ++ p) e → ∃ e1, asg t (dx x) e = some e1 ∧ SW (b e1) (I (pre ++ p ++ [x])) T) → SW (forL t b (xs.map dx) e) (I (pre ++ xs)) T
  | [], pre, e, h0, _ => by
    rw [List.append_nil]; exact h0
  | x :: xs, pre, e, h0, hs => by
    obtain ⟨e1, a1, a2⟩ := hs [] x xs e rfl (by rw [List.append_nil]; exact h0)
    rw [List.append_nil] at a2
    rw [List.map_cons, Mi.forL, a1]
    dsimp only
    cases q : b e1 with
    | nx e2 =>
      rw [q] at a2
      have := SW.forL (xs := xs) (pre := pre ++ [x]) (e := e2) (I := I) (t := t) (b := b) (dx := dx) a2 fun p y q e hx hi => by
        have := hs (x :: p) y q e (by rw [hx]; rfl) (by rw [List.append_assoc] at hi; exact hi)
        rw [List.append_assoc pre [x] p]
        exact this
      rw [List.append_assoc] at this
      exact this
    | rt d e2 => rw [q] at a2; exact a2
    | _ => rw [q] at a2; exact a2.elim
theorem SW.forE {α : Type} {t : CT} {b : En → S} {dx : α → D} {I : List α → En → Prop} : ∀ {xs : List α} {n : Nat} {pre : List α} {e : En}, I pre e →
    (∀ p x q (i : Nat) e, xs = p ++ x :: q → I (pre ++ p) e → ∃ e1, asg t (.tup [.int i, dx x]) e = some e1 ∧ SW (b e1) (I (pre ++ p ++ [x])) T) → SW (Mi.forL t b (enumD (xs.map dx) n) e) (I (pre ++ xs)) T
  | [], n, pre, e, h0, _ => by
    rw [List.append_nil]; exact h0
  | x :: xs, n, pre, e, h0, hs => by
    obtain ⟨e1, a1, a2⟩ := hs [] x xs n e rfl (by rw [List.append_nil]; exact h0)
    rw [List.append_nil] at a2
    rw [List.map_cons, enumD, Mi.forL, a1]
    dsimp only
    cases q : b e1 with
    | nx e2 =>
      rw [q] at a2
      have := SW.forE (xs := xs) (n := n + 1) (pre := pre ++ [x]) (e := e2) (I := I) (t := t) (b := b) (dx := dx) a2 fun p y q i e hx hi => by
        have := hs (x :: p) y q i e (by rw [hx]; rfl) (by rw [List.append_assoc] at hi; exact hi)
        rw [List.append_assoc pre [x] p]
        exact this
      rw [List.append_assoc] at this
      exact this
    | rt d e2 => rw [q] at a2; exact a2
    | _ => rw [q] at a2; exact a2.elim
theorem SW.fr {α : Type} {t : CT} {it : CI} {b : CSs} {dx : α → D} {xs : List α} {e0 : En} (I : List α → En → Prop) (hi : evI cs cal it e = .ok (.fix (xs.map dx)) e0) (h0 : I [] e0)
    (hs : ∀ p x q e, xs = p ++ x :: q → I p e → ∃ e1, asg t (dx x) e = some e1 ∧ SW (evSs cs cal b e1) (I (p ++ [x])) T) (k : ∀ e, I xs e → SW (evSs cs cal r e) N T) : SW (evSs cs cal (.cons (.fr t it b) r) e) N T := by
  refine SW.seq ?_
  rw [evS_fr, hi]
  exact (SW.forL (pre := []) h0 hs).mono k
theorem SW.frE {α : Type} {t : CT} {it : CI} {b : CSs} {dx : α → D} {xs : List α} {e0 : En} (I : List α → En → Prop) (hi : evI cs cal it e = .ok (.fix (enumD (xs.map dx) 0)) e0) (h0 : I [] e0)
    (hs : ∀ p x q (i : Nat) e, xs = p ++ x :: q → I p e → ∃ e1, asg t (.tup [.int i, dx x]) e = some e1 ∧ SW (evSs cs cal b e1) (I (p ++ [x])) T) (k : ∀ e, I xs e → SW (evSs cs cal r e) N T) : SW (evSs cs cal (.cons (.fr t it b) r) e) N T := by
  refine SW.seq ?_
  rw [evS_fr, hi]
  exact (SW.forE (pre := []) h0 hs).mono k
end
/-- a pure def by its body -/
theorem run_pureW {cs : List D} {fns : List Fn} {n i : Nat} {ds : List D} {st : List Own} {fn : Fn} {d : D} (h : fns[i]? = some fn) (hc : ds.length = fn.np) (hm : fn.md = .pure) (hp : ptrs 0 ds = true)
    (hb : SW (evSs cs (run cs fns n) fn.body ⟨ds.map some ++ List.replicate (fn.ns - fn.np) none, []⟩) (fun e => d = .non) (fun d' e => give 0 e d' = some d)) (hd : ptr 0 d = true) : run cs fns (n + 1) i ds st = .ok d st := by
  rw [run_at h hc fun _ => hp, if_pos hm, hm]
  cases q : evSs cs (run cs fns n) fn.body ⟨ds.map some ++ List.replicate (fn.ns - fn.np) none, []⟩ with
  | nx e =>
    rw [q] at hb
    have hb : d = .non := hb
    subst hb
    rfl
  | rt d' e =>
    rw [q] at hb
    have hb : give 0 e d' = some d := hb
    simp [endOk, cutOk, hb, hd]
  | _ => rw [q] at hb; exact hb.elim
theorem eraseDups_nodup {l : List Str} (h : l.Nodup) : l.eraseDups = l := by
  induction l with
  | nil => rfl
  | cons x l ih =>
    rw [List.nodup_cons] at h
    rw [List.eraseDups_cons]
    have e : l.filter (fun b => !b == x) = l := by
      rw [List.filter_eq_self]
      intro a ha
      have : a ≠ x := fun e => h.1 (e ▸ ha)
      simp [this]
    rw [e, ih h.2]
theorem lenset_ok {l : List Str} (h : l.Nodup) (hl : l.length < 64) : lensetL (l.map .str) = some (.int l.length) := by
  unfold lensetL
  rw [strsOf_map]
  show (if l.length < 64 then _ else _) = _
  rw [if_pos hl, eraseDups_nodup h]
variable {fns : List Fn}
theorem is_set_ok (P : Has fns) {n : Nat} {s : SetT} (h : SetOk s) {st : List Own} : run cs fns (n+5) 10 [s.d] st = .ok (.bl true) st := by
  refine run_pure P.h10 rfl rfl (by simp [ptrs]) (e := ⟨[some s.d, some (.lst (s.targets.map .str)), some (ws s.row), none, none], []⟩) ?_ rfl
  have pe : ptrs 0 (s.ents.map Ent.d) = true := ptrs_map _ fun _ _ => ent_ptr
  have pr : ptrs 0 (s.row.map D.str) = true := ptr_strs
  have q1 : (s.ents.length : Int) ≤ 6 := by have := h.e6; omega
  have q2 : (s.row.length : Int) ≤ 6 := by have := h.r6; omega
  have h2 := is_tuple_of_ok P (n := n+3) (k := 5) (set_ptr (s := s)) (st := [])
  have h3 := is_name_ok P (n := n+3) h.nm (st := [])
  have h4 := are_up_to_ok P (n := n+3) (k := 6) pe (st := [])
  have h5 := are_waiting_ok P (n := n+2) h.a6 h.asl (st := [])
  have h6 := are_waiting_ok P (n := n+2) h.w6 h.wok (st := [])
  have h7 := targets_of_ok P (n := n+3) h.e6 (st := [])
  have h8 := are_up_to_ok P (n := n+3) (k := 6) pr (st := [])
  have tl : s.targets.length ≤ 6 := by rw [SetT.targets, List.length_map]; exact h.e6
  have l1 := lenset_ok h.tn (by omega)
  have l2 := lenset_ok h.rn (by have := h.r6; omega)
  have c1 : evE cs (run cs fns (n + 4)) (.comp (.call 6 (.cons (.var 4) (.nil))) (.nm 4) (.seq (.ix (.var 0) (.int 1))) (.no) [4]) ⟨[some s.d, none, none, none, none], []⟩ = .ok (.lst (s.ents.map fun _ => D.bl true)) ⟨[some s.d, none, none, none, none], []⟩ := by
    refine comp_all (dx := Ent.d) (fun _ => .bl true) ?_ (le8 (by have := h.e6; omega)) fun c hc => ?_
    · simp [SetT.d, srcOf, itemsOf]
    · refine ⟨[some s.d, none, none, none, some c.d], [some s.d, none, none, none, some c.d], by simp [wipeL], ?_⟩
      simp [is_entry_ok P (n := n) (h.ents c hc)]
  have c2 : evE cs (run cs fns (n + 4)) (.comp (.and (.isa .str (.var 3)) (.cons (.cmp .isin (.var 3) (.var 1)) (.nil))) (.nm 3) (.seq (.var 2)) (.no) [3]) ⟨[some s.d, some (.lst (s.targets.map .str)), some (ws s.row), none, none], []⟩ = .ok (.lst (s.row.map fun _ => D.bl true)) ⟨[some s.d, some (.lst (s.targets.map .str)), some (ws s.row), none, none], []⟩ := by
    refine comp_all (dx := D.str) (fun _ => .bl true) ?_ (le8 (by have := h.r6; omega)) fun c hc => ?_
    · simp [ws, srcOf, itemsOf]
    · refine ⟨[some s.d, some (.lst (s.targets.map .str)), some (ws s.row), some (.str c), none], [some s.d, some (.lst (s.targets.map .str)), some (ws s.row), some (.str c), none], by simp [wipeL], ?_⟩
      simp [isIn_strs_l, h.rt c hc]
  have d1 : (deq (.int (s.row.length)) (.int s.row.length)) = some true := by simp [deq_int]
  simp only [SetT.d, ws] at h2 h7 c1 c2 ⊢
  simp [fis_set, h2, h3, h4, h5, h6, h7, h8, q1, q2, c1, c2, all_map, lensetD, l1, l2, d1]
@[simp] theorem bin_add_tup {xs ys : List D} : Mi.bin .add (.tup xs) (.tup ys) = if xs.length + ys.length ≤ sizeLine then some (.tup (xs ++ ys)) else none := rfl
@[simp] theorem bin_add_lst {xs ys : List D} : Mi.bin .add (.lst xs) (.lst ys) = if xs.length + ys.length ≤ sizeLine then some (.lst (xs ++ ys)) else none := rfl
@[simp] theorem bin_add_int {x y : Int} : Mi.bin .add (.int x) (.int y) = some (.int (x + y)) := rfl
@[simp] theorem bin_sub_int {x y : Int} : Mi.bin .sub (.int x) (.int y) = some (.int (x - y)) := rfl
@[simp] theorem appendO_lst {xs : List D} {y : D} : appendO (.lst xs) y = if xs.length < sizeLine then some (.non, .lst (xs ++ [y])) else none := rfl
@[simp] theorem extendO_lst {xs ys : List D} : extendO (.lst xs) (.lst ys) = if xs.length + ys.length ≤ sizeLine then some (.non, .lst (xs ++ ys)) else none := rfl
theorem szl {n : Nat} (h : n ≤ 10000000) : n ≤ sizeLine := Nat.le_trans h (by decide)
theorem szl' {n : Nat} (h : n < 10000000) : n < sizeLine := Nat.lt_of_lt_of_le h (by decide)
theorem waiting_at_ok (P : Has fns) {n : Nat} {s : SetT} (h : SetOk s) {st : List Own} : run cs fns (n+1) 11 [s.d] st = .ok (.lst (s.waiters.map .str)) st := by
  refine run_pure P.h11 rfl rfl (by simp [ptrs]) (e := ⟨[some s.d, none, none], []⟩) ?_ ptr_strs
  have hl : s.asleep.length + s.woken.length ≤ sizeLine := szl (by have := h.a6; have := h.w6; omega)
  have hc : evE cs (run cs fns n) (.comp (.var 1) (.tup [.nm 1, .nm 2]) (.seq (.bin .add (.ix (.var 0) (.int 3)) (.ix (.var 0) (.int 4)))) (.no) [1, 2]) ⟨[some s.d, none, none], []⟩ = .ok (.lst ((s.asleep ++ s.woken).map fun w => D.str w.who)) ⟨[some s.d, none, none], []⟩ := by
    refine comp_all (dx := Wt.d) (fun w => .str w.who) ?_ (by rw [List.length_append]; exact hl) fun c hc => ?_
    · simp [SetT.d, srcOf, itemsOf, hl]
    · refine ⟨[some s.d, some (.str c.who), some (.int c.most)], [some s.d, some (.str c.who), some (.int c.most)], by simp [wipeL, Wt.d], ?_⟩
      simp
  simp [fwaiting_at, hc, SetT.waiters, Function.comp, Function.comp_def]
/-- a hall whose rows may be any -/
structure WebOk (ps : List Pipe) (ss : List SetT) : Prop where
  p4 : ps.length ≤ 4
  s4 : ss.length ≤ 4
  pok : ∀ p ∈ ps, PipeOk p
  sok : ∀ s ∈ ss, SetOk s
  names : (ps.map (·.name) ++ ss.map (·.name)).Nodup
  wn : (ss.flatMap SetT.waiters).Nodup
  w6 : (ss.flatMap SetT.waiters).length ≤ 6
  tg : ∀ s ∈ ss, ∀ e ∈ s.ents, e.target ∈ ps.map (·.name) ++ ss.map (·.name)
  asked : ∀ s ∈ ss, ∀ e ∈ s.ents, e.target ∈ ss.map (·.name) → e.asked = [sIn]
  rank : ∃ r : Str → Nat, (∀ x, r x < 4) ∧ ∀ s ∈ ss, ∀ e ∈ s.ents, e.target ∈ ss.map (·.name) → r e.target < r s.name
theorem pre_nodup {α : Type} {l p q : List α} {x : α} (h : l.Nodup) (e : l = p ++ x :: q) : x ∉ p := by
  rw [e, List.nodup_append] at h
  exact fun hx => h.2.2 x hx x List.mem_cons_self rfl
theorem has_forms_ok (P : Has fns) {n : Nat} {ps : List Pipe} {ss : List SetT} (h : WebOk ps ss) {st : List Own} : run cs fns (n+6) 16 [pipesD ps, setsD ss] st = .ok (.lst ((ps.map (·.name) ++ ss.map (·.name)).map .str)) st := by
  refine run_pureW P.h16 rfl rfl (by simp [ptrs]) ?_ ptr_strs
  simp only [fhas_forms]
  refine SW.nx (e' := ⟨[some (pipesD ps), some (setsD ss), some (.own 0), some (.own 1), none, none], [.lst [], .lst []]⟩) (by simp) ?_
  refine SW.frE (dx := Pipe.d) (xs := ps) (e0 := ⟨[some (pipesD ps), some (setsD ss), some (.own 0), some (.own 1), none, none], [.lst [], .lst []]⟩)
    (fun pre e => ∃ a b, e = ⟨[some (pipesD ps), some (setsD ss), some (.own 0), some (.own 1), a, b], [.lst ((pre.map (·.name)).map .str), .lst []]⟩) (by simp [pipesD, seqOf]) ⟨_, _, rfl⟩ (fun p x q i e hx he => ?_) fun e he => ?_
  · obtain ⟨a, b, rfl⟩ := he
    refine ⟨⟨[some (pipesD ps), some (setsD ss), some (.own 0), some (.own 1), some (.int i), some x.d], [.lst ((p.map (·.name)).map .str), .lst []]⟩, by simp, ?_⟩
    have h1 := fun st => is_pipe_ok P (n := n + 3) (h.pok x (by rw [hx]; simp)) (st := st)
    have h2 : x.name ∉ p.map (·.name) := by
      refine pre_nodup (q := q.map (·.name) ++ ss.map (·.name)) h.names ?_
      rw [hx]; simp
    have h3 := isIn_strs_l (x := x.name) (l := p.map (·.name))
    rw [decide_eq_false h2] at h3
    have hl : p.length < sizeLine := szl' (by have := h.p4; rw [hx] at this; simp at this; omega)
    simp only [Pipe.d] at h1 ⊢
    refine SW.nx (e' := ⟨[some (pipesD ps), some (setsD ss), some (.own 0), some (.own 1), some (.int i), some x.d], [.lst ((p.map (·.name)).map .str), .lst []]⟩) ?_ ?_
    · simp [h1, h3, Pipe.d, -List.map_map]
    refine SW.nx (e' := ⟨[some (pipesD ps), some (setsD ss), some (.own 0), some (.own 1), some (.int i), some x.d], [.lst (((p ++ [x]).map (·.name)).map .str), .lst []]⟩) ?_ ?_
    · simp [hl, Pipe.d]
    exact ⟨_, _, rfl⟩
  obtain ⟨a, b, rfl⟩ := he
  refine SW.frE (dx := SetT.d) (xs := ss) (e0 := ⟨[some (pipesD ps), some (setsD ss), some (.own 0), some (.own 1), a, b], [.lst ((ps.map (·.name)).map .str), .lst []]⟩)
    (fun pre e => ∃ a b, e = ⟨[some (pipesD ps), some (setsD ss), some (.own 0), some (.own 1), a, b], [.lst ((ps.map (·.name) ++ pre.map (·.name)).map .str), .lst ((pre.flatMap SetT.waiters).map .str)]⟩) (by simp [setsD, seqOf]) ⟨a, b, by simp⟩ (fun p x q i e hx he => ?_) fun e he => ?_
  · obtain ⟨a, b, rfl⟩ := he
    refine ⟨⟨[some (pipesD ps), some (setsD ss), some (.own 0), some (.own 1), some (.int i), some x.d], [.lst ((ps.map (·.name) ++ p.map (·.name)).map .str), .lst ((p.flatMap SetT.waiters).map .str)]⟩, by simp, ?_⟩
    have hxs : x ∈ ss := by rw [hx]; simp
    have h1 := fun st => is_set_ok P (n := n) (h.sok x hxs) (st := st)
    have h2 : x.name ∉ ps.map (·.name) ++ p.map (·.name) := by
      refine pre_nodup (q := q.map (·.name)) h.names ?_
      rw [hx]; simp
    have h3 := isIn_strs_l (x := x.name) (l := ps.map (·.name) ++ p.map (·.name))
    rw [decide_eq_false h2] at h3
    have hl : ps.length + p.length < sizeLine := szl' (by have := h.p4; have := h.s4; rw [hx] at this; simp at this; omega)
    have hw : ((p ++ [x]).flatMap SetT.waiters).length ≤ 6 := by
      have := h.w6
      rw [hx, show p ++ x :: q = (p ++ [x]) ++ q by simp, List.flatMap_append, List.length_append] at this
      omega
    have hn : ((p ++ [x]).flatMap SetT.waiters).Nodup := by
      have := h.wn
      rw [hx, show p ++ x :: q = (p ++ [x]) ++ q by simp, List.flatMap_append, List.nodup_append] at this
      exact this.1
    have hl2 : (p.flatMap SetT.waiters).length + x.waiters.length ≤ sizeLine := by
      rw [List.flatMap_append, List.length_append] at hw
      simp at hw
      exact szl (by simp; omega)
    have h4 := fun st => waiting_at_ok P (n := n + 4) (h.sok x hxs) (st := st)
    have h5 := lenset_ok hn (by omega)
    refine SW.nx (e' := ⟨[some (pipesD ps), some (setsD ss), some (.own 0), some (.own 1), some (.int i), some x.d], [.lst ((ps.map (·.name) ++ p.map (·.name)).map .str), .lst ((p.flatMap SetT.waiters).map .str)]⟩) ?_ ?_
    · simp only [SetT.d] at h1 ⊢
      simp [h1, h3, -List.map_map, -List.map_append]
    refine SW.nx (e' := ⟨[some (pipesD ps), some (setsD ss), some (.own 0), some (.own 1), some (.int i), some x.d], [.lst ((ps.map (·.name) ++ (p ++ [x]).map (·.name)).map .str), .lst ((p.flatMap SetT.waiters).map .str)]⟩) ?_ ?_
    · simp [hl, SetT.d]
    refine SW.nx (e' := ⟨[some (pipesD ps), some (setsD ss), some (.own 0), some (.own 1), some (.int i), some x.d], [.lst ((ps.map (·.name) ++ (p ++ [x]).map (·.name)).map .str), .lst (((p ++ [x]).flatMap SetT.waiters).map .str)]⟩) ?_ ?_
    · simp [h4, hl2, -List.map_map, -List.length_flatMap]
    refine SW.nx (e' := ⟨[some (pipesD ps), some (setsD ss), some (.own 0), some (.own 1), some (.int i), some x.d], [.lst ((ps.map (·.name) ++ (p ++ [x]).map (·.name)).map .str), .lst (((p ++ [x]).flatMap SetT.waiters).map .str)]⟩) ?_ ?_
    · have hw' : (((p ++ [x]).flatMap SetT.waiters).length : Int) ≤ 6 := by omega
      generalize (p ++ [x]).flatMap SetT.waiters = L at *
      have hd : decide ((6 : Int) < L.length) = false := decide_eq_false (by omega)
      simp [lensetD, h5, hd]
    exact ⟨_, _, rfl⟩
  obtain ⟨a, b, rfl⟩ := he
  refine SW.rt (d := .own 0) (e' := ⟨[some (pipesD ps), some (setsD ss), some (.own 0), some (.own 1), a, b], [.lst ((ps.map (·.name) ++ ss.map (·.name)).map .str), .lst ((ss.flatMap SetT.waiters).map .str)]⟩) (by simp) ?_
  simp [give]
/-! ### below -/
/-- the targets of the set of this name (none of what is no set) -/
def tgs (ss : List SetT) (x : Str) : List Str := match ss.find? fun s => decide (s.name = x) with
  | some s => s.targets
  | none => []
inductive Reach (ss : List SetT) (x : Str) : Str → Prop where
  | one {t : Str} (h : t ∈ tgs ss x) : Reach ss x t
  | more {t u : Str} (h : Reach ss x t) (h2 : u ∈ tgs ss t) : Reach ss x u
end Mi.A
end

section
set_option Elab.async false
set_option linter.all false
set_option maxRecDepth 100000
set_option maxHeartbeats 4000000
/-! A5: dicts, whiles; below. -/
namespace Mi.A
open PySem L2
/-! ### dicts -/
theorem dget_map {α β : Type} {f : α → Str} {g : α → β} {x : Str} : ∀ {xs : List α}, dget (xs.map fun a => ((.inr (f a) : Key), g a)) (.inr x) = (xs.find? fun a => decide (f a = x)).map g
  | [] => rfl
  | a :: xs => by
    have ih := dget_map (f := f) (g := g) (x := x) (xs := xs)
    unfold dget at ih ⊢
    rw [List.map_cons, List.find?_cons, List.find?_cons]
    by_cases h : f a = x
    · simp [h]
    · have : ¬((Sum.inr (f a) : Key) = .inr x) := fun e => h (Sum.inr.inj e)
      simp only [h, this, decide_false]
      exact ih
theorem dput_new {α : Type} {kvs : List (Key × α)} {k : Key} {v : α} (h : k ∉ kvs.map (·.1)) : dput kvs k v = kvs ++ [(k, v)] := by
  unfold dput
  rw [if_neg]
  intro z
  rw [List.any_eq_true] at z
  obtain ⟨kv, h1, h2⟩ := z
  exact h (List.mem_map.mpr ⟨kv, h1, of_decide_eq_true h2⟩)
theorem dmerge_new {α : Type} : ∀ {more kvs : List (Key × α)}, ((kvs ++ more).map (·.1)).Nodup → dmerge kvs more = kvs ++ more
  | [], kvs, _ => by simp [dmerge]
  | (k, v) :: more, kvs, h => by
    have h1 : k ∉ kvs.map (·.1) := by
      rw [List.map_append] at h
      exact pre_nodup (q := more.map (·.1)) h rfl
    have := dmerge_new (more := more) (kvs := kvs ++ [(k, v)]) (by rw [List.append_assoc]; exact h)
    unfold dmerge at this ⊢
    rw [List.foldl_cons, dput_new h1, this, List.append_assoc]
    rfl
theorem dmerge_nil {α : Type} {more : List (Key × α)} (h : (more.map (·.1)).Nodup) : dmerge [] more = more := dmerge_new h
theorem keys_nodup {α β : Type} {f : α → Str} {g : α → β} {xs : List α} (h : (xs.map f).Nodup) : ((xs.map fun a => ((.inr (f a) : Key), g a)).map (·.1)).Nodup := by
  rw [List.map_map]
  have : (Prod.fst ∘ fun a => ((.inr (f a) : Key), g a)) = fun a => (.inr (f a) : Key) := rfl
  rw [this, show (xs.map fun a => (.inr (f a) : Key)) = (xs.map f).map Sum.inr by rw [List.map_map]; rfl]
  exact List.Pairwise.map _ (fun a b hab e => hab (Sum.inr.inj e)) h
/-- a dict comprehension that keeps the store -/
theorem dcomp_all {cs : List D} {cal : Cal} {α : Type} {k v : CE} {tg : CT} {it : CI} {vs : List Nat} {e : En} {dx : α → D} {xs : List α} (f : α → Str) (g : α → D) (hi : evI cs cal it e = .ok (.fix (xs.map dx)) e) (hl : xs.length ≤ sizeLine)
    (hn : (xs.map f).Nodup) (h : ∀ x ∈ xs, ∃ vs1 vs2 vs3, asg tg (dx x) ⟨wipeL e.vs vs, e.st⟩ = some ⟨vs1, e.st⟩ ∧ evE cs cal k ⟨vs1, e.st⟩ = .ok (.str (f x)) ⟨vs2, e.st⟩ ∧ evE cs cal v ⟨vs2, e.st⟩ = .ok (g x) ⟨vs3, e.st⟩) :
    evE cs cal (.dcomp k v tg it .no vs) e = .ok (.dic (xs.map fun a => (.inr (f a), g a))) e := by
  rw [evE_dcomp, hi, bind_ok]
  simp only [turnsS]
  rw [turns_map (dx := dx) (g := fun x => some ((.inr (f x) : Key), g x))]
  · rw [bind_ok, filterMap_some', if_pos (by rw [List.length_map]; exact hl), dmerge_nil (keys_nodup hn)]
  · intro x hx
    obtain ⟨vs1, vs2, vs3, h1, h2, h3⟩ := h x hx
    exact ⟨vs3, by simp only [h1, evT_no, bind_ok, h2, h3, if_true, dk_str]⟩
/-! ### while -/
theorem SW.whileL {T : D → En → Prop} {N : En → Prop} {c : En → R Bool} {b : En → S} (I : Nat → En → Prop)
    (hs : ∀ m e, I m e → ∃ v e1, c e = .ok v e1 ∧ (v = false → N e1) ∧ (v = true → SW (b e1) (fun e2 => ∃ m', m' < m ∧ I m' e2) T)) : ∀ {n m : Nat} {e : En}, I m e → m < n → SW (Mi.whileL c b n e) N T
  | 0, m, e, _, h => absurd h (Nat.not_lt_zero _)
  | n + 1, m, e, hi, hm => by
    obtain ⟨v, e1, h1, h2, h3⟩ := hs m e hi
    rw [Mi.whileL, h1]
    cases v with
    | false => exact h2 rfl
    | true =>
      have h3 := h3 rfl
      dsimp only
      cases q : b e1 with
      | nx e2 =>
        rw [q] at h3
        obtain ⟨m', l, h4⟩ := h3
        exact SW.whileL I hs h4 (by omega)
      | rt d e2 => rw [q] at h3; exact h3
      | _ => rw [q] at h3; exact h3.elim
theorem SW.whil {cs : List D} {cal : Cal} {c : CE} {b r : CSs} {e : En} {T : D → En → Prop} {N : En → Prop} (I : Nat → En → Prop) {m : Nat} (h0 : I m e) (hm : m < fuel)
    (hs : ∀ m e, I m e → ∃ v e1, ((evE cs cal c e).bind fun x e => .of ((res e x).bind truth) e) = .ok v e1 ∧ (v = false → SW (evSs cs cal r e1) N T) ∧ (v = true → SW (evSs cs cal b e1) (fun e2 => ∃ m', m' < m ∧ I m' e2) T)) :
    SW (evSs cs cal (.cons (.whil c b) r) e) N T := by
  refine SW.seq ?_
  rw [evS_whil]
  exact SW.whileL I hs h0 hm
theorem SW.cond {cs : List D} {cal : Cal} {c : CE} {a b r : CSs} {e e1 : En} {v : Bool} {T : D → En → Prop} {N : En → Prop} (h : ((evE cs cal c e).bind fun x e => .of ((res e x).bind truth) e) = .ok v e1)
    (k : SW (evSs cs cal (if v = true then a else b) e1) (fun e' => SW (evSs cs cal r e') N T) T) : SW (evSs cs cal (.cons (.cond c a b) r) e) N T := by
  refine SW.seq ?_
  rw [evS_cond]
  cases q : evE cs cal c e with
  | ok x e2 =>
    rw [q, bind_ok] at h
    cases q2 : (res e2 x).bind truth with
    | none => rw [q2] at h; cases h
    | some b' =>
      rw [q2] at h
      cases h
      rw [s_ok, q2]
      cases v <;> exact k
  | exc x e2 => rw [q] at h; cases h
  | er => rw [q] at h; cases h
theorem SW.condT {cs : List D} {cal : Cal} {c : CE} {a b r : CSs} {e e1 : En} {T : D → En → Prop} {N : En → Prop} (h : ((evE cs cal c e).bind fun x e => .of ((res e x).bind truth) e) = .ok true e1)
    (k : SW (evSs cs cal a e1) (fun e' => SW (evSs cs cal r e') N T) T) : SW (evSs cs cal (.cons (.cond c a b) r) e) N T := SW.cond h k
theorem SW.condF {cs : List D} {cal : Cal} {c : CE} {a b r : CSs} {e e1 : En} {T : D → En → Prop} {N : En → Prop} (h : ((evE cs cal c e).bind fun x e => .of ((res e x).bind truth) e) = .ok false e1)
    (k : SW (evSs cs cal b e1) (fun e' => SW (evSs cs cal r e') N T) T) : SW (evSs cs cal (.cons (.cond c a b) r) e) N T := SW.cond h k
/-! ### below -/
structure SetsOk (ss : List SetT) : Prop where
  s4 : ss.length ≤ 4
  sok : ∀ s ∈ ss, SetOk s
  names : (ss.map (·.name)).Nodup
theorem WebOk.sets {ps : List Pipe} {ss : List SetT} (h : WebOk ps ss) : SetsOk ss := ⟨h.s4, h.sok, by
  have := h.names
  rw [List.nodup_append] at this
  exact this.2.1⟩
theorem tgs_mem {ss : List SetT} {x t : Str} (h : t ∈ tgs ss x) : ∃ s ∈ ss, s.name = x ∧ t ∈ s.targets := by
  unfold tgs at h
  cases q : ss.find? fun s => decide (s.name = x) with
  | none => rw [q] at h; cases h
  | some s =>
    rw [q] at h
    exact ⟨s, List.mem_of_find?_eq_some q, by simpa using List.find?_some q, h⟩
theorem tgs_of {ss : List SetT} (h : (ss.map (·.name)).Nodup) {s : SetT} (hs : s ∈ ss) : tgs ss s.name = s.targets := by
  induction ss with
  | nil => cases hs
  | cons u ss ih =>
    rw [List.map_cons, List.nodup_cons] at h
    unfold tgs
    rw [List.find?_cons]
    by_cases e : u.name = s.name
    · rcases List.mem_cons.mp hs with rfl | hs
      · simp
      · exact absurd (List.mem_map.mpr ⟨s, hs, e.symm⟩) h.1
    · rcases List.mem_cons.mp hs with rfl | hs
      · exact absurd rfl e
      · simp only [e, decide_false]
        exact ih h.2 hs
theorem tgs_len {ss : List SetT} (h : SetsOk ss) (x : Str) : (tgs ss x).length ≤ 6 := by
  unfold tgs
  cases q : ss.find? fun s => decide (s.name = x) with
  | none => simp
  | some s =>
    show s.targets.length ≤ 6
    rw [SetT.targets, List.length_map]
    exact (h.sok s (List.mem_of_find?_eq_some q)).e6
theorem SetOk.pl {s : SetT} (h : SetOk s) : ∀ t ∈ s.targets, Pl t := fun t ht => by
  obtain ⟨e, he, rfl⟩ := List.mem_map.mp ht
  exact (h.ents e he).nm.pl
theorem tgs_pl {ss : List SetT} (h : SetsOk ss) {x t : Str} (ht : t ∈ tgs ss x) : Pl t := by
  obtain ⟨s, hs, _, h2⟩ := tgs_mem ht
  exact (h.sok s hs).pl t h2
theorem all_tgs_len {ss : List SetT} (h : SetsOk ss) : (ss.flatMap SetT.targets).length ≤ 24 := by
  have : ∀ l : List SetT, (∀ s ∈ l, SetOk s) → (l.flatMap SetT.targets).length ≤ 6 * l.length := by
    intro l
    induction l with
    | nil => intro _; simp
    | cons s l ih =>
      intro hl
      have h1 := ih fun u hu => hl u (List.mem_cons_of_mem _ hu)
      have h2 := (hl s List.mem_cons_self).e6
      rw [List.flatMap_cons, List.length_append, List.length_cons, SetT.targets, List.length_map]
      omega
  have h1 := this ss h.sok
  have h2 := h.s4
  omega
theorem reach_in {ss : List SetT} {x t : Str} (h : Reach ss x t) : t ∈ ss.flatMap SetT.targets := by
  have : ∃ y, t ∈ tgs ss y := by cases h with
    | one h => exact ⟨_, h⟩
    | more _ h => exact ⟨_, h⟩
  obtain ⟨y, hy⟩ := this
  obtain ⟨s, hs, _, h2⟩ := tgs_mem hy
  exact List.mem_flatMap.mpr ⟨s, hs, h2⟩
@[simp] theorem mtTy_get2 {kvs : List (Key × D)} : mtTy .get2 (some (.dic kvs)) = true := rfl
@[simp] theorem argm_get2 {e : En} {ds : List D} : argm .get2 e ds = some ds := rfl
@[simp] theorem mt_get2 {kvs : List (Key × D)} {x : Str} {d : D} : Mi.mt .get2 (.dic kvs) [.str x, d] = some ((dget kvs (.inr x)).getD d) := rfl
def tdic (ss : List SetT) : List (Key × D) := ss.map fun s => (.inr s.name, .lst (s.targets.map .str))
theorem tdic_get {ss : List SetT} {x : Str} : (dget (tdic ss) (.inr x)).getD (.lst []) = .lst ((tgs ss x).map .str) := by
  unfold tdic
  rw [dget_map]
  unfold tgs
  cases ss.find? fun s => decide (s.name = x) <;> rfl
theorem popO_lst {l : List D} {y : D} : popO (.lst (l ++ [y])) = some (y, .lst l) := by
  simp [popO]
def fdic (fs : List Str) : List (Key × D) := fs.map fun t => (.inr t, .bl true)
theorem fdic_in {fs : List Str} {x : Str} : isIn (.str x) (.dic (fdic fs)) = some (decide (x ∈ fs)) := by
  show some ((dget (fdic fs) (.inr x)).isSome) = _
  unfold fdic
  rw [dget_map (f := fun t => t)]
  congr 1
  rw [Option.isSome_map, Bool.eq_iff_iff, List.find?_isSome]
  simp
@[simp] theorem setIt_dic {kvs : List (Key × D)} {x : Str} {v : D} : setIt (.dic kvs) (.str x) v = if kvs.length < sizeLine then some (.dic (dput kvs (.inr x) v)) else none := rfl
theorem fdic_put {fs : List Str} {x : Str} (h : x ∉ fs) : dput (fdic fs) (.inr x) (.bl true) = fdic (fs ++ [x]) := by
  rw [dput_new]
  · simp [fdic]
  · intro z
    obtain ⟨kv, h1, h2⟩ := List.mem_map.mp z
    obtain ⟨t, ht, rfl⟩ := List.mem_map.mp h1
    exact h (Sum.inr.inj h2 ▸ ht)
variable {fns : List Fn}
theorem sortS_mem {x : Str} {l : List Str} : x ∈ sortS l ↔ x ∈ l := (List.mergeSort_perm l leS).mem_iff
theorem sortS_len {l : List Str} : (sortS l).length = l.length := (List.mergeSort_perm l leS).length_eq
theorem below_W (P : Has fns) {n : Nat} {ss : List SetT} (h : SetsOk ss) (x : Str) : SW (evSs cs (run cs fns (n+1)) fbelow.body ⟨[some (setsD ss), some (.str x), none, none, none, none, none], []⟩) (fun _ => False) fun d e => ∃ fs : List Str, fs.Nodup ∧ (∀ t, t ∈ fs ↔ Reach ss x t) ∧ d = ws (sortS fs) := by
  have c1 : evE cs (run cs fns (n + 1)) (.dcomp (.ix (.var 6) (.int 0)) (.call 9 (.cons (.var 6) (.nil))) (.nm 6) (.seq (.var 0)) (.no) [6]) ⟨[some (setsD ss), some (.str x), none, none, none, none, none], []⟩ = .ok (.dic (tdic ss)) ⟨[some (setsD ss), some (.str x), none, none, none, none, none], []⟩ := by
    refine dcomp_all (dx := SetT.d) (fun s => s.name) (fun s => .lst (s.targets.map .str)) (by simp [setsD, srcOf, itemsOf]) (szl (by have := h.s4; omega)) h.names fun s hs => ?_
    refine ⟨[some (setsD ss), some (.str x), none, none, none, none, some s.d], [some (setsD ss), some (.str x), none, none, none, none, some s.d], [some (setsD ss), some (.str x), none, none, none, none, some s.d], by simp [wipeL], by simp [SetT.d], ?_⟩
    simp [targets_of_ok P (n := n) (h.sok s hs).e6]
  simp only [fbelow]
  refine SW.nx (e' := ⟨[some (setsD ss), some (.str x), some (.dic (tdic ss)), none, none, none, none], []⟩) (by simp [c1]) ?_
  refine SW.nx (e' := ⟨[some (setsD ss), some (.str x), some (.dic (tdic ss)), some (.own 0), none, none, none], [.dic []]⟩) (by simp [dmerge]) ?_
  refine SW.nx (e' := ⟨[some (setsD ss), some (.str x), some (.dic (tdic ss)), some (.own 0), some (.own 1), none, none], [.dic [], .lst ((tgs ss x).map .str)]⟩) (by simp [tdic_get]) ?_
  have univ : ∀ fs : List Str, fs.Nodup → (∀ t ∈ fs, Reach ss x t) → fs.length ≤ 24 := fun fs hn hr => Nat.le_trans (nodup_len hn fun t ht => reach_in (hr t ht)) (all_tgs_len h)
  refine SW.whil (m := (tgs ss x).length + 7 * (24 - 0)) (fun m e => ∃ (l fs : List Str) (a : Option D), e = ⟨[some (setsD ss), some (.str x), some (.dic (tdic ss)), some (.own 0), some (.own 1), a, none], [.dic (fdic fs), .lst (l.map .str)]⟩ ∧ fs.Nodup ∧ (∀ t ∈ fs, Reach ss x t) ∧ (∀ t ∈ l, Reach ss x t) ∧
    (∀ t ∈ tgs ss x, t ∈ fs ∨ t ∈ l) ∧ (∀ f ∈ fs, ∀ t ∈ tgs ss f, t ∈ fs ∨ t ∈ l) ∧ l.length + 7 * (24 - fs.length) ≤ m ∧ m ≤ 1000) ⟨_, [], none, rfl, List.nodup_nil, by simp, fun t ht => .one ht, fun t ht => .inr ht, by simp, by simp, by have := tgs_len h x; omega⟩ (by have := tgs_len h x; simp [fuel]; omega) fun m e hi => ?_
  obtain ⟨l, fs, a, rfl, i1, i2, i3, i4, i5, i6, i7⟩ := hi
  have lpl : ∀ t ∈ l, Pl t := fun t ht => by
    cases i3 t ht with
    | one h1 => exact tgs_pl h h1
    | more _ h1 => exact tgs_pl h h1
  have hd := deq_strs lpl (y := []) (by simp)
  simp only [List.map_nil] at hd
  refine ⟨!decide (l = []), ⟨[some (setsD ss), some (.str x), some (.dic (tdic ss)), some (.own 0), some (.own 1), a, none], [.dic (fdic fs), .lst (l.map .str)]⟩, by simp [hd], fun e => ?_, fun e => ?_⟩
  · have : l = [] := by simpa using e
    subst this
    have hl := univ fs i1 i2
    refine SW.rt (d := ws (sortS fs)) (e' := ⟨[some (setsD ss), some (.str x), some (.dic (tdic ss)), some (.own 0), some (.own 1), a, none], [.dic (fdic fs), .lst []]⟩) ?_ ⟨fs, i1, fun t => ⟨i2 t, fun r => ?_⟩, rfl⟩
    · have e1 : (fdic fs).map (fun kv => kd kv.1) = fs.map .str := by
        rw [fdic, List.map_map]; rfl
      have e2 : fs.length < 64 := by omega
      simp [sortedD, e1, sortedL, strsOf_map, e2, ws]
    · induction r with
      | one h1 => exact (i4 _ h1).resolve_right (by simp)
      | more _ h2 ih => exact (i5 _ ih _ h2).resolve_right (by simp)
  · have hne : l ≠ [] := by simpa using e
    obtain ⟨l, t, rfl⟩ : ∃ l' t, l = l' ++ [t] := ⟨l.dropLast, l.getLast hne, (List.dropLast_concat_getLast hne).symm⟩
    have rt := i3 t (by simp)
    refine SW.nx (e' := ⟨[some (setsD ss), some (.str x), some (.dic (tdic ss)), some (.own 0), some (.own 1), some (.str t), none], [.dic (fdic fs), .lst (l.map .str)]⟩) ?_ ?_
    · simp [popO_lst]
    simp only [List.length_append, List.length_singleton] at i6 i7
    by_cases hf : t ∈ fs
    · have f1 := fdic_in (fs := fs) (x := t)
      rw [decide_eq_true hf] at f1
      refine SW.nx (e' := ⟨[some (setsD ss), some (.str x), some (.dic (tdic ss)), some (.own 0), some (.own 1), some (.str t), none], [.dic (fdic fs), .lst (l.map .str)]⟩) (by simp [f1]) ?_
      refine ⟨l.length + 7 * (24 - fs.length), by omega, l, fs, _, rfl, i1, i2, fun u hu => i3 u (by simp [hu]), fun u hu => ?_, fun f hf' u hu => ?_, Nat.le_refl _, by omega⟩
      · rcases i4 u hu with z | z
        · exact .inl z
        · simp at z
          rcases z with z | rfl
          · exact .inr z
          · exact .inl hf
      · rcases i5 f hf' u hu with z | z
        · exact .inl z
        · simp at z
          rcases z with z | rfl
          · exact .inr z
          · exact .inl hf
    · have f1 := fdic_in (fs := fs) (x := t)
      rw [decide_eq_false hf] at f1
      have n1 : (fs ++ [t]).Nodup := by
        rw [List.nodup_append]
        exact ⟨i1, by simp, fun a ha b hb e' => by simp at hb; exact hf (hb ▸ e' ▸ ha)⟩
      have r1 : ∀ u ∈ fs ++ [t], Reach ss x u := fun u hu => by
        simp at hu
        rcases hu with hu | rfl
        · exact i2 u hu
        · exact rt
      have u1 := univ _ n1 r1
      simp at u1
      have sz : (fdic fs).length < sizeLine := szl' (by simp [fdic]; omega)
      have tl := tgs_len h t
      have sz2 : l.length + (tgs ss t).length ≤ sizeLine := szl (by omega)
      have hp := fdic_put hf
      refine SW.nx (e' := ⟨[some (setsD ss), some (.str x), some (.dic (tdic ss)), some (.own 0), some (.own 1), some (.str t), none], [.dic (fdic (fs ++ [t])), .lst ((l ++ tgs ss t).map .str)]⟩) (by simp [f1, sz, hp, tdic_get, sz2]) ?_
      refine ⟨(l ++ tgs ss t).length + 7 * (24 - (fs ++ [t]).length), by simp; omega, _, _, _, rfl, n1, r1, fun u hu => ?_, fun u hu => ?_, fun f hf' u hu => ?_, Nat.le_refl _, by simp; omega⟩
      · rcases List.mem_append.mp hu with hu | hu
        · exact i3 u (by simp [hu])
        · exact .more rt hu
      · rcases i4 u hu with z | z
        · exact .inl (by simp [z])
        · simp at z
          rcases z with z | rfl
          · exact .inr (by simp [z])
          · exact .inl (by simp)
      · simp at hf'
        rcases hf' with hf' | rfl
        · rcases i5 f hf' u hu with z | z
          · exact .inl (by simp [z])
          · simp at z
            rcases z with z | rfl
            · exact .inr (by simp [z])
            · exact .inl (by simp)
        · exact .inr (by simp [hu])
theorem below_ok (P : Has fns) {n : Nat} {ss : List SetT} (h : SetsOk ss) (x : Str) : ∃ fs : List Str, fs.Nodup ∧ (∀ t, t ∈ fs ↔ Reach ss x t) ∧ ∀ st, run cs fns (n+2) 15 [setsD ss, .str x] st = .ok (ws (sortS fs)) st := by
  have key := below_W P (n := n) h x
  cases q : evSs cs (run cs fns (n+1)) fbelow.body ⟨[some (setsD ss), some (.str x), none, none, none, none, none], []⟩ with
  | rt d e =>
    rw [q] at key
    obtain ⟨fs, a, b, c⟩ := key
    refine ⟨fs, a, b, fun st => run_pure P.h15 rfl rfl (by simp [ptrs, ptr]) (e := e) ?_ ptr_ws⟩
    rw [← c]
    exact q
  | _ => rw [q] at key; exact key.elim
end Mi.A
end

section
set_option Elab.async false
set_option linter.all false
set_option maxRecDepth 100000
set_option maxHeartbeats 4000000
/-! A6: need_webs; words that are so, what is due. -/
namespace Mi.A
open PySem L2
theorem reach_rank {ss : List SetT} {r : Str → Nat} (hr : ∀ s ∈ ss, ∀ e ∈ s.ents, e.target ∈ ss.map (·.name) → r e.target < r s.name) {x t : Str} (h : Reach ss x t) : t ∈ ss.map (·.name) → r t < r x := by
  have one : ∀ {x t : Str}, t ∈ tgs ss x → x ∈ ss.map (·.name) ∧ (t ∈ ss.map (·.name) → r t < r x) := fun {x t} h => by
    obtain ⟨s, hs, h1, h2⟩ := tgs_mem h
    obtain ⟨e, he, rfl⟩ := List.mem_map.mp h2
    exact ⟨List.mem_map.mpr ⟨s, hs, h1⟩, fun z => h1 ▸ hr s hs e he z⟩
  induction h with
  | one h1 => exact (one h1).2
  | more h1 h2 ih =>
    intro z
    have a := one h2
    exact Nat.lt_trans (a.2 z) (ih a.1)
theorem deq_in {l : List Str} (h : l = [sIn]) : deq (ws l) (.tup [.str sIn]) = some true := by
  subst h
  rw [show D.tup [.str sIn] = ws [sIn] from rfl, deq_ws (by intro z hz; exact pl_words z (by simp at hz; simp [words, hz])) (by intro z hz; exact pl_words z (by simp at hz; simp [words, hz]))]
  simp
variable {fns : List Fn}
theorem need_webs_ok (P : Has fns) {n : Nat} {ps : List Pipe} {ss : List SetT} (h : WebOk ps ss) {st : List Own} : run cs fns (n+7) 17 [pipesD ps, setsD ss] st = .ok .non st := by
  refine run_pureW P.h17 rfl rfl (by simp [ptrs]) ?_ rfl
  have q1 : (ps.length : Int) ≤ 4 := by have := h.p4; omega
  have q2 : (ss.length : Int) ≤ 4 := by have := h.s4; omega
  have h1 := fun st => are_up_to_ok P (n := n+5) (k := 4) (show ptrs 0 (ps.map Pipe.d) = true from pipes_ptr) (st := st)
  have h2 := fun st => are_up_to_ok P (n := n+5) (k := 4) (show ptrs 0 (ss.map SetT.d) = true from sets_ptr) (st := st)
  have h3 := fun st => has_forms_ok P (n := n) h (st := st)
  simp only [fneed_webs]
  simp only [List.map_append] at h3
  obtain ⟨names, hnm⟩ : ∃ l, l = ps.map (·.name) ++ ss.map (·.name) := ⟨_, rfl⟩
  obtain ⟨own, hown⟩ : ∃ l, l = ss.map (·.name) := ⟨_, rfl⟩
  rw [← List.map_append] at h3
  rw [← hnm] at h3
  refine SW.nx (e' := ⟨[some (pipesD ps), some (setsD ss), none, none, none, none, none, none, none, none, none], []⟩) ?_ ?_
  · simp only [pipesD, setsD]
    simp [h1, h2, q1, q2]
  refine SW.nx (e' := ⟨[some (pipesD ps), some (setsD ss), some (.lst (names.map .str)), none, none, none, none, none, none, none, none], []⟩) (by simp [h3]) ?_
  have c1 : evE cs (run cs fns (n + 6)) (.comp (.ix (.var 5) (.int 0)) (.nm 5) (.seq (.var 1)) (.no) [5]) ⟨[some (pipesD ps), some (setsD ss), some (.lst (names.map .str)), none, none, none, none, none, none, none, none], []⟩ = .ok (.lst (ss.map fun s => .str s.name)) ⟨[some (pipesD ps), some (setsD ss), some (.lst (names.map .str)), none, none, none, none, none, none, none, none], []⟩ := by
    refine comp_all (dx := SetT.d) (fun s => .str s.name) (by simp [setsD, srcOf, itemsOf]) (szl (by have := h.s4; omega)) fun s hs => ?_
    exact ⟨_, _, by simp [wipeL]; rfl, by simp [SetT.d]; rfl⟩
  have e1 : (ss.map fun s => D.str s.name) = own.map .str := by rw [hown, List.map_map]; rfl
  rw [e1] at c1
  refine SW.nx (e' := ⟨[some (pipesD ps), some (setsD ss), some (.lst (names.map .str)), some (.lst (own.map .str)), none, none, none, none, none, none, none], []⟩) (by simp [c1]) ?_
  refine SW.frE (dx := SetT.d) (xs := ss) (e0 := ⟨[some (pipesD ps), some (setsD ss), some (.lst (names.map .str)), some (.lst (own.map .str)), none, none, none, none, none, none, none], []⟩)
    (fun pre e => ∃ a b c d f g k, e = ⟨[some (pipesD ps), some (setsD ss), some (.lst (names.map .str)), some (.lst (own.map .str)), a, b, c, d, f, g, k], []⟩) (by simp [setsD, seqOf]) ⟨_, _, _, _, _, _, _, rfl⟩ (fun p s q i e hx he => ?_) fun e he => ?_
  · obtain ⟨a, b, c, d, f, g, k, rfl⟩ := he
    refine ⟨⟨[some (pipesD ps), some (setsD ss), some (.lst (names.map .str)), some (.lst (own.map .str)), some (.int i), some s.d, c, d, f, g, k], []⟩, by simp, ?_⟩
    have hs : s ∈ ss := by rw [hx]; simp
    refine SW.fr (dx := Ent.d) (xs := s.ents) (e0 := ⟨[some (pipesD ps), some (setsD ss), some (.lst (names.map .str)), some (.lst (own.map .str)), some (.int i), some s.d, c, d, f, g, k], []⟩)
      (fun pre e => ∃ c d f g k, e = ⟨[some (pipesD ps), some (setsD ss), some (.lst (names.map .str)), some (.lst (own.map .str)), some (.int i), some s.d, c, d, f, g, k], []⟩) (by simp [SetT.d, srcOf, itemsOf]) ⟨_, _, _, _, _, rfl⟩ (fun p en q e hx he => ?_) fun e he => ?_
    · obtain ⟨c, d, f, g, k, rfl⟩ := he
      have hen : en ∈ s.ents := by rw [hx]; simp
      refine ⟨⟨[some (pipesD ps), some (setsD ss), some (.lst (names.map .str)), some (.lst (own.map .str)), some (.int i), some s.d, some (.bl en.on), some (ws en.fresh), some (.str en.target), some (ws en.asked), some (.lst [.str (mode en.edge), .bl en.once, .bl en.alone])], []⟩, by simp [Ent.d, Ent.i, asg], ?_⟩
      have g1 := isIn_strs_l (x := en.target) (l := names)
      rw [decide_eq_true (by rw [hnm]; exact h.tg s hs en hen)] at g1
      have g2 := isIn_strs_l (x := en.target) (l := own)
      refine SW.nx (e' := ⟨[some (pipesD ps), some (setsD ss), some (.lst (names.map .str)), some (.lst (own.map .str)), some (.int i), some s.d, some (.bl en.on), some (ws en.fresh), some (.str en.target), some (ws en.asked), some (.lst [.str (mode en.edge), .bl en.once, .bl en.alone])], []⟩) ?_ ⟨_, _, _, _, _, rfl⟩
      by_cases ho : en.target ∈ own
      · rw [decide_eq_true ho] at g2
        have g3 := deq_in (h.asked s hs en hen (by rw [← hown]; exact ho))
        have g4 : res (⟨[some (pipesD ps), some (setsD ss), some (.lst (names.map .str)), some (.lst (own.map .str)), some (.int i), some s.d, some (.bl en.on), some (ws en.fresh), some (.str en.target), some (ws en.asked), some (.lst [.str (mode en.edge), .bl en.once, .bl en.alone])], []⟩ : En) (ws en.asked) = some (ws en.asked) := rfl
        have g5 : (Str.length (Str.ofString "in")) ≤ 1000 := by decide
        simp [g1, g2, g3, g4, g5]
      · rw [decide_eq_false ho] at g2
        simp [g1, g2]
    · obtain ⟨c, d, f, g, k, rfl⟩ := he
      exact ⟨_, _, _, _, _, _, _, rfl⟩
  · obtain ⟨a, b, c, d, f, g, k, rfl⟩ := he
    refine SW.frE (dx := SetT.d) (xs := ss) (e0 := ⟨[some (pipesD ps), some (setsD ss), some (.lst (names.map .str)), some (.lst (own.map .str)), a, b, c, d, f, g, k], []⟩)
      (fun pre e => ∃ a b, e = ⟨[some (pipesD ps), some (setsD ss), some (.lst (names.map .str)), some (.lst (own.map .str)), a, b, c, d, f, g, k], []⟩) (by simp [setsD, seqOf]) ⟨_, _, rfl⟩ (fun p s q i e hx he => ?_) fun e he => SW.nil trivial
    obtain ⟨a, b, rfl⟩ := he
    have hs : s ∈ ss := by rw [hx]; simp
    refine ⟨⟨[some (pipesD ps), some (setsD ss), some (.lst (names.map .str)), some (.lst (own.map .str)), some (.int i), some s.d, c, d, f, g, k], []⟩, by simp, ?_⟩
    obtain ⟨fs, b1, b2, b3⟩ := below_ok P (n := n + 4) h.sets s.name
    have g1 := isIn_ws (x := s.name) (l := sortS fs)
    rw [decide_eq_false (fun z => by
      have r := (b2 s.name).mp (sortS_mem.mp z)
      obtain ⟨r', _, hr⟩ := h.rank
      exact Nat.lt_irrefl _ (reach_rank hr r (List.mem_map.mpr ⟨s, hs, rfl⟩)))] at g1
    have g4 : ∀ e : En, res e (ws (sortS fs)) = some (ws (sortS fs)) := fun _ => rfl
    refine SW.nx (e' := ⟨[some (pipesD ps), some (setsD ss), some (.lst (names.map .str)), some (.lst (own.map .str)), some (.int i), some s.d, c, d, f, g, k], []⟩) ?_ ⟨_, _, rfl⟩
    simp only [SetT.d]
    simp [b3, g1, g4]
end Mi.A
end

section
set_option Elab.async false
set_option linter.all false
set_option maxRecDepth 100000
set_option maxHeartbeats 4000000
/-! A7: words that are so, what is due, a settled row. -/
namespace Mi.A
open PySem L2
def readyP (p : Pipe) (w : Str) : Bool := if w = sIn then (decide (0 < p.held) || p.shut) else if w = sOut then (decide (p.held < p.room) && !p.shut) else p.shut
/-- the words that are so at a name: a pipe's, a set's whose row has something -/
def soR (ps : List Pipe) (set : Bool) (x : Str) : List Str := match ps.find? fun p => decide (p.name = x) with
  | some p => words.filter (readyP p)
  | none => if set = true then [sIn] else []
def setRow (ss : List SetT) (x : Str) : Bool := ss.any fun s => decide (s.name = x) && decide (s.row ≠ [])
def readyE (so : List Str) (e : Ent) : List Str := so.filter fun w => decide (w ∈ e.asked)
def dueE (so : List Str) (e : Ent) : Bool := e.on && (if e.edge = true then (readyE so e).any fun w => decide (w ∈ e.fresh) else decide (readyE so e ≠ []))
def dueT (ps : List Pipe) (set : Str → Bool) (s : SetT) : List Str := (s.ents.filter fun e => dueE (soR ps (set e.target) e.target) e).map (·.target)
def rowOf (due row : List Str) : List Str := row.filter (fun t => decide (t ∈ due)) ++ due.filter fun t => decide (t ∉ row.filter fun t => decide (t ∈ due))
/-- what looks at halls ask of these -/
structure HallOk (ps : List Pipe) (ss : List SetT) : Prop where
  p4 : ps.length ≤ 4
  s4 : ss.length ≤ 4
  pok : ∀ p ∈ ps, PipeOk p
  sok : ∀ s ∈ ss, SetOk s
theorem WebOk.hall {ps : List Pipe} {ss : List SetT} (h : WebOk ps ss) : HallOk ps ss := ⟨h.p4, h.s4, h.pok, h.sok⟩
theorem lit_in : (Str.ofString "in").length ≤ 1000 := by decide
theorem lit_out : (Str.ofString "out").length ≤ 1000 := by decide
theorem lit_gone : (Str.ofString "gone").length ≤ 1000 := by decide
theorem pl_in : ∀ z ∈ [sIn], Pl z := fun z hz => pl_words z (by simp at hz; simp [words, hz])
theorem dmerge3 {α : Type} {a b c : α} : dmerge [] [((.inr sIn : Key), a), (.inr sOut, b), (.inr sGone, c)] = [((.inr sIn : Key), a), (.inr sOut, b), (.inr sGone, c)] := dmerge_nil (by
  show [(.inr sIn : Key), .inr sOut, .inr sGone].Nodup
  decide)
theorem dget3 {p : Pipe} {w : Str} (h : w ∈ words) : dget [((.inr sIn : Key), D.bl (decide (0 < p.held) || p.shut)), (.inr sOut, .bl (decide (p.held < p.room) && !p.shut)), (.inr sGone, .bl p.shut)] (.inr w) = some (.bl (readyP p w)) := by
  simp only [words, List.mem_cons, List.not_mem_nil, or_false] at h
  rcases h with rfl | rfl | rfl
  · rfl
  · have e : ¬((.inr sIn : Key) = .inr sOut) := by decide
    have e2 : ¬(sOut = sIn) := by decide
    simp [dget, e, readyP, e2]
  · have e : ¬((.inr sIn : Key) = .inr sGone) := by decide
    have e1 : ¬((.inr sOut : Key) = .inr sGone) := by decide
    have e2 : ¬(sGone = sIn) := by decide
    have e3 : ¬(sGone = sOut) := by decide
    simp [dget, e, e1, readyP, e2, e3]
@[simp] theorem res_ws {e : En} {l : List Str} : res e (ws l) = some (ws l) := rfl
@[simp] theorem ix_dic {kvs : List (Key × D)} {x : Str} : Mi.ix (.dic kvs) (.str x) = dget kvs (.inr x) := rfl
@[simp] theorem asg_ws {t : List CT} {l : List Str} {e : En} : asg (.tup t) (ws l) e = asgs t (l.map .str) e := rfl
theorem soR_sub {ps : List Pipe} {b : Bool} {x : Str} : (soR ps b x).length ≤ 3 ∧ ∀ w ∈ soR ps b x, w ∈ words := by
  unfold soR
  cases ps.find? fun p => decide (p.name = x) with
  | some p => exact ⟨Nat.le_trans (List.length_filter_le _ _) (by decide), fun w hw => (List.mem_filter.mp hw).1⟩
  | none => cases b <;> simp [words]
variable {fns : List Fn}
theorem so_words_ok (P : Has fns) {n : Nat} {ps : List Pipe} {ss : List SetT} (h : HallOk ps ss) {x : Str} (hx : Pl x) {st : List Own} : run cs fns (n+1) 12 [hallD ps ss, .str x] st = .ok (ws (soR ps (setRow ss x) x)) st := by
  refine run_pureW P.h12 rfl rfl (by simp [ptrs, ptr]) ?_ ptr_ws
  simp only [fso_words]
  refine SW.nx (e' := ⟨[some (hallD ps ss), some (.str x), some (pipesD ps), some (setsD ss), none, none, none, none, none, none, none], []⟩) (by simp [hallD]) ?_
  refine SW.fr (dx := Pipe.d) (xs := ps) (e0 := ⟨[some (hallD ps ss), some (.str x), some (pipesD ps), some (setsD ss), none, none, none, none, none, none, none], []⟩)
    (fun pre e => (∃ a b c d, e = ⟨[some (hallD ps ss), some (.str x), some (pipesD ps), some (setsD ss), a, b, c, d, none, none, none], []⟩) ∧ ∀ p ∈ pre, p.name ≠ x) (by simp [pipesD, srcOf, itemsOf]) ⟨⟨_, _, _, _, rfl⟩, by simp⟩ (fun pre p q e hp he => ?_) fun e he => ?_
  · obtain ⟨⟨a, b, c, d, rfl⟩, hn⟩ := he
    have hps : p ∈ ps := by rw [hp]; simp
    refine ⟨⟨[some (hallD ps ss), some (.str x), some (pipesD ps), some (setsD ss), some (.str p.name), some (.int p.room), some (.int p.held), some (.bl p.shut), none, none, none], []⟩, by simp [Pipe.d], ?_⟩
    have d1 := deq_str (h.pok p hps).nm.pl hx
    by_cases e : p.name = x
    · have hf : ps.find? (fun p => decide (p.name = x)) = some p := by
        rw [List.find?_eq_some_iff_append]
        exact ⟨by simp [e], pre, q, hp, fun a ha => by simp [hn a ha]⟩
      rw [decide_eq_true e] at d1
      obtain ⟨kvs, hk⟩ : ∃ kvs, kvs = [((.inr sIn : Key), D.bl (decide (0 < p.held) || p.shut)), (.inr sOut, .bl (decide (p.held < p.room) && !p.shut)), (.inr sGone, .bl p.shut)] := ⟨_, rfl⟩
      have c1 : evE cs (run cs fns n) (.comp (.var 10) (.nm 10) (.seq (.glb 2)) (.yes (.ix (.var 8) (.var 10))) [10]) ⟨[some (hallD ps ss), some (.str x), some (pipesD ps), some (setsD ss), some (.str p.name), some (.int p.room), some (.int p.held), some (.bl p.shut), some (.dic kvs), none, none], []⟩ = .ok (.lst ((words.filter (readyP p)).map .str)) ⟨[some (hallD ps ss), some (.str x), some (pipesD ps), some (setsD ss), some (.str p.name), some (.int p.room), some (.int p.held), some (.bl p.shut), some (.dic kvs), none, none], []⟩ := by
        refine comp_if (dx := D.str) (xs := words) (readyP p) .str (by simp [srcOf, itemsOf, words]) (by decide) fun w hw => ?_
        have g := dget3 (p := p) hw
        rw [← hk] at g
        exact ⟨_, _, by simp [wipeL]; rfl, by simp [g]; rfl, fun _ => ⟨_, by simp; rfl⟩⟩
      have o1 : (evOr cs (run cs fns n) (.bl (decide (0 < p.held))) (.cons (.var 7) .nil) ⟨[some (hallD ps ss), some (.str x), some (pipesD ps), some (setsD ss), some (.str p.name), some (.int p.room), some (.int p.held), some (.bl p.shut), none, none, none], []⟩) = .ok (.bl (decide (0 < p.held) || p.shut)) ⟨[some (hallD ps ss), some (.str x), some (pipesD ps), some (setsD ss), some (.str p.name), some (.int p.room), some (.int p.held), some (.bl p.shut), none, none, none], []⟩ := by
        cases decide (0 < p.held) <;> simp
      have o2 : (evAnd cs (run cs fns n) (.bl (decide (p.held < p.room))) (.cons (.not (.var 7)) .nil) ⟨[some (hallD ps ss), some (.str x), some (pipesD ps), some (setsD ss), some (.str p.name), some (.int p.room), some (.int p.held), some (.bl p.shut), none, none, none], []⟩) = .ok (.bl (decide (p.held < p.room) && !p.shut)) ⟨[some (hallD ps ss), some (.str x), some (pipesD ps), some (setsD ss), some (.str p.name), some (.int p.room), some (.int p.held), some (.bl p.shut), none, none, none], []⟩ := by
        cases decide (p.held < p.room) <;> simp
      have mm : dmerge [] [((.inr (Str.ofString "in") : Key), D.bl (decide (0 < p.held) || p.shut)), (.inr (Str.ofString "out"), .bl (decide (p.held < p.room) && !p.shut)), (.inr (Str.ofString "gone"), .bl p.shut)] = kvs := by rw [hk]; exact dmerge3
      refine SW.rt (d := ws (words.filter (readyP p))) (e' := ⟨[some (hallD ps ss), some (.str x), some (pipesD ps), some (setsD ss), some (.str p.name), some (.int p.room), some (.int p.held), some (.bl p.shut), some (.dic kvs), none, none], []⟩) ?_ ?_
      · simp [-evOr_cons, -evAnd_cons, d1, lit_in, lit_out, lit_gone, o1, o2, mm, c1, ws]
      · simp [soR, hf, give, ws]
    · rw [decide_eq_false e] at d1
      refine SW.nx (e' := ⟨[some (hallD ps ss), some (.str x), some (pipesD ps), some (setsD ss), some (.str p.name), some (.int p.room), some (.int p.held), some (.bl p.shut), none, none, none], []⟩) (by simp [d1]) ?_
      exact ⟨⟨_, _, _, _, rfl⟩, fun u hu => by
        rcases List.mem_append.mp hu with hu | hu
        · exact hn u hu
        · simp at hu; rw [hu]; exact e⟩
  · obtain ⟨⟨a, b, c, d, rfl⟩, hn⟩ := he
    have hf : ps.find? (fun p => decide (p.name = x)) = none := by
      rw [List.find?_eq_none]
      intro p hp; simp [hn p hp]
    have c1 : evE cs (run cs fns n) (.comp (.and (.cmp .eq (.ix (.var 9) (.int 0)) (.var 1)) (.cons (.cmp .ne (.ix (.var 9) (.int 2)) (.tup (.nil))) (.nil))) (.nm 9) (.seq (.var 3)) (.no) [9]) ⟨[some (hallD ps ss), some (.str x), some (pipesD ps), some (setsD ss), a, b, c, d, none, none, none], []⟩ = .ok (.lst (ss.map fun s => .bl (decide (s.name = x) && decide (s.row ≠ [])))) ⟨[some (hallD ps ss), some (.str x), some (pipesD ps), some (setsD ss), a, b, c, d, none, none, none], []⟩ := by
      refine comp_all (dx := SetT.d) (fun s => .bl (decide (s.name = x) && decide (s.row ≠ []))) (by simp [setsD, srcOf, itemsOf]) (szl (by have := h.s4; omega)) fun s hs => ?_
      have d1 := deq_str (h.sok s hs).nm.pl hx
      have d2 := deq_ws (x := s.row) (y := []) (fun z hz => (h.sok s hs).pl z ((h.sok s hs).rt z hz)) (by simp)
      simp only [ws, List.map_nil] at d2
      refine ⟨[some (hallD ps ss), some (.str x), some (pipesD ps), some (setsD ss), a, b, c, d, none, some s.d, none], [some (hallD ps ss), some (.str x), some (pipesD ps), some (setsD ss), a, b, c, d, none, some s.d, none], by simp [wipeL], ?_⟩
      simp only [SetT.d, ws]
      by_cases e : s.name = x
      · rw [decide_eq_true e] at d1 ⊢
        simp [d1, d2]
      · rw [decide_eq_false e] at d1 ⊢
        simp [d1]
    have c2 := any_map (fun s : SetT => decide (s.name = x) && decide (s.row ≠ [])) ss
    cases hb : setRow ss x with
    | true =>
      unfold setRow at hb
      rw [hb] at c2
      refine SW.rt (d := ws [sIn]) (e' := ⟨[some (hallD ps ss), some (.str x), some (pipesD ps), some (setsD ss), a, b, c, d, none, none, none], []⟩) ?_ ?_
      · simp only [evS_ret, evE_ite, evE_bi, evEs_cons, evEs_nil, c1, bind_ok, ress_cons, res_lst, ress_nil]
        simp only [Option.bind_some, Option.map_some, bi_any, c2]
        simp [lit_in, ws]
      · simp [soR, hf, give, ws]
    | false =>
      unfold setRow at hb
      rw [hb] at c2
      refine SW.rt (d := ws []) (e' := ⟨[some (hallD ps ss), some (.str x), some (pipesD ps), some (setsD ss), a, b, c, d, none, none, none], []⟩) ?_ ?_
      · simp only [evS_ret, evE_ite, evE_bi, evEs_cons, evEs_nil, c1, bind_ok, ress_cons, res_lst, ress_nil]
        simp only [Option.bind_some, Option.map_some, bi_any, c2]
        simp [ws]
      · simp [soR, hf, give, ws]
theorem mode_edge {b : Bool} : deq (.str (mode b)) (.str sEdge) = some b := by
  rw [deq_str (by cases b <;> (intro c; revert c; decide)) (by intro c; revert c; decide)]
  cases b <;> decide
theorem mode_level {b : Bool} : deq (.str (mode b)) (.str sLevel) = some (!b) := by
  rw [deq_str (by cases b <;> (intro c; revert c; decide)) (by intro c; revert c; decide)]
  cases b <;> decide
theorem due_words_ok (P : Has fns) {n : Nat} {ps : List Pipe} {ss : List SetT} (h : HallOk ps ss) {e : Ent} (he : EntOk e) {st : List Own} :
    run cs fns (n+2) 13 [hallD ps ss, e.d] st = .ok (.tup [ws (readyE (soR ps (setRow ss e.target) e.target) e), .bl (dueE (soR ps (setRow ss e.target) e.target) e)]) st := by
  obtain ⟨so, hso⟩ : ∃ so, so = soR ps (setRow ss e.target) e.target := ⟨_, rfl⟩
  have h1 := fun st => so_words_ok P (n := n) h he.nm.pl (st := st)
  have hs3 := soR_sub (ps := ps) (b := setRow ss e.target) (x := e.target)
  rw [← hso] at h1 hs3 ⊢
  refine run_pureW P.h13 rfl rfl (by simp [ptrs]) ?_ (by
    show (ptr 0 (ws _) && (true && true)) = true
    rw [ptr_ws]; rfl)
  simp only [fdue_words]
  refine SW.nx (e' := ⟨[some (hallD ps ss), some e.d, none, some (.bl e.on), some (ws e.fresh), some (.str e.target), some (ws e.asked), some (.str (mode e.edge)), some (.bl e.once), some (.bl e.alone), none], []⟩) (by simp [Ent.d, Ent.i]) ?_
  have rl : (readyE so e).length ≤ 3 := Nat.le_trans (List.length_filter_le _ _) hs3.1
  have rpl : ∀ z ∈ readyE so e, Pl z := fun z hz => pl_words z (hs3.2 z (List.mem_filter.mp hz).1)
  have c1 : evE cs (run cs fns (n + 1)) (.comp (.var 10) (.nm 10) (.seq (.call 12 (.cons (.var 0) (.cons (.var 5) (.nil))))) (.yes (.cmp .isin (.var 10) (.var 6))) [10]) ⟨[some (hallD ps ss), some e.d, none, some (.bl e.on), some (ws e.fresh), some (.str e.target), some (ws e.asked), some (.str (mode e.edge)), some (.bl e.once), some (.bl e.alone), none], []⟩ = .ok (.lst ((readyE so e).map .str)) ⟨[some (hallD ps ss), some e.d, none, some (.bl e.on), some (ws e.fresh), some (.str e.target), some (ws e.asked), some (.str (mode e.edge)), some (.bl e.once), some (.bl e.alone), none], []⟩ := by
    refine comp_if (dx := D.str) (xs := so) (fun w => decide (w ∈ e.asked)) .str (by simp [h1, srcOf, itemsOf, ws]) (szl (by omega)) fun w hw => ?_
    exact ⟨_, _, by simp [wipeL]; rfl, by simp [isIn_ws]; rfl, fun _ => ⟨_, by simp; rfl⟩⟩
  refine SW.nx (e' := ⟨[some (hallD ps ss), some e.d, some (ws (readyE so e)), some (.bl e.on), some (ws e.fresh), some (.str e.target), some (ws e.asked), some (.str (mode e.edge)), some (.bl e.once), some (.bl e.alone), none], []⟩) (by simp [c1]; rfl) ?_
  have d1 := mode_level (b := e.edge)
  have d2 := deq_ws (x := readyE so e) (y := []) rpl (by simp)
  have d3 : deq (ws (readyE so e)) (.tup []) = some (decide (readyE so e = [])) := d2
  have c2 : evE cs (run cs fns (n + 1)) (.comp (.cmp .isin (.var 10) (.var 4)) (.nm 10) (.seq (.var 2)) (.no) [10]) ⟨[some (hallD ps ss), some e.d, some (ws (readyE so e)), some (.bl e.on), some (ws e.fresh), some (.str e.target), some (ws e.asked), some (.str (mode e.edge)), some (.bl e.once), some (.bl e.alone), none], []⟩ = .ok (.lst ((readyE so e).map fun w => .bl (decide (w ∈ e.fresh)))) ⟨[some (hallD ps ss), some e.d, some (ws (readyE so e)), some (.bl e.on), some (ws e.fresh), some (.str e.target), some (ws e.asked), some (.str (mode e.edge)), some (.bl e.once), some (.bl e.alone), none], []⟩ := by
    refine comp_all (dx := D.str) (xs := readyE so e) (fun w => .bl (decide (w ∈ e.fresh))) (by simp [srcOf, itemsOf, ws]) (szl (by omega)) fun w hw => ?_
    exact ⟨_, _, by simp [wipeL]; rfl, by simp [isIn_ws]; rfl⟩
  have a1 := any_map (fun w => decide (w ∈ e.fresh)) (readyE so e)
  cases hE : e.edge with
  | false =>
    rw [hE] at d1
    refine SW.rt (d := .tup [ws (readyE so e), .bl (dueE so e)]) (e' := ⟨[some (hallD ps ss), some e.d, some (ws (readyE so e)), some (.bl e.on), some (ws e.fresh), some (.str e.target), some (ws e.asked), some (.str (mode false)), some (.bl e.once), some (.bl e.alone), none], []⟩) ?_ rfl
    cases hon : e.on <;> simp [d1, d3, dueE, hE, hon]
  | true =>
    rw [hE] at d1 c2
    refine SW.nx (e' := ⟨[some (hallD ps ss), some e.d, some (ws (readyE so e)), some (.bl e.on), some (ws e.fresh), some (.str e.target), some (ws e.asked), some (.str (mode true)), some (.bl e.once), some (.bl e.alone), none], []⟩) (by simp [d1]) ?_
    refine SW.rt (d := .tup [ws (readyE so e), .bl (dueE so e)]) (e' := ⟨[some (hallD ps ss), some e.d, some (ws (readyE so e)), some (.bl e.on), some (ws e.fresh), some (.str e.target), some (ws e.asked), some (.str (mode true)), some (.bl e.once), some (.bl e.alone), none], []⟩) ?_ rfl
    cases hon : e.on
    · simp [dueE, hE, hon]
    · rw [hon] at c2
      simp [dueE, hE, hon, c2, a1]
theorem dueT_len {ps : List Pipe} {f : Str → Bool} {s : SetT} (h : SetOk s) : (dueT ps f s).length ≤ 6 := by
  unfold dueT
  rw [List.length_map]
  exact Nat.le_trans (List.length_filter_le _ _) h.e6
theorem due_targets_ok (P : Has fns) {n : Nat} {ps : List Pipe} {ss : List SetT} (h : HallOk ps ss) {s : SetT} (hs : SetOk s) {st : List Own} :
    run cs fns (n+3) 14 [hallD ps ss, s.d] st = .ok (.lst ((dueT ps (setRow ss) s).map .str)) st := by
  refine run_pure P.h14 rfl rfl (by simp [ptrs]) (e := ⟨[some (hallD ps ss), some s.d, none], []⟩) ?_ ptr_strs
  have c1 : evE cs (run cs fns (n + 2)) (.comp (.ix (.ix (.var 2) (.int 0)) (.int 0)) (.nm 2) (.seq (.ix (.var 1) (.int 1))) (.yes (.ix (.call 13 (.cons (.var 0) (.cons (.var 2) (.nil)))) (.int 1))) [2]) ⟨[some (hallD ps ss), some s.d, none], []⟩ = .ok (.lst ((s.ents.filter fun e => dueE (soR ps (setRow ss e.target) e.target) e).map fun e => .str e.target)) ⟨[some (hallD ps ss), some s.d, none], []⟩ := by
    refine comp_if (dx := Ent.d) (xs := s.ents) (fun e => dueE (soR ps (setRow ss e.target) e.target) e) (fun e => .str e.target) (by simp [SetT.d, srcOf, itemsOf]) (szl (by have := hs.e6; omega)) fun e he => ?_
    have h1 := fun st => due_words_ok P (n := n) h (hs.ents e he) (st := st)
    refine ⟨[some (hallD ps ss), some s.d, some e.d], [some (hallD ps ss), some s.d, some e.d], by simp [wipeL], by simp [h1], fun _ => ⟨[some (hallD ps ss), some s.d, some e.d], by simp [Ent.d, Ent.i]⟩⟩
  simp [fdue_targets, c1, dueT, Function.comp_def]
theorem rowOf_len {due row : List Str} : (rowOf due row).length ≤ row.length + due.length := by
  unfold rowOf
  rw [List.length_append]
  exact Nat.add_le_add (List.length_filter_le _ _) (List.length_filter_le _ _)
theorem settled_row_ok (P : Has fns) {n : Nat} {ps : List Pipe} {ss : List SetT} (h : HallOk ps ss) {s : SetT} (hs : SetOk s) {st : List Own} :
    run cs fns (n+4) 18 [hallD ps ss, s.d] st = .ok (ws (rowOf (dueT ps (setRow ss) s) s.row)) st := by
  obtain ⟨due, hdue⟩ : ∃ due, due = dueT ps (setRow ss) s := ⟨_, rfl⟩
  have dl : due.length ≤ 6 := by rw [hdue]; exact dueT_len hs
  have rl := hs.r6
  have h1 := fun st => due_targets_ok P (n := n) h hs (st := st)
  rw [← hdue] at h1 ⊢
  refine run_pureW P.h18 rfl rfl (by simp [ptrs]) ?_ ptr_ws
  simp only [fsettled_row]
  refine SW.nx (e' := ⟨[some (hallD ps ss), some s.d, some (.lst (due.map .str)), none, none], []⟩) (by simp [h1]) ?_
  have c1 : evE cs (run cs fns (n + 3)) (.comp (.var 4) (.nm 4) (.seq (.ix (.var 1) (.int 2))) (.yes (.cmp .isin (.var 4) (.var 2))) [4]) ⟨[some (hallD ps ss), some s.d, some (.lst (due.map .str)), none, none], []⟩ = .ok (.lst ((s.row.filter fun t => decide (t ∈ due)).map .str)) ⟨[some (hallD ps ss), some s.d, some (.lst (due.map .str)), none, none], []⟩ := by
    refine comp_if (dx := D.str) (xs := s.row) (fun t => decide (t ∈ due)) .str (by simp [SetT.d, srcOf, itemsOf, ws]) (szl (by omega)) fun w hw => ?_
    exact ⟨_, _, by simp [wipeL]; rfl, by simp [isIn_strs_l]; rfl, fun _ => ⟨_, by simp; rfl⟩⟩
  obtain ⟨stays, hst⟩ : ∃ stays, stays = s.row.filter fun t => decide (t ∈ due) := ⟨_, rfl⟩
  have sl : stays.length ≤ 6 := by rw [hst]; exact Nat.le_trans (List.length_filter_le _ _) rl
  rw [← hst] at c1
  refine SW.nx (e' := ⟨[some (hallD ps ss), some s.d, some (.lst (due.map .str)), some (.lst (stays.map .str)), none], []⟩) (by simp [c1]) ?_
  have c2 : evE cs (run cs fns (n + 3)) (.comp (.var 4) (.nm 4) (.seq (.var 2)) (.yes (.cmp .notin (.var 4) (.var 3))) [4]) ⟨[some (hallD ps ss), some s.d, some (.lst (due.map .str)), some (.lst (stays.map .str)), none], []⟩ = .ok (.lst ((due.filter fun t => decide (t ∉ stays)).map .str)) ⟨[some (hallD ps ss), some s.d, some (.lst (due.map .str)), some (.lst (stays.map .str)), none], []⟩ := by
    refine comp_if (dx := D.str) (xs := due) (fun t => decide (t ∉ stays)) .str (by simp [srcOf, itemsOf]) (szl (by omega)) fun w hw => ?_
    exact ⟨_, _, by simp [wipeL]; rfl, by simp [isIn_strs_l]; rfl, fun _ => ⟨_, by simp; rfl⟩⟩
  have fl : (due.filter fun t => decide (t ∉ stays)).length ≤ 6 := Nat.le_trans (List.length_filter_le _ _) dl
  have sz : stays.length + (due.filter fun t => decide (t ∉ stays)).length ≤ sizeLine := szl (by omega)
  have er : rowOf due s.row = stays ++ due.filter fun t => decide (t ∉ stays) := by rw [rowOf, ← hst]
  rw [er]
  generalize (due.filter fun t => decide (t ∉ stays)) = F at *
  refine SW.rt (d := ws (stays ++ F)) (e' := ⟨[some (hallD ps ss), some s.d, some (.lst (due.map .str)), some (.lst (stays.map .str)), none], []⟩) (by simp [c2, sz, ws]) rfl
end Mi.A
end

section
set_option Elab.async false
set_option linter.all false
set_option maxRecDepth 100000
set_option maxHeartbeats 4000000
/-! A8: halls settled. -/
namespace Mi.A
open PySem L2
def setIn (names : List Str) (R : Str → List Str) (t : Str) : Bool := decide (t ∈ names) && decide (R t ≠ [])
def SetT.w (s : SetT) (R : Str → List Str) : SetT := { s with row := R s.name }
def Settles (ps : List Pipe) (ss : List SetT) (R : Str → List Str) : Prop := ∀ s ∈ ss, R s.name = rowOf (dueT ps (setIn (ss.map (·.name)) R) s) s.row
theorem setRow_w {ss : List SetT} {R : Str → List Str} {t : Str} : setRow (ss.map (·.w R)) t = setIn (ss.map (·.name)) R t := by
  unfold setRow setIn
  rw [List.any_map, Bool.eq_iff_iff]
  simp only [List.any_eq_true, Function.comp, SetT.w, Bool.and_eq_true, decide_eq_true_eq, List.mem_map]
  constructor
  · rintro ⟨s, h1, h2, h3⟩
    exact ⟨⟨s, h1, h2⟩, h2 ▸ h3⟩
  · rintro ⟨⟨s, h1, h2⟩, h3⟩
    exact ⟨s, h1, h2, h2 ▸ h3⟩
theorem dueT_congr {ps : List Pipe} {f g : Str → Bool} {s : SetT} (h : ∀ e ∈ s.ents, f e.target = g e.target) : dueT ps f s = dueT ps g s := by
  unfold dueT
  congr 1
  exact List.filter_congr fun e he => by rw [h e he]
theorem dueT_sub {ps : List Pipe} {f : Str → Bool} {s : SetT} : (dueT ps f s).Sublist s.targets := List.Sublist.map _ List.filter_sublist
theorem rowOf_ok {due row tg : List Str} (h1 : due.Sublist tg) (h2 : tg.Nodup) (h3 : row.Nodup) : (rowOf due row).Nodup ∧ (∀ t ∈ rowOf due row, t ∈ tg) ∧ ∀ t, t ∈ rowOf due row ↔ t ∈ due := by
  have m : ∀ t, t ∈ rowOf due row ↔ t ∈ due := fun t => by
    unfold rowOf
    simp only [List.mem_append, List.mem_filter, decide_eq_true_eq]
    constructor
    · rintro (h | h)
      · exact h.2
      · exact h.1
    · intro h
      by_cases hr : t ∈ row
      · exact .inl ⟨hr, h⟩
      · exact .inr ⟨h, fun z => hr z.1⟩
  refine ⟨?_, fun t ht => h1.subset ((m t).mp ht), m⟩
  unfold rowOf
  rw [List.nodup_append]
  refine ⟨h3.filter _, (h2.sublist h1).filter _, fun a ha b hb e => ?_⟩
  subst e
  have := (List.mem_filter.mp hb).2
  exact (of_decide_eq_true this) ha
theorem w_ok {ss : List SetT} {R : Str → List Str} {s : SetT} (hs : SetOk s) (h : R s.name = s.row ∨ ∃ f ps, R s.name = rowOf (dueT ps f s) s.row) : SetOk (s.w R) := by
  have key : (R s.name).Nodup ∧ ∀ t ∈ R s.name, t ∈ s.targets := by
    rcases h with h | ⟨f, ps, h⟩
    · rw [h]; exact ⟨hs.rn, hs.rt⟩
    · rw [h]
      have := rowOf_ok (dueT_sub (ps := ps) (f := f) (s := s)) hs.tn hs.rn
      exact ⟨this.1, this.2.1⟩
  exact ⟨hs.nm, hs.e6, hs.ents, hs.tn, key.1, key.2, hs.a6, hs.w6, hs.asl, hs.wok⟩
theorem w_dueT {ps : List Pipe} {f : Str → Bool} {s : SetT} {R : Str → List Str} : dueT ps f (s.w R) = dueT ps f s := rfl
/-- the rows put into a dict by names -/
def rdic (ss : List SetT) (R : Str → List Str) : List (Key × D) := ss.map fun s => (.inr s.name, (s.w R).d)
theorem find_name {ss : List SetT} (h : (ss.map (·.name)).Nodup) {s : SetT} (hs : s ∈ ss) : ss.find? (fun u => decide (u.name = s.name)) = some s := by
  induction ss with
  | nil => cases hs
  | cons u ss ih =>
    rw [List.map_cons, List.nodup_cons] at h
    rw [List.find?_cons]
    rcases List.mem_cons.mp hs with rfl | hs
    · simp
    · have : u.name ≠ s.name := fun e => h.1 (List.mem_map.mpr ⟨s, hs, e.symm⟩)
      simp only [this, decide_false]
      exact ih h.2 hs
theorem rdic_get {ss : List SetT} (h : (ss.map (·.name)).Nodup) {R : Str → List Str} {s : SetT} (hs : s ∈ ss) : dget (rdic ss R) (.inr s.name) = some (s.w R).d := by
  unfold rdic
  rw [dget_map, find_name h hs]
  rfl
theorem dput_map {α β : Type} {f : α → Str} {g : α → β} {x : Str} {v : β} {xs : List α} (h : x ∈ xs.map f) : dput (xs.map fun a => ((.inr (f a) : Key), g a)) (.inr x) v = xs.map fun a => (.inr (f a), if f a = x then v else g a) := by
  unfold dput
  rw [if_pos]
  · rw [List.map_map]
    refine List.map_congr_left fun a _ => ?_
    by_cases e : f a = x
    · simp [e]
    · have : ¬((Sum.inr (f a) : Key) = .inr x) := fun z => e (Sum.inr.inj z)
      simp [e, this]
  · obtain ⟨a, ha, e⟩ := List.mem_map.mp h
    exact List.any_eq_true.mpr ⟨(.inr (f a), g a), List.mem_map.mpr ⟨a, ha, rfl⟩, by simp [e]⟩
def upd (R : Str → List Str) (x : Str) (r : List Str) : Str → List Str := fun y => if y = x then r else R y
theorem rdic_put {ss : List SetT} (h : (ss.map (·.name)).Nodup) {R : Str → List Str} {s : SetT} (hs : s ∈ ss) {r : List Str} : dput (rdic ss R) (.inr s.name) ({ s with row := r } : SetT).d = rdic ss (upd R s.name r) := by
  unfold rdic
  rw [dput_map (List.mem_map.mpr ⟨s, hs, rfl⟩)]
  refine List.map_congr_left fun u hu => ?_
  by_cases e : u.name = s.name
  · have : u = s := by
      have h1 := find_name h hu
      have h2 := find_name h hs
      rw [e] at h1
      exact Option.some.inj (h1.symm.trans h2)
    subst this
    simp [SetT.w, upd]
  · simp [e, SetT.w, upd]
/-! ### sorted by a key -/
theorem keysOf_ok {f : D → List Own → R D} {k : D → Int} {st : List Own} : ∀ {ds : List D}, (∀ d ∈ ds, ∃ vs, f d st = .ok (.int (k d)) ⟨vs, st⟩) → keysOf f ds st = some (ds.map k, st)
  | [], _ => rfl
  | d :: ds, h => by
    obtain ⟨vs, e⟩ := h d List.mem_cons_self
    have ih := keysOf_ok (f := f) (k := k) (st := st) (ds := ds) fun y hy => h y (List.mem_cons_of_mem _ hy)
    rw [keysOf, e]
    dsimp only
    rw [ih]
    rfl
theorem keyed_ok {ds : List D} {k : D → Int} : (keyed ds (ds.map k)).Perm ds ∧ (keyed ds (ds.map k)).Pairwise fun a b => k a ≤ k b := by
  have e : ds.zip (ds.map k) = ds.map fun d => (d, k d) := by
    induction ds with
    | nil => rfl
    | cons d ds ih => simp [ih]
  unfold keyed
  rw [e]
  have p := List.mergeSort_perm (ds.map fun d => (d, k d)) (fun p q => decide (p.2 ≤ q.2))
  refine ⟨?_, ?_⟩
  · have := p.map (·.1)
    rw [List.map_map] at this
    have e2 : ds.map ((·.1) ∘ fun d => (d, k d)) = ds := by
      have : ((·.1) ∘ fun d : D => (d, k d)) = id := rfl
      rw [this, List.map_id]
    rw [e2] at this
    exact this
  · have s := List.pairwise_mergeSort (le := fun p q : D × Int => decide (p.2 ≤ q.2)) (fun a b c h1 h2 => by simp at *; omega) (fun a b => by simp; omega) (ds.map fun d => (d, k d))
    rw [List.pairwise_map]
    refine List.Pairwise.imp_of_mem (fun {a b} ha hb h => ?_) s
    obtain ⟨d1, _, rfl⟩ := List.mem_map.mp (p.mem_iff.mp ha)
    obtain ⟨d2, _, rfl⟩ := List.mem_map.mp (p.mem_iff.mp hb)
    exact of_decide_eq_true h
def unS : D → Str
  | .str x => x
  | _ => ⟨#[]⟩
theorem keyed_strs {xs : List Str} {k : Str → Int} : ∃ ys : List Str, ys.Perm xs ∧ (ys.Pairwise fun a b => k a ≤ k b) ∧ keyed (xs.map .str) (xs.map k) = ys.map .str := by
  obtain ⟨p, s⟩ := keyed_ok (ds := xs.map .str) (k := fun d => k (unS d))
  have e : (xs.map D.str).map (fun d => k (unS d)) = xs.map k := by rw [List.map_map]; rfl
  rw [e] at p s
  refine ⟨(keyed (xs.map .str) (xs.map k)).map unS, ?_, ?_, ?_⟩
  · have := p.map unS
    rw [List.map_map] at this
    have e2 : xs.map (unS ∘ D.str) = xs := by
      have : (unS ∘ D.str) = id := rfl
      rw [this, List.map_id]
    rw [e2] at this
    exact this
  · rw [List.pairwise_map]
    exact s
  · rw [List.map_map]
    conv => lhs; rw [← List.map_id (keyed (xs.map .str) (xs.map k))]
    refine List.map_congr_left fun d hd => ?_
    obtain ⟨x, _, rfl⟩ := List.mem_map.mp (p.mem_iff.mp hd)
    rfl
theorem reach_trans {ss : List SetT} {x t u : Str} (h : t ∈ tgs ss x) (h2 : Reach ss t u) : Reach ss x u := by
  induction h2 with
  | one h3 => exact .more (.one h) h3
  | more _ h3 ih => exact .more ih h3
/-- the number of all within: less for what is within -/
theorem below_lt {ps : List Pipe} {ss : List SetT} (h : WebOk ps ss) {B : Str → List Str} (hB : ∀ x, (B x).Nodup ∧ ∀ t, t ∈ B x ↔ Reach ss x t) {s : SetT} (hs : s ∈ ss) {e : Ent} (he : e ∈ s.ents) (ht : e.target ∈ ss.map (·.name)) : (B e.target).length < (B s.name).length := by
  have tm : e.target ∈ tgs ss s.name := by
    rw [tgs_of h.sets.names hs]
    exact List.mem_map.mpr ⟨e, he, rfl⟩
  obtain ⟨r, _, hr⟩ := h.rank
  have n1 : e.target ∉ B e.target := fun z => Nat.lt_irrefl _ (reach_rank hr (((hB _).2 _).mp z) ht)
  have := nodup_len (xs := e.target :: B e.target) (ys := B s.name) (List.nodup_cons.mpr ⟨n1, (hB _).1⟩) fun u hu => by
    rcases List.mem_cons.mp hu with rfl | hu
    · exact ((hB _).2 _).mpr (.one tm)
    · exact ((hB _).2 _).mpr (reach_trans tm (((hB _).2 _).mp hu))
  simp at this
  omega
theorem names_pl {ps : List Pipe} {ss : List SetT} (h : WebOk ps ss) {x : Str} (hx : x ∈ ss.map (·.name)) : Pl x := by
  obtain ⟨s, hs, rfl⟩ := List.mem_map.mp hx
  exact (h.sok s hs).nm.pl
theorem slc_set {s : SetT} : Mi.slc s.d none (some 2) = some (.tup [.str s.name, .tup (s.ents.map Ent.d)]) ∧ Mi.slc s.d (some 3) none = some (.tup [.tup (s.asleep.map Wt.d), .tup (s.woken.map Wt.d)]) := ⟨rfl, rfl⟩
variable {fns : List Fn}
theorem own_settled_W (P : Has fns) {n : Nat} {ps : List Pipe} {ss : List SetT} (h : WebOk ps ss) : SW (evSs cs (run cs fns (n+4)) fown_settled.body ⟨[some (pipesD ps), some (setsD ss), none, none, none, none, none, none], []⟩) (fun _ => False) fun d e => ∃ R, Settles ps ss R ∧ d = hallD ps (ss.map (·.w R)) := by
  have hn := h.sets.names
  have hl : ss.length ≤ sizeLine := szl (by have := h.s4; omega)
  have hl' : ss.length < sizeLine := szl' (by have := h.s4; omega)
  obtain ⟨B, hB⟩ := Classical.axiomOfChoice (fun x => below_ok P (n := n + 2) h.sets x)
  have c1 : evE cs (run cs fns (n + 4)) (.dcomp (.ix (.var 5) (.int 0)) (.var 5) (.nm 5) (.seq (.var 1)) (.no) [5]) ⟨[some (pipesD ps), some (setsD ss), none, none, none, none, none, none], []⟩ = .ok (.dic (rdic ss fun x => (ss.find? fun u => decide (u.name = x)).elim [] (·.row))) ⟨[some (pipesD ps), some (setsD ss), none, none, none, none, none, none], []⟩ := by
    have := dcomp_all (cs := cs) (cal := run cs fns (n + 4)) (k := .ix (.var 5) (.int 0)) (v := .var 5) (tg := .nm 5) (it := .seq (.var 1)) (vs := [5]) (e := ⟨[some (pipesD ps), some (setsD ss), none, none, none, none, none, none], []⟩) (dx := SetT.d) (xs := ss) (fun s => s.name) (fun s => s.d) (by simp [setsD, srcOf, itemsOf]) hl hn fun s hs => ⟨[some (pipesD ps), some (setsD ss), none, none, none, some s.d, none, none], [some (pipesD ps), some (setsD ss), none, none, none, some s.d, none, none], [some (pipesD ps), some (setsD ss), none, none, none, some s.d, none, none], by simp [wipeL], by simp [SetT.d], by simp⟩
    rw [this]
    congr 2
    unfold rdic
    refine List.map_congr_left fun s hs => ?_
    have : s.w (fun x => (ss.find? fun u => decide (u.name = x)).elim [] (·.row)) = s := by
      unfold SetT.w
      dsimp only
      rw [find_name hn hs]
      rfl
    rw [this]
  obtain ⟨R0, hR0⟩ : ∃ R0 : Str → List Str, R0 = fun x => (ss.find? fun u => decide (u.name = x)).elim [] (·.row) := ⟨_, rfl⟩
  have hR0s : ∀ s ∈ ss, R0 s.name = s.row := fun s hs => by
    rw [hR0]
    show (ss.find? fun u => decide (u.name = s.name)).elim [] (·.row) = _
    rw [find_name hn hs]
    rfl
  rw [← hR0] at c1
  obtain ⟨names, hnm⟩ : ∃ l, l = ss.map (·.name) := ⟨_, rfl⟩
  have nl : ∀ R : Str → List Str, (rdic ss R).map (fun kv => kd kv.1) = names.map .str := fun R => by
    rw [hnm, rdic, List.map_map, List.map_map]; rfl
  simp only [fown_settled]
  refine SW.nx (e' := ⟨[some (pipesD ps), some (setsD ss), some (.own 0), none, none, none, none, none], [.dic (rdic ss R0)]⟩) (by simp [c1]) ?_
  refine SW.nx (e' := ⟨[some (pipesD ps), some (setsD ss), some (.own 0), some (.lst (names.map .str)), none, none, none, none], [.dic (rdic ss R0)]⟩) (by simp [listD, nl]) ?_
  obtain ⟨ys, p1, p2, p3⟩ := keyed_strs (xs := names) (k := fun x => ((B x).length : Int))
  have k1 : evE cs (run cs fns (n + 4)) (.sortk (.var 3) 7 (.bi .len (.cons (.call 15 (.cons (.var 1) (.cons (.var 7) (.nil)))) (.nil)))) ⟨[some (pipesD ps), some (setsD ss), some (.own 0), some (.lst (names.map .str)), none, none, none, none], [.dic (rdic ss R0)]⟩ = .ok (.lst (ys.map .str)) ⟨[some (pipesD ps), some (setsD ss), some (.own 0), some (.lst (names.map .str)), none, none, none, none], [.dic (rdic ss R0)]⟩ := by
    have kk := keysOf_ok (f := fun d st => evE cs (run cs fns (n + 4)) (.bi .len (.cons (.call 15 (.cons (.var 1) (.cons (.var 7) (.nil)))) (.nil))) ⟨[some (pipesD ps), some (setsD ss), some (.own 0), some (.lst (names.map .str)), none, none, none, some d], st⟩) (k := fun d => ((B (unS d)).length : Int)) (st := [.dic (rdic ss R0)]) (ds := names.map .str) fun d hd => by
      obtain ⟨x, hx, rfl⟩ := List.mem_map.mp hd
      refine ⟨[some (pipesD ps), some (setsD ss), some (.own 0), some (.lst (names.map .str)), none, none, none, some (.str x)], ?_⟩
      have b3 := (hB x).2.2
      simp [b3, unS]
      simp [ws, sortS_len]
    have e : (names.map D.str).map (fun d => ((B (unS d)).length : Int)) = names.map fun x => ((B x).length : Int) := by rw [List.map_map]; rfl
    rw [e] at kk
    have e2 : evE cs (run cs fns (n + 4)) (.sortk (.var 3) 7 (.bi .len (.cons (.call 15 (.cons (.var 1) (.cons (.var 7) (.nil)))) (.nil)))) ⟨[some (pipesD ps), some (setsD ss), some (.own 0), some (.lst (names.map .str)), none, none, none, none], [.dic (rdic ss R0)]⟩ = (match keysOf (fun d st => evE cs (run cs fns (n + 4)) (.bi .len (.cons (.call 15 (.cons (.var 1) (.cons (.var 7) (.nil)))) (.nil))) ⟨[some (pipesD ps), some (setsD ss), some (.own 0), some (.lst (names.map .str)), none, none, none, some d], st⟩) (names.map .str) [.dic (rdic ss R0)] with
      | some (ks, st) => .ok (.lst (keyed (names.map .str) ks)) ⟨[some (pipesD ps), some (setsD ss), some (.own 0), some (.lst (names.map .str)), none, none, none, none], st⟩
      | none => .er) := rfl
    rw [e2, kk]
    dsimp only
    rw [p3]
  have hB' : ∀ x, (B x).Nodup ∧ ∀ t, t ∈ B x ↔ Reach ss x t := fun x => ⟨(hB x).1, (hB x).2.1⟩
  refine SW.fr (dx := D.str) (xs := ys) (e0 := ⟨[some (pipesD ps), some (setsD ss), some (.own 0), some (.lst (names.map .str)), none, none, none, none], [.dic (rdic ss R0)]⟩)
    (fun pre e => ∃ R a b c, e = ⟨[some (pipesD ps), some (setsD ss), some (.own 0), some (.lst (names.map .str)), a, b, c, none], [.dic (rdic ss R)]⟩ ∧ (∀ s ∈ ss, s.name ∉ pre → R s.name = s.row) ∧ ∀ s ∈ ss, s.name ∈ pre → R s.name = rowOf (dueT ps (setIn names R) s) s.row)
    (by simp [k1, srcOf, itemsOf]) ⟨R0, _, _, _, rfl, fun s hs _ => hR0s s hs, by simp⟩ (fun pre x post e hx he => ?_) fun e he => ?_
  · obtain ⟨R, a, b, c, rfl, i1, i2⟩ := he
    have xn : x ∈ names := p1.mem_iff.mp (by rw [hx]; simp)
    obtain ⟨s, hs, rfl⟩ := List.mem_map.mp (by rw [← hnm]; exact xn)
    have hso := h.sok s hs
    have xp : s.name ∉ pre := pre_nodup (q := post) ((p1.nodup_iff).mpr (by rw [hnm]; exact hn)) hx
    have hall : HallOk ps (ss.map (·.w R)) := ⟨h.p4, by rw [List.length_map]; exact h.s4, h.pok, fun u' hu' => by
      obtain ⟨u, hu, rfl⟩ := List.mem_map.mp hu'
      refine w_ok (ss := ss) (h.sok u hu) ?_
      by_cases hp : u.name ∈ pre
      · exact .inr ⟨_, _, i2 u hu hp⟩
      · exact .inl (i1 u hu hp)⟩
    have sw : s.w R = s := by
      unfold SetT.w
      rw [i1 s hs xp]
    have r1 := fun st => settled_row_ok P (n := n) hall hso (st := st)
    have fe : setRow (ss.map (·.w R)) = setIn names R := by
      funext t
      rw [hnm]
      exact setRow_w
    rw [fe] at r1
    obtain ⟨r, hr⟩ : ∃ r, r = rowOf (dueT ps (setIn names R) s) s.row := ⟨_, rfl⟩
    rw [← hr] at r1
    have g1 := rdic_get hn (R := R) hs
    rw [sw] at g1
    refine ⟨⟨[some (pipesD ps), some (setsD ss), some (.own 0), some (.lst (names.map .str)), some (.str s.name), b, c, none], [.dic (rdic ss R)]⟩, by simp, ?_⟩
    refine SW.nx (e' := ⟨[some (pipesD ps), some (setsD ss), some (.own 0), some (.lst (names.map .str)), some (.str s.name), some s.d, c, none], [.dic (rdic ss R)]⟩) (by simp [g1]) ?_
    have c2 : evE cs (run cs fns (n + 4)) (.comp (.ix (.var 2) (.var 7)) (.nm 7) (.seq (.var 3)) (.no) [7]) ⟨[some (pipesD ps), some (setsD ss), some (.own 0), some (.lst (names.map .str)), some (.str s.name), some s.d, c, none], [.dic (rdic ss R)]⟩ = .ok (.lst (ss.map fun u => (u.w R).d)) ⟨[some (pipesD ps), some (setsD ss), some (.own 0), some (.lst (names.map .str)), some (.str s.name), some s.d, c, none], [.dic (rdic ss R)]⟩ := by
      refine comp_all (dx := fun u : SetT => D.str u.name) (xs := ss) (fun u => (u.w R).d) (by simp [srcOf, itemsOf, hnm, Function.comp_def]) hl fun u hu => ?_
      exact ⟨[some (pipesD ps), some (setsD ss), some (.own 0), some (.lst (names.map .str)), some (.str s.name), some s.d, c, some (.str u.name)], [some (pipesD ps), some (setsD ss), some (.own 0), some (.lst (names.map .str)), some (.str s.name), some s.d, c, some (.str u.name)], by simp [wipeL], by simp [rdic_get hn hu]⟩
    have e1 : D.tup [pipesD ps, .tup (ss.map fun u => (u.w R).d)] = hallD ps (ss.map (·.w R)) := by
      rw [hallD, setsD, List.map_map]; rfl
    refine SW.nx (e' := ⟨[some (pipesD ps), some (setsD ss), some (.own 0), some (.lst (names.map .str)), some (.str s.name), some s.d, some (ws r), none], [.dic (rdic ss R)]⟩) ?_ ?_
    · simp [c2, e1, r1]
    have pu := rdic_put hn (R := R) hs (r := r)
    have zl : (rdic ss R).length < sizeLine := by rw [rdic, List.length_map]; exact hl'
    have sl := slc_set (s := s)
    have s5 : (5 : Nat) ≤ sizeLine := szl (by omega)
    have s3 : (3 : Nat) ≤ sizeLine := szl (by omega)
    refine SW.nx (e' := ⟨[some (pipesD ps), some (setsD ss), some (.own 0), some (.lst (names.map .str)), some (.str s.name), some s.d, some (ws r), none], [.dic (rdic ss (upd R s.name r))]⟩) ?_ ?_
    · have rs : ∀ e, res e s.d = some s.d := fun _ => rfl
      simp [rs, sl, s5, s3, zl]
      rw [← pu]; rfl
    have dd : ∀ u ∈ ss, (u.name ∈ pre ∨ u = s) → dueT ps (setIn names (upd R s.name r)) u = dueT ps (setIn names R) u := fun u hu hup => by
      refine dueT_congr fun e he => ?_
      have : e.target ≠ s.name := fun z => by
        have lt := below_lt h hB' hu he (by rw [z]; exact List.mem_map.mpr ⟨s, hs, rfl⟩)
        rw [z] at lt
        rcases hup with hup | rfl
        · rw [hx, List.pairwise_append] at p2
          have := p2.2.2 u.name hup s.name List.mem_cons_self
          omega
        · exact Nat.lt_irrefl _ lt
      simp [setIn, upd, this]
    refine ⟨upd R s.name r, _, _, _, rfl, fun u hu hup => ?_, fun u hu hup => ?_⟩
    · have : u.name ≠ s.name := fun z => hup (by simp [z])
      simp only [upd, this, if_false]
      exact i1 u hu fun z => hup (by simp [z])
    · by_cases e : u.name = s.name
      · have : u = s := by
          have h1 := find_name hn hu
          have h2 := find_name hn hs
          rw [e] at h1
          exact Option.some.inj (h1.symm.trans h2)
        subst this
        rw [dd u hu (.inr rfl), ← hr]
        simp [upd]
      · have hp : u.name ∈ pre := by simpa [e] using hup
        rw [dd u hu (.inl hp), ← i2 u hu hp]
        simp [upd, e]
  · obtain ⟨R, a, b, c, rfl, i1, i2⟩ := he
    have c2 : evE cs (run cs fns (n + 4)) (.comp (.ix (.var 2) (.var 7)) (.nm 7) (.seq (.var 3)) (.no) [7]) ⟨[some (pipesD ps), some (setsD ss), some (.own 0), some (.lst (names.map .str)), a, b, c, none], [.dic (rdic ss R)]⟩ = .ok (.lst (ss.map fun u => (u.w R).d)) ⟨[some (pipesD ps), some (setsD ss), some (.own 0), some (.lst (names.map .str)), a, b, c, none], [.dic (rdic ss R)]⟩ := by
      refine comp_all (dx := fun u : SetT => D.str u.name) (xs := ss) (fun u => (u.w R).d) (by simp [srcOf, itemsOf, hnm, Function.comp_def]) hl fun u hu => ?_
      exact ⟨[some (pipesD ps), some (setsD ss), some (.own 0), some (.lst (names.map .str)), a, b, c, some (.str u.name)], [some (pipesD ps), some (setsD ss), some (.own 0), some (.lst (names.map .str)), a, b, c, some (.str u.name)], by simp [wipeL], by simp [rdic_get hn hu]⟩
    have e1 : D.tup [pipesD ps, .tup (ss.map fun u => (u.w R).d)] = hallD ps (ss.map (·.w R)) := by
      rw [hallD, setsD, List.map_map]; rfl
    refine SW.rt (d := hallD ps (ss.map (·.w R))) (e' := ⟨[some (pipesD ps), some (setsD ss), some (.own 0), some (.lst (names.map .str)), a, b, c, none], [.dic (rdic ss R)]⟩) (by simp [c2, e1]) ⟨R, fun s hs => ?_, rfl⟩
    rw [← hnm]
    exact i2 s hs (p1.mem_iff.mpr (by rw [hnm]; exact List.mem_map.mpr ⟨s, hs, rfl⟩))
theorem own_settled_ok (P : Has fns) {n : Nat} {ps : List Pipe} {ss : List SetT} (h : WebOk ps ss) : ∃ R, Settles ps ss R ∧ ∀ st, run cs fns (n+5) 19 [pipesD ps, setsD ss] st = .ok (hallD ps (ss.map (·.w R))) st := by
  have key := own_settled_W P (n := n) h
  cases q : evSs cs (run cs fns (n+4)) fown_settled.body ⟨[some (pipesD ps), some (setsD ss), none, none, none, none, none, none], []⟩ with
  | rt d e =>
    rw [q] at key
    obtain ⟨R, a, b⟩ := key
    refine ⟨R, a, fun st => run_pure P.h19 rfl rfl (by simp [ptrs]) (e := e) ?_ hall_ptr⟩
    rw [← b]
    exact q
  | _ => rw [q] at key; exact key.elim
theorem settled_ok (P : HasS fns) {n : Nat} {ps : List Pipe} {ss : List SetT} (h : WebOk ps ss) : ∃ R, Settles ps ss R ∧ ∀ st, run cs fns (n+8) 20 [pipesD ps, setsD ss] st = .ok (hallD ps (ss.map (·.w R))) st := by
  obtain ⟨R, h1, h2⟩ := own_settled_ok P.toHas (n := n + 2) h
  refine ⟨R, h1, fun st => run_pure P.h20 rfl rfl (by simp [ptrs]) (e := ⟨[some (pipesD ps), some (setsD ss)], []⟩) ?_ hall_ptr⟩
  have h3 := fun st => need_webs_ok P.toHas (n := n) h (st := st)
  simp [fsettled, h2, h3]
/-! ### one solution alone; settled again -/
theorem settles_one {ps : List Pipe} {ss : List SetT} (h : WebOk ps ss) {R R' : Str → List Str} (h1 : Settles ps ss R) (h2 : Settles ps ss R') : ∀ s ∈ ss, R s.name = R' s.name := by
  obtain ⟨r, _, hr⟩ := h.rank
  have : ∀ k, ∀ s ∈ ss, r s.name < k → R s.name = R' s.name := by
    intro k
    induction k with
    | zero => intro s _ z; exact absurd z (Nat.not_lt_zero _)
    | succ k ih =>
      intro s hs hk
      rw [h1 s hs, h2 s hs]
      congr 1
      refine dueT_congr fun e he => ?_
      unfold setIn
      by_cases ht : e.target ∈ ss.map (·.name)
      · have lt := hr s hs e he ht
        obtain ⟨u, hu, hue⟩ := List.mem_map.mp ht
        have := ih u hu (by rw [hue]; omega)
        rw [hue] at this
        rw [this]
      · simp [ht]
  exact fun s hs => this _ s hs (Nat.lt_succ_self _)
theorem w_eq {ss : List SetT} {R R' : Str → List Str} (h : ∀ s ∈ ss, R s.name = R' s.name) : ss.map (·.w R) = ss.map (·.w R') := List.map_congr_left fun s hs => by
  unfold SetT.w
  rw [h s hs]
theorem names_w {ss : List SetT} {R : Str → List Str} : (ss.map (·.w R)).map (·.name) = ss.map (·.name) := by rw [List.map_map]; rfl
theorem rowOf_rowOf {due row : List Str} (hd : due.Nodup) : rowOf due (rowOf due row) = rowOf due row := by
  have m : ∀ t, t ∈ rowOf due row ↔ t ∈ due := fun t => by
    unfold rowOf
    simp only [List.mem_append, List.mem_filter, decide_eq_true_eq]
    constructor
    · rintro (h | h)
      · exact h.2
      · exact h.1
    · intro h
      by_cases hr : t ∈ row
      · exact .inl ⟨hr, h⟩
      · exact .inr ⟨h, fun z => hr z.1⟩
  generalize hX : rowOf due row = X at m ⊢
  unfold rowOf
  have e1 : X.filter (fun t => decide (t ∈ due)) = X := by
    rw [List.filter_eq_self]
    intro t ht
    simp [(m t).mp ht]
  rw [e1]
  have e2 : due.filter (fun t => decide (t ∉ X)) = [] := by
    rw [List.filter_eq_nil_iff]
    intro t ht
    simp [(m t).mpr ht]
  rw [e2, List.append_nil]
/-- a settled hall is settled -/
theorem settles_again {ps : List Pipe} {ss : List SetT} (h : WebOk ps ss) {R : Str → List Str} (h1 : Settles ps ss R) : Settles ps (ss.map (·.w R)) R := by
  intro s' hs'
  obtain ⟨s, hs, rfl⟩ := List.mem_map.mp hs'
  rw [names_w, w_dueT]
  show R s.name = rowOf (dueT ps (setIn (ss.map (·.name)) R) s) (R s.name)
  have e := h1 s hs
  rw [e, rowOf_rowOf ((h.sok s hs).tn.sublist dueT_sub), ← e]
theorem web_w {ps : List Pipe} {ss : List SetT} (h : WebOk ps ss) {R : Str → List Str} (hR : ∀ s ∈ ss, SetOk (s.w R)) : WebOk ps (ss.map (·.w R)) where
  p4 := h.p4
  s4 := by rw [List.length_map]; exact h.s4
  pok := h.pok
  sok := fun s' hs' => by
    obtain ⟨s, hs, rfl⟩ := List.mem_map.mp hs'
    exact hR s hs
  names := by rw [names_w]; exact h.names
  wn := by
    rw [List.flatMap_map]
    exact h.wn
  w6 := by
    rw [List.flatMap_map]
    exact h.w6
  tg := fun s' hs' e he => by
    obtain ⟨s, hs, rfl⟩ := List.mem_map.mp hs'
    rw [names_w]
    exact h.tg s hs e he
  asked := fun s' hs' e he ht => by
    obtain ⟨s, hs, rfl⟩ := List.mem_map.mp hs'
    rw [names_w] at ht
    exact h.asked s hs e he ht
  rank := by
    obtain ⟨r, h1, h2⟩ := h.rank
    refine ⟨r, h1, fun s' hs' e he ht => ?_⟩
    obtain ⟨s, hs, rfl⟩ := List.mem_map.mp hs'
    rw [names_w] at ht
    exact h2 s hs e he ht
theorem web_settled {ps : List Pipe} {ss : List SetT} (h : WebOk ps ss) {R : Str → List Str} (hR : Settles ps ss R) : WebOk ps (ss.map (·.w R)) :=
  web_w h fun s hs => w_ok (ss := ss) (h.sok s hs) (.inr ⟨_, _, hR s hs⟩)
theorem w_w {ss : List SetT} {R R' : Str → List Str} (h : ∀ s ∈ ss, R s.name = R' s.name) : (ss.map (·.w R)).map (·.w R') = ss.map (·.w R) := by
  rw [List.map_map]
  refine List.map_congr_left fun s hs => ?_
  show ({ s with row := R' s.name } : SetT) = { s with row := R s.name }
  rw [h s hs]
/-- settled, and again -/
theorem settled_twice (P : HasS fns) {n : Nat} {ps : List Pipe} {ss : List SetT} (h : WebOk ps ss) : ∃ R, Settles ps ss R ∧ (∀ st, run cs fns (n+8) 20 [pipesD ps, setsD ss] st = .ok (hallD ps (ss.map (·.w R))) st) ∧
    ∀ st, run cs fns (n+8) 20 [pipesD ps, setsD (ss.map (·.w R))] st = .ok (hallD ps (ss.map (·.w R))) st := by
  obtain ⟨R, h1, h2⟩ := settled_ok P (n := n) h
  obtain ⟨R', h3, h4⟩ := settled_ok P (n := n) (web_settled h h1)
  have e := settles_one (web_settled h h1) (settles_again h h1) h3
  refine ⟨R, h1, h2, fun st => ?_⟩
  rw [h4, w_w fun s hs => ?_]
  exact e (s.w R) (List.mem_map.mpr ⟨s, hs, rfl⟩)
end Mi.A
end

section
set_option Elab.async false
set_option linter.all false
set_option maxRecDepth 100000
set_option maxHeartbeats 4000000
/-! A9: the law's own settling. -/
namespace Mi.A
open PySem L2
theorem run_cutW {cs : List D} {fns : List Fn} {n i : Nat} {ds : List D} {st : List Own} {fn : Fn} {T : D → List Own → Prop} (h : fns[i]? = some fn) (hc : ds.length = fn.np) (hm : fn.md = .cut)
    (hb : SW (evSs cs (run cs fns n) fn.body ⟨ds.map some ++ List.replicate (fn.ns - fn.np) none, st⟩) (fun e => (e.st.take st.length).all (ptrO st.length) = true ∧ T .non (e.st.take st.length))
      (fun d e => ∃ d', give st.length e d = some d' ∧ ptr st.length d' = true ∧ (e.st.take st.length).all (ptrO st.length) = true ∧ T d' (e.st.take st.length))) : ∃ d st', run cs fns (n + 1) i ds st = .ok d st' ∧ T d st' := by
  have hne : fn.md ≠ .pure := by rw [hm]; decide
  rw [run_at h hc fun z => absurd z hne, if_neg hne, hm]
  cases q : evSs cs (run cs fns n) fn.body ⟨ds.map some ++ List.replicate (fn.ns - fn.np) none, st⟩ with
  | nx e =>
    rw [q] at hb
    obtain ⟨h1, h2⟩ := hb
    exact ⟨_, _, by simp [endOk, cutOk, give, ptr, h1], h2⟩
  | rt d e =>
    rw [q] at hb
    obtain ⟨d', h0, h1, h2, h3⟩ := hb
    exact ⟨d', _, by simp [endOk, cutOk, h0, h1, h2], h3⟩
  | _ => rw [q] at hb; exact hb.elim
theorem turnsO_map {α β : Type} {base : List (Option D)} {f : D → En → R (Option β)} {dx : α → D} {g : α → Option β} {st : List Own} {j : Nat} {xs : List α} (hj : st[j]? = some (.lst (xs.map dx))) (h : ∀ x ∈ xs, ∃ vs, f (dx x) ⟨base, st⟩ = .ok (g x) ⟨vs, st⟩) :
    ∀ {m k : Nat}, k ≤ xs.length → xs.length < m + k → turnsO base f j m k st = .ok ((xs.drop k).filterMap g) ⟨base, st⟩
  | 0, k, hk, hm => absurd hm (by omega)
  | m + 1, k, hkl, hm => by
    rw [turnsO]
    simp only [cellL_own, hj]
    by_cases hk : k < xs.length
    · rw [List.getElem?_map, List.getElem?_eq_getElem hk]
      obtain ⟨vs, e⟩ := h xs[k] (List.getElem_mem hk)
      simp only [Option.map_some, e]
      rw [turnsO_map hj h (m := m) (k := k + 1) hk (by omega), List.drop_eq_getElem_cons hk, List.filterMap_cons]
      cases g xs[k] <;> rfl
    · rw [List.getElem?_map, List.getElem?_eq_none (by omega), List.drop_eq_nil_of_le (by omega)]
      rfl
/-- a comprehension with a test over a cell's list, the store kept -/
theorem compO_if {cs : List D} {cal : Cal} {α : Type} {elt tt : CE} {tg : CT} {it : CI} {vs : List Nat} {e : En} {dx : α → D} {xs : List α} {j : Nat} (p : α → Bool) (g : α → D) (hi : evI cs cal it e = .ok (.live j) e) (hj : e.st[j]? = some (.lst (xs.map dx))) (hl : xs.length < 1000000)
    (h : ∀ x ∈ xs, ∃ vs1 vs2, asg tg (dx x) ⟨wipeL e.vs vs, e.st⟩ = some ⟨vs1, e.st⟩ ∧ evT cs cal (.yes tt) ⟨vs1, e.st⟩ = .ok (p x) ⟨vs2, e.st⟩ ∧ (p x = true → ∃ vs3, evE cs cal elt ⟨vs2, e.st⟩ = .ok (g x) ⟨vs3, e.st⟩)) :
    evE cs cal (.comp elt tg it (.yes tt) vs) e = .ok (.lst ((xs.filter p).map g)) e := by
  rw [evE_comp, hi, bind_ok]
  simp only [turnsS]
  rw [turnsO_map (dx := dx) (xs := xs) (g := fun x => if p x = true then some (g x) else none) hj ?_ (m := fuel) (k := 0) (Nat.zero_le _) (by rw [Nat.add_zero]; exact hl)]
  · rw [bind_ok, List.drop_zero, filterMap_if, if_pos (by
      rw [List.length_map]
      exact Nat.le_trans (List.length_filter_le _ _) (szl (by omega)))]
  · intro x hx
    obtain ⟨vs1, vs2, h1, h2, h3⟩ := h x hx
    by_cases hp : p x = true
    · obtain ⟨vs3, h3⟩ := h3 hp
      exact ⟨vs3, by simp only [h1, h2, bind_ok, hp, if_true, h3]⟩
    · exact ⟨vs2, by simp only [h1, h2, bind_ok, if_neg hp]⟩
@[simp] theorem insertO_lst {xs : List D} {i : Int} {y : D} : insertO (.lst xs) (.int i) y = if xs.length < sizeLine ∧ 0 ≤ i ∧ i < 9223372036854775808 then some (.non, .lst (xs.take i.toNat ++ [y] ++ xs.drop i.toNat)) else none := rfl
/-- rows by names, as the law keeps them -/
def rowsD (rd : List (Str × List Str)) : List (Key × D) := rd.map fun p => (.inr p.1, ws p.2)
theorem ptrO_rows {n : Nat} {rd : List (Str × List Str)} : ptrO n (.dic (rowsD rd)) = true := by
  show ptrK n (rowsD rd) = true
  induction rd with
  | nil => rfl
  | cons p rd ih =>
    show (ptr n (ws p.2) && ptrK n (rowsD rd)) = true
    rw [ptr_ws, ih]; rfl
theorem rowsD_in {rd : List (Str × List Str)} {x : Str} : isIn (.str x) (.dic (rowsD rd)) = some (decide (x ∈ rd.map (·.1))) := by
  show some ((dget (rowsD rd) (.inr x)).isSome) = _
  unfold rowsD
  rw [dget_map]
  congr 1
  rw [Option.isSome_map, Bool.eq_iff_iff, List.find?_isSome]
  simp
theorem rowsD_get {rd : List (Str × List Str)} {R : Str → List Str} (h : ∀ p ∈ rd, p.2 = R p.1) {x : Str} (hx : x ∈ rd.map (·.1)) : dget (rowsD rd) (.inr x) = some (ws (R x)) := by
  unfold rowsD
  rw [dget_map]
  cases q : rd.find? fun p => decide (p.1 = x) with
  | none =>
    rw [List.find?_eq_none] at q
    obtain ⟨p, hp, e⟩ := List.mem_map.mp hx
    exact absurd e (by simpa using q p hp)
  | some p =>
    have e : p.1 = x := by simpa using List.find?_some q
    have := h p (List.mem_of_find?_eq_some q)
    rw [e] at this
    rw [← this]
    rfl
theorem rowsD_put {rd : List (Str × List Str)} {x : Str} {r : List Str} (h : x ∉ rd.map (·.1)) : dput (rowsD rd) (.inr x) (ws r) = rowsD (rd ++ [(x, r)]) := by
  rw [dput_new]
  · simp [rowsD]
  · intro z
    obtain ⟨kv, h1, h2⟩ := List.mem_map.mp z
    obtain ⟨p, hp, rfl⟩ := List.mem_map.mp h1
    exact h (List.mem_map.mpr ⟨p, hp, Sum.inr.inj h2⟩)
theorem filt3 {f : Str → Bool} {a b c : Bool} (ha : f sIn = a) (hb : f sOut = b) (hc : f sGone = c) : (([(sIn, a), (sOut, b), (sGone, c)] : List (Str × Bool)).filter (·.2)).map (fun p => D.str p.1) = (words.filter f).map .str := by
  subst ha hb hc
  unfold words
  cases h1 : f sIn <;> cases h2 : f sOut <;> cases h3 : f sGone <;> simp [h1, h2, h3]
theorem readyP_in {p : Pipe} : readyP p sIn = (decide (0 < p.held) || p.shut) := by simp [readyP]
theorem readyP_out {p : Pipe} : readyP p sOut = (decide (p.held < p.room) && !p.shut) := by
  have n1 : ¬(sOut = sIn) := by decide
  simp [readyP, n1]
theorem readyP_gone {p : Pipe} : readyP p sGone = p.shut := by
  have n2 : ¬(sGone = sIn) := by decide
  have n3 : ¬(sGone = sOut) := by decide
  simp [readyP, n2, n3]
variable {fns : List Fn}
theorem law_ready_ok (P : Has fns) {n : Nat} {ps : List Pipe} (h : ∀ p ∈ ps, PipeOk p) (h4 : ps.length ≤ 4) {rd : List (Str × List Str)} {x : Str} (hx : Pl x) {r : List Str} (hr : ps.find? (fun p => decide (p.name = x)) = none → dget (rowsD rd) (.inr x) = some (ws r)) (hrp : ∀ z ∈ r, Pl z) :
    run cs fns (n+1) 31 [pipesD ps, .own 0, .str x] [.dic (rowsD rd)] = .ok (.lst ((soR ps (decide (r ≠ [])) x).map .str)) [.dic (rowsD rd)] := by
  obtain ⟨d, st', h1, h2, h3⟩ := run_cutW (cs := cs) (n := n) (ds := [pipesD ps, .own 0, .str x]) (st := [.dic (rowsD rd)]) (T := fun d st' => d = .lst ((soR ps (decide (r ≠ [])) x).map .str) ∧ st' = [.dic (rowsD rd)]) P.h31 rfl rfl (by
    simp only [f_law_ready]
    refine SW.fr (dx := Pipe.d) (xs := ps) (e0 := ⟨[some (pipesD ps), some (.own 0), some (.str x), none, none, none, none, none, none, none], [.dic (rowsD rd)]⟩)
      (fun pre e => (∃ a b c d, e = ⟨[some (pipesD ps), some (.own 0), some (.str x), a, b, c, d, none, none, none], [.dic (rowsD rd)]⟩) ∧ ∀ p ∈ pre, p.name ≠ x) (by simp [pipesD, srcOf, itemsOf]) ⟨⟨_, _, _, _, rfl⟩, by simp⟩ (fun pre p q e hp he => ?_) fun e he => ?_
    · obtain ⟨⟨a, b, c, d, rfl⟩, hn⟩ := he
      have hps : p ∈ ps := by rw [hp]; simp
      refine ⟨⟨[some (pipesD ps), some (.own 0), some (.str x), some (.str p.name), some (.int p.room), some (.int p.held), some (.bl p.shut), none, none, none], [.dic (rowsD rd)]⟩, by simp [Pipe.d], ?_⟩
      have d1 := deq_str (h p hps).nm.pl hx
      by_cases e : p.name = x
      · have hf : ps.find? (fun p => decide (p.name = x)) = some p := by
          rw [List.find?_eq_some_iff_append]
          exact ⟨by simp [e], pre, q, hp, fun a ha => by simp [hn a ha]⟩
        rw [decide_eq_true e] at d1
        have o1 : (evOr cs (run cs fns n) (.bl (decide (0 < p.held))) (.cons (.var 6) .nil) ⟨[some (pipesD ps), some (.own 0), some (.str x), some (.str p.name), some (.int p.room), some (.int p.held), some (.bl p.shut), none, none, none], [.dic (rowsD rd)]⟩) = .ok (.bl (decide (0 < p.held) || p.shut)) ⟨[some (pipesD ps), some (.own 0), some (.str x), some (.str p.name), some (.int p.room), some (.int p.held), some (.bl p.shut), none, none, none], [.dic (rowsD rd)]⟩ := by
          cases decide (0 < p.held) <;> simp
        obtain ⟨st2, hst2⟩ : ∃ st2 : List Own, st2 = [.dic (rowsD rd), .lst [.tup [.str (Str.ofString "in"), .bl (decide (0 < p.held) || p.shut)], .tup [.str (Str.ofString "gone"), .bl p.shut]]] := ⟨_, rfl⟩
        have o2 : ∀ (vs : List (Option D)) (st : List Own), vs = [some (pipesD ps), some (.own 0), some (.str x), some (.str p.name), some (.int p.room), some (.int p.held), some (.bl p.shut), some (.own 1), none, none] → (evAnd cs (run cs fns n) (.bl (decide (p.held < p.room))) (.cons (.not (.var 6)) .nil) ⟨vs, st⟩) = .ok (.bl (decide (p.held < p.room) && !p.shut)) ⟨vs, st⟩ := by
          rintro vs st rfl
          cases decide (p.held < p.room) <;> simp
        obtain ⟨L, hL⟩ : ∃ L : List (Str × Bool), L = [(Str.ofString "in", decide (0 < p.held) || p.shut), (Str.ofString "out", decide (p.held < p.room) && !p.shut), (Str.ofString "gone", p.shut)] := ⟨_, rfl⟩
        have c1 : evE cs (run cs fns n) (.comp (.var 8) (.tup [.nm 8, .nm 9]) (.seq (.var 7)) (.yes (.var 9)) [8, 9]) ⟨[some (pipesD ps), some (.own 0), some (.str x), some (.str p.name), some (.int p.room), some (.int p.held), some (.bl p.shut), some (.own 1), none, none], [.dic (rowsD rd), .lst (L.map fun p => .tup [.str p.1, .bl p.2])]⟩ = .ok (.lst ((L.filter (·.2)).map fun p => .str p.1)) ⟨[some (pipesD ps), some (.own 0), some (.str x), some (.str p.name), some (.int p.room), some (.int p.held), some (.bl p.shut), some (.own 1), none, none], [.dic (rowsD rd), .lst (L.map fun p => .tup [.str p.1, .bl p.2])]⟩ := by
          refine compO_if (j := 1) (dx := fun p : Str × Bool => .tup [.str p.1, .bl p.2]) (xs := L) (·.2) (fun p => .str p.1) (by simp [srcOf]) rfl (by rw [hL]; simp) fun w hw => ?_
          exact ⟨_, _, by simp [wipeL]; rfl, by simp; rfl, fun _ => ⟨_, by simp; rfl⟩⟩
        have fin : (L.filter (·.2)).map (fun p => D.str p.1) = (soR ps (decide (r ≠ [])) x).map .str := by
          rw [hL]
          simp only [soR, hf]
          exact filt3 readyP_in readyP_out readyP_gone
        have eL : (L.map fun p => D.tup [.str p.1, .bl p.2]) = [.tup [.str (Str.ofString "in"), .bl (decide (0 < p.held) || p.shut)], .tup [.str (Str.ofString "out"), .bl (decide (p.held < p.room) && !p.shut)], .tup [.str (Str.ofString "gone"), .bl p.shut]] := by rw [hL]; rfl
        rw [fin, eL] at c1
        have s2 : (2 : Nat) < sizeLine := szl' (by omega)
        refine SW.rt (d := .lst ((soR ps (decide (r ≠ [])) x).map .str)) (e' := ⟨[some (pipesD ps), some (.own 0), some (.str x), some (.str p.name), some (.int p.room), some (.int p.held), some (.bl p.shut), some (.own 1), none, none], [.dic (rowsD rd), .lst [.tup [.str (Str.ofString "in"), .bl (decide (0 < p.held) || p.shut)], .tup [.str (Str.ofString "out"), .bl (decide (p.held < p.room) && !p.shut)], .tup [.str (Str.ofString "gone"), .bl p.shut]]]⟩) ?_ ⟨_, rfl, ptr_strs, by simp [ptrO_rows], rfl, rfl⟩
        simp [-evOr_cons, -evAnd_cons, d1, lit_in, lit_out, lit_gone, o1, o2, s2, c1]
      · rw [decide_eq_false e] at d1
        refine SW.nx (e' := ⟨[some (pipesD ps), some (.own 0), some (.str x), some (.str p.name), some (.int p.room), some (.int p.held), some (.bl p.shut), none, none, none], [.dic (rowsD rd)]⟩) (by simp [d1]) ?_
        exact ⟨⟨_, _, _, _, rfl⟩, fun u hu => by
          rcases List.mem_append.mp hu with hu | hu
          · exact hn u hu
          · simp at hu; rw [hu]; exact e⟩
    · obtain ⟨⟨a, b, c, d, rfl⟩, hn⟩ := he
      have hf : ps.find? (fun p => decide (p.name = x)) = none := by
        rw [List.find?_eq_none]
        intro p hp; simp [hn p hp]
      have g := hr hf
      have d2 := deq_ws (x := r) (y := []) hrp (by simp)
      have d3 : deq (ws r) (.tup []) = some (decide (r = [])) := d2
      refine SW.rt (d := .lst ((soR ps (decide (r ≠ [])) x).map .str)) (e' := ⟨[some (pipesD ps), some (.own 0), some (.str x), a, b, c, d, none, none, none], [.dic (rowsD rd)]⟩) ?_ ⟨_, rfl, ptr_strs, by simp [ptrO_rows], rfl, rfl⟩
      by_cases hrn : r = []
      · subst hrn
        simp [g, d3, soR, hf]
      · simp [g, d3, hrn, soR, hf, lit_in])
  rw [h1, h2, h3]
theorem lit_edge : (Str.ofString "edge").length ≤ 1000 := by decide
theorem lit_level : (Str.ofString "level").length ≤ 1000 := by decide
theorem law_due_eq {so : List Str} {e : Ent} (he : EntOk e) : (e.on && decide (so.filter (fun w => decide (w ∈ if e.edge = true then e.fresh else e.asked)) ≠ [])) = dueE so e := by
  unfold dueE readyE
  congr 1
  cases hE : e.edge with
  | false => simp
  | true =>
    simp only [if_true]
    rw [Bool.eq_iff_iff]
    simp only [decide_eq_true_eq, List.any_eq_true, List.mem_filter, ne_eq, List.filter_eq_nil_iff, Classical.not_forall, Classical.not_not]
    constructor
    · rintro ⟨w, h1, h2⟩
      have ha : w ∈ e.asked := by
        rcases he.edge with z | z
        · rw [z] at h2; cases h2
        · exact z.2 w h2
      exact ⟨w, ⟨h1, ha⟩, h2⟩
    · rintro ⟨w, ⟨h1, _⟩, h2⟩
      exact ⟨w, h1, h2⟩
theorem law_due_ok (P : Has fns) {n : Nat} {ps : List Pipe} (h : ∀ p ∈ ps, PipeOk p) (h4 : ps.length ≤ 4) {rd : List (Str × List Str)} {e : Ent} (he : EntOk e) {r : List Str} (hr : ps.find? (fun p => decide (p.name = e.target)) = none → dget (rowsD rd) (.inr e.target) = some (ws r)) (hrp : ∀ z ∈ r, Pl z) :
    run cs fns (n+2) 32 [pipesD ps, .own 0, e.d] [.dic (rowsD rd)] = .ok (.bl (dueE (soR ps (decide (r ≠ [])) e.target) e)) [.dic (rowsD rd)] := by
  obtain ⟨so, hso⟩ : ∃ so, so = soR ps (decide (r ≠ [])) e.target := ⟨_, rfl⟩
  have h1 := law_ready_ok P (n := n) h h4 he.nm.pl hr hrp
  have hs3 := soR_sub (ps := ps) (b := decide (r ≠ [])) (x := e.target)
  rw [← hso] at h1 hs3 ⊢
  rw [← law_due_eq he]
  obtain ⟨sm, hsm⟩ : ∃ sm, sm = if e.edge = true then e.fresh else e.asked := ⟨_, rfl⟩
  rw [← hsm]
  obtain ⟨d, st', h1, h2, h3⟩ := run_cutW (cs := cs) (n := n + 1) (ds := [pipesD ps, .own 0, e.d]) (st := [.dic (rowsD rd)]) (T := fun d st' => d = .bl (e.on && decide (so.filter (fun w => decide (w ∈ sm)) ≠ [])) ∧ st' = [.dic (rowsD rd)]) P.h32 rfl rfl (by
    simp only [f_law_due]
    refine SW.nx (e' := ⟨[some (pipesD ps), some (.own 0), some e.d, some (.bl e.on), some (ws e.fresh), none, none, some (.str e.target), some (ws e.asked), some (.str (mode e.edge)), some (.bl e.once), some (.bl e.alone), none], [.dic (rowsD rd)]⟩) (by simp [Ent.d, Ent.i]) ?_
    refine SW.nx (e' := ⟨[some (pipesD ps), some (.own 0), some e.d, some (.bl e.on), some (ws e.fresh), some (ws sm), some (.lst (so.map .str)), some (.str e.target), some (ws e.asked), some (.str (mode e.edge)), some (.bl e.once), some (.bl e.alone), none], [.dic (rowsD rd)]⟩) ?_ ?_
    · have d1 := mode_edge (b := e.edge)
      cases hE : e.edge <;> rw [hE] at d1 hsm <;> simp at hsm <;> subst hsm <;> simp [d1, lit_edge, h1]
    have c1 : evE cs (run cs fns (n + 1)) (.comp (.var 12) (.nm 12) (.seq (.var 6)) (.yes (.cmp .isin (.var 12) (.var 5))) [12]) ⟨[some (pipesD ps), some (.own 0), some e.d, some (.bl e.on), some (ws e.fresh), some (ws sm), some (.lst (so.map .str)), some (.str e.target), some (ws e.asked), some (.str (mode e.edge)), some (.bl e.once), some (.bl e.alone), none], [.dic (rowsD rd)]⟩ = .ok (.lst ((so.filter fun w => decide (w ∈ sm)).map .str)) ⟨[some (pipesD ps), some (.own 0), some e.d, some (.bl e.on), some (ws e.fresh), some (ws sm), some (.lst (so.map .str)), some (.str e.target), some (ws e.asked), some (.str (mode e.edge)), some (.bl e.once), some (.bl e.alone), none], [.dic (rowsD rd)]⟩ := by
      refine comp_if (dx := D.str) (xs := so) (fun w => decide (w ∈ sm)) .str (by simp [srcOf, itemsOf]) (szl (by omega)) fun w hw => ?_
      exact ⟨_, _, by simp [wipeL]; rfl, by simp [isIn_ws]; rfl, fun _ => ⟨_, by simp; rfl⟩⟩
    have d2 := deq_strs (x := so.filter fun w => decide (w ∈ sm)) (y := []) (fun z hz => pl_words z (hs3.2 z (List.mem_filter.mp hz).1)) (by simp)
    simp only [List.map_nil] at d2
    generalize so.filter (fun w => decide (w ∈ sm)) = F at *
    refine SW.rt (d := .bl (e.on && decide (F ≠ []))) (e' := ⟨[some (pipesD ps), some (.own 0), some e.d, some (.bl e.on), some (ws e.fresh), some (ws sm), some (.lst (so.map .str)), some (.str e.target), some (ws e.asked), some (.str (mode e.edge)), some (.bl e.once), some (.bl e.alone), none], [.dic (rowsD rd)]⟩) ?_ ⟨_, rfl, rfl, by simp [ptrO_rows], rfl, rfl⟩
    cases hon : e.on
    · simp
    · rw [hon] at c1
      simp [c1, d2])
  rw [h1, h2, h3]
/-- rows that are those of R, of names of sets -/
structure RdOk (ss : List SetT) (R : Str → List Str) (rd : List (Str × List Str)) : Prop where
  val : ∀ p ∈ rd, p.2 = R p.1
  len : rd.length ≤ ss.length
  nd : (rd.map (·.1)).Nodup
  sub : ∀ x ∈ rd.map (·.1), x ∈ ss.map (·.name)
theorem target_pipe {ps : List Pipe} {ss : List SetT} (h : WebOk ps ss) {t : Str} (ht : t ∈ ps.map (·.name) ++ ss.map (·.name)) (hp : ps.find? (fun p => decide (p.name = t)) = none) : t ∈ ss.map (·.name) := by
  rcases List.mem_append.mp ht with z | z
  · obtain ⟨p, hp', e⟩ := List.mem_map.mp z
    rw [List.find?_eq_none] at hp
    exact absurd e (by simpa using hp p hp')
  · exact z
theorem settles_pl {ps : List Pipe} {ss : List SetT} (h : WebOk ps ss) {R : Str → List Str} (hR : Settles ps ss R) {x : Str} (hx : x ∈ ss.map (·.name)) : ∀ z ∈ R x, Pl z := by
  obtain ⟨s, hs, rfl⟩ := List.mem_map.mp hx
  have w := w_ok (ss := ss) (h.sok s hs) (.inr ⟨_, _, hR s hs⟩)
  exact fun z hz => w.pl z (w.rt z hz)
theorem soR_pipe {ps : List Pipe} {x : Str} {a b : Bool} (h : ps.find? (fun p => decide (p.name = x)) ≠ none) : soR ps a x = soR ps b x := by
  unfold soR
  cases q : ps.find? fun p => decide (p.name = x) with
  | none => exact absurd q h
  | some p => rfl
theorem law_row_ok (P : Has fns) {ps : List Pipe} {ss : List SetT} (h : WebOk ps ss) {R : Str → List Str} (hR : Settles ps ss R) {r : Str → Nat} (hr : ∀ s ∈ ss, ∀ e ∈ s.ents, e.target ∈ ss.map (·.name) → r e.target < r s.name) : ∀ (k n : Nat) (x : Str), x ∈ ss.map (·.name) → r x < k → ∀ rd, RdOk ss R rd →
    ∃ rd', RdOk ss R rd' ∧ (∀ y ∈ rd.map (·.1), y ∈ rd'.map (·.1)) ∧ x ∈ rd'.map (·.1) ∧ (∀ y ∈ rd'.map (·.1), y ∈ rd.map (·.1) ∨ r y ≤ r x) ∧ run cs fns (n + 3 + k) 33 [pipesD ps, setsD ss, .own 0, .str x] [.dic (rowsD rd)] = .ok .non [.dic (rowsD rd')]
  | 0, n, x, hx, hk, rd, hd => absurd hk (Nat.not_lt_zero _)
  | k + 1, n, x, hx, hk, rd, hd => by
    obtain ⟨d, st', h1, h2, rd', h3, h4, h5, h6, h7⟩ := run_cutW (cs := cs) (fns := fns) (n := n + 3 + k) (ds := [pipesD ps, setsD ss, .own 0, .str x]) (st := [.dic (rowsD rd)]) (T := fun d st' => d = .non ∧ ∃ rd', st' = [.dic (rowsD rd')] ∧ RdOk ss R rd' ∧ (∀ y ∈ rd.map (·.1), y ∈ rd'.map (·.1)) ∧ x ∈ rd'.map (·.1) ∧ ∀ y ∈ rd'.map (·.1), y ∈ rd.map (·.1) ∨ r y ≤ r x) P.h33 rfl rfl (by
      simp only [f_law_row]
      have hn := h.sets.names
      obtain ⟨s, hs, rfl⟩ := List.mem_map.mp hx
      have hl : ss.length ≤ sizeLine := szl (by have := h.s4; omega)
      have i1 := rowsD_in (rd := rd) (x := s.name)
      by_cases hin : s.name ∈ rd.map (·.1)
      · rw [decide_eq_true hin] at i1
        refine SW.nx (e' := ⟨[some (pipesD ps), some (setsD ss), some (.own 0), some (.str s.name), none, none, none, none, none, none, none, none], [.dic (rowsD rd)]⟩) (by simp [i1]) (SW.nil ⟨by simp [ptrO_rows], trivial, rd, rfl, hd, fun y hy => hy, hin, fun y hy => .inl hy⟩)
      · rw [decide_eq_false hin] at i1
        refine SW.condT (e1 := ⟨[some (pipesD ps), some (setsD ss), some (.own 0), some (.str s.name), none, none, none, none, none, none, none, none], [.dic (rowsD rd)]⟩) (by simp [i1]) ?_
        have c1 : evE cs (run cs fns (n + 3 + k)) (.comp (.var 10) (.nm 10) (.seq (.var 1)) (.yes (.cmp .eq (.ix (.var 10) (.int 0)) (.var 3))) [10]) ⟨[some (pipesD ps), some (setsD ss), some (.own 0), some (.str s.name), none, none, none, none, none, none, none, none], [.dic (rowsD rd)]⟩ = .ok (.lst ((ss.filter fun u => decide (u.name = s.name)).map SetT.d)) ⟨[some (pipesD ps), some (setsD ss), some (.own 0), some (.str s.name), none, none, none, none, none, none, none, none], [.dic (rowsD rd)]⟩ := by
          refine comp_if (dx := SetT.d) (xs := ss) (fun u => decide (u.name = s.name)) SetT.d (by simp [setsD, srcOf, itemsOf]) hl fun u hu => ?_
          have d1 := deq_str (h.sok u hu).nm.pl (h.sok s hs).nm.pl
          refine ⟨[some (pipesD ps), some (setsD ss), some (.own 0), some (.str s.name), none, none, none, none, none, none, some u.d, none], [some (pipesD ps), some (setsD ss), some (.own 0), some (.str s.name), none, none, none, none, none, none, some u.d, none], by simp [wipeL], ?_, fun _ => ⟨_, by simp; rfl⟩⟩
          simp only [SetT.d]
          simp [d1]
        have c1' : ∃ l, (ss.filter fun u => decide (u.name = s.name)).map SetT.d = s.d :: l := by
          have hm : s ∈ ss.filter fun u => decide (u.name = s.name) := List.mem_filter.mpr ⟨hs, by simp⟩
          cases q : ss.filter fun u => decide (u.name = s.name) with
          | nil => rw [q] at hm; cases hm
          | cons u l =>
            have hu : u ∈ ss.filter fun u => decide (u.name = s.name) := by rw [q]; simp
            have := List.mem_filter.mp hu
            have e : u = s := by
              have h1 := find_name hn this.1
              have h2 := find_name hn hs
              rw [of_decide_eq_true this.2] at h1
              exact Option.some.inj (h1.symm.trans h2)
            exact ⟨_, by rw [e]; rfl⟩
        obtain ⟨l, hl1⟩ := c1'
        rw [hl1] at c1
        refine SW.nx (e' := ⟨[some (pipesD ps), some (setsD ss), some (.own 0), some (.str s.name), some s.d, none, none, none, none, none, none, none], [.dic (rowsD rd)]⟩) (by simp [c1]) ?_
        have c2 : evE cs (run cs fns (n + 3 + k)) (.comp (.ix (.var 10) (.int 0)) (.nm 10) (.seq (.var 1)) (.no) [10]) ⟨[some (pipesD ps), some (setsD ss), some (.own 0), some (.str s.name), some s.d, none, none, none, none, none, none, none], [.dic (rowsD rd)]⟩ = .ok (.lst (ss.map fun s => .str s.name)) ⟨[some (pipesD ps), some (setsD ss), some (.own 0), some (.str s.name), some s.d, none, none, none, none, none, none, none], [.dic (rowsD rd)]⟩ := by
          refine comp_all (dx := SetT.d) (fun s => .str s.name) (by simp [setsD, srcOf, itemsOf]) hl fun s hs => ?_
          exact ⟨_, _, by simp [wipeL]; rfl, by simp [SetT.d]; rfl⟩
        obtain ⟨names, hnm⟩ : ∃ l, l = ss.map (·.name) := ⟨_, rfl⟩
        have e1 : (ss.map fun s => D.str s.name) = names.map .str := by rw [hnm, List.map_map]; rfl
        rw [e1] at c2
        refine SW.nx (e' := ⟨[some (pipesD ps), some (setsD ss), some (.own 0), some (.str s.name), some s.d, some (.lst (names.map .str)), none, none, none, none, none, none], [.dic (rowsD rd)]⟩) (by simp [c2]) ?_
        refine SW.fr (dx := Ent.d) (xs := s.ents) (e0 := ⟨[some (pipesD ps), some (setsD ss), some (.own 0), some (.str s.name), some s.d, some (.lst (names.map .str)), none, none, none, none, none, none], [.dic (rowsD rd)]⟩)
          (fun pre e => ∃ a rd', e = ⟨[some (pipesD ps), some (setsD ss), some (.own 0), some (.str s.name), some s.d, some (.lst (names.map .str)), a, none, none, none, none, none], [.dic (rowsD rd')]⟩ ∧ RdOk ss R rd' ∧ (∀ y ∈ rd.map (·.1), y ∈ rd'.map (·.1)) ∧ (∀ e ∈ pre, e.target ∈ ss.map (·.name) → e.target ∈ rd'.map (·.1)) ∧ ∀ y ∈ rd'.map (·.1), y ∈ rd.map (·.1) ∨ r y < r s.name)
          (by simp [SetT.d, srcOf, itemsOf]) ⟨_, rd, rfl, hd, fun y hy => hy, by simp, fun y hy => .inl hy⟩ (fun pre en post e hx he => ?_) fun e he => ?_
        · obtain ⟨a, rd', rfl, j1, j2, j3, j4⟩ := he
          have hen : en ∈ s.ents := by rw [hx]; simp
          refine ⟨⟨[some (pipesD ps), some (setsD ss), some (.own 0), some (.str s.name), some s.d, some (.lst (names.map .str)), some en.d, none, none, none, none, none], [.dic (rowsD rd')]⟩, by simp, ?_⟩
          have i2 := isIn_strs_l (x := en.target) (l := names)
          by_cases ht : en.target ∈ names
          · rw [decide_eq_true ht] at i2
            rw [hnm] at ht
            have lt := hr s hs en hen ht
            obtain ⟨rd2, k1, k2, k3, k5, k4⟩ := law_row_ok P h hR hr k n en.target ht (by omega) rd' j1
            refine SW.nx (e' := ⟨[some (pipesD ps), some (setsD ss), some (.own 0), some (.str s.name), some s.d, some (.lst (names.map .str)), some en.d, none, none, none, none, none], [.dic (rowsD rd2)]⟩) ?_ (SW.nil ⟨_, rd2, rfl, k1, fun y hy => k2 y (j2 y hy), fun u hu hut => ?_, fun y hy => ?_⟩)
            · simp only [Ent.d, Ent.i]
              simp [i2, k4]
            · rcases List.mem_append.mp hu with hu | hu
              · exact k2 _ (j3 u hu hut)
              · simp at hu; rw [hu]; exact k3
            · rcases k5 y hy with z | z
              · exact j4 y z
              · exact .inr (by omega)
          · rw [decide_eq_false ht] at i2
            refine SW.nx (e' := ⟨[some (pipesD ps), some (setsD ss), some (.own 0), some (.str s.name), some s.d, some (.lst (names.map .str)), some en.d, none, none, none, none, none], [.dic (rowsD rd')]⟩) ?_ (SW.nil ⟨_, rd', rfl, j1, j2, fun u hu hut => ?_, j4⟩)
            · simp only [Ent.d, Ent.i]
              simp [i2]
            · rcases List.mem_append.mp hu with hu | hu
              · exact j3 u hu hut
              · simp at hu; rw [hu] at hut; rw [hnm] at ht; exact absurd hut ht
        · obtain ⟨a, rd', rfl, j1, j2, j3, j4⟩ := he
          have jn : s.name ∉ rd'.map (·.1) := fun z => by
            rcases j4 _ z with z | z
            · exact hin z
            · exact Nat.lt_irrefl _ z
          have hso := h.sok s hs
          obtain ⟨due, hdue⟩ : ∃ due, due = dueT ps (setIn names R) s := ⟨_, rfl⟩
          have dl : due.length ≤ 6 := by rw [hdue]; exact dueT_len hso
          have rl := hso.r6
          have c3 : evE cs (run cs fns (n + 3 + k)) (.comp (.ix (.ix (.var 6) (.int 0)) (.int 0)) (.nm 6) (.seq (.ix (.var 4) (.int 1))) (.yes (.call 32 (.cons (.var 0) (.cons (.var 2) (.cons (.var 6) (.nil)))))) [6]) ⟨[some (pipesD ps), some (setsD ss), some (.own 0), some (.str s.name), some s.d, some (.lst (names.map .str)), a, none, none, none, none, none], [.dic (rowsD rd')]⟩ = .ok (.lst ((s.ents.filter fun e => dueE (soR ps (setIn names R e.target) e.target) e).map fun e => .str e.target)) ⟨[some (pipesD ps), some (setsD ss), some (.own 0), some (.str s.name), some s.d, some (.lst (names.map .str)), a, none, none, none, none, none], [.dic (rowsD rd')]⟩ := by
            refine comp_if (dx := Ent.d) (xs := s.ents) (fun e => dueE (soR ps (setIn names R e.target) e.target) e) (fun e => .str e.target) (by simp [SetT.d, srcOf, itemsOf]) (szl (by have := hso.e6; omega)) fun e he => ?_
            have d1 : run cs fns (n + 3 + k) 32 [pipesD ps, .own 0, e.d] [.dic (rowsD rd')] = .ok (.bl (dueE (soR ps (setIn names R e.target) e.target) e)) [.dic (rowsD rd')] := by
              rw [show n + 3 + k = (n + 1 + k) + 2 by omega]
              by_cases hp : ps.find? (fun p => decide (p.name = e.target)) = none
              · have ht := target_pipe h (h.tg s hs e he) hp
                have := law_due_ok P (n := n + 1 + k) h.pok h.p4 (hso.ents e he) (rd := rd') (r := R e.target) (fun _ => rowsD_get j1.val (j3 e he ht)) (settles_pl h hR ht)
                have e1 : setIn names R e.target = decide (R e.target ≠ []) := by
                  unfold setIn
                  rw [hnm, decide_eq_true ht]; rfl
                rw [e1]
                exact this
              · have := law_due_ok P (n := n + 1 + k) h.pok h.p4 (hso.ents e he) (rd := rd') (r := []) (fun z => absurd z hp) (by simp)
                rw [soR_pipe hp (b := setIn names R e.target)] at this
                exact this
            exact ⟨[some (pipesD ps), some (setsD ss), some (.own 0), some (.str s.name), some s.d, some (.lst (names.map .str)), some e.d, none, none, none, none, none], [some (pipesD ps), some (setsD ss), some (.own 0), some (.str s.name), some s.d, some (.lst (names.map .str)), some e.d, none, none, none, none, none], by simp [wipeL], by simp [d1], fun _ => ⟨_, by simp [Ent.d, Ent.i]; rfl⟩⟩
          have e3 : ((s.ents.filter fun e => dueE (soR ps (setIn names R e.target) e.target) e).map fun e => D.str e.target) = due.map .str := by rw [hdue, dueT, List.map_map]; rfl
          rw [e3] at c3
          refine SW.nx (e' := ⟨[some (pipesD ps), some (setsD ss), some (.own 0), some (.str s.name), some s.d, some (.lst (names.map .str)), a, some (.lst (due.map .str)), none, none, none, none], [.dic (rowsD rd')]⟩) (by simp [c3]) ?_
          have c4 : evE cs (run cs fns (n + 3 + k)) (.comp (.var 11) (.nm 11) (.seq (.ix (.var 4) (.int 2))) (.yes (.cmp .isin (.var 11) (.var 7))) [11]) ⟨[some (pipesD ps), some (setsD ss), some (.own 0), some (.str s.name), some s.d, some (.lst (names.map .str)), a, some (.lst (due.map .str)), none, none, none, none], [.dic (rowsD rd')]⟩ = .ok (.lst ((s.row.filter fun t => decide (t ∈ due)).map .str)) ⟨[some (pipesD ps), some (setsD ss), some (.own 0), some (.str s.name), some s.d, some (.lst (names.map .str)), a, some (.lst (due.map .str)), none, none, none, none], [.dic (rowsD rd')]⟩ := by
            refine comp_if (dx := D.str) (xs := s.row) (fun t => decide (t ∈ due)) .str (by simp [SetT.d, srcOf, itemsOf, ws]) (szl (by omega)) fun w hw => ?_
            exact ⟨_, _, by simp [wipeL]; rfl, by simp [isIn_strs_l]; rfl, fun _ => ⟨_, by simp; rfl⟩⟩
          obtain ⟨stays, hst⟩ : ∃ stays, stays = s.row.filter fun t => decide (t ∈ due) := ⟨_, rfl⟩
          have sl : stays.length ≤ 6 := by rw [hst]; exact Nat.le_trans (List.length_filter_le _ _) rl
          rw [← hst] at c4
          refine SW.nx (e' := ⟨[some (pipesD ps), some (setsD ss), some (.own 0), some (.str s.name), some s.d, some (.lst (names.map .str)), a, some (.lst (due.map .str)), some (.lst (stays.map .str)), none, none, none], [.dic (rowsD rd')]⟩) (by simp [c4]) ?_
          have c5 : evE cs (run cs fns (n + 3 + k)) (.comp (.var 11) (.nm 11) (.seq (.var 7)) (.yes (.cmp .notin (.var 11) (.var 8))) [11]) ⟨[some (pipesD ps), some (setsD ss), some (.own 0), some (.str s.name), some s.d, some (.lst (names.map .str)), a, some (.lst (due.map .str)), some (.lst (stays.map .str)), none, none, none], [.dic (rowsD rd')]⟩ = .ok (.lst ((due.filter fun t => decide (t ∉ stays)).map .str)) ⟨[some (pipesD ps), some (setsD ss), some (.own 0), some (.str s.name), some s.d, some (.lst (names.map .str)), a, some (.lst (due.map .str)), some (.lst (stays.map .str)), none, none, none], [.dic (rowsD rd')]⟩ := by
            refine comp_if (dx := D.str) (xs := due) (fun t => decide (t ∉ stays)) .str (by simp [srcOf, itemsOf]) (szl (by omega)) fun w hw => ?_
            exact ⟨_, _, by simp [wipeL]; rfl, by simp [isIn_strs_l]; rfl, fun _ => ⟨_, by simp; rfl⟩⟩
          have fl : (due.filter fun t => decide (t ∉ stays)).length ≤ 6 := Nat.le_trans (List.length_filter_le _ _) dl
          have sz : stays.length + (due.filter fun t => decide (t ∉ stays)).length ≤ sizeLine := szl (by omega)
          have er : R s.name = stays ++ due.filter fun t => decide (t ∉ stays) := by
            rw [hR s hs, ← hnm, ← hdue, rowOf, ← hst]
          generalize (due.filter fun t => decide (t ∉ stays)) = F at *
          refine SW.nx (e' := ⟨[some (pipesD ps), some (setsD ss), some (.own 0), some (.str s.name), some s.d, some (.lst (names.map .str)), a, some (.lst (due.map .str)), some (.lst (stays.map .str)), some (.lst (F.map .str)), none, none], [.dic (rowsD rd')]⟩) (by simp [c5]) ?_
          have zl : (rowsD rd').length < sizeLine := szl' (by
            have := j1.len
            have := h.s4
            simp [rowsD]; omega)
          have pu := rowsD_put (r := R s.name) jn
          have ok2 : RdOk ss R (rd' ++ [(s.name, R s.name)]) := by
            have nd : ((rd' ++ [(s.name, R s.name)]).map (·.1)).Nodup := by
              rw [List.map_append, List.nodup_append]
              exact ⟨j1.nd, by simp, fun a ha b hb e' => by simp at hb; exact jn (hb ▸ e' ▸ ha)⟩
            have sub : ∀ x ∈ (rd' ++ [(s.name, R s.name)]).map (·.1), x ∈ ss.map (·.name) := fun x hx => by
              rw [List.map_append] at hx
              rcases List.mem_append.mp hx with z | z
              · exact j1.sub x z
              · simp at z; rw [z]; exact List.mem_map.mpr ⟨s, hs, rfl⟩
            refine ⟨fun p hp => ?_, ?_, nd, sub⟩
            · rcases List.mem_append.mp hp with z | z
              · exact j1.val p z
              · simp at z; rw [z]
            · have := nodup_len nd sub
              rw [List.length_map, List.length_map] at this
              exact this
          refine SW.nx (e' := ⟨[some (pipesD ps), some (setsD ss), some (.own 0), some (.str s.name), some s.d, some (.lst (names.map .str)), a, some (.lst (due.map .str)), some (.lst (stays.map .str)), some (.lst (F.map .str)), none, none], [.dic (rowsD (rd' ++ [(s.name, R s.name)]))]⟩) ?_ (SW.nil (SW.nil ⟨by simp [ptrO_rows], trivial, _, rfl, ok2, fun y hy => ?_, by simp, fun y hy => ?_⟩))
          · simp only [ws, er] at pu
            simp [sz, zl]
            rw [er, ← pu]
            simp
          · rw [List.map_append]
            exact List.mem_append_left _ (j2 y hy)
          · rw [List.map_append] at hy
            rcases List.mem_append.mp hy with z | z
            · rcases j4 y z with z | z
              · exact .inl z
              · exact .inr (Nat.le_of_lt z)
            · simp at z; rw [z]; exact .inr (Nat.le_refl _))
    exact ⟨rd', h4, h5, h6, h7, by rw [← h3, ← h2]; exact h1⟩
end Mi.A
end

section
set_option Elab.async false
set_option linter.all false
set_option maxRecDepth 100000
set_option maxHeartbeats 4000000
/-! A10: the law's settled halls, rows put. -/
namespace Mi.A
open PySem L2
theorem nodup_rev {l : List Str} (h : l.Nodup) : l.reverse.Nodup := List.pairwise_reverse.mpr (List.Pairwise.imp (fun {a b} (hab : a ≠ b) => hab.symm) h)
variable {fns : List Fn}
theorem law_settled_ok (P : Has fns) {n : Nat} {ps : List Pipe} {ss : List SetT} (h : WebOk ps ss) {R : Str → List Str} (hR : Settles ps ss R) {st : List Own} : run cs fns (n+8) 34 [pipesD ps, setsD ss] st = .ok (hallD ps (ss.map (·.w R))) st := by
  obtain ⟨r, hr4, hr⟩ := h.rank
  have hl : ss.length ≤ sizeLine := szl (by have := h.s4; omega)
  refine run_pureW P.h34 rfl rfl (by simp [ptrs]) ?_ hall_ptr
  simp only [f_law_settled]
  refine SW.nx (e' := ⟨[some (pipesD ps), some (setsD ss), some (.own 0), none], [.dic (rowsD [])]⟩) (by simp [dmerge, rowsD]) ?_
  refine SW.fr (dx := SetT.d) (xs := ss) (e0 := ⟨[some (pipesD ps), some (setsD ss), some (.own 0), none], [.dic (rowsD [])]⟩)
    (fun pre e => ∃ a rd, e = ⟨[some (pipesD ps), some (setsD ss), some (.own 0), a], [.dic (rowsD rd)]⟩ ∧ RdOk ss R rd ∧ ∀ s ∈ pre, s.name ∈ rd.map (·.1)) (by simp [setsD, srcOf, itemsOf]) ⟨_, [], rfl, ⟨by simp, by simp, by simp, by simp⟩, by simp⟩ (fun pre s post e hx he => ?_) fun e he => ?_
  · obtain ⟨a, rd, rfl, j1, j2⟩ := he
    have hs : s ∈ ss := by rw [hx]; simp
    refine ⟨⟨[some (pipesD ps), some (setsD ss), some (.own 0), some s.d], [.dic (rowsD rd)]⟩, by simp, ?_⟩
    obtain ⟨rd', k1, k2, k3, _, k4⟩ := law_row_ok P h hR hr 4 n s.name (List.mem_map.mpr ⟨s, hs, rfl⟩) (hr4 _) rd j1
    refine SW.nx (e' := ⟨[some (pipesD ps), some (setsD ss), some (.own 0), some s.d], [.dic (rowsD rd')]⟩) ?_ (SW.nil ⟨_, rd', rfl, k1, fun u hu => ?_⟩)
    · simp only [SetT.d]
      simp [k4]
    · rcases List.mem_append.mp hu with z | z
      · exact k2 _ (j2 u z)
      · simp at z; rw [z]; exact k3
  · obtain ⟨a, rd, rfl, j1, j2⟩ := he
    have c1 : evE cs (run cs fns (n + 7)) (.comp (.bin .add (.bin .add (.slc (.var 3) (.no) (.yes (.int 2))) (.tup (.cons (.ix (.var 2) (.ix (.var 3) (.int 0))) (.nil)))) (.slc (.var 3) (.yes (.int 3)) (.no))) (.nm 3) (.seq (.var 1)) (.no) [3]) ⟨[some (pipesD ps), some (setsD ss), some (.own 0), a], [.dic (rowsD rd)]⟩ = .ok (.lst (ss.map fun s => (s.w R).d)) ⟨[some (pipesD ps), some (setsD ss), some (.own 0), a], [.dic (rowsD rd)]⟩ := by
      refine comp_all (dx := SetT.d) (fun s => (s.w R).d) (by simp [setsD, srcOf, itemsOf]) hl fun s hs => ?_
      refine ⟨[some (pipesD ps), some (setsD ss), some (.own 0), some s.d], [some (pipesD ps), some (setsD ss), some (.own 0), some s.d], by simp [wipeL], ?_⟩
      have g := rowsD_get j1.val (j2 s hs)
      have sl := slc_set (s := s)
      have s5 : (5 : Nat) ≤ sizeLine := szl (by omega)
      have s3 : (3 : Nat) ≤ sizeLine := szl (by omega)
      have i0 : Mi.ix s.d (.int 0) = some (.str s.name) := by simp [SetT.d]
      have rs : ∀ e, res e s.d = some s.d := fun _ => rfl
      simp [rs, sl, i0, g, s5, s3]
      rfl
    have e1 : D.tup [pipesD ps, .tup (ss.map fun u => (u.w R).d)] = hallD ps (ss.map (·.w R)) := by
      rw [hallD, setsD, List.map_map]; rfl
    refine SW.rt (d := hallD ps (ss.map (·.w R))) (e' := ⟨[some (pipesD ps), some (setsD ss), some (.own 0), a], [.dic (rowsD rd)]⟩) (by simp [c1, e1]) rfl
def putRow (way : Int) (s : SetT) : SetT := { s with row := if way = 1 then s.targets.reverse else [] }
theorem rows_put_ok (h35 : fns[35]? = some f_law_rows_put) {n : Nat} {ss : List SetT} (h4 : ss.length ≤ 4) (h : ∀ s ∈ ss, SetOk s) {way : Int} {st : List Own} : run cs fns (n+1) 35 [setsD ss, .int way] st = .ok (setsD (ss.map (putRow way))) st := by
  refine run_pureW h35 rfl rfl (by simp [ptrs, ptr]) ?_ sets_ptr
  simp only [f_law_rows_put]
  refine SW.nx (e' := ⟨[some (setsD ss), some (.int way), some (.own 0), none, none, none], [.lst []]⟩) (by simp) ?_
  refine SW.fr (dx := SetT.d) (xs := ss) (e0 := ⟨[some (setsD ss), some (.int way), some (.own 0), none, none, none], [.lst []]⟩)
    (fun pre e => ∃ a b, e = ⟨[some (setsD ss), some (.int way), some (.own 0), a, b, none], [.lst ((pre.map (putRow way)).map SetT.d)]⟩) (by simp [setsD, srcOf, itemsOf]) ⟨_, _, rfl⟩ (fun pre s post e hx he => ?_) fun e he => ?_
  · obtain ⟨a, b, rfl⟩ := he
    have hs : s ∈ ss := by rw [hx]; simp
    refine ⟨⟨[some (setsD ss), some (.int way), some (.own 0), some s.d, b, none], [.lst ((pre.map (putRow way)).map SetT.d)]⟩, by simp, ?_⟩
    have c1 : evE cs (run cs fns n) (.comp (.ix (.ix (.var 5) (.int 0)) (.int 0)) (.nm 5) (.seq (.ix (.var 3) (.int 1))) (.no) [5]) ⟨[some (setsD ss), some (.int way), some (.own 0), some s.d, b, none], [.lst ((pre.map (putRow way)).map SetT.d)]⟩ = .ok (.lst (s.ents.map fun e => .str e.target)) ⟨[some (setsD ss), some (.int way), some (.own 0), some s.d, b, none], [.lst ((pre.map (putRow way)).map SetT.d)]⟩ := by
      refine comp_all (dx := Ent.d) (fun e => .str e.target) (by simp [SetT.d, srcOf, itemsOf]) (szl (by have := (h s hs).e6; omega)) fun e he => ?_
      exact ⟨[some (setsD ss), some (.int way), some (.own 0), some s.d, b, some e.d], [some (setsD ss), some (.int way), some (.own 0), some s.d, b, some e.d], by simp [wipeL], by simp [Ent.d, Ent.i]⟩
    have d1 := deq_int (x := way) (y := 1)
    have sl := slc_set (s := s)
    have s5 : (5 : Nat) ≤ sizeLine := szl (by omega)
    have s3 : (3 : Nat) ≤ sizeLine := szl (by omega)
    have pl : pre.length < sizeLine := szl' (by rw [hx] at h4; simp at h4; omega)
    have rs : ∀ e, res e s.d = some s.d := fun _ => rfl
    refine SW.nx (e' := ⟨[some (setsD ss), some (.int way), some (.own 0), some s.d, some (ws (if way = 1 then s.targets.reverse else [])), none], [.lst ((pre.map (putRow way)).map SetT.d)]⟩) ?_ ?_
    · by_cases hw : way = 1
      · rw [decide_eq_true hw] at d1
        simp only [if_pos hw]
        simp [d1, c1, ws, SetT.targets, Function.comp_def, -List.map_map]
        rw [List.map_map]; rfl
      · rw [decide_eq_false hw] at d1
        simp only [if_neg hw]
        simp [d1, ws]
    refine SW.nx (e' := ⟨[some (setsD ss), some (.int way), some (.own 0), some s.d, some (ws (if way = 1 then s.targets.reverse else [])), none], [.lst (((pre ++ [s]).map (putRow way)).map SetT.d)]⟩) ?_ (SW.nil ⟨_, _, rfl⟩)
    simp [rs, sl, s5, s3, pl, -List.map_map]
    rfl
  · obtain ⟨a, b, rfl⟩ := he
    refine SW.rt (d := setsD (ss.map (putRow way))) (e' := ⟨[some (setsD ss), some (.int way), some (.own 0), a, b, none], [.lst ((ss.map (putRow way)).map SetT.d)]⟩) (by simp [setsD, -List.map_map]) rfl
theorem web_put {ps : List Pipe} {ss : List SetT} (h : WebOk ps ss) (way : Int) : WebOk ps (ss.map (putRow way)) := by
  have nm : (ss.map (putRow way)).map (·.name) = ss.map (·.name) := by rw [List.map_map]; rfl
  exact {
    p4 := h.p4
    s4 := by rw [List.length_map]; exact h.s4
    pok := h.pok
    sok := fun s' hs' => by
      obtain ⟨s, hs, rfl⟩ := List.mem_map.mp hs'
      have g := h.sok s hs
      have key : (putRow way s).row.Nodup ∧ ∀ t ∈ (putRow way s).row, t ∈ s.targets := by
        unfold putRow
        by_cases hw : way = 1
        · simp only [hw, if_true]
          exact ⟨nodup_rev g.tn, fun t ht => List.mem_reverse.mp ht⟩
        · simp [hw]
      exact ⟨g.nm, g.e6, g.ents, g.tn, key.1, key.2, g.a6, g.w6, g.asl, g.wok⟩
    names := by rw [nm]; exact h.names
    wn := by rw [List.flatMap_map]; exact h.wn
    w6 := by rw [List.flatMap_map]; exact h.w6
    tg := fun s' hs' e he => by
      obtain ⟨s, hs, rfl⟩ := List.mem_map.mp hs'
      rw [nm]
      exact h.tg s hs e he
    asked := fun s' hs' e he ht => by
      obtain ⟨s, hs, rfl⟩ := List.mem_map.mp hs'
      rw [nm] at ht
      exact h.asked s hs e he ht
    rank := by
      obtain ⟨r, h1, h2⟩ := h.rank
      refine ⟨r, h1, fun s' hs' e he ht => ?_⟩
      obtain ⟨s, hs, rfl⟩ := List.mem_map.mp hs'
      rw [nm] at ht
      exact h2 s hs e he ht }
end Mi.A
end

section
set_option Elab.async false
set_option linter.all false
set_option maxRecDepth 100000
set_option maxHeartbeats 4000000
/-! A11: draws. -/
namespace Mi.A
open PySem L2
@[simp] theorem bin_mul_int {x y : Int} : Mi.bin .mul (.int x) (.int y) = if small x || small y then some (.int (x * y)) else none := rfl
@[simp] theorem bin_mod_int {x y : Int} : Mi.bin .mod (.int x) (.int y) = if 0 < y then some (.int (x % y)) else none := rfl
@[simp] theorem bin_fdiv_int {x y : Int} : Mi.bin .fdiv (.int x) (.int y) = if 0 < y ∧ y < 1073741824 then some (.int (x / y)) else none := rfl
@[simp] theorem bin_pow_int {x y : Int} : Mi.bin .pow (.int x) (.int y) = if 0 ≤ y ∧ y ≤ 1000000 ∧ x.natAbs < 2 ^ 64 then some (.int (x ^ y.toNat)) else none := rfl
@[simp] theorem bin_add_str {x y : Str} : Mi.bin .add (.str x) (.str y) = if x.length + y.length ≤ sizeLine then some (.str (x ++ y)) else none := rfl
theorem small_of {x : Int} (h1 : -18446744073709551616 < x) (h2 : x < 18446744073709551616) : small x = true := by
  simp [small, big, h1, h2]
theorem mod_p {x : Int} : 0 ≤ x % 2147483647 ∧ x % 2147483647 < 2147483647 := ⟨Int.emod_nonneg _ (by decide), Int.emod_lt_of_pos _ (by decide)⟩
variable {fns : List Fn}
def mixed (c k : Int) : Int := (c % 2147483647 * (48271 + 2 * k * k) + 69621 * k + 11) % 2147483647 * 69621 % 2147483629
theorem mixed_ok (P : Has fns) {n : Nat} {c k : Int} (h0 : 0 ≤ k) (h1 : k ≤ 1000000000) {st : List Own} : run cs fns (n+1) 21 [.int c, .int k] st = .ok (.int (mixed c k)) st := by
  refine run_pure P.h21 rfl rfl rfl (e := ⟨[some (.int (c % 2147483647)), some (.int k)], []⟩) ?_ rfl
  have s1 := mod_p (x := c)
  have a1 : small 2 = true := by decide
  have a2 : small k = true := small_of (by omega) (by omega)
  have a3 : small (c % 2147483647) = true := small_of (by omega) (by omega)
  have a4 : small 69621 = true := by decide
  simp [f_law_mixed, a1, a2, a3, a4, mixed]
/-- what is drawn from: digits left, cells, how many were drawn -/
def stD (cells : List Int) (at_ : Nat) : List (Key × D) := [(.inr (Str.ofString "cells"), .lst (cells.map .int)), (.inr (Str.ofString "lefts"), .own 0), (.inr (Str.ofString "at"), .int at_)]
def stO (lefts cells : List Int) (at_ : Nat) : List Own := [.lst (lefts.map .int), .dic (stD cells at_)]
structure Sto (B : Nat) (s : List Own) : Prop where
  ex : ∃ lefts cells at_, s = stO lefts cells at_ ∧ lefts.length = cells.length ∧ 0 < cells.length ∧ at_ ≤ B
theorem Sto.mono {B B' : Nat} {s : List Own} (h : Sto B s) (l : B ≤ B') : Sto B' s := by
  obtain ⟨a, b, c, h1, h2, h3, h4⟩ := h.ex
  exact ⟨a, b, c, h1, h2, h3, by omega⟩
theorem Sto.len {B : Nat} {s : List Own} (h : Sto B s) : s.length = 2 := by
  obtain ⟨a, b, c, h1, _⟩ := h.ex
  rw [h1]; rfl
theorem key_ne {x y : Str} (h : x ≠ y) : ¬((.inr x : Key) = .inr y) := fun z => h (Sum.inr.inj z)
theorem st_at {c : List Int} {a : Nat} : dget (stD c a) (.inr (Str.ofString "at")) = some (.int a) := by
  have e1 : ¬((.inr (Str.ofString "cells") : Key) = .inr (Str.ofString "at")) := key_ne (by decide)
  have e2 : ¬((.inr (Str.ofString "lefts") : Key) = .inr (Str.ofString "at")) := key_ne (by decide)
  simp [dget, stD, List.find?_cons, e1, e2]
theorem st_lefts {c : List Int} {a : Nat} : dget (stD c a) (.inr (Str.ofString "lefts")) = some (.own 0) := by
  have e1 : ¬((.inr (Str.ofString "cells") : Key) = .inr (Str.ofString "lefts")) := key_ne (by decide)
  simp [dget, stD, List.find?_cons, e1]
theorem st_cells {c : List Int} {a : Nat} : dget (stD c a) (.inr (Str.ofString "cells")) = some (.lst (c.map .int)) := by
  simp [dget, stD, List.find?_cons]
theorem st_put {c : List Int} {a b : Nat} : dput (stD c a) (.inr (Str.ofString "at")) (.int b) = stD c b := by
  have e1 : ¬((.inr (Str.ofString "cells") : Key) = .inr (Str.ofString "at")) := key_ne (by decide)
  have e2 : ¬((.inr (Str.ofString "lefts") : Key) = .inr (Str.ofString "at")) := key_ne (by decide)
  simp [dput, stD, e1, e2]
theorem lit_at : (Str.ofString "at").length ≤ 1000 := by decide
theorem lit_lefts : (Str.ofString "lefts").length ≤ 1000 := by decide
theorem lit_cells : (Str.ofString "cells").length ≤ 1000 := by decide
theorem ptr_ints {n : Nat} {l : List Int} : ptrs n (l.map .int) = true := ptrs_map _ fun _ _ => rfl
theorem ptrO_sto {n : Nat} (hn : 0 < n) {l c : List Int} {a : Nat} : (stO l c a).all (ptrO n) = true := by
  simp [stO, ptrO, stD, ptrK, ptr, ptr_ints, hn]
theorem cell_get {l : List Int} {k : Nat} (h : k < l.length) : (l.map D.int)[k]? = some (.int l[k]) := by
  rw [List.getElem?_map, List.getElem?_eq_getElem h]; rfl
theorem setIt_lst {xs : List D} {k : Nat} {v : D} (h : k < xs.length) : setIt (.lst xs) (.int k) v = some (.lst (xs.set k v)) := by
  have : ixN xs.length (k : Int) = some k := by
    unfold ixN
    rw [if_pos (Int.natCast_nonneg k), if_pos (by omega)]; rfl
  show ((ixN xs.length (k : Int)).map fun k => Own.lst (xs.set k v)) = _
  rw [this]; rfl
/-- a draw from what is drawn from -/
theorem draw_ok (P : Has fns) (n : Nat) {B : Nat} (hB : B ≤ 100000000) {s : List Own} (hs : Sto B s) {m : Int} (h0 : 0 < m) (h1 : m < 1073741824) : ∃ v s', 0 ≤ v ∧ v < m ∧ Sto (B+1) s' ∧
    ∀ rest : List Own, rest.all (ptrO (rest.length + 2)) = true → run cs fns (n+2) 23 [.own 1, .int m] (s ++ rest) = .ok (.int v) (s' ++ rest) := by
  obtain ⟨lefts, cells, at_, rfl, q1, q2, q3⟩ := hs.ex
  have hk : at_ % cells.length < cells.length := Nat.mod_lt _ q2
  have hk' : at_ % cells.length < lefts.length := by rw [q1]; exact hk
  obtain ⟨k, hkd⟩ : ∃ k, k = at_ % cells.length := ⟨_, rfl⟩
  rw [← hkd] at hk hk'
  have em : (at_ : Int) % (cells.length : Int) = (k : Int) := by rw [hkd]; exact (Int.natCast_emod _ _).symm
  have hlen : (0 : Int) < cells.length := by omega
  have start : ∀ rest : List Own, stO lefts cells at_ ++ rest = .lst (lefts.map .int) :: .dic (stD cells at_) :: rest := fun _ => rfl
  have s3 : (stD cells at_).length < sizeLine := szl' (by simp [stD])
  have pt : ∀ (l : List Int) (rest : List Own), rest.all (ptrO (rest.length + 2)) = true → ((stO l cells (at_ + 1) ++ rest).take (stO lefts cells at_ ++ rest).length).all (ptrO (stO lefts cells at_ ++ rest).length) = true := fun l rest hr => by
    have e : (stO lefts cells at_ ++ rest).length = rest.length + 2 := by simp [stO]
    have e2 : (stO l cells (at_ + 1) ++ rest).length = rest.length + 2 := by simp [stO]
    rw [e, List.take_of_length_le (by omega), List.all_append, ptrO_sto (by omega), hr]; rfl
  have tk : ∀ (l : List Int) (rest : List Own), (stO l cells (at_ + 1) ++ rest).take (stO lefts cells at_ ++ rest).length = stO l cells (at_ + 1) ++ rest := fun l rest => List.take_of_length_le (by simp [stO])
  by_cases hp : 0 < lefts[k]
  · refine ⟨lefts[k] % m, stO (lefts.set k (lefts[k] / m)) cells (at_ + 1), Int.emod_nonneg _ (by omega), Int.emod_lt_of_pos _ h0, ⟨_, _, _, rfl, by rw [List.length_set]; exact q1, q2, by omega⟩, fun rest hr => ?_⟩
    obtain ⟨d, st', e1, e2, e3⟩ := run_cutW (cs := cs) (n := n + 1) (ds := [.own 1, .int m]) (st := stO lefts cells at_ ++ rest) (T := fun d st' => d = .int (lefts[k] % m) ∧ st' = stO (lefts.set k (lefts[k] / m)) cells (at_ + 1) ++ rest) P.h23 rfl rfl (by
      simp only [f_law_draw, start]
      refine SW.nx (e' := ⟨[some (.own 1), some (.int m), some (.int at_), none, none, none], .lst (lefts.map .int) :: .dic (stD cells at_) :: rest⟩) (by simp [st_at, lit_at]) ?_
      refine SW.nx (e' := ⟨[some (.own 1), some (.int m), some (.int at_), none, none, none], .lst (lefts.map .int) :: .dic (stD cells (at_ + 1)) :: rest⟩) ?_ ?_
      · have := st_put (c := cells) (a := at_) (b := at_ + 1)
        simp only [Int.natCast_add, Int.natCast_one] at this
        simp [lit_at, s3, this]
      refine SW.nx (e' := ⟨[some (.own 1), some (.int m), some (.int at_), some (.int k), none, none], .lst (lefts.map .int) :: .dic (stD cells (at_ + 1)) :: rest⟩) (by simp [st_cells, lit_cells, hlen, em, q2]) ?_
      have g1 : atI (lefts.map D.int) (k : Int) = some (.int lefts[k]) := by rw [atI_nat, cell_get hk']
      refine SW.nx (e' := ⟨[some (.own 1), some (.int m), some (.int at_), some (.int k), some (.int lefts[k]), none], .lst (lefts.map .int) :: .dic (stD cells (at_ + 1)) :: rest⟩) (by simp [st_lefts, lit_lefts, g1]) ?_
      have g2 := setIt_lst (xs := lefts.map .int) (k := k) (v := .int (lefts[k] / m)) (by rw [List.length_map]; exact hk')
      rw [← List.map_set] at g2
      refine SW.rt (d := .int (lefts[k] % m)) (e' := ⟨[some (.own 1), some (.int m), some (.int at_), some (.int k), some (.int lefts[k]), none], .lst ((lefts.set k (lefts[k] / m)).map .int) :: .dic (stD cells (at_ + 1)) :: rest⟩) (by simp [hp, st_lefts, lit_lefts, h0, h1, g2]) ?_
      exact ⟨_, rfl, rfl, pt _ rest hr, rfl, tk _ rest⟩)
    rw [e1, e2, e3]
  · have k0 : (0 : Int) ≤ at_ := by omega
    have k1 : (at_ : Int) ≤ 100000000 := by omega
    obtain ⟨u, hu⟩ : ∃ u, u = mixed (mixed cells[k] at_) (40 + at_) := ⟨_, rfl⟩
    obtain ⟨v, hv⟩ : ∃ v, v = (u * 2147483647 + mixed u (7 + at_)) / 64 % m := ⟨_, rfl⟩
    refine ⟨v, stO lefts cells (at_ + 1), by rw [hv]; exact Int.emod_nonneg _ (by omega), by rw [hv]; exact Int.emod_lt_of_pos _ h0, ⟨_, _, _, rfl, q1, q2, by omega⟩, fun rest hr => ?_⟩
    have m1 := fun st => mixed_ok P (n := n) (c := cells[k]) (k := at_) k0 (by omega) (st := st)
    have m2 := fun st => mixed_ok P (n := n) (c := mixed cells[k] at_) (k := 40 + at_) (by omega) (by omega) (st := st)
    have m3 := fun st => mixed_ok P (n := n) (c := u) (k := 7 + at_) (by omega) (by omega) (st := st)
    rw [← hu] at m2
    have a5 : small 2147483647 = true := by decide
    obtain ⟨d, st', e1, e2, e3⟩ := run_cutW (cs := cs) (n := n + 1) (ds := [.own 1, .int m]) (st := stO lefts cells at_ ++ rest) (T := fun d st' => d = .int v ∧ st' = stO lefts cells (at_ + 1) ++ rest) P.h23 rfl rfl (by
      simp only [f_law_draw, start]
      refine SW.nx (e' := ⟨[some (.own 1), some (.int m), some (.int at_), none, none, none], .lst (lefts.map .int) :: .dic (stD cells at_) :: rest⟩) (by simp [st_at, lit_at]) ?_
      refine SW.nx (e' := ⟨[some (.own 1), some (.int m), some (.int at_), none, none, none], .lst (lefts.map .int) :: .dic (stD cells (at_ + 1)) :: rest⟩) ?_ ?_
      · have := st_put (c := cells) (a := at_) (b := at_ + 1)
        simp only [Int.natCast_add, Int.natCast_one] at this
        simp [lit_at, s3, this]
      refine SW.nx (e' := ⟨[some (.own 1), some (.int m), some (.int at_), some (.int k), none, none], .lst (lefts.map .int) :: .dic (stD cells (at_ + 1)) :: rest⟩) (by simp [st_cells, lit_cells, hlen, em, q2]) ?_
      have g1 : atI (lefts.map D.int) (k : Int) = some (.int lefts[k]) := by rw [atI_nat, cell_get hk']
      have g3 : atI (cells.map D.int) (k : Int) = some (.int cells[k]) := by rw [atI_nat, cell_get hk]
      refine SW.nx (e' := ⟨[some (.own 1), some (.int m), some (.int at_), some (.int k), some (.int lefts[k]), none], .lst (lefts.map .int) :: .dic (stD cells (at_ + 1)) :: rest⟩) (by simp [st_lefts, lit_lefts, g1]) ?_
      refine SW.nx (e' := ⟨[some (.own 1), some (.int m), some (.int at_), some (.int k), some (.int lefts[k]), none], .lst (lefts.map .int) :: .dic (stD cells (at_ + 1)) :: rest⟩) (by simp [hp]) ?_
      refine SW.nx (e' := ⟨[some (.own 1), some (.int m), some (.int at_), some (.int k), some (.int lefts[k]), some (.int u)], .lst (lefts.map .int) :: .dic (stD cells (at_ + 1)) :: rest⟩) (by simp [st_cells, lit_cells, g3, m1, m2]) ?_
      refine SW.rt (d := .int v) (e' := ⟨[some (.own 1), some (.int m), some (.int at_), some (.int k), some (.int lefts[k]), some (.int u)], .lst (lefts.map .int) :: .dic (stD cells (at_ + 1)) :: rest⟩) (by simp [m3, a5, h0, hv]) ?_
      exact ⟨_, rfl, rfl, pt _ rest hr, rfl, tk _ rest⟩)
    rw [e1, e2, e3]
theorem shaped_ints {l : List Int} : SeqAt.shaped (.list (l.map .int)) = true := (shaped_seq (n := 0) (by omega) fun x hx => by
  obtain ⟨y, _, rfl⟩ := List.mem_map.mp hx
  simp [PyData.canLay0, PyData.depth]).2
theorem deq_ints_nil {l : List Int} : deq (.lst (l.map .int)) (.lst []) = some (decide (l = [])) := by
  have e : PyData.eqv (.list (l.map PyData.int)) (.list []) = decide (l = []) := by
    cases l <;> simp [PyData.eqv, PyData.eqvAll]
  have e2 := shaped_ints (l := l)
  have e3 := shaped_ints (l := [])
  simp only [List.map_nil] at e3
  simp [deq, toPy, toPys_map, toPys, e, e2, e3]
theorem begin_ok (P : Has fns) {n : Nat} {script : List Int} (hl : script.length ≤ 63) : ∃ s, Sto 0 s ∧ run cs fns (n+1) 22 [.lst (script.map .int)] [] = .ok (.own 1) s := by
  obtain ⟨cells, hc⟩ : ∃ cells, cells = if script = [] then [(0 : Int)] else script := ⟨_, rfl⟩
  have c0 : 0 < cells.length := by
    rw [hc]
    split
    · simp
    · rename_i h
      cases script with
      | nil => exact absurd rfl h
      | cons a l => simp
  have c63 : cells.length ≤ 63 := by
    rw [hc]
    split
    · simp
    · exact hl
  obtain ⟨lefts, hlf⟩ : ∃ lefts : List Int, lefts = cells.map fun c => if 1000000000000000000 ≤ c then c else 0 := ⟨_, rfl⟩
  refine ⟨stO lefts cells 0, ⟨lefts, cells, 0, rfl, by rw [hlf, List.length_map], c0, Nat.le_refl _⟩, ?_⟩
  have d1 := deq_ints_nil (l := script)
  have b1 : evS cs (run cs fns n) (.set 1 (.ite (.cmp .ne (.var 0) (.lst (.nil))) (.bi .list (.cons (.var 0) (.nil))) (.lst (.cons (.int 0) (.nil))))) ⟨[some (.lst (script.map .int)), none, none], []⟩ = .nx ⟨[some (.lst (script.map .int)), some (.lst (cells.map .int)), none], []⟩ := by
    by_cases h : script = []
    · subst h
      simp only [if_true] at hc
      subst hc
      simp [d1] at d1 ⊢
      simp [d1]
    · simp only [if_neg h] at hc
      rw [decide_eq_false h] at d1
      subst hc
      simp [d1]
  have c1 : evE cs (run cs fns n) (.comp (.ite (.cmp .ge (.var 2) (.bin .pow (.int 10) (.int 18))) (.var 2) (.int 0)) (.nm 2) (.seq (.var 1)) (.no) [2]) ⟨[some (.lst (script.map .int)), some (.lst (cells.map .int)), none], []⟩ = .ok (.lst (cells.map fun c => .int (if 1000000000000000000 ≤ c then c else 0))) ⟨[some (.lst (script.map .int)), some (.lst (cells.map .int)), none], []⟩ := by
    refine comp_all (dx := D.int) (fun c => .int (if 1000000000000000000 ≤ c then c else 0)) (by simp [srcOf, itemsOf]) (szl (by omega)) fun c hc => ?_
    refine ⟨[some (.lst (script.map .int)), some (.lst (cells.map .int)), some (.int c)], [some (.lst (script.map .int)), some (.lst (cells.map .int)), some (.int c)], by simp [wipeL], ?_⟩
    by_cases h : 1000000000000000000 ≤ c <;> simp [h]
  have e1 : (cells.map fun c => D.int (if 1000000000000000000 ≤ c then c else 0)) = lefts.map .int := by rw [hlf, List.map_map]; rfl
  rw [e1] at c1
  have mm : dmerge [] [((.inr (Str.ofString "cells") : Key), D.lst (cells.map .int)), (.inr (Str.ofString "lefts"), .own 0), (.inr (Str.ofString "at"), .int 0)] = stD cells 0 := dmerge_nil (by
    show [(.inr (Str.ofString "cells") : Key), .inr (Str.ofString "lefts"), .inr (Str.ofString "at")].Nodup
    decide)
  rw [run_at P.h22 rfl (fun z => by cases z)]
  have eb : evSs cs (run cs fns n) f_law_begin.body ⟨[some (.lst (script.map .int)), none, none], []⟩ = .rt (.own 1) ⟨[some (.lst (script.map .int)), some (.lst (cells.map .int)), none], stO lefts cells 0⟩ := by
    simp only [f_law_begin]
    rw [ss_nx b1]
    simp [c1, mm, lit_cells, lit_lefts, lit_at, stO]
  show (match evSs cs (run cs fns n) f_law_begin.body ⟨[some (.lst (script.map .int)), none, none], []⟩ with
      | .nx e => endOk f_law_begin.md [] .non e
      | .rt d e => endOk f_law_begin.md [] d e
      | .exc x e => endX f_law_begin.md [] x e
      | _ => .er) = _
  rw [eb]
  rfl
end Mi.A
end

section
set_option Elab.async false
set_option linter.all false
set_option maxRecDepth 100000
set_option maxHeartbeats 4000000
/-! A12: names drawn. -/
namespace Mi.A
open PySem L2
/-! ### comprehensions that draw -/
theorem turns_st {α γ β : Type} {base : List (Option D)} {f : D → En → R (Option β)} {dx : α → D} {proj : γ → α} {dz : γ → β} {Q : γ → Prop} {I : Nat → List Own → Prop} : ∀ {xs : List α} {k : Nat} {st : List Own}, I k st →
    (∀ x ∈ xs, ∀ j st, k ≤ j → j < k + xs.length → I j st → ∃ z vs st', proj z = x ∧ Q z ∧ f (dx x) ⟨base, st⟩ = .ok (some (dz z)) ⟨vs, st'⟩ ∧ I (j + 1) st') →
    ∃ (zs : List γ) (st' : List Own), zs.map proj = xs ∧ (∀ z ∈ zs, Q z) ∧ turns base f (xs.map dx) st = .ok (zs.map dz) ⟨base, st'⟩ ∧ I (k + xs.length) st'
  | [], k, st, h0, _ => ⟨[], st, rfl, by simp, rfl, h0⟩
  | x :: xs, k, st, h0, hs => by
    obtain ⟨z, vs, st1, h1, h2, h3, h4⟩ := hs x List.mem_cons_self k st (Nat.le_refl _) (by simp) h0
    obtain ⟨zs, st2, g1, g2, g3, g4⟩ := turns_st (xs := xs) (k := k + 1) (dx := dx) (f := f) (base := base) (proj := proj) (dz := dz) (Q := Q) (I := I) h4 fun y hy j st hj hj2 hi => hs y (List.mem_cons_of_mem _ hy) j st (by omega) (by simp; omega) hi
    refine ⟨z :: zs, st2, by rw [List.map_cons, h1, g1], fun u hu => ?_, ?_, by rw [List.length_cons, show k + (xs.length + 1) = k + 1 + xs.length by omega]; exact g4⟩
    · rcases List.mem_cons.mp hu with rfl | hu
      · exact h2
      · exact g2 u hu
    · rw [List.map_cons, turns, h3]
      dsimp only
      rw [g3]
      rfl
def compF (cs : List D) (cal : Cal) (elt : CE) (tg : CT) (tt : CEo) : D → En → R (Option D) := fun d e => match asg tg d e with
  | some e => (evT cs cal tt e).bind fun b e => if b then (evE cs cal elt e).bind fun y e => .ok (some y) e else .ok none e
  | none => .er
theorem evE_compF {cs : List D} {cal : Cal} {elt : CE} {tg : CT} {it : CI} {tt : CEo} {vs : List Nat} {e : En} : evE cs cal (.comp elt tg it tt vs) e = (evI cs cal it e).bind fun s e => (turnsS (wipeL e.vs vs) (compF cs cal elt tg tt) s e.st).bind fun ys e' => if ys.length ≤ sizeLine then .ok (.lst ys) ⟨e.vs, e'.st⟩ else .er := by rfl
theorem comp_st {cs : List D} {cal : Cal} {α γ : Type} {elt : CE} {tg : CT} {it : CI} {vs : List Nat} {e : En} {dx : α → D} {xs : List α} (proj : γ → α) (dz : γ → D) (Q : γ → Prop) (I : Nat → List Own → Prop) (hi : evI cs cal it e = .ok (.fix (xs.map dx)) e) (hl : xs.length ≤ sizeLine) (h0 : I 0 e.st)
    (hs : ∀ x ∈ xs, ∀ j st, j < xs.length → I j st → ∃ z vs1 vs2 st', proj z = x ∧ Q z ∧ asg tg (dx x) ⟨wipeL e.vs vs, st⟩ = some ⟨vs1, st⟩ ∧ evE cs cal elt ⟨vs1, st⟩ = .ok (dz z) ⟨vs2, st'⟩ ∧ I (j + 1) st') :
    ∃ (zs : List γ) (st' : List Own), zs.map proj = xs ∧ (∀ z ∈ zs, Q z) ∧ evE cs cal (.comp elt tg it .no vs) e = .ok (.lst (zs.map dz)) ⟨e.vs, st'⟩ ∧ I xs.length st' := by
  obtain ⟨zs, st', h1, h2, h3, h4⟩ := turns_st (base := wipeL e.vs vs) (f := compF cs cal elt tg .no) (proj := proj) (dz := dz) (Q := Q) (dx := dx) (xs := xs) (k := 0) (I := I) h0 fun x hx j st _ hj hi' => by
      obtain ⟨z, vs1, vs2, st', g1, g2, g3, g4, g5⟩ := hs x hx j st (by omega) hi'
      exact ⟨z, vs2, st', g1, g2, by simp only [compF, g3, evT_no, bind_ok, g4, if_true], g5⟩
  refine ⟨zs, st', h1, h2, ?_, by rw [Nat.zero_add] at h4; exact h4⟩
  rw [evE_compF, hi, bind_ok]
  show (turns _ _ _ _).bind _ = _
  rw [h3, bind_ok, if_pos (by
    have := congrArg List.length h1
    rw [List.length_map] at this
    rw [List.length_map, this]
    exact hl)]
/-! ### texts by their signs -/
theorem mk_l {l : List Nat} : (⟨l.toArray⟩ : Str).cps.toList = l := by simp
theorem app_l {x y : Str} : (x ++ y).cps.toList = x.cps.toList ++ y.cps.toList := by
  show (x.cps ++ y.cps).toList = _
  simp
theorem letter_ix {i : Nat} (h : i < 26) : Mi.ix (.str (Str.ofString "abcdefghijklmnopqrstuvwxyz")) (.int i) = some (.str ⟨#[97 + i]⟩) := by
  show (atI (Str.ofString "abcdefghijklmnopqrstuvwxyz").cps.toList (i : Int)).map _ = _
  have e : (Str.ofString "abcdefghijklmnopqrstuvwxyz").cps.toList = List.range' 97 26 := by decide +kernel
  rw [e, atI_nat, List.getElem?_range' h]
  simp
theorem cut_take {z : Str} {k : Nat} : (cutS z none (some (k : Int))).cps.toList = z.cps.toList.take k := by
  show ((z.cps.toList.drop 0).take (HT.sIx z.length z.length (some (k : Int)) - 0)).toArray.toList = _
  rw [HT.sIx_nat, List.drop_zero]
  simp only [Nat.sub_zero, Str.length]
  rw [show z.cps.size = z.cps.toList.length by simp, ← List.take_eq_take_min]
theorem cut_drop {z : Str} {a b : Nat} : (cutS z (some (a : Int)) (some (b : Int))).cps.toList = (z.cps.toList.take b).drop a := by
  show ((z.cps.toList.drop (HT.sIx z.length 0 (some (a : Int)))).take (HT.sIx z.length z.length (some (b : Int)) - HT.sIx z.length 0 (some (a : Int)))).toArray.toList = _
  rw [HT.sIx_nat, HT.sIx_nat]
  have : z.length = z.cps.toList.length := len_l
  rw [this]
  generalize z.cps.toList = l
  simp only
  rw [List.drop_take]
  by_cases h : a ≤ l.length
  · rw [Nat.min_eq_left h]
    rw [List.take_eq_take_iff]
    simp only [List.length_drop]
    omega
  · have h2 : l.drop a = [] := List.drop_eq_nil_of_le (by omega)
    have h3 : l.drop (min a l.length) = [] := List.drop_eq_nil_of_le (by omega)
    rw [h2, h3]; simp
theorem join_l : ∀ (l : List Nat), (Txt.join (Str.ofString "") (l.map fun c => (⟨#[c]⟩ : Str))).cps.toList = l := by
  intro l
  show (Builtin.Str.glued _ _).cps.toList = l
  unfold Builtin.Str.glued
  have key : ∀ (m : List Nat) (acc : Array Nat), (((m.map fun c => (⟨#[c]⟩ : Str)).foldl (fun acc p => acc ++ (Str.ofString "").cps ++ p.cps) acc)).toList = acc.toList ++ m := by
    intro m
    induction m with
    | nil => intro acc; simp
    | cons c m ih =>
      intro acc
      rw [List.map_cons, List.foldl_cons, ih]
      have : (Str.ofString "").cps = #[] := by decide
      simp [this]
  cases l with
  | nil => decide
  | cons c l =>
    show (((l.map fun c => (⟨#[c]⟩ : Str)).foldl (fun acc p => acc ++ (Str.ofString "").cps ++ p.cps) #[c])).toList = _
    rw [key]
    simp
def own20 : List Str := ["in", "out", "gone", "level", "edge", "once", "alone", "off", "fresh", "row", "sleeps", "woken", "pipe", "set", "entry", "put", "wait", "add", "open", "shut"]
theorem own20_split : Txt.split (Str.ofString "in out gone level edge once alone off fresh row sleeps woken pipe set entry put wait") (Str.ofString " ") = own20.take 17 := by decide +kernel
theorem own20_nodup : own20.Nodup := by decide +kernel
theorem own20_nm : ∀ x ∈ own20, Nm x := by
  have : own20.all (fun x => decide (1 ≤ x.cps.toList.length) && (decide (x.cps.toList.length ≤ 8) && x.cps.toList.all fun c => decide (97 ≤ c) && decide (c ≤ 122))) = true := by decide +kernel
  intro x hx
  have h := List.all_eq_true.mp this x hx
  simp only [Bool.and_eq_true, decide_eq_true_eq, List.all_eq_true] at h
  exact ⟨h.1, h.2.1, h.2.2⟩
theorem range_nodup {f : Nat → Str} {n : Nat} (h : ∀ i j, i < j → j < n → f i ≠ f j) : ((List.range n).map f).Nodup := by
  rw [List.Nodup, List.pairwise_map]
  exact List.Pairwise.imp_of_mem (fun {a b} ha hb hab => h a b hab (List.mem_range.mp hb)) List.pairwise_lt_range
variable {fns : List Fn}
/-- names: unlike ones, each a name -/
structure NamesOk (m : Nat) (l : List Str) : Prop where
  len : l.length = m
  nd : l.Nodup
  nm : ∀ x ∈ l, Nm x
theorem names_range {f : Nat → Str} {m : Nat} (h1 : ∀ i j, i < j → j < m → f i ≠ f j) (h2 : ∀ i, i < m → Nm (f i)) : NamesOk m ((List.range m).map f) := ⟨by simp, range_nodup h1, fun x hx => by
  obtain ⟨i, hi, rfl⟩ := List.mem_map.mp hx
  exact h2 i (List.mem_range.mp hi)⟩
/-- way 0 -/
def nm0 (b k : Nat) : Str := own20.getD ((b + 7 * k) % 20) ⟨#[]⟩
theorem nm0_ok {b m : Nat} (hm : m ≤ 8) : NamesOk m ((List.range m).map (nm0 b)) := by
  have g : ∀ k, nm0 b k = own20[(b + 7 * k) % 20]'(Nat.mod_lt _ (by decide)) := fun k => by
    unfold nm0
    rw [List.getD_eq_getElem?_getD, List.getElem?_eq_getElem (show (b + 7 * k) % 20 < own20.length from Nat.mod_lt _ (by decide))]
    rfl
  refine names_range (fun i j hi hj e => ?_) fun i hi => ?_
  · rw [g, g] at e
    have := (List.getElem_inj own20_nodup).mp e
    omega
  · rw [g]
    exact own20_nm _ (List.getElem_mem _)
/-- way 1 -/
def nm1 (b : Nat) (t : List Nat) (k : Nat) : Str := ⟨(((97 + b) :: t).take (1 + (k + b) % 8)).toArray⟩
theorem nm1_ok {b m : Nat} {t : List Nat} (hm : m ≤ 8) (hb : b < 26) (ht : t.length = 7) (hs : ∀ c ∈ t, 97 ≤ c ∧ c ≤ 122) : NamesOk m ((List.range m).map (nm1 b t)) := by
  have ln : ∀ k, (nm1 b t k).cps.toList.length = 1 + (k + b) % 8 := fun k => by
    unfold nm1
    rw [mk_l, List.length_take, List.length_cons, ht]
    omega
  refine names_range (fun i j hi hj e => ?_) fun i hi => ⟨?_, ?_, fun c hc => ?_⟩
  · have := ln i
    rw [e, ln j] at this
    omega
  · rw [ln]; omega
  · rw [ln]; omega
  · unfold nm1 at hc
    rw [mk_l] at hc
    rcases List.mem_cons.mp (List.mem_of_mem_take hc) with rfl | hc
    · omega
    · exact hs c hc
/-- a name's first sign by its place -/
def ch (b k : Nat) : Nat := 97 + (b + 5 * k) % 26
theorem ch_ok {b k : Nat} : 97 ≤ ch b k ∧ ch b k ≤ 122 := by unfold ch; omega
/-- way 2 -/
def nm2 (b : Nat) (t : List Nat) (a z : Nat) (k : Nat) : Str := ⟨(t.take (min a z) ++ [ch b k] ++ (t.take z).drop a).toArray⟩
theorem nm2_ok {b m a z : Nat} {t : List Nat} (hm : m ≤ 8) (ht : t.length = 7) (hs : ∀ c ∈ t, 97 ≤ c ∧ c ≤ 122) (hz : z < 8) : NamesOk m ((List.range m).map (nm2 b t a z)) := by
  have ln : ∀ k, (nm2 b t a z k).cps.toList.length = min a z + 1 + (z - a) := fun k => by
    unfold nm2
    rw [mk_l]
    simp only [List.length_append, List.length_take, List.length_drop, List.length_singleton, ht]
    omega
  refine names_range (fun i j hi hj e => ?_) fun i hi => ⟨?_, ?_, fun c hc => ?_⟩
  · have e := congrArg (fun s : Str => s.cps.toList) e
    unfold nm2 at e
    simp only [mk_l] at e
    rw [List.append_assoc, List.append_assoc] at e
    have := List.append_cancel_left e
    simp only [List.singleton_append, List.cons.injEq] at this
    have := this.1
    unfold ch at this
    omega
  · rw [ln]; omega
  · rw [ln]; omega
  · unfold nm2 at hc
    rw [mk_l] at hc
    rcases List.mem_append.mp hc with hc | hc
    · rcases List.mem_append.mp hc with hc | hc
      · exact hs c (List.mem_of_mem_take hc)
      · simp at hc; rw [hc]; exact ch_ok
    · exact hs c (List.mem_of_mem_take (List.mem_of_mem_drop hc))
/-- way 3 -/
def nm3 (t : List Nat) (p : Nat × Nat) : Str := ⟨(p.1 :: t.take p.2).toArray⟩
theorem nm3_ok {b m : Nat} {t : List Nat} {zs : List (Nat × Nat)} (h : zs.map (·.1) = (List.range m).map (ch b)) (hz : ∀ p ∈ zs, p.2 < 8) (hm : m ≤ 8) (ht : t.length = 7) (hs : ∀ c ∈ t, 97 ≤ c ∧ c ≤ 122) : NamesOk m (zs.map (nm3 t)) := by
  have hn : ((List.range m).map (ch b)).Nodup := by
    rw [List.Nodup, List.pairwise_map]
    refine List.Pairwise.imp_of_mem (fun {a c} ha hc hac => ?_) List.pairwise_lt_range
    have := List.mem_range.mp hc
    unfold ch
    omega
  refine ⟨by have := congrArg List.length h; simpa using this, ?_, fun x hx => ?_⟩
  · rw [← h] at hn
    rw [List.Nodup, List.pairwise_map] at hn ⊢
    refine List.Pairwise.imp (fun {a c} hac e => hac ?_) hn
    have e := congrArg (fun s : Str => s.cps.toList) e
    unfold nm3 at e
    simp only [mk_l, List.cons.injEq] at e
    exact e.1
  · obtain ⟨p, hp, rfl⟩ := List.mem_map.mp hx
    have p2 := hz p hp
    have p1 : 97 ≤ p.1 ∧ p.1 ≤ 122 := by
      have : p.1 ∈ zs.map (·.1) := List.mem_map.mpr ⟨p, hp, rfl⟩
      rw [h] at this
      obtain ⟨k, _, e⟩ := List.mem_map.mp this
      rw [← e]; exact ch_ok
    have ln : (nm3 t p).cps.toList.length = 1 + p.2 := by
      unfold nm3
      rw [mk_l, List.length_cons, List.length_take, ht]
      omega
    refine ⟨by rw [ln]; omega, by rw [ln]; omega, fun c hc => ?_⟩
    unfold nm3 at hc
    rw [mk_l] at hc
    rcases List.mem_cons.mp hc with rfl | hc
    · exact p1
    · exact hs c (List.mem_of_mem_take hc)
/-- what is drawn from stands at the store's begin -/
def At (B : Nat) (rest st : List Own) : Prop := ∃ s, Sto B s ∧ st = s ++ rest
theorem At.draw (P : Has fns) (n : Nat) {B : Nat} (hB : B ≤ 100000000) {rest st : List Own} (h : At B rest st) (hr : rest.all (ptrO (rest.length + 2)) = true) {m : Int} (h0 : 0 < m) (h1 : m < 1073741824) :
    ∃ v st', 0 ≤ v ∧ v < m ∧ At (B+1) rest st' ∧ run cs fns (n+2) 23 [.own 1, .int m] st = .ok (.int v) st' := by
  obtain ⟨s, hs, rfl⟩ := h
  obtain ⟨v, s', a, b, c, d⟩ := draw_ok P n hB hs h0 h1
  exact ⟨v, s' ++ rest, a, b, ⟨s', c, rfl⟩, d rest hr⟩
theorem At.mono {B B' : Nat} {rest st : List Own} (h : At B rest st) (l : B ≤ B') : At B' rest st := by
  obtain ⟨s, hs, e⟩ := h
  exact ⟨s, hs.mono l, e⟩
theorem At.len {B : Nat} {rest st : List Own} (h : At B rest st) : st.length = rest.length + 2 := by
  obtain ⟨s, hs, rfl⟩ := h
  rw [List.length_append, hs.len]; omega
theorem At.closed {B : Nat} {rest st : List Own} (h : At B rest st) (hr : rest.all (ptrO (rest.length + 2)) = true) : st.all (ptrO (rest.length + 2)) = true := by
  obtain ⟨s, hs, rfl⟩ := h
  obtain ⟨a, b, c, rfl, _⟩ := hs.ex
  rw [List.all_append, ptrO_sto (by omega), hr]; rfl
/-- a def that draws: its store is cut back -/
theorem run_drawW {n i B : Nat} {ds : List D} {rest st : List Own} {fn : Fn} {T : D → Prop} {B' : Nat} (h : fns[i]? = some fn) (hc : ds.length = fn.np) (hm : fn.md = .cut) (ha : At B rest st) (hr : rest.all (ptrO (rest.length + 2)) = true)
    (hb : SW (evSs cs (run cs fns n) fn.body ⟨ds.map some ++ List.replicate (fn.ns - fn.np) none, st⟩) (fun _ => False)
      (fun d e => ∃ d' more st', e.st = st' ++ more ∧ At B' rest st' ∧ give st.length e d = some d' ∧ ptr st.length d' = true ∧ T d')) : ∃ d st', run cs fns (n + 1) i ds st = .ok d st' ∧ At B' rest st' ∧ T d := by
  obtain ⟨d, st', e1, e2, e3⟩ := run_cutW (cs := cs) (fns := fns) (n := n) (i := i) (ds := ds) (st := st) (T := fun d st' => At B' rest st' ∧ T d) h hc hm (by
    cases q : evSs cs (run cs fns n) fn.body ⟨ds.map some ++ List.replicate (fn.ns - fn.np) none, st⟩ with
    | nx e => rw [q] at hb; exact hb.elim
    | rt d e =>
      rw [q] at hb
      obtain ⟨d', more, st', f1, f2, f3, f4, f5⟩ := hb
      have hl : st.length = st'.length := by rw [ha.len, f2.len]
      have tk : e.st.take st.length = st' := by rw [f1, hl, List.take_left]
      refine ⟨d', f3, f4, ?_, ?_⟩
      · rw [tk, ha.len]; exact f2.closed hr
      · rw [tk]; exact ⟨f2, f5⟩
    | _ => rw [q] at hb; exact hb.elim)
  exact ⟨d, st', e1, e2, e3⟩
end Mi.A
end

section
set_option Elab.async false
set_option linter.all false
set_option maxRecDepth 100000
set_option maxHeartbeats 4000000
/-! A13: _law_names. -/
namespace Mi.A
open PySem L2
variable {fns : List Fn}
theorem evI_range_nat {cs : List D} {cal : Cal} {a : CE} {e e' : En} {m : Nat} (h : evE cs cal a e = .ok (.int m) e') (hm : m ≤ 16777216) : evI cs cal (.range a) e = .ok (.fix ((List.range m).map fun k : Nat => .int k)) e' := by
  rw [evI_range, h, bind_ok]
  dsimp only
  rw [if_pos ⟨by omega, by omega⟩]
  unfold rangeD
  simp
@[simp] theorem slc_str {z : Str} {lo hi : Option Int} : Mi.slc (.str z) lo hi = some (.str (cutS z lo hi)) := rfl
@[simp] theorem mtTy_join {x : Str} : mtTy .join (some (.str x)) = true := rfl
@[simp] theorem mtTy_split {x : Str} : mtTy .split (some (.str x)) = true := rfl
@[simp] theorem argm_join {e : En} {ds : List D} : argm .join e ds = ress e ds := rfl
@[simp] theorem argm_split {e : En} {ds : List D} : argm .split e ds = some ds := rfl
@[simp] theorem mt_join {x : Str} {ds : List D} : Mi.mt .join (.str x) [.lst ds] = joinL x ds := rfl
@[simp] theorem mt_split {x y : Str} : Mi.mt .split (.str x) [.str y] = if y.length ≠ 0 ∧ x.length + 2 ≤ sizeLine then some (.lst ((Txt.split x y).map .str)) else none := rfl
theorem lit_abc : (Str.ofString "abcdefghijklmnopqrstuvwxyz").length ≤ 1000 := by decide
theorem lit_own : (Str.ofString "in out gone level edge once alone off fresh row sleeps woken pipe set entry put wait").length ≤ 1000 := by decide +kernel
theorem lit_own2 : (Str.ofString "in out gone level edge once alone off fresh row sleeps woken pipe set entry put wait").length + 2 ≤ sizeLine := by decide +kernel
theorem lit_sp : (Str.ofString " ").length = 1 := by decide
theorem lit_add : (Str.ofString "add").length ≤ 1000 := by decide
theorem lit_open : (Str.ofString "open").length ≤ 1000 := by decide
theorem lit_shut : (Str.ofString "shut").length ≤ 1000 := by decide
theorem lit_e : (Str.ofString "").length = 0 := by decide
theorem sizes_ones {l : List Nat} : sizes (l.map fun c => (⟨#[c]⟩ : Str)) = l.length := by
  unfold sizes
  rw [List.map_map]
  have : ((fun x : Str => x.length) ∘ fun c : Nat => (⟨#[c]⟩ : Str)) = fun _ => 1 := rfl
  rw [this]
  clear this
  induction l with
  | nil => rfl
  | cons c l ih =>
    rw [List.map_cons, List.sum_cons, ih, List.length_cons]
    omega
theorem joinL_ones {l : List Nat} (h : l.length ≤ 1000) : joinL (Str.ofString "") (l.map fun c => D.str ⟨#[c]⟩) = some (.str ⟨l.toArray⟩) := by
  have e : (l.map fun c => D.str ⟨#[c]⟩) = (l.map fun c => (⟨#[c]⟩ : Str)).map .str := by rw [List.map_map]; rfl
  unfold joinL
  rw [e, strsOf_map]
  show (if sizes (l.map fun c => (⟨#[c]⟩ : Str)) + _ ≤ 16777216 then _ else _) = _
  rw [if_pos (by rw [sizes_ones, lit_e]; omega)]
  congr 2
  rw [strEq, join_l, mk_l]
theorem cut_eq {z : Str} {k : Nat} : cutS z none (some (k : Int)) = ⟨(z.cps.toList.take k).toArray⟩ := by rw [strEq, cut_take, mk_l]
theorem cut_eq2 {z : Str} {a b : Nat} : cutS z (some (a : Int)) (some (b : Int)) = ⟨((z.cps.toList.take b).drop a).toArray⟩ := by rw [strEq, cut_drop, mk_l]
theorem app_eq {x y : Str} : x ++ y = ⟨(x.cps.toList ++ y.cps.toList).toArray⟩ := by rw [strEq, app_l, mk_l]
theorem len_mk {l : List Nat} : (⟨l.toArray⟩ : Str).length = l.length := by simp [Str.length]
theorem names_ok (P : Has fns) (n : Nat) {B : Nat} (hB : B ≤ 10000000) {rest st : List Own} (h : At B rest st) (hr : rest.all (ptrO (rest.length + 2)) = true) {m : Nat} (hm : m ≤ 8) :
    ∃ l st', NamesOk m l ∧ At (B + 20) rest st' ∧ run cs fns (n+3) 24 [.own 1, .int m] st = .ok (.lst (l.map .str)) st' := by
  have key : ∃ d st', run cs fns (n + 2 + 1) 24 [.own 1, .int m] st = .ok d st' ∧ At (B + 20) rest st' ∧ ∃ l, NamesOk m l ∧ d = .lst (l.map .str) := by
    refine run_drawW P.h24 rfl rfl h hr ?_
    obtain ⟨w, st1, w0, w1, a1, r1⟩ := h.draw P n (by omega) hr (m := 4) (by omega) (by omega)
    obtain ⟨b, st2, b0, b1, a2, r2⟩ := a1.draw P n (by omega) hr (m := 26) (by omega) (by omega)
    obtain ⟨b, rfl⟩ := Int.eq_ofNat_of_zero_le b0
    obtain ⟨L, hL⟩ : ∃ L, L = Str.ofString "abcdefghijklmnopqrstuvwxyz" := ⟨_, rfl⟩
    simp only [f_law_names]
    refine SW.nx (e' := ⟨[some (.own 1), some (.int m), some (.str L), none, none, none, none, none, none, none, none, none], st⟩) (by simp [lit_abc, hL]) ?_
    refine SW.nx (e' := ⟨[some (.own 1), some (.int m), some (.str L), none, none, some (.int w), some (.int b), none, none, none, none, none], st2⟩) (by simp [r1, r2]) ?_
    have fin : ∀ {B' : Nat} {st' : List Own} {l : List Str}, At B' rest st' → B' ≤ B + 20 → NamesOk m l → ∃ d' more st'', st' = st'' ++ more ∧ At (B + 20) rest st'' ∧ give st.length (⟨[], st'⟩ : En) (.lst (l.map .str)) = some d' ∧ ptr st.length d' = true ∧ ∃ l, NamesOk m l ∧ d' = .lst (l.map .str) := fun {B' st' l} ha hb hn =>
      ⟨_, [], st', by rw [List.append_nil], ha.mono hb, rfl, ptr_strs, l, hn, rfl⟩
    by_cases hw0 : w = 0
    · have d1 := deq_int (x := w) (y := 0)
      rw [decide_eq_true hw0] at d1
      refine SW.condT (e1 := ⟨[some (.own 1), some (.int m), some (.str L), none, none, some (.int w), some (.int b), none, none, none, none, none], st2⟩) (by simp [d1]) ?_
      refine SW.nx (e' := ⟨[some (.own 1), some (.int m), some (.str L), none, none, some (.int w), some (.int b), some (.str (Str.ofString "in out gone level edge once alone off fresh row sleeps woken pipe set entry put wait")), none, none, none, none], st2⟩) (by simp [lit_own]) ?_
      have e20 : (own20.take 17).map D.str ++ [.str (Str.ofString "add"), .str (Str.ofString "open"), .str (Str.ofString "shut")] = own20.map .str := rfl
      have l20 : 17 + 3 ≤ sizeLine := szl (by omega)
      have l17 : ((own20.take 17).map D.str).length = 17 := rfl
      refine SW.nx (e' := ⟨[some (.own 1), some (.int m), some (.str L), none, none, some (.int w), some (.int b), some (.lst (own20.map .str)), none, none, none, none], st2⟩) ?_ ?_
      · simp only [evS_set, evE_bin, evE_mt, evE_var, evE_str, evEs_cons, evEs_nil, evE_lst, lit_sp, lit_add, lit_open, lit_shut]
        simp [-List.map_take, lit_own2, lit_sp, own20_split, l20, l17, e20]
      have c1 : evE cs (run cs fns (n + 2)) (.comp (.ix (.var 7) (.bin .mod (.bin .add (.var 6) (.bin .mul (.int 7) (.var 8))) (.int 20))) (.nm 8) (.range (.var 1)) (.no) [8]) ⟨[some (.own 1), some (.int m), some (.str L), none, none, some (.int w), some (.int b), some (.lst (own20.map .str)), none, none, none, none], st2⟩ = .ok (.lst ((List.range m).map fun k => .str (nm0 b k))) ⟨[some (.own 1), some (.int m), some (.str L), none, none, some (.int w), some (.int b), some (.lst (own20.map .str)), none, none, none, none], st2⟩ := by
        refine comp_all (dx := fun k : Nat => D.int k) (fun k => .str (nm0 b k)) (evI_range_nat (by simp) (by omega)) (szl (by simp; omega)) fun k hk => ?_
        refine ⟨[some (.own 1), some (.int m), some (.str L), none, none, some (.int w), some (.int b), some (.lst (own20.map .str)), some (.int k), none, none, none], [some (.own 1), some (.int m), some (.str L), none, none, some (.int w), some (.int b), some (.lst (own20.map .str)), some (.int k), none, none, none], by simp [wipeL], ?_⟩
        have s7 : small 7 = true := by decide
        have em : ((b : Int) + 7 * (k : Int)) % 20 = (((b + 7 * k) % 20 : Nat) : Int) := by omega
        have g : atI (own20.map D.str) (((b : Int) + 7 * (k : Int)) % 20) = some (.str (nm0 b k)) := by
          rw [em, atI_nat, List.getElem?_map, List.getElem?_eq_getElem (show (b + 7 * k) % 20 < own20.length from Nat.mod_lt _ (by decide))]
          unfold nm0
          rw [List.getD_eq_getElem?_getD, List.getElem?_eq_getElem (show (b + 7 * k) % 20 < own20.length from Nat.mod_lt _ (by decide))]
          rfl
        simp [s7, g]
      have e1 : ((List.range m).map fun k => D.str (nm0 b k)) = ((List.range m).map (nm0 b)).map .str := by rw [List.map_map]; rfl
      rw [e1] at c1
      exact SW.rt (by rw [evS_ret, c1]; rfl) (fin a2 (by omega) (nm0_ok hm))
    · have d1 := deq_int (x := w) (y := 0)
      rw [decide_eq_false hw0] at d1
      refine SW.condF (e1 := ⟨[some (.own 1), some (.int m), some (.str L), none, none, some (.int w), some (.int b), none, none, none, none, none], st2⟩) (by simp [d1]) (SW.nil ?_)
      obtain ⟨zs, st3, z1, z2, z3, a3⟩ := comp_st (cs := cs) (cal := run cs fns (n + 2)) (elt := .ix (.var 2) (.call 23 (.cons (.var 0) (.cons (.int 26) (.nil))))) (tg := .nm 8) (it := .range (.int 7)) (vs := [8]) (e := ⟨[some (.own 1), some (.int m), some (.str L), none, none, some (.int w), some (.int b), none, none, none, none, none], st2⟩)
        (dx := fun k : Nat => D.int k) (xs := List.range 7) (γ := Nat × Nat) (·.1) (fun z => .str ⟨#[97 + z.2]⟩) (fun z => z.2 < 26) (fun j st => At (B + 2 + j) rest st) (evI_range_nat (m := 7) (by simp) (by omega)) (szl (by simp)) a2 fun k hk j st hj hi => by
          obtain ⟨v, st', v0, v1, hi', hv⟩ := hi.draw P n (by simp at hj; omega) hr (m := 26) (by omega) (by omega)
          obtain ⟨v, rfl⟩ := Int.eq_ofNat_of_zero_le v0
          have g := letter_ix (i := v) (by omega)
          rw [← hL] at g
          refine ⟨(k, v), [some (.own 1), some (.int m), some (.str L), none, none, some (.int w), some (.int b), none, some (.int k), none, none, none], [some (.own 1), some (.int m), some (.str L), none, none, some (.int w), some (.int b), none, some (.int k), none, none, none], st', rfl, by show v < 26; omega, by simp [wipeL], ?_, hi'⟩
          simp [hv, g]
      obtain ⟨t, ht⟩ : ∃ t, t = zs.map fun z => 97 + z.2 := ⟨_, rfl⟩
      have t7 : t.length = 7 := by
        have := congrArg List.length z1
        rw [ht, List.length_map]
        simpa using this
      have ts : ∀ c ∈ t, 97 ≤ c ∧ c ≤ 122 := fun c hc => by
        rw [ht] at hc
        obtain ⟨z, hz, rfl⟩ := List.mem_map.mp hc
        have := z2 z hz
        omega
      have ez : (zs.map fun z => D.str ⟨#[97 + z.2]⟩) = t.map fun c => D.str ⟨#[c]⟩ := by rw [ht, List.map_map]; rfl
      rw [ez] at z3
      have jl := joinL_ones (l := t) (by omega)
      obtain ⟨T, hT⟩ : ∃ T : Str, T = ⟨t.toArray⟩ := ⟨_, rfl⟩
      rw [← hT] at jl
      have Tl : T.cps.toList = t := by rw [hT, mk_l]
      have T7 : T.length = 7 := by rw [hT, len_mk, t7]
      simp only [List.length_range] at a3
      refine SW.nx (e' := ⟨[some (.own 1), some (.int m), some (.str L), some (.str T), none, some (.int w), some (.int b), none, none, none, none, none], st3⟩) (by simp [lit_e, z3, jl]) ?_
      by_cases hw1 : w = 1
      · have d1 := deq_int (x := w) (y := 1)
        rw [decide_eq_true hw1] at d1
        refine SW.condT (e1 := ⟨[some (.own 1), some (.int m), some (.str L), some (.str T), none, some (.int w), some (.int b), none, none, none, none, none], st3⟩) (by simp [d1]) ?_
        have c1 : evE cs (run cs fns (n + 2)) (.comp (.slc (.bin .add (.ix (.var 2) (.bin .mod (.bin .add (.var 6) (.bin .fdiv (.var 8) (.int 8))) (.int 26))) (.var 3)) (.no) (.yes (.bin .add (.int 1) (.bin .mod (.bin .add (.var 8) (.var 6)) (.int 8))))) (.nm 8) (.range (.var 1)) (.no) [8]) ⟨[some (.own 1), some (.int m), some (.str L), some (.str T), none, some (.int w), some (.int b), none, none, none, none, none], st3⟩ = .ok (.lst ((List.range m).map fun k => .str (nm1 b t k))) ⟨[some (.own 1), some (.int m), some (.str L), some (.str T), none, some (.int w), some (.int b), none, none, none, none, none], st3⟩ := by
          refine comp_all (dx := fun k : Nat => D.int k) (fun k => .str (nm1 b t k)) (evI_range_nat (by simp) (by omega)) (szl (by simp; omega)) fun k hk => ?_
          refine ⟨[some (.own 1), some (.int m), some (.str L), some (.str T), none, some (.int w), some (.int b), none, some (.int k), none, none, none], [some (.own 1), some (.int m), some (.str L), some (.str T), none, some (.int w), some (.int b), none, some (.int k), none, none, none], by simp [wipeL], ?_⟩
          have hk := List.mem_range.mp hk
          have em : ((b : Int) + (k : Int) / 8) % 26 = ((b : Nat) : Int) := by omega
          have em2 : (1 : Int) + ((k : Int) + (b : Int)) % 8 = ((1 + (k + b) % 8 : Nat) : Int) := by omega
          have g := letter_ix (i := b) (by omega)
          rw [← hL, ← em] at g
          have l1 : (⟨#[97 + b]⟩ : Str).length = 1 := rfl
          have l8 : 1 + 7 ≤ sizeLine := szl (by omega)
          have ap : (⟨#[97 + b]⟩ : Str) ++ T = ⟨((97 + b) :: t).toArray⟩ := by
            rw [app_eq, Tl]
            rfl
          have ct : cutS ((⟨#[97 + b]⟩ : Str) ++ T) none (some ((1 : Int) + ((k : Int) + (b : Int)) % 8)) = nm1 b t k := by
            rw [em2, cut_eq, ap, mk_l]; rfl
          simp [g, l1, T7, l8, ct]
        have e1 : ((List.range m).map fun k => D.str (nm1 b t k)) = ((List.range m).map (nm1 b t)).map .str := by rw [List.map_map]; rfl
        rw [e1] at c1
        exact SW.rt (by rw [evS_ret, c1]; rfl) (fin a3 (by omega) (nm1_ok (b := b) hm (by omega) t7 ts))
      · have d1 := deq_int (x := w) (y := 1)
        rw [decide_eq_false hw1] at d1
        refine SW.condF (e1 := ⟨[some (.own 1), some (.int m), some (.str L), some (.str T), none, some (.int w), some (.int b), none, none, none, none, none], st3⟩) (by simp [d1]) (SW.nil ?_)
        have c1 : evE cs (run cs fns (n + 2)) (.comp (.ix (.var 2) (.bin .mod (.bin .add (.var 6) (.bin .mul (.int 5) (.var 8))) (.int 26))) (.nm 8) (.range (.var 1)) (.no) [8]) ⟨[some (.own 1), some (.int m), some (.str L), some (.str T), none, some (.int w), some (.int b), none, none, none, none, none], st3⟩ = .ok (.lst ((List.range m).map fun k => .str ⟨#[ch b k]⟩)) ⟨[some (.own 1), some (.int m), some (.str L), some (.str T), none, some (.int w), some (.int b), none, none, none, none, none], st3⟩ := by
          refine comp_all (dx := fun k : Nat => D.int k) (fun k => .str ⟨#[ch b k]⟩) (evI_range_nat (by simp) (by omega)) (szl (by simp; omega)) fun k hk => ?_
          refine ⟨[some (.own 1), some (.int m), some (.str L), some (.str T), none, some (.int w), some (.int b), none, some (.int k), none, none, none], [some (.own 1), some (.int m), some (.str L), some (.str T), none, some (.int w), some (.int b), none, some (.int k), none, none, none], by simp [wipeL], ?_⟩
          have s5 : small 5 = true := by decide
          have em : ((b : Int) + 5 * (k : Int)) % 26 = (((b + 5 * k) % 26 : Nat) : Int) := by omega
          have g := letter_ix (i := (b + 5 * k) % 26) (Nat.mod_lt _ (by omega))
          rw [← hL, ← em] at g
          simp [s5, g, ch]
        refine SW.nx (e' := ⟨[some (.own 1), some (.int m), some (.str L), some (.str T), some (.lst ((List.range m).map fun k => .str ⟨#[ch b k]⟩)), some (.int w), some (.int b), none, none, none, none, none], st3⟩) (by simp [c1]) ?_
        by_cases hw2 : w = 2
        · have d1 := deq_int (x := w) (y := 2)
          rw [decide_eq_true hw2] at d1
          obtain ⟨a, st4, a0, a1', a4, r4⟩ := a3.draw P n (by omega) hr (m := 7) (by omega) (by omega)
          obtain ⟨z, st5, z0, z1', a5, r5⟩ := a4.draw P n (by omega) hr (m := 8) (by omega) (by omega)
          obtain ⟨a, rfl⟩ := Int.eq_ofNat_of_zero_le a0
          obtain ⟨z, rfl⟩ := Int.eq_ofNat_of_zero_le z0
          refine SW.condT (e1 := ⟨[some (.own 1), some (.int m), some (.str L), some (.str T), some (.lst ((List.range m).map fun k => .str ⟨#[ch b k]⟩)), some (.int w), some (.int b), none, none, none, none, none], st3⟩) (by simp [d1]) ?_
          refine SW.nx (e' := ⟨[some (.own 1), some (.int m), some (.str L), some (.str T), some (.lst ((List.range m).map fun k => .str ⟨#[ch b k]⟩)), some (.int w), some (.int b), none, none, some (.int a), some (.int z), none], st5⟩) (by simp [r4, r5]) ?_
          have c2 : evE cs (run cs fns (n + 2)) (.comp (.bin .add (.bin .add (.slc (.var 3) (.no) (.yes (.bi .min (.cons (.var 9) (.cons (.var 10) (.nil)))))) (.var 11)) (.slc (.var 3) (.yes (.var 9)) (.yes (.var 10)))) (.nm 11) (.seq (.var 4)) (.no) [11]) ⟨[some (.own 1), some (.int m), some (.str L), some (.str T), some (.lst ((List.range m).map fun k => .str ⟨#[ch b k]⟩)), some (.int w), some (.int b), none, none, some (.int a), some (.int z), none], st5⟩ = .ok (.lst ((List.range m).map fun k => .str (nm2 b t a z k))) ⟨[some (.own 1), some (.int m), some (.str L), some (.str T), some (.lst ((List.range m).map fun k => .str ⟨#[ch b k]⟩)), some (.int w), some (.int b), none, none, some (.int a), some (.int z), none], st5⟩ := by
            refine comp_all (dx := fun k : Nat => D.str ⟨#[ch b k]⟩) (fun k => .str (nm2 b t a z k)) (by simp [srcOf, itemsOf]) (szl (by simp; omega)) fun k hk => ?_
            refine ⟨[some (.own 1), some (.int m), some (.str L), some (.str T), some (.lst ((List.range m).map fun k => .str ⟨#[ch b k]⟩)), some (.int w), some (.int b), none, none, some (.int a), some (.int z), some (.str ⟨#[ch b k]⟩)], [some (.own 1), some (.int m), some (.str L), some (.str T), some (.lst ((List.range m).map fun k => .str ⟨#[ch b k]⟩)), some (.int w), some (.int b), none, none, some (.int a), some (.int z), some (.str ⟨#[ch b k]⟩)], by simp [wipeL], ?_⟩
            obtain ⟨q, hq⟩ : ∃ q, q = min a z := ⟨_, rfl⟩
            have em : (if (z : Int) < a then (z : Int) else a) = (q : Int) := by split <;> omega
            have c3 := cut_eq (z := T) (k := q)
            have c4 := cut_eq2 (z := T) (a := a) (b := z)
            rw [Tl] at c3 c4
            have l1 : (cutS T none (some (q : Int))).length ≤ 7 := by
              rw [c3, len_mk, List.length_take, t7]; omega
            have l2 : (⟨#[ch b k]⟩ : Str).length = 1 := rfl
            have l3 : (cutS T none (some (q : Int))).length + 1 ≤ sizeLine := szl (by omega)
            have l4 : (cutS T none (some (q : Int)) ++ (⟨#[ch b k]⟩ : Str)).length + (cutS T (some (a : Int)) (some (z : Int))).length ≤ sizeLine := by
              have x1 : (cutS T none (some (q : Int)) ++ (⟨#[ch b k]⟩ : Str)).length ≤ 8 := by
                rw [c3, app_eq, len_mk, mk_l, List.length_append, List.length_take, t7]
                show min q 7 + 1 ≤ 8
                omega
              have x2 : (cutS T (some (a : Int)) (some (z : Int))).length ≤ 7 := by
                rw [c4, len_mk, List.length_drop, List.length_take, t7]; omega
              exact szl (by omega)
            have ap : cutS T none (some (q : Int)) ++ (⟨#[ch b k]⟩ : Str) ++ cutS T (some (a : Int)) (some (z : Int)) = nm2 b t a z k := by
              rw [strEq, app_l, app_l, c3, c4]
              unfold nm2
              simp only [mk_l, hq]
            have mi : Mi.minD (.int a) (.int z) = some (.int (q : Int)) := by
              show some (D.int (if (z : Int) < a then (z : Int) else a)) = _
              rw [em]
            simp [mi, l2, l3, l4, ap]
          have e1 : ((List.range m).map fun k => D.str (nm2 b t a z k)) = ((List.range m).map (nm2 b t a z)).map .str := by rw [List.map_map]; rfl
          rw [e1] at c2
          exact SW.rt (by rw [evS_ret, c2]; rfl) (fin a5 (by omega) (nm2_ok (z := z) hm t7 ts (by omega)))
        · have d1 := deq_int (x := w) (y := 2)
          rw [decide_eq_false hw2] at d1
          refine SW.condF (e1 := ⟨[some (.own 1), some (.int m), some (.str L), some (.str T), some (.lst ((List.range m).map fun k => .str ⟨#[ch b k]⟩)), some (.int w), some (.int b), none, none, none, none, none], st3⟩) (by simp [d1]) (SW.nil ?_)
          obtain ⟨zs, st4, z1, z2, z3, a4⟩ := comp_st (cs := cs) (cal := run cs fns (n + 2)) (elt := .bin .add (.var 11) (.slc (.var 3) (.no) (.yes (.call 23 (.cons (.var 0) (.cons (.int 8) (.nil))))))) (tg := .nm 11) (it := .seq (.var 4)) (vs := [11]) (e := ⟨[some (.own 1), some (.int m), some (.str L), some (.str T), some (.lst ((List.range m).map fun k => .str ⟨#[ch b k]⟩)), some (.int w), some (.int b), none, none, none, none, none], st3⟩)
            (dx := fun c : Nat => D.str ⟨#[c]⟩) (xs := (List.range m).map (ch b)) (γ := Nat × Nat) (·.1) (fun z => .str (nm3 t z)) (fun z => z.2 < 8) (fun j st => At (B + 2 + 7 + j) rest st) (by simp [srcOf, itemsOf]) (szl (by simp; omega)) a3 fun c hc j st hj hi => by
              simp at hj
              obtain ⟨v, st', v0, v1, hi', hv⟩ := hi.draw P n (by omega) hr (m := 8) (by omega) (by omega)
              obtain ⟨v, rfl⟩ := Int.eq_ofNat_of_zero_le v0
              refine ⟨(c, v), [some (.own 1), some (.int m), some (.str L), some (.str T), some (.lst ((List.range m).map fun k => .str ⟨#[ch b k]⟩)), some (.int w), some (.int b), none, none, none, none, some (.str ⟨#[c]⟩)], [some (.own 1), some (.int m), some (.str L), some (.str T), some (.lst ((List.range m).map fun k => .str ⟨#[ch b k]⟩)), some (.int w), some (.int b), none, none, none, none, some (.str ⟨#[c]⟩)], st', rfl, by show v < 8; omega, by simp [wipeL], ?_, hi'⟩
              have c3 := cut_eq (z := T) (k := v)
              rw [Tl] at c3
              have l1 : (cutS T none (some (v : Int))).length ≤ 7 := by
                rw [c3, len_mk, List.length_take, t7]; omega
              have l2 : (⟨#[c]⟩ : Str).length = 1 := rfl
              have l3 : 1 + (cutS T none (some (v : Int))).length ≤ sizeLine := szl (by omega)
              have ap : (⟨#[c]⟩ : Str) ++ cutS T none (some (v : Int)) = nm3 t (c, v) := by
                rw [strEq, app_l, c3]
                unfold nm3
                simp only [mk_l]
                rfl
              simp [hv, l2, l3, ap]
          have e1 : (zs.map fun z => D.str (nm3 t z)) = (zs.map (nm3 t)).map .str := by rw [List.map_map]; rfl
          rw [e1] at z3
          simp only [List.length_map, List.length_range] at a4
          exact SW.rt (by rw [evS_ret, z3]; rfl) (fin a4 (by omega) (nm3_ok z1 z2 hm t7 ts))
  obtain ⟨d, st', e1, e2, l, e3, e4⟩ := key
  exact ⟨l, st', e3, e2, by rw [← e4]; exact e1⟩
end Mi.A
end

section
set_option Elab.async false
set_option linter.all false
set_option maxRecDepth 100000
set_option maxHeartbeats 4000000
/-! A14: pipes and entries drawn. -/
namespace Mi.A
open PySem L2
variable {fns : List Fn}
theorem pick3 {a b c : Int} {v : Int} (h0 : 0 ≤ v) (h1 : v < 3) {Q : Int → Prop} (ha : Q a) (hb : Q b) (hc : Q c) : ∃ r, Q r ∧ atI [D.int a, D.int b, D.int c] v = some (.int r) := by
  have : v = 0 ∨ v = 1 ∨ v = 2 := by omega
  rcases this with rfl | rfl | rfl
  · exact ⟨a, ha, by simp⟩
  · exact ⟨b, hb, by simp⟩
  · exact ⟨c, hc, by simp⟩
theorem pick4 {a b c d : Int} {v : Int} (h0 : 0 ≤ v) (h1 : v < 4) {Q : Int → Prop} (ha : Q a) (hb : Q b) (hc : Q c) (hd : Q d) : ∃ r, Q r ∧ atI [D.int a, D.int b, D.int c, D.int d] v = some (.int r) := by
  have : v = 0 ∨ v = 1 ∨ v = 2 ∨ v = 3 := by omega
  rcases this with rfl | rfl | rfl | rfl
  · exact ⟨a, ha, by simp⟩
  · exact ⟨b, hb, by simp⟩
  · exact ⟨c, hc, by simp⟩
  · exact ⟨d, hd, by simp⟩
theorem pipe_ok (P : Has fns) (n : Nat) {B : Nat} (hB : B ≤ 10000000) {rest st : List Own} (h : At B rest st) (hr : rest.all (ptrO (rest.length + 2)) = true) {x : Str} (hx : Nm x) :
    ∃ p st', PipeOk p ∧ p.name = x ∧ At (B + 5) rest st' ∧ run cs fns (n+3) 25 [.own 1, .str x] st = .ok p.d st' := by
  have key : ∃ d st', run cs fns (n + 2 + 1) 25 [.own 1, .str x] st = .ok d st' ∧ At (B + 5) rest st' ∧ ∃ p, PipeOk p ∧ p.name = x ∧ d = p.d := by
    refine run_drawW P.h25 rfl rfl h hr ?_
    obtain ⟨v1, st1, v10, v11, a1, r1⟩ := h.draw P n (by omega) hr (m := 9) (by omega) (by omega)
    obtain ⟨v2, st2, v20, v21, a2, r2⟩ := a1.draw P n (by omega) hr (m := 3) (by omega) (by omega)
    obtain ⟨room, hroom, g1⟩ := pick3 v20 v21 (Q := fun r => 1 ≤ r ∧ r ≤ 9) (a := 1) (b := 9) (c := 1 + v1) ⟨by omega, by omega⟩ ⟨by omega, by omega⟩ ⟨by omega, by omega⟩
    obtain ⟨v3, st3, v30, v31, a3, r3⟩ := a2.draw P n (by omega) hr (m := room + 1) (by omega) (by omega)
    obtain ⟨v4, st4, v40, v41, a4, r4⟩ := a3.draw P n (by omega) hr (m := 3) (by omega) (by omega)
    obtain ⟨held, hheld, g2⟩ := pick3 v40 v41 (Q := fun r => 0 ≤ r ∧ r ≤ room) (a := 0) (b := room) (c := v3) ⟨by omega, by omega⟩ ⟨by omega, by omega⟩ ⟨by omega, by omega⟩
    obtain ⟨v5, st5, v50, v51, a5, r5⟩ := a4.draw P n (by omega) hr (m := 4) (by omega) (by omega)
    have d1 := deq_int (x := v5) (y := 0)
    simp only [f_law_pipe]
    refine SW.nx (e' := ⟨[some (.own 1), some (.str x), some (.int room), none], st2⟩) (by simp [r1, r2, g1]) ?_
    refine SW.nx (e' := ⟨[some (.own 1), some (.str x), some (.int room), some (.int held)], st4⟩) (by simp [r3, r4, g2]) ?_
    refine SW.rt (d := (⟨x, room, held, decide (v5 = 0)⟩ : Pipe).d) (e' := ⟨[some (.own 1), some (.str x), some (.int room), some (.int held)], st5⟩) (by simp [r5, d1, Pipe.d]) ?_
    exact ⟨_, [], st5, by simp, a5, rfl, pipe_ptr, ⟨x, room, held, decide (v5 = 0)⟩, ⟨hx, hroom.1, hroom.2, hheld.1, hheld.2⟩, rfl, rfl⟩
  obtain ⟨d, st', e1, e2, p, e3, e4, e5⟩ := key
  exact ⟨p, st', e3, e4, e2, by rw [← e5]; exact e1⟩
/-! ### cells behind -/
mutual
theorem ptr_mono {n m : Nat} (h : n ≤ m) : ∀ d : D, ptr n d = true → ptr m d = true
  | .own i, q => decide_eq_true (Nat.lt_of_lt_of_le (of_decide_eq_true q) h)
  | .lst xs, q => ptrs_mono h xs q
  | .tup xs, q => ptrs_mono h xs q
  | .dic kvs, q => ptrK_mono h kvs q
  | .non, _ => rfl
  | .bl _, _ => rfl
  | .int _, _ => rfl
  | .str _, _ => rfl
theorem ptrs_mono {n m : Nat} (h : n ≤ m) : ∀ xs : List D, ptrs n xs = true → ptrs m xs = true
  | [], _ => rfl
  | x :: xs, q => by
    have q : (ptr n x && ptrs n xs) = true := q
    rw [Bool.and_eq_true] at q
    show (ptr m x && ptrs m xs) = true
    rw [ptr_mono h x q.1, ptrs_mono h xs q.2]; rfl
theorem ptrK_mono {n m : Nat} (h : n ≤ m) : ∀ xs : List (Key × D), ptrK n xs = true → ptrK m xs = true
  | [], _ => rfl
  | (k, x) :: xs, q => by
    have q : (ptr n x && ptrK n xs) = true := q
    rw [Bool.and_eq_true] at q
    show (ptr m x && ptrK m xs) = true
    rw [ptr_mono h x q.1, ptrK_mono h xs q.2]; rfl
end
theorem ptrO_mono {n m : Nat} (h : n ≤ m) : ∀ o : Own, ptrO n o = true → ptrO m o = true
  | .lst xs, q => ptrs_mono h xs q
  | .dic kvs, q => ptrK_mono h kvs q
theorem all_mono {n m : Nat} (h : n ≤ m) {l : List Own} (q : l.all (ptrO n) = true) : l.all (ptrO m) = true := by
  rw [List.all_eq_true] at q ⊢
  exact fun o ho => ptrO_mono h o (q o ho)
theorem rest_more {rest more : List Own} (hr : rest.all (ptrO (rest.length + 2)) = true) (hm : more.all (ptrO 0) = true) : (rest ++ more).all (ptrO ((rest ++ more).length + 2)) = true := by
  rw [List.all_append, List.length_append, all_mono (by omega) hr, all_mono (by omega) hm]; rfl
theorem At.more {B : Nat} {rest st : List Own} (h : At B rest st) (m : List Own) : At B (rest ++ m) (st ++ m) := by
  obtain ⟨s, hs, rfl⟩ := h
  exact ⟨s, hs, by rw [List.append_assoc]⟩
/-- one cell behind; its place -/
theorem At.split {B : Nat} {rest more st : List Own} (h : At B (rest ++ more) st) : ∃ st0, At B rest st0 ∧ st = st0 ++ more := by
  obtain ⟨s, hs, rfl⟩ := h
  exact ⟨s ++ rest, ⟨s, hs, rfl⟩, by rw [List.append_assoc]⟩
/-- a draw with cells behind -/
theorem At.drawM (P : Has fns) (n : Nat) {B : Nat} (hB : B ≤ 100000000) {rest st : List Own} (h : At B rest st) (more : List Own) (hr : rest.all (ptrO (rest.length + 2)) = true) (hm : more.all (ptrO 0) = true) {m : Int} (h0 : 0 < m) (h1 : m < 1073741824) :
    ∃ v st', 0 ≤ v ∧ v < m ∧ At (B+1) rest st' ∧ run cs fns (n+2) 23 [.own 1, .int m] (st ++ more) = .ok (.int v) (st' ++ more) := by
  obtain ⟨v, st', a, b, c, d⟩ := (h.more more).draw P n hB (rest_more hr hm) h0 h1
  obtain ⟨st2, e, rfl⟩ := c.split
  exact ⟨v, st2, a, b, e, d⟩
end Mi.A
end

section
set_option Elab.async false
set_option linter.all false
set_option maxRecDepth 100000
set_option maxHeartbeats 4000000
/-! A15: _law_entry. -/
namespace Mi.A
open PySem L2
variable {fns : List Fn}
theorem get_at0 {st : List Own} {L : Nat} (h : st.length = L) {c : Own} {more : List Own} : (st ++ c :: more)[L]? = some c := by
  subst h; simp
theorem get_at1 {st : List Own} {L : Nat} (h : st.length = L) {c d : Own} {more : List Own} : (st ++ c :: d :: more)[L + 1]? = some d := by
  subst h
  rw [List.getElem?_append_right (by omega)]
  simp
theorem set_at0 {st : List Own} {L : Nat} (h : st.length = L) {c o : Own} {more : List Own} : (st ++ c :: more).set L o = st ++ o :: more := by
  subst h; simp
theorem set_at1 {st : List Own} {L : Nat} (h : st.length = L) {c d o : Own} {more : List Own} : (st ++ c :: d :: more).set (L + 1) o = st ++ c :: o :: more := by
  subst h
  rw [List.set_append_right _ _ (by omega)]
  simp
/-- a comprehension with a test that draws: some of what is walked -/
theorem turns_stF {α β : Type} {base : List (Option D)} {f : D → En → R (Option β)} {dx : α → D} {dz : α → β} {I : Nat → List Own → Prop} : ∀ {xs : List α} {k : Nat} {st : List Own}, I k st →
    (∀ x ∈ xs, ∀ j st, k ≤ j → j < k + xs.length → I j st → ∃ (b : Bool) (vs : List (Option D)) (st' : List Own), f (dx x) ⟨base, st⟩ = .ok (if b = true then some (dz x) else none) ⟨vs, st'⟩ ∧ I (j + 1) st') →
    ∃ (ys : List α) (st' : List Own), ys.Sublist xs ∧ turns base f (xs.map dx) st = .ok (ys.map dz) ⟨base, st'⟩ ∧ I (k + xs.length) st'
  | [], k, st, h0, _ => ⟨[], st, .slnil, rfl, h0⟩
  | x :: xs, k, st, h0, hs => by
    obtain ⟨b, vs, st1, h3, h4⟩ := hs x List.mem_cons_self k st (Nat.le_refl _) (by simp) h0
    obtain ⟨ys, st2, g1, g3, g4⟩ := turns_stF (xs := xs) (k := k + 1) (dx := dx) (f := f) (base := base) (dz := dz) (I := I) h4 fun y hy j st hj hj2 hi => hs y (List.mem_cons_of_mem _ hy) j st (by omega) (by simp; omega) hi
    refine ⟨if b = true then x :: ys else ys, st2, ?_, ?_, by rw [List.length_cons, show k + (xs.length + 1) = k + 1 + xs.length by omega]; exact g4⟩
    · cases b
      · exact .cons _ g1
      · exact .cons_cons _ g1
    · rw [List.map_cons, turns, h3]
      dsimp only
      rw [g3]
      cases b <;> rfl
theorem comp_stF {cs : List D} {cal : Cal} {α : Type} {elt tt : CE} {tg : CT} {it : CI} {vs : List Nat} {e : En} {dx : α → D} {xs : List α} (dz : α → D) (I : Nat → List Own → Prop) (hi : evI cs cal it e = .ok (.fix (xs.map dx)) e) (hl : xs.length ≤ sizeLine) (h0 : I 0 e.st)
    (hs : ∀ x ∈ xs, ∀ j st, j < xs.length → I j st → ∃ (b : Bool) (vs1 vs2 vs3 : List (Option D)) (st' : List Own), asg tg (dx x) ⟨wipeL e.vs vs, st⟩ = some ⟨vs1, st⟩ ∧ evT cs cal (.yes tt) ⟨vs1, st⟩ = .ok b ⟨vs2, st'⟩ ∧ evE cs cal elt ⟨vs2, st'⟩ = .ok (dz x) ⟨vs3, st'⟩ ∧ I (j + 1) st') :
    ∃ (ys : List α) (st' : List Own), ys.Sublist xs ∧ evE cs cal (.comp elt tg it (.yes tt) vs) e = .ok (.lst (ys.map dz)) ⟨e.vs, st'⟩ ∧ I xs.length st' := by
  obtain ⟨ys, st', h1, h3, h4⟩ := turns_stF (base := wipeL e.vs vs) (f := compF cs cal elt tg (.yes tt)) (dx := dx) (dz := dz) (xs := xs) (k := 0) (I := I) h0 fun x hx j st _ hj hi' => by
      obtain ⟨b, vs1, vs2, vs3, st', g3, g4, g5, g6⟩ := hs x hx j st (by omega) hi'
      cases b
      · exact ⟨false, vs2, st', by simp [compF, g3, g4, -evT_yes], g6⟩
      · exact ⟨true, vs3, st', by simp [compF, g3, g4, g5, -evT_yes], g6⟩
  refine ⟨ys, st', h1, ?_, by rw [Nat.zero_add] at h4; exact h4⟩
  rw [evE_compF, hi, bind_ok]
  show (turns _ _ _ _).bind _ = _
  rw [h3, bind_ok, if_pos (by
    have := h1.length_le
    rw [List.length_map]
    exact Nat.le_trans this hl)]
theorem sub_filter {L : List Str} (hn : L.Nodup) : ∀ {l : List Str}, l.Sublist L → L.filter (fun w => decide (w ∈ l)) = l := by
  induction L with
  | nil => intro l h; cases h; rfl
  | cons x L ih =>
    intro l h
    rw [List.nodup_cons] at hn
    cases h with
    | cons _ h =>
      have : x ∉ l := fun z => hn.1 (h.subset z)
      rw [List.filter_cons]
      simp only [this, decide_false]
      exact ih hn.2 h
    | cons_cons _ h =>
      rename_i l
      rw [List.filter_cons]
      simp only [List.mem_cons, true_or, decide_true, if_true]
      congr 1
      have e : L.filter (fun w => decide (w = x ∨ w ∈ l)) = L.filter (fun w => decide (w ∈ l)) := List.filter_congr fun w hw => by
        have : w ≠ x := fun z => hn.1 (z ▸ hw)
        simp [this]
      rw [e]
      exact ih hn.2 h
theorem words_nodup : words.Nodup := by decide
theorem wd_sub {l : List Str} (h : l.Sublist words) : Wd l := (sub_filter words_nodup h).symm
def some7 : List (List Str) := [[sIn], [sOut], [sGone], [sIn, sOut], [sIn, sGone], [sOut, sGone], [sIn, sOut, sGone]]
theorem some7_ok : ∀ l ∈ some7, l.Sublist words ∧ l ≠ [] := by
  intro l hl
  simp only [some7, List.mem_cons, List.not_mem_nil, or_false] at hl
  rcases hl with rfl | rfl | rfl | rfl | rfl | rfl | rfl <;> refine ⟨?_, by simp⟩ <;> decide
theorem sub_pl {l : List Str} (h : l.Sublist words) : ∀ z ∈ l, Pl z := fun z hz => pl_words z (h.subset hz)
theorem entry_ok (P : Has fns) (n : Nat) {B : Nat} (hB : B ≤ 10000000) {rest st : List Own} (h : At B rest st) (hr : rest.all (ptrO (rest.length + 2)) = true) {x : Str} (hx : Nm x) {b : Bool} :
    ∃ e st', EntOk e ∧ e.target = x ∧ (b = true → e.asked = [sIn]) ∧ At (B + 9) rest st' ∧ run cs fns (n+3) 26 [.own 1, .str x, .bl b] st = .ok e.d st' := by
  have key : ∃ d st', run cs fns (n + 2 + 1) 26 [.own 1, .str x, .bl b] st = .ok d st' ∧ At (B + 9) rest st' ∧ ∃ e, EntOk e ∧ e.target = x ∧ (b = true → e.asked = [sIn]) ∧ d = e.d := by
    refine run_drawW P.h26 rfl rfl h hr ?_
    obtain ⟨c, hc⟩ : ∃ c : Own, c = .lst (some7.map ws) := ⟨_, rfl⟩
    have hc0 : [c].all (ptrO 0) = true := by rw [hc]; rfl
    have hr' := rest_more hr hc0
    obtain ⟨L, hL⟩ : ∃ L, L = st.length := ⟨_, rfl⟩
    have hL2 : L = rest.length + 2 := by rw [hL, h.len]
    have w1 : (Str.ofString "in").length ≤ 1000 := lit_in
    have e7 : [D.tup [.str sIn], .tup [.str sOut], .tup [.str sGone], .tup [.str sIn, .str sOut], .tup [.str sIn, .str sGone], .tup [.str sOut, .str sGone], .tup [.str sIn, .str sOut, .str sGone]] = some7.map ws := rfl
    have e6 : ∀ z, [D.tup [.str sIn], .tup [.str sOut], .tup [.str sGone], .tup [.str sIn, .str sOut], .tup [.str sIn, .str sGone], .tup [.str sOut, .str sGone]] ++ [z] = [D.tup [.str sIn], .tup [.str sOut], .tup [.str sGone], .tup [.str sIn, .str sOut], .tup [.str sIn, .str sGone], .tup [.str sOut, .str sGone], z] := fun _ => rfl
    have s6 : (6 : Nat) < sizeLine := szl' (by omega)
    simp only [f_law_entry]
    refine SW.nx (e' := ⟨[some (.own 1), some (.str x), some (.bl b), some (.own L), none, none, none, none, none], st ++ [.lst [D.tup [.str sIn], .tup [.str sOut], .tup [.str sGone], .tup [.str sIn, .str sOut], .tup [.str sIn, .str sGone], .tup [.str sOut, .str sGone]]]⟩) (by simp [lit_in, lit_out, lit_gone, hL]) ?_
    refine SW.nx (e' := ⟨[some (.own 1), some (.str x), some (.bl b), some (.own L), none, none, none, none, none], st ++ [c]⟩) ?_ ?_
    · simp [get_at0 hL.symm, set_at0 hL.symm, lit_in, lit_out, lit_gone, s6, hc, ← e7]
    -- what is asked
    have A : ∃ asked B1 st1, B1 ≤ B + 1 ∧ At B1 rest st1 ∧ asked.Sublist words ∧ asked ≠ [] ∧ (b = true → asked = [sIn]) ∧
        evS cs (run cs fns (n + 2)) (.set 4 (.ite (.var 2) (.tup (.cons (.str "in") (.nil))) (.ix (.var 3) (.call 23 (.cons (.var 0) (.cons (.int 7) (.nil))))))) ⟨[some (.own 1), some (.str x), some (.bl b), some (.own L), none, none, none, none, none], st ++ [c]⟩ = .nx ⟨[some (.own 1), some (.str x), some (.bl b), some (.own L), some (ws asked), none, none, none, none], st1 ++ [c]⟩ := by
      cases b with
      | true => exact ⟨[sIn], B, st, by omega, h, by decide, by simp, fun _ => rfl, by simp [lit_in, ws]⟩
      | false =>
        obtain ⟨v, st1, v0, v1, a1, r1⟩ := h.drawM P n (by omega) [c] hr hc0 (m := 7) (by omega) (by omega)
        obtain ⟨v, rfl⟩ := Int.eq_ofNat_of_zero_le v0
        have v7 : v < some7.length := by show v < 7; omega
        have g := some7_ok some7[v] (List.getElem_mem _)
        have l1 : st1.length = L := by rw [a1.len, hL2]
        have ga : atI (some7.map ws) (v : Int) = some (ws some7[v]) := by
          rw [atI_nat, List.getElem?_map, List.getElem?_eq_getElem v7]; rfl
        refine ⟨some7[v], B + 1, st1, by omega, a1, g.1, g.2, by simp, ?_⟩
        simp [r1, get_at0 l1]
        simp [hc, ga]
    obtain ⟨asked, B1, st1, hB1, a1, q1, q2, q3, q4⟩ := A
    refine SW.nx q4 ?_
    -- the mode
    obtain ⟨v, st2, v0, v1, a2, r2⟩ := a1.drawM P n (by omega) [c] hr hc0 (m := 2) (by omega) (by omega)
    obtain ⟨ed, g2⟩ : ∃ ed, atI [D.str sLevel, .str sEdge] v = some (.str (mode ed)) := by
      have : v = 0 ∨ v = 1 := by omega
      rcases this with rfl | rfl
      · exact ⟨false, by simp [mode]⟩
      · exact ⟨true, by simp [mode]⟩
    refine SW.nx (e' := ⟨[some (.own 1), some (.str x), some (.bl b), some (.own L), some (ws asked), some (.str (mode ed)), none, none, none], st2 ++ [c]⟩) (by simp [lit_level, lit_edge, r2, g2]) ?_
    obtain ⟨v3, st3, _, _, a3, r3⟩ := a2.drawM P n (by omega) [c] hr hc0 (m := 4) (by omega) (by omega)
    obtain ⟨v4, st4, _, _, a4, r4⟩ := a3.drawM P n (by omega) [c] hr hc0 (m := 4) (by omega) (by omega)
    have d3 := deq_int (x := v3) (y := 0)
    have d4 := deq_int (x := v4) (y := 0)
    refine SW.nx (e' := ⟨[some (.own 1), some (.str x), some (.bl b), some (.own L), some (ws asked), some (.str (mode ed)), some (.tup [.str x, ws asked, .str (mode ed), .bl (decide (v3 = 0)), .bl (decide (v4 = 0))]), none, none], st4 ++ [c]⟩) (by simp [r3, r4, d3, d4]) ?_
    obtain ⟨fresh, st5', f1, f2, a5'⟩ := comp_stF (cs := cs) (cal := run cs fns (n + 2)) (elt := .var 8) (tt := .cmp .gt (.call 23 (.cons (.var 0) (.cons (.int 3) (.nil)))) (.int 0)) (tg := .nm 8) (it := .seq (.var 4)) (vs := [8]) (e := ⟨[some (.own 1), some (.str x), some (.bl b), some (.own L), some (ws asked), some (.str (mode ed)), some (.tup [.str x, ws asked, .str (mode ed), .bl (decide (v3 = 0)), .bl (decide (v4 = 0))]), none, none], st4 ++ [c]⟩)
      (dx := D.str) (xs := asked) D.str (fun j st => At (B1 + 3 + j) (rest ++ [c]) st) (by simp [srcOf, itemsOf, ws]) (szl (by have := q1.length_le; have e : words.length = 3 := rfl; omega)) (a4.more [c]) fun w hw j st hj hi => by
        have := q1.length_le
        have e : words.length = 3 := rfl
        obtain ⟨v, st', v0, v1, hi', hv⟩ := hi.draw P n (by omega) hr' (m := 3) (by omega) (by omega)
        exact ⟨decide (0 < v), [some (.own 1), some (.str x), some (.bl b), some (.own L), some (ws asked), some (.str (mode ed)), some (.tup [.str x, ws asked, .str (mode ed), .bl (decide (v3 = 0)), .bl (decide (v4 = 0))]), none, some (.str w)], [some (.own 1), some (.str x), some (.bl b), some (.own L), some (ws asked), some (.str (mode ed)), some (.tup [.str x, ws asked, .str (mode ed), .bl (decide (v3 = 0)), .bl (decide (v4 = 0))]), none, some (.str w)], [some (.own 1), some (.str x), some (.bl b), some (.own L), some (ws asked), some (.str (mode ed)), some (.tup [.str x, ws asked, .str (mode ed), .bl (decide (v3 = 0)), .bl (decide (v4 = 0))]), none, some (.str w)], st', by simp [wipeL], by simp [hv], by simp, hi'⟩
    obtain ⟨st5, a5, e5⟩ := a5'.split
    subst e5
    refine SW.nx (e' := ⟨[some (.own 1), some (.str x), some (.bl b), some (.own L), some (ws asked), some (.str (mode ed)), some (.tup [.str x, ws asked, .str (mode ed), .bl (decide (v3 = 0)), .bl (decide (v4 = 0))]), some (ws fresh), none], st5 ++ [c]⟩) (by simp [f2]; rfl) ?_
    have al : asked.length ≤ 3 := q1.length_le
    obtain ⟨v6, st6, _, _, a6, r6⟩ := a5.drawM P n (by omega) [c] hr hc0 (m := 5) (by omega) (by omega)
    have d5 := mode_edge (b := ed)
    obtain ⟨en, hen⟩ : ∃ en : Ent, en = ⟨x, asked, ed, decide (v3 = 0), decide (v4 = 0), decide (0 < v6), if ed = true then fresh else []⟩ := ⟨_, rfl⟩
    have eok : EntOk en := by
      rw [hen]
      refine ⟨hx, wd_sub q1, q2, ?_, ?_⟩
      · show Wd (if ed = true then fresh else [])
        split
        · exact wd_sub (f1.trans q1)
        · exact Wd.nil
      · show (if ed = true then fresh else []) = [] ∨ (ed = true ∧ ∀ w ∈ (if ed = true then fresh else []), w ∈ asked)
        by_cases hE : ed = true
        · rw [if_pos hE]
          exact .inr ⟨hE, fun w hw => f1.subset hw⟩
        · rw [if_neg hE]
          exact .inl rfl
    refine SW.rt (d := en.d) (e' := ⟨[some (.own 1), some (.str x), some (.bl b), some (.own L), some (ws asked), some (.str (mode ed)), some (.tup [.str x, ws asked, .str (mode ed), .bl (decide (v3 = 0)), .bl (decide (v4 = 0))]), some (ws fresh), none], st6 ++ [c]⟩) ?_ ?_
    · cases ed <;> simp [r6, d5, lit_edge, hen, Ent.d, Ent.i, ws]
    · exact ⟨_, [c], st6, rfl, a6.mono (by omega), rfl, ent_ptr, en, eok, by rw [hen], fun z => by rw [hen]; exact q3 z, rfl⟩
  obtain ⟨d, st', e1, e2, e, e3, e4, e5, e6⟩ := key
  exact ⟨e, st', e3, e4, e5, e2, by rw [← e6]; exact e1⟩
end Mi.A
end

section
set_option Elab.async false
set_option linter.all false
set_option maxRecDepth 100000
set_option maxHeartbeats 4000000
/-! A16: entries, rows drawn. -/
namespace Mi.A
open PySem L2
variable {fns : List Fn}
@[simp] theorem popAtO_lst {xs : List D} {i : Int} : popAtO (.lst xs) (.int i) = (popI xs i).map fun p => (p.1, .lst p.2) := rfl
theorem eraseIdx_map' {α β : Type} (f : α → β) : ∀ (xs : List α) (k : Nat), (xs.map f).eraseIdx k = (xs.eraseIdx k).map f
  | [], _ => rfl
  | x :: xs, 0 => rfl
  | x :: xs, k + 1 => congrArg (f x :: ·) (eraseIdx_map' f xs k)
theorem popI_nat {α : Type} {f : α → D} {xs : List α} {k : Nat} (h : k < xs.length) : popI (xs.map f) (k : Int) = some (f xs[k], (xs.eraseIdx k).map f) := by
  unfold popI
  have : ixN (xs.map f).length (k : Int) = some k := by
    unfold ixN
    rw [if_pos (Int.natCast_nonneg k), if_pos (by rw [List.length_map]; omega)]; rfl
  rw [this]
  show ((xs.map f)[k]?).map _ = _
  rw [List.getElem?_map, List.getElem?_eq_getElem h]
  show some (f xs[k], (xs.map f).eraseIdx k) = _
  rw [eraseIdx_map']
theorem erase_perm {α : Type} : ∀ {xs : List α} {k : Nat} (h : k < xs.length), (xs[k] :: xs.eraseIdx k).Perm xs
  | [], _, h => absurd h (Nat.not_lt_zero _)
  | x :: xs, 0, h => .refl _
  | x :: xs, k + 1, h => (List.Perm.swap x (xs[k]'(by simpa using h)) (xs.eraseIdx k)).trans ((erase_perm (xs := xs) (k := k) (by simpa using h)).cons x)
theorem ents_ptr0 {F : List Ent} : ptrs 0 (F.map Ent.d) = true := ptrs_map _ fun _ _ => ent_ptr
theorem cells0 {l : List Str} {F : List Ent} : ([.lst (l.map .str), .lst (F.map Ent.d)] : List Own).all (ptrO 0) = true := by
  show (ptrs 0 (l.map .str) && (ptrs 0 (F.map Ent.d) && true)) = true
  rw [ptr_strs, ents_ptr0]; rfl
theorem entry_okM (P : Has fns) (n : Nat) {B : Nat} (hB : B ≤ 10000000) {rest st : List Own} (h : At B rest st) (more : List Own) (hr : rest.all (ptrO (rest.length + 2)) = true) (hm : more.all (ptrO 0) = true) {x : Str} (hx : Nm x) {b : Bool} :
    ∃ e st', EntOk e ∧ e.target = x ∧ (b = true → e.asked = [sIn]) ∧ At (B + 9) rest st' ∧ run cs fns (n+3) 26 [.own 1, .str x, .bl b] (st ++ more) = .ok e.d (st' ++ more) := by
  obtain ⟨e, st', a, b, c, d, f⟩ := entry_ok P n hB (h.more more) (rest_more hr hm) hx (b := b)
  obtain ⟨st2, g, rfl⟩ := d.split
  exact ⟨e, st2, a, b, c, g, f⟩
theorem pre_len {m : Nat} {p q : List Nat} {x : Nat} (h : List.range m = p ++ x :: q) : p.length < m := by
  have := congrArg List.length h
  simp at this
  omega
theorem entries_ok (P : HasW fns) (n : Nat) {B : Nat} (hB : B ≤ 1000000) {rest st : List Own} (h : At B rest st) (hr : rest.all (ptrO (rest.length + 2)) = true) {N Lw : List Str} (hn : (N ++ Lw).Nodup) (hl : (N ++ Lw).length ≤ 8) (hx : ∀ x ∈ N ++ Lw, Nm x) :
    ∃ (F : List Ent) (st' : List Own), F.length ≤ 6 ∧ (F.map (·.target)).Nodup ∧ (∀ e ∈ F, EntOk e ∧ e.target ∈ N ++ Lw ∧ (e.target ∈ Lw → e.asked = [sIn])) ∧ At (B + 100) rest st' ∧ run cs fns (n+4) 27 [.own 1, .lst (N.map .str), .lst (Lw.map .str)] st = .ok (.tup (F.map Ent.d)) st' := by
  have key : ∃ d st', run cs fns (n + 3 + 1) 27 [.own 1, .lst (N.map .str), .lst (Lw.map .str)] st = .ok d st' ∧ At (B + 100) rest st' ∧ ∃ F : List Ent, F.length ≤ 6 ∧ (F.map (·.target)).Nodup ∧ (∀ e ∈ F, EntOk e ∧ e.target ∈ N ++ Lw ∧ (e.target ∈ Lw → e.asked = [sIn])) ∧ d = .tup (F.map Ent.d) := by
    refine run_drawW P.h27 rfl rfl h hr ?_
    obtain ⟨L, hL⟩ : ∃ L, L = st.length := ⟨_, rfl⟩
    have hL2 : L = rest.length + 2 := by rw [hL, h.len]
    obtain ⟨V, hV⟩ : ∃ V : Option D → Option D → Option D → List (Option D), V = fun a b c => [some (.own 1), some (.lst (N.map .str)), some (.lst (Lw.map .str)), a, some (.own L), some (.own (L + 1)), b, c] := ⟨_, rfl⟩
    have sz : N.length + Lw.length ≤ sizeLine := szl (by rw [List.length_append] at hl; omega)
    simp only [f_law_entries]
    refine SW.nx (e' := ⟨V none none none, st ++ [.lst ((N ++ Lw).map .str), .lst []]⟩) ?_ ?_
    · simp [hV, sz, hL]
    obtain ⟨v1, st1, v10, v11, a1, r1⟩ := h.drawM P.toHas (n + 1) (by omega) [.lst ((N ++ Lw).map .str), .lst []] hr (cells0 (F := [])) (m := 7) (by omega) (by omega)
    obtain ⟨v2, st2, v20, v21, a2, r2⟩ := a1.drawM P.toHas (n + 1) (by omega) [.lst ((N ++ Lw).map .str), .lst []] hr (cells0 (F := [])) (m := 4) (by omega) (by omega)
    obtain ⟨q, hq, g1⟩ := pick4 v20 v21 (Q := fun r => 0 ≤ r ∧ r ≤ 6) (a := v1) (b := 6) (c := 2) (d := 3) ⟨by omega, by omega⟩ ⟨by omega, by omega⟩ ⟨by omega, by omega⟩ ⟨by omega, by omega⟩
    obtain ⟨q, rfl⟩ := Int.eq_ofNat_of_zero_le hq.1
    obtain ⟨M, hM⟩ : ∃ M, M = min (N ++ Lw).length q := ⟨_, rfl⟩
    have mi : Mi.minD (.int (N ++ Lw).length) (.int q) = some (.int M) := by
      show some (D.int (if (q : Int) < ((N ++ Lw).length : Int) then (q : Int) else _)) = _
      congr 2
      split <;> omega
    have ev1 : evE cs (run cs fns (n + 3)) (.bi .min (.cons (.bi .len (.cons (.var 4) (.nil))) (.cons (.ix (.lst (.cons (.call 23 (.cons (.var 0) (.cons (.int 7) (.nil)))) (.cons (.int 6) (.cons (.int 2) (.cons (.int 3) (.nil)))))) (.call 23 (.cons (.var 0) (.cons (.int 4) (.nil))))) (.nil)))) ⟨V none none none, st ++ [.lst ((N ++ Lw).map .str), .lst []]⟩ = .ok (.int M) ⟨V none none none, st2 ++ [.lst ((N ++ Lw).map .str), .lst []]⟩ := by
      rw [List.length_append] at mi
      rw [hV]
      simp only [List.map_append] at r1 r2
      simp [get_at0 hL.symm, r1, r2, g1] at mi ⊢
      simp [mi]
    have lenL : ∀ {B' : Nat} {s : List Own}, At B' rest s → s.length = L := fun ha => by rw [ha.len, hL2]
    have lwpl : ∀ z ∈ Lw, Pl z := fun z hz => (hx z (List.mem_append_right _ hz)).pl
    refine SW.fr (dx := fun k : Nat => D.int k) (xs := List.range M) (e0 := ⟨V none none none, st2 ++ [.lst ((N ++ Lw).map .str), .lst []]⟩)
      (fun pre e => ∃ a b c st0 PP F, e = ⟨V a b c, st0 ++ [.lst (PP.map .str), .lst (F.map Ent.d)]⟩ ∧ At (B + 2 + 11 * pre.length) rest st0 ∧ F.length = pre.length ∧ (PP ++ F.map (·.target)).Perm (N ++ Lw) ∧ ∀ e ∈ F, EntOk e ∧ (e.target ∈ Lw → e.asked = [sIn]))
      (evI_range_nat ev1 (by omega)) ⟨none, none, none, st2, N ++ Lw, [], rfl, a2, rfl, by simp, by simp⟩ (fun pre k post e hk he => ?_) fun e he => ?_
    · obtain ⟨a, b, c, st3, PP, F, rfl, a3, i1, i2, i3⟩ := he
      have hpre := pre_len hk
      have pl : PP.length + F.length = (N ++ Lw).length := by
        have := i2.length_eq
        rw [List.length_append, List.length_map] at this
        exact this
      have hp0 : 0 < PP.length := by omega
      have hmore : ([.lst (PP.map .str), .lst (F.map Ent.d)] : List Own).all (ptrO 0) = true := cells0
      refine ⟨⟨V (some (.int k)) b c, st3 ++ [.lst (PP.map .str), .lst (F.map Ent.d)]⟩, by simp [hV], ?_⟩
      obtain ⟨v, st4, v0, v1', a4, r4⟩ := a3.drawM P.toHas (n + 1) (by omega) [.lst (PP.map .str), .lst (F.map Ent.d)] hr hmore (m := PP.length) (by omega) (by omega)
      refine SW.nx (e' := ⟨V (some (.int k)) (some (.int v)) c, st4 ++ [.lst (PP.map .str), .lst (F.map Ent.d)]⟩) ?_ ?_
      · rw [hV]
        simp [get_at0 (lenL a3), r4]
      have C : ∃ (v' : Int) (st5 : List Own), 0 ≤ v' ∧ v' < PP.length ∧ At (B + 2 + 11 * pre.length + 2) rest st5 ∧ evS cs (run cs fns (n + 3)) (.cond (.and (.cmp .eq (.var 3) (.int 0)) (.cons (.cmp .ne (.var 2) (.lst (.nil))) (.cons (.cmp .eq (.call 23 (.cons (.var 0) (.cons (.int 2) (.nil)))) (.int 0)) (.nil)))) (.cons (.set 6 (.bin .sub (.bi .len (.cons (.var 4) (.nil))) (.int 1))) (.nil)) (.nil)) ⟨V (some (.int k)) (some (.int v)) c, st4 ++ [.lst (PP.map .str), .lst (F.map Ent.d)]⟩ = .nx ⟨V (some (.int k)) (some (.int v')) c, st5 ++ [.lst (PP.map .str), .lst (F.map Ent.d)]⟩ := by
        have d1 := deq_int (x := (k : Int)) (y := 0)
        have d2 := deq_strs lwpl (y := []) (by simp)
        simp only [List.map_nil] at d2
        by_cases h1 : (k : Int) = 0
        · rw [decide_eq_true h1] at d1
          by_cases h2 : Lw = []
          · rw [decide_eq_true h2] at d2
            exact ⟨v, st4, v0, v1', a4.mono (by omega), by rw [hV]; simp [d1, d2]⟩
          · rw [decide_eq_false h2] at d2
            obtain ⟨u, st5, u0, u1, a5, r5⟩ := a4.drawM P.toHas (n + 1) (by omega) [.lst (PP.map .str), .lst (F.map Ent.d)] hr hmore (m := 2) (by omega) (by omega)
            have d3 := deq_int (x := u) (y := 0)
            by_cases h3 : u = 0
            · rw [decide_eq_true h3] at d3
              exact ⟨PP.length - 1, st5, by omega, by omega, a5.mono (by omega), by rw [hV]; simp [d1, d2, d3, r5, get_at0 (lenL a5)]⟩
            · rw [decide_eq_false h3] at d3
              exact ⟨v, st5, v0, v1', a5.mono (by omega), by rw [hV]; simp [d1, d2, d3, r5]⟩
        · rw [decide_eq_false h1] at d1
          exact ⟨v, st4, v0, v1', a4.mono (by omega), by rw [hV]; simp [d1]⟩
      obtain ⟨v', st5, v0', v1'', a5, ev2⟩ := C
      refine SW.nx ev2 ?_
      obtain ⟨v', rfl⟩ := Int.eq_ofNat_of_zero_le v0'
      have hv' : v' < PP.length := by omega
      have pp := popI_nat (f := D.str) hv'
      obtain ⟨t, ht⟩ : ∃ t, t = PP[v'] := ⟨_, rfl⟩
      obtain ⟨P2, hP2⟩ : ∃ P2, P2 = PP.eraseIdx v' := ⟨_, rfl⟩
      have ep := erase_perm hv'
      rw [← ht, ← hP2] at pp ep
      refine SW.nx (e' := ⟨V (some (.int k)) (some (.int v')) (some (.str t)), st5 ++ [.lst (P2.map .str), .lst (F.map Ent.d)]⟩) ?_ ?_
      · rw [hV]
        simp [get_at0 (lenL a5), set_at0 (lenL a5), pp]
      have tin : t ∈ N ++ Lw := i2.mem_iff.mp (List.mem_append_left _ (ep.mem_iff.mp List.mem_cons_self))
      have hm2 : ([.lst (P2.map .str), .lst (F.map Ent.d)] : List Own).all (ptrO 0) = true := cells0
      obtain ⟨en, st6, e1, e2, e3, a6, r6⟩ := entry_okM P.toHas n (by omega) a5 [.lst (P2.map .str), .lst (F.map Ent.d)] hr hm2 (hx t tin) (b := decide (t ∈ Lw))
      have g2 := isIn_strs_l (x := t) (l := Lw)
      have fl : F.length < sizeLine := szl' (by omega)
      refine SW.nx (e' := ⟨V (some (.int k)) (some (.int v')) (some (.str t)), st6 ++ [.lst (P2.map .str), .lst ((F ++ [en]).map Ent.d)]⟩) ?_ (SW.nil ?_)
      · rw [hV]
        simp [get_at1 (lenL a5), get_at1 (lenL a6), set_at1 (lenL a6), g2, r6, fl]
      · refine ⟨_, _, _, st6, P2, F ++ [en], rfl, a6.mono (by simp; omega), by simp [i1], ?_, fun u hu => ?_⟩
        · rw [List.map_append, List.map_singleton, e2, ← List.append_assoc]
          have := ep.symm.append_right (F.map (·.target))
          exact ((List.perm_append_comm (l₁ := P2 ++ F.map (·.target)) (l₂ := [t])).trans (by simpa using this.symm)).trans i2
        · rcases List.mem_append.mp hu with hu | hu
          · exact i3 u hu
          · simp at hu
            subst hu
            exact ⟨e1, fun z => e3 (decide_eq_true (e2 ▸ z))⟩
    · obtain ⟨a, b, c, st3, PP, F, rfl, a3, i1, i2, i3⟩ := he
      simp only [List.length_range] at i1 a3
      refine SW.rt (d := .tup (F.map Ent.d)) (e' := ⟨V a b c, st3 ++ [.lst (PP.map .str), .lst (F.map Ent.d)]⟩) (by rw [hV]; simp [get_at1 (lenL a3)]) ?_
      refine ⟨_, _, st3, rfl, a3.mono (by omega), rfl, ptrs_map _ fun _ _ => ent_ptr, F, by omega, ?_, fun e he => ⟨(i3 e he).1, i2.mem_iff.mp (List.mem_append_right _ (List.mem_map.mpr ⟨e, he, rfl⟩)), (i3 e he).2⟩, rfl⟩
      have := i2.nodup_iff.mpr hn
      rw [List.nodup_append] at this
      exact this.2.1
  obtain ⟨d, st', e1, e2, F, e3, e4, e5, e6⟩ := key
  exact ⟨F, st', e3, e4, e5, e2, by rw [← e6]; exact e1⟩
end Mi.A
end

section
set_option Elab.async false
set_option linter.all false
set_option maxRecDepth 100000
set_option maxHeartbeats 4000000
/-! A17: rows, waiters drawn. -/
namespace Mi.A
open PySem L2
variable {fns : List Fn}
theorem cellsS {l m : List Str} : ([.lst (l.map .str), .lst (m.map .str)] : List Own).all (ptrO 0) = true := by
  show (ptrs 0 (l.map .str) && (ptrs 0 (m.map .str) && true)) = true
  rw [ptr_strs, ptr_strs]; rfl
theorem any_row_ok (P : Has fns) (n : Nat) {B : Nat} (hB : B ≤ 1000000) {rest st : List Own} (h : At B rest st) (hr : rest.all (ptrO (rest.length + 2)) = true) {E : List Ent} (h6 : E.length ≤ 6) (hn : (E.map (·.target)).Nodup) :
    ∃ (F : List Str) (st' : List Own), F.Nodup ∧ (∀ t ∈ F, t ∈ E.map (·.target)) ∧ At (B + 10) rest st' ∧ run cs fns (n+3) 28 [.own 1, .tup (E.map Ent.d)] st = .ok (ws F) st' := by
  have key : ∃ d st', run cs fns (n + 2 + 1) 28 [.own 1, .tup (E.map Ent.d)] st = .ok d st' ∧ At (B + 10) rest st' ∧ ∃ F : List Str, F.Nodup ∧ (∀ t ∈ F, t ∈ E.map (·.target)) ∧ d = ws F := by
    refine run_drawW P.h28 rfl rfl h hr ?_
    obtain ⟨L, hL⟩ : ∃ L, L = st.length := ⟨_, rfl⟩
    have hL2 : L = rest.length + 2 := by rw [hL, h.len]
    have lenL : ∀ {B' : Nat} {s : List Own}, At B' rest s → s.length = L := fun ha => by rw [ha.len, hL2]
    obtain ⟨T, hT⟩ : ∃ T, T = E.map (·.target) := ⟨_, rfl⟩
    rw [← hT] at hn ⊢
    have tl : T.length ≤ 6 := by rw [hT, List.length_map]; exact h6
    obtain ⟨V, hV⟩ : ∃ V : Option D → List (Option D), V = fun a => [some (.own 1), some (.tup (E.map Ent.d)), a, some (.own L), some (.own (L + 1)), none] := ⟨_, rfl⟩
    simp only [f_law_any_row]
    have c1 : evE cs (run cs fns (n + 2)) (.comp (.ix (.ix (.var 5) (.int 0)) (.int 0)) (.nm 5) (.seq (.var 1)) (.no) [5]) ⟨[some (.own 1), some (.tup (E.map Ent.d)), none, none, none, none], st⟩ = .ok (.lst (E.map fun e => .str e.target)) ⟨[some (.own 1), some (.tup (E.map Ent.d)), none, none, none, none], st⟩ := by
      refine comp_all (dx := Ent.d) (fun e => .str e.target) (by simp [srcOf, itemsOf]) (szl (by omega)) fun e he => ?_
      exact ⟨[some (.own 1), some (.tup (E.map Ent.d)), none, none, none, some e.d], [some (.own 1), some (.tup (E.map Ent.d)), none, none, none, some e.d], by simp [wipeL], by simp [Ent.d, Ent.i]⟩
    have e1 : (E.map fun e => D.str e.target) = T.map .str := by rw [hT, List.map_map]; rfl
    rw [e1] at c1
    refine SW.nx (e' := ⟨V none, st ++ [.lst (T.map .str), .lst []]⟩) (by simp [c1, hV, hL]) ?_
    obtain ⟨v1, st1, v10, v11, a1, r1⟩ := h.drawM P n (by omega) [.lst (T.map .str), .lst []] hr (cellsS (m := [])) (m := T.length + 1) (by omega) (by omega)
    obtain ⟨M, rfl⟩ := Int.eq_ofNat_of_zero_le v10
    have ev1 : evE cs (run cs fns (n + 2)) (.call 23 (.cons (.var 0) (.cons (.bin .add (.bi .len (.cons (.var 3) (.nil))) (.int 1)) (.nil)))) ⟨V none, st ++ [.lst (T.map .str), .lst []]⟩ = .ok (.int M) ⟨V none, st1 ++ [.lst (T.map .str), .lst []]⟩ := by
      rw [hV]
      simp [get_at0 hL.symm, r1]
    refine SW.fr (dx := fun k : Nat => D.int k) (xs := List.range M) (e0 := ⟨V none, st1 ++ [.lst (T.map .str), .lst []]⟩)
      (fun pre e => ∃ a st0 PP F, e = ⟨V a, st0 ++ [.lst (PP.map .str), .lst (F.map .str)]⟩ ∧ At (B + 1 + pre.length) rest st0 ∧ F.length = pre.length ∧ (PP ++ F).Perm T)
      (evI_range_nat ev1 (by omega)) ⟨none, st1, T, [], rfl, a1, rfl, by simp⟩ (fun pre k post e hk he => ?_) fun e he => ?_
    · obtain ⟨a, st3, PP, F, rfl, a3, i1, i2⟩ := he
      have hpre := pre_len hk
      have pl : PP.length + F.length = T.length := by
        have := i2.length_eq
        rw [List.length_append] at this
        exact this
      have hp0 : 0 < PP.length := by omega
      refine ⟨⟨V (some (.int k)), st3 ++ [.lst (PP.map .str), .lst (F.map .str)]⟩, by simp [hV], ?_⟩
      obtain ⟨v, st4, v0, v1', a4, r4⟩ := a3.drawM P n (by omega) [.lst (PP.map .str), .lst (F.map .str)] hr cellsS (m := PP.length) (by omega) (by omega)
      obtain ⟨v, rfl⟩ := Int.eq_ofNat_of_zero_le v0
      have hv' : v < PP.length := by omega
      have pp := popI_nat (f := D.str) hv'
      obtain ⟨t, ht⟩ : ∃ t, t = PP[v] := ⟨_, rfl⟩
      obtain ⟨P2, hP2⟩ : ∃ P2, P2 = PP.eraseIdx v := ⟨_, rfl⟩
      have ep := erase_perm hv'
      rw [← ht, ← hP2] at pp ep
      have fl : F.length < sizeLine := szl' (by omega)
      refine SW.nx (e' := ⟨V (some (.int k)), st4 ++ [.lst (P2.map .str), .lst ((F ++ [t]).map .str)]⟩) ?_ (SW.nil ⟨_, st4, P2, F ++ [t], rfl, a4.mono (by simp; omega), by simp [i1], ?_⟩)
      · rw [hV]
        simp [get_at0 (lenL a3), get_at1 (lenL a3), get_at0 (lenL a4), get_at1 (lenL a4), set_at0 (lenL a4), set_at1 (lenL a4), r4, pp, fl]
      · rw [← List.append_assoc]
        have := ep.symm.append_right F
        exact ((List.perm_append_comm (l₁ := P2 ++ F) (l₂ := [t])).trans (by simpa using this.symm)).trans i2
    · obtain ⟨a, st3, PP, F, rfl, a3, i1, i2⟩ := he
      simp only [List.length_range] at i1 a3
      refine SW.rt (d := ws F) (e' := ⟨V a, st3 ++ [.lst (PP.map .str), .lst (F.map .str)]⟩) (by rw [hV]; simp [get_at1 (lenL a3), ws]) ?_
      refine ⟨_, _, st3, rfl, a3.mono (by omega), rfl, ptr_ws, F, ?_, fun t ht => i2.mem_iff.mp (List.mem_append_right _ ht), rfl⟩
      have := i2.nodup_iff.mpr hn
      rw [List.nodup_append] at this
      exact this.2.1
  obtain ⟨d, st', e1, e2, F, e3, e4, e5⟩ := key
  exact ⟨F, st', e3, e4, e2, by rw [← e5]; exact e1⟩
/-! ### waiters -/
def wtsD (l : List Wt) : D := .tup (l.map Wt.d)
abbrev WM := Str → List Wt × List Wt
def wdic (N : List Str) (W : WM) : List (Key × D) := N.map fun x => (.inr x, .tup [wtsD (W x).1, wtsD (W x).2])
def whos (N : List Str) (W : WM) : List Str := N.flatMap fun x => ((W x).1 ++ (W x).2).map (·.who)
@[simp] theorem ptr_wts {n : Nat} {l : List Wt} : ptr n (wtsD l) = true := ptrs_map _ fun _ _ => wt_ptr
theorem ptr_wdic {n : Nat} {N : List Str} {W : WM} : ptr n (.dic (wdic N W)) = true := by
  show ptrK n (wdic N W) = true
  unfold wdic
  induction N with
  | nil => rfl
  | cons x N ih =>
    show ((ptr n (wtsD (W x).1) && (ptr n (wtsD (W x).2) && true)) && ptrK n _) = true
    rw [ptr_wts, ptr_wts, ih]; rfl
theorem wdic_get {N : List Str} {W : WM} {x : Str} (h : x ∈ N) : dget (wdic N W) (.inr x) = some (.tup [wtsD (W x).1, wtsD (W x).2]) := by
  unfold wdic
  rw [dget_map (f := fun y => y)]
  cases q : N.find? fun y => decide (y = x) with
  | none =>
    rw [List.find?_eq_none] at q
    exact absurd (rfl : x = x) (by simpa using q x h)
  | some y =>
    have : y = x := by simpa using List.find?_some q
    rw [this]; rfl
def updW (W : WM) (x : Str) (p : List Wt × List Wt) : WM := fun y => if y = x then p else W y
theorem wdic_put {N : List Str} {W : WM} {x : Str} (h : x ∈ N) {p : List Wt × List Wt} : dput (wdic N W) (.inr x) (.tup [wtsD p.1, wtsD p.2]) = wdic N (updW W x p) := by
  unfold wdic
  rw [dput_map (f := fun y => y) (by simpa using h)]
  refine List.map_congr_left fun y hy => ?_
  by_cases e : y = x <;> simp [e, updW]
theorem pairsOf_map {α : Type} (f : α → Str) (g : α → D) : ∀ xs : List α, pairsOf (xs.map fun a => .tup [.str (f a), g a]) = some (xs.map fun a => (.inr (f a), g a))
  | [] => rfl
  | x :: xs => by
    show (dk (.str (f x))).bind (fun k => (pairsOf (xs.map fun a => .tup [.str (f a), g a])).map ((k, g x) :: ·)) = _
    rw [pairsOf_map f g xs]
    rfl
theorem whos_upd {N : List Str} (hn : N.Nodup) {W : WM} {x : Str} (hx : x ∈ N) {p : List Wt × List Wt} {w : Wt} (hp : ((p.1 ++ p.2).map (·.who)).Perm (((W x).1 ++ (W x).2).map (·.who) ++ [w.who])) : (whos N (updW W x p)).Perm (whos N W ++ [w.who]) := by
  induction N with
  | nil => cases hx
  | cons y N ih =>
    rw [List.nodup_cons] at hn
    unfold whos at ih ⊢
    rw [List.flatMap_cons, List.flatMap_cons]
    by_cases e : y = x
    · subst e
      have same : (N.flatMap fun x => ((updW W y p x).1 ++ (updW W y p x).2).map (·.who)) = N.flatMap fun x => ((W x).1 ++ (W x).2).map (·.who) := by
        rw [List.flatMap_def, List.flatMap_def]
        congr 1
        refine List.map_congr_left fun z hz => ?_
        have : z ≠ y := fun q => hn.1 (q ▸ hz)
        simp [updW, this]
      rw [same]
      have e2 : updW W y p y = p := by simp [updW]
      rw [e2]
      refine (hp.append_right _).trans ?_
      rw [List.append_assoc, List.append_assoc]
      exact List.Perm.append_left _ List.perm_append_comm
    · have hx' : x ∈ N := by
        rcases List.mem_cons.mp hx with h | h
        · exact absurd h.symm e
        · exact h
      have e2 : updW W x p y = W y := by simp [updW, e]
      rw [e2, List.append_assoc]
      exact List.Perm.append_left _ (ih hn.2 hx')
theorem cut_natL {α : Type} {xs : List α} {k : Nat} : cut xs none (some (k : Int)) = xs.take k := by
  unfold cut
  rw [HT.sIx_nat]
  show (xs.drop 0).take (min k xs.length - 0) = _
  rw [List.drop_zero, Nat.sub_zero, ← List.take_eq_take_min]
theorem cut_natR {α : Type} {xs : List α} {k : Nat} : cut xs (some (k : Int)) none = xs.drop k := by
  unfold cut
  rw [HT.sIx_nat]
  show (xs.drop (min k xs.length)).take (xs.length - min k xs.length) = _
  by_cases h : k ≤ xs.length
  · rw [Nat.min_eq_left h, List.take_of_length_le (by rw [List.length_drop]; omega)]
  · have h2 : xs.drop k = [] := List.drop_eq_nil_of_le (by omega)
    have h3 : xs.drop (min k xs.length) = [] := List.drop_eq_nil_of_le (by omega)
    rw [h2, h3]; simp
@[simp] theorem slc_lst {xs : List D} {lo hi : Option Int} : Mi.slc (.lst xs) lo hi = some (.lst (cut xs lo hi)) := rfl
theorem names_okM (P : Has fns) (n : Nat) {B : Nat} (hB : B ≤ 10000000) {rest st : List Own} (h : At B rest st) (more : List Own) (hr : rest.all (ptrO (rest.length + 2)) = true) (hm : more.all (ptrO 0) = true) {m : Nat} (hm8 : m ≤ 8) :
    ∃ l st', NamesOk m l ∧ At (B + 20) rest st' ∧ run cs fns (n+3) 24 [.own 1, .int m] (st ++ more) = .ok (.lst (l.map .str)) (st' ++ more) := by
  obtain ⟨l, st', a, b, c⟩ := names_ok P n hB (h.more more) (rest_more hr hm) hm8
  obtain ⟨st2, e, rfl⟩ := b.split
  exact ⟨l, st2, a, e, c⟩
structure WaitOk (N : List Str) (W : WM) : Prop where
  ok : ∀ x ∈ N, ∀ w ∈ (W x).1 ++ (W x).2, WtOk w
  nd : (whos N W).Nodup
  six : (whos N W).length ≤ 6
theorem wt_ok {x : Str} {v : Int} (h : Nm x) (h0 : 0 ≤ v) (h6 : v < 6) : WtOk ⟨x, 1 + v⟩ := ⟨h, by show 1 ≤ 1 + v; omega, by show 1 + v ≤ 6; omega⟩
theorem waiting_ok (P : HasW fns) (n : Nat) {B : Nat} (hB : B ≤ 1000000) {rest st : List Own} (h : At B rest st) (hr : rest.all (ptrO (rest.length + 2)) = true) {N : List Str} (hN : N.Nodup) (h8 : N.length ≤ 8) (hpl : ∀ x ∈ N, Pl x) :
    ∃ (W : WM) (st' : List Own), WaitOk N W ∧ At (B + 50) rest st' ∧ run cs fns (n+4) 29 [.own 1, .lst (N.map .str)] st = .ok (.dic (wdic N W)) st' := by
  have key : ∃ d st', run cs fns (n + 3 + 1) 29 [.own 1, .lst (N.map .str)] st = .ok d st' ∧ At (B + 50) rest st' ∧ ∃ W : WM, WaitOk N W ∧ d = .dic (wdic N W) := by
    refine run_drawW P.h29 rfl rfl h hr ?_
    obtain ⟨L, hL⟩ : ∃ L, L = st.length := ⟨_, rfl⟩
    have hL2 : L = rest.length + 2 := by rw [hL, h.len]
    have lenL : ∀ {B' : Nat} {s : List Own}, At B' rest s → s.length = L := fun ha => by rw [ha.len, hL2]
    obtain ⟨V, hV⟩ : ∃ V : Option D → Option D → Option D → Option D → Option D → List (Option D), V = fun a b c d f => [some (.own 1), some (.lst (N.map .str)), some (.own L), a, b, c, d, f] := ⟨_, rfl⟩
    have cell : ∀ W : WM, ([.dic (wdic N W)] : List Own).all (ptrO 0) = true := fun W => by
      show (ptr 0 (.dic (wdic N W)) && true) = true
      rw [ptr_wdic]; rfl
    simp only [f_law_waiting]
    have c1 : evE cs (run cs fns (n + 3)) (.comp (.tup (.cons (.var 4) (.cons (.tup (.cons (.tup (.nil)) (.cons (.tup (.nil)) (.nil)))) (.nil)))) (.nm 4) (.seq (.var 1)) (.no) [4]) ⟨[some (.own 1), some (.lst (N.map .str)), none, none, none, none, none, none], st⟩ = .ok (.lst (N.map fun x => .tup [.str x, .tup [wtsD [], wtsD []]])) ⟨[some (.own 1), some (.lst (N.map .str)), none, none, none, none, none, none], st⟩ := by
      refine comp_all (dx := D.str) (fun x => .tup [.str x, .tup [wtsD [], wtsD []]]) (by simp [srcOf, itemsOf]) (szl (by omega)) fun x hx => ?_
      exact ⟨[some (.own 1), some (.lst (N.map .str)), none, none, some (.str x), none, none, none], [some (.own 1), some (.lst (N.map .str)), none, none, some (.str x), none, none, none], by simp [wipeL], by simp [wtsD]⟩
    have dd : dictD (.lst (N.map fun x => .tup [.str x, .tup [wtsD [], wtsD []]])) = some (.dic (wdic N fun _ => ([], []))) := by
      show (pairsOf _).map (fun kvs => D.dic (dmerge [] kvs)) = _
      rw [pairsOf_map (fun x => x) (fun _ => .tup [wtsD [], wtsD []])]
      show some (D.dic (dmerge [] _)) = _
      rw [dmerge_nil (keys_nodup (f := fun x => x) (by simpa using hN))]
      rfl
    refine SW.nx (e' := ⟨V none none none none none, st ++ [.dic (wdic N fun _ => ([], []))]⟩) (by simp [c1, dd, hV, hL]) ?_
    obtain ⟨l, st1, hl, a1, r1⟩ := names_okM P.toHas n (by omega) h [.dic (wdic N fun _ => ([], []))] hr (cell _) (m := 6) (by omega)
    obtain ⟨q, st2, q0, q1, a2, r2⟩ := a1.drawM P.toHas (n + 1) (by omega) [.dic (wdic N fun _ => ([], []))] hr (cell _) (m := 7) (by omega) (by omega)
    obtain ⟨q, rfl⟩ := Int.eq_ofNat_of_zero_le q0
    have r1 : run cs fns (n + 3) 24 [.own 1, .int 6] (st ++ [.dic (wdic N fun _ => ([], []))]) = .ok (.lst (l.map .str)) (st1 ++ [.dic (wdic N fun _ => ([], []))]) := r1
    have ct : cut (l.map D.str) none (some (q : Int)) = (l.take q).map .str := by rw [cut_natL, List.map_take]
    have tl : (l.take q).length ≤ 6 := by
      rw [List.length_take, hl.len]; omega
    have tn : (l.take q).Nodup := hl.nd.sublist (List.take_sublist _ _)
    have tm : ∀ x ∈ l.take q, Nm x := fun x hx => hl.nm x (List.mem_of_mem_take hx)
    generalize l.take q = who at ct tl tn tm
    have d2 := deq_strs (x := N) (y := []) (fun z hz => hpl z hz) (by simp)
    simp only [List.map_nil] at d2
    have zz : (wdic N fun _ => ([], [])).length = N.length := by rw [wdic, List.length_map]
    refine SW.fr (dx := D.str) (xs := who) (e0 := ⟨V none none none none none, st2 ++ [.dic (wdic N fun _ => ([], []))]⟩)
      (fun pre e => ∃ a b c d f st0 W, e = ⟨V a b c d f, st0 ++ [.dic (wdic N W)]⟩ ∧ At (B + 21 + 3 * pre.length) rest st0 ∧ (∀ x ∈ N, ∀ w ∈ (W x).1 ++ (W x).2, WtOk w) ∧ (whos N W).Perm (if N = [] then [] else pre) ∧ ∀ x, (W x).1.length ≤ pre.length ∧ (W x).2.length ≤ pre.length)
      (by rw [hV]; simp [r1, r2, ct, srcOf, itemsOf]) ⟨_, _, _, _, _, st2, fun _ => ([], []), rfl, a2, by simp, by
        have : whos N (fun _ => ([], [])) = [] := by simp [whos]
        rw [this]; split <;> exact .refl _, by simp⟩ (fun pre x post e hk he => ?_) fun e he => ?_
    · obtain ⟨a, b, c, d, f, st3, W, rfl, a3, i1, i2, i3⟩ := he
      have hpre : pre.length < 6 := by
        have := congrArg List.length hk
        simp at this
        omega
      refine ⟨⟨V (some (.str x)) b c d f, st3 ++ [.dic (wdic N W)]⟩, by simp [hV], ?_⟩
      by_cases hN0 : N = []
      · rw [decide_eq_true hN0] at d2
        refine SW.nx (e' := ⟨V (some (.str x)) b c d f, st3 ++ [.dic (wdic N W)]⟩) (by rw [hV]; simp [d2]) (SW.nil ⟨_, _, _, _, _, st3, W, rfl, a3.mono (by simp; omega), i1, by rw [if_pos hN0] at i2 ⊢; exact i2, fun x => ⟨by have := (i3 x).1; simp; omega, by have := (i3 x).2; simp; omega⟩⟩)
      · rw [decide_eq_false hN0] at d2
        rw [if_neg hN0] at i2
        have n0 : 0 < N.length := List.length_pos_iff.mpr hN0
        refine SW.condT (e1 := ⟨V (some (.str x)) b c d f, st3 ++ [.dic (wdic N W)]⟩) (by rw [hV]; simp [d2]) ?_
        obtain ⟨v, st4, v0, v1, a4, r4⟩ := a3.drawM P.toHas (n + 1) (by omega) [.dic (wdic N W)] hr (cell _) (m := N.length) (by omega) (by omega)
        obtain ⟨v, rfl⟩ := Int.eq_ofNat_of_zero_le v0
        have hv : v < N.length := by omega
        have ga : atI (N.map D.str) (v : Int) = some (.str N[v]) := by
          rw [atI_nat, List.getElem?_map, List.getElem?_eq_getElem hv]; rfl
        obtain ⟨y, hy⟩ : ∃ y, y = N[v] := ⟨_, rfl⟩
        have yN : y ∈ N := by rw [hy]; exact List.getElem_mem _
        rw [← hy] at ga
        refine SW.nx (e' := ⟨V (some (.str x)) (some (.str y)) c d f, st4 ++ [.dic (wdic N W)]⟩) (by rw [hV]; simp [r4, ga]) ?_
        have g1 := wdic_get (W := W) yN
        refine SW.nx (e' := ⟨V (some (.str x)) (some (.str y)) c (some (wtsD (W y).1)) (some (wtsD (W y).2)), st4 ++ [.dic (wdic N W)]⟩) (by rw [hV]; simp [get_at0 (lenL a4), g1]) ?_
        obtain ⟨u, st5, u0, u1, a5, r5⟩ := a4.drawM P.toHas (n + 1) (by omega) [.dic (wdic N W)] hr (cell _) (m := 6) (by omega) (by omega)
        obtain ⟨w, hw⟩ : ∃ w : Wt, w = ⟨x, 1 + u⟩ := ⟨_, rfl⟩
        have wok : WtOk w := by rw [hw]; exact wt_ok (tm x (by rw [hk]; simp)) u0 u1
        refine SW.nx (e' := ⟨V (some (.str x)) (some (.str y)) (some (wtsD [w])) (some (wtsD (W y).1)) (some (wtsD (W y).2)), st5 ++ [.dic (wdic N W)]⟩) (by rw [hV]; simp [r5, wtsD, hw, Wt.d]) ?_
        obtain ⟨z, st6, z0, z1, a6, r6⟩ := a5.drawM P.toHas (n + 1) (by omega) [.dic (wdic N W)] hr (cell _) (m := 2) (by omega) (by omega)
        have d3 := deq_int (x := z) (y := 0)
        have s1 : (W y).1.length + 1 ≤ sizeLine := szl (by have := (i3 y).1; omega)
        have s2 : (W y).2.length + 1 ≤ sizeLine := szl (by have := (i3 y).2; omega)
        have s3 : (wdic N W).length < sizeLine := szl' (by rw [wdic, List.length_map]; omega)
        have ap1 : (W y).1.map Wt.d ++ [w.d] = ((W y).1 ++ [w]).map Wt.d := by simp
        have ap2 : (W y).2.map Wt.d ++ [w.d] = ((W y).2 ++ [w]).map Wt.d := by simp
        have FIN : ∀ p : List Wt × List Wt, (∀ u ∈ p.1 ++ p.2, u = w ∨ u ∈ (W y).1 ++ (W y).2) → ((p.1 ++ p.2).map (·.who)).Perm (((W y).1 ++ (W y).2).map (·.who) ++ [w.who]) → p.1.length ≤ (W y).1.length + 1 → p.2.length ≤ (W y).2.length + 1 →
            ∃ a b c d f st0 W', (⟨V (some (.str x)) (some (.str y)) (some (wtsD [w])) (some (wtsD (W y).1)) (some (wtsD (W y).2)), st6 ++ [.dic (wdic N (updW W y p))]⟩ : En) = ⟨V a b c d f, st0 ++ [.dic (wdic N W')]⟩ ∧ At (B + 21 + 3 * (pre ++ [x]).length) rest st0 ∧ (∀ x ∈ N, ∀ w ∈ (W' x).1 ++ (W' x).2, WtOk w) ∧ (whos N W').Perm (if N = [] then [] else pre ++ [x]) ∧ ∀ z, (W' z).1.length ≤ (pre ++ [x]).length ∧ (W' z).2.length ≤ (pre ++ [x]).length := fun p p1 p2 p3 p4 => by
          refine ⟨_, _, _, _, _, st6, updW W y p, rfl, a6.mono (by simp; omega), fun t ht u hu => ?_, ?_, fun t => ?_⟩
          · by_cases e : t = y
            · simp only [updW, e, if_true] at hu
              rcases p1 u hu with rfl | hu
              · exact wok
              · exact i1 y yN u hu
            · simp only [updW, e, if_false] at hu
              exact i1 t ht u hu
          · rw [if_neg hN0]
            refine (whos_upd hN yN p2).trans ?_
            have : w.who = x := by rw [hw]
            rw [this]
            exact i2.append_right _
          · have j1 := i3 t
            have j2 := i3 y
            simp only [updW]
            split
            · simp; omega
            · simp; omega
        by_cases hz : z = 0
        · rw [decide_eq_true hz] at d3
          have pu := wdic_put (W := W) yN (p := ((W y).1 ++ [w], (W y).2))
          refine SW.nx (e' := ⟨V (some (.str x)) (some (.str y)) (some (wtsD [w])) (some (wtsD (W y).1)) (some (wtsD (W y).2)), st6 ++ [.dic (wdic N (updW W y ((W y).1 ++ [w], (W y).2)))]⟩) ?_ (SW.nil (SW.nil (FIN ((W y).1 ++ [w], (W y).2) (fun u hu => ?_) ?_ (by simp) (by simp))))
          · rw [hV]
            simp only [wtsD] at pu ⊢
            simp [r6, d3, s1, get_at0 (lenL a6), set_at0 (lenL a6), s3, -List.map_append, ap1, pu]
          · simp only [List.mem_append, List.mem_singleton] at hu ⊢
            rcases hu with (hu | hu) | hu
            · exact .inr (.inl hu)
            · exact .inl hu
            · exact .inr (.inr hu)
          · simp only [List.map_append, List.map_singleton, List.append_assoc]
            exact List.Perm.append_left _ List.perm_append_comm
        · rw [decide_eq_false hz] at d3
          have pu := wdic_put (W := W) yN (p := ((W y).1, (W y).2 ++ [w]))
          refine SW.nx (e' := ⟨V (some (.str x)) (some (.str y)) (some (wtsD [w])) (some (wtsD (W y).1)) (some (wtsD (W y).2)), st6 ++ [.dic (wdic N (updW W y ((W y).1, (W y).2 ++ [w])))]⟩) ?_ (SW.nil (SW.nil (FIN ((W y).1, (W y).2 ++ [w]) (fun u hu => ?_) ?_ (by simp) (by simp))))
          · rw [hV]
            simp only [wtsD] at pu ⊢
            simp [r6, d3, s2, get_at0 (lenL a6), set_at0 (lenL a6), s3, -List.map_append, ap2, pu]
          · simp only [List.mem_append, List.mem_singleton] at hu ⊢
            rcases hu with hu | hu | hu
            · exact .inr (.inl hu)
            · exact .inr (.inr hu)
            · exact .inl hu
          · simp only [List.map_append, List.map_singleton, List.append_assoc]
            exact .refl _
    · obtain ⟨a, b, c, d, f, st3, W, rfl, a3, i1, i2, i3⟩ := he
      refine SW.rt (d := .own L) (e' := ⟨V a b c d f, st3 ++ [.dic (wdic N W)]⟩) (by rw [hV]; simp) ?_
      refine ⟨.dic (wdic N W), [.dic (wdic N W)], st3, rfl, a3.mono (by omega), ?_, ptr_wdic, W, ⟨i1, ?_, ?_⟩, rfl⟩
      · have : ¬ L < st.length := by omega
        simp [give, this, get_at0 (lenL a3)]
      · refine i2.nodup_iff.mpr ?_
        split
        · exact List.nodup_nil
        · exact tn
      · rw [i2.length_eq]
        split
        · simp
        · exact tl
  obtain ⟨d, st', e1, e2, W, e3, e4⟩ := key
  exact ⟨W, st', e3, e2, by rw [← e4]; exact e1⟩
end Mi.A
end

section
set_option Elab.async false
set_option linter.all false
set_option maxRecDepth 100000
set_option maxHeartbeats 4000000
/-! A18: _law_web. -/
namespace Mi.A
open PySem L2
variable {fns : List Fn}
structure EntsOk (N Lw : List Str) (F : List Ent) : Prop where
  six : F.length ≤ 6
  nd : (F.map (·.target)).Nodup
  ok : ∀ e ∈ F, EntOk e ∧ e.target ∈ N ++ Lw ∧ (e.target ∈ Lw → e.asked = [sIn])
def entsD (F : List Ent) : D := .tup (F.map Ent.d)
@[simp] theorem ptr_ents {n : Nat} {F : List Ent} : ptr n (entsD F) = true := ptrs_map _ fun _ _ => ent_ptr
def edic (FD : List (Str × List Ent)) : List (Key × D) := FD.map fun p => (.inr p.1, entsD p.2)
theorem ptr_edic {n : Nat} {FD : List (Str × List Ent)} : ptrK n (edic FD) = true := by
  unfold edic
  induction FD with
  | nil => rfl
  | cons p FD ih =>
    show (ptr n (entsD p.2) && ptrK n _) = true
    rw [ptr_ents, ih]; rfl
theorem cellsW {l : List Str} {FD : List (Str × List Ent)} : ([.lst (l.map .str), .dic (edic FD)] : List Own).all (ptrO 0) = true := by
  show (ptrs 0 (l.map .str) && (ptrK 0 (edic FD) && true)) = true
  rw [ptr_strs, ptr_edic]; rfl
def entsOf (FD : List (Str × List Ent)) (x : Str) : List Ent := match FD.find? fun p => decide (p.1 = x) with
  | some p => p.2
  | none => []
theorem edic_get {FD : List (Str × List Ent)} {x : Str} (h : x ∈ FD.map (·.1)) : dget (edic FD) (.inr x) = some (entsD (entsOf FD x)) := by
  unfold edic entsOf
  rw [dget_map]
  cases q : FD.find? fun p => decide (p.1 = x) with
  | none =>
    rw [List.find?_eq_none] at q
    obtain ⟨p, hp, e⟩ := List.mem_map.mp h
    exact absurd e (by simpa using q p hp)
  | some p => rfl
theorem edic_put {FD : List (Str × List Ent)} {x : Str} {F : List Ent} (h : x ∉ FD.map (·.1)) : dput (edic FD) (.inr x) (entsD F) = edic (FD ++ [(x, F)]) := by
  rw [dput_new]
  · simp [edic]
  · intro z
    obtain ⟨kv, h1, h2⟩ := List.mem_map.mp z
    obtain ⟨p, hp, rfl⟩ := List.mem_map.mp h1
    exact h (List.mem_map.mpr ⟨p, hp, Sum.inr.inj h2⟩)
theorem entsOf_at {FD p q : List (Str × List Ent)} {x : Str × List Ent} (hn : (FD.map (·.1)).Nodup) (h : FD = p ++ x :: q) : entsOf FD x.1 = x.2 := by
  have hx : x.1 ∉ p.map (·.1) := by
    refine pre_nodup (q := q.map (·.1)) hn ?_
    rw [h]; simp
  have : FD.find? (fun y => decide (y.1 = x.1)) = some x := by
    rw [List.find?_eq_some_iff_append]
    refine ⟨by simp, p, q, h, fun a ha => ?_⟩
    have : a.1 ≠ x.1 := fun e => hx (List.mem_map.mpr ⟨a, ha, e⟩)
    simp [this]
  unfold entsOf
  rw [this]
theorem split_mem {FD : List (Str × List Ent)} {x : Str} (h : x ∈ FD.map (·.1)) : ∃ p F q, FD = p ++ (x, F) :: q := by
  obtain ⟨y, hy, rfl⟩ := List.mem_map.mp h
  obtain ⟨p, q, e⟩ := List.append_of_mem hy
  exact ⟨p, y.2, q, e⟩
theorem entries_okM (P : HasW fns) (n : Nat) {B : Nat} (hB : B ≤ 1000000) {rest st : List Own} (h : At B rest st) (more : List Own) (hr : rest.all (ptrO (rest.length + 2)) = true) (hm : more.all (ptrO 0) = true) {N Lw : List Str} (hn : (N ++ Lw).Nodup) (hl : (N ++ Lw).length ≤ 8) (hx : ∀ x ∈ N ++ Lw, Nm x) :
    ∃ (F : List Ent) (st' : List Own), EntsOk N Lw F ∧ At (B + 100) rest st' ∧ run cs fns (n+4) 27 [.own 1, .lst (N.map .str), .lst (Lw.map .str)] (st ++ more) = .ok (entsD F) (st' ++ more) := by
  obtain ⟨F, st', a, b, c, d, e⟩ := entries_ok P n hB (h.more more) (rest_more hr hm) hn hl hx
  obtain ⟨st2, f, rfl⟩ := d.split
  exact ⟨F, st2, ⟨a, b, c⟩, f, e⟩
theorem any_row_okM (P : Has fns) (n : Nat) {B : Nat} (hB : B ≤ 1000000) {rest st : List Own} (h : At B rest st) (more : List Own) (hr : rest.all (ptrO (rest.length + 2)) = true) (hm : more.all (ptrO 0) = true) {E : List Ent} (h6 : E.length ≤ 6) (hn : (E.map (·.target)).Nodup) :
    ∃ (F : List Str) (st' : List Own), F.Nodup ∧ (∀ t ∈ F, t ∈ E.map (·.target)) ∧ At (B + 10) rest st' ∧ run cs fns (n+3) 28 [.own 1, entsD E] (st ++ more) = .ok (ws F) (st' ++ more) := by
  obtain ⟨F, st', a, b, c, d⟩ := any_row_ok P n hB (h.more more) (rest_more hr hm) h6 hn
  obtain ⟨st2, f, rfl⟩ := c.split
  exact ⟨F, st2, a, b, f, d⟩
theorem waiting_okM (P : HasW fns) (n : Nat) {B : Nat} (hB : B ≤ 1000000) {rest st : List Own} (h : At B rest st) (more : List Own) (hr : rest.all (ptrO (rest.length + 2)) = true) (hm : more.all (ptrO 0) = true) {N : List Str} (hN : N.Nodup) (h8 : N.length ≤ 8) (hpl : ∀ x ∈ N, Pl x) :
    ∃ (W : WM) (st' : List Own), WaitOk N W ∧ At (B + 50) rest st' ∧ run cs fns (n+4) 29 [.own 1, .lst (N.map .str)] (st ++ more) = .ok (.dic (wdic N W)) (st' ++ more) := by
  obtain ⟨W, st', a, b, c⟩ := waiting_ok P n hB (h.more more) (rest_more hr hm) hN h8 hpl
  obtain ⟨st2, f, rfl⟩ := b.split
  exact ⟨W, st2, a, f, c⟩
/-- sets put together of what was drawn are a web's -/
theorem web_of {ps : List Pipe} {ss : List SetT} {S : List Str} {FD : List (Str × List Ent)} {W : WM} {m k : Nat} {names : List Str} (hN : NamesOk (m + k) names) (hm : m ≤ 4) (hk : k ≤ 4) (hS : S = names.drop m)
    (hp : ps.map (·.name) = names.take m) (pok : ∀ p ∈ ps, PipeOk p) (hF : (FD.map (·.1)).Perm S) (hE : ∀ p x q, FD = p ++ x :: q → EntsOk (names.take m) (p.map (·.1)) x.2) (hW : WaitOk S W)
    (hs : ss.map (·.name) = S) (sok : ∀ s ∈ ss, s.ents = entsOf FD s.name ∧ s.row.Nodup ∧ (∀ t ∈ s.row, t ∈ s.targets) ∧ s.asleep = (W s.name).1 ∧ s.woken = (W s.name).2) : WebOk ps ss := by
  have nt : names.take m ++ S = names := by rw [hS, List.take_append_drop]
  have Sl : S.length ≤ 4 := by rw [hS, List.length_drop, hN.len]; omega
  have nd : (FD.map (·.1)).Nodup := by
    rw [hF.nodup_iff]
    have := hN.nd
    rw [← nt, List.nodup_append] at this
    exact this.2.1
  have mem : ∀ s ∈ ss, s.name ∈ FD.map (·.1) := fun s h => hF.mem_iff.mpr (hs ▸ List.mem_map.mpr ⟨s, h, rfl⟩)
  have eo : ∀ s ∈ ss, ∃ p F q, FD = p ++ (s.name, F) :: q ∧ s.ents = F ∧ EntsOk (names.take m) (p.map (·.1)) F := fun s h => by
    obtain ⟨p, F, q, e⟩ := split_mem (mem s h)
    refine ⟨p, F, q, e, ?_, hE p _ q e⟩
    rw [(sok s h).1]
    exact entsOf_at nd e
  have wl : ss.flatMap SetT.waiters = whos S W := by
    rw [← hs]
    unfold whos
    rw [List.flatMap_map, List.flatMap_def, List.flatMap_def]
    congr 1
    refine List.map_congr_left fun s h => ?_
    have := sok s h
    show (s.asleep ++ s.woken).map (·.who) = _
    rw [this.2.2.2.1, this.2.2.2.2]
  have one : ∀ s ∈ ss, (s.asleep.length + s.woken.length ≤ 6) := fun s h => by
    have h1 : s.waiters.length ≤ (ss.flatMap SetT.waiters).length := by
      obtain ⟨a, b, e⟩ := List.append_of_mem h
      rw [e, List.flatMap_append, List.flatMap_cons]
      simp only [List.length_append]
      omega
    rw [wl] at h1
    have := hW.six
    rw [SetT.waiters, List.length_map, List.length_append] at h1
    omega
  have pre_in : ∀ {p q : List (Str × List Ent)} {x : Str × List Ent} {t : Str}, FD = p ++ x :: q → t ∈ p.map (·.1) → t ∈ S := fun {p q x t} e h => hF.mem_iff.mp (by rw [e, List.map_append]; exact List.mem_append_left _ h)
  have apart : ∀ t, t ∈ names.take m → t ∉ S := fun t h1 h2 => by
    have := hN.nd
    rw [← nt, List.nodup_append] at this
    exact this.2.2 t h1 t h2 rfl
  exact {
    p4 := by
      have := congrArg List.length hp
      rw [List.length_map, List.length_take] at this
      omega
    s4 := by
      have := congrArg List.length hs
      rw [List.length_map] at this
      omega
    pok := pok
    sok := fun s h => by
      obtain ⟨p, F, q, e, e2, e3⟩ := eo s h
      have g := sok s h
      have w := hW.ok s.name (hs ▸ List.mem_map.mpr ⟨s, h, rfl⟩)
      have o := one s h
      refine ⟨hN.nm _ ?_, e2 ▸ e3.six, fun u hu => (e3.ok u (e2 ▸ hu)).1, ?_, g.2.1, g.2.2.1, by omega, by omega, fun u hu => w u (List.mem_append_left _ (g.2.2.2.1 ▸ hu)), fun u hu => w u (List.mem_append_right _ (g.2.2.2.2 ▸ hu))⟩
      · rw [← nt]
        exact List.mem_append_right _ (hs ▸ List.mem_map.mpr ⟨s, h, rfl⟩)
      · rw [SetT.targets, e2]
        exact e3.nd
    names := by
      rw [hp, hs, nt]
      exact hN.nd
    wn := by rw [wl]; exact hW.nd
    w6 := by rw [wl]; exact hW.six
    tg := fun s h u hu => by
      obtain ⟨p, F, q, e, e2, e3⟩ := eo s h
      rw [hp, hs]
      rcases List.mem_append.mp (e3.ok u (e2 ▸ hu)).2.1 with z | z
      · exact List.mem_append_left _ z
      · exact List.mem_append_right _ (pre_in e z)
    asked := fun s h u hu ht => by
      obtain ⟨p, F, q, e, e2, e3⟩ := eo s h
      rw [hs] at ht
      have g := e3.ok u (e2 ▸ hu)
      rcases List.mem_append.mp g.2.1 with z | z
      · exact absurd ht (apart _ z)
      · exact g.2.2 z
    rank := by
      refine ⟨fun x => min 3 ((FD.map (·.1)).idxOf x), fun x => by show min 3 _ < 4; omega, fun s h u hu ht => ?_⟩
      obtain ⟨p, F, q, e, e2, e3⟩ := eo s h
      rw [hs] at ht
      have g := e3.ok u (e2 ▸ hu)
      have z : u.target ∈ p.map (·.1) := by
        rcases List.mem_append.mp g.2.1 with z | z
        · exact absurd ht (apart _ z)
        · exact z
      have fl : FD.length ≤ 4 := by
        have := hF.length_eq
        rw [List.length_map] at this
        omega
      have i1 : (FD.map (·.1)).idxOf u.target < p.length := by
        rw [e, List.map_append, List.idxOf_append, if_pos z]
        have := List.idxOf_lt_length_of_mem z
        rw [List.length_map] at this
        exact this
      have i2 : (FD.map (·.1)).idxOf s.name = p.length := by
        have : s.name ∉ p.map (·.1) := pre_nodup (q := q.map (·.1)) nd (by rw [e]; simp)
        rw [e, List.map_append, List.idxOf_append, if_neg this]
        simp
      have pl : p.length < 4 := by
        have := congrArg List.length e
        simp at this
        omega
      show min 3 ((FD.map (·.1)).idxOf u.target) < min 3 ((FD.map (·.1)).idxOf s.name)
      omega }
end Mi.A
end

section
set_option Elab.async false
set_option linter.all false
set_option maxRecDepth 100000
set_option maxHeartbeats 4000000
/-! A19: _law_web walked. -/
namespace Mi.A
open PySem L2
variable {fns : List Fn}
theorem web_ok (P : HasW fns) (n : Nat) {B : Nat} (hB : B ≤ 100000) {rest st : List Own} (h : At B rest st) (hr : rest.all (ptrO (rest.length + 2)) = true) :
    ∃ ps ss st', WebOk ps ss ∧ At (B + 1000) rest st' ∧ run cs fns (n+5) 30 [.own 1] st = .ok (hallD ps ss) st' := by
  have key : ∃ d st', run cs fns (n + 4 + 1) 30 [.own 1] st = .ok d st' ∧ At (B + 1000) rest st' ∧ ∃ ps ss, WebOk ps ss ∧ d = hallD ps ss := by
    refine run_drawW P.h30 rfl rfl h hr ?_
    obtain ⟨L, hL⟩ : ∃ L, L = st.length := ⟨_, rfl⟩
    have hL2 : L = rest.length + 2 := by rw [hL, h.len]
    have lenL : ∀ {B' : Nat} {s : List Own}, At B' rest s → s.length = L := fun ha => by rw [ha.len, hL2]
    simp only [f_law_web]
    -- how many pipes
    obtain ⟨v1, st1, v10, v11, a1, r1⟩ := h.draw P.toHas (n + 2) (by omega) hr (m := 5) (by omega) (by omega)
    obtain ⟨v2, st2, v20, v21, a2, r2⟩ := a1.draw P.toHas (n + 2) (by omega) hr (m := 4) (by omega) (by omega)
    obtain ⟨m, hm, g1⟩ := pick4 v20 v21 (Q := fun r => 0 ≤ r ∧ r ≤ 4) (a := v1) (b := 4) (c := 2) (d := 1) ⟨by omega, by omega⟩ ⟨by omega, by omega⟩ ⟨by omega, by omega⟩ ⟨by omega, by omega⟩
    obtain ⟨m, rfl⟩ := Int.eq_ofNat_of_zero_le hm.1
    have m4 : m ≤ 4 := by omega
    refine SW.nx (e' := ⟨[some (.own 1), some (.int m), none, none, none, none, none, none, none, none], st2⟩) (by simp [r1, r2, g1]) ?_
    -- how many sets; names
    obtain ⟨v3, st3, v30, v31, a3, r3⟩ := a2.draw P.toHas (n + 2) (by omega) hr (m := 4) (by omega) (by omega)
    obtain ⟨v4, st4, v40, v41, a4, r4⟩ := a3.draw P.toHas (n + 2) (by omega) hr (m := 4) (by omega) (by omega)
    obtain ⟨k, hk, g2⟩ := pick4 v40 v41 (Q := fun r => 1 ≤ r ∧ r ≤ 4) (a := 1 + v3) (b := 4) (c := 2) (d := 3) ⟨by omega, by omega⟩ ⟨by omega, by omega⟩ ⟨by omega, by omega⟩ ⟨by omega, by omega⟩
    obtain ⟨k, rfl⟩ := Int.eq_ofNat_of_zero_le (show 0 ≤ k by omega)
    have k4 : k ≤ 4 := by omega
    obtain ⟨names, st5, hN, a5, r5⟩ := names_ok P.toHas (n + 1) (by omega) a4 hr (m := m + k) (by omega)
    have ec : ((m : Int) + (k : Int)) = ((m + k : Nat) : Int) := by omega
    rw [← ec] at r5
    refine SW.nx (e' := ⟨[some (.own 1), some (.int m), some (.lst (names.map .str)), none, none, none, none, none, none, none], st5⟩) (by simp [r3, r4, g2, r5]) ?_
    obtain ⟨N, hNd⟩ : ∃ N, N = names.take m := ⟨_, rfl⟩
    obtain ⟨S, hSd⟩ : ∃ S, S = names.drop m := ⟨_, rfl⟩
    have nt : N ++ S = names := by rw [hNd, hSd, List.take_append_drop]
    have nl : names.length ≤ 8 := by rw [hN.len]; omega
    have Sl : S.length ≤ 4 := by rw [hSd, List.length_drop, hN.len]; omega
    have Nl : N.length ≤ 4 := by rw [hNd, List.length_take]; omega
    have cN : cut (names.map D.str) none (some (m : Int)) = N.map .str := by rw [cut_natL, ← List.map_take, ← hNd]
    have cS : cut (names.map D.str) (some (m : Int)) none = S.map .str := by rw [cut_natR, ← List.map_drop, ← hSd]
    have nmN : ∀ x ∈ N, Nm x := fun x hx => hN.nm x (by rw [← nt]; exact List.mem_append_left _ hx)
    have nmS : ∀ x ∈ S, Nm x := fun x hx => hN.nm x (by rw [← nt]; exact List.mem_append_right _ hx)
    have ndAll : (N ++ S).Nodup := by rw [nt]; exact hN.nd
    have ndS : S.Nodup := by
      rw [List.nodup_append] at ndAll
      exact ndAll.2.1
    -- pipes
    obtain ⟨ps, st6, p1, p2, p3, a6⟩ := comp_st (cs := cs) (cal := run cs fns (n + 4)) (elt := .call 25 (.cons (.var 0) (.cons (.var 9) (.nil)))) (tg := .nm 9) (it := .seq (.slc (.var 2) (.no) (.yes (.var 1)))) (vs := [9]) (e := ⟨[some (.own 1), some (.int m), some (.lst (names.map .str)), none, none, none, none, none, none, none], st5⟩)
      (dx := D.str) (xs := N) (γ := Pipe) (·.name) Pipe.d PipeOk (fun j st => At (B + 4 + 20 + 5 * j) rest st) (by simp [cN, srcOf, itemsOf]) (szl (by omega)) a5 fun x hx j st hj hi => by
        obtain ⟨p, st', q1, q2, q3, q4⟩ := pipe_ok P.toHas (n + 1) (by omega) hi hr (nmN x hx)
        exact ⟨p, [some (.own 1), some (.int m), some (.lst (names.map .str)), none, none, none, none, none, none, some (.str x)], [some (.own 1), some (.int m), some (.lst (names.map .str)), none, none, none, none, none, none, some (.str x)], st', q2, q1, by simp [wipeL], by simp [q4], q3.mono (by omega)⟩
    refine SW.nx (e' := ⟨[some (.own 1), some (.int m), some (.lst (names.map .str)), some (pipesD ps), none, none, none, none, none, none], st6⟩) (by simp [p3, pipesD]) ?_
    obtain ⟨V, hV⟩ : ∃ V : List Str → Option D → List (Option D), V = fun lw a => [some (.own 1), some (.int m), some (.lst (names.map .str)), some (pipesD ps), none, none, some (.own L), some (.lst (lw.map .str)), some (.own (L + 1)), a] := ⟨_, rfl⟩
    have l6 := lenL a6
    refine SW.nx (e' := ⟨V [] none, st6 ++ [.lst (S.map .str), .dic (edic [])]⟩) ?_ ?_
    · rw [hV]
      simp [cS, dmerge, edic, l6]
    -- the loop
    refine SW.whil (m := S.length) (fun w e => ∃ a st0 Rs FD, e = ⟨V (FD.map (·.1)) a, st0 ++ [.lst (Rs.map .str), .dic (edic FD)]⟩ ∧ At (B + 44 + 101 * FD.length) rest st0 ∧ (Rs ++ FD.map (·.1)).Perm S ∧ w = Rs.length ∧ ∀ p x q, FD = p ++ x :: q → EntsOk N (p.map (·.1)) x.2)
      ⟨none, st6, S, [], rfl, a6.mono (by simp; omega), by simp, rfl, fun p x q e => by simp at e⟩ (by simp [fuel]; omega) fun w e hi => ?_
    obtain ⟨a, st7, Rs, FD, rfl, a7, j1, rfl, j2⟩ := hi
    have jl : Rs.length + FD.length = S.length := by
      have := j1.length_eq
      rw [List.length_append, List.length_map] at this
      exact this
    have rpl : ∀ z ∈ Rs, Pl z := fun z hz => (nmS z (j1.mem_iff.mp (List.mem_append_left _ hz))).pl
    have d1 := deq_strs (x := Rs) (y := []) rpl (by simp)
    simp only [List.map_nil] at d1
    have l7 := lenL a7
    refine ⟨!decide (Rs = []), ⟨V (FD.map (·.1)) a, st7 ++ [.lst (Rs.map .str), .dic (edic FD)]⟩, by rw [hV]; simp [get_at0 l7, d1], fun e => ?_, fun e => ?_⟩
    · -- behind the loop
      have : Rs = [] := by simpa using e
      subst this
      simp only [List.nil_append] at j1
      simp only [List.length_nil, Nat.zero_add] at jl
      have fdin : ∀ x ∈ S, x ∈ FD.map (·.1) := fun x hx => j1.mem_iff.mpr hx
      have fdn : (FD.map (·.1)).Nodup := j1.nodup_iff.mpr ndS
      obtain ⟨W, st8, hW, a8, r8⟩ := waiting_okM P n (by omega) a7 [.lst (([] : List Str).map .str), .dic (edic FD)] hr cellsW ndS (by omega) (fun x hx => (nmS x hx).pl)
      obtain ⟨V2, hV2⟩ : ∃ V2 : Option D → Option D → List (Option D), V2 = fun b c => [some (.own 1), some (.int m), some (.lst (names.map .str)), some (pipesD ps), some (.dic (wdic S W)), b, some (.own L), some (.lst ((FD.map (·.1)).map .str)), some (.own (L + 1)), c] := ⟨_, rfl⟩
      refine SW.nx (e' := ⟨V2 none a, st8 ++ [.lst (([] : List Str).map .str), .dic (edic FD)]⟩) ?_ ?_
      · rw [hV, hV2]
        simp only [List.map_nil] at r8 ⊢
        simp [cS, r8, -List.map_map]
      obtain ⟨ss, st9, s1, s2, s3, a9⟩ := comp_st (cs := cs) (cal := run cs fns (n + 4)) (elt := .bin .add (.tup (.cons (.var 9) (.cons (.ix (.var 8) (.var 9)) (.cons (.call 28 (.cons (.var 0) (.cons (.ix (.var 8) (.var 9)) (.nil)))) (.nil))))) (.ix (.var 4) (.var 9))) (tg := .nm 9) (it := .seq (.slc (.var 2) (.yes (.var 1)) (.no))) (vs := [9]) (e := ⟨V2 none a, st8 ++ [.lst (([] : List Str).map .str), .dic (edic FD)]⟩)
        (dx := D.str) (xs := S) (γ := SetT) (·.name) SetT.d (fun s => s.ents = entsOf FD s.name ∧ s.row.Nodup ∧ (∀ t ∈ s.row, t ∈ s.targets) ∧ s.asleep = (W s.name).1 ∧ s.woken = (W s.name).2)
        (fun j st => ∃ st0, At (B + 44 + 101 * FD.length + 50 + 10 * j) rest st0 ∧ st = st0 ++ [.lst (([] : List Str).map .str), .dic (edic FD)]) (by rw [hV2]; simp [cS, srcOf, itemsOf]) (szl (by omega)) ⟨st8, a8, rfl⟩ fun x hx j st hj hi => by
          obtain ⟨st0, hi, rfl⟩ := hi
          obtain ⟨p, F, q, e1⟩ := split_mem (fdin x hx)
          have e2 : entsOf FD x = F := entsOf_at fdn e1
          have e3 := j2 p _ q e1
          obtain ⟨row, st1', q1, q2, q3, q4⟩ := any_row_okM P.toHas (n + 1) (by omega) hi [.lst (([] : List Str).map .str), .dic (edic FD)] hr cellsW (E := entsOf FD x) (by rw [e2]; exact e3.six) (by rw [e2]; exact e3.nd)
          refine ⟨⟨x, entsOf FD x, row, (W x).1, (W x).2⟩, [some (.own 1), some (.int m), some (.lst (names.map .str)), some (pipesD ps), some (.dic (wdic S W)), none, some (.own L), some (.lst ((FD.map (·.1)).map .str)), some (.own (L + 1)), some (.str x)], [some (.own 1), some (.int m), some (.lst (names.map .str)), some (pipesD ps), some (.dic (wdic S W)), none, some (.own L), some (.lst ((FD.map (·.1)).map .str)), some (.own (L + 1)), some (.str x)], _, rfl, ⟨rfl, q1, q2, rfl, rfl⟩, by rw [hV2]; simp [wipeL], ?_, ⟨st1', q3.mono (by omega), rfl⟩⟩
          have ge := edic_get (fdin x hx)
          have gw := wdic_get (W := W) hx
          have s5 : (5 : Nat) ≤ sizeLine := szl (by omega)
          have l0 := lenL hi
          simp only [List.map_nil] at q4 ⊢
          simp [get_at1 l0, ge, q4, gw, s5]
          rfl
      obtain ⟨st9, a9, rfl⟩ := a9
      refine SW.nx (e' := ⟨V2 (some (.lst (ss.map SetT.d))) a, st9 ++ [.lst (([] : List Str).map .str), .dic (edic FD)]⟩) ?_ ?_
      · rw [hV2] at s3 ⊢
        simp only [List.map_nil] at s3 ⊢
        simp [s3, -List.map_map]
      refine SW.rt (d := hallD ps ss) (e' := ⟨V2 (some (.lst (ss.map SetT.d))) a, st9 ++ [.lst (([] : List Str).map .str), .dic (edic FD)]⟩) ?_ ?_
      · rw [hV2]
        simp [hallD, setsD]
      refine ⟨_, _, st9, rfl, a9.mono (by omega), rfl, hall_ptr, ps, ss, ?_, rfl⟩
      exact web_of hN m4 k4 hSd (by rw [p1, hNd]) p2 j1 (by rw [← hNd]; exact j2) hW s1 s2
    · -- a turn
      have hne : Rs ≠ [] := by simpa using e
      have r0 : 0 < Rs.length := List.length_pos_iff.mpr hne
      obtain ⟨v, st8, v0, v1, a8, r8⟩ := a7.drawM P.toHas (n + 2) (by omega) [.lst (Rs.map .str), .dic (edic FD)] hr cellsW (m := Rs.length) (by omega) (by omega)
      obtain ⟨v, rfl⟩ := Int.eq_ofNat_of_zero_le v0
      have hv' : v < Rs.length := by omega
      have pp := popI_nat (f := D.str) hv'
      have rl := List.length_eraseIdx_of_lt hv'
      obtain ⟨t, ht⟩ : ∃ t, t = Rs[v] := ⟨_, rfl⟩
      obtain ⟨R2, hR2⟩ : ∃ R2, R2 = Rs.eraseIdx v := ⟨_, rfl⟩
      have ep := erase_perm hv'
      rw [← ht, ← hR2] at pp ep
      rw [← hR2] at rl
      have l8 := lenL a8
      refine SW.nx (e' := ⟨V (FD.map (·.1)) (some (.str t)), st8 ++ [.lst (R2.map .str), .dic (edic FD)]⟩) ?_ ?_
      · rw [hV]
        simp [get_at0 l7, get_at0 l8, set_at0 l8, r8, pp]
      have perm2 : (R2 ++ (t :: FD.map (·.1))).Perm S := by
        have := (ep.symm.append_right (FD.map (·.1))).symm
        exact (List.perm_middle.trans this).trans j1
      have tS : t ∈ S := perm2.mem_iff.mp (by simp)
      have tn : t ∉ FD.map (·.1) := by
        have := perm2.nodup_iff.mpr ndS
        rw [List.nodup_append] at this
        exact (List.nodup_cons.mp this.2.1).1
      have nd2 : (N ++ FD.map (·.1)).Nodup := by
        have s1 : (FD.map (·.1)).Sublist (R2 ++ (t :: FD.map (·.1))) := (List.sublist_cons_self _ _).trans (List.sublist_append_right _ _)
        have n2 := (perm2.nodup_iff.mpr ndS).sublist s1
        rw [List.nodup_append] at ndAll ⊢
        exact ⟨ndAll.1, n2, fun a ha b hb => ndAll.2.2 a ha b (perm2.mem_iff.mp (s1.subset hb))⟩
      have ln2 : (N ++ FD.map (·.1)).length ≤ 8 := by
        rw [List.length_append, List.length_map]; omega
      have nm2 : ∀ x ∈ N ++ FD.map (·.1), Nm x := fun x hx => by
        rcases List.mem_append.mp hx with z | z
        · exact nmN x z
        · exact nmS x (perm2.mem_iff.mp (List.mem_append_right _ (List.mem_cons_of_mem _ z)))
      obtain ⟨F, st9, hF, a9, r9⟩ := entries_okM P n (by omega) a8 [.lst (R2.map .str), .dic (edic FD)] hr cellsW nd2 ln2 nm2
      have l9 := lenL a9
      have pu := edic_put (F := F) tn
      have sz : (edic FD).length < sizeLine := szl' (by rw [edic, List.length_map]; omega)
      refine SW.nx (e' := ⟨V (FD.map (·.1)) (some (.str t)), st9 ++ [.lst (R2.map .str), .dic (edic (FD ++ [(t, F)]))]⟩) ?_ ?_
      · rw [hV]
        simp [cN, r9, get_at1 l9, set_at1 l9, sz, pu, -List.map_map]
      have sz2 : FD.length + 1 ≤ sizeLine := szl (by omega)
      refine SW.nx (e' := ⟨V ((FD ++ [(t, F)]).map (·.1)) (some (.str t)), st9 ++ [.lst (R2.map .str), .dic (edic (FD ++ [(t, F)]))]⟩) ?_ (SW.nil ⟨R2.length, by omega, _, st9, R2, FD ++ [(t, F)], rfl, a9.mono (by simp; omega), ?_, rfl, fun p x q e => ?_⟩)
      · rw [hV]
        simp [sz2]
      · rw [List.map_append, List.map_singleton]
        exact (List.Perm.append_left _ List.perm_append_comm).trans perm2
      · rcases List.append_eq_append_iff.mp e with ⟨c, e1, e2⟩ | ⟨c, e1, e2⟩
        · cases c with
          | nil =>
            simp at e2 e1
            rw [e1, ← e2.1]
            exact hF
          | cons z c => simp at e2
        · cases c with
          | nil =>
            simp at e2 e1
            rw [← e1, e2.1]
            exact hF
          | cons z c =>
            simp at e2
            exact j2 p x c (by rw [e1, e2.1])
  obtain ⟨d, st', e1, e2, ps, ss, e3, e4⟩ := key
  exact ⟨ps, ss, st', e3, e2, by rw [← e4]; exact e1⟩
end Mi.A
end

section
set_option Elab.async false
set_option linter.all false
set_option maxRecDepth 100000
set_option maxHeartbeats 4000000
/-! A20: halls shown. -/
namespace Mi.A
open PySem L2
/-- what is shown of it has so many signs at the most; so deep -/
structure Lim (n k : Nat) (d : PyData) : Prop where
  sh : d.showable = true
  lay : d.canLay0 = true
  len : d.shown.length ≤ n
  dep : d.depth ≤ k
  pl : Pl d.shown
theorem Lim.mono {n k n' k' : Nat} {d : PyData} (h : Lim n k d) (l : n ≤ n') (m : k ≤ k') : Lim n' k' d := ⟨h.sh, h.lay, Nat.le_trans h.len l, Nat.le_trans h.dep m, h.pl⟩
theorem reprChar_pl (q : Nat) (hq : q = 34 ∨ q = 39) : ∀ c, c < 128 → ∀ d ∈ Builtin.Str.reprChar q c, d < 128 := by
  have h : ∀ c : Fin 128, ((Builtin.Str.reprChar 34 c.val).all fun d => decide (d < 128)) = true ∧ ((Builtin.Str.reprChar 39 c.val).all fun d => decide (d < 128)) = true := by decide +kernel
  intro c hc d hd
  rcases hq with rfl | rfl
  · exact of_decide_eq_true (List.all_eq_true.mp (h ⟨c, hc⟩).1 d hd)
  · exact of_decide_eq_true (List.all_eq_true.mp (h ⟨c, hc⟩).2 d hd)
theorem pl_lit {x : Str} (h : (x.cps.toList.all fun c => decide (c < 128)) = true) : Pl x := fun c hc => of_decide_eq_true (List.all_eq_true.mp h c hc)
theorem pl_app {x y : Str} (h : Pl x) (k : Pl y) : Pl (x ++ y) := fun c hc => by
  rw [app_l] at hc
  rcases List.mem_append.mp hc with z | z
  · exact h c z
  · exact k c z
theorem pl_join : ∀ {ts : List Str}, (∀ t ∈ ts, Pl t) → Pl (Str.join ", " ts)
  | [], _ => pl_lit (by decide)
  | [x], h => h x List.mem_cons_self
  | x :: y :: r, h => pl_app (pl_app (h x List.mem_cons_self) (pl_lit (by decide))) (pl_join fun t ht => h t (List.mem_cons_of_mem _ ht))
theorem lim_str {x : Str} (h : Pl x) : Lim (10 * x.length + 2) 0 (.str x) := by
  refine ⟨rfl, by simp [PyData.canLay0, h.ok], StrLaws.reprText_len x fun c hc => Nat.lt_trans (h c hc) (by decide), Nat.le_refl _, ?_⟩
  show Pl (reprText x)
  have key : ∀ (q : Nat), q = 34 ∨ q = 39 → ∀ (l : List Nat), (∀ c ∈ l, c < 128) → ∀ acc : Array Nat, (∀ c ∈ acc.toList, c < 128) → ∀ c ∈ (l.foldl (fun out c => out ++ (Builtin.Str.reprChar q c).toArray) acc).toList, c < 128 := by
    intro q hq l
    induction l with
    | nil => intro _ acc ha; exact ha
    | cons d l ih =>
      intro hl acc ha
      rw [List.foldl_cons]
      refine ih (fun c hc => hl c (List.mem_cons_of_mem _ hc)) _ fun c hc => ?_
      rw [Array.toList_append, List.mem_append] at hc
      rcases hc with hc | hc
      · exact ha c hc
      · exact reprChar_pl q hq d (hl d List.mem_cons_self) c (by simpa using hc)
  have hq : reprQuote x = 34 ∨ reprQuote x = 39 := by
    unfold reprQuote
    split
    · exact .inl rfl
    · exact .inr rfl
  have k2 := key (reprQuote x) hq x.cps.toList h #[reprQuote x] (by
    intro c hc
    simp at hc
    rcases hq with z | z <;> omega)
  intro c hc
  unfold reprText at hc
  rw [← Array.foldl_toList] at hc
  simp only [Array.toList_push, List.mem_append, List.mem_singleton] at hc
  rcases hc with hc | hc
  · exact k2 c hc
  · rcases hq with z | z <;> omega
theorem lim_nm {x : Str} (h : Nm x) : Lim 82 0 (.str x) := (lim_str h.pl).mono (by
  have := h.most
  have e : x.length = x.cps.toList.length := len_l
  omega) (Nat.le_refl _)
theorem lim_word {x : Str} (h : x ∈ words) : Lim 82 0 (.str x) := (lim_str (pl_words x h)).mono (by
  simp only [words, List.mem_cons, List.not_mem_nil, or_false] at h
  rcases h with rfl | rfl | rfl <;> decide) (Nat.le_refl _)
theorem lim_bool {b : Bool} : Lim 5 0 (.bool b) := by
  refine ⟨rfl, rfl, ?_, Nat.le_refl _, ?_⟩
  · cases b <;> decide
  · cases b <;> exact pl_lit (by decide)
theorem lim_int {i : Int} (h0 : 0 ≤ i) (h9 : i ≤ 9) : Lim 1 0 (.int i) := by
  have : i = 0 ∨ i = 1 ∨ i = 2 ∨ i = 3 ∨ i = 4 ∨ i = 5 ∨ i = 6 ∨ i = 7 ∨ i = 8 ∨ i = 9 := by omega
  rcases this with rfl | rfl | rfl | rfl | rfl | rfl | rfl | rfl | rfl | rfl <;> exact ⟨by decide, rfl, by decide, Nat.le_refl _, pl_lit (by decide)⟩
theorem showableAll_iff : ∀ xs : List PyData, PyData.showableAll xs = xs.all (·.showable)
  | [] => rfl
  | x :: xs => by simp [PyData.showableAll, showableAll_iff xs]
theorem shownAll_map : ∀ xs : List PyData, PyData.shownAll xs = xs.map (·.shown)
  | [] => rfl
  | x :: xs => by simp [PyData.shownAll, shownAll_map xs]
theorem join_len_le : ∀ ts : List Str, (Str.join ", " ts).length ≤ (ts.map fun t => t.length + 2).sum := by
  intro ts
  have := StrLaws.join_length_le ", " ts
  have e : (", " : Str).length = 2 := by decide
  rw [e] at this
  refine Nat.le_trans this ?_
  clear this
  induction ts with
  | nil => simp
  | cons t ts ih =>
    simp only [List.map_cons, List.sum_cons, List.length_cons]
    omega
theorem sum_le {α : Type} {f : α → Nat} {n : Nat} : ∀ {xs : List α}, (∀ x ∈ xs, f x ≤ n) → (xs.map f).sum ≤ xs.length * n
  | [], _ => by simp
  | x :: xs, h => by
    have h1 := h x List.mem_cons_self
    have h2 := sum_le (f := f) (n := n) fun y hy => h y (List.mem_cons_of_mem _ hy)
    rw [List.map_cons, List.sum_cons, List.length_cons, Nat.add_mul, Nat.one_mul]
    omega
theorem lim_tup {n k m : Nat} {xs : List PyData} (h : ∀ x ∈ xs, Lim n k x) (hm : xs.length ≤ m) : Lim (m * (n + 2) + 3) (k + 1) (.tuple xs) := by
  refine ⟨?_, ?_, ?_, ?_, ?_⟩
  · show PyData.showableAll xs = true
    rw [showableAll_iff, List.all_eq_true]
    exact fun x hx => (h x hx).sh
  · show PyData.canLayAll0 xs = true
    rw [canLayAll_iff, List.all_eq_true]
    exact fun x hx => (h x hx).lay
  · show (tupleText (PyData.shownAll xs)).length ≤ _
    rw [shownAll_map]
    unfold tupleText
    have h1 := join_len_le (xs.map (·.shown))
    have h2 : ((xs.map (·.shown)).map fun t => t.length + 2).sum ≤ xs.length * (n + 2) := by
      rw [List.map_map]
      exact sum_le fun x hx => Nat.add_le_add_right (h x hx).len 2
    have h3 : xs.length * (n + 2) ≤ m * (n + 2) := Nat.mul_le_mul_right _ hm
    have al : ∀ a b : Str, (a ++ b).length = a.length + b.length := fun a b => by
      show (a.cps ++ b.cps).size = _
      rw [Array.size_append]; rfl
    rw [al, al]
    have l1 : (Str.ofString "(").length = 1 := by decide
    have l2 : (Str.ofString (if ((xs.map (·.shown)).length == 1) = true then ",)" else ")")).length ≤ 2 := by
      split <;> decide
    show (Str.ofString "(").length + _ + _ ≤ _
    omega
  · show PyData.depthAll xs + 1 ≤ k + 1
    have := depthAll_le fun x hx => (h x hx).dep
    omega
  · show Pl (tupleText (PyData.shownAll xs))
    rw [shownAll_map]
    unfold tupleText
    refine pl_app (pl_app (pl_lit (by decide)) (pl_join fun t ht => ?_)) ?_
    · obtain ⟨x, hx, rfl⟩ := List.mem_map.mp ht
      exact (h x hx).pl
    · split <;> exact pl_lit (by decide)
theorem lim_ws {l : List Str} {m : Nat} (h : ∀ x ∈ l, Lim 82 0 (.str x)) (hm : l.length ≤ m) : Lim (m * 84 + 3) 1 (toPy (ws l)) := by
  rw [toPy_ws]
  exact lim_tup (n := 82) (k := 0) (fun x hx => by
    obtain ⟨y, hy, rfl⟩ := List.mem_map.mp hx
    exact h y hy) (by rw [List.length_map]; exact hm)
theorem lim_map {α : Type} {f : α → D} {xs : List α} {n k m : Nat} (h : ∀ x ∈ xs, Lim n k (toPy (f x))) (hm : xs.length ≤ m) : Lim (m * (n + 2) + 3) (k + 1) (toPy (.tup (xs.map f))) := by
  show Lim _ _ (.tuple (toPys (xs.map f)))
  rw [toPys_map]
  exact lim_tup (fun x hx => by
    obtain ⟨y, hy, rfl⟩ := List.mem_map.mp hx
    exact h y hy) (by rw [List.length_map]; exact hm)
theorem lim_pipe {p : Pipe} (h : PipeOk p) : Lim 500 1 (toPy p.d) := by
  refine (lim_tup (n := 82) (k := 0) (m := 4) (xs := [.str p.name, .int p.room, .int p.held, .bool p.shut]) (fun x hx => ?_) (by simp)).mono (by omega) (by omega)
  simp only [List.mem_cons, List.not_mem_nil, or_false] at hx
  have := h.hr
  have := h.r9
  rcases hx with rfl | rfl | rfl | rfl
  · exact lim_nm h.nm
  · exact (lim_int (by have := h.r1; omega) h.r9).mono (by omega) (by omega)
  · exact (lim_int h.h0 (by omega)).mono (by omega) (by omega)
  · exact lim_bool.mono (by omega) (by omega)
theorem lim_wd {l : List Str} (h : Wd l) : Lim 300 1 (toPy (ws l)) := (lim_ws (m := 3) (fun x hx => lim_word (by
  rw [h] at hx
  exact (List.mem_filter.mp hx).1)) h.three).mono (by omega) (by omega)
theorem lim_mode {b : Bool} : Lim 82 0 (.str (mode b)) := by
  refine (lim_str ?_).mono ?_ (Nat.le_refl _)
  · cases b <;> (intro c; revert c; decide)
  · cases b <;> decide
theorem lim_ent {e : Ent} (h : EntOk e) : Lim 5000 3 (toPy e.d) := by
  have i1 : Lim 1600 2 (toPy e.i) := by
    refine (lim_tup (n := 300) (k := 1) (m := 5) (xs := [.str e.target, toPy (ws e.asked), .str (mode e.edge), .bool e.once, .bool e.alone]) (fun x hx => ?_) (by simp)).mono (by omega) (by omega)
    simp only [List.mem_cons, List.not_mem_nil, or_false] at hx
    rcases hx with rfl | rfl | rfl | rfl | rfl
    · exact (lim_nm h.nm).mono (by omega) (by omega)
    · exact lim_wd h.asked
    · exact lim_mode.mono (by omega) (by omega)
    · exact lim_bool.mono (by omega) (by omega)
    · exact lim_bool.mono (by omega) (by omega)
  refine (lim_tup (n := 1600) (k := 2) (m := 3) (xs := [toPy e.i, .bool e.on, toPy (ws e.fresh)]) (fun x hx => ?_) (by simp)).mono (by omega) (by omega)
  simp only [List.mem_cons, List.not_mem_nil, or_false] at hx
  rcases hx with rfl | rfl | rfl
  · exact i1
  · exact lim_bool.mono (by omega) (by omega)
  · exact (lim_wd h.fresh).mono (by omega) (by omega)
theorem lim_wt {w : Wt} (h : WtOk w) : Lim 200 1 (toPy w.d) := by
  refine (lim_tup (n := 82) (k := 0) (m := 2) (xs := [.str w.who, .int w.most]) (fun x hx => ?_) (by simp)).mono (by omega) (by omega)
  simp only [List.mem_cons, List.not_mem_nil, or_false] at hx
  rcases hx with rfl | rfl
  · exact lim_nm h.nm
  · exact (lim_int (by have := h.one; omega) (by have := h.six; omega)).mono (by omega) (by omega)
theorem lim_set {s : SetT} (h : SetOk s) : Lim 156000 5 (toPy s.d) := by
  have e1 : Lim 31000 4 (toPy (.tup (s.ents.map Ent.d))) := (lim_map (fun e he => lim_ent (h.ents e he)) h.e6).mono (by omega) (by omega)
  have tl : s.row.length ≤ 6 := h.r6
  have e2 : Lim 1000 1 (toPy (ws s.row)) := (lim_ws (m := 6) (fun x hx => by
    obtain ⟨e, he, rfl⟩ := List.mem_map.mp (h.rt x hx)
    exact lim_nm (h.ents e he).nm) tl).mono (by omega) (by omega)
  have e3 : Lim 2000 2 (toPy (.tup (s.asleep.map Wt.d))) := (lim_map (fun w hw => lim_wt (h.asl w hw)) h.a6).mono (by omega) (by omega)
  have e4 : Lim 2000 2 (toPy (.tup (s.woken.map Wt.d))) := (lim_map (fun w hw => lim_wt (h.wok w hw)) h.w6).mono (by omega) (by omega)
  refine (lim_tup (n := 31000) (k := 4) (m := 5) (xs := [.str s.name, toPy (.tup (s.ents.map Ent.d)), toPy (ws s.row), toPy (.tup (s.asleep.map Wt.d)), toPy (.tup (s.woken.map Wt.d))]) (fun x hx => ?_) (by simp)).mono (by omega) (by omega)
  simp only [List.mem_cons, List.not_mem_nil, or_false] at hx
  rcases hx with rfl | rfl | rfl | rfl | rfl
  · exact (lim_nm h.nm).mono (by omega) (by omega)
  · exact e1
  · exact e2.mono (by omega) (by omega)
  · exact e3.mono (by omega) (by omega)
  · exact e4.mono (by omega) (by omega)
theorem lim_hall {ps : List Pipe} {ss : List SetT} (h : HallOk ps ss) : Lim 1260000 7 (toPy (hallD ps ss)) := by
  have e1 : Lim 3000 2 (toPy (pipesD ps)) := (lim_map (fun p hp => lim_pipe (h.pok p hp)) h.p4).mono (by omega) (by omega)
  have e2 : Lim 625000 6 (toPy (setsD ss)) := (lim_map (fun s hs => lim_set (h.sok s hs)) h.s4).mono (by omega) (by omega)
  refine (lim_tup (n := 625000) (k := 6) (m := 2) (xs := [toPy (pipesD ps), toPy (setsD ss)]) (fun x hx => ?_) (by simp)).mono (by omega) (by omega)
  simp only [List.mem_cons, List.not_mem_nil, or_false] at hx
  rcases hx with rfl | rfl
  · exact e1.mono (by omega) (by omega)
  · exact e2
theorem showOk_of {n k : Nat} {x : D} (h : Lim n k (toPy x)) (hn : n ≤ 10000000) (hk : k ≤ 64) : showOk x = true := by
  unfold showOk
  have h1 := h.sh
  have h2 := h.lay
  have h3 : (toPy x).shown.length ≤ sizeLine := szl (Nat.le_trans h.len hn)
  have h4 : (toPy x).depth ≤ 64 := Nat.le_trans h.dep hk
  simp [h1, h2, h3, h4]
theorem repr_hall {ps : List Pipe} {ss : List SetT} (h : HallOk ps ss) : reprD (hallD ps ss) = some (.str (toPy (hallD ps ss)).shown) := by
  show reprS (hallD ps ss) = _
  unfold reprS
  rw [if_pos (showOk_of (lim_hall h) (by omega) (by omega))]
theorem listText_len : ∀ ts : List Str, (listText ts).length ≤ (ts.map fun t => t.length + 2).sum + 3
  | [] => by decide
  | t :: r => by
    have h := textFrom_length_pos r 1 (("[" : Str) ++ (if (0 : Nat) > 0 then ", " else "" : String) ++ t) (Nat.succ_pos 0)
    have al : ∀ a b : Str, (a ++ b).length = a.length + b.length := fun a b => by
      show (a.cps ++ b.cps).size = _
      rw [Array.size_append]; rfl
    show (textFrom 0 "[" (t :: r) ++ "]").length ≤ _
    rw [al]
    show (textFrom 1 (("[" : Str) ++ (if (0 : Nat) > 0 then ", " else "" : String) ++ t) r).length + _ ≤ _
    rw [h, al, al]
    have l1 : (Str.ofString "[").length = 1 := by decide
    have l2 : (Str.ofString "]").length = 1 := by decide
    have l3 : (Str.ofString (if (0 : Nat) > 0 then ", " else "")).length = 0 := by decide
    rw [List.map_cons, List.sum_cons]
    unfold piled
    omega
theorem pl_textFrom : ∀ {ts : List Str} {k : Nat} {acc : Str}, Pl acc → (∀ t ∈ ts, Pl t) → Pl (textFrom k acc ts)
  | [], _, acc, h, _ => h
  | t :: r, k, acc, h, ht => by
    show Pl (textFrom (k + 1) (acc ++ (if k > 0 then ", " else "" : String) ++ t) r)
    refine pl_textFrom (pl_app (pl_app h ?_) (ht t List.mem_cons_self)) fun u hu => ht u (List.mem_cons_of_mem _ hu)
    split <;> exact pl_lit (by decide)
theorem lim_lst {n k m : Nat} {xs : List PyData} (h : ∀ x ∈ xs, Lim n k x) (hm : xs.length ≤ m) : Lim (m * (n + 2) + 3) (k + 1) (.list xs) := by
  refine ⟨?_, ?_, ?_, ?_, ?_⟩
  · show PyData.showableAll xs = true
    rw [showableAll_iff, List.all_eq_true]
    exact fun x hx => (h x hx).sh
  · show PyData.canLayAll0 xs = true
    rw [canLayAll_iff, List.all_eq_true]
    exact fun x hx => (h x hx).lay
  · show (listText (PyData.shownAll xs)).length ≤ _
    rw [shownAll_map]
    have h1 := listText_len (xs.map (·.shown))
    have h2 : ((xs.map (·.shown)).map fun t => t.length + 2).sum ≤ xs.length * (n + 2) := by
      rw [List.map_map]
      exact sum_le fun x hx => Nat.add_le_add_right (h x hx).len 2
    have h3 : xs.length * (n + 2) ≤ m * (n + 2) := Nat.mul_le_mul_right _ hm
    omega
  · show PyData.depthAll xs + 1 ≤ k + 1
    have := depthAll_le fun x hx => (h x hx).dep
    omega
  · show Pl (listText (PyData.shownAll xs))
    rw [shownAll_map]
    unfold listText
    refine pl_app (pl_textFrom (pl_lit (by decide)) fun t ht => ?_) (pl_lit (by decide))
    obtain ⟨x, hx, rfl⟩ := List.mem_map.mp ht
    exact (h x hx).pl
theorem repr_tup {n k : Nat} {xs : List D} (h : Lim n k (toPy (.tup xs))) (hn : n ≤ 10000000) (hk : k ≤ 64) : reprD (.tup xs) = some (.str (toPy (.tup xs)).shown) := by
  show reprS (.tup xs) = _
  unfold reprS
  rw [if_pos (showOk_of h hn hk)]
theorem repr_lst {n k : Nat} {xs : List D} (h : Lim n k (toPy (.lst xs))) (hn : n ≤ 10000000) (hk : k ≤ 64) : reprD (.lst xs) = some (.str (toPy (.lst xs)).shown) := by
  show reprS (.lst xs) = _
  unfold reprS
  rw [if_pos (showOk_of h hn hk)]
/-- a text is like itself, where it may stand -/
theorem deq_self {x : Str} (h : PyData.strOk x = true) : deq (.str x) (.str x) = some true := by
  simp [deq, toPy, SeqAt.shaped, PyData.canLay0, PyData.depth, h, PyData.eqv]
end Mi.A
end

section
set_option Elab.async false
set_option linter.all false
set_option maxRecDepth 100000
set_option maxHeartbeats 400000
/-! B1: need_hall, row_called, what is told. -/
namespace Mi.A
open PySem L2
/-! ### sorted texts -/
theorem leS_iff {x y : Str} : leS x y = true ↔ x.cps.toList ≤ y.cps.toList := by
  unfold leS
  rw [Bool.not_eq_true', decide_eq_false_iff_not]
  exact List.not_lt
theorem sortS_sorted (l : List Str) : (sortS l).Pairwise fun a b => a.cps.toList ≤ b.cps.toList := by
  have s := List.pairwise_mergeSort (le := leS) (fun a b c h1 h2 => by
    rw [leS_iff] at *
    exact List.le_trans h1 h2) (fun a b => by
    rw [Bool.or_eq_true, leS_iff, leS_iff]
    exact List.le_total _ _) l
  exact s.imp fun h => leS_iff.mp h
theorem sortS_perm {a b : List Str} (h : a.Perm b) : sortS a = sortS b := by
  refine List.Perm.eq_of_pairwise (le := fun a b : Str => a.cps.toList ≤ b.cps.toList) (fun x y _ _ h1 h2 => ?_) (sortS_sorted a) (sortS_sorted b) ?_
  · exact strEq.mpr (List.le_antisymm h1 h2)
  · exact ((List.mergeSort_perm a leS).trans h).trans (List.mergeSort_perm b leS).symm
theorem nodup_perm {a b : List Str} (ha : a.Nodup) (hb : b.Nodup) (h : ∀ t, t ∈ a ↔ t ∈ b) : a.Perm b := by
  rw [List.perm_ext_iff_of_nodup ha hb]
  exact h
theorem sortedL_ok {l : List Str} (h : l.length < 64) : sortedL (l.map .str) = some (.lst ((sortS l).map .str)) := by
  unfold sortedL
  rw [strsOf_map, Option.bind_some, if_pos h]
/-- a hall, as the document has it -/
structure Setl (ps : List Pipe) (ss : List SetT) : Prop where
  web : WebOk ps ss
  rows : ∀ s ∈ ss, ∀ t, t ∈ s.row ↔ t ∈ dueT ps (setRow ss) s
theorem setl_of {ps : List Pipe} {ss : List SetT} (h : WebOk ps ss) {R : Str → List Str} (hR : Settles ps ss R) : Setl ps (ss.map (·.w R)) := by
  refine ⟨web_settled h hR, fun s' hs' t => ?_⟩
  obtain ⟨s, hs, rfl⟩ := List.mem_map.mp hs'
  have fe : setRow (ss.map (·.w R)) = setIn (ss.map (·.name)) R := funext fun t => setRow_w
  have key := (rowOf_ok (dueT_sub (ps := ps) (f := setIn (ss.map (·.name)) R) (s := s)) (h.sok s hs).tn (h.sok s hs).rn).2.2 t
  rw [← hR s hs] at key
  rw [fe, w_dueT]
  exact key
theorem dueT_nodup {ps : List Pipe} {f : Str → Bool} {s : SetT} (h : SetOk s) : (dueT ps f s).Nodup := h.tn.sublist dueT_sub
variable {fns : List Fn}
theorem need_hall_ok (P : Has fns) (h36 : fns[36]? = some fneed_hall) {n : Nat} {ps : List Pipe} {ss : List SetT} (h : Setl ps ss) {st : List Own} : run cs fns (n+8) 36 [hallD ps ss] st = .ok (hallD ps ss) st := by
  refine run_pureW h36 rfl rfl (by simp [ptrs]) ?_ hall_ptr
  have h2 := fun st => is_tuple_of_ok P (n := n+6) (k := 2) (show ptrs 0 [pipesD ps, setsD ss] = true by simp [ptrs]) (st := st)
  have h3 := fun st => need_webs_ok P (n := n) h.web (st := st)
  simp only [fneed_hall]
  refine SW.nx (e' := ⟨[some (hallD ps ss), none, none], []⟩) (by simp only [hallD]; simp [h2]) ?_
  have i0 : Mi.ix (hallD ps ss) (.int 0) = some (pipesD ps) := rfl
  have i1 : Mi.ix (hallD ps ss) (.int 1) = some (setsD ss) := rfl
  have rs : ∀ e, res e (hallD ps ss) = some (hallD ps ss) := fun _ => rfl
  refine SW.nx (e' := ⟨[some (hallD ps ss), none, none], []⟩) (by simp [rs, i0, i1, h3]) ?_
  refine SW.frE (dx := SetT.d) (xs := ss) (e0 := ⟨[some (hallD ps ss), none, none], []⟩) (fun pre e => ∃ a b, e = ⟨[some (hallD ps ss), a, b], []⟩) (by simp [rs, i1, setsD, seqOf]) ⟨_, _, rfl⟩ (fun p s q i e hx he => ?_) fun e he => ?_
  · obtain ⟨a, b, rfl⟩ := he
    have hs : s ∈ ss := by rw [hx]; simp
    have so := h.web.sok s hs
    refine ⟨⟨[some (hallD ps ss), some (.int i), some s.d], []⟩, by simp, ?_⟩
    have d1 := fun st => due_targets_ok P (n := n + 4) h.web.hall so (st := st)
    have i2 : Mi.ix s.d (.int 2) = some (ws s.row) := rfl
    have rsd : ∀ e, res e s.d = some s.d := fun _ => rfl
    have dl := dueT_len (ps := ps) (f := setRow ss) so
    have q1 : sortedD (ws s.row) = some (.lst ((sortS s.row).map .str)) := sortedL_ok (by have := so.r6; omega)
    have q2 : sortedD (.lst ((dueT ps (setRow ss) s).map .str)) = some (.lst ((sortS (dueT ps (setRow ss) s)).map .str)) := sortedL_ok (by omega)
    have pe := sortS_perm (nodup_perm so.rn (dueT_nodup (ps := ps) (f := setRow ss) so) (h.rows s hs))
    have dq := deq_strs (x := sortS (dueT ps (setRow ss) s)) (y := sortS (dueT ps (setRow ss) s)) (fun z hz => so.pl z (dueT_sub.subset (sortS_mem.mp hz))) (fun z hz => so.pl z (dueT_sub.subset (sortS_mem.mp hz)))
    rw [pe] at q1
    refine SW.nx (e' := ⟨[some (hallD ps ss), some (.int i), some s.d], []⟩) ?_ (SW.nil ⟨_, _, rfl⟩)
    simp [rsd, i2, d1, q1, q2, dq]
  · obtain ⟨a, b, rfl⟩ := he
    exact SW.rt (d := hallD ps ss) (e' := ⟨[some (hallD ps ss), a, b], []⟩) (by simp) rfl
theorem row_called_ok (h37 : fns[37]? = some frow_called) {n : Nat} {α : Type} {f : α → Str} {dx : α → D} {xs : List α} {y : α} (hy : y ∈ xs) (hn : (xs.map f).Nodup) (hp : ∀ x ∈ xs, Pl (f x)) (h0 : ∀ x, Mi.ix (dx x) (.int 0) = some (.str (f x))) (hr : ∀ x e, res e (dx x) = some (dx x)) (hg : ∀ x, ptr 0 (dx x) = true ∧ ∀ n e, give n e (dx x) = some (dx x)) {st : List Own} :
    run cs fns (n+1) 37 [.tup (xs.map dx), .str (f y)] st = .ok (dx y) st := by
  have px : ptrs 0 (xs.map dx) = true := ptrs_map _ fun x _ => (hg x).1
  refine run_pureW h37 rfl rfl (by simp [ptrs, ptr, px]) ?_ (hg y).1
  simp only [frow_called]
  refine SW.fr (dx := dx) (xs := xs) (e0 := ⟨[some (.tup (xs.map dx)), some (.str (f y)), none], []⟩) (fun pre e => (∃ a, e = ⟨[some (.tup (xs.map dx)), some (.str (f y)), a], []⟩) ∧ y ∉ pre) (by simp [srcOf, itemsOf]) ⟨⟨_, rfl⟩, by simp⟩ (fun p x q e hx he => ?_) fun e he => ?_
  · obtain ⟨⟨a, rfl⟩, hpre⟩ := he
    have hxm : x ∈ xs := by rw [hx]; simp
    refine ⟨⟨[some (.tup (xs.map dx)), some (.str (f y)), some (dx x)], []⟩, by simp, ?_⟩
    have d1 := deq_str (hp x hxm) (hp y hy)
    by_cases e : f x = f y
    · have xy : x = y := by
        obtain ⟨i, hi, e1⟩ := List.mem_iff_getElem.mp hxm
        obtain ⟨j, hj, e2⟩ := List.mem_iff_getElem.mp hy
        have : (xs.map f)[i]'(by simpa using hi) = (xs.map f)[j]'(by simpa using hj) := by simp [e1, e2, e]
        have := (List.getElem_inj hn).mp this
        subst this
        exact e1.symm.trans e2
      subst xy
      rw [decide_eq_true rfl] at d1
      exact SW.rt (d := dx x) (e' := ⟨[some (.tup (xs.map dx)), some (.str (f x)), some (dx x)], []⟩) (by simp [hr, h0, d1]) ((hg x).2 _ _)
    · rw [decide_eq_false e] at d1
      refine SW.nx (e' := ⟨[some (.tup (xs.map dx)), some (.str (f y)), some (dx x)], []⟩) (by simp [hr, h0, d1]) (SW.nil ⟨⟨_, rfl⟩, fun z => ?_⟩)
      rcases List.mem_append.mp z with z | z
      · exact hpre z
      · simp at z; exact e (z ▸ rfl)
  · obtain ⟨_, hn⟩ := he
    exact absurd hy hn
/-! ### what is told -/
def toldE (e : Ent) : Ent := { e with on := e.on && !e.once, fresh := [] }
def turnE (first : List Str) (e : Ent) : Ent := if e.target ∈ first then toldE e else e
def turnS (m : Nat) (s : SetT) : SetT := ⟨s.name, s.ents.map (turnE (s.row.take m)), s.row.drop m ++ s.row.take m, s.asleep, s.woken⟩
def entAt (s : SetT) (t : Str) : Ent := match s.ents.find? fun e => decide (e.target = t) with
  | some e => e
  | none => ⟨t, [], false, false, false, false, []⟩
def tellRows (ps : List Pipe) (ss : List SetT) (s : SetT) (m : Nat) : List (Str × List Str) := (s.row.take m).map fun t => (t, readyE (soR ps (setRow ss t) t) (entAt s t))
def rowD (p : Str × List Str) : D := .tup [.str p.1, ws p.2]
def rowsT (l : List (Str × List Str)) : D := .tup (l.map rowD)
@[simp] theorem ptr_rowsT {n : Nat} {l : List (Str × List Str)} : ptr n (rowsT l) = true := ptrs_map _ fun p _ => by
  show (true && (ptr n (ws p.2) && true)) = true
  rw [ptr_ws]; rfl
theorem entAt_ok {s : SetT} {t : Str} (h : t ∈ s.targets) : entAt s t ∈ s.ents ∧ (entAt s t).target = t ∧ s.ents.find? (fun e => decide (e.target = t)) = some (entAt s t) := by
  unfold entAt
  cases q : s.ents.find? fun e => decide (e.target = t) with
  | none =>
    rw [List.find?_eq_none] at q
    obtain ⟨e, he, ht⟩ := List.mem_map.mp h
    exact absurd ht (by simpa using q e he)
  | some e => exact ⟨List.mem_of_find?_eq_some q, by simpa using List.find?_some q, rfl⟩
theorem toldE_ok {e : Ent} (h : EntOk e) : EntOk (toldE e) := ⟨h.nm, h.asked, h.some, Wd.nil, .inl rfl⟩
theorem turnE_ok {f : List Str} {e : Ent} (h : EntOk e) : EntOk (turnE f e) := by
  unfold turnE
  split
  · exact toldE_ok h
  · exact h
theorem turnE_t {f : List Str} {e : Ent} : (turnE f e).target = e.target ∧ (turnE f e).asked = e.asked := by
  unfold turnE
  split <;> exact ⟨rfl, rfl⟩
theorem turnS_t {m : Nat} {s : SetT} : (turnS m s).targets = s.targets := by
  show (s.ents.map (turnE _)).map (·.target) = _
  rw [List.map_map]
  exact List.map_congr_left fun e _ => turnE_t.1
theorem turn_perm {α : Type} (l : List α) (m : Nat) : (l.drop m ++ l.take m).Perm l := by
  have := (List.perm_append_comm (l₁ := l.drop m) (l₂ := l.take m))
  rw [List.take_append_drop] at this
  exact this
theorem turnS_ok {m : Nat} {s : SetT} (h : SetOk s) : SetOk (turnS m s) := by
  refine ⟨h.nm, by show (s.ents.map _).length ≤ 6; rw [List.length_map]; exact h.e6, fun e he => ?_, by rw [turnS_t]; exact h.tn, (turn_perm s.row m).nodup_iff.mpr h.rn, fun t ht => by rw [turnS_t]; exact h.rt t ((turn_perm s.row m).mem_iff.mp ht), h.a6, h.w6, h.asl, h.wok⟩
  obtain ⟨u, hu, rfl⟩ := List.mem_map.mp he
  exact turnE_ok (h.ents u hu)
theorem web_map {ps : List Pipe} {ss : List SetT} (h : WebOk ps ss) {g : SetT → SetT} (hn : ∀ u ∈ ss, (g u).name = u.name) (hw : ∀ u ∈ ss, (g u).waiters = u.waiters) (hs : ∀ u ∈ ss, SetOk (g u)) (he : ∀ u ∈ ss, ∀ e ∈ (g u).ents, ∃ e0 ∈ u.ents, e0.target = e.target ∧ e0.asked = e.asked) : WebOk ps (ss.map g) := by
  have nm : (ss.map g).map (·.name) = ss.map (·.name) := by
    rw [List.map_map]
    exact List.map_congr_left fun u hu => hn u hu
  have wt : (ss.map g).flatMap SetT.waiters = ss.flatMap SetT.waiters := by
    rw [List.flatMap_map, List.flatMap_def, List.flatMap_def]
    congr 1
    exact List.map_congr_left fun u hu => hw u hu
  exact {
    p4 := h.p4
    s4 := by rw [List.length_map]; exact h.s4
    pok := h.pok
    sok := fun s' hs' => by
      obtain ⟨s, hs1, rfl⟩ := List.mem_map.mp hs'
      exact hs s hs1
    names := by rw [nm]; exact h.names
    wn := by rw [wt]; exact h.wn
    w6 := by rw [wt]; exact h.w6
    tg := fun s' hs' e he' => by
      obtain ⟨s, hs1, rfl⟩ := List.mem_map.mp hs'
      obtain ⟨e0, h0, h1, h2⟩ := he s hs1 e he'
      rw [nm, ← h1]
      exact h.tg s hs1 e0 h0
    asked := fun s' hs' e he' ht => by
      obtain ⟨s, hs1, rfl⟩ := List.mem_map.mp hs'
      obtain ⟨e0, h0, h1, h2⟩ := he s hs1 e he'
      rw [nm, ← h1] at ht
      rw [← h2]
      exact h.asked s hs1 e0 h0 ht
    rank := by
      obtain ⟨r, r1, r2⟩ := h.rank
      refine ⟨r, r1, fun s' hs' e he' ht => ?_⟩
      obtain ⟨s, hs1, rfl⟩ := List.mem_map.mp hs'
      obtain ⟨e0, h0, h1, h2⟩ := he s hs1 e he'
      rw [nm] at ht
      rw [hn s hs1, ← h1]
      exact r2 s hs1 e0 h0 (by rw [h1]; exact ht) }
def turnAt (x : Str) (m : Nat) (u : SetT) : SetT := if u.name = x then turnS m u else u
theorem web_turn {ps : List Pipe} {ss : List SetT} (h : WebOk ps ss) (x : Str) (m : Nat) : WebOk ps (ss.map (turnAt x m)) := by
  refine web_map h (fun u hu => ?_) (fun u hu => ?_) (fun u hu => ?_) fun u hu e he => ?_
  · unfold turnAt; split <;> rfl
  · unfold turnAt; split <;> rfl
  · unfold turnAt
    split
    · exact turnS_ok (h.sok u hu)
    · exact h.sok u hu
  · unfold turnAt at he
    split at he
    · obtain ⟨e0, h0, rfl⟩ := List.mem_map.mp he
      exact ⟨e0, h0, turnE_t.1.symm, turnE_t.2.symm⟩
    · exact ⟨e, he, rfl, rfl⟩
end Mi.A
end

section
set_option Elab.async false
set_option linter.all false
set_option maxRecDepth 100000
set_option maxHeartbeats 1000000
/-! B2: telling. -/
namespace Mi.A
open PySem L2
structure HasT (fns : List Fn) : Prop extends Has fns where
  h36 : fns[36]? = some fneed_hall := by rfl
  h37 : fns[37]? = some frow_called := by rfl
  h38 : fns[38]? = some ftold_entry := by rfl
  h39 : fns[39]? = some ftold_at := by rfl
  h40 : fns[40]? = some fown_telling := by rfl
  h41 : fns[41]? = some ftelling := by rfl
variable {fns : List Fn}
theorem told_entry_ok (P : HasT fns) {n : Nat} {e : Ent} {st : List Own} : run cs fns (n+1) 38 [e.d] st = .ok (toldE e).d st := by
  refine run_pure P.h38 rfl rfl (by simp [ptrs]) (e := ⟨[some e.d, some e.i, some (.bl e.on), some (ws e.fresh), some (.str e.target), some (ws e.asked), some (.str (mode e.edge)), some (.bl e.once), some (.bl e.alone)], []⟩) ?_ ent_ptr
  cases hon : e.on <;> simp [ftold_entry, Ent.d, Ent.i, hon, toldE, ws]
theorem slc_ws {l : List Str} {lo hi : Option Int} : Mi.slc (ws l) lo hi = some (.tup (cut (l.map .str) lo hi)) := rfl
theorem told_at_ok (P : HasT fns) {n : Nat} {ps : List Pipe} {ss : List SetT} (h : HallOk ps ss) {s : SetT} (hs : SetOk s) {m : Nat} {st : List Own} :
    run cs fns (n+3) 39 [hallD ps ss, s.d, .int m] st = .ok (.tup [rowsT (tellRows ps ss s m), (turnS m s).d]) st := by
  refine run_pureW P.h39 rfl rfl (by simp [ptrs, ptr]) ?_ (by
    show (ptr 0 (rowsT _) && (ptr 0 (turnS m s).d && true)) = true
    rw [ptr_rowsT, set_ptr]; rfl)
  have e6 := hs.e6
  have r6 := hs.r6
  have rsd : ∀ e, res e s.d = some s.d := fun _ => rfl
  have i1 : Mi.ix s.d (.int 1) = some (.tup (s.ents.map Ent.d)) := rfl
  have i2 : Mi.ix s.d (.int 2) = some (ws s.row) := rfl
  have i0 : Mi.ix s.d (.int 0) = some (.str s.name) := rfl
  obtain ⟨V, hV⟩ : ∃ V : Option D → Option D → Option D → Option D → Option D → List (Option D), V = fun a b c d f => [some (hallD ps ss), some s.d, some (.int m), a, b, c, d, f, none, none] := ⟨_, rfl⟩
  obtain ⟨dic, hdic⟩ : ∃ dic, dic = s.ents.map fun e => ((.inr e.target : Key), e.d) := ⟨_, rfl⟩
  simp only [ftold_at]
  have c1 : evE cs (run cs fns (n + 2)) (.dcomp (.ix (.ix (.var 8) (.int 0)) (.int 0)) (.var 8) (.nm 8) (.seq (.ix (.var 1) (.int 1))) (.no) [8]) ⟨V none none none none none, []⟩ = .ok (.dic dic) ⟨V none none none none none, []⟩ := by
    rw [hV, hdic]
    refine dcomp_all (dx := Ent.d) (fun e => e.target) (fun e => e.d) (by simp [rsd, i1, srcOf, itemsOf]) (szl (by omega)) hs.tn fun e he => ?_
    exact ⟨[some (hallD ps ss), some s.d, some (.int m), none, none, none, none, none, some e.d, none], [some (hallD ps ss), some s.d, some (.int m), none, none, none, none, none, some e.d, none], [some (hallD ps ss), some s.d, some (.int m), none, none, none, none, none, some e.d, none], by simp [wipeL], by simp [Ent.d, Ent.i], by simp⟩
  have hV0 : ([some (hallD ps ss), some s.d, some (.int m), none, none, none, none, none, none, none] : List (Option D)) = V none none none none none := by rw [hV]
  show SW (evSs cs (run cs fns (n + 2)) _ ⟨[some (hallD ps ss), some s.d, some (.int m), none, none, none, none, none, none, none], []⟩) _ _
  rw [hV0]
  refine SW.nx (e' := ⟨V (some (.dic dic)) none none none none, []⟩) (by rw [evS_set, c1]; rw [hV]; simp) ?_
  obtain ⟨first, hf⟩ : ∃ first, first = s.row.take m := ⟨_, rfl⟩
  obtain ⟨rest, hrs⟩ : ∃ rest, rest = s.row.drop m := ⟨_, rfl⟩
  have k1 : cut (s.row.map D.str) none (some (m : Int)) = first.map .str := by rw [cut_natL, ← List.map_take, ← hf]
  have k2 : cut (s.row.map D.str) (some (m : Int)) none = rest.map .str := by rw [cut_natR, ← List.map_drop, ← hrs]
  have fl : first.length ≤ 6 := by rw [hf, List.length_take]; omega
  have rl : rest.length ≤ 6 := by rw [hrs, List.length_drop]; omega
  refine SW.nx (e' := ⟨V (some (.dic dic)) none none (some (ws first)) (some (ws rest)), []⟩) (by rw [hV]; simp [rsd, i2, slc_ws, k1, k2]; simp [ws]) ?_
  have ft : ∀ t ∈ first, t ∈ s.targets := fun t ht => hs.rt t (List.mem_of_mem_take (hf ▸ ht))
  have c2 : evE cs (run cs fns (n + 2)) (.comp (.tup (.cons (.var 9) (.cons (.ix (.call 13 (.cons (.var 0) (.cons (.ix (.var 3) (.var 9)) (.nil)))) (.int 0)) (.nil)))) (.nm 9) (.seq (.var 6)) (.no) [9]) ⟨V (some (.dic dic)) none none (some (ws first)) (some (ws rest)), []⟩ = .ok (.lst (first.map fun t => rowD (t, readyE (soR ps (setRow ss t) t) (entAt s t)))) ⟨V (some (.dic dic)) none none (some (ws first)) (some (ws rest)), []⟩ := by
    rw [hV]
    refine comp_all (dx := D.str) (fun t => rowD (t, readyE (soR ps (setRow ss t) t) (entAt s t))) (by simp [srcOf, itemsOf, ws]) (szl (by omega)) fun t ht => ?_
    have ea := entAt_ok (ft t ht)
    have g : dget dic (.inr t) = some (entAt s t).d := by
      rw [hdic, dget_map, ea.2.2]; rfl
    have dw := fun st => due_words_ok P.toHas (n := n) h (hs.ents _ ea.1) (st := st)
    rw [ea.2.1] at dw
    exact ⟨[some (hallD ps ss), some s.d, some (.int m), some (.dic dic), none, none, some (ws first), some (ws rest), none, some (.str t)], [some (hallD ps ss), some s.d, some (.int m), some (.dic dic), none, none, some (ws first), some (ws rest), none, some (.str t)], by simp [wipeL], by simp [g, dw, rowD]⟩
  have e1 : D.tup (first.map fun t => rowD (t, readyE (soR ps (setRow ss t) t) (entAt s t))) = rowsT (tellRows ps ss s m) := by
    rw [rowsT, tellRows, List.map_map, ← hf]; rfl
  refine SW.nx (e' := ⟨V (some (.dic dic)) (some (rowsT (tellRows ps ss s m))) none (some (ws first)) (some (ws rest)), []⟩) (by rw [evS_set, evE_bi, evEs_cons, c2]; rw [hV]; simp [e1]) ?_
  have c3 : evE cs (run cs fns (n + 2)) (.comp (.ite (.cmp .isin (.ix (.ix (.var 8) (.int 0)) (.int 0)) (.var 6)) (.call 38 (.cons (.var 8) (.nil))) (.var 8)) (.nm 8) (.seq (.ix (.var 1) (.int 1))) (.no) [8]) ⟨V (some (.dic dic)) (some (rowsT (tellRows ps ss s m))) none (some (ws first)) (some (ws rest)), []⟩ = .ok (.lst (s.ents.map fun e => (turnE first e).d)) ⟨V (some (.dic dic)) (some (rowsT (tellRows ps ss s m))) none (some (ws first)) (some (ws rest)), []⟩ := by
    rw [hV]
    refine comp_all (dx := Ent.d) (fun e => (turnE first e).d) (by simp [rsd, i1, srcOf, itemsOf]) (szl (by omega)) fun e he => ?_
    refine ⟨[some (hallD ps ss), some s.d, some (.int m), some (.dic dic), some (rowsT (tellRows ps ss s m)), none, some (ws first), some (ws rest), some e.d, none], [some (hallD ps ss), some s.d, some (.int m), some (.dic dic), some (rowsT (tellRows ps ss s m)), none, some (ws first), some (ws rest), some e.d, none], by simp [wipeL], ?_⟩
    have j0 : Mi.ix e.d (.int 0) = some e.i := rfl
    have j1 : Mi.ix e.i (.int 0) = some (.str e.target) := rfl
    have re : ∀ x, res x e.d = some e.d := fun _ => rfl
    have ri : ∀ x, res x e.i = some e.i := fun _ => rfl
    have te := fun st => told_entry_ok P (n := n + 1) (e := e) (st := st)
    by_cases hm : e.target ∈ first
    · simp [re, ri, j0, j1, isIn_ws, hm, te, turnE]
    · simp [re, ri, j0, j1, isIn_ws, hm, turnE]
  refine SW.nx (e' := ⟨V (some (.dic dic)) (some (rowsT (tellRows ps ss s m))) (some (.tup (s.ents.map fun e => (turnE first e).d))) (some (ws first)) (some (ws rest)), []⟩) (by rw [evS_set, evE_bi, evEs_cons, c3]; rw [hV]; simp) ?_
  have sl := slc_set (s := s)
  have s5 : (5 : Nat) ≤ sizeLine := szl (by omega)
  have sz : rest.length + first.length ≤ sizeLine := szl (by omega)
  refine SW.rt (d := .tup [rowsT (tellRows ps ss s m), (turnS m s).d]) (e' := ⟨V (some (.dic dic)) (some (rowsT (tellRows ps ss s m))) (some (.tup (s.ents.map fun e => (turnE first e).d))) (some (ws first)) (some (ws rest)), []⟩) ?_ rfl
  have e2 : D.tup (s.ents.map fun e => (turnE first e).d) = .tup ((s.ents.map (turnE (s.row.take m))).map Ent.d) := by rw [List.map_map, ← hf]; rfl
  have e3 : (turnS m s).d = .tup [.str s.name, .tup (s.ents.map fun e => (turnE first e).d), ws (rest ++ first), .tup (s.asleep.map Wt.d), .tup (s.woken.map Wt.d)] := by
    rw [e2, hrs, hf]; rfl
  rw [hV, e3]
  have ba : Mi.bin .add (ws rest) (ws first) = some (ws (rest ++ first)) := by
    show (if (rest.map D.str).length + (first.map D.str).length ≤ sizeLine then _ else _) = _
    rw [List.length_map, List.length_map, if_pos sz, ← List.map_append]; rfl
  simp [rsd, i0, sl, s5, ba]
theorem own_telling_ok (P : HasT fns) {n : Nat} {ps : List Pipe} {ss : List SetT} (h : WebOk ps ss) {s : SetT} (hs : s ∈ ss) {m : Nat} : ∃ R, Settles ps (ss.map (turnAt s.name m)) R ∧ ∀ st,
    run cs fns (n+6) 40 [hallD ps ss, .str s.name, .int m] st = .ok (.tup [rowsT (tellRows ps ss s m), hallD ps ((ss.map (turnAt s.name m)).map (·.w R))]) st := by
  obtain ⟨R, h1, h2⟩ := own_settled_ok P.toHas (n := n) (web_turn h s.name m)
  refine ⟨R, h1, fun st => run_pureW P.h40 rfl rfl (by simp [ptrs, ptr]) ?_ (by
    show (ptr 0 (rowsT _) && (ptr 0 (hallD _ _) && true)) = true
    rw [ptr_rowsT, hall_ptr]; rfl)⟩
  have so := h.sok s hs
  have rc := fun st => row_called_ok P.h37 (n := n + 4) (f := fun s : SetT => s.name) (dx := SetT.d) hs h.sets.names (fun u hu => (h.sok u hu).nm.pl) (fun _ => rfl) (fun _ _ => rfl) (fun _ => ⟨set_ptr, fun _ _ => rfl⟩) (st := st)
  have ta := fun st => told_at_ok P (n := n + 2) h.hall so (m := m) (st := st)
  simp only [fown_telling]
  refine SW.nx (e' := ⟨[some (hallD ps ss), some (.str s.name), some (.int m), some (pipesD ps), some (setsD ss), none, none, none], []⟩) (by simp [hallD]) ?_
  refine SW.nx (e' := ⟨[some (hallD ps ss), some (.str s.name), some (.int m), some (pipesD ps), some (setsD ss), some (rowsT (tellRows ps ss s m)), some (turnS m s).d, none], []⟩) (by simp only [setsD]; simp [rc, ta]) ?_
  have c1 : evE cs (run cs fns (n + 5)) (.comp (.ite (.cmp .eq (.ix (.var 7) (.int 0)) (.var 1)) (.var 6) (.var 7)) (.nm 7) (.seq (.var 4)) (.no) [7]) ⟨[some (hallD ps ss), some (.str s.name), some (.int m), some (pipesD ps), some (setsD ss), some (rowsT (tellRows ps ss s m)), some (turnS m s).d, none], []⟩ = .ok (.lst (ss.map fun u => (turnAt s.name m u).d)) ⟨[some (hallD ps ss), some (.str s.name), some (.int m), some (pipesD ps), some (setsD ss), some (rowsT (tellRows ps ss s m)), some (turnS m s).d, none], []⟩ := by
    refine comp_all (dx := SetT.d) (fun u => (turnAt s.name m u).d) (by simp [setsD, srcOf, itemsOf]) (szl (by have := h.s4; omega)) fun u hu => ?_
    refine ⟨[some (hallD ps ss), some (.str s.name), some (.int m), some (pipesD ps), some (setsD ss), some (rowsT (tellRows ps ss s m)), some (turnS m s).d, some u.d], [some (hallD ps ss), some (.str s.name), some (.int m), some (pipesD ps), some (setsD ss), some (rowsT (tellRows ps ss s m)), some (turnS m s).d, some u.d], by simp [wipeL], ?_⟩
    have d1 := deq_str (h.sok u hu).nm.pl so.nm.pl
    have i0 : Mi.ix u.d (.int 0) = some (.str u.name) := rfl
    have ru : ∀ x, res x u.d = some u.d := fun _ => rfl
    by_cases e : u.name = s.name
    · have us : u = s := by
        have h1 := find_name h.sets.names hu
        have h2 := find_name h.sets.names hs
        rw [e] at h1
        exact Option.some.inj (h1.symm.trans h2)
      subst us
      rw [decide_eq_true rfl] at d1
      simp [ru, i0, d1, turnAt]
    · rw [decide_eq_false e] at d1
      simp [ru, i0, d1, turnAt, e]
  have e1 : D.tup (ss.map fun u => (turnAt s.name m u).d) = setsD (ss.map (turnAt s.name m)) := by rw [setsD, List.map_map]; rfl
  exact SW.rt (d := .tup [rowsT (tellRows ps ss s m), hallD ps ((ss.map (turnAt s.name m)).map (·.w R))]) (e' := ⟨[some (hallD ps ss), some (.str s.name), some (.int m), some (pipesD ps), some (setsD ss), some (rowsT (tellRows ps ss s m)), some (turnS m s).d, none], []⟩) (by simp [c1, e1, h2]) rfl
theorem telling_ok (P : HasT fns) {n : Nat} {ps : List Pipe} {ss : List SetT} (h : Setl ps ss) {s : SetT} (hs : s ∈ ss) {m : Nat} (m1 : 1 ≤ m) (m6 : m ≤ 6) : ∃ R, Settles ps (ss.map (turnAt s.name m)) R ∧ ∀ st,
    run cs fns (n+9) 41 [hallD ps ss, .str s.name, .int m] st = .ok (.tup [rowsT (tellRows ps ss s m), hallD ps ((ss.map (turnAt s.name m)).map (·.w R))]) st := by
  obtain ⟨R, h1, h2⟩ := own_telling_ok P (n := n + 2) h.web hs (m := m)
  refine ⟨R, h1, fun st => run_pure P.h41 rfl rfl (by simp [ptrs, ptr]) (e := ⟨[some (hallD ps ss), some (.str s.name), some (.int m), some (pipesD ps), some (setsD ss)], []⟩) ?_ (by
    show (ptr 0 (rowsT _) && (ptr 0 (hallD _ _) && true)) = true
    rw [ptr_rowsT, hall_ptr]; rfl)⟩
  have nh := fun st => need_hall_ok P.toHas P.h36 (n := n) h (st := st)
  have rc := fun st => row_called_ok P.h37 (n := n + 7) (f := fun s : SetT => s.name) (dx := SetT.d) hs h.web.sets.names (fun u hu => (h.web.sok u hu).nm.pl) (fun _ => rfl) (fun _ _ => rfl) (fun _ => ⟨set_ptr, fun _ _ => rfl⟩) (st := st)
  have q1 : (1 : Int) ≤ m := by omega
  have q2 : (m : Int) ≤ 6 := by omega
  have isn : ∀ st, run cs fns (n + 8) 0 [.int m, .int 1, .int 6] st = .ok (.bl true) st := fun st => by
    rw [is_number_ok P.toHas (n := n + 7), decide_eq_true q1, decide_eq_true q2]; rfl
  have q3 : 1 ≤ m := m1
  have hd : hallD ps ss = .tup [pipesD ps, setsD ss] := rfl
  have sd : setsD ss = .tup (ss.map SetT.d) := rfl
  rw [← sd] at rc
  simp only [ftelling]
  have a1 : asg (.tup [.nm 3, .nm 4]) (hallD ps ss) ⟨[some (hallD ps ss), some (.str s.name), some (.int m), none, none], []⟩ = some ⟨[some (hallD ps ss), some (.str s.name), some (.int m), some (pipesD ps), some (setsD ss)], []⟩ := by
    show asgs _ [pipesD ps, setsD ss] _ = _
    simp
  simp [nh, a1, rc, isn, h2, -List.map_map]
end Mi.A
end

section
set_option Elab.async false
set_option linter.all false
set_option maxRecDepth 100000
set_option maxHeartbeats 1000000
/-! B3: the law's own telling. -/
namespace Mi.A
open PySem L2
variable {fns : List Fn}
theorem law_ready_okM (P : Has fns) {n : Nat} {ps : List Pipe} (h : ∀ p ∈ ps, PipeOk p) {rd : List (Str × List Str)} {more : List Own} (hm : more.all (ptrO 0) = true) {x : Str} (hx : Pl x) {r : List Str} (hr : ps.find? (fun p => decide (p.name = x)) = none → dget (rowsD rd) (.inr x) = some (ws r)) (hrp : ∀ z ∈ r, Pl z) :
    run cs fns (n+1) 31 [pipesD ps, .own 0, .str x] (.dic (rowsD rd) :: more) = .ok (.lst ((soR ps (decide (r ≠ [])) x).map .str)) (.dic (rowsD rd) :: more) := by
  have cl : ∀ more2 : List Own, ((.dic (rowsD rd) :: more ++ more2).take (.dic (rowsD rd) :: more : List Own).length).all (ptrO (.dic (rowsD rd) :: more : List Own).length) = true := fun more2 => by
    rw [List.take_left]
    rw [List.all_cons, ptrO_rows, all_mono (Nat.zero_le _) hm]; rfl
  obtain ⟨L, hL⟩ : ∃ L, L = (.dic (rowsD rd) :: more : List Own).length := ⟨_, rfl⟩
  obtain ⟨base, hbase⟩ : ∃ base : List Own, base = .dic (rowsD rd) :: more := ⟨_, rfl⟩
  rw [← hbase] at hL
  have b0 : base[0]? = some (.dic (rowsD rd)) := by rw [hbase]; rfl
  obtain ⟨d, st', h1, h2, h3⟩ := run_cutW (cs := cs) (n := n) (ds := [pipesD ps, .own 0, .str x]) (st := base) (T := fun d st' => d = .lst ((soR ps (decide (r ≠ [])) x).map .str) ∧ st' = base) P.h31 rfl rfl (by
    simp only [f_law_ready]
    refine SW.fr (dx := Pipe.d) (xs := ps) (e0 := ⟨[some (pipesD ps), some (.own 0), some (.str x), none, none, none, none, none, none, none], base⟩)
      (fun pre e => (∃ a b c d, e = ⟨[some (pipesD ps), some (.own 0), some (.str x), a, b, c, d, none, none, none], base⟩) ∧ ∀ p ∈ pre, p.name ≠ x) (by simp [pipesD, srcOf, itemsOf]) ⟨⟨_, _, _, _, rfl⟩, by simp⟩ (fun pre p q e hp he => ?_) fun e he => ?_
    · obtain ⟨⟨a, b, c, d, rfl⟩, hn⟩ := he
      have hps : p ∈ ps := by rw [hp]; simp
      refine ⟨⟨[some (pipesD ps), some (.own 0), some (.str x), some (.str p.name), some (.int p.room), some (.int p.held), some (.bl p.shut), none, none, none], base⟩, by simp [Pipe.d], ?_⟩
      have d1 := deq_str (h p hps).nm.pl hx
      by_cases e : p.name = x
      · have hf : ps.find? (fun p => decide (p.name = x)) = some p := by
          rw [List.find?_eq_some_iff_append]
          exact ⟨by simp [e], pre, q, hp, fun a ha => by simp [hn a ha]⟩
        rw [decide_eq_true e] at d1
        have o1 : (evOr cs (run cs fns n) (.bl (decide (0 < p.held))) (.cons (.var 6) .nil) ⟨[some (pipesD ps), some (.own 0), some (.str x), some (.str p.name), some (.int p.room), some (.int p.held), some (.bl p.shut), none, none, none], base⟩) = .ok (.bl (decide (0 < p.held) || p.shut)) ⟨[some (pipesD ps), some (.own 0), some (.str x), some (.str p.name), some (.int p.room), some (.int p.held), some (.bl p.shut), none, none, none], base⟩ := by
          cases decide (0 < p.held) <;> simp
        have o2 : ∀ (vs : List (Option D)) (st : List Own), vs = [some (pipesD ps), some (.own 0), some (.str x), some (.str p.name), some (.int p.room), some (.int p.held), some (.bl p.shut), some (.own L), none, none] → (evAnd cs (run cs fns n) (.bl (decide (p.held < p.room))) (.cons (.not (.var 6)) .nil) ⟨vs, st⟩) = .ok (.bl (decide (p.held < p.room) && !p.shut)) ⟨vs, st⟩ := by
          rintro vs st rfl
          cases decide (p.held < p.room) <;> simp
        obtain ⟨LL, hLL⟩ : ∃ LL : List (Str × Bool), LL = [(Str.ofString "in", decide (0 < p.held) || p.shut), (Str.ofString "out", decide (p.held < p.room) && !p.shut), (Str.ofString "gone", p.shut)] := ⟨_, rfl⟩
        have c1 : evE cs (run cs fns n) (.comp (.var 8) (.tup [.nm 8, .nm 9]) (.seq (.var 7)) (.yes (.var 9)) [8, 9]) ⟨[some (pipesD ps), some (.own 0), some (.str x), some (.str p.name), some (.int p.room), some (.int p.held), some (.bl p.shut), some (.own L), none, none], base ++ [.lst (LL.map fun p => .tup [.str p.1, .bl p.2])]⟩ = .ok (.lst ((LL.filter (·.2)).map fun p => .str p.1)) ⟨[some (pipesD ps), some (.own 0), some (.str x), some (.str p.name), some (.int p.room), some (.int p.held), some (.bl p.shut), some (.own L), none, none], base ++ [.lst (LL.map fun p => .tup [.str p.1, .bl p.2])]⟩ := by
          refine compO_if (j := L) (dx := fun p : Str × Bool => .tup [.str p.1, .bl p.2]) (xs := LL) (·.2) (fun p => .str p.1) (by simp [srcOf, get_at0 hL.symm]) (get_at0 hL.symm) (by rw [hLL]; simp) fun w hw => ?_
          exact ⟨_, _, by simp [wipeL]; rfl, by simp; rfl, fun _ => ⟨_, by simp; rfl⟩⟩
        have fin : (LL.filter (·.2)).map (fun p => D.str p.1) = (soR ps (decide (r ≠ [])) x).map .str := by
          rw [hLL]
          simp only [soR, hf]
          exact filt3 readyP_in readyP_out readyP_gone
        have eL : (LL.map fun p => D.tup [.str p.1, .bl p.2]) = [.tup [.str (Str.ofString "in"), .bl (decide (0 < p.held) || p.shut)], .tup [.str (Str.ofString "out"), .bl (decide (p.held < p.room) && !p.shut)], .tup [.str (Str.ofString "gone"), .bl p.shut]] := by rw [hLL]; rfl
        rw [fin, eL] at c1
        have s2 : (2 : Nat) < sizeLine := szl' (by omega)
        refine SW.rt (d := .lst ((soR ps (decide (r ≠ [])) x).map .str)) (e' := ⟨[some (pipesD ps), some (.own 0), some (.str x), some (.str p.name), some (.int p.room), some (.int p.held), some (.bl p.shut), some (.own L), none, none], base ++ [.lst [.tup [.str (Str.ofString "in"), .bl (decide (0 < p.held) || p.shut)], .tup [.str (Str.ofString "out"), .bl (decide (p.held < p.room) && !p.shut)], .tup [.str (Str.ofString "gone"), .bl p.shut]]]⟩) ?_ ⟨_, rfl, ptr_strs, by rw [hbase]; exact cl _, rfl, by rw [List.take_left]⟩
        simp [-evOr_cons, -evAnd_cons, d1, lit_in, lit_out, lit_gone, o1, o2, s2, c1, ← hL, get_at0 hL.symm, set_at0 hL.symm]
      · rw [decide_eq_false e] at d1
        refine SW.nx (e' := ⟨[some (pipesD ps), some (.own 0), some (.str x), some (.str p.name), some (.int p.room), some (.int p.held), some (.bl p.shut), none, none, none], base⟩) (by simp [d1]) ?_
        exact ⟨⟨_, _, _, _, rfl⟩, fun u hu => by
          rcases List.mem_append.mp hu with hu | hu
          · exact hn u hu
          · simp at hu; rw [hu]; exact e⟩
    · obtain ⟨⟨a, b, c, d, rfl⟩, hn⟩ := he
      have hf : ps.find? (fun p => decide (p.name = x)) = none := by
        rw [List.find?_eq_none]
        intro p hp; simp [hn p hp]
      have g := hr hf
      have d2 := deq_ws (x := r) (y := []) hrp (by simp)
      have d3 : deq (ws r) (.tup []) = some (decide (r = [])) := d2
      refine SW.rt (d := .lst ((soR ps (decide (r ≠ [])) x).map .str)) (e' := ⟨[some (pipesD ps), some (.own 0), some (.str x), a, b, c, d, none, none, none], base⟩) ?_ ⟨_, rfl, ptr_strs, by have := cl []; rw [List.append_nil] at this; rw [hbase]; exact this, rfl, by rw [List.take_of_length_le (Nat.le_refl _)]⟩
      by_cases hrn : r = []
      · subst hrn
        simp [b0, g, d3, soR, hf]
      · simp [b0, g, d3, hrn, soR, hf, lit_in])
  rw [← hbase, h1, h2, h3]
def rowAt (ss : List SetT) (t : Str) : List Str := match ss.find? fun s => decide (s.name = t) with
  | some s => s.row
  | none => []
def rdOf (ss : List SetT) : List (Str × List Str) := ss.map fun s => (s.name, s.row)
theorem rdOf_get {ss : List SetT} {t : Str} (h : t ∈ ss.map (·.name)) : dget (rowsD (rdOf ss)) (.inr t) = some (ws (rowAt ss t)) := by
  unfold rowsD rdOf rowAt
  rw [List.map_map]
  show dget (ss.map fun s => ((.inr s.name : Key), ws s.row)) (.inr t) = _
  rw [dget_map]
  cases q : ss.find? fun s => decide (s.name = t) with
  | none =>
    rw [List.find?_eq_none] at q
    obtain ⟨s, hs, e⟩ := List.mem_map.mp h
    exact absurd e (by simpa using q s hs)
  | some s => rfl
theorem setRow_at {ss : List SetT} (hn : (ss.map (·.name)).Nodup) {t : Str} (h : t ∈ ss.map (·.name)) : setRow ss t = decide (rowAt ss t ≠ []) := by
  obtain ⟨s, hs, rfl⟩ := List.mem_map.mp h
  unfold rowAt
  rw [find_name hn hs]
  unfold setRow
  rw [Bool.eq_iff_iff]
  simp only [List.any_eq_true, Bool.and_eq_true, decide_eq_true_eq]
  constructor
  · rintro ⟨u, hu, e, hr⟩
    have h1 := find_name hn hu
    rw [e, find_name hn hs] at h1
    exact (Option.some.inj h1) ▸ hr
  · exact fun hr => ⟨s, hs, rfl, hr⟩
theorem filter_comm {a r : List Str} (ha : Wd a) (hr : Wd r) : a.filter (fun w => decide (w ∈ r)) = r.filter fun w => decide (w ∈ a) := by
  have h1 : a.filter (fun w => decide (w ∈ r)) = words.filter fun w => decide (w ∈ r) && decide (w ∈ a) := by
    conv => lhs; rw [ha]
    rw [List.filter_filter]
  have h2 : r.filter (fun w => decide (w ∈ a)) = words.filter fun w => decide (w ∈ a) && decide (w ∈ r) := by
    conv => lhs; rw [hr]
    rw [List.filter_filter]
  rw [h1, h2]
  congr 1
  funext w
  exact Bool.and_comm _ _
theorem soR_wd {ps : List Pipe} {b : Bool} {x : Str} : Wd (soR ps b x) := by
  unfold soR
  cases ps.find? fun p => decide (p.name = x) with
  | some p => exact wd_sub List.filter_sublist
  | none =>
    cases b
    · exact Wd.nil
    · exact wd_sub (by decide)
end Mi.A
end

section
set_option Elab.async false
set_option linter.all false
set_option maxRecDepth 100000
set_option maxHeartbeats 1000000
/-! B4: _law_told, _law_hall. -/
namespace Mi.A
open PySem L2
variable {fns : List Fn}
@[simp] theorem dictD_lst {xs : List D} : dictD (.lst xs) = (pairsOf xs).map fun kvs => .dic (dmerge [] kvs) := rfl
theorem ptr_rowD {n : Nat} {p : Str × List Str} : ptr n (rowD p) = true := by
  show (true && (ptr n (ws p.2) && true)) = true
  rw [ptr_ws]; rfl
theorem law_told_ok (P : Has fns) (h43 : fns[43]? = some f_law_told) {n : Nat} {ps : List Pipe} {ss : List SetT} (h : WebOk ps ss) {s : SetT} (hs : s ∈ ss) {m : Nat} {R : Str → List Str} (hR : Settles ps (ss.map (turnAt s.name m)) R) {st : List Own} :
    run cs fns (n+9) 43 [hallD ps ss, .str s.name, .int m] st = .ok (.tup [rowsT (tellRows ps ss s m), hallD ps ((ss.map (turnAt s.name m)).map (·.w R))]) st := by
  refine run_pureW h43 rfl rfl (by simp [ptrs, ptr]) ?_ (by
    show (ptr 0 (rowsT _) && (ptr 0 (hallD _ _) && true)) = true
    rw [ptr_rowsT, hall_ptr]; rfl)
  have hn := h.sets.names
  have so := h.sok s hs
  have s4 := h.s4
  have e6 := so.e6
  have r6 := so.r6
  obtain ⟨x, hx⟩ : ∃ x, x = s.name := ⟨_, rfl⟩
  rw [← hx] at hR ⊢
  obtain ⟨rd, hrd⟩ : ∃ rd, rd = rdOf ss := ⟨_, rfl⟩
  have xpl : Pl x := by rw [hx]; exact so.nm.pl
  have i0 : ∀ u : SetT, Mi.ix u.d (.int 0) = some (.str u.name) := fun _ => rfl
  have i1 : ∀ u : SetT, Mi.ix u.d (.int 1) = some (.tup (u.ents.map Ent.d)) := fun _ => rfl
  have i2 : ∀ u : SetT, Mi.ix u.d (.int 2) = some (ws u.row) := fun _ => rfl
  have rsd : ∀ (u : SetT) e, res e u.d = some u.d := fun _ _ => rfl
  obtain ⟨V, hV⟩ : ∃ V : Option D → Option D → Option D → Option D → Option D → Option D → Option D → Option D → List (Option D), V = fun a t9 t10 t11 t12 t13 t14 t15 => [some (hallD ps ss), some (.str x), some (.int m), a, some (pipesD ps), some (setsD ss), some (.own 0), some (.own 1), some (.own 2), t9, t10, t11, t12, t13, t14, t15, none] := ⟨_, rfl⟩
  simp only [f_law_told]
  refine SW.nx (e' := ⟨[some (hallD ps ss), some (.str x), some (.int m), none, some (pipesD ps), some (setsD ss), none, none, none, none, none, none, none, none, none, none, none], []⟩) (by
    have a1 : asg (.tup [.nm 4, .nm 5]) (hallD ps ss) ⟨[some (hallD ps ss), some (.str x), some (.int m), none, none, none, none, none, none, none, none, none, none, none, none, none, none], []⟩ = some ⟨[some (hallD ps ss), some (.str x), some (.int m), none, some (pipesD ps), some (setsD ss), none, none, none, none, none, none, none, none, none, none, none], []⟩ := by
      show asgs _ [pipesD ps, setsD ss] _ = _
      simp
    simp [a1]) ?_
  have c1 : evE cs (run cs fns (n + 8)) (.comp (.tup (.cons (.ix (.var 3) (.int 0)) (.cons (.ix (.var 3) (.int 2)) (.nil)))) (.nm 3) (.seq (.var 5)) (.no) [3]) ⟨[some (hallD ps ss), some (.str x), some (.int m), none, some (pipesD ps), some (setsD ss), none, none, none, none, none, none, none, none, none, none, none], []⟩ = .ok (.lst (ss.map fun u => .tup [.str u.name, ws u.row])) ⟨[some (hallD ps ss), some (.str x), some (.int m), none, some (pipesD ps), some (setsD ss), none, none, none, none, none, none, none, none, none, none, none], []⟩ := by
    refine comp_all (dx := SetT.d) (fun u => .tup [.str u.name, ws u.row]) (by simp [setsD, srcOf, itemsOf]) (szl (by omega)) fun u hu => ?_
    exact ⟨[some (hallD ps ss), some (.str x), some (.int m), some u.d, some (pipesD ps), some (setsD ss), none, none, none, none, none, none, none, none, none, none, none], [some (hallD ps ss), some (.str x), some (.int m), some u.d, some (pipesD ps), some (setsD ss), none, none, none, none, none, none, none, none, none, none, none], by simp [wipeL], by simp [rsd, i0, i2]⟩
  have pm := pairsOf_map (fun u : SetT => u.name) (fun u => ws u.row) ss
  have dm : dmerge [] (ss.map fun u => ((.inr u.name : Key), ws u.row)) = rowsD rd := by
    rw [dmerge_nil (keys_nodup hn), hrd, rowsD, rdOf, List.map_map]; rfl
  refine SW.nx (e' := ⟨V none none none none none none none none, [.dic (rowsD rd), .lst [], .lst []]⟩) (by rw [hV]; simp [c1, pm, dm]) ?_
  have rdpl : ∀ t ∈ ss.map (·.name), ∀ z ∈ rowAt ss t, Pl z := fun t ht z hz => by
    obtain ⟨u, hu, rfl⟩ := List.mem_map.mp ht
    unfold rowAt at hz
    rw [find_name hn hu] at hz
    exact (h.sok u hu).pl z ((h.sok u hu).rt z hz)
  have cells : ∀ (fs : List (Str × List Str)) (bs : List SetT), ([.lst (fs.map rowD), .lst (bs.map SetT.d)] : List Own).all (ptrO 0) = true := fun fs bs => by
    show (ptrs 0 (fs.map rowD) && (ptrs 0 (bs.map SetT.d) && true)) = true
    rw [ptrs_map _ fun _ _ => ptr_rowD, ptrs_map _ fun _ _ => set_ptr]; rfl
  have getC : ∀ (fs bs : List D) (more : List Own), ((.dic (rowsD rd) : Own) :: .lst fs :: .lst bs :: more)[0]? = some (.dic (rowsD rd)) ∧ ((.dic (rowsD rd) : Own) :: .lst fs :: .lst bs :: more)[1]? = some (.lst fs) ∧ ((.dic (rowsD rd) : Own) :: .lst fs :: .lst bs :: more)[2]? = some (.lst bs) := fun _ _ _ => ⟨rfl, rfl, rfl⟩
  refine SW.fr (dx := SetT.d) (xs := ss) (e0 := ⟨V none none none none none none none none, [.dic (rowsD rd), .lst [], .lst []]⟩)
    (fun pre e => ∃ a t9 t10 t11 t12 t13 t14 t15 fs more, e = ⟨V a t9 t10 t11 t12 t13 t14 t15, .dic (rowsD rd) :: .lst (fs.map rowD) :: .lst ((pre.map (turnAt x m)).map SetT.d) :: more⟩ ∧ ((s ∈ pre → fs = tellRows ps ss s m) ∧ (s ∉ pre → fs = [] ∧ more = []))) (by rw [hV]; simp [setsD, srcOf, itemsOf]) ⟨none, none, none, none, none, none, none, none, [], [], rfl, by simp⟩ (fun pre u post e hk he => ?_) fun e he => ?_
  · obtain ⟨a, t9, t10, t11, t12, t13, t14, t15, fs, more, rfl, hfs⟩ := he
    have hu : u ∈ ss := by rw [hk]; simp
    have up : u ∉ pre := fun z => by
      have := pre_nodup (q := post.map (·.name)) (p := pre.map (·.name)) (x := u.name) hn (by rw [hk]; simp)
      exact this (List.mem_map.mpr ⟨u, z, rfl⟩)
    have pl4 : pre.length < 4 := by
      have := congrArg List.length hk
      simp at this
      omega
    refine ⟨⟨V (some u.d) t9 t10 t11 t12 t13 t14 t15, .dic (rowsD rd) :: .lst (fs.map rowD) :: .lst ((pre.map (turnAt x m)).map SetT.d) :: more⟩, by rw [hV]; simp, ?_⟩
    have d1 := deq_str (h.sok u hu).nm.pl xpl
    have prl : (pre.map fun u => (turnAt x m u).d).length < sizeLine := szl' (by rw [List.length_map]; omega)
    -- the last statement
    have app : ∀ (w : SetT) t9 t10 t11 t12 t13 t14 t15 fs more, w = turnAt x m u → ((s ∈ pre ++ [u] → fs = tellRows ps ss s m) ∧ (s ∉ pre ++ [u] → fs = [] ∧ more = [])) → SW (evSs cs (run cs fns (n + 8)) (.cons (.expr (.mu .append (.var 8) (.cons (.var 3) (.nil)))) (.nil)) ⟨V (some w.d) t9 t10 t11 t12 t13 t14 t15, .dic (rowsD rd) :: .lst (fs.map rowD) :: .lst ((pre.map (turnAt x m)).map SetT.d) :: more⟩)
        (fun e => ∃ a t9 t10 t11 t12 t13 t14 t15 fs more, e = ⟨V a t9 t10 t11 t12 t13 t14 t15, .dic (rowsD rd) :: .lst (fs.map rowD) :: .lst (((pre ++ [u]).map (turnAt x m)).map SetT.d) :: more⟩ ∧ ((s ∈ pre ++ [u] → fs = tellRows ps ss s m) ∧ (s ∉ pre ++ [u] → fs = [] ∧ more = []))) (fun d e => give 0 e d = some (.tup [rowsT (tellRows ps ss s m), hallD ps ((ss.map (turnAt x m)).map (·.w R))])) := fun w t9 t10 t11 t12 t13 t14 t15 fs more hw hf => by
      subst hw
      refine SW.nx (e' := ⟨V (some (turnAt x m u).d) t9 t10 t11 t12 t13 t14 t15, .dic (rowsD rd) :: .lst (fs.map rowD) :: .lst (((pre ++ [u]).map (turnAt x m)).map SetT.d) :: more⟩) ?_ (SW.nil ⟨_, _, _, _, _, _, _, _, fs, more, rfl, hf⟩)
      rw [hV]
      have pl2 : pre.length < sizeLine := szl' (by omega)
      simp [pl2]
    by_cases e : u.name = x
    · have us : u = s := by
        have h1 := find_name hn hu
        have h2 := find_name hn hs
        rw [e, hx, h2] at h1
        exact (Option.some.inj h1).symm
      subst us
      obtain ⟨rfl, rfl⟩ := hfs.2 up
      rw [decide_eq_true e] at d1
      refine SW.condT (e1 := ⟨V (some u.d) t9 t10 t11 t12 t13 t14 t15, .dic (rowsD rd) :: .lst (([] : List (Str × List Str)).map rowD) :: .lst ((pre.map (turnAt x m)).map SetT.d) :: []⟩) (by rw [hV]; simp [rsd, i0, d1]) ?_
      obtain ⟨first, hf⟩ : ∃ first, first = u.row.take m := ⟨_, rfl⟩
      obtain ⟨rest, hrs⟩ : ∃ rest, rest = u.row.drop m := ⟨_, rfl⟩
      have k1 : cut (u.row.map D.str) none (some (m : Int)) = first.map .str := by rw [cut_natL, ← List.map_take, ← hf]
      have k2 : cut (u.row.map D.str) (some (m : Int)) none = rest.map .str := by rw [cut_natR, ← List.map_drop, ← hrs]
      have fl : first.length ≤ 6 := by rw [hf, List.length_take]; omega
      have rl : rest.length ≤ 6 := by rw [hrs, List.length_drop]; omega
      have ft : ∀ t ∈ first, t ∈ u.targets := fun t ht => so.rt t (List.mem_of_mem_take (hf ▸ ht))
      obtain ⟨dic, hdic⟩ : ∃ dic, dic = u.ents.map fun e => ((.inr e.target : Key), e.d) := ⟨_, rfl⟩
      obtain ⟨S0, hS0⟩ : ∃ S0 : List (Str × List Str) → List Own, S0 = fun fs => .dic (rowsD rd) :: .lst (fs.map rowD) :: .lst ((pre.map (turnAt x m)).map SetT.d) :: [] := ⟨_, rfl⟩
      have hSnil : (.dic (rowsD rd) :: .lst (([] : List (Str × List Str)).map rowD) :: .lst ((pre.map (turnAt x m)).map SetT.d) :: [] : List Own) = S0 [] := by rw [hS0]
      rw [hSnil]
      have c2 : evE cs (run cs fns (n + 8)) (.comp (.tup (.cons (.ix (.ix (.var 11) (.int 0)) (.int 0)) (.cons (.var 11) (.nil)))) (.nm 11) (.seq (.ix (.var 3) (.int 1))) (.no) [11]) ⟨V (some u.d) t9 t10 t11 t12 t13 t14 t15, S0 []⟩ = .ok (.lst (u.ents.map fun e => .tup [.str e.target, e.d])) ⟨V (some u.d) t9 t10 t11 t12 t13 t14 t15, S0 []⟩ := by
        rw [hV]
        refine comp_all (dx := Ent.d) (fun e => .tup [.str e.target, e.d]) (by simp [rsd, i1, srcOf, itemsOf]) (szl (by omega)) fun e he => ?_
        exact ⟨_, _, by simp [wipeL]; rfl, by simp [Ent.d, Ent.i]; rfl⟩
      have pm2 := pairsOf_map (fun e : Ent => e.target) (fun e => e.d) u.ents
      have dm2 : dmerge [] (u.ents.map fun e => ((.inr e.target : Key), e.d)) = dic := by rw [dmerge_nil (keys_nodup so.tn), hdic]
      refine SW.nx (e' := ⟨V (some u.d) t9 t10 t11 (some (ws first)) (some (.dic dic)) t14 t15, S0 []⟩) ?_ ?_
      · rw [hV] at c2 ⊢
        simp [rsd, i2, slc_ws, k1, c2, pm2, dm2]
        rfl
      -- what is told
      refine SW.fr (dx := D.str) (xs := first) (e0 := ⟨V (some u.d) t9 t10 t11 (some (ws first)) (some (.dic dic)) t14 t15, S0 []⟩)
        (fun pre2 e => ∃ t9 t14, e = ⟨V (some u.d) t9 t10 t11 (some (ws first)) (some (.dic dic)) t14 t15, S0 (pre2.map fun t => (t, readyE (soR ps (setRow ss t) t) (entAt u t)))⟩) (by rw [hV]; simp [srcOf, itemsOf, ws]) ⟨_, _, rfl⟩ (fun pre2 t post2 e hk2 he => ?_) fun e he => ?_
      · obtain ⟨t9, t14, rfl⟩ := he
        obtain ⟨fs, hfs⟩ : ∃ fs, fs = pre2.map fun t => (t, readyE (soR ps (setRow ss t) t) (entAt u t)) := ⟨_, rfl⟩
        rw [← hfs]
        have tf : t ∈ first := by rw [hk2]; simp
        have ea := entAt_ok (ft t tf)
        have eok := so.ents _ ea.1
        have tpl : Pl t := ea.2.1 ▸ eok.nm.pl
        have g : dget dic (.inr t) = some (entAt u t).d := by rw [hdic, dget_map, ea.2.2]; rfl
        obtain ⟨so', hso'⟩ : ∃ so', so' = soR ps (setRow ss t) t := ⟨_, rfl⟩
        have lr : run cs fns (n + 8) 31 [pipesD ps, .own 0, .str t] (S0 fs) = .ok (.lst (so'.map .str)) (S0 fs) := by
          rw [hS0, hso']
          by_cases hp : ps.find? (fun p => decide (p.name = t)) = none
          · have tn : t ∈ ss.map (·.name) := target_pipe h (by have := h.tg u hu _ ea.1; rw [ea.2.1] at this; exact this) hp
            have := law_ready_okM P (n := n + 7) h.pok (rd := rd) (more := [.lst (fs.map rowD), .lst ((pre.map (turnAt x m)).map SetT.d)]) (cells _ _) tpl (r := rowAt ss t) (fun _ => by rw [hrd]; exact rdOf_get tn) (rdpl t tn)
            rw [← setRow_at hn tn] at this
            exact this
          · have := law_ready_okM P (n := n + 7) h.pok (rd := rd) (more := [.lst (fs.map rowD), .lst ((pre.map (turnAt x m)).map SetT.d)]) (cells _ _) tpl (r := []) (fun z => absurd z hp) (by simp)
            rw [soR_pipe hp (b := setRow ss t)] at this
            exact this
        have w3 := (soR_sub (ps := ps) (b := setRow ss t) (x := t)).1
        rw [← hso'] at w3
        refine ⟨⟨V (some u.d) (some (.str t)) t10 t11 (some (ws first)) (some (.dic dic)) t14 t15, S0 fs⟩, by rw [hV]; simp, ?_⟩
        refine SW.nx (e' := ⟨V (some u.d) (some (.str t)) t10 t11 (some (ws first)) (some (.dic dic)) (some (.lst (so'.map .str))) t15, S0 fs⟩) (by rw [hV]; simp [lr]) ?_
        have j0 : Mi.ix (entAt u t).d (.int 0) = some (entAt u t).i := rfl
        have j1 : Mi.ix (entAt u t).i (.int 1) = some (ws (entAt u t).asked) := rfl
        have re : ∀ y, res y (entAt u t).d = some (entAt u t).d := fun _ => rfl
        have ri : ∀ y, res y (entAt u t).i = some (entAt u t).i := fun _ => rfl
        have c3 : evE cs (run cs fns (n + 8)) (.comp (.var 16) (.nm 16) (.seq (.ix (.ix (.ix (.var 13) (.var 9)) (.int 0)) (.int 1))) (.yes (.cmp .isin (.var 16) (.var 14))) [16]) ⟨V (some u.d) (some (.str t)) t10 t11 (some (ws first)) (some (.dic dic)) (some (.lst (so'.map .str))) t15, S0 fs⟩ = .ok (.lst (((entAt u t).asked.filter fun w => decide (w ∈ so')).map .str)) ⟨V (some u.d) (some (.str t)) t10 t11 (some (ws first)) (some (.dic dic)) (some (.lst (so'.map .str))) t15, S0 fs⟩ := by
          rw [hV]
          refine comp_if (dx := D.str) (xs := (entAt u t).asked) (fun w => decide (w ∈ so')) .str (by simp [g, re, ri, j0, j1, srcOf, itemsOf, ws]) (szl (by have := eok.asked.three; omega)) fun w hw => ?_
          exact ⟨_, _, by simp [wipeL]; rfl, by simp [isIn_strs_l]; rfl, fun _ => ⟨_, by simp; rfl⟩⟩
        have fc : (entAt u t).asked.filter (fun w => decide (w ∈ so')) = readyE so' (entAt u t) := by
          rw [filter_comm eok.asked (hso' ▸ soR_wd)]; rfl
        rw [fc] at c3
        have f2 : pre2.length < sizeLine := szl' (by
          have := congrArg List.length hk2
          simp at this
          omega)
        have f3 : fs.length < sizeLine := by rw [hfs, List.length_map]; exact f2
        refine SW.nx (e' := ⟨V (some u.d) (some (.str t)) t10 t11 (some (ws first)) (some (.dic dic)) (some (.lst (so'.map .str))) t15, S0 ((pre2 ++ [t]).map fun t => (t, readyE (soR ps (setRow ss t) t) (entAt u t)))⟩) ?_ (SW.nil ⟨_, _, rfl⟩)
        have eS : S0 ((pre2 ++ [t]).map fun t => (t, readyE (soR ps (setRow ss t) t) (entAt u t))) = S0 (fs ++ [(t, readyE so' (entAt u t))]) := by rw [List.map_append, ← hfs, hso']; rfl
        rw [eS]
        rw [hV] at c3 ⊢
        rw [hS0] at c3 ⊢
        simp [c3, f3, rowD, -List.map_map]
        rfl
      · obtain ⟨t9, t14, rfl⟩ := he
        obtain ⟨fs, hfs⟩ : ∃ fs, fs = first.map fun t => (t, readyE (soR ps (setRow ss t) t) (entAt u t)) := ⟨_, rfl⟩
        rw [← hfs]
        have fst' : fs = tellRows ps ss u m := by rw [hfs, hf]; rfl
        -- the entries turned
        refine SW.nx (e' := ⟨V (some u.d) t9 (some (.own 3)) t11 (some (ws first)) (some (.dic dic)) t14 t15, S0 fs ++ [.lst []]⟩) (by rw [hV, hS0]; simp) ?_
        refine SW.fr (dx := Ent.d) (xs := u.ents) (e0 := ⟨V (some u.d) t9 (some (.own 3)) t11 (some (ws first)) (some (.dic dic)) t14 t15, S0 fs ++ [.lst []]⟩)
          (fun pre3 e => ∃ t11 t15, e = ⟨V (some u.d) t9 (some (.own 3)) t11 (some (ws first)) (some (.dic dic)) t14 t15, S0 fs ++ [.lst ((pre3.map (turnE first)).map Ent.d)]⟩) (by rw [hV]; simp [rsd, i1, srcOf, itemsOf]) ⟨_, _, rfl⟩ (fun pre3 en post3 e hk3 he => ?_) fun e he => ?_
        · obtain ⟨t11, t15, rfl⟩ := he
          have p6 : pre3.length < 6 := by
            have := congrArg List.length hk3
            simp at this
            omega
          have f2 : pre3.length < sizeLine := szl' (by omega)
          have j0 : Mi.ix en.d (.int 0) = some en.i := rfl
          have j00 : Mi.ix en.i (.int 0) = some (.str en.target) := rfl
          have j1 : Mi.ix en.d (.int 1) = some (.bl en.on) := rfl
          have j3 : Mi.ix en.i (.int 3) = some (.bl en.once) := rfl
          have re : ∀ y, res y en.d = some en.d := fun _ => rfl
          have ri : ∀ y, res y en.i = some en.i := fun _ => rfl
          refine ⟨⟨V (some u.d) t9 (some (.own 3)) (some en.d) (some (ws first)) (some (.dic dic)) t14 t15, S0 fs ++ [.lst ((pre3.map (turnE first)).map Ent.d)]⟩, by rw [hV]; simp, ?_⟩
          refine SW.nx (e' := ⟨V (some u.d) t9 (some (.own 3)) (some en.d) (some (ws first)) (some (.dic dic)) t14 (some (.bl (decide (en.target ∈ first)))), S0 fs ++ [.lst ((pre3.map (turnE first)).map Ent.d)]⟩) (by rw [hV]; simp [re, ri, j0, j00, isIn_ws]) ?_
          refine SW.nx (e' := ⟨V (some u.d) t9 (some (.own 3)) (some en.d) (some (ws first)) (some (.dic dic)) t14 (some (.bl (decide (en.target ∈ first)))), S0 fs ++ [.lst (((pre3 ++ [en]).map (turnE first)).map Ent.d)]⟩) ?_ (SW.nil ⟨_, _, rfl⟩)
          rw [hV, hS0]
          by_cases hm2 : en.target ∈ first
          · have te : (turnE first en).d = .tup [en.i, .bl (en.on && !en.once), .tup []] := by
              unfold turnE
              rw [if_pos hm2]; rfl
            cases hon : en.on <;> rw [hon] at j1 te <;> simp [hm2, re, ri, j0, j1, j3, f2, te, -List.map_map]
          · have te : (turnE first en).d = en.d := by
              unfold turnE
              rw [if_neg hm2]
            simp [hm2, f2, te, -List.map_map]
        · obtain ⟨t11, t15, rfl⟩ := he
          have sl := slc_set (s := u)
          have s5 : (5 : Nat) ≤ sizeLine := szl (by omega)
          have sz : rest.length + first.length ≤ sizeLine := szl (by omega)
          have ba : Mi.bin .add (ws rest) (ws first) = some (ws (rest ++ first)) := by
            show (if (rest.map D.str).length + (first.map D.str).length ≤ sizeLine then _ else _) = _
            rw [List.length_map, List.length_map, if_pos sz, ← List.map_append]; rfl
          have wr : D.tup (rest.map .str) = ws rest := rfl
          have te : (turnAt x m u).d = .tup [.str x, .tup ((u.ents.map (turnE first)).map Ent.d), ws (rest ++ first), .tup (u.asleep.map Wt.d), .tup (u.woken.map Wt.d)] := by
            unfold turnAt
            rw [if_pos e, hrs, hf, ← e]; rfl
          refine SW.nx (e' := ⟨V (some (turnAt x m u).d) t9 (some (.own 3)) t11 (some (ws first)) (some (.dic dic)) t14 t15, S0 fs ++ [.lst ((u.ents.map (turnE first)).map Ent.d)]⟩) ?_ (SW.nil ?_)
          · rw [te, hV, hS0]
            simp [rsd, i2, slc_ws, k2, wr, ba, sl, s5, -List.map_map]
          · have := app (turnAt x m u) t9 (some (.own 3)) t11 (some (ws first)) (some (.dic dic)) t14 t15 fs [.lst ((u.ents.map (turnE first)).map Ent.d)] rfl ⟨fun _ => fst', fun z => absurd (by simp) z⟩
            rw [hS0]
            exact this
    · rw [decide_eq_false e] at d1
      have us : u ≠ s := fun z => e (by rw [z, hx])
      have tu : u = turnAt x m u := by unfold turnAt; rw [if_neg e]
      refine SW.condF (e1 := ⟨V (some u.d) t9 t10 t11 t12 t13 t14 t15, .dic (rowsD rd) :: .lst (fs.map rowD) :: .lst ((pre.map (turnAt x m)).map SetT.d) :: more⟩) (by rw [hV]; simp [rsd, i0, d1]) (SW.nil ?_)
      refine app u t9 t10 t11 t12 t13 t14 t15 fs more tu ?_
      have : s ∈ pre ++ [u] ↔ s ∈ pre := by
        simp only [List.mem_append, List.mem_singleton]
        exact ⟨fun z => z.resolve_right fun q => us q.symm, .inl⟩
      exact ⟨fun z => hfs.1 (this.mp z), fun z => hfs.2 fun q => z (this.mpr q)⟩
  · obtain ⟨a, t9, t10, t11, t12, t13, t14, t15, fs, more, rfl, hfs⟩ := he
    have hfs := hfs.1 hs
    subst hfs
    have e1 : D.tup ((ss.map (turnAt x m)).map SetT.d) = setsD (ss.map (turnAt x m)) := rfl
    have lsd2 := fun st => (law_settled_ok P (n := n) (web_turn h x m) hR (st := st))
    refine SW.rt (d := .tup [rowsT (tellRows ps ss s m), hallD ps ((ss.map (turnAt x m)).map (·.w R))]) (e' := ⟨V a t9 t10 t11 t12 t13 t14 t15, .dic (rowsD rd) :: .lst ((tellRows ps ss s m).map rowD) :: .lst ((ss.map (turnAt x m)).map SetT.d) :: more⟩) ?_ rfl
    rw [hV]
    simp [e1, lsd2, rowsT, -List.map_map]
theorem law_hall_ok (P : HasW fns) (h42 : fns[42]? = some f_law_hall) (n : Nat) {B : Nat} (hB : B ≤ 100000) {rest st : List Own} (h : At B rest st) (hr : rest.all (ptrO (rest.length + 2)) = true) :
    ∃ ps ss st', Setl ps ss ∧ At (B + 1000) rest st' ∧ run cs fns (n+9) 42 [.own 1] st = .ok (hallD ps ss) st' := by
  have key : ∃ d st', run cs fns (n + 8 + 1) 42 [.own 1] st = .ok d st' ∧ At (B + 1000) rest st' ∧ ∃ ps ss, Setl ps ss ∧ d = hallD ps ss := by
    refine run_drawW h42 rfl rfl h hr ?_
    obtain ⟨ps, ss, st1, hw, ha1, r1⟩ := web_ok P (n + 3) hB h hr
    obtain ⟨R, h1, _⟩ := own_settled_ok P.toHas (n := 0) hw
    have ls := fun st => law_settled_ok P.toHas (n := n) hw h1 (st := st)
    simp only [f_law_hall]
    refine SW.nx (e' := ⟨[some (.own 1), some (pipesD ps), some (setsD ss)], st1⟩) (by simp [r1, hallD]) ?_
    exact SW.rt (d := hallD ps (ss.map (·.w R))) (e' := ⟨[some (.own 1), some (pipesD ps), some (setsD ss)], st1⟩) (by simp [ls]) ⟨_, [], st1, by simp, ha1, rfl, hall_ptr, ps, _, setl_of hw h1, rfl⟩
  obtain ⟨d, st', e1, e2, ps, ss, e3, e4⟩ := key
  exact ⟨ps, ss, st', e3, e2, by rw [← e4]; exact e1⟩
end Mi.A
end

section
set_option Elab.async false
set_option linter.all false
set_option maxRecDepth 100000
set_option maxHeartbeats 1000000
/-! B5: a row drawn of a cell's entries. -/
namespace Mi.A
open PySem L2
variable {fns : List Fn}
/-- a comprehension over a cell's list, the store kept -/
theorem compO_all {cs : List D} {cal : Cal} {α : Type} {elt : CE} {tg : CT} {it : CI} {vs : List Nat} {e : En} {dx : α → D} {xs : List α} {j : Nat} (g : α → D) (hi : evI cs cal it e = .ok (.live j) e) (hj : e.st[j]? = some (.lst (xs.map dx))) (hl : xs.length < 1000000)
    (h : ∀ x ∈ xs, ∃ vs1 vs2, asg tg (dx x) ⟨wipeL e.vs vs, e.st⟩ = some ⟨vs1, e.st⟩ ∧ evE cs cal elt ⟨vs1, e.st⟩ = .ok (g x) ⟨vs2, e.st⟩) :
    evE cs cal (.comp elt tg it .no vs) e = .ok (.lst (xs.map g)) e := by
  rw [evE_comp, hi, bind_ok]
  simp only [turnsS]
  rw [turnsO_map (dx := dx) (xs := xs) (g := fun x => some (g x)) hj ?_ (m := fuel) (k := 0) (Nat.zero_le _) (by rw [Nat.add_zero]; exact hl)]
  · rw [bind_ok, List.drop_zero, filterMap_some', if_pos (by
      rw [List.length_map]
      exact szl (by omega))]
  · intro x hx
    obtain ⟨vs1, vs2, h1, h2⟩ := h x hx
    exact ⟨vs2, by simp only [h1, evT_no, bind_ok, h2, if_true]⟩
theorem any_row_gen (P : Has fns) (n : Nat) {B : Nat} (hB : B ≤ 1000000) {rest st : List Own} (h : At B rest st) (hr : rest.all (ptrO (rest.length + 2)) = true) {E : List Ent} (h6 : E.length ≤ 6) (hn : (E.map (·.target)).Nodup) {dE : D}
    (c1 : evE cs (run cs fns (n + 2)) (.comp (.ix (.ix (.var 5) (.int 0)) (.int 0)) (.nm 5) (.seq (.var 1)) (.no) [5]) ⟨[some (.own 1), some dE, none, none, none, none], st⟩ = .ok (.lst (E.map fun e => .str e.target)) ⟨[some (.own 1), some dE, none, none, none, none], st⟩) :
    ∃ (F : List Str) (st' : List Own), F.Nodup ∧ (∀ t ∈ F, t ∈ E.map (·.target)) ∧ At (B + 10) rest st' ∧ run cs fns (n+3) 28 [.own 1, dE] st = .ok (ws F) st' := by
  have key : ∃ d st', run cs fns (n + 2 + 1) 28 [.own 1, dE] st = .ok d st' ∧ At (B + 10) rest st' ∧ ∃ F : List Str, F.Nodup ∧ (∀ t ∈ F, t ∈ E.map (·.target)) ∧ d = ws F := by
    refine run_drawW P.h28 rfl rfl h hr ?_
    obtain ⟨L, hL⟩ : ∃ L, L = st.length := ⟨_, rfl⟩
    have hL2 : L = rest.length + 2 := by rw [hL, h.len]
    have lenL : ∀ {B' : Nat} {s : List Own}, At B' rest s → s.length = L := fun ha => by rw [ha.len, hL2]
    obtain ⟨T, hT⟩ : ∃ T, T = E.map (·.target) := ⟨_, rfl⟩
    rw [← hT] at hn ⊢
    have tl : T.length ≤ 6 := by rw [hT, List.length_map]; exact h6
    obtain ⟨V, hV⟩ : ∃ V : Option D → List (Option D), V = fun a => [some (.own 1), some dE, a, some (.own L), some (.own (L + 1)), none] := ⟨_, rfl⟩
    simp only [f_law_any_row]
    have e1 : (E.map fun e => D.str e.target) = T.map .str := by rw [hT, List.map_map]; rfl
    rw [e1] at c1
    refine SW.nx (e' := ⟨V none, st ++ [.lst (T.map .str), .lst []]⟩) (by simp [c1, hV, hL]) ?_
    obtain ⟨v1, st1, v10, v11, a1, r1⟩ := h.drawM P n (by omega) [.lst (T.map .str), .lst []] hr (cellsS (m := [])) (m := T.length + 1) (by omega) (by omega)
    obtain ⟨M, rfl⟩ := Int.eq_ofNat_of_zero_le v10
    have ev1 : evE cs (run cs fns (n + 2)) (.call 23 (.cons (.var 0) (.cons (.bin .add (.bi .len (.cons (.var 3) (.nil))) (.int 1)) (.nil)))) ⟨V none, st ++ [.lst (T.map .str), .lst []]⟩ = .ok (.int M) ⟨V none, st1 ++ [.lst (T.map .str), .lst []]⟩ := by
      rw [hV]
      simp [get_at0 hL.symm, r1]
    refine SW.fr (dx := fun k : Nat => D.int k) (xs := List.range M) (e0 := ⟨V none, st1 ++ [.lst (T.map .str), .lst []]⟩)
      (fun pre e => ∃ a st0 PP F, e = ⟨V a, st0 ++ [.lst (PP.map .str), .lst (F.map .str)]⟩ ∧ At (B + 1 + pre.length) rest st0 ∧ F.length = pre.length ∧ (PP ++ F).Perm T)
      (evI_range_nat ev1 (by omega)) ⟨none, st1, T, [], rfl, a1, rfl, by simp⟩ (fun pre k post e hk he => ?_) fun e he => ?_
    · obtain ⟨a, st3, PP, F, rfl, a3, i1, i2⟩ := he
      have hpre := pre_len hk
      have pl : PP.length + F.length = T.length := by
        have := i2.length_eq
        rw [List.length_append] at this
        exact this
      have hp0 : 0 < PP.length := by omega
      refine ⟨⟨V (some (.int k)), st3 ++ [.lst (PP.map .str), .lst (F.map .str)]⟩, by simp [hV], ?_⟩
      obtain ⟨v, st4, v0, v1', a4, r4⟩ := a3.drawM P n (by omega) [.lst (PP.map .str), .lst (F.map .str)] hr cellsS (m := PP.length) (by omega) (by omega)
      obtain ⟨v, rfl⟩ := Int.eq_ofNat_of_zero_le v0
      have hv' : v < PP.length := by omega
      have pp := popI_nat (f := D.str) hv'
      obtain ⟨t, ht⟩ : ∃ t, t = PP[v] := ⟨_, rfl⟩
      obtain ⟨P2, hP2⟩ : ∃ P2, P2 = PP.eraseIdx v := ⟨_, rfl⟩
      have ep := erase_perm hv'
      rw [← ht, ← hP2] at pp ep
      have fl : F.length < sizeLine := szl' (by omega)
      refine SW.nx (e' := ⟨V (some (.int k)), st4 ++ [.lst (P2.map .str), .lst ((F ++ [t]).map .str)]⟩) ?_ (SW.nil ⟨_, st4, P2, F ++ [t], rfl, a4.mono (by simp; omega), by simp [i1], ?_⟩)
      · rw [hV]
        simp [get_at0 (lenL a3), get_at1 (lenL a3), get_at0 (lenL a4), get_at1 (lenL a4), set_at0 (lenL a4), set_at1 (lenL a4), r4, pp, fl]
      · rw [← List.append_assoc]
        have := ep.symm.append_right F
        exact ((List.perm_append_comm (l₁ := P2 ++ F) (l₂ := [t])).trans (by simpa using this.symm)).trans i2
    · obtain ⟨a, st3, PP, F, rfl, a3, i1, i2⟩ := he
      simp only [List.length_range] at i1 a3
      refine SW.rt (d := ws F) (e' := ⟨V a, st3 ++ [.lst (PP.map .str), .lst (F.map .str)]⟩) (by rw [hV]; simp [get_at1 (lenL a3), ws]) ?_
      refine ⟨_, _, st3, rfl, a3.mono (by omega), rfl, ptr_ws, F, ?_, fun t ht => i2.mem_iff.mp (List.mem_append_right _ ht), rfl⟩
      have := i2.nodup_iff.mpr hn
      rw [List.nodup_append] at this
      exact this.2.1
  obtain ⟨d, st', e1, e2, F, e3, e4, e5⟩ := key
  exact ⟨F, st', e3, e4, e2, by rw [← e5]; exact e1⟩
theorem any_row_own (P : Has fns) (n : Nat) {B : Nat} (hB : B ≤ 1000000) {rest st : List Own} (h : At B rest st) (hr : rest.all (ptrO (rest.length + 2)) = true) {E : List Ent} (h6 : E.length ≤ 6) (hn : (E.map (·.target)).Nodup) {j : Nat} (hj : st[j]? = some (.lst (E.map Ent.d))) :
    ∃ (F : List Str) (st' : List Own), F.Nodup ∧ (∀ t ∈ F, t ∈ E.map (·.target)) ∧ At (B + 10) rest st' ∧ run cs fns (n+3) 28 [.own 1, .own j] st = .ok (ws F) st' := by
  refine any_row_gen P n hB h hr h6 hn (compO_all (j := j) (dx := Ent.d) (fun e => .str e.target) (by simp [srcOf, hj]) hj (by omega) fun e he => ?_)
  exact ⟨[some (.own 1), some (.own j), none, none, none, some e.d], [some (.own 1), some (.own j), none, none, none, some e.d], by simp [wipeL], by simp [Ent.d, Ent.i]⟩
end Mi.A
end

section
set_option Elab.async false
set_option linter.all false
set_option maxRecDepth 100000
set_option maxHeartbeats 1000000
/-! B6: _law_chain. -/
namespace Mi.A
open PySem L2
variable {fns : List Fn}
theorem get_end {st p : List Own} {L : Nat} (h : st.length = L) {c : Own} : (st ++ (p ++ [c]))[L + p.length]? = some c := by
  subst h
  rw [List.getElem?_append_right (by omega)]
  simp
theorem set_end {st p : List Own} {L : Nat} (h : st.length = L) {c o : Own} : (st ++ (p ++ [c])).set (L + p.length) o = st ++ (p ++ [o]) := by
  subst h
  rw [List.set_append_right _ _ (by omega)]
  simp
theorem get_in {st p q : List Own} {L i : Nat} (h : st.length = L) {c : Own} (hp : p[i]? = some c) : (st ++ (p ++ q))[L + i]? = some c := by
  subst h
  rw [List.getElem?_append_right (by omega), Nat.add_sub_cancel_left]
  have := List.getElem?_eq_some_iff.mp hp
  rw [List.getElem?_append_left this.1]
  exact hp
def cdic (FD : List (Str × List Ent × List Str)) : List (Key × D) := FD.map fun p => (.inr p.1, .tup [entsD p.2.1, ws p.2.2])
theorem ptr_cdic {n : Nat} {FD : List (Str × List Ent × List Str)} : ptrK n (cdic FD) = true := by
  unfold cdic
  induction FD with
  | nil => rfl
  | cons p FD ih =>
    show ((ptr n (entsD p.2.1) && (ptr n (ws p.2.2) && true)) && ptrK n _) = true
    rw [ptr_ents, ptr_ws, ih]; rfl
theorem cdic_put {FD : List (Str × List Ent × List Str)} {x : Str} {E : List Ent} {r : List Str} (h : x ∉ FD.map (·.1)) : dput (cdic FD) (.inr x) (.tup [entsD E, ws r]) = cdic (FD ++ [(x, E, r)]) := by
  rw [dput_new]
  · simp [cdic]
  · intro z
    obtain ⟨kv, h1, h2⟩ := List.mem_map.mp z
    obtain ⟨p, hp, rfl⟩ := List.mem_map.mp h1
    exact h (List.mem_map.mpr ⟨p, hp, Sum.inr.inj h2⟩)
def setOf (FD : List (Str × List Ent × List Str)) (x : Str) : SetT := match FD.find? fun p => decide (p.1 = x) with
  | some p => ⟨x, p.2.1, p.2.2, [], []⟩
  | none => ⟨x, [], [], [], []⟩
theorem cdic_get {FD : List (Str × List Ent × List Str)} {x : Str} (h : x ∈ FD.map (·.1)) : dget (cdic FD) (.inr x) = some (.tup [entsD (setOf FD x).ents, ws (setOf FD x).row]) := by
  unfold cdic setOf
  rw [dget_map]
  cases q : FD.find? fun p => decide (p.1 = x) with
  | none =>
    rw [List.find?_eq_none] at q
    obtain ⟨p, hp, e⟩ := List.mem_map.mp h
    exact absurd e (by simpa using q p hp)
  | some p => rfl
/-- the other parts of such a set are empty; its name -/
theorem setOf_rest {FD : List (Str × List Ent × List Str)} {x : Str} : (setOf FD x).name = x ∧ (setOf FD x).asleep = [] ∧ (setOf FD x).woken = [] := by
  unfold setOf
  split <;> exact ⟨rfl, rfl, rfl⟩
def FD2 (FD : List (Str × List Ent × List Str)) : List (Str × List Ent) := FD.map fun p => (p.1, p.2.1)
theorem FD2_names {FD : List (Str × List Ent × List Str)} : (FD2 FD).map (·.1) = FD.map (·.1) := by rw [FD2, List.map_map]; rfl
theorem setOf_ents {FD : List (Str × List Ent × List Str)} {x : Str} : (setOf FD x).ents = entsOf (FD2 FD) x := by
  unfold setOf entsOf FD2
  rw [List.find?_map]
  cases q : FD.find? fun p => decide (p.1 = x) with
  | none =>
    have : FD.find? ((fun p : Str × List Ent => decide (p.1 = x)) ∘ fun p => (p.1, p.2.1)) = none := q
    rw [this]; rfl
  | some p =>
    have : FD.find? ((fun p : Str × List Ent => decide (p.1 = x)) ∘ fun p => (p.1, p.2.1)) = some p := q
    rw [this]; rfl
theorem setOf_row {FD : List (Str × List Ent × List Str)} (hr : ∀ p ∈ FD, p.2.2.Nodup ∧ ∀ t ∈ p.2.2, t ∈ p.2.1.map (·.target)) (x : Str) : (setOf FD x).row.Nodup ∧ ∀ t ∈ (setOf FD x).row, t ∈ (setOf FD x).targets := by
  unfold setOf
  cases q : FD.find? fun p => decide (p.1 = x) with
  | none => exact ⟨List.nodup_nil, by simp⟩
  | some p => exact hr p (List.mem_of_find?_eq_some q)
/-- an entry's parts, handled as the law does -/
theorem lit_emp : (Str.ofString "").length ≤ 1000 := by decide
theorem emp_pl : Pl (Str.ofString "") := by intro c; revert c; decide
theorem nm_ne {x : Str} (h : Nm x) : x ≠ Str.ofString "" := fun e => by
  have := h.one
  rw [e] at this
  exact absurd this (by decide)
theorem insert_perm {α : Type} (l : List α) (i : Nat) (y : α) : (l.take i ++ [y] ++ l.drop i).Perm (l ++ [y]) := by
  have h1 : (l.take i ++ [y] ++ l.drop i).Perm (y :: (l.take i ++ l.drop i)) := by
    rw [List.append_assoc]
    exact List.perm_middle
  rw [List.take_append_drop] at h1
  exact h1.trans (List.perm_append_comm (l₁ := [y]) (l₂ := l))
theorem whos0 {S : List Str} : whos S (fun _ => ([], [])) = [] := by
  unfold whos
  rw [List.flatMap_eq_nil_iff]
  simp
theorem set_in {st p q : List Own} {L i : Nat} (h : st.length = L) (hi : i < p.length) {o : Own} : (st ++ (p ++ q)).set (L + i) o = st ++ (p.set i o ++ q) := by
  subst h
  rw [List.set_append_right _ _ (by omega), Nat.add_sub_cancel_left, List.set_append_left _ _ hi]
theorem comp_st2 {cs : List D} {cal : Cal} {α γ : Type} {elt : CE} {tg : CT} {it : CI} {vs : List Nat} {e e0 : En} {dx : α → D} {xs : List α} (proj : γ → α) (dz : γ → D) (Q : γ → Prop) (I : Nat → List Own → Prop) (hi : evI cs cal it e = .ok (.fix (xs.map dx)) e0) (hl : xs.length ≤ sizeLine) (h0 : I 0 e0.st)
    (hs : ∀ x ∈ xs, ∀ j st, j < xs.length → I j st → ∃ z vs1 vs2 st', proj z = x ∧ Q z ∧ asg tg (dx x) ⟨wipeL e0.vs vs, st⟩ = some ⟨vs1, st⟩ ∧ evE cs cal elt ⟨vs1, st⟩ = .ok (dz z) ⟨vs2, st'⟩ ∧ I (j + 1) st') :
    ∃ (zs : List γ) (st' : List Own), zs.map proj = xs ∧ (∀ z ∈ zs, Q z) ∧ evE cs cal (.comp elt tg it .no vs) e = .ok (.lst (zs.map dz)) ⟨e0.vs, st'⟩ ∧ I xs.length st' := by
  obtain ⟨zs, st', h1, h2, h3, h4⟩ := turns_st (base := wipeL e0.vs vs) (f := compF cs cal elt tg .no) (proj := proj) (dz := dz) (Q := Q) (dx := dx) (xs := xs) (k := 0) (I := I) h0 fun x hx j st _ hj hi' => by
      obtain ⟨z, vs1, vs2, st', g1, g2, g3, g4, g5⟩ := hs x hx j st (by omega) hi'
      exact ⟨z, vs2, st', g1, g2, by simp only [compF, g3, evT_no, bind_ok, g4, if_true], g5⟩
  refine ⟨zs, st', h1, h2, ?_, by rw [Nat.zero_add] at h4; exact h4⟩
  rw [evE_compF, hi, bind_ok]
  show (turns _ _ _ _).bind _ = _
  rw [h3, bind_ok, if_pos (by
    have := congrArg List.length h1
    rw [List.length_map] at this
    rw [List.length_map, this]
    exact hl)]
theorem chain_ok (P : Has fns) (h44 : fns[44]? = some f_law_chain) (n : Nat) {B : Nat} (hB : B ≤ 100000) {rest st : List Own} (h : At B rest st) (hr : rest.all (ptrO (rest.length + 2)) = true) :
    ∃ ps ss st', Setl ps ss ∧ ss.length = 4 ∧ At (B + 1000) rest st' ∧ run cs fns (n+9) 44 [.own 1] st = .ok (hallD ps ss) st' := by
  have key : ∃ d st', run cs fns (n + 8 + 1) 44 [.own 1] st = .ok d st' ∧ At (B + 1000) rest st' ∧ ∃ ps ss, Setl ps ss ∧ ss.length = 4 ∧ d = hallD ps ss := by
    refine run_drawW h44 rfl rfl h hr ?_
    obtain ⟨L, hL⟩ : ∃ L, L = st.length := ⟨_, rfl⟩
    have hL2 : L = rest.length + 2 := by rw [hL, h.len]
    have lenL : ∀ {B' : Nat} {s : List Own}, At B' rest s → s.length = L := fun ha => by rw [ha.len, hL2]
    simp only [f_law_chain]
    obtain ⟨names, st1, hN, a1, r1⟩ := names_ok P (n + 5) (by omega) h hr (m := 8) (by omega)
    have r1 : run cs fns (n + 8) 24 [.own 1, .int 8] st = .ok (.lst (names.map .str)) st1 := r1
    refine SW.nx (e' := ⟨[some (.own 1), some (.lst (names.map .str)), none, none, none, none, none, none, none, none, none, none, none, none, none, none, none, none], st1⟩) (by simp [r1]) ?_
    obtain ⟨v, st2, v0, v1, a2, r2⟩ := a1.draw P (n + 6) (by omega) hr (m := 3) (by omega) (by omega)
    obtain ⟨v, rfl⟩ := Int.eq_ofNat_of_zero_le v0
    have v3 : v < 3 := by omega
    obtain ⟨N, hNd⟩ : ∃ N, N = names.take (1 + v) := ⟨_, rfl⟩
    obtain ⟨S, hSd⟩ : ∃ S, S = names.drop 4 := ⟨_, rfl⟩
    have ev : (1 : Int) + (v : Int) = ((1 + v : Nat) : Int) := by omega
    have cN : cut (names.map D.str) none (some ((1 : Int) + (v : Int))) = N.map .str := by rw [ev, cut_natL, ← List.map_take, ← hNd]
    have cS : cut (names.map D.str) (some 4) none = S.map .str := by
      have := cut_natR (xs := names.map D.str) (k := 4)
      rw [← List.map_drop, ← hSd] at this
      exact this
    have Nl : N.length ≤ 3 := by rw [hNd, List.length_take, hN.len]; omega
    have Sl : S.length = 4 := by rw [hSd, List.length_drop, hN.len]
    have nmN : ∀ x ∈ N, Nm x := fun x hx => hN.nm x (List.mem_of_mem_take (hNd ▸ hx))
    have nmS : ∀ x ∈ S, Nm x := fun x hx => hN.nm x (List.mem_of_mem_drop (hSd ▸ hx))
    have ndAll : (N ++ S).Nodup := by
      have h1 := hN.nd
      rw [← List.take_append_drop 4 names, ← hSd] at h1
      have sub : N.Sublist (names.take 4) := by
        rw [hNd]
        exact List.take_sublist_take_left (by omega)
      exact h1.sublist (sub.append_right S)
    have ndN : N.Nodup := by rw [List.nodup_append] at ndAll; exact ndAll.1
    have ndS : S.Nodup := by rw [List.nodup_append] at ndAll; exact ndAll.2.1
    have apart : ∀ x ∈ N, x ∉ S := fun x h1 h2 => by
      rw [List.nodup_append] at ndAll
      exact ndAll.2.2 x h1 x h2 rfl
    obtain ⟨ps, st3, p1, p2, p3, a3⟩ := comp_st2 (cs := cs) (cal := run cs fns (n + 8)) (elt := .call 25 (.cons (.var 0) (.cons (.var 6) (.nil)))) (tg := .nm 6) (it := .seq (.slc (.var 1) (.no) (.yes (.bin .add (.int 1) (.call 23 (.cons (.var 0) (.cons (.int 3) (.nil)))))))) (vs := [6]) (e := ⟨[some (.own 1), some (.lst (names.map .str)), none, none, none, none, none, none, none, none, none, none, none, none, none, none, none, none], st1⟩)
      (e0 := ⟨[some (.own 1), some (.lst (names.map .str)), none, none, none, none, none, none, none, none, none, none, none, none, none, none, none, none], st2⟩)
      (dx := D.str) (xs := N) (γ := Pipe) (·.name) Pipe.d PipeOk (fun j st => At (B + 21 + 5 * j) rest st) (by simp [r2, cN, srcOf, itemsOf]) (szl (by omega)) a2 fun x hx j st hj hi => by
        obtain ⟨p, st', q1, q2, q3, q4⟩ := pipe_ok P (n + 5) (by omega) hi hr (nmN x hx)
        exact ⟨p, [some (.own 1), some (.lst (names.map .str)), none, none, none, none, some (.str x), none, none, none, none, none, none, none, none, none, none, none], [some (.own 1), some (.lst (names.map .str)), none, none, none, none, some (.str x), none, none, none, none, none, none, none, none, none, none, none], st', q2, q1, by simp [wipeL], by simp [q4], q3.mono (by omega)⟩
    have pl3 : ps.length ≤ 3 := by
      have := congrArg List.length p1
      rw [List.length_map] at this
      omega
    refine SW.nx (e' := ⟨[some (.own 1), some (.lst (names.map .str)), some (pipesD ps), none, none, none, none, none, none, none, none, none, none, none, none, none, none, none], st3⟩) (by simp [p3, pipesD]) ?_
    have l3 := lenL a3
    obtain ⟨V, hV⟩ : ∃ V : Str → Option D → Option D → Option D → Option D → Option D → Option D → Option D → Option D → Option D → Option D → Option D → Option D → List (Option D), V = fun inn t6 t7 t8 t9 t10 t11 t12 t13 t14 t15 t16 t17 => [some (.own 1), some (.lst (names.map .str)), some (pipesD ps), some (.own L), some (.own (L + 1)), some (.str inn), t6, t7, t8, t9, t10, t11, t12, t13, t14, t15, t16, t17] := ⟨_, rfl⟩
    refine SW.nx (e' := ⟨V (Str.ofString "") none none none none none none none none none none none none, st3 ++ [.lst (S.map .str), .dic (cdic [])]⟩) ?_ ?_
    · rw [hV]
      simp [cS, dmerge, cdic, l3, lit_emp]
    have cl2 : ∀ (l : List Str) (FD : List (Str × List Ent × List Str)) (gb : List Own), gb.all (ptrO 0) = true → (.lst (l.map .str) :: .dic (cdic FD) :: gb : List Own).all (ptrO 0) = true := fun l FD gb hg => by
      show (ptrs 0 (l.map .str) && (ptrK 0 (cdic FD) && gb.all (ptrO 0))) = true
      rw [ptr_strs, ptr_cdic, hg]; rfl
    refine SW.whil (m := S.length) (fun w e => ∃ inn t6 t7 t8 t9 t10 t11 t12 t13 t14 t15 t16 t17 st0 Rs FD gb, e = ⟨V inn t6 t7 t8 t9 t10 t11 t12 t13 t14 t15 t16 t17, st0 ++ (.lst (Rs.map .str) :: .dic (cdic FD) :: gb)⟩ ∧ At (B + 40 + 100 * FD.length) rest st0 ∧ (Rs ++ FD.map (·.1)).Perm S ∧ w = Rs.length ∧ gb.all (ptrO 0) = true ∧ ((FD = [] ∧ inn = Str.ofString "") ∨ inn ∈ FD.map (·.1)) ∧
      (∀ p ∈ FD, p.2.2.Nodup ∧ ∀ t ∈ p.2.2, t ∈ p.2.1.map (·.target)) ∧ ∀ p x q, FD = p ++ x :: q → EntsOk N (p.map (·.1)) x.2.1)
      ⟨_, none, none, none, none, none, none, none, none, none, none, none, none, st3, S, [], [], rfl, a3.mono (by simp; omega), by simp, rfl, rfl, .inl ⟨rfl, rfl⟩, by simp, fun p x q e => by simp at e⟩ (by simp [fuel]; omega) fun w e hi => ?_
    obtain ⟨inn, t6, t7, t8, t9, t10, t11, t12, t13, t14, t15, t16, t17, st4, Rs, FD, gb, rfl, a4, j1, rfl, j2, j3, j4, j5⟩ := hi
    have jl : Rs.length + FD.length = 4 := by
      have := j1.length_eq
      rw [List.length_append, List.length_map, Sl] at this
      exact this
    have l4 := lenL a4
    have rpl : ∀ z ∈ Rs, Pl z := fun z hz => (nmS z (j1.mem_iff.mp (List.mem_append_left _ hz))).pl
    have d1 := deq_strs (x := Rs) (y := []) rpl (by simp)
    simp only [List.map_nil] at d1
    have fdS : ∀ x ∈ FD.map (·.1), x ∈ S := fun x hx => j1.mem_iff.mp (List.mem_append_right _ hx)
    refine ⟨!decide (Rs = []), ⟨V inn t6 t7 t8 t9 t10 t11 t12 t13 t14 t15 t16 t17, st4 ++ (.lst (Rs.map .str) :: .dic (cdic FD) :: gb)⟩, by rw [hV]; simp [get_at0 l4, d1], fun e => ?_, fun e => ?_⟩
    · -- behind the loop
      have : Rs = [] := by simpa using e
      subst this
      simp only [List.nil_append] at j1
      have fdin : ∀ x ∈ S, x ∈ FD.map (·.1) := fun x hx => j1.mem_iff.mpr hx
      have fdn : (FD.map (·.1)).Nodup := j1.nodup_iff.mpr ndS
      obtain ⟨ss, hss⟩ : ∃ ss, ss = S.map (setOf FD) := ⟨_, rfl⟩
      have ssn : ss.map (·.name) = S := by
        rw [hss, List.map_map]
        conv => rhs; rw [← List.map_id S]
        exact List.map_congr_left fun x _ => setOf_rest.1
      have hw : WebOk ps ss := by
        refine web_of (names := N ++ S) (S := S) (FD := FD2 FD) (W := fun _ => ([], [])) (m := N.length) (k := S.length) ⟨by simp, ndAll, fun x hx => ?_⟩ (by omega) (by omega) (by simp) (by rw [p1]; simp) p2 (by rw [FD2_names]; exact j1) (fun p x q e => ?_) ⟨by simp, by rw [whos0]; exact List.nodup_nil, by rw [whos0]; simp⟩ ssn fun s hs => ?_
        · rcases List.mem_append.mp hx with z | z
          · exact nmN x z
          · exact nmS x z
        · have : (N ++ S).take N.length = N := by simp
          rw [this]
          unfold FD2 at e
          obtain ⟨p', q', e1, e2, e3⟩ := List.map_eq_append_iff.mp e
          obtain ⟨x', q'', e4, e5, e6⟩ := List.map_eq_cons_iff.mp e3
          have := j5 p' x' q'' (by rw [e1, e4])
          rw [← e2, ← e5, List.map_map]
          exact this
        · rw [hss] at hs
          obtain ⟨x, hx, rfl⟩ := List.mem_map.mp hs
          have g := setOf_rest (FD := FD) (x := x)
          have r := setOf_row j4 x
          exact ⟨by rw [g.1]; exact setOf_ents, r.1, r.2, g.2.1, g.2.2⟩
      obtain ⟨R, hR, _⟩ := own_settled_ok P (n := 0) hw
      have ls := fun st => law_settled_ok P (n := n) hw hR (st := st)
      have c1 : evE cs (run cs fns (n + 8)) (.comp (.bin .add (.bin .add (.tup (.cons (.var 6) (.nil))) (.ix (.var 4) (.var 6))) (.tup (.cons (.tup (.nil)) (.cons (.tup (.nil)) (.nil))))) (.nm 6) (.seq (.slc (.var 1) (.yes (.int 4)) (.no))) (.no) [6]) ⟨V inn t6 t7 t8 t9 t10 t11 t12 t13 t14 t15 t16 t17, st4 ++ (.lst (([] : List Str).map .str) :: .dic (cdic FD) :: gb)⟩ = .ok (.lst (S.map fun x => (setOf FD x).d)) ⟨V inn t6 t7 t8 t9 t10 t11 t12 t13 t14 t15 t16 t17, st4 ++ (.lst (([] : List Str).map .str) :: .dic (cdic FD) :: gb)⟩ := by
        rw [hV]
        refine comp_all (dx := D.str) (fun x => (setOf FD x).d) (by simp [cS, srcOf, itemsOf]) (szl (by omega)) fun x hx => ?_
        refine ⟨[some (.own 1), some (.lst (names.map .str)), some (pipesD ps), some (.own L), some (.own (L + 1)), some (.str inn), some (.str x), t7, t8, t9, t10, t11, t12, t13, t14, t15, t16, t17], [some (.own 1), some (.lst (names.map .str)), some (pipesD ps), some (.own L), some (.own (L + 1)), some (.str inn), some (.str x), t7, t8, t9, t10, t11, t12, t13, t14, t15, t16, t17], by simp [wipeL], ?_⟩
        have g := cdic_get (fdin x hx)
        have g2 := setOf_rest (FD := FD) (x := x)
        have s5 : (5 : Nat) ≤ sizeLine := szl (by omega)
        have s3 : (3 : Nat) ≤ sizeLine := szl (by omega)
        have te : (setOf FD x).d = .tup [.str x, entsD (setOf FD x).ents, ws (setOf FD x).row, .tup [], .tup []] := by
          show D.tup [.str (setOf FD x).name, entsD _, ws _, .tup ((setOf FD x).asleep.map Wt.d), .tup ((setOf FD x).woken.map Wt.d)] = _
          rw [g2.1, g2.2.1, g2.2.2]; rfl
        rw [te]
        simp only [List.map_nil]
        simp [get_at1 l4, g, s5, s3]
      have e1 : D.tup (S.map fun x => (setOf FD x).d) = setsD ss := by rw [hss, setsD, List.map_map]; rfl
      refine SW.rt (d := hallD ps (ss.map (·.w R))) (e' := ⟨V inn t6 t7 t8 t9 t10 t11 t12 t13 t14 t15 t16 t17, st4 ++ (.lst (([] : List Str).map .str) :: .dic (cdic FD) :: gb)⟩) ?_ ?_
      · rw [hV] at c1 ⊢
        simp only [List.map_nil] at c1 ⊢
        simp [c1, e1, ls, -List.map_map]
      · exact ⟨_, _, st4, rfl, a4.mono (by omega), rfl, hall_ptr, ps, _, setl_of hw hR, by rw [List.length_map, hss, List.length_map, Sl], rfl⟩
    · -- a turn
      have hne : Rs ≠ [] := by simpa using e
      have r0 : 0 < Rs.length := List.length_pos_iff.mpr hne
      have f4 : FD.length < 4 := by omega
      obtain ⟨v, st5, v0, v1, a5, r5⟩ := a4.drawM P (n + 6) (by omega) (.lst (Rs.map .str) :: .dic (cdic FD) :: gb) hr (cl2 _ _ _ j2) (m := Rs.length) (by omega) (by omega)
      obtain ⟨v, rfl⟩ := Int.eq_ofNat_of_zero_le v0
      have hv' : v < Rs.length := by omega
      have pp := popI_nat (f := D.str) hv'
      have rl := List.length_eraseIdx_of_lt hv'
      obtain ⟨t, ht⟩ : ∃ t, t = Rs[v] := ⟨_, rfl⟩
      obtain ⟨R2, hR2⟩ : ∃ R2, R2 = Rs.eraseIdx v := ⟨_, rfl⟩
      have ep := erase_perm hv'
      rw [← ht, ← hR2] at pp ep
      rw [← hR2] at rl
      have l5 := lenL a5
      refine SW.nx (e' := ⟨V inn (some (.str t)) t7 t8 t9 t10 t11 t12 t13 t14 t15 t16 t17, st5 ++ (.lst (R2.map .str) :: .dic (cdic FD) :: gb)⟩) ?_ ?_
      · rw [hV]
        simp [get_at0 l4, get_at0 l5, set_at0 l5, r5, pp]
      have perm2 : (R2 ++ (t :: FD.map (·.1))).Perm S := by
        have := (ep.symm.append_right (FD.map (·.1))).symm
        exact (List.perm_middle.trans this).trans j1
      have tS : t ∈ S := perm2.mem_iff.mp (by simp)
      have tn : t ∉ FD.map (·.1) := by
        have := perm2.nodup_iff.mpr ndS
        rw [List.nodup_append] at this
        exact (List.nodup_cons.mp this.2.1).1
      have inpl : Pl inn := by
        rcases j3 with ⟨_, z⟩ | z
        · rw [z]; exact emp_pl
        · exact (nmS _ (fdS _ z)).pl
      have dInn := deq_str inpl emp_pl
      obtain ⟨pre3, hp3⟩ : ∃ pre3 : List Own, pre3 = .lst (R2.map .str) :: .dic (cdic FD) :: gb := ⟨_, rfl⟩
      have cl3 : pre3.all (ptrO 0) = true := by rw [hp3]; exact cl2 _ _ _ j2
      have clE : ∀ E : List Ent, (pre3 ++ [.lst (E.map Ent.d)] : List Own).all (ptrO 0) = true := fun E => by
        rw [List.all_append, cl3]
        show (true && (ptrs 0 (E.map Ent.d) && true)) = true
        rw [ents_ptr0]; rfl
      rw [← hp3]
      obtain ⟨J, hJ⟩ : ∃ J, J = L + pre3.length := ⟨_, rfl⟩
      refine SW.nx (e' := ⟨V inn (some (.str t)) (some (.own J)) t8 t9 t10 t11 t12 t13 t14 t15 t16 t17, st5 ++ (pre3 ++ [.lst (([] : List Ent).map Ent.d)])⟩) (by rw [hV]; simp [l5, hJ]) ?_
      have gE : ∀ {B' : Nat} {s : List Own} (_ : At B' rest s) (c : Own), (s ++ (pre3 ++ [c]))[J]? = some c := fun ha c => by rw [hJ]; exact get_end (lenL ha)
      have sE : ∀ {B' : Nat} {s : List Own} (_ : At B' rest s) (c o : Own), (s ++ (pre3 ++ [c])).set J o = s ++ (pre3 ++ [o]) := fun ha c o => by rw [hJ]; exact set_end (lenL ha)
      obtain ⟨BB, hBB⟩ : ∃ BB, BB = B + 40 + 100 * FD.length + 1 := ⟨_, rfl⟩
      rw [← hBB] at a5
      have BBle : BB ≤ B + 400 := by omega
      refine SW.fr (dx := Pipe.d) (xs := ps) (e0 := ⟨V inn (some (.str t)) (some (.own J)) t8 t9 t10 t11 t12 t13 t14 t15 t16 t17, st5 ++ (pre3 ++ [.lst (([] : List Ent).map Ent.d)])⟩)
        (fun pre e => ∃ t8 st6 E, e = ⟨V inn (some (.str t)) (some (.own J)) t8 t9 t10 t11 t12 t13 t14 t15 t16 t17, st6 ++ (pre3 ++ [.lst (E.map Ent.d)])⟩ ∧ At (BB + 10 * pre.length) rest st6 ∧ (E.map (·.target)).Sublist (pre.map (·.name)) ∧ ∀ e ∈ E, EntOk e)
        (by rw [hV]; simp [pipesD, srcOf, itemsOf]) ⟨_, st5, [], rfl, a5, by simp, by simp⟩ (fun pre p post e hk he => ?_) fun e he => ?_
      · obtain ⟨t8, st6, E, rfl, a6, k1, k2⟩ := he
        have hp : p ∈ ps := by rw [hk]; simp
        have pre3l : pre.length < 3 := by
          have := congrArg List.length hk
          simp at this
          omega
        have el : E.length ≤ 3 := by
          have := k1.length_le
          simp at this
          omega
        refine ⟨⟨V inn (some (.str t)) (some (.own J)) (some p.d) t9 t10 t11 t12 t13 t14 t15 t16 t17, st6 ++ (pre3 ++ [.lst (E.map Ent.d)])⟩, by rw [hV]; simp, ?_⟩
        have C : ∃ (b : Bool) (st7 : List Own), At (BB + 10 * pre.length + 1) rest st7 ∧ ((evE cs (run cs fns (n + 8)) (.or (.cmp .eq (.var 5) (.str (Str.ofString ""))) (.cons (.cmp .eq (.call 23 (.cons (.var 0) (.cons (.int 3) (.nil)))) (.int 0)) (.nil))) ⟨V inn (some (.str t)) (some (.own J)) (some p.d) t9 t10 t11 t12 t13 t14 t15 t16 t17, st6 ++ (pre3 ++ [.lst (E.map Ent.d)])⟩).bind fun x e => .of ((res e x).bind truth) e) = .ok b ⟨V inn (some (.str t)) (some (.own J)) (some p.d) t9 t10 t11 t12 t13 t14 t15 t16 t17, st7 ++ (pre3 ++ [.lst (E.map Ent.d)])⟩ := by
          by_cases hi : inn = Str.ofString ""
          · rw [decide_eq_true hi] at dInn
            exact ⟨true, st6, a6.mono (by omega), by rw [hV]; simp [dInn, lit_emp]⟩
          · rw [decide_eq_false hi] at dInn
            obtain ⟨u, st7, u0, u1, a7, r7⟩ := a6.drawM P (n + 6) (by omega) (pre3 ++ [.lst (E.map Ent.d)]) hr (clE E) (m := 3) (by omega) (by omega)
            have d3 := deq_int (x := u) (y := 0)
            exact ⟨decide (u = 0), st7, a7.mono (by omega), by rw [hV]; simp [dInn, lit_emp, r7, d3]⟩
        obtain ⟨b, st7, a7, hc⟩ := C
        cases b with
        | false =>
          refine SW.condF hc (SW.nil (SW.nil ⟨_, st7, E, rfl, a7.mono (by simp; omega), ?_, k2⟩))
          rw [List.map_append]
          exact k1.trans (List.sublist_append_left _ _)
        | true =>
          refine SW.condT hc ?_
          obtain ⟨en, st8, q1, q2, q3, a8, r8⟩ := entry_okM P (n + 5) (by omega) a7 (pre3 ++ [.lst (E.map Ent.d)]) hr (clE E) (p2 p hp).nm (b := false)
          have i0 : Mi.ix p.d (.int 0) = some (.str p.name) := rfl
          have rp : ∀ e, res e p.d = some p.d := fun _ => rfl
          have es : E.length < sizeLine := szl' (by omega)
          refine SW.nx (e' := ⟨V inn (some (.str t)) (some (.own J)) (some p.d) t9 t10 t11 t12 t13 t14 t15 t16 t17, st8 ++ (pre3 ++ [.lst ((E ++ [en]).map Ent.d)])⟩) ?_ (SW.nil (SW.nil ⟨_, st8, E ++ [en], rfl, a8.mono (by simp; omega), ?_, fun u hu => ?_⟩))
          · rw [hV]
            simp [gE a7, gE a8, sE a8, rp, i0, r8, es]
          · rw [List.map_append, List.map_append, List.map_singleton, List.map_singleton, q2]
            exact k1.append_right _
          · rcases List.mem_append.mp hu with hu | hu
            · exact k2 u hu
            · simp at hu; rw [hu]; exact q1
      · obtain ⟨t8, st6, E, rfl, a6, k1, k2⟩ := he
        have k1 : (E.map (·.target)).Sublist N := p1 ▸ k1
        have el : E.length ≤ 3 := by
          have := k1.length_le
          simp at this
          omega
        -- behind the entries
        have cont : ∀ t8 t9 t10 t11 t12 t13 t14 t15 t16 t17 st8 E', At (BB + 50) rest st8 → EntsOk N (FD.map (·.1)) E' → SW (evSs cs (run cs fns (n + 8)) (.cons (.sub (.var 4) (.var 6) (.tup (.cons (.bi .tuple (.cons (.var 7) (.nil))) (.cons (.call 28 (.cons (.var 0) (.cons (.var 7) (.nil)))) (.nil))))) (.cons (.set 5 (.var 6)) (.nil))) ⟨V inn (some (.str t)) (some (.own J)) t8 t9 t10 t11 t12 t13 t14 t15 t16 t17, st8 ++ (pre3 ++ [.lst (E'.map Ent.d)])⟩)
            (fun e2 => ∃ m', m' < Rs.length ∧ ∃ inn t6 t7 t8 t9 t10 t11 t12 t13 t14 t15 t16 t17 st0 Rs FD gb, e2 = ⟨V inn t6 t7 t8 t9 t10 t11 t12 t13 t14 t15 t16 t17, st0 ++ (.lst (Rs.map .str) :: .dic (cdic FD) :: gb)⟩ ∧ At (B + 40 + 100 * FD.length) rest st0 ∧ (Rs ++ FD.map (·.1)).Perm S ∧ m' = Rs.length ∧ gb.all (ptrO 0) = true ∧ ((FD = [] ∧ inn = Str.ofString "") ∨ inn ∈ FD.map (·.1)) ∧
              (∀ p ∈ FD, p.2.2.Nodup ∧ ∀ t ∈ p.2.2, t ∈ p.2.1.map (·.target)) ∧ ∀ p x q, FD = p ++ x :: q → EntsOk N (p.map (·.1)) x.2.1)
            (fun d e => ∃ d' more st', e.st = st' ++ more ∧ At (B + 1000) rest st' ∧ give st.length e d = some d' ∧ ptr st.length d' = true ∧ ∃ ps ss, Setl ps ss ∧ ss.length = 4 ∧ d' = hallD ps ss) := fun t8 t9 t10 t11 t12 t13 t14 t15 t16 t17 st8 E' a8 hE => by
          obtain ⟨row, st9', w1, w2, a9', r9⟩ := any_row_own P (n + 5) (by omega) (a8.more (pre3 ++ [.lst (E'.map Ent.d)])) (rest_more hr (clE E')) hE.six hE.nd (j := J) (gE a8 _)
          obtain ⟨st9, a9, e9⟩ := a9'.split
          subst e9
          have pu := cdic_put (E := E') (r := row) tn
          have sz : (cdic FD).length < sizeLine := szl' (by rw [cdic, List.length_map]; omega)
          have l8 := lenL a8
          have l9 := lenL a9
          have gi : (st9 ++ (pre3 ++ [.lst (E'.map Ent.d)]))[L + 1]? = some (.dic (cdic FD)) := get_in l9 (by rw [hp3]; rfl)
          have si : ∀ o : Own, (st9 ++ (pre3 ++ [Own.lst (E'.map Ent.d)])).set (L + 1) o = st9 ++ (Own.lst (R2.map D.str) :: o :: (gb ++ [Own.lst (E'.map Ent.d)])) := fun o => by
            rw [set_in l9 (by rw [hp3]; simp), hp3]; rfl
          refine SW.nx (e' := ⟨V inn (some (.str t)) (some (.own J)) t8 t9 t10 t11 t12 t13 t14 t15 t16 t17, st9 ++ (.lst (R2.map .str) :: .dic (cdic (FD ++ [(t, E', row)])) :: (gb ++ [.lst (E'.map Ent.d)]))⟩) ?_ ?_
          · have te : D.tup (E'.map Ent.d) = entsD E' := rfl
            rw [hV]
            simp [gE a8, r9, gi, si, sz, te, pu]
          refine SW.nx (e' := ⟨V t (some (.str t)) (some (.own J)) t8 t9 t10 t11 t12 t13 t14 t15 t16 t17, st9 ++ (.lst (R2.map .str) :: .dic (cdic (FD ++ [(t, E', row)])) :: (gb ++ [.lst (E'.map Ent.d)]))⟩) (by rw [hV]; simp) (SW.nil ?_)
          refine ⟨R2.length, by omega, t, _, _, _, _, _, _, _, _, _, _, _, _, st9, R2, FD ++ [(t, E', row)], gb ++ [.lst (E'.map Ent.d)], rfl, a9.mono (by simp; omega), ?_, rfl, ?_, .inr (by simp), fun p hp => ?_, fun p x q e => ?_⟩
          · rw [List.map_append, List.map_singleton]
            exact (List.Perm.append_left _ List.perm_append_comm).trans perm2
          · rw [List.all_append, j2]
            show (true && (ptrs 0 (E'.map Ent.d) && true)) = true
            rw [ents_ptr0]; rfl
          · rcases List.mem_append.mp hp with z | z
            · exact j4 p z
            · simp at z; rw [z]; exact ⟨w1, w2⟩
          · rcases List.append_eq_append_iff.mp e with ⟨c, e1, e2⟩ | ⟨c, e1, e2⟩
            · cases c with
              | nil =>
                simp at e2 e1
                rw [e1, ← e2.1]
                exact hE
              | cons z c => simp at e2
            · cases c with
              | nil =>
                simp at e2 e1
                rw [← e1, e2.1]
                exact hE
              | cons z c =>
                simp at e2
                exact j5 p x c (by rw [e1, e2.1])
        have Nmem : ∀ e ∈ E, e.target ∈ N := fun e he => k1.subset (List.mem_map.mpr ⟨e, he, rfl⟩)
        rcases j3 with ⟨hF, hi⟩ | hin
        · rw [decide_eq_true hi] at dInn
          refine SW.condF (e1 := ⟨V inn (some (.str t)) (some (.own J)) t8 t9 t10 t11 t12 t13 t14 t15 t16 t17, st6 ++ (pre3 ++ [.lst (E.map Ent.d)])⟩) (by rw [hV]; simp [dInn, lit_emp]) (SW.nil ?_)
          refine cont _ _ _ _ _ _ _ _ _ _ st6 E (a6.mono (by omega)) ⟨by omega, ndN.sublist k1, fun e he => ⟨k2 e he, List.mem_append_left _ (Nmem e he), fun z => by rw [hF] at z; cases z⟩⟩
        · have ine : inn ≠ Str.ofString "" := nm_ne (nmS _ (fdS _ hin))
          rw [decide_eq_false ine] at dInn
          refine SW.condT (e1 := ⟨V inn (some (.str t)) (some (.own J)) t8 t9 t10 t11 t12 t13 t14 t15 t16 t17, st6 ++ (pre3 ++ [.lst (E.map Ent.d)])⟩) (by rw [hV]; simp [dInn, lit_emp]) ?_
          obtain ⟨e0, st7, q1, q2, q3, a7, r7⟩ := entry_okM P (n + 5) (by omega) a6 (pre3 ++ [.lst (E.map Ent.d)]) hr (clE E) (nmS _ (fdS _ hin)) (b := true)
          have ed : e0.d = .tup [.tup [.str e0.target, ws e0.asked, .str (mode e0.edge), .bl e0.once, .bl e0.alone], .bl e0.on, ws e0.fresh] := rfl
          refine SW.nx (e' := ⟨V inn (some (.str t)) (some (.own J)) t8 t9 t10 (some (.bl e0.on)) (some (ws e0.fresh)) (some (.str e0.target)) (some (ws e0.asked)) (some (.str (mode e0.edge))) (some (.bl e0.once)) (some (.bl e0.alone)), st7 ++ (pre3 ++ [.lst (E.map Ent.d)])⟩) (by rw [hV]; simp [r7, ed]) ?_
          have C1 : ∃ (b1 : Bool) (st8 : List Own), At (BB + 10 * ps.length + 9 + 1) rest st8 ∧ evS cs (run cs fns (n + 8)) (.set 9 (.or (.var 11) (.cons (.cmp .gt (.call 23 (.cons (.var 0) (.cons (.int 3) (.nil)))) (.int 0)) (.nil)))) ⟨V inn (some (.str t)) (some (.own J)) t8 t9 t10 (some (.bl e0.on)) (some (ws e0.fresh)) (some (.str e0.target)) (some (ws e0.asked)) (some (.str (mode e0.edge))) (some (.bl e0.once)) (some (.bl e0.alone)), st7 ++ (pre3 ++ [.lst (E.map Ent.d)])⟩ = .nx ⟨V inn (some (.str t)) (some (.own J)) t8 (some (.bl b1)) t10 (some (.bl e0.on)) (some (ws e0.fresh)) (some (.str e0.target)) (some (ws e0.asked)) (some (.str (mode e0.edge))) (some (.bl e0.once)) (some (.bl e0.alone)), st8 ++ (pre3 ++ [.lst (E.map Ent.d)])⟩ := by
            cases hon : e0.on with
            | true => exact ⟨true, st7, a7.mono (by omega), by rw [hV]; simp⟩
            | false =>
              obtain ⟨u, st8, u0, u1, a8, r8⟩ := a7.drawM P (n + 6) (by omega) (pre3 ++ [.lst (E.map Ent.d)]) hr (clE E) (m := 3) (by omega) (by omega)
              exact ⟨decide (0 < u), st8, a8, by rw [hV]; simp [r8]⟩
          obtain ⟨b1, st8, a8, hc1⟩ := C1
          refine SW.nx hc1 ?_
          have C2 : ∃ (b2 : Bool) (st9 : List Own), At (BB + 10 * ps.length + 9 + 2) rest st9 ∧ evS cs (run cs fns (n + 8)) (.set 10 (.tup (.cons (.tup (.cons (.var 13) (.cons (.var 14) (.cons (.var 15) (.cons (.and (.var 16) (.cons (.cmp .eq (.call 23 (.cons (.var 0) (.cons (.int 2) (.nil)))) (.int 0)) (.nil))) (.cons (.var 17) (.nil))))))) (.cons (.var 9) (.cons (.var 12) (.nil)))))) ⟨V inn (some (.str t)) (some (.own J)) t8 (some (.bl b1)) t10 (some (.bl e0.on)) (some (ws e0.fresh)) (some (.str e0.target)) (some (ws e0.asked)) (some (.str (mode e0.edge))) (some (.bl e0.once)) (some (.bl e0.alone)), st8 ++ (pre3 ++ [.lst (E.map Ent.d)])⟩ = .nx ⟨V inn (some (.str t)) (some (.own J)) t8 (some (.bl b1)) (some ({ e0 with once := b2, on := b1 } : Ent).d) (some (.bl e0.on)) (some (ws e0.fresh)) (some (.str e0.target)) (some (ws e0.asked)) (some (.str (mode e0.edge))) (some (.bl e0.once)) (some (.bl e0.alone)), st9 ++ (pre3 ++ [.lst (E.map Ent.d)])⟩ := by
            have dd : ∀ b2 : Bool, ({ e0 with once := b2, on := b1 } : Ent).d = .tup [.tup [.str e0.target, ws e0.asked, .str (mode e0.edge), .bl b2, .bl e0.alone], .bl b1, ws e0.fresh] := fun _ => rfl
            cases hon : e0.once with
            | false => exact ⟨false, st8, a8.mono (by omega), by rw [hV, dd]; simp⟩
            | true =>
              obtain ⟨u, st9, u0, u1, a9, r9⟩ := a8.drawM P (n + 6) (by omega) (pre3 ++ [.lst (E.map Ent.d)]) hr (clE E) (m := 2) (by omega) (by omega)
              have d3 := deq_int (x := u) (y := 0)
              exact ⟨decide (u = 0), st9, a9.mono (by omega), by rw [hV, dd]; simp [r9, d3]⟩
          obtain ⟨b2, st9, a9, hc2⟩ := C2
          refine SW.nx hc2 ?_
          obtain ⟨e1, he1⟩ : ∃ e1 : Ent, e1 = { e0 with once := b2, on := b1 } := ⟨_, rfl⟩
          rw [← he1]
          have e1ok : EntOk e1 := by rw [he1]; exact ⟨q1.nm, q1.asked, q1.some, q1.fresh, q1.edge⟩
          have e1t : e1.target = inn := by rw [he1]; exact q2
          have e1a : e1.asked = [sIn] := by rw [he1]; exact q3 rfl
          obtain ⟨u, st10, u0, u1, a10, r10⟩ := a9.drawM P (n + 6) (by omega) (pre3 ++ [.lst (E.map Ent.d)]) hr (clE E) (m := E.length + 1) (by omega) (by omega)
          obtain ⟨u, rfl⟩ := Int.eq_ofNat_of_zero_le u0
          have es : E.length < sizeLine := szl' (by omega)
          have u9 : (u : Int) < 9223372036854775808 := by omega
          have ip := insert_perm E u e1
          refine SW.nx (e' := ⟨V inn (some (.str t)) (some (.own J)) t8 (some (.bl b1)) (some e1.d) (some (.bl e0.on)) (some (ws e0.fresh)) (some (.str e0.target)) (some (ws e0.asked)) (some (.str (mode e0.edge))) (some (.bl e0.once)) (some (.bl e0.alone)), st10 ++ (pre3 ++ [.lst ((E.take u ++ [e1] ++ E.drop u).map Ent.d)])⟩) ?_ (SW.nil ?_)
          · rw [hV]
            simp [gE a9, gE a10, sE a10, r10, es, u9]
          refine cont _ _ _ _ _ _ _ _ _ _ st10 _ (a10.mono (by omega)) ⟨by rw [ip.length_eq]; simp; omega, ?_, fun e he => ?_⟩
          · have np : ((E.take u ++ [e1] ++ E.drop u).map (·.target)).Perm (E.map (·.target) ++ [inn]) := by
              have := ip.map (·.target)
              simp only [List.map_append, List.map_cons, List.map_nil, e1t] at this ⊢
              exact this
            rw [np.nodup_iff, List.nodup_append]
            refine ⟨ndN.sublist k1, by simp, fun a ha b hb eq => ?_⟩
            simp at hb
            subst hb
            subst eq
            exact apart _ (k1.subset ha) (fdS _ hin)
          · rcases List.mem_append.mp (ip.mem_iff.mp he) with z | z
            · exact ⟨k2 e z, List.mem_append_left _ (Nmem e z), fun q => absurd (fdS _ q) (apart _ (Nmem e z))⟩
            · simp at z
              subst z
              exact ⟨e1ok, by rw [e1t]; exact List.mem_append_right _ hin, fun _ => e1a⟩
  obtain ⟨d, st', e1, e2, ps, ss, e3, e4, e5⟩ := key
  exact ⟨ps, ss, st', e3, e4, e2, by rw [← e5]; exact e1⟩
end Mi.A
end

section
set_option Elab.async false
set_option linter.all false
set_option maxRecDepth 100000
set_option maxHeartbeats 1000000
/-! L10: the law k10 itself. -/
namespace Mi.A
open PySem L2
variable {fns : List Fn}
theorem lim_rows {ps : List Pipe} {ss : List SetT} {s : SetT} (hs : SetOk s) {m : Nat} : Lim 4000 3 (toPy (rowsT (tellRows ps ss s m))) := by
  refine (lim_map (f := rowD) (n := 607) (k := 2) (m := 6) (fun p hp => ?_) ?_).mono (by omega) (by omega)
  · unfold tellRows at hp
    obtain ⟨t, ht, rfl⟩ := List.mem_map.mp hp
    have ea := entAt_ok (hs.rt t (List.mem_of_mem_take ht))
    refine (lim_tup (n := 300) (k := 1) (m := 2) (xs := [.str t, toPy (ws _)]) (fun x hx => ?_) (by simp)).mono (by omega) (by omega)
    simp only [List.mem_cons, List.not_mem_nil, or_false] at hx
    rcases hx with rfl | rfl
    · exact (lim_nm (ea.2.1 ▸ (hs.ents _ ea.1).nm)).mono (by omega) (by omega)
    · refine (lim_ws (m := 3) (fun x hx => ?_) ?_).mono (by omega) (by omega)
      · exact lim_word (soR_sub.2 x (List.mem_filter.mp hx).1)
      · exact Nat.le_trans (List.length_filter_le _ _) soR_sub.1
  · unfold tellRows
    rw [List.length_map, List.length_take]
    have := hs.r6
    omega
/-- what a telling is -/
def tellD (ps : List Pipe) (ss : List SetT) (s : SetT) (m : Nat) (R : Str → List Str) : D := .tup [rowsT (tellRows ps ss s m), hallD ps ((ss.map (turnAt s.name m)).map (·.w R))]
theorem lim_tell {ps : List Pipe} {ss : List SetT} (h : WebOk ps ss) {s : SetT} (hs : s ∈ ss) {m : Nat} {R : Str → List Str} (hR : Settles ps (ss.map (turnAt s.name m)) R) : Lim 2520007 8 (toPy (tellD ps ss s m R)) := by
  refine (lim_tup (n := 1260000) (k := 7) (m := 2) (xs := [toPy (rowsT _), toPy (hallD _ _)]) (fun x hx => ?_) (by simp)).mono (by omega) (by omega)
  simp only [List.mem_cons, List.not_mem_nil, or_false] at hx
  rcases hx with rfl | rfl
  · exact (lim_rows (h.sok s hs)).mono (by omega) (by omega)
  · exact lim_hall (web_settled (web_turn h s.name m) hR).hall
def flaw10 : Fn := ⟨1, 9, .pure, .cons (.set 1 (.call 22 (.cons (.var 0) (.nil)))) (.cons (.fr (.nm 2) (.range (.int 3)) (.cons (.set 3 (.call 42 (.cons (.var 1) (.nil)))) (.cons (.fr (.nm 4) (.seq (.ix (.var 3) (.int 1))) (.cons (.par [7, 8] (.cons (.ix (.var 4) (.int 0)) (.cons (.bin .add (.int 1) (.call 23 (.cons (.var 1) (.cons (.int 6) (.nil))))) (.nil)))) (.cons (.set 5 (.lst (.cons (.call 41 (.cons (.var 3) (.cons (.var 7) (.cons (.int 6) (.nil))))) (.cons (.call 41 (.cons (.var 3) (.cons (.var 7) (.cons (.int 1) (.nil))))) (.cons (.call 41 (.cons (.var 3) (.cons (.var 7) (.cons (.var 8) (.nil))))) (.nil)))))) (.cons (.set 6 (.lst (.cons (.call 43 (.cons (.var 3) (.cons (.var 7) (.cons (.int 6) (.nil))))) (.cons (.call 43 (.cons (.var 3) (.cons (.var 7) (.cons (.int 1) (.nil))))) (.cons (.call 43 (.cons (.var 3) (.cons (.var 7) (.cons (.var 8) (.nil))))) (.nil)))))) (.cons (.cond (.cmp .ne (.bi .repr (.cons (.var 5) (.nil))) (.bi .repr (.cons (.var 6) (.nil)))) (.cons (.ret (.bl false)) (.nil)) (.nil)) (.nil)))))) (.nil)))) (.cons (.ret (.bl true)) (.nil)))⟩
theorem law10_ok (P : HasW fns) (T : HasT fns) (h42 : fns[42]? = some f_law_hall) (h43 : fns[43]? = some f_law_told) (hl : fns[54]? = some flaw10) (n : Nat) {script : List Int} (h63 : script.length ≤ 63) : run cs fns (n + 9 + 1) 54 [.lst (script.map .int)] [] = .ok (.bl true) [] := by
  refine run_pureW hl rfl rfl (by simp [ptrs, ptr, ptr_ints]) ?_ rfl
  obtain ⟨s0, hs0, r0⟩ := begin_ok P.toHas (n := n + 8) h63
  obtain ⟨V, hV⟩ : ∃ V : Option D → Option D → Option D → Option D → Option D → Option D → Option D → List (Option D), V = fun a b c d f g k => [some (.lst (script.map .int)), some (.own 1), a, b, c, d, f, g, k] := ⟨_, rfl⟩
  simp only [flaw10]
  refine SW.nx (e' := ⟨V none none none none none none none, s0⟩) (by rw [hV]; simp [r0]) ?_
  refine SW.fr (dx := fun k : Nat => D.int k) (xs := List.range 3) (e0 := ⟨V none none none none none none none, s0⟩) (fun pre e => ∃ a b c d f g k st, e = ⟨V a b c d f g k, st⟩ ∧ At (1010 * pre.length) [] st)
    (evI_range_nat (m := 3) (by simp) (by omega)) ⟨_, _, _, _, _, _, _, s0, rfl, s0, hs0, by simp⟩ (fun pre k post e hk he => ?_) fun e he => ?_
  · obtain ⟨a, b, c, d, f, g, q, st, rfl, ha⟩ := he
    have hp := pre_len hk
    refine ⟨⟨V (some (.int k)) b c d f g q, st⟩, by rw [hV]; simp, ?_⟩
    obtain ⟨ps, ss, st1, hw, ha1, r1⟩ := law_hall_ok P h42 n (by omega) ha rfl
    have i1 : Mi.ix (hallD ps ss) (.int 1) = some (setsD ss) := rfl
    have rh : ∀ e, res e (hallD ps ss) = some (hallD ps ss) := fun _ => rfl
    refine SW.nx (e' := ⟨V (some (.int k)) (some (hallD ps ss)) c d f g q, st1⟩) (by rw [hV]; simp [r1]) ?_
    refine SW.fr (dx := SetT.d) (xs := ss) (e0 := ⟨V (some (.int k)) (some (hallD ps ss)) c d f g q, st1⟩)
      (fun pre2 e => ∃ c d f g q st, e = ⟨V (some (.int k)) (some (hallD ps ss)) c d f g q, st⟩ ∧ At (1010 * pre.length + 1000 + pre2.length) [] st) (by rw [hV]; simp [rh, i1, setsD, srcOf, itemsOf]) ⟨_, _, _, _, _, st1, rfl, ha1⟩ (fun pre2 s post2 e hk2 he => ?_) fun e he => ?_
    · obtain ⟨c, d, f, g, q, st2, rfl, ha2⟩ := he
      have hs : s ∈ ss := by rw [hk2]; simp
      have p4 : pre2.length < 4 := by
        have := congrArg List.length hk2
        have := hw.web.s4
        simp at *
        omega
      refine ⟨⟨V (some (.int k)) (some (hallD ps ss)) (some s.d) d f g q, st2⟩, by rw [hV]; simp, ?_⟩
      obtain ⟨v, st3, v0, v1, ha3, r3⟩ := ha2.draw P.toHas (n + 7) (by omega) rfl (m := 6) (by omega) (by omega)
      obtain ⟨v, rfl⟩ := Int.eq_ofNat_of_zero_le v0
      have ev : (1 : Int) + (v : Int) = ((1 + v : Nat) : Int) := by omega
      have i0 : Mi.ix s.d (.int 0) = some (.str s.name) := rfl
      have rs : ∀ e, res e s.d = some s.d := fun _ => rfl
      refine SW.nx (e' := ⟨V (some (.int k)) (some (hallD ps ss)) (some s.d) d f (some (.str s.name)) (some (.int ((1 + v : Nat) : Int))), st3⟩) (by rw [hV, ← ev]; simp [rs, i0, r3]) ?_
      obtain ⟨R6, q6, t6⟩ := telling_ok T (n := n) hw hs (m := 6) (by omega) (by omega)
      obtain ⟨R1, q1, t1⟩ := telling_ok T (n := n) hw hs (m := 1) (by omega) (by omega)
      obtain ⟨Rm, qm, tm⟩ := telling_ok T (n := n) hw hs (m := 1 + v) (by omega) (by omega)
      have l6 := fun st => law_told_ok P.toHas h43 (n := n) hw.web hs (m := 6) q6 (st := st)
      have l1 := fun st => law_told_ok P.toHas h43 (n := n) hw.web hs (m := 1) q1 (st := st)
      have lm := fun st => law_told_ok P.toHas h43 (n := n) hw.web hs (m := 1 + v) qm (st := st)
      have b6 := lim_tell hw.web hs q6
      have b1 := lim_tell hw.web hs q1
      have bm := lim_tell hw.web hs qm
      obtain ⟨A6, hA6⟩ : ∃ A, A = tellD ps ss s 6 R6 := ⟨_, rfl⟩
      obtain ⟨A1, hA1⟩ : ∃ A, A = tellD ps ss s 1 R1 := ⟨_, rfl⟩
      obtain ⟨Am, hAm⟩ : ∃ A, A = tellD ps ss s (1 + v) Rm := ⟨_, rfl⟩
      have e6 : (D.tup [rowsT (tellRows ps ss s 6), hallD ps ((ss.map (turnAt s.name 6)).map (·.w R6))]) = A6 := hA6.symm
      have e1 : (D.tup [rowsT (tellRows ps ss s 1), hallD ps ((ss.map (turnAt s.name 1)).map (·.w R1))]) = A1 := hA1.symm
      have em : (D.tup [rowsT (tellRows ps ss s (1 + v)), hallD ps ((ss.map (turnAt s.name (1 + v))).map (·.w Rm))]) = Am := hAm.symm
      rw [e6] at t6 l6
      rw [e1] at t1 l1
      rw [em] at tm lm
      rw [← hA6] at b6
      rw [← hA1] at b1
      rw [← hAm] at bm
      have c6 : ((6 : Nat) : Int) = 6 := rfl
      have c1 : ((1 : Nat) : Int) = 1 := rfl
      rw [c6] at t6 l6
      rw [c1] at t1 l1
      generalize ((1 + v : Nat) : Int) = mv at *
      have lim : Lim 7560030 9 (toPy (.lst [A6, A1, Am])) := by
        refine (lim_lst (n := 2520007) (k := 8) (m := 3) (xs := [toPy A6, toPy A1, toPy Am]) (fun x hx => ?_) (by simp)).mono (by omega) (by omega)
        simp only [List.mem_cons, List.not_mem_nil, or_false] at hx
        rcases hx with rfl | rfl | rfl
        · exact b6
        · exact b1
        · exact bm
      have rp := repr_lst lim (by omega) (by omega)
      have dq := deq_self lim.pl.ok
      refine SW.nx (e' := ⟨V (some (.int k)) (some (hallD ps ss)) (some s.d) (some (.lst [A6, A1, Am])) f (some (.str s.name)) (some (.int mv)), st3⟩) (by rw [hV]; simp [t6, t1, tm]) ?_
      refine SW.nx (e' := ⟨V (some (.int k)) (some (hallD ps ss)) (some s.d) (some (.lst [A6, A1, Am])) (some (.lst [A6, A1, Am])) (some (.str s.name)) (some (.int mv)), st3⟩) (by rw [hV]; simp [l6, l1, lm]) ?_
      refine SW.nx (e' := ⟨V (some (.int k)) (some (hallD ps ss)) (some s.d) (some (.lst [A6, A1, Am])) (some (.lst [A6, A1, Am])) (some (.str s.name)) (some (.int mv)), st3⟩) (by rw [hV]; simp [rp, dq]) (SW.nil ⟨_, _, _, _, _, st3, rfl, ha3.mono (by simp; omega)⟩)
    · obtain ⟨c, d, f, g, q, st2, rfl, ha2⟩ := he
      have := hw.web.s4
      exact SW.nil ⟨_, _, _, _, _, _, _, st2, rfl, ha2.mono (by simp; omega)⟩
  · obtain ⟨a, b, c, d, f, g, q, st, rfl, ha⟩ := he
    exact SW.rt (d := .bl true) (e' := ⟨V a b c d f g q, st⟩) (by simp) rfl
end Mi.A
end

section
set_option Elab.async false
set_option linter.all false
set_option maxRecDepth 100000
set_option maxHeartbeats 1000000
/-! L13: the law k13 itself. -/
namespace Mi.A
open PySem L2
variable {fns : List Fn}
def flaw13 : Fn := ⟨1, 8, .pure, .cons (.set 1 (.call 22 (.cons (.var 0) (.nil)))) (.cons (.fr (.nm 2) (.range (.int 2)) (.cons (.set 3 (.call 44 (.cons (.var 1) (.nil)))) (.cons (.fr (.nm 4) (.range (.int 10)) (.cons (.set 5 (.ix (.ix (.ix (.var 3) (.int 1)) (.call 23 (.cons (.var 1) (.cons (.int 4) (.nil))))) (.int 0))) (.cons (.set 6 (.bin .add (.int 1) (.call 23 (.cons (.var 1) (.cons (.int 3) (.nil)))))) (.cons (.set 7 (.call 41 (.cons (.var 3) (.cons (.var 5) (.cons (.var 6) (.nil)))))) (.cons (.cond (.cmp .ne (.bi .repr (.cons (.var 7) (.nil))) (.bi .repr (.cons (.call 43 (.cons (.var 3) (.cons (.var 5) (.cons (.var 6) (.nil))))) (.nil)))) (.cons (.ret (.bl false)) (.nil)) (.nil)) (.cons (.set 3 (.ix (.var 7) (.int 1))) (.nil))))))) (.nil)))) (.cons (.ret (.bl true)) (.nil)))⟩
theorem law13_ok (P : Has fns) (T : HasT fns) (h44 : fns[44]? = some f_law_chain) (h43 : fns[43]? = some f_law_told) (hl : fns[54]? = some flaw13) (n : Nat) {script : List Int} (h63 : script.length ≤ 63) : run cs fns (n + 9 + 1) 54 [.lst (script.map .int)] [] = .ok (.bl true) [] := by
  refine run_pureW hl rfl rfl (by simp [ptrs, ptr, ptr_ints]) ?_ rfl
  obtain ⟨s0, hs0, r0⟩ := begin_ok P (n := n + 8) h63
  obtain ⟨V, hV⟩ : ∃ V : Option D → Option D → Option D → Option D → Option D → Option D → List (Option D), V = fun a b c d f g => [some (.lst (script.map .int)), some (.own 1), a, b, c, d, f, g] := ⟨_, rfl⟩
  simp only [flaw13]
  refine SW.nx (e' := ⟨V none none none none none none, s0⟩) (by rw [hV]; simp [r0]) ?_
  refine SW.fr (dx := fun k : Nat => D.int k) (xs := List.range 2) (e0 := ⟨V none none none none none none, s0⟩) (fun pre e => ∃ a b c d f g st, e = ⟨V a b c d f g, st⟩ ∧ At (1030 * pre.length) [] st)
    (evI_range_nat (m := 2) (by simp) (by omega)) ⟨_, _, _, _, _, _, s0, rfl, s0, hs0, by simp⟩ (fun pre k post e hk he => ?_) fun e he => ?_
  · obtain ⟨a, b, c, d, f, g, st, rfl, ha⟩ := he
    have hp := pre_len hk
    refine ⟨⟨V (some (.int k)) b c d f g, st⟩, by rw [hV]; simp, ?_⟩
    obtain ⟨ps, ss, st1, hw, h4, ha1, r1⟩ := chain_ok P h44 n (by omega) ha rfl
    refine SW.nx (e' := ⟨V (some (.int k)) (some (hallD ps ss)) c d f g, st1⟩) (by rw [hV]; simp [r1]) ?_
    refine SW.fr (dx := fun k : Nat => D.int k) (xs := List.range 10) (e0 := ⟨V (some (.int k)) (some (hallD ps ss)) c d f g, st1⟩)
      (fun pre2 e => ∃ c d f g st ss, e = ⟨V (some (.int k)) (some (hallD ps ss)) c d f g, st⟩ ∧ At (1030 * pre.length + 1000 + 2 * pre2.length) [] st ∧ Setl ps ss ∧ ss.length = 4) (evI_range_nat (m := 10) (by simp) (by omega)) ⟨_, _, _, _, st1, ss, rfl, ha1, hw, h4⟩ (fun pre2 k2 post2 e hk2 he => ?_) fun e he => ?_
    · obtain ⟨c, d, f, g, st2, ss, rfl, ha2, hw, h4⟩ := he
      have p10 := pre_len hk2
      refine ⟨⟨V (some (.int k)) (some (hallD ps ss)) (some (.int k2)) d f g, st2⟩, by rw [hV]; simp, ?_⟩
      obtain ⟨u, st3, u0, u1, ha3, r3⟩ := ha2.draw P (n + 7) (by omega) rfl (m := 4) (by omega) (by omega)
      obtain ⟨u, rfl⟩ := Int.eq_ofNat_of_zero_le u0
      have hu : u < ss.length := by omega
      obtain ⟨s, hsd⟩ : ∃ s, s = ss[u] := ⟨_, rfl⟩
      have hs : s ∈ ss := by rw [hsd]; exact List.getElem_mem _
      have ga : atI (ss.map SetT.d) (u : Int) = some s.d := by
        rw [atI_nat, List.getElem?_map, List.getElem?_eq_getElem hu, hsd]; rfl
      have i1 : Mi.ix (hallD ps ss) (.int 1) = some (setsD ss) := rfl
      have rh : ∀ e, res e (hallD ps ss) = some (hallD ps ss) := fun _ => rfl
      have i2 : Mi.ix (setsD ss) (.int u) = some s.d := ga
      have rst : ∀ e, res e (setsD ss) = some (setsD ss) := fun _ => rfl
      have i0 : Mi.ix s.d (.int 0) = some (.str s.name) := rfl
      have rs : ∀ e, res e s.d = some s.d := fun _ => rfl
      refine SW.nx (e' := ⟨V (some (.int k)) (some (hallD ps ss)) (some (.int k2)) (some (.str s.name)) f g, st3⟩) (by rw [hV]; simp [rh, i1, r3, rst, i2, rs, i0]) ?_
      obtain ⟨v, st4, v0, v1, ha4, r4⟩ := ha3.draw P (n + 7) (by omega) rfl (m := 3) (by omega) (by omega)
      obtain ⟨v, rfl⟩ := Int.eq_ofNat_of_zero_le v0
      have ev : (1 : Int) + (v : Int) = ((1 + v : Nat) : Int) := by omega
      refine SW.nx (e' := ⟨V (some (.int k)) (some (hallD ps ss)) (some (.int k2)) (some (.str s.name)) (some (.int ((1 + v : Nat) : Int))) g, st4⟩) (by rw [hV, ← ev]; simp [r4]) ?_
      obtain ⟨R, q, t⟩ := telling_ok T (n := n) hw hs (m := 1 + v) (by omega) (by omega)
      have l := fun st => law_told_ok P h43 (n := n) hw.web hs (m := 1 + v) q (st := st)
      have bm := lim_tell hw.web hs q
      obtain ⟨A, hA⟩ : ∃ A, A = tellD ps ss s (1 + v) R := ⟨_, rfl⟩
      have em : (D.tup [rowsT (tellRows ps ss s (1 + v)), hallD ps ((ss.map (turnAt s.name (1 + v))).map (·.w R))]) = A := hA.symm
      have ia : Mi.ix A (.int 1) = some (hallD ps ((ss.map (turnAt s.name (1 + v))).map (·.w R))) := by rw [hA]; rfl
      have ra : ∀ e, res e A = some A := fun e => by rw [hA]; rfl
      rw [em] at t l
      rw [← hA] at bm
      have rp : reprD A = some (.str (toPy A).shown) := by
        rw [hA] at bm ⊢
        exact repr_tup bm (by omega) (by omega)
      have dq := deq_self bm.pl.ok
      have hw2 := setl_of (web_turn hw.web s.name (1 + v)) q
      have h42 : ((ss.map (turnAt s.name (1 + v))).map (·.w R)).length = 4 := by rw [List.length_map, List.length_map]; exact h4
      generalize (ss.map (turnAt s.name (1 + v))).map (·.w R) = ss2 at *
      generalize ((1 + v : Nat) : Int) = mv at *
      refine SW.nx (e' := ⟨V (some (.int k)) (some (hallD ps ss)) (some (.int k2)) (some (.str s.name)) (some (.int mv)) (some A), st4⟩) (by rw [hV]; simp [t]) ?_
      refine SW.nx (e' := ⟨V (some (.int k)) (some (hallD ps ss)) (some (.int k2)) (some (.str s.name)) (some (.int mv)) (some A), st4⟩) (by rw [hV]; simp [l, ra, rp, dq]) ?_
      exact SW.nx (e' := ⟨V (some (.int k)) (some (hallD ps ss2)) (some (.int k2)) (some (.str s.name)) (some (.int mv)) (some A), st4⟩) (by rw [hV]; simp [ra, ia]) (SW.nil ⟨_, _, _, _, st4, ss2, rfl, ha4.mono (by simp; omega), hw2, h42⟩)
    · obtain ⟨c, d, f, g, st2, ss, rfl, ha2, _, _⟩ := he
      exact SW.nil ⟨_, _, _, _, _, _, st2, rfl, ha2.mono (by simp; omega)⟩
  · obtain ⟨a, b, c, d, f, g, st, rfl, ha⟩ := he
    exact SW.rt (d := .bl true) (e' := ⟨V a b c d f g, st⟩) (by simp) rfl
end Mi.A
end

section
set_option Elab.async false
set_option linter.all false
set_option maxRecDepth 100000
set_option maxHeartbeats 0
namespace Mi.K13
open PySem L2 PyProof.Rows
open Mi.A (cs glb)
/-! printed by gen2.py of law_k13_sets_within_sets -/
def top (i : Nat) : Stmt := PySem.Challenge.rw_wakehall_k13_sets_within_sets.row.prog.main.body.getD i (.Pass ⟨0, 0, 0, 0⟩)
def d0 : PDef := ⟨"is_number", top 15, ["thing", "least", "most"], ["thing", "least", "most"], A.fis_number, false, []⟩
def d1 : PDef := ⟨"is_name", top 16, ["thing", "letter"], ["thing"], A.fis_name, false, []⟩
def d2 : PDef := ⟨"is_tuple_of", top 17, ["thing", "many"], ["thing", "many"], A.fis_tuple_of, false, []⟩
def d3 : PDef := ⟨"are_up_to", top 18, ["thing", "many"], ["thing", "many"], A.fare_up_to, false, []⟩
def d4 : PDef := ⟨"are_words", top 19, ["thing", "word"], ["thing"], A.fare_words, false, []⟩
def d5 : PDef := ⟨"is_interest", top 20, ["thing", "target", "asked", "mode", "once", "alone"], ["thing"], A.fis_interest, false, []⟩
def d6 : PDef := ⟨"is_entry", top 21, ["thing", "asked", "mode", "word"], ["thing"], A.fis_entry, false, []⟩
def d7 : PDef := ⟨"is_pipe", top 22, ["thing"], ["thing"], A.fis_pipe, false, []⟩
def d8 : PDef := ⟨"are_waiting", top 23, ["thing", "one"], ["thing"], A.fare_waiting, false, []⟩
def d9 : PDef := ⟨"targets_of", top 24, ["one", "entry"], ["one"], A.ftargets_of, false, []⟩
def d10 : PDef := ⟨"is_set", top 25, ["thing", "targets", "row", "target", "entry"], ["thing"], A.fis_set, false, []⟩
def d11 : PDef := ⟨"waiting_at", top 26, ["one", "waiter", "most"], ["one"], A.fwaiting_at, false, []⟩
def d12 : PDef := ⟨"so_words", top 27, ["hall", "name", "pipes", "sets", "own", "room", "held", "shut", "ready", "one", "word"], ["hall", "name"], A.fso_words, false, []⟩
def d13 : PDef := ⟨"due_words", top 28, ["hall", "entry", "ready", "on", "fresh", "target", "asked", "mode", "once", "alone", "word"], ["hall", "entry"], A.fdue_words, false, []⟩
def d14 : PDef := ⟨"due_targets", top 29, ["hall", "one", "entry"], ["hall", "one"], A.fdue_targets, false, []⟩
def d15 : PDef := ⟨"below", top 30, ["sets", "name", "targets", "found", "left", "target", "one"], ["sets", "name"], A.fbelow, false, []⟩
def d16 : PDef := ⟨"has_forms", top 31, ["pipes", "sets", "names", "waiting", "number", "one"], ["pipes", "sets"], A.fhas_forms, false, []⟩
def d17 : PDef := ⟨"need_webs", top 32, ["pipes", "sets", "names", "own", "number", "one", "on", "fresh", "target", "asked", "rest"], ["pipes", "sets"], A.fneed_webs, false, []⟩
def d18 : PDef := ⟨"settled_row", top 36, ["hall", "one", "due", "stays", "target"], ["hall", "one"], A.fsettled_row, false, []⟩
def d19 : PDef := ⟨"own_settled", top 37, ["pipes", "sets", "fresh", "names", "name", "one", "row", "own"], ["pipes", "sets"], A.fown_settled, true, []⟩
def d20 : PDef := ⟨"is_number", top 15, ["thing", "least", "most"], ["thing", "least", "most"], A.fis_number, false, []⟩
def d21 : PDef := ⟨"_law_mixed", top 43, ["_law_cell", "_law_k"], ["_law_cell", "_law_k"], A.f_law_mixed, false, []⟩
def d22 : PDef := ⟨"_law_begin", top 44, ["_law_script", "_law_cells", "_law_cell"], ["_law_script"], A.f_law_begin, false, []⟩
def d23 : PDef := ⟨"_law_draw", top 45, ["_law_state", "_law_many", "_law_at", "_law_place", "_law_left", "_law_number"], ["_law_state", "_law_many"], A.f_law_draw, false, []⟩
def d24 : PDef := ⟨"_law_names", top 46, ["_law_state", "_law_many", "_law_letters", "_law_tail", "_law_firsts", "_law_way", "_law_base", "_law_own", "_law_k", "_law_at", "_law_size", "_law_sign"], ["_law_state", "_law_many"], A.f_law_names, false, []⟩
def d25 : PDef := ⟨"_law_pipe", top 47, ["_law_state", "_law_name", "_law_room", "_law_held"], ["_law_state", "_law_name"], A.f_law_pipe, false, []⟩
def d26 : PDef := ⟨"_law_entry", top 48, ["_law_state", "_law_target", "_law_of_set", "_law_some", "_law_asked", "_law_mode", "_law_interest", "_law_fresh", "_law_word"], ["_law_state", "_law_target", "_law_of_set"], A.f_law_entry, false, []⟩
def d27 : PDef := ⟨"is_number", top 15, ["thing", "least", "most"], ["thing", "least", "most"], A.fis_number, false, []⟩
def d28 : PDef := ⟨"_law_any_row", top 50, ["_law_state", "_law_entries_here", "_law_k", "_law_left", "_law_found", "_law_entry_here"], ["_law_state", "_law_entries_here"], A.f_law_any_row, false, []⟩
def d29 : PDef := ⟨"is_number", top 15, ["thing", "least", "most"], ["thing", "least", "most"], A.fis_number, false, []⟩
def d30 : PDef := ⟨"is_number", top 15, ["thing", "least", "most"], ["thing", "least", "most"], A.fis_number, false, []⟩
def d31 : PDef := ⟨"_law_ready", top 53, ["_law_pipes", "_law_rows", "_law_name", "_law_own", "_law_room", "_law_held", "_law_shut", "_law_some", "_law_word", "_law_is_so"], ["_law_pipes", "_law_rows", "_law_name"], A.f_law_ready, false, []⟩
def d32 : PDef := ⟨"_law_due", top 54, ["_law_pipes", "_law_rows", "_law_entry_here", "_law_on", "_law_fresh", "_law_some", "_law_ready_here", "_law_target", "_law_asked", "_law_mode", "_law_once", "_law_alone", "_law_word"], ["_law_pipes", "_law_rows", "_law_entry_here"], A.f_law_due, false, []⟩
def d33 : PDef := ⟨"_law_row", top 55, ["_law_pipes", "_law_sets", "_law_rows", "_law_name", "_law_one", "_law_names_here", "_law_entry_here", "_law_due_here", "_law_stays", "_law_fresh", "_law_other", "_law_target"], ["_law_pipes", "_law_sets", "_law_rows", "_law_name"], A.f_law_row, false, []⟩
def d34 : PDef := ⟨"_law_settled", top 56, ["_law_pipes", "_law_sets", "_law_rows", "_law_one"], ["_law_pipes", "_law_sets"], A.f_law_settled, false, []⟩
def d35 : PDef := ⟨"is_number", top 15, ["thing", "least", "most"], ["thing", "least", "most"], A.fis_number, false, []⟩
def d36 : PDef := ⟨"need_hall", top 33, ["thing", "number", "one"], ["thing"], A.fneed_hall, false, []⟩
def d37 : PDef := ⟨"row_called", top 34, ["rows", "name", "row"], ["rows", "name"], A.frow_called, false, []⟩
def d38 : PDef := ⟨"told_entry", top 38, ["entry", "interest", "on", "fresh", "target", "asked", "mode", "once", "alone"], ["entry"], A.ftold_entry, false, []⟩
def d39 : PDef := ⟨"told_at", top 39, ["hall", "one", "most", "entries", "telling_rows", "turned", "first", "rest", "entry", "target"], ["hall", "one", "most"], A.ftold_at, false, []⟩
def d40 : PDef := ⟨"own_telling", top 40, ["hall", "name", "most", "pipes", "sets", "telling_rows", "turned", "one"], ["hall", "name", "most"], A.fown_telling, false, []⟩
def d41 : PDef := ⟨"telling", top 41, ["hall", "name", "most", "pipes", "sets"], ["hall", "name", "most"], A.ftelling, false, [("most", .int 6)]⟩
def d42 : PDef := ⟨"is_number", top 15, ["thing", "least", "most"], ["thing", "least", "most"], A.fis_number, false, []⟩
def d43 : PDef := ⟨"_law_told", top 58, ["_law_hall_here", "_law_name", "_law_many", "_law_one", "_law_pipes", "_law_sets", "_law_rows", "_law_found", "_law_behind", "_law_target", "_law_fresh", "_law_entry_here", "_law_first", "_law_entries_here", "_law_ready_here", "_law_is_told", "_law_word"], ["_law_hall_here", "_law_name", "_law_many"], A.f_law_told, false, []⟩
def d44 : PDef := ⟨"_law_chain", top 59, ["_law_state", "_law_names_here", "_law_pipes", "_law_rest", "_law_found", "_law_inner", "_law_name", "_law_entries_here", "_law_pipe_here", "_law_is_on", "_law_own", "_law_on", "_law_fresh", "_law_target", "_law_asked", "_law_mode", "_law_once", "_law_alone"], ["_law_state"], A.f_law_chain, false, []⟩
def d45 : PDef := ⟨"is_number", top 15, ["thing", "least", "most"], ["thing", "least", "most"], A.fis_number, false, []⟩
def d46 : PDef := ⟨"is_number", top 15, ["thing", "least", "most"], ["thing", "least", "most"], A.fis_number, false, []⟩
def d47 : PDef := ⟨"is_number", top 15, ["thing", "least", "most"], ["thing", "least", "most"], A.fis_number, false, []⟩
def d48 : PDef := ⟨"is_number", top 15, ["thing", "least", "most"], ["thing", "least", "most"], A.fis_number, false, []⟩
def d49 : PDef := ⟨"is_number", top 15, ["thing", "least", "most"], ["thing", "least", "most"], A.fis_number, false, []⟩
def d50 : PDef := ⟨"is_number", top 15, ["thing", "least", "most"], ["thing", "least", "most"], A.fis_number, false, []⟩
def d51 : PDef := ⟨"is_number", top 15, ["thing", "least", "most"], ["thing", "least", "most"], A.fis_number, false, []⟩
def d52 : PDef := ⟨"is_number", top 15, ["thing", "least", "most"], ["thing", "least", "most"], A.fis_number, false, []⟩
def d53 : PDef := ⟨"is_number", top 15, ["thing", "least", "most"], ["thing", "least", "most"], A.fis_number, false, []⟩
def d54 : PDef := ⟨"law", top 60, ["_law_script", "_law_state", "_law_turn", "_law_hall_here", "_law_k", "_law_name", "_law_many", "_law_found"], ["_law_script"], ⟨1, 8, .pure, .cons (.set 1 (.call 22 (.cons (.var 0) (.nil)))) (.cons (.fr (.nm 2) (.range (.int 2)) (.cons (.set 3 (.call 44 (.cons (.var 1) (.nil)))) (.cons (.fr (.nm 4) (.range (.int 10)) (.cons (.set 5 (.ix (.ix (.ix (.var 3) (.int 1)) (.call 23 (.cons (.var 1) (.cons (.int 4) (.nil))))) (.int 0))) (.cons (.set 6 (.bin .add (.int 1) (.call 23 (.cons (.var 1) (.cons (.int 3) (.nil)))))) (.cons (.set 7 (.call 41 (.cons (.var 3) (.cons (.var 5) (.cons (.var 6) (.nil)))))) (.cons (.cond (.cmp .ne (.bi .repr (.cons (.var 7) (.nil))) (.bi .repr (.cons (.call 43 (.cons (.var 3) (.cons (.var 5) (.cons (.var 6) (.nil))))) (.nil)))) (.cons (.ret (.bl false)) (.nil)) (.nil)) (.cons (.set 3 (.ix (.var 7) (.int 1))) (.nil))))))) (.nil)))) (.cons (.ret (.bl true)) (.nil)))⟩, false, []⟩
def defs : List PDef := [d0, d1, d2, d3, d4, d5, d6, d7, d8, d9, d10, d11, d12, d13, d14, d15, d16, d17, d18, d19, d20, d21, d22, d23, d24, d25, d26, d27, d28, d29, d30, d31, d32, d33, d34, d35, d36, d37, d38, d39, d40, d41, d42, d43, d44, d45, d46, d47, d48, d49, d50, d51, d52, d53, d54]
def blt : List Str := ["isinstance", "int", "bool", "all", "str", "len", "tuple", "set", "any", "sorted", "list", "enumerate", "min", "range", "dict", "repr"]
def loose0 : List Str := [("__name__" : Str), ("BadHall" : Str), ("BadQuestion" : Str), ("NoSuch" : Str), ("__name__" : Str), ("SMALL" : Str), ("MOST_LETTERS" : Str), ("WORDS" : Str), ("LEVEL" : Str), ("EDGE" : Str)]
def loose1 : List Str := [("MOST_ROOM" : Str), ("MOST_ENTRIES" : Str), ("MOST_WAITERS" : Str), ("MOST_PIPES" : Str), ("MOST_SETS" : Str), ("is_number" : Str), ("is_name" : Str), ("is_tuple_of" : Str), ("are_up_to" : Str), ("are_words" : Str)]
def loose2 : List Str := [("is_interest" : Str), ("is_entry" : Str), ("is_pipe" : Str), ("are_waiting" : Str), ("targets_of" : Str), ("is_set" : Str), ("waiting_at" : Str), ("so_words" : Str), ("due_words" : Str), ("due_targets" : Str)]
def loose3 : List Str := [("below" : Str), ("has_forms" : Str), ("need_webs" : Str), ("need_hall" : Str), ("row_called" : Str), ("__name__" : Str), ("settled_row" : Str), ("own_settled" : Str), ("told_entry" : Str), ("told_at" : Str)]
def loose4 : List Str := [("own_telling" : Str), ("telling" : Str), ("__name__" : Str), ("_law_mixed" : Str), ("_law_begin" : Str), ("_law_draw" : Str), ("_law_names" : Str), ("_law_pipe" : Str), ("_law_entry" : Str), ("_law_entries" : Str)]
def loose5 : List Str := [("_law_any_row" : Str), ("_law_waiting" : Str), ("_law_web" : Str), ("_law_ready" : Str), ("_law_due" : Str), ("_law_row" : Str), ("_law_settled" : Str), ("_law_hall" : Str), ("_law_told" : Str), ("_law_chain" : Str)]
def loose : List Str := loose0 ++ (loose1 ++ (loose2 ++ (loose3 ++ (loose4 ++ (loose5)))))
def fn : List He.DefD := defs.map ddOf
def fa : List He.Fa := (defs.map fun d => .glo d.name) ++ blt.map .free ++ [.str "SMALL" "abcdefghijklmnopqrstuvwxyz", .int "MOST_LETTERS" 8, .glo "WORDS", .str "EDGE" "edge", .str "LEVEL" "level", .int "MOST_ROOM" 9, .int "MOST_ENTRIES" 6, .int "MOST_WAITERS" 6, .int "MOST_PIPES" 4, .int "MOST_SETS" 4]
def tf : List He.Defn := [("own_settled", none)]
def ex (K : PySem.W.Frag) : Bool := He.tupB K "WORDS" [.str "in", .str "out", .str "gone"]
abbrev R : PySem.W.OpenRow := PySem.W.OpenLaw.row PySem.Challenge.rw_wakehall_k13_sets_within_sets
abbrev hk : PySem.W.Hook := He.hookX 4 fa fn [] tf ex
def ob (s : PySem.W.SharedT) : He.AlX := He.obsX 4 fa fn [] tf ex (HandSHeadRun.getT s)
theorem ob_eq (s : PySem.W.SharedT) : ob s = hk.obs s.abs := He.obsX_eq (HandSHeadRun.getT_eq s)
theorem run (w : World) : HandSHeadRun.RunEq R (PySem.W.view R.prog [60]) hk ob 4000 loose w := by
  intro os
  kernel_rfl
def law : PDef := d54
def lawat : Nat := 60
end Mi.K13
end

section
set_option Elab.async false
set_option linter.all false
set_option maxRecDepth 100000
set_option maxHeartbeats 0
namespace Mi.K13
open PySem L2 PyProof.Rows
open Mi.A (cs glb)
theorem okC : defs.all (·.ok glb (fnTab defs) (kwTab defs) blt) = true := by kernel_rfl
theorem okB : ∀ d ∈ defs, d.kw = [] → BindOk d := by
  unfold defs
  repeat' first | exact List.forall_mem_nil _ | refine List.forall_mem_cons.mpr ⟨?_, ?_⟩
  all_goals first
    | (intro z kV doc pm an cdv ct us hl; exact match us, hl with | [_], _ => rfl)
    | (intro z kV doc pm an cdv ct us hl; exact match us, hl with | [_, _], _ => rfl)
    | (intro z kV doc pm an cdv ct us hl; exact match us, hl with | [_, _, _], _ => rfl)
    | (intro z kV doc pm an cdv ct us hl; exact match us, hl with | [_, _, _, _], _ => rfl)
    | (intro z; cases z)
theorem kwB41 {K : PySem.W.Frag} (f : Addr) (fd : FuncData) (F : PFun K d41 f fd) : ∃ n, d41.fn.np = n + d41.kw.length ∧ KwB K fd d41.ps n d41.kw := by
  refine ⟨2, rfl, ⟨?_, ?_⟩⟩
  · obtain ⟨ds, r, b⟩ := FunD.binds0 (ps := d41.ps) F 2 (by simp [d41]) rfl fun D doc pm an cdv ct us ks h1 h2 => match us, ks, h1, h2 with | [_, _], [_], _, _ => ⟨_, _, _, _, _, _, rfl, rfl, rfl⟩
    exact ⟨ds, r, fun s us X hl => b s us X (by
      have := r.length
      show (us ++ ds).length = 3
      rw [List.length_append, hl, ← this]; rfl)⟩
  · obtain ⟨oc, od, dV, kV, doc, pm, an, cdv, ct, osl, rfl, lk, hcd, hD, hK⟩ := F.ex
    intro s us ws X h1 h2
    rcases hD with ⟨_, rfl⟩ | ⟨e, _⟩
    · rcases hK with e | ⟨D, rfl, hq⟩
      · cases e
      · exact .of_eq (match us, ws, h1, h2 with | [_, _], [_], _, _ => rfl)
    · exact absurd rfl e
theorem okK {K : PySem.W.Frag} : ∀ d ∈ defs, d.kw ≠ [] → ∀ f fd, PFun K d f fd → ∃ n, d.fn.np = n + d.kw.length ∧ KwB K fd d.ps n d.kw := by
  unfold defs
  repeat' first | exact List.forall_mem_nil _ | refine List.forall_mem_cons.mpr ⟨?_, ?_⟩
  all_goals intro z
  all_goals first
    | exact absurd rfl z
    | exact kwB41
theorem okL : ∀ d ∈ defs, d.lm = true → d.name = "own_settled" := by
  unfold defs
  repeat' first | exact List.forall_mem_nil _ | refine List.forall_mem_cons.mpr ⟨?_, ?_⟩
  all_goals first | exact fun _ => rfl | (intro z; cases z)
theorem fa1 : ∀ d ∈ defs, He.Fa.glo d.name ∈ fa := fun d hd => by
  unfold fa
  exact List.mem_append_left _ (List.mem_append_left _ (List.mem_map.mpr ⟨d, hd, rfl⟩))
theorem fa2 : ∀ x ∈ blt, He.Fa.free x ∈ fa := fun x hx => by
  unfold fa
  exact List.mem_append_left _ (List.mem_append_right _ (List.mem_map.mpr ⟨x, hx, rfl⟩))
theorem okG {w : World} {K : PySem.W.Frag} {h : Heap} {mg : Str → Option Value} (X : K.In h) (G : h.Ns mainGlobals mg) (c : He.SaysX fa fn [] tf ex w h K) : ∀ (i : Nat) x, glb[i]? = some x → ∃ d, cs[i]? = some d ∧ CstOk K mg x d := by
  have cd : He.SaysD fa fn K := He.SaysT.d c.t
  have z : ∀ f ∈ ([.str "SMALL" "abcdefghijklmnopqrstuvwxyz", .int "MOST_LETTERS" 8, .glo "WORDS", .str "EDGE" "edge", .str "LEVEL" "level", .int "MOST_ROOM" 9, .int "MOST_ENTRIES" 6, .int "MOST_WAITERS" 6, .int "MOST_PIPES" 4, .int "MOST_SETS" 4] : List He.Fa), f ∈ fa := fun f hf => by
    unfold fa
    exact List.mem_append_right _ hf
  intro i x e
  match i, e with
  | 0, e => cases e; exact ⟨_, rfl, cst_str X G cd (z _ (by simp)) (by decide)⟩
  | 1, e => cases e; exact ⟨_, rfl, cst_int X G cd (z _ (by simp))⟩
  | 2, e => cases e; exact ⟨_, rfl, cst_strs (zs := ["in", "out", "gone"]) X G cd (z _ (by simp)) (by decide) c.more⟩
  | 3, e => cases e; exact ⟨_, rfl, cst_str X G cd (z _ (by simp)) (by decide)⟩
  | 4, e => cases e; exact ⟨_, rfl, cst_str X G cd (z _ (by simp)) (by decide)⟩
  | 5, e => cases e; exact ⟨_, rfl, cst_int X G cd (z _ (by simp))⟩
  | 6, e => cases e; exact ⟨_, rfl, cst_int X G cd (z _ (by simp))⟩
  | 7, e => cases e; exact ⟨_, rfl, cst_int X G cd (z _ (by simp))⟩
  | 8, e => cases e; exact ⟨_, rfl, cst_int X G cd (z _ (by simp))⟩
  | 9, e => cases e; exact ⟨_, rfl, cst_int X G cd (z _ (by simp))⟩
  | n + 10, e => cases e
theorem plain (ns : List Int) (hl : ns.length ≤ 63) : Mi.run cs (defs.map (·.fn)) 10 54 [.lst (ns.map .int)] [] = CRes.ok (.bl true) [] := A.law13_ok {} {} rfl rfl rfl 0 hl
end Mi.K13
open PySem PySem.W PySem.Calls PyProof.Rows
theorem PySem.Challenge.cw_wakehall_k13_sets_within_sets_holds : PySem.Challenge.rw_wakehall_k13_sets_within_sets.Holds := by
  w_on; o_law
  refine HandSHeadRun.head_any (r := OpenLaw.row PySem.Challenge.rw_wakehall_k13_sets_within_sets) (q := view (OpenLaw.row PySem.Challenge.rw_wakehall_k13_sets_within_sets).prog [60]) (H := Mi.K13.hk) (ob := Mi.K13.ob) (M := 4000) (loose := Mi.K13.loose) (d := HandSHeadRun.topDef (OpenLaw.row PySem.Challenge.rw_wakehall_k13_sets_within_sets).prog 60) (kwd := []) Mi.K13.ob_eq
    (by kernel_rfl) (fun s => by kernel_rfl) Mi.K13.run (by kernel_rfl) (by kernel_rfl) (by kernel_rfl) (by rfl) (by first | assumption | decide +kernel) (by decide +kernel) ⟨rfl, rfl, rfl, rfl, rfl, by decide +kernel⟩ ?hw ?hc
  case hw => w_witness2
  case hc =>
    refine Mi.walk_ofG (l := PySem.Challenge.rw_wakehall_k13_sets_within_sets) (n := 63) (k := 40) (x := "_law_script") rfl (by decide) (by kernel_rfl) ⟨rfl, by decide, by decide⟩ ?F
    intro w mg fa h Y G hmg0
    obtain ⟨K, KX, c⟩ := Y
    have hmg : mg ("law" : PySem.Str) = some (.ref fa) := by
      have e : (HandSHeadRun.topDef (OpenLaw.row PySem.Challenge.rw_wakehall_k13_sets_within_sets).prog 60).name = ("law" : PySem.Str) := by kernel_rfl
      rw [← e]
      exact hmg0
    exact ⟨K, KX, Mi.at_end (N := 10) (nm := "own_settled") (dl := Mi.K13.law) (i := 54) KX G c Mi.K13.fa1 Mi.K13.fa2 Mi.K13.okC Mi.K13.okB Mi.K13.okK Mi.K13.okL (Mi.K13.okG KX G c) rfl rfl rfl rfl hmg Mi.K13.plain⟩
end
