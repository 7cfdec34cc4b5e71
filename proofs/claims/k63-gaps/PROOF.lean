import PyProof.Rows.All
import Wide.All
import OpenK.AllK
import Wide.FinOn
import HandS.ForExc
import HandS.ForMost
import HandS.Wide
import HandS.More
import HandS.Zip
import HandS.Conv
import HandS.Star
import HandS.TupAny
import HandS.TupMul
import HandS.TupLe
import HandS.Deep
import HandS.IsInst
import HandS.TryMany
import HandS.Lambda
import HandS.HeadHook4
import HandS.EndTab
import KE.SortData
import HandS.Strs
import HandS.SetFor
import HandS.TupSets
import KE.GoesEnum
import HandS.DictComp
import HandS.WordsDict
import KE.KSortedM
import HandS.Flow
import HandS.HeadWalk
import HandS.Head0
import HandS.Head1
import HandS.Head2
import HandS.HeadEnd
import PySem.Challenge.RW_mostsums_k63_whole_gaps_and_corners
set_option Elab.async false
set_option linter.all false
set_option maxRecDepth 100000
set_option maxHeartbeats 0
section
/-! MiniPy: values, store, core syntax, evaluator. -/
namespace MP
open PySem

/-- a value: by-value data, or a mutable cell by its number -/
inductive D where
  | dat (p : PyData)
  | ref (n : Nat)
  /-- the script: never written -/
  | scr (l : List Int)
inductive Cell where
  | lst (l : List D)
  | dic (kvs : List (PyData × D))
  | dead
abbrev Store := List Cell
abbrev Ev := List (Option D)
structure Exc where
  cls : Nat
  arg : Option PyData
inductive Res (α : Type) where
  | ok (a : α) (S : Store)
  | exc (e : Exc) (S : Store)
  | fail
def Res.bind {α β : Type} (r : Res α) (f : α → Store → Res β) : Res β := match r with
  | .ok a S => f a S
  | .exc e S => .exc e S
  | .fail => .fail
def Res.ofO {α : Type} (o : Option α) (S : Store) : Res α := match o with
  | some a => .ok a S
  | none => .fail
/-- an operation that raises nothing -/
abbrev PR := Option (D × Store)
def Res.ofP {α : Type} (o : Option (α × Store)) : Res α := match o with
  | some (a, S) => .ok a S
  | none => .fail

inductive BOp where | add | sub | mul | fdiv | mod | pow
inductive COp where | eq | ne | lt | le | gt | ge | is | isNot | isIn | notIn
/-- built-ins by name -/
inductive Blt where
  | len | abs | int | min | max | sum | all | any | tuple | list (cell : Bool) | sorted (cell : Bool) | repr | str
  deriving DecidableEq
/-- the types that isinstance asks for -/
inductive Ty where | int | bool | tuple | list | dict | str
  deriving DecidableEq
/-- what is asked of the keys of a dict that a comprehension makes -/
inductive KQ where
  | srt (cell : Bool) | len
inductive Mth where
  | append | extend | pop | popAt | index | insert
  deriving DecidableEq

inductive Tg where
  | nm (i : Nat)
  | tp (is : List Nat)
mutual
inductive CE where
  | var (i : Nat)
  | lit (p : PyData)
  | gv (x : Nat)
  | bin (op : BOp) (a b : CE)
  | neg (a : CE)
  | not (a : CE)
  | and (es : CL)
  | or (es : CL)
  | cmp (op : COp) (a b : CE)
  | rcmp (neg : Bool) (a b : CE)
  | chain (op op2 : COp) (a b c : CE)
  | ite (c a b : CE)
  | call (f : Nat) (es : CL)
  | blt (f : Blt) (es : CL)
  | meth (m : Mth) (o : CE) (es : CL)
  | idx (a b : CE)
  | sl (a : CE) (lo hi : CO)
  | tup (es : CL)
  | lst (cell : Bool) (es : CL)
  | comp (cell : Bool) (elt : CE) (tg : Tg) (it : CI) (ifs : CL) (own : List Nat)
  | kset (q : KQ) (elt : CE) (tg : Tg) (it : CI) (ifs : CL) (own : List Nat)
  | sset (q : KQ) (a : CE)
  | frz (a : CE)
  | isi (ty : Ty) (a : CE)
inductive CL where
  | nil
  | cons (a : CE) (r : CL)
  | star (a : CE) (r : CL)
inductive CO where
  | none
  | some (a : CE)
inductive CI where
  | one (a : CE)
  | rng1 (a : CE)
  | rng2 (a b : CE)
  | enum (a : CE)
  | zip2 (a b : CE)
end
mutual
inductive CS where
  | asg (tg : Tg) (e : CE)
  | par (is : List Nat) (es : CL)
  | aug (op : BOp) (i : Nat) (e : CE)
  | seti (o i e : CE)
  | expr (e : CE)
  | ret (e : CE)
  | retN
  | iff (c : CE) (a b : CSs)
  | for (tg : Tg) (it : CI) (body : CSs)
  | while (c : CE) (body : CSs)
  | never
inductive CSs where
  | nil
  | cons (a : CS) (r : CSs)
end

/-! ### reading -/
def toDats : List D → Option (List PyData)
  | [] => some []
  | .dat p :: r => (toDats r).map (p :: ·)
  | _ :: _ => none
def cellAt (S : Store) (n : Nat) : Option (List D) := match S[n]? with
  | some (.lst l) => some l
  | _ => none
/-- what reads as a list -/
def getL (S : Store) : D → Option (List D)
  | .dat (.list l) => some (l.map .dat)
  | .ref n => cellAt S n
  | _ => none
/-- what reads as a list or a tuple -/
def getSeq (S : Store) : D → Option (List D)
  | .dat (.list l) => some (l.map .dat)
  | .dat (.tuple l) => some (l.map .dat)
  | .ref n => cellAt S n
  | .scr l => some (l.map fun i => .dat (.int i))
  | _ => none
/-- as data: cells of data read through -/
def toP (S : Store) : D → Option PyData
  | .dat p => some p
  | .ref n => ((cellAt S n).bind toDats).map .list
  | .scr _ => none
def toPs (S : Store) (l : List D) : Option (List PyData) := l.mapM (toP S)
def shapedOk (p : PyData) : Bool := SeqAt.shaped p

/-! ### making -/
def mkL (cell : Bool) (l : List D) (S : Store) : PR := match cell with
  | true => some (.ref S.length, S ++ [.lst l])
  | false => (toDats l).map fun ps => (.dat (.list ps), S)
def mkT (l : List D) (S : Store) : PR := (toDats l).map fun ps => (.dat (.tuple ps), S)
def fits (n : Nat) : Bool := Nat.ble n 16777216

/-! ### operators -/
def addL (S : Store) (x y : D) : PR := match getL S x, getL S y with
  | some a, some b => if fits (a.length + b.length) then mkL false (a ++ b) S else none
  | _, _ => none
def addV (S : Store) (x y : D) : PR := match x, y with
  | .dat (.int i), .dat (.int j) => some (.dat (.int (i + j)), S)
  | .dat (.str a), .dat (.str b) => if fits (a.length + b.length) then some (.dat (.str (a ++ b)), S) else none
  | .dat (.tuple a), .dat (.tuple b) => if fits (a.length + b.length) then some (.dat (.tuple (a ++ b)), S) else none
  | x, y => addL S x y
def subV : PyData → PyData → Option PyData
  | .int i, .int j => some (.int (i - j))
  | _, _ => none
def fdivV : PyData → PyData → Option PyData
  | .int i, .int j => if decide (0 < j) && Nat.blt j.natAbs.log2 9000 then some (.int (i / j)) else none
  | _, _ => none
def modV : PyData → PyData → Option PyData
  | .int i, .int j => if decide (0 < j) then some (.int (i % j)) else none
  | _, _ => none
def powV : PyData → PyData → Option PyData
  | .int i, .int j => if decide (0 ≤ j) && decide (j ≤ 1000000) && Nat.blt i.natAbs 18446744073709551616 then some (.int (i ^ j.toNat)) else none
  | _, _ => none
def mulV (S : Store) (x y : D) : PR := match x, y with
  | .dat (.int i), .dat (.int j) => if Nat.blt (i.natAbs.log2 + j.natAbs.log2) 1000000 then some (.dat (.int (i * j)), S) else none
  | .dat (.tuple a), .dat (.int k) => if !a.isEmpty && Nat.ble a.length 1000 && decide (2 ≤ k) && decide (k ≤ 1000) then some (.dat (.tuple (List.replicate k.toNat a).flatten), S) else none
  | x, .dat (.int k) => (getL S x).bind fun a => if decide (0 ≤ k) && decide (k ≤ 1000) && Nat.ble a.length 1000 then mkL false (List.replicate k.toNat a).flatten S else none
  | _, _ => none
def onDat (f : PyData → PyData → Option PyData) (x y : D) (S : Store) : PR := match x, y with
  | .dat p, .dat q => (f p q).map fun r => (.dat r, S)
  | _, _ => none
def binop (op : BOp) (x y : D) (S : Store) : PR := match op with
  | .add => addV S x y
  | .sub => onDat subV x y S
  | .mul => mulV S x y
  | .fdiv => onDat fdivV x y S
  | .mod => onDat modV x y S
  | .pow => onDat powV x y S

def eqD (S : Store) (x y : D) : Option Bool := match toP S x, toP S y with
  | some p, some q => if shapedOk p && shapedOk q then some (PyData.eqv p q) else none
  | _, _ => none
def intsOf : List PyData → Option (List Int)
  | [] => some []
  | .int i :: r => (intsOf r).map (i :: ·)
  | _ :: _ => none
def ltP : PyData → PyData → Option Bool
  | .int i, .int j => some (decide (i < j))
  | .tuple a, .tuple b => match intsOf a, intsOf b with
    | some xs, some ys => some (HT.lexLt xs ys)
    | _, _ => none
  | _, _ => none
def int2 (f : Int → Int → Bool) : PyData → PyData → Option Bool
  | .int i, .int j => some (f i j)
  | _, _ => none
def flatP : PyData → Bool
  | .none => true
  | .bool _ => true
  | .int _ => true
  | .str _ => true
  | _ => false
def inD (S : Store) (x y : D) : Option Bool := match toP S x, toP S y with
  | some p, some (.tuple l) => if flatP p && l.all flatP then some (l.any fun z => PyData.eqv z p) else none
  | some p, some (.list l) => if shapedOk p && shapedOk (.list l) then some (l.any fun z => PyData.eqv z p) else none
  | _, _ => none
def isP : PyData → PyData → Option Bool
  | .bool a, .bool b => some (decide (a = b))
  | .none, .none => some true
  | _, .none => some false
  | _, _ => none
def isD : D → D → Option Bool
  | .dat p, .dat q => isP p q
  | .ref _, .dat .none => some false
  | _, _ => none
def onDat2 (f : PyData → PyData → Option Bool) : D → D → Option Bool
  | .dat p, .dat q => f p q
  | _, _ => none
def cmpV (op : COp) (S : Store) (x y : D) : Option Bool := match op with
  | .eq => eqD S x y
  | .ne => (eqD S x y).map (!·)
  | .lt => onDat2 ltP x y
  | .le => onDat2 (int2 fun i j => decide (i ≤ j)) x y
  | .gt => onDat2 (int2 fun i j => decide (j < i)) x y
  | .ge => onDat2 (int2 fun i j => decide (j ≤ i)) x y
  | .is => isD x y
  | .isNot => (isD x y).map (!·)
  | .isIn => inD S x y
  | .notIn => (inD S x y).map (!·)
def cmpR (op : COp) (x y : D) (S : Store) : PR := (cmpV op S x y).map fun b => (.dat (.bool b), S)

def truth (S : Store) : D → Option Bool
  | .dat .none => some false
  | .dat (.bool b) => some b
  | .dat (.int i) => some (i != 0)
  | .dat (.list l) => some (!l.isEmpty)
  | .dat (.tuple l) => some (!l.isEmpty)
  | .ref n => (cellAt S n).map (!·.isEmpty)
  | _ => none

def idxV (x y : D) (S : Store) : PR := match getSeq S x, y with
  | some l, .dat (.int i) => (L2.atI l i).map fun d => (d, S)
  | _, _ => none
def cutL (l : List PyData) (lo hi : Option Int) : List PyData := (l.drop (HT.sIx l.length 0 lo)).take (HT.sIx l.length l.length hi - HT.sIx l.length 0 lo)
def slV (x : D) (lo hi : Option Int) (S : Store) : PR := match x with
  | .dat (.tuple l) => some (.dat (.tuple (cutL l lo hi)), S)
  | x => ((getL S x).bind toDats).map fun l => (.dat (.list (cutL l lo hi)), S)

/-! ### built-ins -/
def minI : List Int → Option Int
  | [] => none
  | a :: r => match minI r with
    | none => some a
    | some b => some (if b < a then b else a)
def maxI : List Int → Option Int
  | [] => none
  | a :: r => match maxI r with
    | none => some a
    | some b => some (if a < b then b else a)
/-- what repr tells within the bounds -/
def reprOk (p : PyData) : Bool := shapedOk p && p.showable && Nat.ble p.bulk 8000
def reprP (S : Store) (x : D) : Option PyData := (toP S x).bind fun p => if reprOk p then some p else none
def boolsOf : List PyData → Option (List Bool)
  | [] => some []
  | .bool b :: r => (boolsOf r).map (b :: ·)
  | _ :: _ => none
def listInts (S : Store) (x : D) : Option (List Int) := ((getL S x).bind toDats).bind intsOf
def listBools (S : Store) (x : D) : Option (List Bool) := ((getL S x).bind toDats).bind boolsOf
mutual
/-- less, of data of one shape -/
def ltD : PyData → PyData → Bool
  | .bool a, .bool b => !a && b
  | .int a, .int b => decide (a < b)
  | .str a, .str b => decide (a.cps.toList < b.cps.toList)
  | .tuple a, .tuple b => ltAll a b
  | .list a, .list b => ltAll a b
  | _, _ => false
def ltAll : List PyData → List PyData → Bool
  | _, [] => false
  | [], _ :: _ => true
  | x :: xs, y :: ys => if PyData.eqv x y then ltAll xs ys else ltD x y
end
/-- a stable sort -/
def ins (a : PyData) : List PyData → List PyData
  | [] => [a]
  | b :: r => if ltD b a then b :: ins a r else a :: b :: r
def isort : List PyData → List PyData
  | [] => []
  | a :: r => ins a (isort r)
def tupN : PyData → Bool
  | .tuple (_ :: _) => true
  | _ => false
def notTN : PyData → Bool
  | .tuple _ => false
  | .none => false
  | _ => true
def sortOk (ps : List PyData) : Bool := (ps.all fun a => ps.all fun b => W.alike a b) && (ps.all tupN || ps.all notTN) && (ps.all fun p => Nat.ble p.depth 60)
def pin (p : PyData) (S : Store) : PR := some (.dat p, S)
def bltV (f : Blt) (xs : List D) (S : Store) : PR := match f, xs with
  | .len, [x] => (getSeq S x).bind fun l => pin (.int (l.length : Nat)) S
  | .abs, [.dat (.int i)] => pin (.int (if i < 0 then -i else i)) S
  | .int, [.dat (.int i)] => pin (.int i) S
  | .int, [.dat (.bool b)] => pin (.int (if b then 1 else 0)) S
  | .min, [.dat (.int i), .dat (.int j)] => pin (.int (if j < i then j else i)) S
  | .max, [.dat (.int i), .dat (.int j)] => pin (.int (if j > i then j else i)) S
  | .min, [x] => ((listInts S x).bind minI).bind fun i => pin (.int i) S
  | .max, [x] => ((listInts S x).bind maxI).bind fun i => pin (.int i) S
  | .sum, [x] => (listInts S x).bind fun l => pin (.int l.sum) S
  | .all, [x] => (listBools S x).bind fun l => pin (.bool (l.all id)) S
  | .any, [x] => (listBools S x).bind fun l => pin (.bool (l.any id)) S
  | .tuple, [x] => (getSeq S x).bind fun l => mkT l S
  | .list c, [x] => (getSeq S x).bind fun l => mkL c l S
  | .sorted c, [x] => ((getSeq S x).bind toDats).bind fun ps => if sortOk ps && fits ps.length then mkL c ((isort ps).map .dat) S else none
  | .repr, [x] => (reprP S x).bind fun p => pin (.str p.shown) S
  | _, _ => none
mutual
/-- data alike to the last sign -/
def sameP : PyData → PyData → Bool
  | .none, .none => true
  | .bool a, .bool b => a == b
  | .int a, .int b => decide (a = b)
  | .str a, .str b => decide (a = b)
  | .tuple a, .tuple b => sameAll a b
  | .list a, .list b => sameAll a b
  | _, _ => false
def sameAll : List PyData → List PyData → Bool
  | [], [] => true
  | a :: r, b :: s => sameP a b && sameAll r s
  | _, _ => false
end
/-- repr(a) == repr(b) -/
def sameR (p q : PyData) : Bool := sameP p q || decide (p.shown = q.shown)
def rcmpV (neg : Bool) (p q : PyData) (S : Store) : PR := some (.dat (.bool (if neg then !sameR p q else sameR p q)), S)

/-! ### keys, each once -/
def addI (l : List Int) (i : Int) : List Int := if l.contains i then l else l ++ [i]
def dedI (ns : List Int) : List Int := ns.foldl addI []
def insI (a : Int) : List Int → List Int
  | [] => [a]
  | b :: r => if b < a then b :: insI a r else a :: b :: r
def sortI : List Int → List Int
  | [] => []
  | a :: r => insI a (sortI r)
def ksetV (q : KQ) (ns : List Int) (S : Store) : PR := match q with
  | .srt c => if Nat.blt (dedI ns).length 64 then mkL c ((sortI (dedI ns)).map fun i => .dat (.int i)) S else none
  | .len => pin (.int ((dedI ns).length : Nat)) S
def addR (l : List (List Int)) (i : List Int) : List (List Int) := if l.contains i then l else l ++ [i]
def dedR (ks : List (List Int)) : List (List Int) := ks.foldl addR []
def rowsOf : List PyData → Option (List (List Int))
  | [] => some []
  | .tuple l :: r => match intsOf l, rowsOf r with
    | some a, some b => some (a :: b)
    | _, _ => none
  | _ :: _ => none
/-- sorted(set(x)) of ints, len(set(x)) of rows -/
def ssetV (q : KQ) (x : D) (S : Store) : PR := match q, x with
  | .srt c, .dat (.list ps) => (intsOf ps).bind fun ns => if Nat.blt ns.length 64 then mkL c ((sortI (dedI ns)).map fun i => .dat (.int i)) S else none
  | .len, .dat (.list ps) => (rowsOf ps).bind fun ks => if Nat.blt ks.length 64 then pin (.int ((dedR ks).length : Nat)) S else none
  | _, _ => none
def setAt (l : List D) (i : Int) (v : D) : Option (List D) := (L2.ixN l.length i).map fun j => l.set j v
def below (n : Nat) : D → Bool
  | .ref k => Nat.blt k n
  | _ => true
def setiV (o i v : D) (S : Store) : Option Store := match o, i with
  | .ref n, .dat (.int k) => (cellAt S n).bind fun l => (setAt l k v).bind fun l' => if below n v then some (S.set n (.lst l')) else none
  | _, _ => none
def findIx (d : PyData) : List PyData → Nat → Option Nat
  | [], _ => none
  | z :: r, j => if PyData.eqv z d then some j else findIx d r (j + 1)
def onCell (o : D) (S : Store) (f : Nat → List D → PR) : PR := match o with
  | .ref n => (cellAt S n).bind fun l => f n l
  | _ => none
def arg1i : List D → Option Int
  | [.dat (.int i)] => some i
  | _ => none
def arg2i : List D → Option (Int × D)
  | [.dat (.int i), v] => some (i, v)
  | _ => none
def arg1 : List D → Option D
  | [v] => some v
  | _ => none
def idxP (x y : Option PyData) : Option Nat := match x, y with
  | some (.list ds), some d => if shapedOk (.list ds) && shapedOk d then findIx d ds 0 else none
  | _, _ => none
def methV (m : Mth) (o : D) (xs : List D) (S : Store) : PR := match m with
  | .append => onCell o S fun n l => (arg1 xs).bind fun v => if below n v && Nat.blt l.length 16777216 then some (.dat .none, S.set n (.lst (l ++ [v]))) else none
  | .extend => onCell o S fun n l => ((arg1 xs).bind (getL S)).bind fun r => if r.all (below n) && fits (l.length + r.length) then some (.dat .none, S.set n (.lst (l ++ r))) else none
  | .pop => onCell o S fun n l => if xs.isEmpty then (l[l.length - 1]?).map fun v => (v, S.set n (.lst l.dropLast)) else none
  | .popAt => onCell o S fun n l => (arg1i xs).bind fun i => if decide (-9223372036854775808 ≤ i) && decide (i < 9223372036854775808) then (seqIndex? i l.length).bind fun k => l[k]?.map fun v => (v, S.set n (.lst (l.eraseIdx k))) else none
  | .insert => onCell o S fun n l => (arg2i xs).bind fun (i, v) => if below n v && Nat.blt l.length 16777216 && decide (0 ≤ i) && decide (i < 9223372036854775808) then some (.dat .none, S.set n (.lst (l.take i.toNat ++ [v] ++ l.drop i.toNat))) else none
  | .index => (idxP (toP S o) ((arg1 xs).bind (toP S))).map fun j => (.dat (.int (j : Nat)), S)

def isaP : Ty → PyData → Bool
  | .int, .int _ => true
  | .int, .bool _ => true
  | .bool, .bool _ => true
  | .tuple, .tuple _ => true
  | .list, .list _ => true
  | .dict, .dict _ => true
  | .str, .str _ => true
  | _, _ => false
def isaD (S : Store) (ty : Ty) : D → Option Bool
  | .dat p => some (isaP ty p)
  | .ref n => (cellAt S n).map fun _ => match ty with
    | .list => true
    | _ => false
  | .scr _ => none
def augV (op : BOp) (x y : D) : Option D := match op, x, y with
  | .add, .dat (.int i), .dat (.int j) => some (.dat (.int (i + j)))
  | .sub, .dat (.int i), .dat (.int j) => some (.dat (.int (i - j)))
  | _, _, _ => none
/-- a cell made by-value data again: nobody changes it from here on -/
def frz : Nat → D → Store → Option (PyData × Store)
  | _, .dat p, S => some (p, S)
  | _, .scr _, _ => none
  | 0, .ref _, _ => none
  | k + 1, .ref n, S => (cellAt S n).bind fun l =>
    (l.foldr (fun d acc => acc.bind fun (ps, S') => (frz k d S').map fun (p, S2) => (p :: ps, S2)) (some ([], S))).map fun (ps, S') => (.list ps, S'.set n .dead)

/-! ### what is walked -/
inductive Src where
  | vals (l : List PyData)
  | cell (n : Nat)
def Src.of (S : Store) : D → Option Src
  | .dat (.list l) => some (.vals l)
  | .dat (.tuple l) => some (.vals l)
  | .ref n => (cellAt S n).map fun _ => .cell n
  | _ => none
inductive ItS where
  | one (s : Src)
  | enum (s : Src)
  | zip (s t : Src)
  | rng (lo : Int) (n : Nat)
inductive Nx where
  | item (ds : List D)
  | stop
  | fail
def Src.at (S : Store) (i : Nat) : Src → Option (Option D)
  | .vals l => if Nat.ble i l.length then some (l[i]?.map .dat) else none
  | .cell n => (cellAt S n).bind fun l => if Nat.ble i l.length then some l[i]? else none
def nx1 : Option (Option D) → Nx
  | some (some d) => .item [d]
  | some none => .stop
  | none => .fail
def nxE (i : Nat) : Option (Option D) → Nx
  | some (some d) => .item [.dat (.int (i : Nat)), d]
  | some none => .stop
  | none => .fail
def nx2 : Option (Option D) → Option (Option D) → Nx
  | some (some a), some (some b) => .item [a, b]
  | some none, some _ => .stop
  | some (some _), some none => .stop
  | _, _ => .fail
def ItS.next (i : Nat) (S : Store) : ItS → Nx
  | .one s => nx1 (s.at S i)
  | .enum s => nxE i (s.at S i)
  | .zip s t => nx2 (s.at S i) (t.at S i)
  | .rng lo n => if Nat.blt i n then .item [.dat (.int (lo + (i : Nat)))] else .stop
def loopFuel : Nat := 1000000
def Src.len : Src → Nat
  | .vals l => l.length
  | .cell _ => loopFuel
def ItS.len : ItS → Nat
  | .one s => s.len
  | .enum s => s.len
  | .zip s _ => s.len
  | .rng _ n => n
def setSlots : List Nat → List D → Ev → Option Ev
  | [], [], ev => some ev
  | i :: is, d :: ds, ev => setSlots is ds (ev.set i (some d))
  | _, _, _ => none
/-- targets: one name takes a lone item; several take an item of as many -/
def Tg.put (t : Tg) (ds : List D) (ev : Ev) : Option Ev := match t with
  | .nm i => match ds with
    | [d] => some (ev.set i (some d))
    | _ => none
  | .tp is => match ds with
    | [] => none
    | [.dat (.tuple l)] => setSlots is (l.map .dat) ev
    | [_] => none
    | d :: e :: r => setSlots is (d :: e :: r) ev

/-- statements' ends -/
inductive SR where
  | nx (ev : Ev) (S : Store)
  | rt (d : D) (S : Store)
  | exc (ev : Ev) (e : Exc) (S : Store)
  | fail
def Res.sr {α : Type} (r : Res α) (ev : Ev) (k : α → Store → SR) : SR := match r with
  | .ok a S => k a S
  | .exc e S => .exc ev e S
  | .fail => .fail
def forLoop (it : ItS) (tg : Tg) (body : Ev → Store → SR) : Nat → Nat → Ev → Store → SR
  | 0, i, ev, S => match it.next i S with
    | .stop => .nx ev S
    | _ => .fail
  | k + 1, i, ev, S => match it.next i S with
    | .stop => .nx ev S
    | .fail => .fail
    | .item ds => match tg.put ds ev with
      | none => .fail
      | some ev' => match body ev' S with
        | .nx ev2 S2 => forLoop it tg body k (i + 1) ev2 S2
        | .rt d S2 => .rt d S2
        | .exc ev2 e S2 => .exc ev2 e S2
        | .fail => .fail
/-- a comprehension's loop: the items in turn; a raise within is not served -/
def compLoop (it : ItS) (tg : Tg) (test : Ev → Store → Res Bool) (elt : Ev → Store → Res D) (ev : Ev) : Nat → Nat → Store → Option (List D × Store)
  | 0, i, S => match it.next i S with
    | .stop => some ([], S)
    | _ => none
  | k + 1, i, S => match it.next i S with
    | .stop => some ([], S)
    | .fail => none
    | .item ds => match tg.put ds ev with
      | none => none
      | some ev' => match test ev' S with
        | .ok true S1 => match elt ev' S1 with
          | .ok d S2 => (compLoop it tg test elt ev k (i + 1) S2).map fun (l, S3) => (d :: l, S3)
          | _ => none
        | .ok false S1 => compLoop it tg test elt ev k (i + 1) S1
        | _ => none
def whileLoop (c : Ev → Store → Res Bool) (body : Ev → Store → SR) : Nat → Ev → Store → SR
  | 0, _, _ => .fail
  | k + 1, ev, S => match c ev S with
    | .ok true S1 => match body ev S1 with
      | .nx ev2 S2 => whileLoop c body k ev2 S2
      | .rt d S2 => .rt d S2
      | .exc ev2 e S2 => .exc ev2 e S2
      | .fail => .fail
    | .ok false S1 => .nx ev S1
    | .exc e S1 => .exc ev e S1
    | .fail => .fail
def wipeE (ev : Ev) : List Nat → Ev
  | [] => ev
  | v :: vs => (wipeE ev vs).set v none

/-! ### the evaluator -/
abbrev Fn := List D → Store → Res D
abbrev SE := Ev → Store → Res D
abbrev SL := Ev → Store → Res (List D)
def truthR (r : Res D) : Res Bool := r.bind fun d S => Res.ofO (truth S d) S
section
variable (Φ : List Fn) (G : List PyData)
mutual
def evE : CE → Ev → Store → Res D
  | .var i, ev, S => match ev[i]? with
    | some (some d) => .ok d S
    | _ => .fail
  | .lit p, _, S => .ok (.dat p) S
  | .gv x, _, S => match G[x]? with
    | some p => .ok (.dat p) S
    | none => .fail
  | .bin op a b, ev, S => (evE a ev S).bind fun x S1 => (evE b ev S1).bind fun y S2 => Res.ofP (binop op x y S2)
  | .neg a, ev, S => (evE a ev S).bind fun x S1 => match x with
    | .dat (.int i) => .ok (.dat (.int (-i))) S1
    | _ => .fail
  | .not a, ev, S => (truthR (evE a ev S)).bind fun b S1 => .ok (.dat (.bool (!b))) S1
  | .and es, ev, S => evAnd es ev S
  | .or es, ev, S => evOr es ev S
  | .cmp op a b, ev, S => (evE a ev S).bind fun x S1 => (evE b ev S1).bind fun y S2 => Res.ofP (cmpR op x y S2)
  | .rcmp neg a b, ev, S => (evE a ev S).bind fun x S1 => match reprP S1 x with
    | some p => (evE b ev S1).bind fun y S2 => match reprP S2 y with
      | some q => Res.ofP (rcmpV neg p q S2)
      | none => .fail
    | none => .fail
  | .chain op op2 a b c, ev, S => (evE a ev S).bind fun x S1 => (evE b ev S1).bind fun y S2 => match cmpV op S2 x y with
    | some true => (evE c ev S2).bind fun z S3 => Res.ofP (cmpR op2 y z S3)
    | some false => .ok (.dat (.bool false)) S2
    | none => .fail
  | .ite c a b, ev, S => (truthR (evE c ev S)).bind fun t S1 => match t with
    | true => evE a ev S1
    | false => evE b ev S1
  | .call f es, ev, S => (evL es ev S).bind fun ds S1 => match Φ[f]? with
    | some fn => fn ds S1
    | none => .fail
  | .blt f es, ev, S => (evL es ev S).bind fun ds S1 => Res.ofP (bltV f ds S1)
  | .meth m o es, ev, S => (evE o ev S).bind fun x S1 => match getL S1 x with
    | some _ => (evL es ev S1).bind fun ds S2 => Res.ofP (methV m x ds S2)
    | none => .fail
  | .idx a b, ev, S => (evE a ev S).bind fun x S1 => (evE b ev S1).bind fun y S2 => Res.ofP (idxV x y S2)
  | .sl a lo hi, ev, S => (evE a ev S).bind fun x S1 => (evO lo ev S1).bind fun l S2 => (evO hi ev S2).bind fun h S3 => Res.ofP (slV x l h S3)
  | .tup es, ev, S => (evL es ev S).bind fun ds S1 => if fits ds.length then Res.ofP (mkT ds S1) else .fail
  | .lst c es, ev, S => (evL es ev S).bind fun ds S1 => if fits ds.length then Res.ofP (mkL c ds S1) else .fail
  | .comp c elt tg it ifs own, ev, S => (evI it ev S).bind fun J S1 =>
    match compLoop J tg (fun e s => evTs ifs e s) (fun e s => evE elt e s) (wipeE ev own) J.len 0 S1 with
    | some (l, S2) => if fits l.length then Res.ofP (mkL c l S2) else .fail
    | none => .fail
  | .kset q elt tg it ifs own, ev, S => (evI it ev S).bind fun J S1 =>
    match compLoop J tg (fun e s => evTs ifs e s) (fun e s => evE elt e s) (wipeE ev own) J.len 0 S1 with
    | some (l, S2) => match (toDats l).bind intsOf with
      | some ns => if fits ns.length then Res.ofP (ksetV q ns S2) else .fail
      | none => .fail
    | none => .fail
  | .sset q a, ev, S => (evE a ev S).bind fun x S1 => Res.ofP (ssetV q x S1)
  | .isi ty a, ev, S => (evE a ev S).bind fun x S1 => match isaD S1 ty x with
    | some b => .ok (.dat (.bool b)) S1
    | none => .fail
  | .frz a, ev, S => (evE a ev S).bind fun x S1 => Res.ofP ((frz 4 x S1).map fun (p, S2) => (.dat p, S2))
def evAnd : CL → Ev → Store → Res D
  | .nil, _, _ => .fail
  | .cons a .nil, ev, S => evE a ev S
  | .cons a r, ev, S => (evE a ev S).bind fun x S1 => match truth S1 x with
    | some true => evAnd r ev S1
    | some false => .ok x S1
    | none => .fail
  | .star .., _, _ => .fail
def evOr : CL → Ev → Store → Res D
  | .nil, _, _ => .fail
  | .cons a .nil, ev, S => evE a ev S
  | .cons a r, ev, S => (evE a ev S).bind fun x S1 => match truth S1 x with
    | some false => evOr r ev S1
    | some true => .ok x S1
    | none => .fail
  | .star .., _, _ => .fail
def evL : CL → Ev → Store → Res (List D)
  | .nil, _, S => .ok [] S
  | .cons a r, ev, S => (evE a ev S).bind fun x S1 => (evL r ev S1).bind fun xs S2 => .ok (x :: xs) S2
  | .star a r, ev, S => (evE a ev S).bind fun x S1 => match getSeq S1 x with
    | some l => (evL r ev S1).bind fun xs S2 => .ok (l ++ xs) S2
    | none => .fail
/-- a clause's tests: none or one -/
def evTs : CL → Ev → Store → Res Bool
  | .nil, _, S => .ok true S
  | .cons a .nil, ev, S => truthR (evE a ev S)
  | _, _, _ => .fail
def evO : CO → Ev → Store → Res (Option Int)
  | .none, _, S => .ok none S
  | .some a, ev, S => (evE a ev S).bind fun x S1 => match x with
    | .dat (.int i) => .ok (some i) S1
    | _ => .fail
def evI : CI → Ev → Store → Res ItS
  | .one a, ev, S => (evE a ev S).bind fun x S1 => Res.ofO ((Src.of S1 x).map .one) S1
  | .rng1 a, ev, S => (evE a ev S).bind fun x S1 => match x with
    | .dat (.int n) => if decide (-4611686018427387904 ≤ n) && decide (n < 4611686018427387904) then .ok (.rng 0 n.toNat) S1 else .fail
    | _ => .fail
  | .rng2 a b, ev, S => (evE a ev S).bind fun x S1 => (evE b ev S1).bind fun y S2 => match x, y with
    | .dat (.int i), .dat (.int j) => if decide (-4611686018427387904 ≤ i) && decide (i < 4611686018427387904) && decide (-4611686018427387904 ≤ j) && decide (j < 4611686018427387904) then .ok (.rng i (j - i).toNat) S2 else .fail
    | _, _ => .fail
  | .enum a, ev, S => (evE a ev S).bind fun x S1 => Res.ofO ((Src.of S1 x).map .enum) S1
  | .zip2 a b, ev, S => (evE a ev S).bind fun x S1 => (evE b ev S1).bind fun y S2 => match Src.of S2 x, Src.of S2 y with
    | some s, some t => .ok (.zip s t) S2
    | _, _ => .fail
end
mutual
def evS : CS → Ev → Store → SR
  | .asg tg e, ev, S => (evE Φ G e ev S).sr ev fun d S1 => match tg.put [d] ev with
    | some ev' => .nx ev' S1
    | none => .fail
  | .par is es, ev, S => (evL Φ G es ev S).sr ev fun ds S1 => match setSlots is.reverse ds.reverse ev with
    | some ev' => .nx ev' S1
    | none => .fail
  | .aug op i e, ev, S => match ev[i]? with
    | some (some x) => (evE Φ G e ev S).sr ev fun y S1 => match augV op x y with
      | some z => .nx (ev.set i (some z)) S1
      | none => .fail
    | _ => .fail
  | .seti o i e, ev, S => (evE Φ G e ev S).sr ev fun v S1 => (evE Φ G o ev S1).sr ev fun x S2 => (evE Φ G i ev S2).sr ev fun y S3 => match setiV x y v S3 with
    | some S4 => .nx ev S4
    | none => .fail
  | .expr e, ev, S => (evE Φ G e ev S).sr ev fun _ S1 => .nx ev S1
  | .ret e, ev, S => (evE Φ G e ev S).sr ev fun d S1 => .rt d S1
  | .retN, _, S => .rt (.dat .none) S
  | .iff c a b, ev, S => (truthR (evE Φ G c ev S)).sr ev fun t S1 => match t with
    | true => evSs a ev S1
    | false => evSs b ev S1
  | .for tg it body, ev, S => (evI Φ G it ev S).sr ev fun J S1 => forLoop J tg (fun e s => evSs body e s) J.len 0 ev S1
  | .while c body, ev, S => whileLoop (fun e s => truthR (evE Φ G c e s)) (fun e s => evSs body e s) loopFuel ev S
  | .never, _, _ => .fail
def evSs : CSs → Ev → Store → SR
  | .nil, ev, S => .nx ev S
  | .cons a r, ev, S => match evS a ev S with
    | .nx ev1 S1 => evSs r ev1 S1
    | .rt d S1 => .rt d S1
    | .exc ev1 e S1 => .exc ev1 e S1
    | .fail => .fail
end
end
/-- a list of the def's own that is handed back -/
def giveBack (k : Nat) (d : D) (S : Store) : Res D := match d with
  | .ref n => match cellAt S n with
    | some l => if l.all (below k) then .ok (.ref k) (S.take k ++ [.lst l]) else .fail
    | none => .fail
  | _ => .fail
/-- a def's end: its own cells are dropped -/
def leave (k : Nat) : SR → Res D
  | .nx _ S => .ok (.dat .none) (S.take k)
  | .rt d S => if below k d then .ok d (S.take k) else giveBack k d S
  | .exc _ e S => .exc e (S.take k)
  | .fail => .fail
structure Def where
  np : Nat
  va : Bool
  ns : Nat
  body : CSs
/-- the parameters' values -/
def bindV (d : Def) (ds : List D) : Option (List D) := match d.va with
  | true => if Nat.ble d.np ds.length && fits ds.length then (toDats (ds.drop d.np)).map fun ps => ds.take d.np ++ [.dat (.tuple ps)] else none
  | false => if Nat.beq ds.length d.np then some ds else none
def mkFn (Φ : List Fn) (G : List PyData) (d : Def) : Fn := fun ds S => match bindV d ds with
  | some as => leave S.length (evSs Φ G d.body (as.map some ++ List.replicate (d.ns - as.length) none) S)
  | none => .fail
def fnsOf (G : List PyData) : List Def → List Fn → List Fn
  | [], Φ => Φ
  | d :: r, Φ => fnsOf G r (Φ ++ [mkFn Φ G d])
end MP
end
section
/-! MiniPy: values in the abstract heap. -/
namespace MP
open PySem PySem.Spec PyProof.Rows L2

/-- what the judgement knows: the written part, the tables of code objects, the classes that are raised with their field -/
structure Cfg where
  K : PySem.W.Frag
  T : List (Addr × PySem.Str)
  XT : List (Addr × PySem.Str)

def keyP : Key → PyData
  | .inl i => .int i
  | .inr s => .str s
mutual
inductive Rp (K : PySem.W.Frag) (H : Hp) (L : Addr → Prop) : V → PyData → Prop
  | non : Rp K H L .non .none
  | bl (b : Bool) : Rp K H L (.bl b) (.bool b)
  | int (i : Int) : Rp K H L (.int i) (.int i)
  | str (x : PySem.Str) : Rp K H L (.str x) (.str x)
  | tup {a : Addr} {vs : List V} {ps : List PyData} : SqT K H a vs → Rps K H L vs ps → Rp K H L (.ref a) (.tuple ps)
  | lst {a : Addr} {vs : List V} {ps : List PyData} : H a = some (.lst vs) → ¬ L a → Rps K H L vs ps → Rp K H L (.ref a) (.list ps)
inductive Rps (K : PySem.W.Frag) (H : Hp) (L : Addr → Prop) : List V → List PyData → Prop
  | nil : Rps K H L [] []
  | cons {v : V} {vs : List V} {p : PyData} {ps : List PyData} : Rp K H L v p → Rps K H L vs ps → Rps K H L (v :: vs) (p :: ps)
end
/-- where the cells lie; lists that are being built -/
structure Mp where
  cs : List Addr
  hid : List Addr
/-- the addresses of the cells that live -/
def Lv (m : Mp) (S : Store) (a : Addr) : Prop := (∃ (n : Nat) (c : Cell), m.cs[n]? = some a ∧ S[n]? = some c ∧ c ≠ Cell.dead) ∨ a ∈ m.hid
/-- a list of the module's written part -/
def KL (K : PySem.W.Frag) (a : Addr) (xs : List V) : Prop := ∃ (o : Obj) (its : Array Value) (n : Nat), K.lookup a = some o ∧ o.cls = .type "list" ∧ o.dict = none ∧ o.data = .seq its n ∧ its.size ≤ sizeLine ∧ Vals xs its.toList
def RD (K : PySem.W.Frag) (m : Mp) (S : Store) (H : Hp) (v : V) : D → Prop
  | .dat p => Rp K H (Lv m S) v p
  | .ref n => ∃ a, m.cs[n]? = some a ∧ v = .ref a
  | .scr l => ∃ a, v = .ref a ∧ ((Rd H a (.lst (l.map V.int)) ∧ ¬ Lv m S a) ∨ KL K a (l.map V.int))
abbrev RDs (K : PySem.W.Frag) (m : Mp) (S : Store) (H : Hp) : List V → List D → Prop := Paired (RD K m S H)
def CellOk (K : PySem.W.Frag) (m : Mp) (S : Store) (H : Hp) (a : Addr) : Cell → Prop
  | .lst l => ∃ vs, H a = some (.lst vs) ∧ RDs K m S H vs l
  | .dic _ => False
  | .dead => True
/-- a thing that may change -/
def isC : HO → Bool
  | .lst _ => true
  | .dK _ => true
  | .dT _ => true
  | _ => false
structure Sto (c : Cfg) (m : Mp) (S : Store) (H : Hp) : Prop where
  len : m.cs.length = S.length
  nd : m.cs.Nodup
  cell : ∀ (n : Nat) a x, m.cs[n]? = some a → S[n]? = some x → CellOk c.K m S H a x
  wf : ∀ (n : Nat) l, S[n]? = some (.lst l) → ∀ d ∈ l, below n d = true
  used : ∀ a ∈ m.cs, ∃ o, H a = some o ∧ isC o = true
  hid : ∀ a ∈ m.hid, a ∉ m.cs ∧ ∃ o, H a = some o ∧ isC o = true
  tabs : LamX.Tabs c.T H
def NT (o : HO) : Prop := ∀ ps, o ≠ .tbl ps
structure Nx0 (m : Mp) (S : Store) (H : Hp) (m' : Mp) (S' : Store) (H' : Hp) : Prop where
  pre : ∃ r, m'.cs = m.cs ++ r
  keep : ∀ a o, H a = some o → ¬ Lv m S a → NT o → H' a = some o
  lv : ∀ a, Lv m' S' a → H a = none ∨ Lv m S a
  there : ∀ a, H' a = none → H a = none
structure Nxt (m : Mp) (S : Store) (H : Hp) (m' : Mp) (S' : Store) (H' : Hp) : Prop extends Nx0 m S H m' S' H' where
  same : m'.hid = m.hid
  hk : ∀ a ∈ m.hid, ∀ o, H a = some o → H' a = some o
section
variable {c : Cfg} {K : PySem.W.Frag} {m m1 m2 m' : Mp} {S S1 S2 S' : Store} {H H1 H2 H' : Hp} {v : V} {d : D} {vs : List V} {ds : List D} {p : PyData} {ps : List PyData}
theorem Nxt.refl : Nxt m S H m S H := ⟨⟨⟨[], by simp⟩, fun _ _ h _ _ => h, fun _ h => .inr h, fun _ h => h⟩, rfl, fun _ _ _ h => h⟩
theorem Nx0.trans (a : Nx0 m S H m1 S1 H1) (b : Nx0 m1 S1 H1 m2 S2 H2) : Nx0 m S H m2 S2 H2 := by
  obtain ⟨r1, e1⟩ := a.pre
  obtain ⟨r2, e2⟩ := b.pre
  refine ⟨⟨r1 ++ r2, by rw [e2, e1, List.append_assoc]⟩, fun x o h n t => ?_, fun x q => ?_, fun x h => a.there x (b.there x h)⟩
  · refine b.keep x o (a.keep x o h n t) (fun q => ?_) t
    rcases a.lv x q with z | z
    · rw [h] at z; cases z
    · exact n z
  · rcases b.lv x q with z | z
    · exact .inl (a.there x z)
    · exact a.lv x z
theorem Nxt.trans (a : Nxt m S H m1 S1 H1) (b : Nxt m1 S1 H1 m2 S2 H2) : Nxt m S H m2 S2 H2 := ⟨a.toNx0.trans b.toNx0, b.same.trans a.same, fun x hx o h => b.hk x (by rw [a.same]; exact hx) o (a.hk x hx o h)⟩
theorem Sto.live (st : Sto c m S H) {a : Addr} (h : Lv m S a) : ∃ o, H a = some o ∧ isC o = true := by
  rcases h with ⟨n, x, h1, h2, h3⟩ | h
  · have q := st.cell n a x h1 h2
    cases x with
    | lst l => obtain ⟨vs, e, _⟩ := q; exact ⟨_, e, rfl⟩
    | dic l => exact q.elim
    | dead => exact absurd rfl h3
  · exact (st.hid a h).2
theorem sqT_nxt {a : Addr} {vs : List V} (st : Sto c m S H) (n : Nx0 m S H m' S' H') (h : SqT K H a vs) : SqT K H' a vs := by
  rcases h with (h | ⟨o, h⟩) | h
  · refine .inl (.inl (n.keep a _ h (fun l => ?_) fun ps e => by cases e))
    obtain ⟨o', e, q⟩ := st.live l
    rw [h] at e; cases e; cases q
  · refine .inl (.inr ⟨o, n.keep a _ h (fun l => ?_) fun ps e => by cases e⟩)
    obtain ⟨o', e, q⟩ := st.live l
    rw [h] at e; cases e; cases q
  · exact .inr h
mutual
theorem Rp.nx0 (st : Sto c m S H) (n : Nx0 m S H m' S' H') : ∀ {p : PyData} {v : V}, Rp K H (Lv m S) v p → Rp K H' (Lv m' S') v p
  | .none, _, h => by cases h; exact .non
  | .bool b, _, h => by cases h; exact .bl b
  | .int i, _, h => by cases h; exact .int i
  | .str x, _, h => by cases h; exact .str x
  | .tuple ps, _, h => by
    cases h with
    | tup h1 h2 => exact .tup (sqT_nxt st n h1) (Rps.nx0 st n h2)
  | .list ps, _, h => by
    cases h with
    | lst h1 h2 h3 =>
      refine .lst (n.keep _ _ h1 h2 fun ps e => by cases e) (fun q => ?_) (Rps.nx0 st n h3)
      rcases n.lv _ q with z | z
      · rw [h1] at z; cases z
      · exact h2 z
  | .dict _, _, h => by cases h
theorem Rps.nx0 (st : Sto c m S H) (n : Nx0 m S H m' S' H') : ∀ {ps : List PyData} {vs : List V}, Rps K H (Lv m S) vs ps → Rps K H' (Lv m' S') vs ps
  | [], _, h => by cases h; exact .nil
  | p :: ps, _, h => by
    cases h with
    | cons h1 h2 => exact .cons (Rp.nx0 st n h1) (Rps.nx0 st n h2)
end
theorem Rp.nxt (st : Sto c m S H) (n : Nxt m S H m' S' H') {p : PyData} {v : V} (h : Rp K H (Lv m S) v p) : Rp K H' (Lv m' S') v p := Rp.nx0 st n.toNx0 h
theorem Rps.nxt (st : Sto c m S H) (n : Nxt m S H m' S' H') {ps : List PyData} {vs : List V} (h : Rps K H (Lv m S) vs ps) : Rps K H' (Lv m' S') vs ps := Rps.nx0 st n.toNx0 h
theorem RD.nx0 (st : Sto c m S H) (n : Nx0 m S H m' S' H') (h : RD K m S H v d) : RD K m' S' H' v d := by
  cases d with
  | dat p => exact Rp.nx0 st n h
  | ref k =>
    obtain ⟨a, e, q⟩ := h
    obtain ⟨r, er⟩ := n.pre
    refine ⟨a, ?_, q⟩
    rw [er, List.getElem?_append_left (List.getElem?_eq_some_iff.mp e).1]
    exact e
  | scr l =>
    obtain ⟨a, e, ⟨q, z⟩ | k⟩ := h
    · refine ⟨a, e, .inl ⟨?_, fun y => ?_⟩⟩
      · rcases q with q | ⟨o, q⟩
        · exact .inl (n.keep a _ q z fun ps e => by cases e)
        · exact .inr ⟨o, n.keep a _ q z fun ps e => by cases e⟩
      · rcases n.lv a y with w | w
        · rcases q with q | ⟨o, q⟩ <;> (rw [q] at w; cases w)
        · exact z w
    · exact ⟨a, e, .inr k⟩
theorem RD.nxt (st : Sto c m S H) (n : Nxt m S H m' S' H') (h : RD K m S H v d) : RD K m' S' H' v d := RD.nx0 st n.toNx0 h
theorem RDs.nx0 (st : Sto c m S H) (n : Nx0 m S H m' S' H') (h : RDs K m S H vs ds) : RDs K m' S' H' vs ds := Paired.mapP h fun _ _ q => q.nx0 st n
theorem RDs.nxt (st : Sto c m S H) (n : Nxt m S H m' S' H') (h : RDs K m S H vs ds) : RDs K m' S' H' vs ds := RDs.nx0 st n.toNx0 h
theorem Rps.length : ∀ {ps : List PyData} {vs : List V} {L : Addr → Prop}, Rps K H L vs ps → vs.length = ps.length
  | [], _, _, h => by cases h; rfl
  | p :: ps, _, _, h => by
    cases h with
    | cons _ h2 => simp [Rps.length h2]
theorem Rps.paired : ∀ {ps : List PyData} {vs : List V}, Rps K H (Lv m S) vs ps → RDs K m S H vs (ps.map .dat)
  | [], _, h => by cases h; exact .nil
  | p :: ps, _, h => by
    cases h with
    | cons h1 h2 => exact .cons h1 (Rps.paired h2)
theorem toDats_some : ∀ {ds : List D} {ps : List PyData}, toDats ds = some ps → ds = ps.map .dat
  | [], ps, h => by
    cases h
    rfl
  | .dat p :: r, ps, h => by
    simp only [toDats, Option.map_eq_some_iff] at h
    obtain ⟨q, h1, h2⟩ := h
    subst h2
    rw [toDats_some h1]
    rfl
  | .ref _ :: _, ps, h => by simp [toDats] at h
  | .scr _ :: _, ps, h => by simp [toDats] at h
theorem Rps.of_paired : ∀ {ps : List PyData} {vs : List V}, RDs K m S H vs (ps.map .dat) → Rps K H (Lv m S) vs ps
  | [], _, h => by cases h; exact .nil
  | p :: ps, _, h => by
    cases h with
    | cons h1 h2 => exact .cons h1 (Rps.of_paired h2)
theorem below_of (st : Sto c m S H) (h : RD K m S H v d) : below S.length d = true := by
  cases d with
  | dat p => rfl
  | scr l => rfl
  | ref n =>
    obtain ⟨a, e, _⟩ := h
    have := (List.getElem?_eq_some_iff.mp e).1
    rw [st.len] at this
    simpa [below, Nat.blt_eq] using this
theorem RDs.mem : ∀ {vs : List V} {ds : List D}, RDs K m S H vs ds → ∀ d ∈ ds, ∃ v, RD K m S H v d
  | _, _, .nil, d, hd => by simp at hd
  | _, _, .cons h t, d, hd => by
    rcases List.mem_cons.mp hd with e | e
    · exact ⟨_, e ▸ h⟩
    · exact RDs.mem t d e
/-- what reads as a list stands as one -/
theorem getL_ok (st : Sto c m S H) (h : RD c.K m S H v d) {l : List D} (e : getL S d = some l) : ∃ a vs, v = .ref a ∧ H a = some (.lst vs) ∧ RDs c.K m S H vs l := by
  cases d with
  | dat p =>
    cases p with
    | list ps =>
      cases e
      cases h with
      | lst h1 h2 h3 => exact ⟨_, _, rfl, h1, h3.paired⟩
    | _ => cases e
  | scr l => cases e
  | ref n =>
    obtain ⟨a, e1, rfl⟩ := h
    have e' : cellAt S n = some l := e
    unfold cellAt at e'
    split at e'
    · rename_i l' q
      cases e'
      obtain ⟨vs, h1, h2⟩ := st.cell n a _ e1 q
      exact ⟨a, vs, rfl, h1, h2⟩
    · cases e'
theorem scr_ok : ∀ l : List Int, RDs c.K m S H (l.map V.int) (l.map fun i => .dat (.int i))
  | [] => .nil
  | i :: l => .cons (.int i) (scr_ok l)
theorem getSeq_ok (st : Sto c m S H) (h : RD c.K m S H v d) {l : List D} (e : getSeq S d = some l) : ∃ a vs, v = .ref a ∧ (SqL c.K H a vs ∨ SqT c.K H a vs) ∧ RDs c.K m S H vs l := by
  have viaL : getL S d = some l → ∃ a vs, v = .ref a ∧ (SqL c.K H a vs ∨ SqT c.K H a vs) ∧ RDs c.K m S H vs l := fun e => by
    obtain ⟨a, vs, h1, h2, h3⟩ := getL_ok st h e
    exact ⟨a, vs, h1, .inl (SqL.of h2), h3⟩
  cases d with
  | dat p =>
    cases p with
    | tuple ps =>
      cases e
      cases h with
      | tup h1 h2 => exact ⟨_, _, rfl, .inr h1, h2.paired⟩
    | list ps => exact viaL e
    | _ => cases e
  | ref n => exact viaL e
  | scr l =>
    cases e
    obtain ⟨a, rfl, q⟩ := h
    refine ⟨a, _, rfl, .inl ?_, scr_ok l⟩
    rcases q with ⟨q, _⟩ | q
    · exact .inl q
    · exact .inr q
/-! ### a new thing -/
theorem Lv.of_upd_new (st : Sto c m S H) {a : Addr} (h : Lv m S a) {p : Addr} (hp : H p = none) : a ≠ p := fun e => by
  obtain ⟨o, q, _⟩ := st.live h
  rw [e, hp] at q; cases q
theorem nx0_new {p : Addr} {o : HO} (hp : H p = none) (hl : ∀ a, Lv m' S' a → a = p ∨ Lv m S a) (hpre : ∃ r, m'.cs = m.cs ++ r) : Nx0 m S H m' S' (upd H p o) := by
  refine ⟨hpre, fun a u h _ _ => ?_, fun a h => ?_, fun a h => ?_⟩
  · rw [upd_ne (ne_of_none h hp)]; exact h
  · rcases hl a h with z | z
    · exact .inl (by rw [z]; exact hp)
    · exact .inr z
  · by_cases e : a = p
    · rw [e]; exact hp
    · rwa [upd_ne e] at h
theorem tabs_new {T : List (Addr × PySem.Str)} {p : Addr} {o : HO} (h : LamX.Tabs T H) (hp : H p = none) : LamX.Tabs T (upd H p o) := h.ext fun b u e => by rw [upd_ne (ne_of_none e hp)]; exact e
/-- a new thing that is no cell -/
theorem Sto.new (st : Sto c m S H) {p : Addr} {o : HO} (hp : H p = none) : Sto c m S (upd H p o) := by
  have n : Nxt m S H m S (upd H p o) := ⟨nx0_new hp (fun a h => .inr h) ⟨[], by simp⟩, rfl, fun a _ u h => by rw [upd_ne (ne_of_none h hp)]; exact h⟩
  refine ⟨st.len, st.nd, fun k a x h1 h2 => ?_, st.wf, fun a ha => ?_, fun a ha => ?_, tabs_new st.tabs hp⟩
  · have q := st.cell k a x h1 h2
    cases x with
    | lst l =>
      obtain ⟨vs, e, r⟩ := q
      exact ⟨vs, by rw [upd_ne (ne_of_none e hp)]; exact e, RDs.nxt st n r⟩
    | dic l => exact q
    | dead => exact q
  · obtain ⟨o', e, q⟩ := st.used a ha
    exact ⟨o', by rw [upd_ne (ne_of_none e hp)]; exact e, q⟩
  · obtain ⟨h1, o', e, q⟩ := st.hid a ha
    exact ⟨h1, o', by rw [upd_ne (ne_of_none e hp)]; exact e, q⟩
theorem nxt_plain {p : Addr} {o : HO} (hp : H p = none) : Nxt m S H m S (upd H p o) := ⟨nx0_new hp (fun _ h => .inr h) ⟨[], by simp⟩, rfl, fun a _ u h => by rw [upd_ne (ne_of_none h hp)]; exact h⟩
theorem notlive_new (st : Sto c m S H) {p : Addr} (hp : H p = none) : ¬ Lv m S p := fun h => Lv.of_upd_new st h hp rfl
theorem rp_tup (st : Sto c m S H) {p : Addr} (hp : H p = none) (r : Rps K H (Lv m S) vs ps) : Rp K (upd H p (.tup vs)) (Lv m S) (.ref p) (.tuple ps) :=
  .tup (SqT.of upd_same) (Rps.nxt st (nxt_plain hp) r)
theorem rp_lst (st : Sto c m S H) {p : Addr} (hp : H p = none) (r : Rps K H (Lv m S) vs ps) : Rp K (upd H p (.lst vs)) (Lv m S) (.ref p) (.list ps) :=
  .lst upd_same (notlive_new st hp) (Rps.nxt st (nxt_plain hp) r)
/-- a new cell -/
def Mp.snoc (m : Mp) (p : Addr) : Mp := ⟨m.cs ++ [p], m.hid⟩
theorem sto_cell (st : Sto c m S H) {p : Addr} (hp : H p = none) {l : List D} (r : RDs c.K m S H vs l) :
    Sto c (m.snoc p) (S ++ [.lst l]) (upd H p (.lst vs)) ∧ Nxt m S H (m.snoc p) (S ++ [.lst l]) (upd H p (.lst vs)) := by
  have hl : ∀ a, Lv (m.snoc p) (S ++ [.lst l]) a → a = p ∨ Lv m S a := by
    rintro a (⟨n, x, h1, h2, h3⟩ | h)
    · have h1 : (m.cs ++ [p])[n]? = some a := h1
      by_cases hn : n < m.cs.length
      · rw [List.getElem?_append_left hn] at h1
        rw [List.getElem?_append_left (by rw [← st.len]; exact hn)] at h2
        exact .inr (.inl ⟨n, x, h1, h2, h3⟩)
      · rw [List.getElem?_append_right (Nat.le_of_not_lt hn)] at h1
        have : a ∈ [p] := List.mem_of_getElem? h1
        exact .inl (by simpa using this)
    · exact .inr (.inr h)
  have n : Nxt m S H (m.snoc p) (S ++ [.lst l]) (upd H p (.lst vs)) := ⟨nx0_new hp hl ⟨[p], rfl⟩, rfl, fun a _ u h => by rw [upd_ne (ne_of_none h hp)]; exact h⟩
  refine ⟨⟨by simp [Mp.snoc, st.len], ?_, fun k a x h1 h2 => ?_, fun k l' h d hd => ?_, fun a ha => ?_, fun a ha => ?_, tabs_new st.tabs hp⟩, n⟩
  · refine List.nodup_append.mpr ⟨st.nd, by simp, fun a ha b hb => ?_⟩
    have : b = p := by simpa using hb
    subst this
    obtain ⟨_, e, _⟩ := st.used a ha
    exact ne_of_none e hp
  · have h1 : (m.cs ++ [p])[k]? = some a := h1
    by_cases hk : k < m.cs.length
    · rw [List.getElem?_append_left hk] at h1
      rw [List.getElem?_append_left (by rw [← st.len]; exact hk)] at h2
      have q := st.cell k a x h1 h2
      cases x with
      | lst l' =>
        obtain ⟨vs', e, r'⟩ := q
        exact ⟨vs', by rw [upd_ne (ne_of_none e hp)]; exact e, RDs.nxt st n r'⟩
      | dic l => exact q
      | dead => exact q
    · have hk' : m.cs.length ≤ k := Nat.le_of_not_lt hk
      rw [List.getElem?_append_right hk'] at h1
      rw [List.getElem?_append_right (by rw [← st.len]; exact hk')] at h2
      have e1 : a ∈ [p] := List.mem_of_getElem? h1
      have e2 : x ∈ [Cell.lst l] := List.mem_of_getElem? h2
      have e1 : a = p := by simpa using e1
      have e2 : x = Cell.lst l := by simpa using e2
      subst e1 e2
      exact ⟨vs, upd_same, RDs.nxt st n r⟩
  · by_cases hk : k < S.length
    · rw [List.getElem?_append_left hk] at h
      exact st.wf k l' h d hd
    · rw [List.getElem?_append_right (Nat.le_of_not_lt hk)] at h
      have e2 : Cell.lst l' ∈ [Cell.lst l] := List.mem_of_getElem? h
      have e2 : l' = l := by simpa using e2
      subst e2
      obtain ⟨v, hv⟩ := RDs.mem r d hd
      have q := below_of st hv
      cases d with
      | dat p => rfl
      | scr p => rfl
      | ref j =>
        simp only [below, Nat.blt_eq] at q ⊢
        omega
  · rcases List.mem_append.mp (show a ∈ m.cs ++ [p] from ha) with z | z
    · obtain ⟨o', e, q⟩ := st.used a z
      exact ⟨o', by rw [upd_ne (ne_of_none e hp)]; exact e, q⟩
    · have : a = p := by simpa using z
      subst this
      exact ⟨_, upd_same, rfl⟩
  · obtain ⟨h1, o', e, q⟩ := st.hid a ha
    have ne := ne_of_none e hp
    refine ⟨fun z => ?_, o', by rw [upd_ne ne]; exact e, q⟩
    rcases List.mem_append.mp (show a ∈ m.cs ++ [p] from z) with y | y
    · exact h1 y
    · exact ne (by simpa using y)
/-- a new list, a cell or by value -/
theorem mkL_ok (st : Sto c m S H) {p : Addr} (hp : H p = none) {l : List D} (r : RDs c.K m S H vs l) {cell : Bool} (e : mkL cell l S = some (d, S')) :
    ∃ m', Sto c m' S' (upd H p (.lst vs)) ∧ Nxt m S H m' S' (upd H p (.lst vs)) ∧ RD c.K m' S' (upd H p (.lst vs)) (.ref p) d := by
  cases cell with
  | true =>
    cases e
    obtain ⟨a, b⟩ := sto_cell st hp r
    refine ⟨_, a, b, p, ?_, rfl⟩
    show (m.cs ++ [p])[S.length]? = some p
    rw [List.getElem?_append_right (by rw [st.len]; exact Nat.le_refl _), st.len]
    simp
  | false =>
    simp only [mkL, Option.map_eq_some_iff] at e
    obtain ⟨ps, e1, e2⟩ := e
    cases e2
    have e3 := toDats_some e1
    subst e3
    exact ⟨m, st.new hp, nxt_plain hp, rp_lst st hp (Rps.of_paired r)⟩
theorem mkT_ok (st : Sto c m S H) {p : Addr} (hp : H p = none) {l : List D} (r : RDs c.K m S H vs l) (e : mkT l S = some (d, S')) :
    Sto c m S' (upd H p (.tup vs)) ∧ Nxt m S H m S' (upd H p (.tup vs)) ∧ RD c.K m S' (upd H p (.tup vs)) (.ref p) d := by
  simp only [mkT, Option.map_eq_some_iff] at e
  obtain ⟨ps, e1, e2⟩ := e
  cases e2
  have e3 := toDats_some e1
  subst e3
  exact ⟨st.new hp, nxt_plain hp, rp_tup st hp (Rps.of_paired r)⟩
/-! ### a cell is written -/
theorem lv_set (st : Sto c m S H) {n : Nat} {l l' : List D} (hS : S[n]? = some (.lst l)) {a : Addr} : Lv m (S.set n (.lst l')) a ↔ Lv m S a := by
  have hn := (List.getElem?_eq_some_iff.mp hS).1
  constructor
  · rintro (⟨k, x, h1, h2, h3⟩ | h)
    · by_cases hk : n = k
      · subst hk; exact .inl ⟨n, _, h1, hS, by simp⟩
      · rw [List.getElem?_set_ne hk] at h2; exact .inl ⟨k, x, h1, h2, h3⟩
    · exact .inr h
  · rintro (⟨k, x, h1, h2, h3⟩ | h)
    · by_cases hk : n = k
      · subst hk; exact .inl ⟨n, .lst l', h1, by rw [List.getElem?_set_self hn], by simp⟩
      · exact .inl ⟨k, x, h1, by rw [List.getElem?_set_ne hk]; exact h2, h3⟩
    · exact .inr h
theorem nxt_set (st : Sto c m S H) {n : Nat} {a : Addr} {l l' : List D} {vs' : List V} (hm : m.cs[n]? = some a) (hS : S[n]? = some (.lst l)) : Nxt m S H m (S.set n (.lst l')) (upd H a (.lst vs')) := by
  have la : Lv m S a := .inl ⟨n, _, hm, hS, by simp⟩
  obtain ⟨o0, ea, c0⟩ := st.live la
  refine ⟨⟨⟨[], by simp⟩, fun b o h nl _ => ?_, fun b h => .inr ((lv_set st hS).mp h), fun b h => ?_⟩, rfl, fun b hb o h => by rw [upd_ne fun e => (st.hid b hb).1 (by rw [e]; exact List.mem_of_getElem? hm)]; exact h⟩
  · have : b ≠ a := fun e => nl (e ▸ la)
    rw [upd_ne this]; exact h
  · by_cases e : b = a
    · subst e; rw [upd_same] at h; cases h
    · rwa [upd_ne e] at h
theorem tabs_c {T : List (Addr × PySem.Str)} {a : Addr} {o o' : HO} (h : LamX.Tabs T H) (ea : H a = some o) (hc : isC o = true) : LamX.Tabs T (upd H a o') := fun p hp => by
  obtain ⟨qs, h1, h2, h3⟩ := h p hp
  have ne : ∀ b u, H b = some u → isC u = false → b ≠ a := fun b u h w e => by
    subst e; rw [ea] at h; cases h; rw [hc] at w; cases w
  refine ⟨qs, by rw [upd_ne (ne _ _ h1 rfl)]; exact h1, h2, fun pos cv hc => ?_⟩
  obtain ⟨cc, e1, e2⟩ := h3 pos cv hc
  exact ⟨cc, e1, by rw [upd_ne (ne _ _ e2 rfl)]; exact e2⟩
theorem sto_set (st : Sto c m S H) {n : Nat} {a : Addr} {l l' : List D} {vs' : List V} (hm : m.cs[n]? = some a) (hS : S[n]? = some (.lst l)) (r : RDs c.K m S H vs' l') (hb : ∀ d ∈ l', below n d = true) :
    Sto c m (S.set n (.lst l')) (upd H a (.lst vs')) ∧ Nxt m S H m (S.set n (.lst l')) (upd H a (.lst vs')) := by
  have nx : Nxt m S H m (S.set n (.lst l')) (upd H a (.lst vs')) := nxt_set st hm hS
  have hn := (List.getElem?_eq_some_iff.mp hS).1
  have la : Lv m S a := .inl ⟨n, _, hm, hS, by simp⟩
  obtain ⟨o0, ea, c0⟩ := st.live la
  refine ⟨⟨by simp [st.len], st.nd, fun k b x h1 h2 => ?_, fun k l2 h d hd => ?_, fun b hb => ?_, fun b hb => ?_, tabs_c st.tabs ea c0⟩, nx⟩
  · by_cases hk : n = k
    · subst hk
      rw [hm] at h1; cases h1
      rw [List.getElem?_set_self hn] at h2; cases h2
      exact ⟨vs', upd_same, RDs.nxt st nx r⟩
    · rw [List.getElem?_set_ne hk] at h2
      have q := st.cell k b x h1 h2
      have ne : b ≠ a := fun e => by
        subst e
        obtain ⟨i1, e1⟩ := List.getElem?_eq_some_iff.mp hm
        obtain ⟨i2, e2⟩ := List.getElem?_eq_some_iff.mp h1
        exact hk ((List.getElem_inj st.nd).mp (e1.trans e2.symm))
      cases x with
      | lst l2 =>
        obtain ⟨vs2, e2, r2⟩ := q
        exact ⟨vs2, by rw [upd_ne ne]; exact e2, RDs.nxt st nx r2⟩
      | dic l => exact q
      | dead => exact q
  · by_cases hk : n = k
    · subst hk
      rw [List.getElem?_set_self hn] at h
      cases h
      exact hb d hd
    · rw [List.getElem?_set_ne hk] at h
      exact st.wf k l2 h d hd
  · by_cases e : b = a
    · subst e; exact ⟨_, upd_same, rfl⟩
    · obtain ⟨w, q, q2⟩ := st.used b hb
      exact ⟨w, by rw [upd_ne e]; exact q, q2⟩
  · obtain ⟨h1, w, q, q2⟩ := st.hid b hb
    have e : b ≠ a := fun e => h1 (e ▸ List.mem_of_getElem? hm)
    exact ⟨h1, w, by rw [upd_ne e]; exact q, q2⟩
/-! ### a list that is being built -/
def Mp.hide (m : Mp) (p : Addr) : Mp := ⟨m.cs, p :: m.hid⟩
theorem sto_hide (st : Sto c m S H) {p : Addr} {o : HO} (hc : isC o = true) (hp : H p = none) : Sto c (m.hide p) S (upd H p o) ∧ Nx0 m S H (m.hide p) S (upd H p o) := by
  have n : Nx0 m S H (m.hide p) S (upd H p o) := nx0_new hp (fun a h => by
    rcases h with h | h
    · exact .inr (.inl h)
    · rcases List.mem_cons.mp (show a ∈ p :: m.hid from h) with e | e
      · exact .inl e
      · exact .inr (.inr e)) ⟨[], by simp [Mp.hide]⟩
  refine ⟨⟨st.len, st.nd, fun k a x h1 h2 => ?_, st.wf, fun a ha => ?_, fun a ha => ?_, tabs_new st.tabs hp⟩, n⟩
  · have q := st.cell k a x h1 h2
    cases x with
    | lst l =>
      obtain ⟨vs, e, r⟩ := q
      exact ⟨vs, by rw [upd_ne (ne_of_none e hp)]; exact e, RDs.nx0 st n r⟩
    | dic l => exact q
    | dead => exact q
  · obtain ⟨o', e, q⟩ := st.used a ha
    exact ⟨o', by rw [upd_ne (ne_of_none e hp)]; exact e, q⟩
  · rcases List.mem_cons.mp (show a ∈ p :: m.hid from ha) with e | e
    · subst e
      refine ⟨fun z => ?_, _, upd_same, hc⟩
      obtain ⟨o', e, _⟩ := st.used a z
      rw [hp] at e; cases e
    · obtain ⟨h1, o', e, q⟩ := st.hid a e
      exact ⟨h1, o', by rw [upd_ne (ne_of_none e hp)]; exact e, q⟩
/-- one item more -/
theorem sto_grow (st : Sto c m S H) {p : Addr} {o o' : HO} (hc' : isC o' = true) (hp : p ∈ m.hid) (e : H p = some o) : Sto c m S (upd H p o') ∧ Nx0 m S H m S (upd H p o') := by
  have hc : isC o = true := by
    obtain ⟨_, u, q, w⟩ := st.hid p hp
    rw [e] at q; cases q; exact w
  have lp : Lv m S p := .inr hp
  have n : Nx0 m S H m S (upd H p o') := ⟨⟨[], by simp⟩, fun b o h nl _ => by
      have ne : b ≠ p := fun z => by subst z; exact nl lp
      rw [upd_ne ne]; exact h, fun b h => .inr h, fun b h => by
    by_cases z : b = p
    · subst z; rw [upd_same] at h; cases h
    · rwa [upd_ne z] at h⟩
  refine ⟨⟨st.len, st.nd, fun k a x h1 h2 => ?_, st.wf, fun a ha => ?_, fun a ha => ?_, tabs_c st.tabs e hc⟩, n⟩
  · have q := st.cell k a x h1 h2
    have ne : a ≠ p := fun z => (st.hid p hp).1 (z ▸ List.mem_of_getElem? h1)
    cases x with
    | lst l =>
      obtain ⟨ws, e, r⟩ := q
      exact ⟨ws, by rw [upd_ne ne]; exact e, RDs.nx0 st n r⟩
    | dic l => exact q
    | dead => exact q
  · obtain ⟨u, q, q2⟩ := st.used a ha
    have ne : a ≠ p := fun z => (st.hid p hp).1 (z ▸ ha)
    exact ⟨u, by rw [upd_ne ne]; exact q, q2⟩
  · obtain ⟨h1, u, q, q2⟩ := st.hid a ha
    refine ⟨h1, ?_⟩
    by_cases z : a = p
    · subst z; exact ⟨_, upd_same, hc'⟩
    · exact ⟨u, by rw [upd_ne z]; exact q, q2⟩
/-- it is done: a list by value, or a cell -/
theorem hid_done {p : Addr} {hid : List Addr} {vs : List V} {l : List D} (st : Sto c m S H) (hm : m.hid = p :: hid) (hn : p ∉ hid) (e : H p = some (.lst vs)) (r : RDs c.K m S H vs l) {cell : Bool} {d : D} (q : mkL cell l S = some (d, S')) :
    ∃ m', Sto c m' S' H ∧ Nx0 m S H m' S' H ∧ m'.hid = hid ∧ RD c.K m' S' H (.ref p) d := by
  have hp : p ∈ m.hid := by rw [hm]; exact List.mem_cons_self
  have inHid : ∀ a ∈ hid, a ∈ m.hid := fun a h => by rw [hm]; exact List.mem_cons_of_mem _ h
  cases cell with
  | false =>
    simp only [mkL, Option.map_eq_some_iff] at q
    obtain ⟨ps, e1, e2⟩ := q
    cases e2
    have e3 := toDats_some e1
    subst e3
    have lv : ∀ a, Lv ⟨m.cs, hid⟩ S a → Lv m S a := fun a h => by
      rcases h with h | h
      · exact .inl h
      · exact .inr (inHid a h)
    have n : Nx0 m S H ⟨m.cs, hid⟩ S H := ⟨⟨[], by simp⟩, fun _ _ h _ _ => h, fun a h => .inr (lv a h), fun _ h => h⟩
    refine ⟨⟨m.cs, hid⟩, ⟨st.len, st.nd, fun k a x h1 h2 => ?_, st.wf, st.used, fun a ha => st.hid a (inHid a ha), st.tabs⟩, n, rfl, .lst e ?_ (Rps.nx0 st n (Rps.of_paired r))⟩
    · have z := st.cell k a x h1 h2
      cases x with
      | lst l =>
        obtain ⟨ws, e, r⟩ := z
        exact ⟨ws, e, RDs.nx0 st n r⟩
      | dic l => exact z
      | dead => exact z
    · rintro (⟨k, x, h1, _, _⟩ | h)
      · exact (st.hid p hp).1 (List.mem_of_getElem? h1)
      · exact hn h
  | true =>
    cases q
    have lv : ∀ a, Lv ⟨m.cs ++ [p], hid⟩ (S ++ [.lst l]) a → Lv m S a := by
      rintro a (⟨n, x, h1, h2, h3⟩ | h)
      · have h1 : (m.cs ++ [p])[n]? = some a := h1
        by_cases hn : n < m.cs.length
        · rw [List.getElem?_append_left hn] at h1
          rw [List.getElem?_append_left (by rw [← st.len]; exact hn)] at h2
          exact .inl ⟨n, x, h1, h2, h3⟩
        · rw [List.getElem?_append_right (Nat.le_of_not_lt hn)] at h1
          have z : a ∈ [p] := List.mem_of_getElem? h1
          have z : a = p := by simpa using z
          subst z
          exact .inr hp
      · exact .inr (inHid a h)
    have n : Nx0 m S H ⟨m.cs ++ [p], hid⟩ (S ++ [.lst l]) H := ⟨⟨[p], rfl⟩, fun _ _ h _ _ => h, fun a h => .inr (lv a h), fun _ h => h⟩
    refine ⟨⟨m.cs ++ [p], hid⟩, ⟨by simp [st.len], ?_, fun k a x h1 h2 => ?_, fun k l' h d hd => ?_, fun a ha => ?_, fun a ha => ?_, st.tabs⟩, n, rfl, p, ?_, rfl⟩
    · refine List.nodup_append.mpr ⟨st.nd, by simp, fun a ha b hb z => ?_⟩
      have : b = p := by simpa using hb
      subst this z
      exact (st.hid a hp).1 ha
    · have h1 : (m.cs ++ [p])[k]? = some a := h1
      by_cases hk : k < m.cs.length
      · rw [List.getElem?_append_left hk] at h1
        rw [List.getElem?_append_left (by rw [← st.len]; exact hk)] at h2
        have z := st.cell k a x h1 h2
        cases x with
        | lst l' =>
          obtain ⟨ws, e, r'⟩ := z
          exact ⟨ws, e, RDs.nx0 st n r'⟩
        | dic l => exact z
        | dead => exact z
      · have hk' : m.cs.length ≤ k := Nat.le_of_not_lt hk
        rw [List.getElem?_append_right hk'] at h1
        rw [List.getElem?_append_right (by rw [← st.len]; exact hk')] at h2
        have e1 : a ∈ [p] := List.mem_of_getElem? h1
        have e2 : x ∈ [Cell.lst l] := List.mem_of_getElem? h2
        have e1 : a = p := by simpa using e1
        have e2 : x = Cell.lst l := by simpa using e2
        subst e1 e2
        exact ⟨vs, e, RDs.nx0 st n r⟩
    · by_cases hk : k < S.length
      · rw [List.getElem?_append_left hk] at h
        exact st.wf k l' h d hd
      · rw [List.getElem?_append_right (Nat.le_of_not_lt hk)] at h
        have e2 : Cell.lst l' ∈ [Cell.lst l] := List.mem_of_getElem? h
        have e2 : l' = l := by simpa using e2
        subst e2
        obtain ⟨v, hv⟩ := RDs.mem r d hd
        have q := below_of st hv
        cases d with
        | dat p => rfl
        | scr p => rfl
        | ref j =>
          simp only [below, Nat.blt_eq] at q ⊢
          omega
    · rcases List.mem_append.mp (show a ∈ m.cs ++ [p] from ha) with z | z
      · exact st.used a z
      · have : a = p := by simpa using z
        subst this
        exact ⟨_, e, rfl⟩
    · obtain ⟨h1, ws, z⟩ := st.hid a (inHid a ha)
      refine ⟨fun y => ?_, ws, z⟩
      rcases List.mem_append.mp (show a ∈ m.cs ++ [p] from y) with w | w
      · exact h1 w
      · have : a = p := by simpa using w
        subst this
        exact hn ha
    · show (m.cs ++ [p])[S.length]? = some p
      rw [List.getElem?_append_right (by rw [st.len]; exact Nat.le_refl _), st.len]
      simp
/-! ### slots -/
def EvOk (c : Cfg) (m : Mp) (S : Store) (H : Hp) (σ : L2.St) (ev : Ev) : Prop :=
  σ.length = ev.length ∧ ∀ (i : Nat) d, ev[i]? = some (some d) → ∃ v, σ[i]? = some (some v) ∧ RD c.K m S H v d
theorem EvOk.nx0 {σ : L2.St} {ev : Ev} (st : Sto c m S H) (n : Nx0 m S H m' S' H') (h : EvOk c m S H σ ev) : EvOk c m' S' H' σ ev :=
  ⟨h.1, fun i d e => let ⟨v, h1, h2⟩ := h.2 i d e; ⟨v, h1, h2.nx0 st n⟩⟩
theorem EvOk.nxt {σ : L2.St} {ev : Ev} (st : Sto c m S H) (n : Nxt m S H m' S' H') (h : EvOk c m S H σ ev) : EvOk c m' S' H' σ ev :=
  ⟨h.1, fun i d e => let ⟨v, h1, h2⟩ := h.2 i d e; ⟨v, h1, h2.nxt st n⟩⟩
theorem EvOk.set {σ : L2.St} {ev : Ev} (h : EvOk c m S H σ ev) (i : Nat) (r : RD c.K m S H v d) : EvOk c m S H (σ.set i (some v)) (ev.set i (some d)) := by
  refine ⟨by simp [h.1], fun j e q => ?_⟩
  by_cases hj : i = j
  · subst hj
    have hi : i < ev.length := by
      have := (List.getElem?_eq_some_iff.mp q).1
      simpa using this
    rw [List.getElem?_set_self hi] at q
    cases q
    exact ⟨v, by rw [List.getElem?_set_self (by rw [h.1]; exact hi)], r⟩
  · rw [List.getElem?_set_ne hj] at q
    rw [List.getElem?_set_ne hj]
    exact h.2 j e q
theorem EvOk.unset {σ : L2.St} {ev : Ev} (h : EvOk c m S H σ ev) (i : Nat) : EvOk c m S H (σ.set i none) (ev.set i none) := by
  refine ⟨by simp [h.1], fun j e q => ?_⟩
  by_cases hj : i = j
  · subst hj
    have hi : i < ev.length := by
      have := (List.getElem?_eq_some_iff.mp q).1
      simpa using this
    rw [List.getElem?_set_self hi] at q
    cases q
  · rw [List.getElem?_set_ne hj] at q
    rw [List.getElem?_set_ne hj]
    exact h.2 j e q
theorem EvOk.wipe {σ : L2.St} {ev : Ev} (h : EvOk c m S H σ ev) : ∀ vs : List Nat, EvOk c m S H (wipe σ vs) (wipeE ev vs)
  | [] => h
  | v :: vs => (EvOk.wipe h vs).unset v
end
end MP
end
section
/-! MiniPy: readings; operators. -/
namespace MP
open PySem PySem.Spec PyProof.Rows L2

/-- how a raised thing lies: its class, its own dict with the field -/
def RX (c : Cfg) (m : Mp) (S : Store) (H : Hp) (e : Exc) (cls : Value) (dd : Option Addr) : Prop :=
  ∃ C f, c.XT[e.cls]? = some (C, f) ∧ cls = .ref C ∧ match e.arg with
    | none => True
    | some p => ∃ d v, dd = some d ∧ H d = some (.xd [(f, v)]) ∧ Rp c.K H (Lv m S) v p
def Lft {α : Type} (c : Cfg) (W : WX) (σ : L2.St) (m : Mp) (S : Store) (H : Hp) (r : Res α) (P : α → Mp → Store → Hp → Prop) : Prop := match r with
  | .ok a S' => ∀ m' H', Sto c m' S' H' → Nxt m S H m' S' H' → P a m' S' H'
  | .exc e S' => ∀ m' H' cls dd, Sto c m' S' H' → Nxt m S H m' S' H' → RX c m' S' H' e cls dd → W cls dd σ H'
  | .fail => False
/-- the readings of an expression, of a test, of arguments -/
def rdE (c : Cfg) (W : WX) (f : SE) : TE := fun σ H Q => ∃ m S ev, Sto c m S H ∧ EvOk c m S H σ ev ∧ Lft c W σ m S H (f ev S) fun d m' S' H' => ∀ v, RD c.K m' S' H' v d → Q v H'
def rdT (c : Cfg) (W : WX) (f : Ev → Store → Res Bool) : TT := fun σ H Q => ∃ m S ev, Sto c m S H ∧ EvOk c m S H σ ev ∧ Lft c W σ m S H (f ev S) fun b _ _ H' => Q b H'
def rdA (c : Cfg) (W : WX) (f : SL) : TA := fun σ H Q => ∃ m S ev, Sto c m S H ∧ EvOk c m S H σ ev ∧ Lft c W σ m S H (f ev S) fun ds m' S' H' => ∀ vs, RDs c.K m' S' H' vs ds → Q vs H'
section
variable {c : Cfg} {W : WX} {σ : L2.St} {m m' m1 : Mp} {S S' S1 : Store} {H H' H1 : Hp} {α β : Type}
theorem Lft.from_ {r : Res α} {P : α → Mp → Store → Hp → Prop} (n : Nxt m S H m1 S1 H1) (h : Lft c W σ m S H r P) : Lft c W σ m1 S1 H1 r P := by
  cases r with
  | ok a S' => exact fun m' H' st n' => h m' H' st (n.trans n')
  | exc e S' => exact fun m' H' cls dd st n' x => h m' H' cls dd st (n.trans n') x
  | fail => exact h
theorem Lft.bind {r : Res α} {k : α → Store → Res β} {P : β → Mp → Store → Hp → Prop} (h : Lft c W σ m S H (r.bind k) P) :
    Lft c W σ m S H r fun a m1 S1 H1 => Lft c W σ m1 S1 H1 (k a S1) P := by
  cases r with
  | ok a S' => exact fun m' H' _ n => Lft.from_ n h
  | exc e S' => exact h
  | fail => exact h
theorem Lft.mono {r : Res α} {P P' : α → Mp → Store → Hp → Prop} (h : Lft c W σ m S H r P) (q : ∀ a m' S' H', Sto c m' S' H' → Nxt m S H m' S' H' → P a m' S' H' → P' a m' S' H') : Lft c W σ m S H r P' := by
  cases r with
  | ok a S' => exact fun m' H' st n => q a m' S' H' st n (h m' H' st n)
  | exc e S' => exact h
  | fail => exact h
theorem Lft.ofO {o : Option α} {P : α → Mp → Store → Hp → Prop} (h : Lft c W σ m S H (Res.ofO o S) P) : ∃ a, o = some a ∧ ∀ m' H', Sto c m' S H' → Nxt m S H m' S H' → P a m' S H' := by
  cases o with
  | none => exact h.elim
  | some a => exact ⟨a, rfl, h⟩
theorem Lft.ofP {o : Option (α × Store)} {P : α → Mp → Store → Hp → Prop} (h : Lft c W σ m S H (Res.ofP o) P) : ∃ a S', o = some (a, S') ∧ ∀ m' H', Sto c m' S' H' → Nxt m S H m' S' H' → P a m' S' H' := by
  cases o with
  | none => exact h.elim
  | some a => exact ⟨a.1, a.2, rfl, h⟩
end
theorem peI {X : Cx} {e : Expr} {t t' : TE} (h : PE X e t) (i : ∀ σ H Q, t' σ H Q → t σ H Q) : PE X e t' := ⟨fun pins s σ H Q I w => h.run pins s σ H Q I (i σ H Q w)⟩
theorem ptI {X : Cx} {e : Expr} {t t' : TT} (h : PT X e t) (i : ∀ σ H Q, t' σ H Q → t σ H Q) : PT X e t' := ⟨fun pins s σ H Q I w => h.run pins s σ H Q I (i σ H Q w)⟩
theorem paI {X : Cx} {es : List Expr} {t t' : TA} (h : PA X es t) (i : ∀ σ H Q, t' σ H Q → t σ H Q) : PA X es t' := ⟨fun pos pins s σ H Q I w => h.run pos pins s σ H Q I (i σ H Q w)⟩
theorem psI {X : Cx} {st : Stmt} {t t' : TS} (h : PS X st t) (i : ∀ D σ H, t' D σ H → t D σ H) : PS X st t' := ⟨fun pins s σ H D I w => h.run pins s σ H D I (i D σ H w)⟩
theorem pssI {X : Cx} {st : List Stmt} {t t' : TS} (h : PSs X st t) (i : ∀ D σ H, t' D σ H → t D σ H) : PSs X st t' := ⟨fun pins s σ H D I w => h.run pins s σ H D I (i D σ H w)⟩
/-- one operand, two operands, by values -/
def Op1 (c : Cfg) (g : D → Store → PR) : V → Hp → VK → Prop := fun x H Q => ∃ m S d1 d S', Sto c m S H ∧ RD c.K m S H x d1 ∧ g d1 S = some (d, S') ∧ ∀ m' H' v, Sto c m' S' H' → Nxt m S H m' S' H' → RD c.K m' S' H' v d → Q v H'
def Op2 (c : Cfg) (g : D → D → Store → PR) : R2 := fun x y H Q => ∃ m S d1 d2 d S', Sto c m S H ∧ RD c.K m S H x d1 ∧ RD c.K m S H y d2 ∧ g d1 d2 S = some (d, S') ∧ ∀ m' H' v, Sto c m' S' H' → Nxt m S H m' S' H' → RD c.K m' S' H' v d → Q v H'
def OpL (c : Cfg) (g : List D → Store → PR) : List V → Hp → VK → Prop := fun xs H Q => ∃ m S ds d S', Sto c m S H ∧ RDs c.K m S H xs ds ∧ g ds S = some (d, S') ∧ ∀ m' H' v, Sto c m' S' H' → Nxt m S H m' S' H' → RD c.K m' S' H' v d → Q v H'
section
variable {c : Cfg} {W : WX} {σ : L2.St} {H : Hp} {Q : VK} {fa fb : SE}
theorem rd_one {g : D → Store → PR} (h : rdE c W (fun ev S => (fa ev S).bind fun x S1 => Res.ofP (g x S1)) σ H Q) : rdE c W fa σ H fun x H1 => Op1 c g x H1 Q := by
  obtain ⟨m, S, ev, st, eo, h⟩ := h
  refine ⟨m, S, ev, st, eo, (Lft.bind h).mono fun d1 m1 S1 H1 st1 n1 h1 v1 r1 => ?_⟩
  obtain ⟨d, S', e, q⟩ := Lft.ofP h1
  exact ⟨m1, S1, d1, d, S', st1, r1, e, fun m' H' v s n r => q m' H' s n v r⟩
theorem rd_two {g : D → D → Store → PR} (h : rdE c W (fun ev S => (fa ev S).bind fun x S1 => (fb ev S1).bind fun y S2 => Res.ofP (g x y S2)) σ H Q) :
    rdE c W fa σ H fun x H1 => rdE c W fb σ H1 fun y H2 => Op2 c g x y H2 Q := by
  obtain ⟨m, S, ev, st, eo, h⟩ := h
  refine ⟨m, S, ev, st, eo, (Lft.bind h).mono fun d1 m1 S1 H1 st1 n1 h1 v1 r1 => ?_⟩
  refine ⟨m1, S1, ev, st1, eo.nxt st n1, (Lft.bind h1).mono fun d2 m2 S2 H2 st2 n2 h2 v2 r2 => ?_⟩
  obtain ⟨d, S', e, q⟩ := Lft.ofP h2
  exact ⟨m2, S2, d1, d2, d, S', st2, r1.nxt st1 n2, r2, e, fun m' H' v s n r => q m' H' s n v r⟩
end
/-! ### operators -/
section
variable {c : Cfg} {m m' : Mp} {S S' : Store} {H H' : Hp} {x y v : V} {d : D} {Q : VK}
theorem rd_int {i : Int} (h : RD c.K m S H x (.dat (.int i))) : x = .int i := by cases h; rfl
theorem rd_bool {b : Bool} (h : RD c.K m S H x (.dat (.bool b))) : x = .bl b := by cases h; rfl
theorem rd_str {z : PySem.Str} (h : RD c.K m S H x (.dat (.str z))) : x = .str z := by cases h; rfl
theorem rd_non (h : RD c.K m S H x (.dat .none)) : x = .non := by cases h; rfl
theorem rd_tup {ps : List PyData} (h : RD c.K m S H x (.dat (.tuple ps))) : ∃ a vs, x = .ref a ∧ SqT c.K H a vs ∧ Rps c.K H (Lv m S) vs ps := by
  cases h with
  | tup h1 h2 => exact ⟨_, _, rfl, h1, h2⟩
theorem fits_ok {n : Nat} (h : fits n = true) : n ≤ sizeLine := by
  rw [sizeLine_eq]
  exact Nat.ble_eq.mp h
theorem RDs.app {vs ws : List V} {ds es : List D} (a : RDs c.K m S H vs ds) (b : RDs c.K m S H ws es) : RDs c.K m S H (vs ++ ws) (ds ++ es) := by
  induction a with
  | nil => exact b
  | cons h _ ih => exact .cons h ih
theorem Rps.app : ∀ {ps qs : List PyData} {vs ws : List V} {L : Addr → Prop}, Rps c.K H L vs ps → Rps c.K H L ws qs → Rps c.K H L (vs ++ ws) (ps ++ qs)
  | [], _, _, _, _, h, k => by cases h; exact k
  | p :: ps, _, _, _, _, h, k => by
    cases h with
    | cons h1 h2 => exact .cons h1 (Rps.app h2 k)
theorem RDs.len {vs : List V} {ds : List D} (a : RDs c.K m S H vs ds) : vs.length = ds.length := Paired.length a
section
variable {X : Cx} (hK : X.K = c.K)
include hK
theorem op_addL {d1 d2 : D} {S' : Store} {pins : List (Addr × Obj)} {s : Shared} {σ : L2.St} {u w : Value} (st : Sto c m S H) (r1 : RD c.K m S H x d1) (r2 : RD c.K m S H y d2) (e : addL S d1 d2 = some (d, S'))
    (k : ∀ m' H' v, Sto c m' S' H' → Nxt m S H m' S' H' → RD c.K m' S' H' v d → Q v H') (I : Inv X pins σ H s) (rx : RelV x u) (ry : RelV y w) : wpAny (model X.prog X.w) X.A (binaryOp .Add u w) (EP X pins σ Q) X.xe s := by
  unfold addL at e
  split at e
  · rename_i l1 l2 e1 e2
    split at e
    · rename_i hf
      obtain ⟨a, vs, ex, ha, ra⟩ := getL_ok st r1 e1
      obtain ⟨b, ws, ey, hb, rb⟩ := getL_ok st r2 e2
      refine op_cat pins s σ H x y u w Q I rx ry ⟨a, b, vs, ws, ex, ey, ha, hb, ?_, fun p hp => ?_⟩
      · rw [ra.len, rb.len]; exact fits_ok hf
      · obtain ⟨m2, s2, n2, q2⟩ := mkL_ok st hp (ra.app rb) e
        exact k _ _ _ s2 n2 q2
    · cases e
  · cases e
theorem op_addV : OpR X (binaryOp .Add) (Op2 c (binop .add)) := by
  rintro pins s σ H x y u w Q I rx ry ⟨m, S, d1, d2, d, S', st, r1, r2, e, k⟩
  replace e : addV S d1 d2 = some (d, S') := e
  unfold addV at e
  split at e
  · rename_i i j
    cases e
    exact op_add pins s σ H x y u w Q I rx ry ⟨i, j, rd_int r1, rd_int r2, k m H _ st .refl (.int _)⟩
  · rename_i i j
    split at e
    · rename_i hf
      cases e
      exact op_add_str pins s σ H x y u w Q I rx ry ⟨i, j, rd_str r1, rd_str r2, fits_ok hf, k m H _ st .refl (.str _)⟩
    · cases e
  · rename_i as bs
    split at e
    · rename_i hf
      cases e
      obtain ⟨a, vs, ex, ha, ra⟩ := rd_tup r1
      obtain ⟨b, ws, ey, hb, rb⟩ := rd_tup r2
      rw [← hK] at ha hb
      have la : vs.length = as.length := ra.length
      have lb : ws.length = bs.length := rb.length
      refine op_catA pins s σ H x y u w Q I rx ry ⟨a, b, vs, ws, ex, ey, ha, hb, by rw [la, lb]; exact fits_ok hf, fun z => ?_, fun z1 z2 => ?_, fun z1 z2 p hp => ?_⟩
      · have : as = [] := List.eq_nil_of_length_eq_zero (by rw [← la, z]; rfl)
        subst this
        exact k m H _ st .refl (by rw [List.nil_append, ← ey]; exact r2)
      · have : bs = [] := List.eq_nil_of_length_eq_zero (by rw [← lb, z2]; rfl)
        subst this
        exact k m H _ st .refl (by rw [List.append_nil, ← ex]; exact r1)
      · exact k m _ _ (st.new hp) (nxt_plain hp) (rp_tup st hp (ra.app rb))
    · cases e
  · exact op_addL hK st r1 r2 e k I rx ry
theorem onDat_some {f : PyData → PyData → Option PyData} {d1 d2 : D} (e : onDat f d1 d2 S = some (d, S')) : ∃ p q r, d1 = .dat p ∧ d2 = .dat q ∧ f p q = some r ∧ d = .dat r ∧ S' = S := by
  unfold onDat at e
  split at e
  · simp only [Option.map_eq_some_iff] at e
    obtain ⟨r, h1, h2⟩ := e
    cases h2
    exact ⟨_, _, r, rfl, rfl, h1, rfl, rfl⟩
  · cases e
theorem op_subV : OpR X (binaryOp .Sub) (Op2 c (binop .sub)) := by
  rintro pins s σ H x y u w Q I rx ry ⟨m, S, d1, d2, d, S', st, r1, r2, e, k⟩
  obtain ⟨p, q, r, h1, h2, h3, h4, h5⟩ := onDat_some hK (show onDat subV d1 d2 S = some (d, S') from e)
  subst h1 h2 h4 h5
  clear e
  unfold subV at h3
  split at h3
  · cases h3
    exact op_sub pins s σ H x y u w Q I rx ry ⟨_, _, rd_int r1, rd_int r2, k m H _ st .refl (.int _)⟩
  · cases h3
theorem op_fdivV : OpR X (binaryOp .FloorDiv) (Op2 c (binop .fdiv)) := by
  rintro pins s σ H x y u w Q I rx ry ⟨m, S, d1, d2, d, S', st, r1, r2, e, k⟩
  obtain ⟨p, q, r, h1, h2, h3, h4, h5⟩ := onDat_some hK (show onDat fdivV d1 d2 S = some (d, S') from e)
  subst h1 h2 h4 h5
  clear e
  unfold fdivV at h3
  split at h3
  · split at h3
    · rename_i hc
      cases h3
      simp only [Bool.and_eq_true, decide_eq_true_eq, Nat.blt_eq] at hc
      exact op_fdivW pins s σ H x y u w Q I rx ry ⟨_, _, rd_int r1, rd_int r2, hc, k m H _ st .refl (.int _)⟩
    · cases h3
  · cases h3
theorem op_modV : OpR X (binaryOp .Mod) (Op2 c (binop .mod)) := by
  rintro pins s σ H x y u w Q I rx ry ⟨m, S, d1, d2, d, S', st, r1, r2, e, k⟩
  obtain ⟨p, q, r, h1, h2, h3, h4, h5⟩ := onDat_some hK (show onDat modV d1 d2 S = some (d, S') from e)
  subst h1 h2 h4 h5
  clear e
  unfold modV at h3
  split at h3
  · split at h3
    · rename_i hc
      cases h3
      exact op_mod pins s σ H x y u w Q I rx ry ⟨_, _, rd_int r1, rd_int r2, of_decide_eq_true hc, k m H _ st .refl (.int _)⟩
    · cases h3
  · cases h3
theorem op_powV : OpR X (binaryOp .Pow) (Op2 c (binop .pow)) := by
  rintro pins s σ H x y u w Q I rx ry ⟨m, S, d1, d2, d, S', st, r1, r2, e, k⟩
  obtain ⟨p, q, r, h1, h2, h3, h4, h5⟩ := onDat_some hK (show onDat powV d1 d2 S = some (d, S') from e)
  subst h1 h2 h4 h5
  clear e
  unfold powV at h3
  split at h3
  · split at h3
    · rename_i hc
      cases h3
      simp only [Bool.and_eq_true, decide_eq_true_eq, Nat.blt_eq] at hc
      exact op_pow pins s σ H x y u w Q I rx ry ⟨_, _, rd_int r1, rd_int r2, ⟨hc.1.1, hc.1.2, hc.2⟩, k m H _ st .refl (.int _)⟩
    · cases h3
  · cases h3
omit hK in
theorem RDs.rep {vs : List V} {ds : List D} (a : RDs c.K m S H vs ds) : ∀ n : Nat, RDs c.K m S H (List.replicate n vs).flatten (List.replicate n ds).flatten
  | 0 => .nil
  | n + 1 => by
    rw [List.replicate_succ, List.replicate_succ, List.flatten_cons, List.flatten_cons]
    exact a.app (RDs.rep a n)
omit hK in
theorem Rps.rep {vs : List V} {ps : List PyData} {L : Addr → Prop} (a : Rps c.K H L vs ps) : ∀ n : Nat, Rps c.K H L (List.replicate n vs).flatten (List.replicate n ps).flatten
  | 0 => .nil
  | n + 1 => by
    rw [List.replicate_succ, List.replicate_succ, List.flatten_cons, List.flatten_cons]
    exact a.app (Rps.rep a n)
theorem op_mulV : OpR X (binaryOp .Mult) (Op2 c (binop .mul)) := by
  rintro pins s σ H x y u w Q I rx ry ⟨m, S, d1, d2, d, S', st, r1, r2, e, k⟩
  replace e : mulV S d1 d2 = some (d, S') := e
  unfold mulV at e
  split at e
  · split at e
    · rename_i hc
      cases e
      exact op_mulW pins s σ H x y u w Q I rx ry ⟨_, _, rd_int r1, rd_int r2, Nat.blt_eq.mp hc, k m H _ st .refl (.int _)⟩
    · cases e
  · rename_i as j
    split at e
    · rename_i hc
      cases e
      simp only [Bool.and_eq_true, decide_eq_true_eq, Nat.ble_eq, Bool.not_eq_true', List.isEmpty_eq_false_iff] at hc
      obtain ⟨a, vs, ex, ha, ra⟩ := rd_tup r1
      rw [← hK] at ha
      have la : vs.length = as.length := ra.length
      refine op_repT pins s σ H x y u w Q I rx ry ⟨a, j, vs, ex, rd_int r2, ha, fun z => hc.1.1.1 ?_, hc.1.2, hc.2, by rw [la]; exact hc.1.1.2, fun p hp => ?_⟩
      · exact List.eq_nil_of_length_eq_zero (by rw [← la, z]; rfl)
      · exact k m _ _ (st.new hp) (nxt_plain hp) (rp_tup st hp (ra.rep _))
    · cases e
  · rename_i d1 j _ _
    simp only [Option.bind_eq_some_iff] at e
    obtain ⟨l, e1, e⟩ := e
    split at e
    · rename_i hc
      simp only [Bool.and_eq_true, decide_eq_true_eq, Nat.ble_eq] at hc
      obtain ⟨a, vs, ex, ha, ra⟩ := getL_ok st r1 e1
      refine op_rep pins s σ H x y u w Q I rx ry ⟨a, j, vs, ex, rd_int r2, ha, by omega, by omega, ?_, fun p hp => ?_⟩
      · rw [sizeLine_eq, ra.len]
        have h1 : l.length ≤ 1000 := hc.2
        have h2 : j.toNat ≤ 1000 := by omega
        exact Nat.le_trans (Nat.mul_le_mul h1 h2) (by decide)
      · obtain ⟨m2, s2, n2, q2⟩ := mkL_ok st hp (ra.rep _) e
        exact k _ _ _ s2 n2 q2
    · cases e
  · cases e
end
end
end MP
end
section
/-! MiniPy: comparisons, truth, places, slices, built-ins, methods. -/
namespace MP
open PySem PySem.Spec PyProof.Rows L2
section
variable {c : Cfg} {m m' : Mp} {S S' : Store} {H H' : Hp} {x y v : V} {d : D} {Q : VK}
mutual
theorem Rp.dp {K : PySem.W.Frag} {L : Addr → Prop} : ∀ {p : PyData} {v : V}, Rp K H L v p → Dp K H v p
  | .none, _, h => by cases h; exact .non
  | .bool b, _, h => by cases h; exact .bl b
  | .int i, _, h => by cases h; exact .int i
  | .str z, _, h => by cases h; exact .str z
  | .tuple ps, _, h => by
    cases h with
    | tup h1 h2 => exact .tup h1 (Rps.dp h2)
  | .list ps, _, h => by
    cases h with
    | lst h1 _ h3 => exact .lst (SqL.of h1) (Rps.dp h3)
  | .dict _, _, h => by cases h
theorem Rps.dp {K : PySem.W.Frag} {L : Addr → Prop} : ∀ {ps : List PyData} {vs : List V}, Rps K H L vs ps → DpAll K H vs ps
  | [], _, h => by cases h; exact .nil
  | p :: ps, _, h => by
    cases h with
    | cons h1 h2 => exact .cons (Rp.dp h1) (Rps.dp h2)
end
theorem cellAt_some {n : Nat} {l : List D} (h : cellAt S n = some l) : S[n]? = some (.lst l) := by
  unfold cellAt at h
  split at h
  · rename_i l' q
    cases h
    exact q
  · cases h
theorem toP_dp (st : Sto c m S H) (r : RD c.K m S H x d) {p : PyData} (e : toP S d = some p) : Dp c.K H x p := by
  cases d with
  | dat q => cases e; exact Rp.dp r
  | scr l => cases e
  | ref n =>
    obtain ⟨a, e1, rfl⟩ := r
    simp only [toP, Option.map_eq_some_iff, Option.bind_eq_some_iff] at e
    obtain ⟨ps, ⟨l, h1, h2⟩, rfl⟩ := e
    obtain ⟨vs, h3, h4⟩ := st.cell n a _ e1 (cellAt_some h1)
    have h5 := toDats_some h2
    subst h5
    exact .lst (SqL.of h3) (Rps.dp (Rps.of_paired h4))
theorem intsOf_vs {L : Addr → Prop} {K : PySem.W.Frag} : ∀ {ps : List PyData} {vs : List V} {ns : List Int}, Rps K H L vs ps → intsOf ps = some ns → vs = ns.map V.int
  | [], _, ns, h, e => by cases h; cases e; rfl
  | .int i :: r, _, ns, h, e => by
    cases h with
    | cons h1 h2 =>
      simp only [intsOf, Option.map_eq_some_iff] at e
      obtain ⟨l, e1, e2⟩ := e
      subst e2
      cases h1
      rw [intsOf_vs h2 e1]
      rfl
  | .none :: _, _, _, _, e => by cases e
  | .bool _ :: _, _, _, _, e => by cases e
  | .str _ :: _, _, _, _, e => by cases e
  | .list _ :: _, _, _, _, e => by cases e
  | .tuple _ :: _, _, _, _, e => by cases e
  | .dict _ :: _, _, _, _, e => by cases e
theorem boolsOf_vs {L : Addr → Prop} {K : PySem.W.Frag} : ∀ {ps : List PyData} {vs : List V} {ns : List Bool}, Rps K H L vs ps → boolsOf ps = some ns → vs = ns.map V.bl
  | [], _, ns, h, e => by cases h; cases e; rfl
  | .bool i :: r, _, ns, h, e => by
    cases h with
    | cons h1 h2 =>
      simp only [boolsOf, Option.map_eq_some_iff] at e
      obtain ⟨l, e1, e2⟩ := e
      subst e2
      cases h1
      rw [boolsOf_vs h2 e1]
      rfl
  | .none :: _, _, _, _, e => by cases e
  | .int _ :: _, _, _, _, e => by cases e
  | .str _ :: _, _, _, _, e => by cases e
  | .list _ :: _, _, _, _, e => by cases e
  | .tuple _ :: _, _, _, _, e => by cases e
  | .dict _ :: _, _, _, _, e => by cases e
theorem flat_V {p : PyData} {L : Addr → Prop} {K : PySem.W.Frag} (h : Dp K H x p) (f : flatP p = true) : flatV x = true := by
  cases p with
  | none => cases h; rfl
  | bool b => cases h; rfl
  | int i => cases h; rfl
  | str z => cases h; rfl
  | _ => cases f
theorem flat_eqV {p q : PyData} {K : PySem.W.Frag} (hx : Dp K H x p) (hy : Dp K H y q) (fp : flatP p = true) (fq : flatP q = true) : eqV y x = PyData.eqv q p := by
  cases p with
  | none => cases hx; cases q with
    | none => cases hy; rfl
    | bool b => cases hy; rfl
    | int i => cases hy; rfl
    | str z => cases hy; rfl
    | _ => cases fq
  | bool b => cases hx; cases q with
    | none => cases hy; rfl
    | bool b => cases hy; rfl
    | int i => cases hy; rfl
    | str z => cases hy; rfl
    | _ => cases fq
  | int i => cases hx; cases q with
    | none => cases hy; rfl
    | bool b => cases hy; rfl
    | int i => cases hy; rfl
    | str z => cases hy; rfl
    | _ => cases fq
  | str z => cases hx; cases q with
    | none => cases hy; rfl
    | bool b => cases hy; rfl
    | int i => cases hy; rfl
    | str z => cases hy; rfl
    | _ => cases fq
  | _ => cases fp
theorem inV_eq {p : PyData} {K : PySem.W.Frag} (hx : Dp K H x p) (fp : flatP p = true) : ∀ {qs : List PyData} {vs : List V}, DpAll K H vs qs → qs.all flatP = true → inV x vs = qs.any (fun z => PyData.eqv z p) ∧ vs.all flatV = true
  | [], _, h, _ => by cases h; exact ⟨rfl, rfl⟩
  | q :: qs, _, h, f => by
    cases h with
    | cons h1 h2 =>
      simp only [List.all_cons, Bool.and_eq_true] at f
      obtain ⟨i1, i2⟩ := inV_eq hx fp h2 f.2
      refine ⟨?_, ?_⟩
      · show (eqV _ x || inV x _) = _
        rw [i1, flat_eqV hx h1 fp f.1]
        rfl
      · rw [List.all_cons, flat_V (L := fun _ => False) h1 f.1, i2]
        rfl
def copOf : COp → CmpOp
  | .eq => .Eq | .ne => .NotEq | .lt => .Lt | .le => .LtE | .gt => .Gt | .ge => .GtE | .is => .Is | .isNot => .IsNot | .isIn => .In | .notIn => .NotIn
section
variable {X : Cx} (hK : X.K = c.K) (hu : X.A.units + 65 < cLine)
include hK hu
theorem cmp_done {op : COp} {d1 d2 : D} (st : Sto c m S H) (e : cmpR op d1 d2 S = some (d, S')) (k : ∀ m' H' v, Sto c m' S' H' → Nxt m S H m' S' H' → RD c.K m' S' H' v d → Q v H') : ∃ b, cmpV op S d1 d2 = some b ∧ Q (.bl b) H := by
  simp only [cmpR, Option.map_eq_some_iff] at e
  obtain ⟨b, h1, h2⟩ := e
  cases h2
  exact ⟨b, h1, k m H _ st .refl (.bl b)⟩
theorem onDat2_some {f : PyData → PyData → Option Bool} {d1 d2 : D} {b : Bool} (e : onDat2 f d1 d2 = some b) : ∃ p q, d1 = .dat p ∧ d2 = .dat q ∧ f p q = some b := by
  unfold onDat2 at e
  split at e
  · exact ⟨_, _, rfl, rfl, e⟩
  · cases e
theorem op_cmpV (op : COp) : OpR X (compareOp (copOf op)) (Op2 c (cmpR op)) := by
  rintro pins s σ H x y u w Q I rx ry ⟨m, S, d1, d2, d, S', st, r1, r2, e, k⟩
  obtain ⟨b, e0, q⟩ := cmp_done hK hu st e k
  clear e
  cases op with
  | eq =>
    have e : eqD S d1 d2 = some b := e0
    clear e0
    unfold eqD at e
    split at e
    · rename_i p p2 h1 h2
      split at e
      · rename_i hs
        cases e
        simp only [Bool.and_eq_true] at hs
        exact op_eqD (by omega) pins s σ H x y u w Q I rx ry ⟨p, p2, by rw [hK]; exact toP_dp st r1 h1, by rw [hK]; exact toP_dp st r2 h2, hs.1, hs.2, q⟩
      · cases e
    · cases e
  | ne =>
    have e : (eqD S d1 d2).map (!·) = some b := e0
    clear e0
    simp only [Option.map_eq_some_iff] at e
    obtain ⟨b', e, rfl⟩ := e
    unfold eqD at e
    split at e
    · rename_i p p2 h1 h2
      split at e
      · rename_i hs
        cases e
        simp only [Bool.and_eq_true] at hs
        exact op_neD (by omega) pins s σ H x y u w Q I rx ry ⟨p, p2, by rw [hK]; exact toP_dp st r1 h1, by rw [hK]; exact toP_dp st r2 h2, hs.1, hs.2, q⟩
      · cases e
    · cases e
  | lt =>
    obtain ⟨p, p2, rfl, rfl, e⟩ := onDat2_some hK hu (show onDat2 ltP d1 d2 = some b from e0)
    clear e0
    unfold ltP at e
    split at e
    · cases e
      exact op_lt pins s σ H x y u w Q I rx ry ⟨_, _, rd_int r1, rd_int r2, q⟩
    · split at e
      · rename_i xs ys h1 h2
        cases e
        obtain ⟨a, vs, ex, ha, ra⟩ := rd_tup r1
        obtain ⟨a2, ws, ey, hb, rb⟩ := rd_tup r2
        rw [intsOf_vs ra h1, ← hK] at ha
        rw [intsOf_vs rb h2, ← hK] at hb
        exact op_ltT (by omega) pins s σ H x y u w Q I rx ry ⟨a, a2, xs, ys, ex, ey, ha, hb, q⟩
      · cases e
    · cases e
  | le =>
    obtain ⟨p, p2, rfl, rfl, e⟩ := onDat2_some hK hu (show onDat2 (int2 fun i j => decide (i ≤ j)) d1 d2 = some b from e0)
    clear e0
    unfold int2 at e
    split at e
    · cases e
      exact op_le pins s σ H x y u w Q I rx ry ⟨_, _, rd_int r1, rd_int r2, q⟩
    · cases e
  | gt =>
    obtain ⟨p, p2, rfl, rfl, e⟩ := onDat2_some hK hu (show onDat2 (int2 fun i j => decide (j < i)) d1 d2 = some b from e0)
    clear e0
    unfold int2 at e
    split at e
    · cases e
      exact op_gt pins s σ H x y u w Q I rx ry ⟨_, _, rd_int r1, rd_int r2, q⟩
    · cases e
  | ge =>
    obtain ⟨p, p2, rfl, rfl, e⟩ := onDat2_some hK hu (show onDat2 (int2 fun i j => decide (j ≤ i)) d1 d2 = some b from e0)
    clear e0
    unfold int2 at e
    split at e
    · cases e
      exact op_ge pins s σ H x y u w Q I rx ry ⟨_, _, rd_int r1, rd_int r2, q⟩
    · cases e
  | is =>
    have e : isD d1 d2 = some b := e0
    clear e0
    have viaN : y = .non → decide (x = .non) = b → wpAny (model X.prog X.w) X.A (compareOp .Is u w) (EP X pins σ Q) X.xe s := fun hy hx => by
      subst hx
      exact op_isN pins s σ H x y u w Q I rx ry ⟨hy, q⟩
    cases d1 with
    | ref n =>
      obtain ⟨a, _, rfl⟩ := r1
      cases d2 with
      | dat p2 => cases p2 with
        | none => cases e; exact viaN (rd_non r2) (by simp)
        | _ => cases e
      | ref _ => cases e
      | scr _ => cases e
    | scr l => cases d2 <;> cases e
    | dat p =>
      cases d2 with
      | ref _ => cases e
      | scr _ => cases e
      | dat p2 =>
        cases p2 with
        | none =>
          cases p with
          | none => cases e; exact viaN (rd_non r2) (by rw [rd_non r1]; simp)
          | bool _ => cases e; exact viaN (rd_non r2) (by rw [rd_bool r1]; simp)
          | int _ => cases e; exact viaN (rd_non r2) (by rw [rd_int r1]; simp)
          | str _ => cases e; exact viaN (rd_non r2) (by rw [rd_str r1]; simp)
          | tuple _ => cases e; exact viaN (rd_non r2) (by obtain ⟨a, _, ex, _⟩ := rd_tup r1; rw [ex]; simp)
          | list _ => cases e; exact viaN (rd_non r2) (by cases r1; simp)
          | dict _ => cases r1
        | bool b2 =>
          cases p with
          | bool b1 =>
            cases e
            exact op_is_bl pins s σ H x y u w Q I rx ry ⟨b1, b2, rd_bool r1, rd_bool r2, q⟩
          | _ => cases e
        | _ => cases p <;> cases e
  | isNot =>
    have e : (isD d1 d2).map (!·) = some b := e0
    clear e0
    simp only [Option.map_eq_some_iff] at e
    obtain ⟨b', e, hb'⟩ := e
    have viaN : y = .non → decide (x = .non) = b' → wpAny (model X.prog X.w) X.A (compareOp .IsNot u w) (EP X pins σ Q) X.xe s := fun hy hx => by
      subst hx hb'
      exact op_notN pins s σ H x y u w Q I rx ry ⟨hy, q⟩
    cases d1 with
    | ref n =>
      obtain ⟨a, _, rfl⟩ := r1
      cases d2 with
      | dat p2 => cases p2 with
        | none => cases e; exact viaN (rd_non r2) (by simp)
        | _ => cases e
      | ref _ => cases e
      | scr _ => cases e
    | scr l => cases d2 <;> cases e
    | dat p =>
      cases d2 with
      | ref _ => cases e
      | scr _ => cases e
      | dat p2 =>
        cases p2 with
        | none =>
          cases p with
          | none => cases e; exact viaN (rd_non r2) (by rw [rd_non r1]; simp)
          | bool _ => cases e; exact viaN (rd_non r2) (by rw [rd_bool r1]; simp)
          | int _ => cases e; exact viaN (rd_non r2) (by rw [rd_int r1]; simp)
          | str _ => cases e; exact viaN (rd_non r2) (by rw [rd_str r1]; simp)
          | tuple _ => cases e; exact viaN (rd_non r2) (by obtain ⟨a, _, ex, _⟩ := rd_tup r1; rw [ex]; simp)
          | list _ => cases e; exact viaN (rd_non r2) (by cases r1; simp)
          | dict _ => cases r1
        | bool b2 =>
          cases p with
          | bool b1 =>
            cases e
            subst hb'
            exact op_isnot_bl pins s σ H x y u w Q I rx ry ⟨b1, b2, rd_bool r1, rd_bool r2, q⟩
          | _ => cases e
        | _ => cases p <;> cases e
  | isIn =>
    have e : inD S d1 d2 = some b := e0
    clear e0
    unfold inD at e
    split at e
    · rename_i p l h1 h2
      split at e
      · rename_i hs
        cases e
        simp only [Bool.and_eq_true] at hs
        have dy := toP_dp st r2 h2
        have dx := toP_dp st r1 h1
        cases dy with
        | tup hq ha =>
          obtain ⟨i1, i2⟩ := inV_eq dx hs.1 ha hs.2
          rw [← hK] at hq
          exact op_in_seq pins s σ H x _ u w Q I rx ry ⟨_, _, rfl, .inr hq, flat_V (L := fun _ => False) dx hs.1, i2, by simpa [i1] using q⟩
      · cases e
    · rename_i p l h1 h2
      split at e
      · rename_i hs
        cases e
        simp only [Bool.and_eq_true] at hs
        exact op_inD hu pins s σ H x y u w Q I rx ry ⟨p, l, by rw [hK]; exact toP_dp st r1 h1, by rw [hK]; exact toP_dp st r2 h2, hs.1, hs.2, q⟩
      · cases e
    · cases e
  | notIn =>
    have e : (inD S d1 d2).map (!·) = some b := e0
    clear e0
    simp only [Option.map_eq_some_iff] at e
    obtain ⟨b', e, rfl⟩ := e
    unfold inD at e
    split at e
    · rename_i p l h1 h2
      split at e
      · rename_i hs
        cases e
        simp only [Bool.and_eq_true] at hs
        have dy := toP_dp st r2 h2
        have dx := toP_dp st r1 h1
        cases dy with
        | tup hq ha =>
          obtain ⟨i1, i2⟩ := inV_eq dx hs.1 ha hs.2
          rw [← hK] at hq
          exact op_notIn_seq pins s σ H x _ u w Q I rx ry ⟨_, _, rfl, .inr hq, flat_V (L := fun _ => False) dx hs.1, i2, by simpa [i1] using q⟩
      · cases e
    · rename_i p l h1 h2
      split at e
      · rename_i hs
        cases e
        simp only [Bool.and_eq_true] at hs
        exact op_notInD hu pins s σ H x y u w Q I rx ry ⟨p, l, by rw [hK]; exact toP_dp st r1 h1, by rw [hK]; exact toP_dp st r2 h2, hs.1, hs.2, q⟩
      · cases e
    · cases e
end
/-! ### truth -/
theorem truth_ok (st : Sto c m S H) (r : RD c.K m S H x d) {b : Bool} (e : truth S d = some b) : TruV c.K x H b := by
  cases d with
  | scr l => cases e
  | ref n =>
    obtain ⟨a, e1, rfl⟩ := r
    have e : (cellAt S n).map (!·.isEmpty) = some b := e
    simp only [Option.map_eq_some_iff] at e
    obtain ⟨l, h1, h2⟩ := e
    subst h2
    obtain ⟨vs, h3, h4⟩ := st.cell n a _ e1 (cellAt_some h1)
    refine .inl ⟨vs, SqL.of h3, ?_⟩
    cases h4 <;> rfl
  | dat p =>
    cases p with
    | none => cases e; cases r; rfl
    | bool b => cases e; cases r; rfl
    | int i => cases e; cases r; rfl
    | str z => cases e
    | tuple l =>
      cases e
      obtain ⟨a, vs, rfl, ha, ra⟩ := rd_tup r
      refine .inr (.inl ⟨vs, ha, ?_⟩)
      cases ra <;> rfl
    | list l =>
      cases e
      cases r with
      | lst h1 _ h3 =>
        refine .inl ⟨_, SqL.of h1, ?_⟩
        cases h3 <;> rfl
    | dict l => cases e
/-! ### places and slices -/
theorem atI_some {α : Type} {l : List α} {i : Int} {a : α} (h : L2.atI l i = some a) : ∃ j, ixN l.length i = some j ∧ l[j]? = some a := by
  unfold L2.atI at h
  simp only [Option.bind_eq_some_iff] at h
  exact h
theorem RDs.at {vs : List V} {ds : List D} (r : RDs c.K m S H vs ds) {i : Int} {d : D} (h : L2.atI ds i = some d) : ∃ v, L2.atI vs i = some v ∧ RD c.K m S H v d := by
  obtain ⟨j, h1, h2⟩ := atI_some h
  have get : ∀ {vs : List V} {ds : List D} (r : RDs c.K m S H vs ds) {j : Nat}, ds[j]? = some d → ∃ v, vs[j]? = some v ∧ RD c.K m S H v d := by
    intro vs ds r
    induction r with
    | nil => intro j h; simp at h
    | cons a _ ih =>
      intro j h
      cases j with
      | zero => simp at h; subst h; exact ⟨_, rfl, a⟩
      | succ j => simpa using ih (j := j) (by simpa using h)
  obtain ⟨v, h3, h4⟩ := get r h2
  refine ⟨v, ?_, h4⟩
  unfold L2.atI
  rw [r.len, h1]
  exact h3
section
variable {X : Cx} (hK : X.K = c.K)
include hK
theorem ix_V : IxR X (Op2 c idxV) := by
  rintro value slice pins s σ H x y u w Q I rx ry ⟨m, S, d1, d2, d, S', st, r1, r2, e, k⟩ hs
  unfold idxV at e
  split at e
  · rename_i l i h1
    simp only [Option.map_eq_some_iff] at e
    obtain ⟨d', h2, h3⟩ := e
    cases h3
    obtain ⟨a, vs, rfl, ha, ra⟩ := getSeq_ok st r1 h1
    obtain ⟨v, h4, h5⟩ := ra.at h2
    have q := k m H v st .refl h5
    rw [← hK] at ha
    rcases ha with ha | ha
    · exact ix_list value slice pins s σ H _ y u w Q I rx ry ⟨a, vs, i, v, rfl, rd_int r2, ha, h4, q⟩ hs
    · exact ix_tup value slice pins s σ H _ y u w Q I rx ry ⟨a, vs, i, v, rfl, rd_int r2, ha, h4, q⟩ hs
  · cases e
theorem Rps.cut {K : PySem.W.Frag} {L : Addr → Prop} {vs : List V} {ps : List PyData} (r : Rps K H L vs ps) (lo hi : Option Int) : Rps K H L (cutV vs lo hi) (cutL ps lo hi) := by
  have tk : ∀ {ps : List PyData} {vs : List V} (n : Nat), Rps K H L vs ps → Rps K H L (vs.take n) (ps.take n) := by
    intro ps
    induction ps with
    | nil => intro vs n h; cases h; simp; exact .nil
    | cons p ps ih =>
      intro vs n h
      cases h with
      | cons h1 h2 =>
        cases n with
        | zero => exact .nil
        | succ n => exact .cons h1 (ih n h2)
  have dr : ∀ {ps : List PyData} {vs : List V} (n : Nat), Rps K H L vs ps → Rps K H L (vs.drop n) (ps.drop n) := by
    intro ps
    induction ps with
    | nil => intro vs n h; cases h; simp; exact .nil
    | cons p ps ih =>
      intro vs n h
      cases h with
      | cons h1 h2 =>
        cases n with
        | zero => exact .cons h1 h2
        | succ n => exact ih n h2
  unfold cutV cutL
  rw [r.length]
  exact tk _ (dr _ r)
def Op3 (c : Cfg) (g : D → Option Int → Option Int → Store → PR) : V → Option Int → Option Int → Hp → VK → Prop := fun x lo hi H Q => ∃ m S d1 d S', Sto c m S H ∧ RD c.K m S H x d1 ∧ g d1 lo hi S = some (d, S') ∧ ∀ m' H' v, Sto c m' S' H' → Nxt m S H m' S' H' → RD c.K m' S' H' v d → Q v H'
theorem sl_V : SlR X (Op3 c slV) := by
  rintro pins s σ H x u vl vu lo hi sl Q I rx hsl pl pu ⟨m, S, d1, d, S', st, r1, e, k⟩
  have hi_ : ∀ {l : List PyData}, HT.sIx l.length l.length hi ≤ l.length := HT.sIx_le _ _ (Nat.le_refl _) _
  unfold slV at e
  split at e
  · rename_i l
    cases e
    obtain ⟨a, vs, rfl, ha, ra⟩ := rd_tup r1
    rw [← hK] at ha
    refine sl_tupA pins s σ H _ u vl vu lo hi sl Q I rx hsl pl pu ⟨a, vs, rfl, ha, fun z => ?_, fun _ p hp => ?_⟩
    · have : cutL l lo hi = l := by
        unfold cutL
        rw [← ra.length, z.1, z.2, ra.length]
        simp
      exact k m H _ st .refl (by rw [this]; exact r1)
    · exact k m _ _ (st.new hp) (nxt_plain hp) (rp_tup st hp (Rps.cut hK ra lo hi))
  · simp only [Option.map_eq_some_iff, Option.bind_eq_some_iff] at e
    obtain ⟨ps, ⟨l, h1, h2⟩, h3⟩ := e
    cases h3
    obtain ⟨a, vs, rfl, ha, ra⟩ := getL_ok st r1 h1
    have h4 := toDats_some h2
    subst h4
    refine sl_list pins s σ H _ u vl vu lo hi sl Q I rx hsl pl pu ⟨a, vs, rfl, by rw [hK]; exact SqL.of ha, fun p hp => ?_⟩
    exact k m _ _ (st.new hp) (nxt_plain hp) (rp_lst st hp (Rps.cut hK (Rps.of_paired ra) lo hi))
end
end
end MP
end
section
/-! MiniPy: sorted over whatever collects. -/
namespace MP
open PySem PySem.Spec PyProof.Rows L2
open PySem.Calls
open PySem.W (EachIs sorting_copy_old sortingHeap sortingHeap_old list_sort_vals AllAlike Sortable dataLe SortsAt sortVals sortVals_data sortVals_length dataKind)
section
variable {X : Cx} {pins : List (Addr × Obj)} {σ : L2.St} {H : Hp} {s : Shared}
theorem each_reads {h : Heap} : ∀ {us : List Value} {ps : List PyData} {as : List Addr}, ReadsAll h us ps as → EachIs (fun v d => ∃ as, Reads h v d as) us ps
  | _, _, _, .nil => .nil
  | _, _, _, .cons a b => .cons ⟨_, a⟩ (each_reads b)
theorem each_zip {α β γ : Type} {R : α → β → Prop} : ∀ {us : List α} {vs : List β} {ps : List γ}, EachIs R us vs → vs.length = ps.length → EachIs (fun u (b : β × γ) => R u b.1) us (vs.zip ps)
  | _, _, [], .nil, _ => .nil
  | _, _, _ :: _, .nil, e => by cases e
  | _, _, [], .cons _ _, e => by cases e
  | _, _, _ :: _, .cons a b, e => .cons a (each_zip b (by simpa using e))
theorem each_zip2 {α β γ : Type} {R : α → γ → Prop} : ∀ {us : List α} {vs : List β} {ps : List γ}, EachIs R us ps → vs.length = ps.length → EachIs (fun u (b : β × γ) => R u b.2) us (vs.zip ps)
  | _, [], _, .nil, _ => .nil
  | _, _ :: _, _, .nil, e => by cases e
  | _, [], _, .cons _ _, e => by cases e
  | _, _ :: _, _, .cons a b, e => .cons a (each_zip2 b (by simpa using e))
theorem each_vals {vs : List V} {us : List Value} (h : Vals vs us) : EachIs (fun u v => RelV v u) us vs := by
  induction h with
  | nil => exact .nil
  | cons a b ih => exact .cons a ih
theorem vals_each {α : Type} : ∀ {bs : List (V × α)} {us : List Value}, EachIs (fun u (b : V × α) => RelV b.1 u) us bs → Vals (bs.map (·.1)) us
  | _, _, .nil => .nil
  | _, _, .cons a b => .cons a (vals_each b)
theorem dpAll_len {K : PySem.W.Frag} : ∀ {vs : List V} {ps : List PyData}, DpAll K H vs ps → vs.length = ps.length
  | _, _, .nil => rfl
  | _, _, .cons _ b => by simp [dpAll_len b]
theorem map_snd_zip' {α β : Type} : ∀ {vs : List α} {ps : List β}, vs.length = ps.length → (vs.zip ps).map (·.2) = ps
  | [], [], _ => rfl
  | [], _ :: _, e => by cases e
  | _ :: _, [], e => by cases e
  | _ :: vs, _ :: ps, e => by simp [map_snd_zip' (vs := vs) (ps := ps) (by simpa using e)]
/-- sorted(x), x anything whose items are collected -/
theorem sort_col (I : Inv X pins σ H s) {u : Value} {vs : List V} {ps : List PyData} {Q : VK}
    (hcol : ∀ (E' : Value → Shared → Prop) (P : List Value → Shared → Prop), (∀ us s', Inv X pins σ H s' → Vals vs us → P us s') → wpAny (model X.prog X.w) X.A.in1 (collect u) P E' s)
    (hd : DpAll X.K H vs ps) (hal : AllAlike ps) (hk : Sortable ps) (hL : ps.length ≤ sizeLine) (hu : ∀ p ∈ ps, X.A.units + 2 + p.depth < cLine)
    (h : ∀ p, H p = none → Q (.ref p) (upd H p (.lst (((vs.zip ps).mergeSort (dataLe false (·.2))).map (·.1))))) :
    wpAny (model X.prog X.w) X.A (call (.builtin "sorted") [u]) (EP X pins σ Q) X.xe s := by
  have hvl := dpAll_len hd
  refine call_function_entry_kw kind_sorted plain_sorted entry_sorted (args_sorted1 _) ?_
  unfold Builtin.«sorted»
  refine wpAny_bind (m := checkCount "sorted" 1 1 _) (wpAny_pure ?_)
  refine wpAny_bind (hcol _ _ fun us s1 I1 rv => ?_)
  have hul := rv.length
  have hsz : us.length ≤ sizeLine := by omega
  refine wpAny_bind (wpAny_newList ?_ hsz)
  -- the new list L0 holds the items; sort it
  generalize hL0 : s1.heap.objs.size = L0
  generalize hs2 : ({ s1 with heap := s1.heap.push { cls := .type "list", data := .seq us.toArray } } : Shared) = s2
  have at2 : s2.heap.get? L0 = some (seqObj "list" us.toArray 0) := by rw [← hs2, ← hL0]; exact Heap.get?_push_size _ rfl
  have k12 : ∀ b o, s1.heap.get? b = some o → b ≠ L0 ∧ s2.heap.get? b = some o := fun b o e => ⟨by rw [← hL0]; exact Nat.ne_of_lt (Heap.lt_size e), by rw [← hs2]; exact Heap.get?_push_of_some _ e⟩
  obtain ⟨as, rd⟩ := Dp.readsAll I1 ps vs us hd rv
  have er : EachIs (fun v d => ∃ as, Reads (sortingHeap s2.heap L0 us) v d as) us ps := (each_reads rd).mono fun v d ⟨as, r⟩ => ⟨as, PyProof.Rows.Reads.keeps (fun b o e => sortingHeap_old (k12 b o e).1 (k12 b o e).2) r⟩
  have mz := map_snd_zip' hvl
  have er2 : EachIs (fun v (b : V × PyData) => ∃ as, Reads (sortingHeap s2.heap L0 us) v b.2 as) us (vs.zip ps) := each_zip2 (R := fun v d => ∃ as, Reads (sortingHeap s2.heap L0 us) v d as) er hvl
  have ev : EachIs (fun u (b : V × PyData) => RelV b.1 u) us (vs.zip ps) := each_zip (R := fun u v => RelV v u) (each_vals rv) hvl
  have out := sortVals_data (R := fun u (b : V × PyData) => RelV b.1 u) (enc := (·.2)) (h' := sortingHeap s2.heap L0 us) false ev er2 (by rw [mz]; exact hal)
  rw [mz] at out
  refine wpAny_bind (wpAny_holding (wpAny_call_entry_kw slot_list_sort ⟨_, at2, rfl⟩ entry_list_sort ?body (args_list_sort _)))
  case body =>
    show wpAny (model X.prog X.w) X.A.in1.in1 (Builtin.«list.sort» ⟨[.ref L0], []⟩) _ _ _
    refine wpAny_mono (list_sort_vals (κ := dataKind (sortingHeap s2.heap L0 us) ps) (P := fun f s' => f = .done (.ret .none) ∧ EP X pins σ Q (.ref L0) s') at2 (SortsAt.data (s := { s2 with heap := sortingHeap s2.heap L0 us }) er hal hk hu) hsz ⟨rfl, ?_⟩) (fun f s' hf => ?_) fun _ _ e => e
    · obtain ⟨e, he⟩ := sortedHeap_at (out := (sortVals (dataKind (sortingHeap s2.heap L0 us) ps) false us us).toArray) at2
      have hp : H L0 = none := I1.hok.fresh (by rw [← hL0]; exact Nat.le_refl _)
      have hlen : (((vs.zip ps).mergeSort (dataLe false (·.2))).map (·.1)).length ≤ sizeLine := by
        rw [List.length_map, List.length_mergeSort, List.length_zip]
        omega
      have key := I1.laid (h' := sortedHeap s2.heap L0 us (sortVals (dataKind (sortingHeap s2.heap L0 us) ps) false us us).toArray) (a := L0) (o := .lst (((vs.zip ps).mergeSort (dataLe false (·.2))).map (·.1))) (t' := s1.toks)
        (fun b o q => by rw [sortedHeap_old (k12 b o q).1 (Heap.lt_size (k12 b o q).2)]; exact (k12 b o q).2) (by rw [← hL0]; exact Nat.le_refl _) ⟨hlen, _, e, vals_each out, he⟩
      have hs3 : ({ s2 with heap := sortedHeap s2.heap L0 us (sortVals (dataKind (sortingHeap s2.heap L0 us) ps) false us us).toArray } : Shared) = { s1 with heap := sortedHeap s2.heap L0 us (sortVals (dataKind (sortingHeap s2.heap L0 us) ps) false us us).toArray, toks := s1.toks } := by rw [← hs2]
      rw [hs3]
      exact ⟨.ref L0, _, key, rfl, h L0 hp⟩
    · obtain ⟨rfl, hq⟩ := hf
      exact ⟨_, rfl, wpAny_pure ⟨_, rfl, hq⟩⟩
end
/-! ### the order, plainly -/
open PySem.W (alike alikeAll dataLt keyToksAll dataLt_cons)
mutual
theorem ltD_eq : ∀ x y : PyData, alike x y = true → ltD x y = dataLt x y
  | .none, y, h => by cases y <;> first | rfl | cases h
  | .bool a, y, h => by
    cases y with
    | bool b => cases a <;> cases b <;> rfl
    | _ => cases h
  | .int a, y, h => by
    cases y with
    | int b => exact (PySem.W.dataLt_int a b).symm
    | _ => cases h
  | .str a, y, h => by
    cases y with
    | str b => exact (PySem.W.dataLt_str a b).symm
    | _ => cases h
  | .tuple a, y, h => by
    cases y with
    | tuple b => exact ltAll_eq a b (by simpa only [alike] using h)
    | _ => cases h
  | .list a, y, h => by
    cases y with
    | list b => exact ltAll_eq a b (by simpa only [alike] using h)
    | _ => cases h
  | .dict _, y, h => by cases y <;> cases h
theorem ltAll_eq : ∀ x y : List PyData, alikeAll x y = true → ltAll x y = PyProof.Rows.lexLt itemOrd (keyToksAll x) (keyToksAll y)
  | [], [], _ => rfl
  | [], _ :: _, _ => rfl
  | _ :: _, [], _ => rfl
  | x :: xs, y :: ys, h => by
    simp only [alikeAll, Bool.and_eq_true] at h
    rw [dataLt_cons h.1, ← ltAll_eq xs ys h.2, ← ltD_eq x y h.1]
    rfl
end
section
variable {ps : List PyData}
abbrev leS : PyData → PyData → Bool := dataLe false id
theorem leS_tot : PySem.W.TotalLe leS := PySem.W.sortLe_total _ _ _
theorem leS_of {a b : PyData} (h : alike b a = true) : leS a b = !ltD b a := by
  rw [ltD_eq b a h]; rfl
theorem mem_ins {a z : PyData} : ∀ {l : List PyData}, z ∈ ins a l ↔ z = a ∨ z ∈ l
  | [] => by simp [ins]
  | b :: r => by
    unfold ins
    split
    · simp only [List.mem_cons, mem_ins (l := r)]
      constructor
      · rintro (h | h | h) <;> simp [h]
      · rintro (h | h | h) <;> simp [h]
    · simp
theorem mem_isort {z : PyData} : ∀ {l : List PyData}, z ∈ isort l ↔ z ∈ l
  | [] => by simp [isort]
  | a :: r => by
    unfold isort
    rw [mem_ins, mem_isort (l := r), List.mem_cons]
theorem ins_sorted {a : PyData} : ∀ {l : List PyData}, (∀ b ∈ l, alike b a = true) → l.Pairwise (fun a b => leS a b = true) → (ins a l).Pairwise (fun a b => leS a b = true)
  | [], _, _ => by simp [ins]
  | b :: r, hal, h => by
    unfold ins
    obtain ⟨h1, h2⟩ := List.pairwise_cons.mp h
    have hb := leS_of (hal b (by simp))
    split
    · rename_i q
      refine List.pairwise_cons.mpr ⟨fun z hz => ?_, ins_sorted (fun z hz => hal z (by simp [hz])) h2⟩
      rcases mem_ins.mp hz with e | e
      · subst e
        rw [q] at hb
        rcases leS_tot.total b z with t | t
        · exact t
        · rw [hb] at t; cases t
      · exact h1 z e
    · rename_i q
      refine List.pairwise_cons.mpr ⟨fun z hz => ?_, h⟩
      have : leS a b = true := by rw [hb]; simpa using q
      rcases List.mem_cons.mp hz with e | e
      · subst e; exact this
      · exact leS_tot.trans _ _ _ this (h1 z e)
theorem ins_filter {a : PyData} (c : PyData) : ∀ {l : List PyData}, (∀ b ∈ l, alike b a = true) → (ins a l).filter (PySem.W.sameRank leS c) = (a :: l).filter (PySem.W.sameRank leS c)
  | [], _ => rfl
  | b :: r, hal => by
    unfold ins
    have hb := leS_of (hal b (by simp))
    split
    · rename_i q
      rw [q] at hb
      have ih := ins_filter c (l := r) fun z hz => hal z (by simp [hz])
      rw [List.filter_cons, ih]
      -- a and b are not of one rank
      cases ca : PySem.W.sameRank leS c a with
      | false => simp [List.filter_cons, ca]
      | true =>
        have cb : PySem.W.sameRank leS c b = false := by
          cases e : PySem.W.sameRank leS c b with
          | false => rfl
          | true =>
            exfalso
            unfold PySem.W.sameRank at ca e
            simp only [Bool.and_eq_true] at ca e
            have t := leS_tot.trans _ _ _ ca.2 e.1
            rw [hb] at t
            cases t
        simp [List.filter_cons, ca, cb]
    · rfl
theorem isort_eq (hal : ∀ a ∈ ps, ∀ b ∈ ps, alike a b = true) : isort ps = ps.mergeSort leS := by
  have both : ∀ l : List PyData, (∀ a ∈ l, ∀ b ∈ l, alike a b = true) → (isort l).Pairwise (fun a b => leS a b = true) ∧ ∀ c, (isort l).filter (PySem.W.sameRank leS c) = l.filter (PySem.W.sameRank leS c) := by
    intro l
    induction l with
    | nil => intro _; exact ⟨by simp [isort], fun c => rfl⟩
    | cons a r ih =>
      intro h
      obtain ⟨h1, h2⟩ := ih fun x hx y hy => h x (by simp [hx]) y (by simp [hy])
      have hr : ∀ b ∈ isort r, alike b a = true := fun b hb => h b (by simp [mem_isort.mp hb]) a (by simp)
      refine ⟨ins_sorted hr h1, fun c => ?_⟩
      show (ins a (isort r)).filter _ = _
      rw [ins_filter c hr, List.filter_cons, List.filter_cons, h2 c]
  exact PySem.W.sort_unique leS_tot (both ps hal).1 (both ps hal).2
theorem sortOk_ok (h : sortOk ps = true) : AllAlike ps ∧ Sortable ps ∧ (∀ p ∈ ps, p.depth ≤ 60) ∧ (∀ a ∈ ps, ∀ b ∈ ps, alike a b = true) := by
  simp only [sortOk, Bool.and_eq_true, Bool.or_eq_true, List.all_eq_true] at h
  obtain ⟨⟨h1, h2⟩, h3⟩ := h
  refine ⟨fun a ha b hb => h1 a ha b hb, ?_, fun p hp => Nat.le_of_ble_eq_true (h3 p hp), h1⟩
  rcases h2 with h2 | h2
  · refine .inl fun d hd => ?_
    have := h2 d hd
    unfold tupN at this
    split at this
    · exact ⟨_, _, rfl⟩
    · cases this
  · refine .inr fun d hd => ?_
    have := h2 d hd
    exact ⟨fun e => (by subst e; cases this), fun xs e => (by subst e; cases this)⟩
end
section
variable {c : Cfg} {m : Mp} {S : Store} {X : Cx} {H : Hp}
theorem rps_pairs {L : Addr → Prop} : ∀ {l : List (V × PyData)}, (∀ b ∈ l, Rp c.K H L b.1 b.2) → Rps c.K H L (l.map (·.1)) (l.map (·.2))
  | [], _ => .nil
  | b :: l, h => .cons (h b (by simp)) (rps_pairs fun z hz => h z (by simp [hz]))
theorem rps_zip {L : Addr → Prop} : ∀ {ps : List PyData} {vs : List V}, Rps c.K H L vs ps → ∀ b ∈ vs.zip ps, Rp c.K H L b.1 b.2
  | [], _, h, b, hb => by cases h; cases hb
  | p :: ps, _, h, b, hb => by
    cases h with
    | cons h1 h2 =>
      rcases List.mem_cons.mp hb with e | e
      · subst e; exact h1
      · exact rps_zip h2 b e
/-- sorted(x), x a list or a tuple -/
theorem cr_sortD (hK : X.K = c.K) (hu : X.A.units + 65 < cLine) : CallR X (.builtin "sorted") (fun xs H Q => ∃ a vs ps L, xs = [.ref a] ∧ (SqL X.K H a vs ∨ SqT X.K H a vs) ∧ Rps c.K H L vs ps ∧ sortOk ps = true ∧ fits ps.length = true ∧
    ∀ p ws, H p = none → Rps c.K H L ws (isort ps) → Q (.ref p) (upd H p (.lst ws))) := by
  rintro pins s σ H xs us Q I ru ⟨a, vs, ps, L, rfl, hs, r, ok, hf, k⟩
  rw [Vals.ref1 ru]
  obtain ⟨o1, o2, o3, o4⟩ := sortOk_ok ok
  have hl := r.length
  refine sort_col I (vs := vs) (ps := ps) (fun E' P hp => ?_) (by rw [hK]; exact r.dp) o1 o2 (fits_ok hf) (fun p hp => by have := o3 p hp; omega) fun p hp => ?_
  · rcases hs with hs | hs
    · obtain ⟨its, rv, pl, hz⟩ := I.list hs
      obtain ⟨o, ho, hc, n, hd⟩ := pl.isList
      have hl := rv.length
      refine wpAny_collect_seq a (.inl rfl) ho hc hd (fun h' hk => ?_) (by rw [List.size_toArray]; omega)
      have e : its.toArray.toList = its := by simp
      rw [e]
      exact hp its _ (I.kept (t' := s.toks) hk) rv
    · obtain ⟨its, rv, ⟨o, ho, hc, n, hd⟩, hz⟩ := I.tuple hs
      have hl := rv.length
      refine wpAny_collect_seq a (.inr rfl) ho hc hd (fun h' hk => ?_) (by rw [List.size_toArray]; omega)
      have e : its.toArray.toList = its := by simp
      rw [e]
      exact hp its _ (I.kept (t' := s.toks) hk) rv
  · have mz := map_snd_zip' hl
    have e2 : ((vs.zip ps).mergeSort (dataLe false (·.2))).map (·.2) = isort ps := by
      rw [PySem.W.sort_maps (r := dataLe false fun x : V × PyData => x.2) (s := leS) (fun b : V × PyData => b.2) (fun _ _ _ _ => rfl), mz, isort_eq o4]
    have q := rps_pairs (c := c) (H := H) (L := L) (l := (vs.zip ps).mergeSort (dataLe false (·.2))) fun b hb => rps_zip r b (List.mem_mergeSort.mp hb)
    rw [e2] at q
    exact k p _ hp q
end
end MP
end
section
/-! MiniPy: sets made of a list. -/
namespace MP
open PySem PySem.Spec
open PyProof.Rows L2
section
variable {P : Program} {w : World} {A : Around} {E : Value → Shared → Prop} {s : Shared}
theorem set_of_list {l : Addr} {items : Array Value} (ns : List Int) {Q : Value → Shared → Prop} (hh : A.handled = none) (hl : s.heap.IsList l items) (hit : IntsAre items.toList ns) (hb : ns.length + 1 < scanBound)
    (h : ∀ (h' : Heap) (tk c : Nat), SetR w h' s.heap.objs.size (fun j => decide (j ∈ ns)) c → c ≤ ns.length → (∀ b o, s.heap.get? b = some o → h'.get? b = some o) → Q (.ref s.heap.objs.size) { s with heap := h', toks := tk }) :
    wpAny (model P w) A (call (.type "set") [.ref l]) Q E s := by
  have hisz : items.size = ns.length := by
    have q := IntsAre.length hit
    rw [Array.length_toList] at q
    exact q
  obtain ⟨c, tl, hmro⟩ := F.called_set.mro
  have hmade := F.called_set.made
  have hsub := F.called_set.sub
  refine wpAny_call (codeAny_of_tree ?_)
  show wpAny _ _ (callAny (.type "set") _) _ _ _
  refine wpAny_pure ⟨Code.quiet_builtin _ (by decide +kernel), codeAny_builtin F.entry_type_call ?_⟩
  rw [Around.under_plain (weight_type_call_type "set" [.ref l] []) rfl]
  have h1 := F.called_set.notType
  have h2 := F.called_set.canCreate
  have hct := F.typeCall_set_1 (.ref l)
  repeat (any_goals (first | assumption | wp_step))

  refine codeAny_mono (code_set_led1 (.ref l) (E := E) (Q₁ := fun obj s₁ => obj = .ref s.heap.objs.size ∧ s₁ = { s with heap := s.heap.push { cls := .type "set", dict := none, data := .set #[] 0 (.fresh 0 0 (!w.params.followText "set-order")) } }) ⟨rfl, rfl⟩) fun r s₁ hr => ?_
  cases r with
  | error e => exact hr
  | ok fl =>
    cases fl with
    | ret obj =>
      obtain ⟨rfl, rfl⟩ := hr
      have hS : (s.heap.push { cls := .type "set", dict := none, data := .set #[] 0 (.fresh 0 0 (!w.params.followText "set-order")) }).get? s.heap.objs.size = some { cls := .type "set", dict := none, data := .set #[] 0 (.fresh 0 0 (!w.params.followText "set-order")) } := Heap.get?_push_size _ rfl
      have hT : Shared.TypeIs { s with heap := s.heap.push { cls := .type "set", dict := none, data := .set #[] 0 (.fresh 0 0 (!w.params.followText "set-order")) } } (.ref s.heap.objs.size) "set" := ⟨_, hS, rfl⟩
      have hli := F.called_set.init.lookup
      have hbi := F.called_set.init.bind (.ref s.heap.objs.size)
      repeat (any_goals (first | assumption | wp_step))

      refine codeAny_mono (codeAny_call_builtin (R := wants (fun r s₂ => r = .none ∧ ∃ h' tk c, s₂ = { s with heap := h', toks := tk } ∧ SetR w h' s.heap.objs.size (fun j => decide (j ∈ ns)) c ∧ c ≤ ns.length ∧
          (∀ b o, s.heap.get? b = some o → h'.get? b = some o)) E) F.called_set.init.plain F.entry_set_init (check_set_init_1 hT ?_)) fun r₂ s₂ hr₂ => ?_
      · obtain ⟨ol, hol, hcl, nl, hdl⟩ := hl
        obtain ⟨ocls, odict, odata, oslots⟩ := ol
        simp only at hcl hdl
        subst hcl; subst hdl
        have hol' : (s.heap.push { cls := .type "set", dict := none, data := .set #[] 0 (.fresh 0 0 (!w.params.followText "set-order")) }).get? l = some { cls := .type "list", dict := odict, data := .seq items nl, slots := oslots } := Heap.get?_push_of_some _ hol
        have hsls := F.sub_list_set
        have hslf := F.sub_list_frozenset
        have hne : (Value.type "list" == Value.type "dict") = false := by decide
        have hl1 : (s.heap.push { cls := .type "set", dict := none, data := .set #[] 0 (.fresh 0 0 (!w.params.followText "set-order")) }).IsList l items := ⟨_, hol', rfl, nl, rfl⟩
        unfold Builtin.«set.__init__» noKeywords Builtin.Frozenset.updateFrom
        generalize hPI : pyIter = PI
        wp_walk
        subst hPI

        refine wpAny_pyIter_list hl1 ?_
        refine wpAny_bind (wpAny_runValue ?_)
        have hlS : l < s.heap.objs.size := Heap.lt_size hol
        have hh3 : A.in1.in1.in1.handled = none := by simp [hh]
        have hz1 : (s.heap.push { cls := .type "set", dict := none, data := .set #[] 0 (.fresh 0 0 (!w.params.followText "set-order")) }).objs.size = s.heap.objs.size + 1 := Heap.size_push ..
        have hneI : l ≠ (s.heap.push { cls := .type "set", dict := none, data := .set #[] 0 (.fresh 0 0 (!w.params.followText "set-order")) }).objs.size := by
          rw [Heap.size_push]; exact Nat.ne_of_lt (Nat.lt_succ_of_lt hlS)
        have hSf : s.heap.objs.size ∉ [(s.heap.push { cls := .type "set", dict := none, data := .set #[] 0 (.fresh 0 0 (!w.params.followText "set-order")) }).objs.size, l] := by
          rw [Heap.size_push]; simp only [List.mem_cons, List.mem_singleton, List.not_mem_nil, or_false, not_or]
          exact ⟨Nat.ne_of_lt (Nat.lt_succ_self _), Nat.ne_of_gt hlS⟩
        have hval : ∀ (i : Nat) (v : Value), items[i]? = some v → ∃ k t, ns[i]? = some k ∧ v = .int k t := fun i v hv => by
          have hi : i < ns.length := by rw [← hisz]; exact (Array.getElem?_eq_some_iff.mp hv).1
          obtain ⟨t, e⟩ := PyProof.Rows.IntsAre.int_at hit i v (by rw [Array.getElem?_toList]; exact hv)
          refine ⟨ns[i], t, List.getElem?_eq_getElem hi, ?_⟩
          rw [e, List.getD_eq_getElem?_getD, List.getElem?_eq_getElem hi] <;> rfl
        refine set_update_ints ((Walks.list hh3 _ l hneI items).toS) s.heap.objs.size
          hSf ns hisz hb hval (items.size - 0) 0 _ (by omega) (Nat.zero_le _)
          ⟨⟨_, Heap.get?_push_size _ rfl, rfl, rfl⟩, (hl1.push _)⟩ ?hS0 ?hR
        case hS0 =>
          have hget : ((s.heap.push { cls := .type "set", dict := none, data := .set #[] 0 (.fresh 0 0 (!w.params.followText "set-order")) }).push { cls := .type "list_iterator", data := .fields #[.ref l, .int 0 0] }).get? s.heap.objs.size
              = some { cls := .type "set", dict := none, data := .set #[] 0 (.fresh 0 0 (!w.params.followText "set-order")) } := Heap.get?_push_of_some _ hS
          exact ⟨0, Nat.le_refl 0, setR_new_at hget⟩
        case hR =>
          intro s' c' hm hc' hS'
          obtain ⟨h', g2, d', tk', os'⟩ := s'
          have eg : g2 = s.gens := hm.gens
          have ed : d' = s.drawn := hm.drawn
          have eo : os' = s.os := hm.os
          subst eg; subst ed; subst eo
          show wpAny _ _ _ _ _ _
          refine wpAny_pure ?_
          show wpAny _ _ (ret Value.none) _ _ _
          rw [hisz] at hc'
          refine wpAny_pure ⟨rfl, h', tk', c', rfl, hS', hc', fun b o e => ?_⟩
          have hb0 : b < s.heap.objs.size := Heap.lt_size e
          have hb1 : b ≠ s.heap.objs.size := Nat.ne_of_lt hb0
          have hb2 : b ≠ (s.heap.push { cls := .type "set", dict := none, data := .set #[] 0 (.fresh 0 0 (!w.params.followText "set-order")) }).objs.size := by
            rw [Heap.size_push]; exact Nat.ne_of_lt (Nat.lt_succ_of_lt hb0)
          exact hm.heap b o (by simp only [List.mem_cons, List.mem_singleton, List.not_mem_nil, or_false, not_or]; exact ⟨hb1, hb2⟩) (Heap.get?_push_of_some _ (Heap.get?_push_of_some _ e))

      · cases r₂ with
        | error e => exact hr₂
        | ok fl₂ =>
          cases fl₂ with
          | ret r =>
            obtain ⟨rfl, h', tk, c', rfl, hS', hc', hk'⟩ := hr₂
            repeat (any_goals (first | assumption | wp_step))
            exact h _ _ _ hS' hc' hk'
          | _ => exact hr₂.elim
    | _ => exact hr.elim
end
section
variable {c : Cfg} {X : Cx}
/-- set(x), x a list of ints -/
theorem cr_setI (hc : X.calm = true) : CallR X (.type "set") (fun xs H Q => ∃ (l : Addr) (ns : List Int), xs = [.ref l] ∧ SqL X.K H l (ns.map V.int) ∧ ns.length < 64 ∧
    ∀ a n, H a = none → n < 64 → Q (.ref a) (upd H a (SetO X.w a (fun k => decide (k ∈ ns)) n))) := by
  rintro pins s σ H xs us Q I ru ⟨l, ns, rfl, hl, h64, k⟩
  rw [Vals.ref1 ru]
  obtain ⟨its, rv, pl, hz⟩ := I.list hl
  refine set_of_list (P := X.prog) (w := X.w) ns (I.ok.hd hc) pl.isList (by simpa using rv.ints) (by unfold scanBound; omega) fun h' tk n R hn keep => ?_
  exact ⟨.ref s.heap.objs.size, upd H s.heap.objs.size (SetO X.w s.heap.objs.size (fun k => decide (k ∈ ns)) n), I.laid (t' := tk) keep (Nat.le_refl _) (setO_new R), rfl, k _ n (I.hok.fresh (Nat.le_refl _)) (by omega)⟩
/-- len of a set of rows -/
theorem cr_lenT : CallR X (.builtin "len") (fun xs H Q => ∃ (a : Addr) (L : List (Addr × List Int)), xs = [.ref a] ∧ H a = some (SetTO X.prog X.w a L) ∧ (∀ p ∈ L, SqT X.K H p.1 (p.2.map V.int)) ∧ ((L.map (·.2)).Nodup → Q (.int (L.length : Nat)) H)) := by
  rintro pins s σ H xs us Q I ru ⟨a, L, rfl, ha, hk, q⟩
  rw [Vals.ref1 ru]
  have R0 : SetT0 X.prog X.w s.heap a L := (I.hok a _ ha).1
  obtain ⟨es, ep, t, R⟩ := R0.full fun p hp => I.isT (hk p hp)
  obtain ⟨o, ho, hex, hd⟩ := R.ob
  have h64 := R.few
  refine call_len_set ho hex hd R.fits (by rw [R.size]; omega) ⟨.int (L.length : Nat), H, I.tok _, ⟨_, by rw [R.size]⟩, q R.nd⟩
end
/-! ### the plain side -/
theorem mem_addR (l : List (List Int)) (i v : List Int) : v ∈ addR l i ↔ v ∈ l ∨ v = i := by
  unfold addR
  split
  · next h =>
    have h' : i ∈ l := by simpa using h
    constructor
    · exact Or.inl
    · rintro (h | rfl)
      · exact h
      · exact h'
  · simp
theorem nd_addR (l : List (List Int)) (i : List Int) (h : l.Nodup) : (addR l i).Nodup := by
  unfold addR
  split
  · exact h
  · next h2 =>
    have h' : i ∉ l := by simpa using h2
    rw [List.nodup_append]
    refine ⟨h, by simp, fun a ha b hb e => ?_⟩
    rw [List.mem_singleton.mp hb] at e
    exact h' (e ▸ ha)
theorem fold_addR (ks : List (List Int)) : ∀ (l : List (List Int)), l.Nodup → (ks.foldl addR l).Nodup ∧ ∀ v, v ∈ ks.foldl addR l ↔ v ∈ l ∨ v ∈ ks := by
  induction ks with
  | nil => exact fun l h => ⟨h, fun v => by simp⟩
  | cons a r ih =>
    intro l h
    obtain ⟨h1, h2⟩ := ih (addR l a) (nd_addR l a h)
    refine ⟨h1, fun v => ?_⟩
    rw [List.foldl_cons, h2, mem_addR, List.mem_cons, or_assoc]
theorem len_dedR {L : List (Addr × List Int)} {ks : List (List Int)} (nd : (L.map (·.2)).Nodup) (hm : ∀ v, v ∈ L.map (·.2) ↔ v ∈ ks) : L.length = (dedR ks).length := by
  obtain ⟨h1, h2⟩ := fold_addR ks [] (by simp)
  have p : (L.map (·.2)).Perm (dedR ks) := (List.perm_ext_iff_of_nodup nd h1).mpr fun v => by
    rw [hm, h2]
    simp
  have := p.length_eq
  rwa [List.length_map] at this
theorem memI_addI (l : List Int) (i v : Int) : v ∈ addI l i ↔ v ∈ l ∨ v = i := by
  unfold addI
  split
  · next h =>
    have h' : i ∈ l := by simpa using h
    constructor
    · exact Or.inl
    · rintro (h | rfl)
      · exact h
      · exact h'
  · simp
theorem nd_addI (l : List Int) (i : Int) (h : l.Nodup) : (addI l i).Nodup := by
  unfold addI
  split
  · exact h
  · next h2 =>
    have h' : i ∉ l := by simpa using h2
    rw [List.nodup_append]
    refine ⟨h, by simp, fun a ha b hb e => ?_⟩
    rw [List.mem_singleton.mp hb] at e
    exact h' (e ▸ ha)
theorem fold_addI (ks : List Int) : ∀ (l : List Int), l.Nodup → (ks.foldl addI l).Nodup ∧ ∀ v, v ∈ ks.foldl addI l ↔ v ∈ l ∨ v ∈ ks := by
  induction ks with
  | nil => exact fun l h => ⟨h, fun v => by simp⟩
  | cons a r ih =>
    intro l h
    obtain ⟨h1, h2⟩ := ih (addI l a) (nd_addI l a h)
    refine ⟨h1, fun v => ?_⟩
    rw [List.foldl_cons, h2, memI_addI, List.mem_cons, or_assoc]
theorem dedI_perm {ns ys : List Int} (hs : ys.Pairwise (· < ·)) (hm : ∀ k : Int, k ∈ ys ↔ k ∈ ns) : ys.Perm (dedI ns) := by
  obtain ⟨h1, h2⟩ := fold_addI ns [] (by simp)
  refine (List.perm_ext_iff_of_nodup (hs.imp fun h => by omega) h1).mpr fun v => ?_
  rw [hm, h2]
  simp
end MP
end
section
/-! MiniPy: built-ins, methods, stores. -/
namespace MP
open PySem PySem.Spec PyProof.Rows L2
section
variable {c : Cfg} {m m' : Mp} {S S' : Store} {H H' : Hp} {x y v : V} {d : D} {Q : VK}
def bltId : Blt → Value
  | .len => .builtin "len"
  | .abs => .builtin "abs"
  | .int => .type "int"
  | .min => .builtin "min"
  | .max => .builtin "max"
  | .sum => .builtin "sum"
  | .all => .builtin "all"
  | .any => .builtin "any"
  | .tuple => .type "tuple"
  | .list _ => .type "list"
  | .sorted _ => .builtin "sorted"
  | .repr => .builtin "repr"
  | .str => .type "str"
theorem one_of (r : RDs c.K m S H xs [d]) : ∃ x, xs = [x] ∧ RD c.K m S H x d := by
  cases r with
  | cons a b => cases b; exact ⟨_, rfl, a⟩
theorem two_of {d2 : D} (r : RDs c.K m S H xs [d, d2]) : ∃ x y, xs = [x, y] ∧ RD c.K m S H x d ∧ RD c.K m S H y d2 := by
  cases r with
  | cons a b =>
    obtain ⟨y, rfl, q⟩ := one_of b
    exact ⟨_, _, rfl, a, q⟩
theorem minI_ok : ∀ {ns : List Int} {i : Int}, minI ns = some i → 0 < ns.length ∧ ∀ m, m ∈ ns → (∀ y ∈ ns, m ≤ y) → m = i := by
  have low : ∀ {ns : List Int} {i : Int}, minI ns = some i → i ∈ ns ∧ ∀ y ∈ ns, i ≤ y := by
    intro ns
    induction ns with
    | nil => intro i h; cases h
    | cons a r ih =>
      intro i h
      unfold minI at h
      split at h
      · rename_i hr
        cases h
        cases r with
        | nil => simp
        | cons b r =>
          exfalso
          unfold minI at hr
          split at hr <;> cases hr
      · rename_i b hr
        cases h
        obtain ⟨h1, h2⟩ := ih hr
        split
        · rename_i hb
          exact ⟨List.mem_cons_of_mem _ h1, fun y hy => by
            rcases List.mem_cons.mp hy with e | e
            · omega
            · exact h2 y e⟩
        · rename_i hb
          exact ⟨List.mem_cons_self, fun y hy => by
            rcases List.mem_cons.mp hy with e | e
            · omega
            · have := h2 y e; omega⟩
  intro ns i h
  obtain ⟨h1, h2⟩ := low h
  refine ⟨List.length_pos_of_mem h1, fun m hm hl => ?_⟩
  have a := h2 m hm
  have b := hl i h1
  omega
theorem maxI_ok : ∀ {ns : List Int} {i : Int}, maxI ns = some i → 0 < ns.length ∧ ∀ m, m ∈ ns → (∀ y ∈ ns, y ≤ m) → m = i := by
  have top : ∀ {ns : List Int} {i : Int}, maxI ns = some i → i ∈ ns ∧ ∀ y ∈ ns, y ≤ i := by
    intro ns
    induction ns with
    | nil => intro i h; cases h
    | cons a r ih =>
      intro i h
      unfold maxI at h
      split at h
      · rename_i hr
        cases h
        cases r with
        | nil => simp
        | cons b r =>
          exfalso
          unfold maxI at hr
          split at hr <;> cases hr
      · rename_i b hr
        cases h
        obtain ⟨h1, h2⟩ := ih hr
        split
        · rename_i hb
          exact ⟨List.mem_cons_of_mem _ h1, fun y hy => by
            rcases List.mem_cons.mp hy with e | e
            · omega
            · exact h2 y e⟩
        · rename_i hb
          exact ⟨List.mem_cons_self, fun y hy => by
            rcases List.mem_cons.mp hy with e | e
            · omega
            · have := h2 y e; omega⟩
  intro ns i h
  obtain ⟨h1, h2⟩ := top h
  refine ⟨List.length_pos_of_mem h1, fun m hm hl => ?_⟩
  have a := h2 m hm
  have b := hl i h1
  omega
theorem listInts_ok (st : Sto c m S H) (r : RD c.K m S H x d) {ns : List Int} (e : listInts S d = some ns) : ∃ a, x = .ref a ∧ SqL c.K H a (ns.map V.int) := by
  simp only [listInts, Option.bind_eq_some_iff] at e
  obtain ⟨ps, ⟨l, h1, h2⟩, h3⟩ := e
  obtain ⟨a, vs, rfl, ha, ra⟩ := getL_ok st r h1
  have h4 := toDats_some h2
  subst h4
  rw [intsOf_vs (Rps.of_paired ra) h3] at ha
  exact ⟨a, rfl, SqL.of ha⟩
theorem listBools_ok (st : Sto c m S H) (r : RD c.K m S H x d) {ns : List Bool} (e : listBools S d = some ns) : ∃ a, x = .ref a ∧ SqL c.K H a (ns.map V.bl) := by
  simp only [listBools, Option.bind_eq_some_iff] at e
  obtain ⟨ps, ⟨l, h1, h2⟩, h3⟩ := e
  obtain ⟨a, vs, rfl, ha, ra⟩ := getL_ok st r h1
  have h4 := toDats_some h2
  subst h4
  rw [boolsOf_vs (Rps.of_paired ra) h3] at ha
  exact ⟨a, rfl, SqL.of ha⟩
mutual
theorem leaves_of : ∀ p : PyData, p.canLay0 = true → p.showable = true → p.leavesShort 1921 = true ∧ p.hasDict = false
  | .none, _, _ => ⟨rfl, rfl⟩
  | .bool b, _, _ => ⟨rfl, rfl⟩
  | .int i, _, h => by
    simp only [PyData.showable, decide_eq_true_eq] at h
    exact ⟨by simp only [PyData.leavesShort, decide_eq_true_eq]; exact int_text_len_1921 h, rfl⟩
  | .str x, h, _ => by
    refine ⟨?_, rfl⟩
    simp only [PyData.leavesShort, List.all_eq_true, decide_eq_true_eq]
    intro c hc
    have h : PyData.strOk x = true := h
    unfold PyData.strOk at h
    rw [Array.all_eq_true'] at h
    have := h c (by simpa using hc)
    have : c < 1114112 := by simpa using this
    exact Nat.lt_trans this (by decide)
  | .list l, a, b => leavesAll_of l a b
  | .tuple l, a, b => leavesAll_of l a b
  | .dict kvs, h, _ => by cases h
theorem leavesAll_of : ∀ l : List PyData, PyData.canLayAll0 l = true → PyData.showableAll l = true → PyData.leavesShortAll 1921 l = true ∧ PyData.hasDictAll l = false
  | [], _, _ => ⟨rfl, rfl⟩
  | x :: l, a, b => by
    simp only [PyData.canLayAll0, PyData.showableAll, Bool.and_eq_true] at a b
    obtain ⟨a1, a2⟩ := leaves_of x a.1 b.1
    obtain ⟨b1, b2⟩ := leavesAll_of l a.2 b.2
    exact ⟨by simp only [PyData.leavesShortAll, a1, b1, Bool.and_self], by simp only [PyData.hasDictAll, a2, b2, Bool.or_self]⟩
end
theorem shown_fits {p : PyData} (h : reprOk p = true) : p.shown.length ≤ sizeLine := by
  simp only [reprOk, Bool.and_eq_true] at h
  obtain ⟨⟨h1, h2⟩, h3⟩ := h
  have q := PyData.shown_le_bulk 1921 (by decide) p (leaves_of p (SeqAt.canLay_of_shaped h1) h2).1
  have h3 : p.bulk ≤ 8000 := Nat.le_of_ble_eq_true h3
  have : (1921 + 2) * p.bulk ≤ 1923 * 8000 := Nat.mul_le_mul_left _ h3
  rw [sizeLine_eq]
  omega
section
variable {X : Cx} (hK : X.K = c.K) (hc : X.calm = true)
include hK hc
omit hc in
theorem repr_V (gd : X.A.guards = some []) (hu : X.A.units + 65 < cLine) : CallR X (.builtin "repr") (fun xs H Q => ∃ x p, xs = [x] ∧ Dp X.K H x p ∧ reprOk p = true ∧ Q (.str p.shown) H) := by
  rintro pins s σ H xs us Q I ru ⟨x, p, rfl, dx, ok, q⟩
  obtain ⟨u, rfl, rx⟩ := vals1 ru
  have fit := shown_fits ok
  simp only [reprOk, Bool.and_eq_true] at ok
  obtain ⟨⟨h1, h2⟩, h3⟩ := ok
  obtain ⟨as, rd⟩ := Dp.reads I p x u dx rx
  cases dx with
  | non => cases rx; exact PySem.P.repr_of_none ⟨.str _, H, I.tok _, ⟨_, rfl⟩, q⟩
  | bl b => cases rx; exact PySem.P.repr_of_bool ⟨.str (PyData.shown (.bool b)), H, I.tok _, ⟨_, by cases b <;> rfl⟩, q⟩
  | int i =>
    obtain ⟨t, rfl⟩ := rx
    exact PySem.P.repr_of_int (by simpa [PyData.showable] using h2) ⟨.str _, H, I.tok _, ⟨_, rfl⟩, q⟩
  | str z =>
    obtain ⟨t, rfl⟩ := rx
    exact PySem.P.repr_of_str ⟨.str _, H, I.tok _, ⟨_, rfl⟩, q⟩ fit
  | lst a b =>
    cases rx
    refine repr_of_reads' rd h2 (fun hd => absurd hd (by rw [(leaves_of _ (SeqAt.canLay_of_shaped h1) h2).2]; decide)) gd ?_ (fun _ _ e => e) (fun h' u tk k => ⟨.str _, H, I.kept k, ⟨_, rfl⟩, q⟩) fit
    have := SeqAt.depth_of_shaped h1
    omega
  | tup a b =>
    cases rx
    refine repr_of_reads' rd h2 (fun hd => absurd hd (by rw [(leaves_of _ (SeqAt.canLay_of_shaped h1) h2).2]; decide)) gd ?_ (fun _ _ e => e) (fun h' u tk k => ⟨.str _, H, I.kept k, ⟨_, rfl⟩, q⟩) fit
    have := SeqAt.depth_of_shaped h1
    omega
theorem blt_V (gd : X.A.guards = some []) (hu : X.A.units + 65 < cLine) (f : Blt) : CallR X (bltId f) (OpL c (bltV f)) := by
  rintro pins s σ H xs us Q I ru ⟨m, S, ds, d, S', st, r, e, k⟩
  have fin : ∀ p, pin p S = some (d, S') → (∀ v, Rp c.K H (Lv m S) v p → Q v H) := fun p h v hv => by
    cases h
    exact k m H v st .refl hv
  unfold bltV at e
  split at e
  · -- len
    simp only [Option.bind_eq_some_iff] at e
    obtain ⟨l, h1, h2⟩ := e
    obtain ⟨x, rfl, rx⟩ := one_of r
    obtain ⟨a, vs, rfl, ha, ra⟩ := getSeq_ok st rx h1
    rw [← hK] at ha
    exact call_len_seq pins s σ H _ us Q I ru ⟨a, vs, rfl, ha, fin _ h2 _ (by rw [ra.len]; exact .int _)⟩
  · obtain ⟨x, rfl, rx⟩ := one_of r
    cases rd_int rx
    exact call_abs pins s σ H _ us Q I ru ⟨_, rfl, fin _ e _ (.int _)⟩
  · obtain ⟨x, rfl, rx⟩ := one_of r
    cases rd_int rx
    exact call_int1 pins s σ H _ us Q I ru (.inl ⟨_, rfl, fin _ e _ (.int _)⟩)
  · obtain ⟨x, rfl, rx⟩ := one_of r
    cases rd_bool rx
    exact call_int1 pins s σ H _ us Q I ru (.inr ⟨_, rfl, fin _ e _ (.int _)⟩)
  · obtain ⟨x, y, rfl, rx, ry⟩ := two_of r
    cases rd_int rx
    cases rd_int ry
    exact call_min2 hc pins s σ H _ us Q I ru ⟨_, _, rfl, fin _ e _ (.int _)⟩
  · obtain ⟨x, y, rfl, rx, ry⟩ := two_of r
    cases rd_int rx
    cases rd_int ry
    exact call_max2 hc pins s σ H _ us Q I ru ⟨_, _, rfl, fin _ e _ (.int _)⟩
  · simp only [Option.bind_eq_some_iff] at e
    obtain ⟨i, ⟨ns, h1, h2⟩, h3⟩ := e
    obtain ⟨x, rfl, rx⟩ := one_of r
    obtain ⟨a, rfl, ha⟩ := listInts_ok st rx h1
    obtain ⟨p1, p2⟩ := minI_ok h2
    rw [← hK] at ha
    exact cr_min hc pins s σ H _ us Q I ru ⟨a, ns, rfl, ha, p1, fun m hm hl => by rw [p2 m hm hl]; exact fin _ h3 _ (.int _)⟩
  · simp only [Option.bind_eq_some_iff] at e
    obtain ⟨i, ⟨ns, h1, h2⟩, h3⟩ := e
    obtain ⟨x, rfl, rx⟩ := one_of r
    obtain ⟨a, rfl, ha⟩ := listInts_ok st rx h1
    obtain ⟨p1, p2⟩ := maxI_ok h2
    rw [← hK] at ha
    exact cr_max hc pins s σ H _ us Q I ru ⟨a, ns, rfl, ha, p1, fun m hm hl => by rw [p2 m hm hl]; exact fin _ h3 _ (.int _)⟩
  · simp only [Option.bind_eq_some_iff] at e
    obtain ⟨ns, h1, h3⟩ := e
    obtain ⟨x, rfl, rx⟩ := one_of r
    obtain ⟨a, rfl, ha⟩ := listInts_ok st rx h1
    rw [← hK] at ha
    exact cr_sum hc pins s σ H _ us Q I ru ⟨a, ns, rfl, ha, fin _ h3 _ (.int _)⟩
  · simp only [Option.bind_eq_some_iff] at e
    obtain ⟨ns, h1, h3⟩ := e
    obtain ⟨x, rfl, rx⟩ := one_of r
    obtain ⟨a, rfl, ha⟩ := listBools_ok st rx h1
    rw [← hK] at ha
    exact cr_all hc pins s σ H _ us Q I ru ⟨a, ns, rfl, ha, fin _ h3 _ (.bl _)⟩
  · simp only [Option.bind_eq_some_iff] at e
    obtain ⟨ns, h1, h3⟩ := e
    obtain ⟨x, rfl, rx⟩ := one_of r
    obtain ⟨a, rfl, ha⟩ := listBools_ok st rx h1
    rw [← hK] at ha
    exact cr_any hc pins s σ H _ us Q I ru ⟨a, ns, rfl, ha, fin _ h3 _ (.bl _)⟩
  · -- tuple
    rename_i z
    simp only [Option.bind_eq_some_iff] at e
    obtain ⟨l, h1, h2⟩ := e
    obtain ⟨x, rfl, rx⟩ := one_of r
    have viaL : getL S z = some l → wpAny (model X.prog X.w) X.A (call (.type "tuple") us) (EP X pins σ Q) X.xe s := fun h => by
      obtain ⟨a, vs, rfl, ha, ra⟩ := getL_ok st rx h
      refine call_tuple_of pins s σ H _ us Q I ru ⟨a, vs, rfl, .inl ⟨SqL.of ha, fun p hp => ?_⟩⟩
      obtain ⟨s2, n2, q2⟩ := mkT_ok st hp ra h2
      exact k _ _ _ s2 n2 q2
    cases z with
    | ref n => exact viaL h1
    | scr l =>
      cases h1
      obtain ⟨a, rfl, q⟩ := rx
      refine call_tuple_of pins s σ H _ us Q I ru ⟨a, _, rfl, .inl ⟨q.elim (fun z => .inl z.1) fun z => by rw [hK]; exact .inr z, fun p hp => ?_⟩⟩
      obtain ⟨s2, n2, q2⟩ := mkT_ok st hp (scr_ok l) h2
      exact k _ _ _ s2 n2 q2
    | dat p =>
      cases p with
      | list ps => exact viaL h1
      | tuple ps =>
        cases h1
        obtain ⟨a, vs, rfl, ha, ra⟩ := rd_tup rx
        have : mkT (ps.map D.dat) S = some (.dat (.tuple ps), S) := by
          have t : ∀ ps : List PyData, toDats (ps.map D.dat) = some ps := fun ps => by
            induction ps with
            | nil => rfl
            | cons p ps ih => simp [toDats, ih]
          simp [mkT, t]
        rw [this] at h2
        cases h2
        rw [← hK] at ha
        exact call_tuple_of pins s σ H _ us Q I ru ⟨a, vs, rfl, .inr ⟨ha, k m H _ st .refl rx⟩⟩
      | _ => cases h1
  · simp only [Option.bind_eq_some_iff] at e
    obtain ⟨l, h1, h2⟩ := e
    obtain ⟨x, rfl, rx⟩ := one_of r
    obtain ⟨a, vs, rfl, ha, ra⟩ := getSeq_ok st rx h1
    rw [← hK] at ha
    refine call_list_of pins s σ H _ us Q I ru ⟨a, vs, rfl, ha, fun p hp => ?_⟩
    obtain ⟨m2, s2, n2, q2⟩ := mkL_ok st hp ra h2
    exact k _ _ _ s2 n2 q2
  · simp only [Option.bind_eq_some_iff] at e
    obtain ⟨ps, ⟨l, h1, h2⟩, h3⟩ := e
    split at h3
    · rename_i ok
      simp only [Bool.and_eq_true] at ok
      obtain ⟨x, rfl, rx⟩ := one_of r
      obtain ⟨a, vs, rfl, ha, ra⟩ := getSeq_ok st rx h1
      have h4 := toDats_some h2
      subst h4
      rw [← hK] at ha
      refine cr_sortD hK hu pins s σ H _ us Q I ru ⟨a, vs, ps, Lv m S, rfl, ha, Rps.of_paired ra, ok.1, ok.2, fun p ws hp q => ?_⟩
      obtain ⟨m2, s2, n2, q2⟩ := mkL_ok st hp q.paired h3
      exact k _ _ _ s2 n2 q2
    · cases h3
  · simp only [Option.bind_eq_some_iff] at e
    obtain ⟨p, h1, h2⟩ := e
    obtain ⟨x, rfl, rx⟩ := one_of r
    simp only [reprP, Option.bind_eq_some_iff] at h1
    obtain ⟨p', h3, h4⟩ := h1
    split at h4
    · rename_i hr
      cases h4
      exact repr_V hK gd hu pins s σ H _ us Q I ru ⟨x, _, rfl, by rw [hK]; exact toP_dp st rx h3, hr, fin _ h2 _ (.str _)⟩
    · cases h4
  · cases e
end
/-! ### methods -/
theorem below_lt {n : Nat} {d : D} (h : below n d = true) : ∀ k, d = .ref k → k < n := fun k e => by
  subst e
  simpa [below, Nat.blt_eq] using h
theorem mem_of_dropLast {α : Type} : ∀ {l : List α} {a : α}, a ∈ l.dropLast → a ∈ l := fun h => (List.dropLast_subset _) h
theorem RDs.dropLast : ∀ {vs : List V} {ds : List D}, RDs c.K m S H vs ds → RDs c.K m S H vs.dropLast ds.dropLast
  | _, _, .nil => .nil
  | _, _, .cons a .nil => .nil
  | _, _, .cons a (.cons b r) => .cons a (RDs.dropLast (.cons b r))
theorem RDs.setAt {vs : List V} {ds : List D} (r : RDs c.K m S H vs ds) (h : RD c.K m S H v d) : ∀ j, RDs c.K m S H (vs.set j v) (ds.set j d) := by
  induction r with
  | nil => intro j; exact .nil
  | cons a r ih =>
    intro j
    cases j with
    | zero => exact .cons h r
    | succ j => exact .cons a (ih j)
theorem RDs.get {vs : List V} {ds : List D} (r : RDs c.K m S H vs ds) : ∀ {j : Nat}, ds[j]? = some d → ∃ v, vs[j]? = some v ∧ RD c.K m S H v d := by
  induction r with
  | nil => intro j h; simp at h
  | cons a _ ih =>
    intro j h
    cases j with
    | zero => simp at h; subst h; exact ⟨_, rfl, a⟩
    | succ j => simpa using ih (j := j) (by simpa using h)
theorem mem_set {α : Type} : ∀ {l : List α} {j : Nat} {a b : α}, b ∈ l.set j a → b = a ∨ b ∈ l := fun h => by
  rcases List.mem_or_eq_of_mem_set h with z | z
  · exact .inr z
  · exact .inl z
def mthName : Mth → PySem.Str
  | .append => "append"
  | .extend => "extend"
  | .pop => "pop"
  | .popAt => "pop"
  | .index => "index"
  | .insert => "insert"
def mthId : Mth → String
  | .append => "list.append"
  | .extend => "list.extend"
  | .pop => "list.pop"
  | .popAt => "list.pop"
  | .index => "list.index"
  | .insert => "list.insert"
/-- the receiver and the arguments, by values -/
def OpM (c : Cfg) (g : D → List D → Store → PR) : V → List V → Hp → VK → Prop := fun x xs H Q => ∃ m S d1 ds d S', Sto c m S H ∧ RD c.K m S H x d1 ∧ RDs c.K m S H xs ds ∧ g d1 ds S = some (d, S') ∧ ∀ m' H' v, Sto c m' S' H' → Nxt m S H m' S' H' → RD c.K m' S' H' v d → Q v H'
section
variable {X : Cx} (hK : X.K = c.K)
include hK
omit hK in
theorem onCell_some {o : D} {f : Nat → List D → PR} {r : D × Store} (h : onCell o S f = some r) : ∃ n l, o = .ref n ∧ cellAt S n = some l ∧ f n l = some r := by
  unfold onCell at h
  split at h
  · rename_i n
    simp only [Option.bind_eq_some_iff] at h
    obtain ⟨l, h1, h2⟩ := h
    exact ⟨n, l, rfl, h1, h2⟩
  · cases h
omit hK in
theorem arg1_some {xs : List D} {v : D} (h : arg1 xs = some v) : xs = [v] := by
  unfold arg1 at h
  split at h
  · cases h; rfl
  · cases h
omit hK in
theorem arg1i_some {xs : List D} {v : Int} (h : arg1i xs = some v) : xs = [.dat (.int v)] := by
  unfold arg1i at h
  split at h
  · cases h; rfl
  · cases h
omit hK in
theorem arg2i_some {xs : List D} {v : Int} {w : D} (h : arg2i xs = some (v, w)) : xs = [.dat (.int v), w] := by
  unfold arg2i at h
  split at h
  · cases h; rfl
  · cases h
theorem mt_appendV : MtR X "list.append" (OpM c (methV .append)) := by
  rintro pins s σ H x xs u us Q I rx ru ⟨m, S, d1, ds, d, S', st, r1, rs, e, k⟩
  replace e : (onCell d1 S fun n l => (arg1 ds).bind fun v => if below n v && Nat.blt l.length 16777216 then some (D.dat .none, S.set n (.lst (l ++ [v]))) else none) = some (d, S') := e
  obtain ⟨n, l, hd1, h1, e2⟩ := onCell_some e
  clear e
  subst hd1
  have e := e2
  clear e2
  simp only [Option.bind_eq_some_iff] at e
  obtain ⟨z, hz, h2⟩ := e
  have := arg1_some hz
  subst this
  split at h2
  · rename_i hb
    cases h2
    simp only [Bool.and_eq_true, Nat.blt_eq] at hb
    obtain ⟨a, e1, rfl⟩ := r1
    obtain ⟨y, rfl, ry⟩ := one_of rs
    have hS := cellAt_some h1
    obtain ⟨vs, h3, h4⟩ := st.cell n a _ e1 hS
    have key := sto_set st e1 hS (RDs.app h4 (.cons ry .nil)) (fun d hd => by
      rcases List.mem_append.mp hd with q | q
      · exact st.wf n l hS d q
      · have : d = z := by simpa using q
        rw [this]; exact hb.1)
    exact mt_append pins s σ H _ _ u us Q I rx ru ⟨a, vs, y, rfl, rfl, h3, by rw [h4.len, sizeLine_eq]; exact hb.2, k _ _ _ key.1 key.2 .non⟩
  · cases h2
theorem mt_extendV : MtR X "list.extend" (OpM c (methV .extend)) := by
  rintro pins s σ H x xs u us Q I rx ru ⟨m, S, d1, ds, d, S', st, r1, rs, e, k⟩
  replace e : (onCell d1 S fun n l => ((arg1 ds).bind (getL S)).bind fun r => if r.all (below n) && fits (l.length + r.length) then some (D.dat .none, S.set n (.lst (l ++ r))) else none) = some (d, S') := e
  obtain ⟨n, l, hd1, h1, e2⟩ := onCell_some e
  clear e
  subst hd1
  have e := e2
  clear e2
  simp only [Option.bind_eq_some_iff] at e
  obtain ⟨r, ⟨z, hz, h2⟩, e⟩ := e
  have := arg1_some hz
  subst this
  split at e
  · rename_i hb
    cases e
    simp only [Bool.and_eq_true] at hb
    obtain ⟨a, e1, rfl⟩ := r1
    obtain ⟨y, rfl, ry⟩ := one_of rs
    have hS := cellAt_some h1
    obtain ⟨vs, h3, h4⟩ := st.cell n a _ e1 hS
    obtain ⟨b, ws, rfl, h5, h6⟩ := getL_ok st ry h2
    have key := sto_set st e1 hS (RDs.app h4 h6) (fun d hd => by
      rcases List.mem_append.mp hd with q | q
      · exact st.wf n l hS d q
      · exact List.all_eq_true.mp hb.1 d q)
    exact mt_extend pins s σ H _ _ u us Q I rx ru ⟨a, b, vs, ws, rfl, rfl, h3, h5, by rw [h4.len, h6.len]; exact fits_ok hb.2, k _ _ _ key.1 key.2 .non⟩
  · cases e
theorem mt_popV : MtR X "list.pop" (OpM c (methV .pop)) := by
  rintro pins s σ H x xs u us Q I rx ru ⟨m, S, d1, ds, d, S', st, r1, rs, e, k⟩
  replace e : (onCell d1 S fun n l => if ds.isEmpty then (l[l.length - 1]?).map fun v => (v, S.set n (.lst l.dropLast)) else none) = some (d, S') := e
  obtain ⟨n, l, hd1, h1, e2⟩ := onCell_some e
  clear e
  subst hd1
  have e := e2
  clear e2
  split at e
  · rename_i hx
    have : ds = [] := by simpa using hx
    subst this
    simp only [Option.map_eq_some_iff] at e
    obtain ⟨y, h2, h3⟩ := e
    cases h3
    obtain ⟨a, e1, rfl⟩ := r1
    cases rs
    have hS := cellAt_some h1
    obtain ⟨vs, h3, h4⟩ := st.cell n a _ e1 hS
    obtain ⟨w, h5, h6⟩ := h4.get h2
    have key := sto_set st e1 hS (RDs.dropLast h4) (fun d hd => st.wf n l hS d (mem_of_dropLast hd))
    exact mt_pop pins s σ H _ _ u us Q I rx ru ⟨a, vs, w, rfl, rfl, h3, by rw [h4.len]; exact h5, k _ _ _ key.1 key.2 (h6.nxt st key.2)⟩
  · cases e
omit hK in
theorem RDs.erase {vs : List V} {ds : List D} (r : RDs c.K m S H vs ds) : ∀ j, RDs c.K m S H (vs.eraseIdx j) (ds.eraseIdx j) := by
  induction r with
  | nil => intro j; exact .nil
  | cons a r ih =>
    intro j
    cases j with
    | zero => exact r
    | succ j => exact .cons a (ih j)
omit hK in
theorem RDs.takeN {vs : List V} {ds : List D} (r : RDs c.K m S H vs ds) : ∀ j, RDs c.K m S H (vs.take j) (ds.take j) := by
  induction r with
  | nil => intro j; simp; exact .nil
  | cons a r ih =>
    intro j
    cases j with
    | zero => exact .nil
    | succ j => exact .cons a (ih j)
omit hK in
theorem RDs.dropN {vs : List V} {ds : List D} (r : RDs c.K m S H vs ds) : ∀ j, RDs c.K m S H (vs.drop j) (ds.drop j) := by
  induction r with
  | nil => intro j; simp; exact .nil
  | cons a r ih =>
    intro j
    cases j with
    | zero => exact .cons a r
    | succ j => exact ih j
theorem mt_popAtV : MtR X "list.pop" (OpM c (methV .popAt)) := by
  rintro pins s σ H x xs u us Q I rx ru ⟨m, S, d1, ds, d, S', st, r1, rs, e, k⟩
  replace e : (onCell d1 S fun n l => (arg1i ds).bind fun i => if decide (-9223372036854775808 ≤ i) && decide (i < 9223372036854775808) then (seqIndex? i l.length).bind fun k => l[k]?.map fun v => (v, S.set n (.lst (l.eraseIdx k))) else none) = some (d, S') := e
  obtain ⟨n, l, hd1, h1, e2⟩ := onCell_some e
  clear e
  subst hd1
  have e := e2
  clear e2
  simp only [Option.bind_eq_some_iff] at e
  obtain ⟨i, hi, h2⟩ := e
  have := arg1i_some hi
  subst this
  split at h2
  · rename_i hb
    simp only [Bool.and_eq_true, decide_eq_true_eq] at hb
    simp only [Option.bind_eq_some_iff, Option.map_eq_some_iff] at h2
    obtain ⟨j, g1, y, g2, g3⟩ := h2
    cases g3
    obtain ⟨a, e1, rfl⟩ := r1
    obtain ⟨z, rfl, rz⟩ := one_of rs
    cases rd_int rz
    have hS := cellAt_some h1
    obtain ⟨vs, h3, h4⟩ := st.cell n a _ e1 hS
    obtain ⟨w, h5, h6⟩ := h4.get g2
    have key := sto_set st e1 hS (RDs.erase h4 j) (fun d hd => st.wf n l hS d (List.mem_of_mem_eraseIdx hd))
    exact mt_popAt pins s σ H _ _ u us Q I rx ru ⟨a, vs, i, j, w, rfl, rfl, h3, by omega, by omega, by rw [h4.len]; exact g1, h5, k _ _ _ key.1 key.2 (h6.nxt st key.2)⟩
  · cases h2
omit hK in
theorem findIx_ok {q : PyData} : ∀ {ds : List PyData} {i j : Nat}, findIx q ds i = some j → ∃ k z, j = i + k ∧ ds[k]? = some z ∧ PyData.eqv z q = true ∧ ∀ (m : Nat) (z' : PyData), m < k → ds[m]? = some z' → PyData.eqv z' q = false
  | [], _, _, h => by cases h
  | z :: r, i, j, h => by
    unfold findIx at h
    split at h
    · rename_i hz
      cases h
      exact ⟨0, z, rfl, rfl, hz, fun m z' hm _ => absurd hm (Nat.not_lt_zero m)⟩
    · rename_i hz
      obtain ⟨k, z2, h1, h2, h3, h4⟩ := findIx_ok h
      refine ⟨k + 1, z2, by omega, by simpa using h2, h3, fun m z' hm hz' => ?_⟩
      cases m with
      | zero =>
        simp at hz'
        subst hz'
        simpa using hz
      | succ m => exact h4 m z' (by omega) (by simpa using hz')
theorem mt_indexV (hu : X.A.units + 65 < cLine) : MtR X "list.index" (OpM c (methV .index)) := by
  rintro pins s σ H x xs u us Q I rx ru ⟨m, S, d1, ds, d, S', st, r1, rs, e, k⟩
  replace e : (idxP (toP S d1) ((arg1 ds).bind (toP S))).map (fun j => (D.dat (.int (j : Nat)), S)) = some (d, S') := e
  simp only [Option.map_eq_some_iff] at e
  obtain ⟨j, g1, g2⟩ := e
  cases g2
  unfold idxP at g1
  split at g1
  · rename_i qs p h1 h2
    split at g1
    · rename_i hs
      simp only [Bool.and_eq_true] at hs
      simp only [Option.bind_eq_some_iff] at h2
      obtain ⟨z, hz, h2⟩ := h2
      have := arg1_some hz
      subst this
      obtain ⟨y, rfl, ry⟩ := one_of rs
      obtain ⟨k', z2, g3, g4, g5, g6⟩ := findIx_ok g1
      have dx := toP_dp st r1 h1
      have dy := toP_dp st ry h2
      have hx : ∃ a, x = .ref a := by cases dx; exact ⟨_, rfl⟩
      obtain ⟨a, rfl⟩ := hx
      have : j = k' := by omega
      subst this
      exact mt_indexD hu pins s σ H _ _ u us Q I rx ru ⟨a, y, p, qs, j, z2, rfl, rfl, by rw [hK]; exact dx, by rw [hK]; exact dy, hs.1, hs.2, g4, g5, g6, k m H _ st .refl (.int _)⟩
    · cases g1
  · cases g1
theorem mt_insertV : MtR X "list.insert" (OpM c (methV .insert)) := by
  rintro pins s σ H x xs u us Q I rx ru ⟨m, S, d1, ds, d, S', st, r1, rs, e, k⟩
  replace e : (onCell d1 S fun n l => (arg2i ds).bind fun (i, v) => if below n v && Nat.blt l.length 16777216 && decide (0 ≤ i) && decide (i < 9223372036854775808) then some (D.dat .none, S.set n (.lst (l.take i.toNat ++ [v] ++ l.drop i.toNat))) else none) = some (d, S') := e
  obtain ⟨n, l, hd1, h1, e2⟩ := onCell_some e
  clear e
  subst hd1
  have e := e2
  clear e2
  simp only [Option.bind_eq_some_iff] at e
  obtain ⟨⟨i, z⟩, hi, h2⟩ := e
  have := arg2i_some hi
  subst this
  split at h2
  · rename_i hb
    cases h2
    simp only [Bool.and_eq_true, Nat.blt_eq, decide_eq_true_eq] at hb
    obtain ⟨a, e1, rfl⟩ := r1
    obtain ⟨w, y, rfl, rw', ry⟩ := two_of rs
    cases rd_int rw'
    have hS := cellAt_some h1
    obtain ⟨vs, h3, h4⟩ := st.cell n a _ e1 hS
    have key := sto_set st e1 hS (RDs.app (RDs.app (RDs.takeN h4 i.toNat) (.cons ry .nil)) (RDs.dropN h4 i.toNat)) (fun d hd => by
      rcases List.mem_append.mp hd with q | q
      · rcases List.mem_append.mp q with q | q
        · exact st.wf n l hS d (List.mem_of_mem_take q)
        · have : d = z := by simpa using q
          rw [this]; exact hb.1.1.1
      · exact st.wf n l hS d (List.mem_of_mem_drop q))
    exact mt_insert pins s σ H _ _ u us Q I rx ru ⟨a, vs, i, y, rfl, rfl, h3, by rw [h4.len, sizeLine_eq]; exact hb.1.1.2, hb.1.2, by omega, k _ _ _ key.1 key.2 .non⟩
  · cases h2
theorem mt_V (hu : X.A.units + 65 < cLine) (m : Mth) : MtR X (mthId m) (OpM c (methV m)) := by
  cases m with
  | append => exact mt_appendV hK
  | extend => exact mt_extendV hK
  | pop => exact mt_popV hK
  | popAt => exact mt_popAtV hK
  | index => exact mt_indexV hK hu
  | insert => exact mt_insertV hK
/-- o[i] = v -/
theorem set_V : PSet X (fun o i v H Q => ∃ m S d1 d2 d3 S', Sto c m S H ∧ RD c.K m S H o d1 ∧ RD c.K m S H i d2 ∧ RD c.K m S H v d3 ∧ setiV d1 d2 d3 S = some S' ∧ ∀ m' H', Sto c m' S' H' → Nxt m S H m' S' H' → Q H') := by
  rintro pins s σ H o i v ov iv u Q I ro ri rv ⟨m, S, d1, d2, d3, S', st, r1, r2, r3, e, k⟩
  unfold setiV at e
  split at e
  · rename_i n j
    simp only [Option.bind_eq_some_iff] at e
    obtain ⟨l, h1, l', h2, h3⟩ := e
    split at h3
    · rename_i hb
      cases h3
      unfold setAt at h2
      simp only [Option.map_eq_some_iff] at h2
      obtain ⟨q, h4, h5⟩ := h2
      subst h5
      obtain ⟨a, e1, rfl⟩ := r1
      have hS := cellAt_some h1
      obtain ⟨vs, h6, h7⟩ := st.cell n a _ e1 hS
      have key := sto_set st e1 hS (h7.setAt r3 q) (fun d hd => by
        rcases mem_set hd with z | z
        · rw [z]; exact hb
        · exact st.wf n l hS d z)
      exact set_list pins s σ H _ i v ov iv u Q I ro ri rv ⟨a, vs, j, q, rfl, rd_int r2, h6, by rw [h7.len]; exact h4, k _ _ key.1 key.2⟩
    · cases h3
  · cases e
end
/-! ### a cell is let go -/
theorem sto_dead (st : Sto c m S H) {n : Nat} : Sto c m (S.set n .dead) H ∧ Nxt m S H m (S.set n .dead) H := by
  have lv : ∀ a, Lv m (S.set n .dead) a → Lv m S a := by
    rintro a (⟨k, x, h1, h2, h3⟩ | h)
    · by_cases hk : n = k
      · subst hk
        have hn : n < S.length := by
          have := (List.getElem?_eq_some_iff.mp h2).1
          simpa using this
        rw [List.getElem?_set_self hn] at h2
        cases h2
        exact absurd rfl h3
      · rw [List.getElem?_set_ne hk] at h2
        exact .inl ⟨k, x, h1, h2, h3⟩
    · exact .inr h
  have nx : Nxt m S H m (S.set n .dead) H := ⟨⟨⟨[], by simp⟩, fun _ _ h _ _ => h, fun a h => .inr (lv a h), fun _ h => h⟩, rfl, fun _ _ _ h => h⟩
  refine ⟨⟨by simp [st.len], st.nd, fun k a x h1 h2 => ?_, fun k l h d hd => ?_, st.used, st.hid, st.tabs⟩, nx⟩
  · by_cases hk : n = k
    · subst hk
      have hn : n < S.length := by
        have := (List.getElem?_eq_some_iff.mp h2).1
        simpa using this
      rw [List.getElem?_set_self hn] at h2
      cases h2
      exact True.intro
    · rw [List.getElem?_set_ne hk] at h2
      have q := st.cell k a x h1 h2
      cases x with
      | lst l =>
        obtain ⟨vs, e, r⟩ := q
        exact ⟨vs, e, RDs.nxt st nx r⟩
      | dic l => exact q
      | dead => exact q
  · by_cases hk : n = k
    · subst hk
      have hn : n < S.length := by
        have := (List.getElem?_eq_some_iff.mp h).1
        simpa using this
      rw [List.getElem?_set_self hn] at h
      cases h
    · rw [List.getElem?_set_ne hk] at h
      exact st.wf k l h d hd
/-- frz: the same objects, by-value from here on -/
theorem frz_ok : ∀ (k : Nat) {m : Mp} {S S' : Store} {d : D} {p : PyData} {v : V}, Sto c m S H → RD c.K m S H v d → frz k d S = some (p, S') →
    Sto c m S' H ∧ Nxt m S H m S' H ∧ Rp c.K H (Lv m S') v p := by
  intro k
  induction k with
  | zero =>
    intro m S S' d p v st r e
    cases d with
    | dat q => cases e; exact ⟨st, .refl, r⟩
    | scr l => cases e
    | ref n => cases e
  | succ k ih =>
    intro m S S' d p v st r e
    cases d with
    | dat q => cases e; exact ⟨st, .refl, r⟩
    | scr l => cases e
    | ref n =>
      simp only [frz, Option.bind_eq_some_iff, Option.map_eq_some_iff] at e
      obtain ⟨l, h1, ⟨ps, S2⟩, h2, h3⟩ := e
      cases h3
      obtain ⟨a, e1, rfl⟩ := r
      have hS := cellAt_some h1
      obtain ⟨vs, h4, h5⟩ := st.cell n a _ e1 hS
      -- the items from the right
      have items : ∀ {l : List D} {vs : List V} {ps : List PyData} {S2 : Store}, RDs c.K m S H vs l →
          l.foldr (fun d acc => acc.bind fun (ps, S') => (frz k d S').map fun (p, S2) => (p :: ps, S2)) (some ([], S)) = some (ps, S2) →
          Sto c m S2 H ∧ Nxt m S H m S2 H ∧ Rps c.K H (Lv m S2) vs ps := by
        intro l
        induction l with
        | nil =>
          intro vs ps S2 r e
          cases r
          cases e
          exact ⟨st, .refl, .nil⟩
        | cons d l ihl =>
          intro vs ps S2 r e
          cases r with
          | cons a b =>
            simp only [List.foldr_cons, Option.bind_eq_some_iff, Option.map_eq_some_iff] at e
            obtain ⟨⟨ps1, S1⟩, e2, ⟨p, S3⟩, e3, e4⟩ := e
            cases e4
            obtain ⟨s1, n1, q1⟩ := ihl b e2
            obtain ⟨s2, n2, q2⟩ := ih s1 (a.nxt st n1) e3
            exact ⟨s2, n1.trans n2, .cons q2 (Rps.nxt s1 n2 q1)⟩
      obtain ⟨s2, n2, q2⟩ := items h5 h2
      obtain ⟨s3, n3⟩ := sto_dead s2 (n := n)
      refine ⟨s3, n2.trans n3, .lst h4 ?_ (Rps.nxt s2 n3 q2)⟩
      rintro (⟨j, x, q1, q2, q3⟩ | hh)
      case inr => exact (st.hid a hh).1 (List.mem_of_getElem? e1)
      have : j = n := by
        obtain ⟨i1, e2⟩ := List.getElem?_eq_some_iff.mp e1
        obtain ⟨i2, e3⟩ := List.getElem?_eq_some_iff.mp q1
        exact (List.getElem_inj st.nd).mp (e3.trans e2.symm)
      subst this
      have hn : j < S2.length := by
        have := (List.getElem?_eq_some_iff.mp q2).1
        simpa using this
      rw [List.getElem?_set_self hn] at q2
      cases q2
      exact q3 rfl
end
end MP
end
section
/-! MiniPy: what is walked. -/
namespace MP
open PySem PySem.Spec PyProof.Rows L2
/-- a list or a tuple -/
inductive SK where | l | t
def SqK (k : SK) (K : PySem.W.Frag) (H : Hp) (a : Addr) (xs : List V) : Prop := match k with
  | .l => SqL K H a xs
  | .t => SqT K H a xs
def ItK (k : SK) (h : Heap) (it a : Addr) (i : Nat) : Prop := match k with
  | .l => h.IsListIter it a i
  | .t => h.IsTupleIter it a i
def SeqK (k : SK) (h : Heap) (a : Addr) (its : Array Value) : Prop := match k with
  | .l => h.IsList a its
  | .t => h.IsTuple a its
section
variable {X : Cx} {pins : List (Addr × Obj)} {σ : L2.St} {H : Hp} {s : Shared} {a it : Addr} {xs ys : List V}
theorem invK (k : SK) (I : Inv X pins σ H s) (h : SqK k X.K H a xs) : ∃ its : List Value, Vals xs its ∧ SeqK k s.heap a its.toArray ∧ xs.length ≤ sizeLine := by
  cases k with
  | l => obtain ⟨its, r, p, z⟩ := I.list h; exact ⟨its, r, p.isList, z⟩
  | t => obtain ⟨its, r, p, z⟩ := I.tuple h; exact ⟨its, r, (show s.heap.IsTuple a its.toArray from p), z⟩
theorem injK (k : SK) (I : Inv X pins σ H s) (h : SqK k X.K H a xs) (h' : SqK k X.K H a ys) : xs = ys := by
  cases k with
  | l => exact I.list_inj h h'
  | t => exact I.tuple_inj h h'
theorem SeqK.lt {k : SK} {h : Heap} {its : Array Value} (x : SeqK k h a its) : a < h.objs.size := by
  cases k with
  | l => obtain ⟨o, e, _⟩ := x; exact Heap.lt_size e
  | t => obtain ⟨o, e, _⟩ := x; exact Heap.lt_size e
theorem ItK.obj {k : SK} {h : Heap} {i : Nat} (x : ItK k h it a i) : ∃ o, h.get? it = some o ∧ ∀ v, o.data ≠ .cell v := by
  cases k with
  | l => obtain ⟨o, e, c, d⟩ := x; exact ⟨o, e, fun v z => by rw [d] at z; cases z⟩
  | t => obtain ⟨o, e, c, d⟩ := x; exact ⟨o, e, fun v z => by rw [d] at z; cases z⟩
theorem ItK.keep {k : SK} {h h' : Heap} {i : Nat} (x : ItK k h it a i) (q : ∀ o, h.get? it = some o → h'.get? it = some o) : ItK k h' it a i := by
  cases k with
  | l => exact Heap.IsListIter.at x q
  | t => exact Heap.IsTupleIter.at x q
theorem ItK.ne {k : SK} {h : Heap} {i : Nat} {its : Array Value} (x : ItK k h it a i) (p : SeqK k h a its) : a ≠ it := fun e => by
  cases k with
  | l =>
    obtain ⟨o1, q1, c1, _⟩ := x
    obtain ⟨o2, q2, c2, _⟩ := p
    rw [e, q1] at q2; cases q2; rw [c1] at c2
    exact absurd (Value.type.inj c2) (by decide)
  | t =>
    obtain ⟨o1, q1, c1, _⟩ := x
    obtain ⟨o2, q2, c2, _⟩ := p
    rw [e, q1] at q2; cases q2; rw [c1] at c2
    exact absurd (Value.type.inj c2) (by decide)
def drK (k : SK) {prog : Program} {w : World} {A : Around} (hh : A.handled = none) (it a : Addr) (hne : a ≠ it) (its : Array Value) :
    Draws prog w A it [it, a] its.size (fun i v => its[i]? = some v) (fun i h => ItK k h it a i ∧ SeqK k h a its) := match k with
  | .l => Draws.list hh it a hne its
  | .t => Draws.tuple hh it a hne its
def objK (k : SK) (a : Addr) : Obj := match k with
  | .l => { cls := .type "list_iterator", data := .fields #[.ref a, .int 0 0] }
  | .t => { cls := .type "tuple_iterator", data := .fields #[.ref a, .int 0 0] }
theorem begK (k : SK) (a : Addr) (its : Array Value) : Begins (.ref a) (objK k a) fun h => SeqK k h a its := by
  cases k with
  | l => exact begins_list a its
  | t => exact begins_tuple a its
theorem itK_new (k : SK) {h : Heap} (e : h.get? it = some (objK k a)) : ItK k h it a 0 := by
  cases k with
  | l => exact ⟨_, e, rfl, rfl⟩
  | t => exact ⟨_, e, rfl, rfl⟩
theorem valsA {xs : List V} {its : List Value} (r : Vals xs its) {i : Nat} {x : V} {u : Value} (hx : xs[i]? = some x) (hu : its.toArray[i]? = some u) : RelV x u := by
  obtain ⟨u', h1, h2⟩ := r.get hx
  have : its[i]? = some u := by simpa using hu
  rw [h1] at this
  cases this
  exact h2
end
/-! ### one source -/
def It1 (k : SK) (K : PySem.W.Frag) (a : Addr) : It :=
  ⟨fun i H => ∃ xs x, SqK k K H a xs ∧ xs[i]? = some x, fun i H x H' => H' = H ∧ ∀ xs, SqK k K H a xs → xs[i]? = some x, fun i H => ∃ xs, SqK k K H a xs ∧ xs.length ≤ i⟩
def turn1 (k : SK) {P : Program} {w : World} {K : PySem.W.Frag} {tg : Expr} (a it : Addr) : Turn P w K tg (It1 k K a) [it] it (fun i h => ItK k h it a i) := match k with
  | .l => turn_list a it
  | .t => turn_tuple a it
/-! ### several sources: new tuples -/
/-- the turn of an iterator that hands out new tuples -/
theorem item_walks {X : Cx} {pins : List (Addr × Obj)} {σ : L2.St} {H : Hp} {s : Shared} {E : Value → Shared → Prop} {z : Addr} {fp wr : List Addr} {n i : Nat} {Pt : Nat → Array Value → Prop} {Sn : Nat → Heap → Prop} {Mid : Nat → Addr → Heap → Prop} {elts : List Expr} {kk : Nat} {tpos : Pos}
    (I : Inv X pins σ H s) (W : WalksT X.prog X.w X.A z fp wr n Pt Sn Mid) (hi : i < n) (hst : Sn i s.heap) (hf : ∀ b ∈ wr, FpOk X pins H b) (xs : List V) (hp : ∀ vals, Pt i vals → Vals xs vals.toList) (hz : xs.length ≤ sizeLine)
    {R : V → Hp → Shared → Prop} (fin : ∀ T (s2 : Shared), H T = none → s.heap.objs.size ≤ T → Sn (i + 1) s2.heap → R (.ref T) (upd H T (.tup xs)) s2) :
    wpAny (model X.prog X.w) X.A (pyNext (.ref z)) (fun r s1 => ∃ u, r = some u ∧
      wpAny (model X.prog X.w) X.A (letOwnedTupleGo (.Tuple elts kk tpos) (.ref z) u) (fun _ s2 => ∃ x H', Inv X pins σ H' s2 ∧ RelV x u ∧ R x H' s2) E s1) E s := by
  refine W.item i s _ E hi hst fun T vals h' tk hP hT ht hm hk => ?_
  refine ⟨_, rfl, W.go elts kk tpos i T { s with heap := h', toks := tk } _ E hm fun h'' st'' hk2 => ?_⟩
  have hv := hp vals hP
  have ap : T ∉ wr := W.apart i T h' hm
  obtain ⟨o, e, c, m, d⟩ := ht
  have e2 : h''.get? T = some o := hk2 T o ap e
  have new : ObjOk X.prog X.w (upd H T (.tup xs)) h'' T (.tup xs) := ⟨hz, vals.toList, hv, ⟨o, e2, c, m, by simpa using d⟩⟩
  have I1 : Inv X pins σ (upd H T (.tup xs)) { s with heap := h'', toks := tk } := I.turnedNew (ch := wr) (fun b ob hb q => hk2 b ob hb (hk b ob hb q)) hf hT new
  exact ⟨.ref T, _, I1, rfl, fin T _ (I.hok.fresh hT) hT st''⟩
theorem done_walks {X : Cx} {pins : List (Addr × Obj)} {σ : L2.St} {H : Hp} {s : Shared} {E : Value → Shared → Prop} {z : Addr} {fp wr : List Addr} {n : Nat} {Pt : Nat → Array Value → Prop} {Sn : Nat → Heap → Prop} {Mid : Nat → Addr → Heap → Prop}
    (I : Inv X pins σ H s) (W : WalksT X.prog X.w X.A z fp wr n Pt Sn Mid) (hst : Sn n s.heap) (hf : ∀ b ∈ wr, FpOk X pins H b) :
    wpAny (model X.prog X.w) X.A (pyNext (.ref z)) (fun r s1 => r = none ∧ Inv X pins σ H s1) E s :=
  W.done s _ E hst fun h' tk hk => ⟨rfl, I.turnedL (ch := wr) (fun b o hb e => hk b o hb e) hf⟩
/-- enumerate -/
def ItE (k : SK) (K : PySem.W.Frag) (a : Addr) : It :=
  ⟨fun i H => ∃ xs x, SqK k K H a xs ∧ xs[i]? = some x,
    fun i H v H' => ∃ T x, v = .ref T ∧ H T = none ∧ H' = upd H T (.tup [.int (i : Nat), x]) ∧ ∀ xs, SqK k K H a xs → xs[i]? = some x,
    fun i H => ∃ xs, SqK k K H a xs ∧ xs.length = i⟩
theorem turnE (k : SK) {P : Program} {w : World} {K : PySem.W.Frag} {elts : List Expr} {kk : Nat} {tpos : Pos} (a e it : Addr) (hne : e ≠ it) (hae : a ≠ e) (hai : a ≠ it) :
    Turn P w K (.Tuple elts kk tpos) (ItE k K a) [e, it] e (fun i h => (∃ old, IsEnum h e it (i : Int) old) ∧ ItK k h it a i) where
  mem := by simp
  obj := fun i h st b hb => by
    obtain ⟨⟨old, he⟩, hit⟩ := st
    have e' : b = e ∨ b = it := by simpa using hb
    rcases e' with q | q
    · rw [q]; exact ⟨_, he, fun v q => nomatch q⟩
    · rw [q]; exact hit.obj
  keep := fun i h h' st q => by
    obtain ⟨⟨old, he⟩, hit⟩ := st
    exact ⟨⟨old, q e (by simp) _ he⟩, hit.keep fun o z => q it (by simp) o z⟩
  item := by
    intro X hP hw hK hc i pins s σ H E I hf st hg
    subst hP hw hK
    obtain ⟨⟨old, he⟩, hit⟩ := st
    obtain ⟨xs, x, hq, hx⟩ := hg
    obtain ⟨its, rv, p, hz⟩ := invK k I hq
    have hlt : i < its.toArray.size := by
      have := (List.getElem?_eq_some_iff.mp hx).1
      have e := rv.length
      simp only [List.size_toArray]
      omega
    have W := WalksT.enumFrom (A := X.A) 0 (drK (prog := X.prog) (w := X.w) k (show X.A.in1.handled = none from I.ok.hd hc) it a hai its.toArray) e hne (by simp [hne, Ne.symm hae]) (by simp)
    have lt : ∀ b ∈ [e, it], b < s.heap.objs.size := fun b hb => by
      have e' : b = e ∨ b = it := by simpa using hb
      rcases e' with q | q
      · rw [q]; exact Heap.lt_size he
      · rw [q]; obtain ⟨o, e, _⟩ := hit.obj; exact Heap.lt_size e
    refine item_walks I W hlt ⟨⟨old, by simpa using he⟩, hit, p⟩ (fun b hb => hf b hb) [.int (i : Nat), x] ?_ (by show 2 ≤ sizeLine; decide) ?_
    · rintro vals ⟨t, u, hu, rfl⟩
      exact .cons ⟨t, by simp⟩ (.cons (valsA rv hx hu) .nil)
    · intro T s2 hT hTs hst
      obtain ⟨⟨old', he'⟩, hit', _⟩ := hst
      refine ⟨⟨T, x, rfl, hT, rfl, fun ys hy => by rw [injK k I hy hq]; exact hx⟩, ⟨⟨old', by simpa using he'⟩, hit'⟩, fun b hb => ?_⟩
      rw [upd_ne (Nat.ne_of_lt (Nat.lt_of_lt_of_le (lt b hb) hTs))]
      exact (hf b hb).1
  done := by
    intro X hP hw hK hc i pins s σ H E I hf st hg
    subst hP hw hK
    obtain ⟨⟨old, he⟩, hit⟩ := st
    obtain ⟨xs, hq, hx⟩ := hg
    obtain ⟨its, rv, p, hz⟩ := invK k I hq
    have W := WalksT.enumFrom (A := X.A) 0 (drK (prog := X.prog) (w := X.w) k (show X.A.in1.handled = none from I.ok.hd hc) it a hai its.toArray) e hne (by simp [hne, Ne.symm hae]) (by simp)
    have hn : its.toArray.size = i := by
      have e := rv.length
      simp only [List.size_toArray]
      omega
    rw [← hn] at he hit
    exact done_walks I W ⟨⟨old, by simpa using he⟩, hit, p⟩ fun b hb => hf b hb
  self := fun A i s Q E st h => let ⟨⟨_, he⟩, _⟩ := st; wpAny_pyIter_enum he h
/-- zip of two -/
def ItZ (k k2 : SK) (K : PySem.W.Frag) (a b : Addr) : It :=
  ⟨fun i H => ∃ (xs ys : List V) (x y : V), SqK k K H a xs ∧ SqK k2 K H b ys ∧ xs[i]? = some x ∧ ys[i]? = some y,
    fun i H v H' => ∃ T x y, v = .ref T ∧ H T = none ∧ H' = upd H T (.tup [x, y]) ∧ (∀ xs, SqK k K H a xs → xs[i]? = some x) ∧ ∀ ys, SqK k2 K H b ys → ys[i]? = some y,
    fun i H => ∃ xs ys : List V, SqK k K H a xs ∧ SqK k2 K H b ys ∧ min xs.length ys.length = i⟩
theorem turnZ (k k2 : SK) {P : Program} {w : World} {K : PySem.W.Frag} {elts : List Expr} {kk : Nat} {tpos : Pos} {a b z TI TO i1 i2 : Addr} (D : ZipSep2 z TI TO i1 i2 [i1, a] [i2, b]) :
    Turn P w K (.Tuple elts kk tpos) (ItZ k k2 K a b) [z, TI, TO, i1, i2] z (fun i h => IsZip h z TI TO .none ∧ IsTupOf2 h TI (.ref i1) (.ref i2) ∧ (∃ a1 a2, IsTupOf2 h TO a1 a2) ∧ ItK k h i1 a i ∧ ItK k2 h i2 b i) where
  mem := by simp
  obj := fun i h st c hc => by
    obtain ⟨hz, hTI, ⟨x, y, hTO⟩, h1, h2⟩ := st
    have e' : c = z ∨ c = TI ∨ c = TO ∨ c = i1 ∨ c = i2 := by simpa using hc
    rcases e' with q | q | q | q | q
    · rw [q]; exact ⟨_, hz, fun v q => nomatch q⟩
    · rw [q]; exact ⟨_, hTI, fun v q => nomatch q⟩
    · rw [q]; exact ⟨_, hTO, fun v q => nomatch q⟩
    · rw [q]; exact h1.obj
    · rw [q]; exact h2.obj
  keep := fun i h h' st q => by
    obtain ⟨hz, hTI, ⟨x, y, hTO⟩, h1, h2⟩ := st
    exact ⟨q z (by simp) _ hz, q TI (by simp) _ hTI, ⟨x, y, q TO (by simp) _ hTO⟩, h1.keep fun o e => q i1 (by simp) o e, h2.keep fun o e => q i2 (by simp) o e⟩
  item := by
    intro X hP hw hK hc i pins s σ H E I hf st hg
    subst hP hw hK
    obtain ⟨hz, hTI, ⟨x0, y0, hTO⟩, h1, h2⟩ := st
    obtain ⟨xs, ys, x, y, hqx, hqy, hx, hy⟩ := hg
    obtain ⟨its, rv, p, _⟩ := invK k I hqx
    obtain ⟨its2, rv2, p2, _⟩ := invK k2 I hqy
    have l1 : i < its.toArray.size := by
      have := (List.getElem?_eq_some_iff.mp hx).1
      have e := rv.length
      simp only [List.size_toArray]
      omega
    have l2 : i < its2.toArray.size := by
      have := (List.getElem?_eq_some_iff.mp hy).1
      have e := rv2.length
      simp only [List.size_toArray]
      omega
    have na : a ≠ i1 := h1.ne p
    have nb : b ≠ i2 := h2.ne p2
    have W := WalksT.zipD2 (A := X.A) D (drK (prog := X.prog) (w := X.w) k (show X.A.in1.handled = none from I.ok.hd hc) i1 a na its.toArray) (drK (prog := X.prog) (w := X.w) k2 (show X.A.in1.handled = none from I.ok.hd hc) i2 b nb its2.toArray)
    have lt : ∀ c ∈ [z, TI, TO, i1, i2], c < s.heap.objs.size := fun c hcm => by
      have e' : c = z ∨ c = TI ∨ c = TO ∨ c = i1 ∨ c = i2 := by simpa using hcm
      rcases e' with q | q | q | q | q
      · rw [q]; exact Heap.lt_size hz
      · rw [q]; exact Heap.lt_size hTI
      · rw [q]; exact Heap.lt_size hTO
      · rw [q]; obtain ⟨o, e, _⟩ := h1.obj; exact Heap.lt_size e
      · rw [q]; obtain ⟨o, e, _⟩ := h2.obj; exact Heap.lt_size e
    refine item_walks I W (by omega) ⟨hz, hTI, ⟨x0, y0, hTO⟩, ⟨h1, p⟩, ⟨h2, p2⟩⟩ (fun c hcm => hf c ?_) [x, y] ?_ (by show 2 ≤ sizeLine; decide) ?_
    · have e' : c = z ∨ c = TO ∨ c = i1 ∨ c = i2 := by simpa using hcm
      rcases e' with q | q | q | q <;> simp [q]
    · rintro vals ⟨u1, u2, hu1, hu2, rfl⟩
      exact .cons (valsA rv hx hu1) (.cons (valsA rv2 hy hu2) .nil)
    · intro T s2 hT hTs hst
      obtain ⟨g1, g2, ⟨a1, a2, g3⟩, ⟨g4, _⟩, ⟨g5, _⟩⟩ := hst
      refine ⟨⟨T, x, y, rfl, hT, rfl, fun l hl => by rw [injK k I hl hqx]; exact hx, fun l hl => by rw [injK k2 I hl hqy]; exact hy⟩, ⟨g1, g2, ⟨a1, a2, g3⟩, g4, g5⟩, fun c hcm => ?_⟩
      rw [upd_ne (Nat.ne_of_lt (Nat.lt_of_lt_of_le (lt c hcm) hTs))]
      exact (hf c hcm).1
  done := by
    intro X hP hw hK hc i pins s σ H E I hf st hg
    subst hP hw hK
    obtain ⟨hz, hTI, ⟨x0, y0, hTO⟩, h1, h2⟩ := st
    obtain ⟨xs, ys, hqx, hqy, hend⟩ := hg
    obtain ⟨its, rv, p, _⟩ := invK k I hqx
    obtain ⟨its2, rv2, p2, _⟩ := invK k2 I hqy
    have l1 := rv.length
    have l2 := rv2.length
    have na : a ≠ i1 := h1.ne p
    have nb : b ≠ i2 := h2.ne p2
    have W := WalksT.zipD2 (A := X.A) D (drK (prog := X.prog) (w := X.w) k (show X.A.in1.handled = none from I.ok.hd hc) i1 a na its.toArray) (drK (prog := X.prog) (w := X.w) k2 (show X.A.in1.handled = none from I.ok.hd hc) i2 b nb its2.toArray)
    have hn : min its.toArray.size its2.toArray.size = i := by
      simp only [List.size_toArray]
      omega
    rw [← hn] at h1 h2
    refine done_walks I W ⟨hz, hTI, ⟨x0, y0, hTO⟩, ⟨h1, p⟩, ⟨h2, p2⟩⟩ fun c hcm => hf c ?_
    have e' : c = z ∨ c = TO ∨ c = i1 ∨ c = i2 := by simpa using hcm
    rcases e' with q | q | q | q <;> simp [q]
  self := fun A i s Q E st h => wpAny_pyIter_zip st.1 h
end MP
end
section
/-! MiniPy: the walked things' readings. -/
namespace PySem
open Sem (wp)
theorem meets_enum1B {v : Value} {o : Obj} {H : Heap → Prop} (B : Begins v o H) :
    Meets (Builtin.«enumerate.__new__» ⟨[.type "enumerate", v], []⟩) (fun _ R s => H s.heap ∧
      R (.ok (.ret (.ref (s.heap.push o).objs.size))) { s with heap := (s.heap.push o).push { cls := .type "enumerate", data := .fields #[.none, .bool false, .ref s.heap.objs.size, rawInt 0, .none, .none] } }) :=
  .of_wp fun prog w A R s h => by
    obtain ⟨hp, g, d, tk, os⟩ := s
    obtain ⟨h1, h⟩ := h
    have hsub := sub_enumerate
    have q1 : ∀ {A' : Around} {E : Value → Shared → Prop} {Q : Value → Shared → Prop}, Q (.ref hp.objs.size) ⟨hp.push o, g, d, tk, os⟩ → wpAny (model prog w) A' (pyIter v) Q E ⟨hp, g, d, tk, os⟩ := fun q => B.iter prog w _ _ ⟨hp, g, d, tk, os⟩ _ h1 q
    wp_walk using q1
    refine wpAny_stack_any fun st => wpAny_pure ?_
    split
    · rename_i c _ _ _ _ _
      cases (c == Value.type "enumerate")
      all_goals
        wp_walk using q1
        exact ⟨_, rfl, h⟩
    · wp_walk using q1
      exact ⟨_, rfl, h⟩
/-- enumerate(v) -/
theorem enum1_begins {prog : Program} {w : World} {A : Around} {E : Value → Shared → Prop} {s : Shared} {v : Value} {o : Obj} {H : Heap → Prop} {Q : Value → Shared → Prop} (B : Begins v o H) (h1 : H s.heap)
    (h : ∀ h', IsEnum h' (s.heap.objs.size + 1) s.heap.objs.size 0 .none → h'.get? s.heap.objs.size = some o → (∀ b o, s.heap.get? b = some o → h'.get? b = some o) → Q (.ref (s.heap.objs.size + 1)) { s with heap := h' }) :
    wpAny (model prog w) A (call (.type "enumerate") [v]) Q E s := by
  refine callType_new F.called_enumerate (by decide) (F.typeCall_enumerate_1 _) (F.newCall_enumerate_1 _) (fun obj => F.args_object_init_2 obj _) F.entry_enumerate_new (meets_enum1B B) ⟨h1, ?_⟩
  have hz : (s.heap.push o).objs.size = s.heap.objs.size + 1 := Heap.size_push ..
  show _ ∧ _
  rw [hz]
  have he : IsEnum ((s.heap.push o).push { cls := .type "enumerate", data := .fields #[.none, .bool false, .ref s.heap.objs.size, rawInt 0, .none, .none] }) (s.heap.objs.size + 1) s.heap.objs.size 0 .none := by
    have q := Heap.get?_push_size (s.heap.push o) (o := { cls := .type "enumerate", data := .fields #[.none, .bool false, .ref s.heap.objs.size, rawInt 0, .none, .none] }) rfl
    rw [hz] at q
    exact q
  exact ⟨⟨_, he, rfl⟩, h _ he (Heap.get?_push_of_some _ (Heap.get?_push_size _ B.free)) fun b o x => Heap.get?_push_of_some _ (Heap.get?_push_of_some _ x)⟩
end PySem
namespace MP
open PySem PySem.Spec PyProof.Rows L2
def SrcR (c : Cfg) (m : Mp) (S : Store) (H : Hp) (k : SK) (a : Addr) : Src → Prop
  | .vals l => (k = .l ∧ Rp c.K H (Lv m S) (.ref a) (.list l)) ∨ (k = .t ∧ Rp c.K H (Lv m S) (.ref a) (.tuple l))
  | .cell n => k = .l ∧ m.cs[n]? = some a
section
variable {c : Cfg} {m m' : Mp} {S S' : Store} {H H' : Hp} {x : V} {d : D} {k : SK} {a : Addr} {s : Src}
theorem SrcR.nxt (st : Sto c m S H) (n : Nx0 m S H m' S' H') (h : SrcR c m S H k a s) : SrcR c m' S' H' k a s := by
  cases s with
  | vals l =>
    rcases h with ⟨h1, h2⟩ | ⟨h1, h2⟩
    · exact .inl ⟨h1, Rp.nx0 st n h2⟩
    · exact .inr ⟨h1, Rp.nx0 st n h2⟩
  | cell j =>
    obtain ⟨h1, h2⟩ := h
    obtain ⟨r, er⟩ := n.pre
    exact ⟨h1, by rw [er, List.getElem?_append_left (List.getElem?_eq_some_iff.mp h2).1]; exact h2⟩
theorem src_of (st : Sto c m S H) (r : RD c.K m S H x d) {s : Src} (e : Src.of S d = some s) : ∃ k a, x = .ref a ∧ SrcR c m S H k a s := by
  cases d with
  | scr l => cases e
  | ref n =>
    obtain ⟨a, h1, rfl⟩ := r
    have e : (cellAt S n).map (fun _ => Src.cell n) = some s := e
    simp only [Option.map_eq_some_iff] at e
    obtain ⟨l, _, rfl⟩ := e
    exact ⟨.l, a, rfl, rfl, h1⟩
  | dat p =>
    cases p with
    | list l =>
      cases e
      cases r with
      | lst h1 h2 h3 => exact ⟨.l, _, rfl, .inl ⟨rfl, .lst h1 h2 h3⟩⟩
    | tuple l =>
      cases e
      cases r with
      | tup h1 h2 => exact ⟨.t, _, rfl, .inr ⟨rfl, .tup h1 h2⟩⟩
    | _ => cases e
def AtR (c : Cfg) (m : Mp) (S : Store) (H : Hp) (vs : List V) (i : Nat) : Option D → Prop
  | some d => ∃ v, vs[i]? = some v ∧ RD c.K m S H v d
  | none => vs.length = i
theorem SrcR.get (st : Sto c m S H) (h : SrcR c m S H k a s) {i : Nat} {o : Option D} (e : s.at S i = some o) : ∃ vs, SqK k c.K H a vs ∧ AtR c m S H vs i o := by
  have fin : ∀ {vs : List V} {l : List D}, RDs c.K m S H vs l → i ≤ l.length → o = l[i]? → AtR c m S H vs i o := fun {vs l} r hl ho => by
    subst ho
    cases hd : l[i]? with
    | none =>
      have := List.getElem?_eq_none_iff.mp hd
      have := r.len
      show vs.length = i
      omega
    | some d => exact r.get hd
  cases s with
  | vals l =>
    replace e : (if Nat.ble i l.length then some (l[i]?.map D.dat) else none) = some o := e
    split at e
    · rename_i hb
      cases e
      have hl := Nat.le_of_ble_eq_true hb
      rcases h with ⟨rfl, h2⟩ | ⟨rfl, h2⟩
      · cases h2 with
        | lst h1 _ h3 => exact ⟨_, SqL.of h1, fin h3.paired (by simpa using hl) (by simp)⟩
      · cases h2 with
        | tup h1 h3 => exact ⟨_, h1, fin h3.paired (by simpa using hl) (by simp)⟩
    · cases e
  | cell n =>
    replace e : ((cellAt S n).bind fun l => if Nat.ble i l.length then some l[i]? else none) = some o := e
    rw [Option.bind_eq_some_iff] at e
    obtain ⟨l, h1, h2⟩ := e
    split at h2
    · rename_i hb
      cases h2
      obtain ⟨rfl, hm⟩ := h
      obtain ⟨vs, h3, h4⟩ := st.cell n a _ hm (cellAt_some h1)
      exact ⟨vs, SqL.of h3, fin h4 (Nat.le_of_ble_eq_true hb) rfl⟩
    · cases h2
theorem SrcR.sq (st : Sto c m S H) (h : SrcR c m S H k a s) (e : (s.at S 0).isSome = true) : ∃ vs, SqK k c.K H a vs := by
  obtain ⟨o, e⟩ := Option.isSome_iff_exists.mp e
  obtain ⟨vs, h1, _⟩ := h.get st e
  exact ⟨vs, h1⟩
/-- what an item is -/
def ItmR (c : Cfg) (m : Mp) (S : Store) (H : Hp) (x : V) (H2 : Hp) (ds : List D) : Prop :=
  (∃ d, ds = [d] ∧ H2 = H ∧ RD c.K m S H x d) ∨ (∃ T vs, x = .ref T ∧ H T = none ∧ H2 = upd H T (.tup vs) ∧ RDs c.K m S H vs ds ∧ 2 ≤ ds.length)
def NxR (c : Cfg) (m : Mp) (S : Store) (H : Hp) (Jh : It) (i : Nat) : Nx → Prop
  | .stop => Jh.stop i H
  | .fail => True
  | .item ds => Jh.go i H ∧ ∀ x H2, Jh.yld i H x H2 → ItmR c m S H x H2 ds
def ItR (c : Cfg) (m : Mp) (S : Store) (H : Hp) (J : ItS) (Jh : It) : Prop := ∀ i m' S' H', Sto c m' S' H' → Nx0 m S H m' S' H' → NxR c m' S' H' Jh i (J.next i S')
theorem itR_one (st : Sto c m S H) (h : SrcR c m S H k a s) : ItR c m S H (.one s) (It1 k c.K a) := by
  intro i m' S' H' st' n
  have h' := h.nxt st n
  show NxR c m' S' H' _ i (nx1 (s.at S' i))
  cases e : s.at S' i with
  | none => exact True.intro
  | some o =>
    obtain ⟨vs, h1, h2⟩ := h'.get st' e
    cases o with
    | none => exact ⟨vs, h1, Nat.le_of_eq h2⟩
    | some d =>
      obtain ⟨v, h3, h4⟩ := h2
      refine ⟨⟨vs, v, h1, h3⟩, fun x H2 y => .inl ⟨d, rfl, y.1, ?_⟩⟩
      have := y.2 vs h1
      rw [h3] at this
      cases this
      exact h4
theorem itR_enum (st : Sto c m S H) (h : SrcR c m S H k a s) : ItR c m S H (.enum s) (ItE k c.K a) := by
  intro i m' S' H' st' n
  have h' := h.nxt st n
  show NxR c m' S' H' _ i (nxE i (s.at S' i))
  cases e : s.at S' i with
  | none => exact True.intro
  | some o =>
    obtain ⟨vs, h1, h2⟩ := h'.get st' e
    cases o with
    | none => exact ⟨vs, h1, h2⟩
    | some d =>
      obtain ⟨v, h3, h4⟩ := h2
      refine ⟨⟨vs, v, h1, h3⟩, fun x H2 y => .inr ?_⟩
      obtain ⟨T, z, rfl, hT, rfl, q⟩ := y
      have := q vs h1
      rw [h3] at this
      cases this
      exact ⟨T, _, rfl, hT, rfl, .cons (.int _) (.cons h4 .nil), by simp⟩
theorem itR_zip {k2 : SK} {b : Addr} {t : Src} (st : Sto c m S H) (h : SrcR c m S H k a s) (h2 : SrcR c m S H k2 b t) : ItR c m S H (.zip s t) (ItZ k k2 c.K a b) := by
  intro i m' S' H' st' n
  have h' := h.nxt st n
  have h2' := h2.nxt st n
  show NxR c m' S' H' _ i (nx2 (s.at S' i) (t.at S' i))
  cases e : s.at S' i with
  | none => cases t.at S' i <;> exact True.intro
  | some o =>
    obtain ⟨vs, g1, g2⟩ := h'.get st' e
    cases e2 : t.at S' i with
    | none => cases o <;> exact True.intro
    | some o2 =>
      obtain ⟨ws, g3, g4⟩ := h2'.get st' e2
      cases o with
      | none =>
        have hw : i ≤ ws.length := by
          cases o2 with
          | none => exact Nat.le_of_eq g4.symm
          | some d => obtain ⟨v, q, _⟩ := g4; exact Nat.le_of_lt (List.getElem?_eq_some_iff.mp q).1
        have g2 : vs.length = i := g2
        exact ⟨vs, ws, g1, g3, by omega⟩
      | some d =>
        obtain ⟨v, q1, q2⟩ := g2
        have hv : i ≤ vs.length := Nat.le_of_lt (List.getElem?_eq_some_iff.mp q1).1
        cases o2 with
        | none =>
          have g4 : ws.length = i := g4
          exact ⟨vs, ws, g1, g3, by omega⟩
        | some d2 =>
          obtain ⟨v2, q3, q4⟩ := g4
          refine ⟨⟨vs, ws, v, v2, g1, g3, q1, q3⟩, fun x H2 y => .inr ?_⟩
          obtain ⟨T, z, z2, rfl, hT, rfl, f1, f2⟩ := y
          have e3 := f1 vs g1
          have e4 := f2 ws g3
          rw [q1] at e3
          rw [q3] at e4
          cases e3
          cases e4
          exact ⟨T, _, rfl, hT, rfl, .cons q2 (.cons q4 .nil), by simp⟩
theorem itR_rng {lo : Int} {n : Nat} : ItR c m S H (.rng lo n) (Itr lo n) := by
  intro i m' S' H' st' _
  show NxR c m' S' H' _ i (if Nat.blt i n then .item [.dat (.int (lo + (i : Nat)))] else .stop)
  by_cases hb : Nat.blt i n = true
  · simp only [hb, if_true]
    refine ⟨show i < n by simpa [Nat.blt_eq] using hb, fun x H2 y => .inl ⟨_, rfl, y.1, ?_⟩⟩
    rw [y.2]
    exact .int _
  · simp only [hb]
    have : ¬ i < n := by simpa [Nat.blt_eq] using hb
    exact Nat.le_of_not_lt this
end
/-- the reading of what is walked -/
def rdI (c : Cfg) (W : WX) (f : Ev → Store → Res ItS) : TI := fun σ H R => ∃ m S ev, Sto c m S H ∧ EvOk c m S H σ ev ∧ Lft c W σ m S H (f ev S) fun J m' S' H' => ∀ Jh, ItR c m' S' H' J Jh → R Jh H'
theorem rdE.mono {c : Cfg} {W : WX} {f : SE} {σ : L2.St} {H : Hp} {Q Q' : VK} (h : rdE c W f σ H Q) (k : ∀ x H, Q x H → Q' x H) : rdE c W f σ H Q' := by
  obtain ⟨m, S, ev, st, eo, h⟩ := h
  exact ⟨m, S, ev, st, eo, h.mono fun d m1 S1 H1 _ _ q v r => k v H1 (q v r)⟩
section
variable {c : Cfg} {W : WX} {X : Cx} {tg a b : Expr} {fa fb : SE} (hK : X.K = c.K)
include hK
/-- the evaluated sources -/
def okSrc (d : D) (S : Store) : Option Src := (Src.of S d).bind fun s => if (s.at S 0).isSome then some s else none
theorem okSrc_some {d : D} {S : Store} {s : Src} (h : okSrc d S = some s) : Src.of S d = some s ∧ (s.at S 0).isSome = true := by
  simp only [okSrc, Option.bind_eq_some_iff] at h
  obtain ⟨t, h1, h2⟩ := h
  split at h2
  · rename_i hb
    cases h2
    exact ⟨h1, hb⟩
  · cases h2
theorem at0 {d : D} {S : Store} {s : Src} (h : Src.of S d = some s) : (s.at S 0).isSome = true := by
  cases d with
  | scr l => cases h
  | ref n =>
    have h : (cellAt S n).map (fun _ => Src.cell n) = some s := h
    simp only [Option.map_eq_some_iff] at h
    obtain ⟨l, h1, rfl⟩ := h
    simp [Src.at, h1]
  | dat p => cases p <;> first | (cases h; simp [Src.at]; done) | cases h
def pSrc (c : Cfg) (R : It → Hp → Prop) (g : Src → ItS) : VK := fun x H1 => ∃ m S s k a, Sto c m S H1 ∧ x = .ref a ∧ SrcR c m S H1 k a s ∧ (∃ vs, SqK k c.K H1 a vs) ∧ ∀ H2 Jh, H2 = H1 → ItR c m S H1 (g s) Jh → R Jh H2
def pSrc2 (c : Cfg) (R : It → Hp → Prop) : V → VK := fun x y H2 => ∃ k k2 p q, x = .ref p ∧ y = .ref q ∧ (∃ vs, SqK k c.K H2 p vs) ∧ (∃ vs, SqK k2 c.K H2 q vs) ∧ R (ItZ k k2 c.K p q) H2
theorem rd_src {σ : L2.St} {H : Hp} {f : ItS → ItS} {g : Src → ItS} {R : It → Hp → Prop} (h : rdI c W (fun ev S => (fa ev S).bind fun x S1 => Res.ofO ((Src.of S1 x).map g) S1) σ H R) :
    rdE c W fa σ H (pSrc c R g) := by
  obtain ⟨m, S, ev, st, eo, h⟩ := h
  refine ⟨m, S, ev, st, eo, (Lft.bind h).mono fun d m1 S1 H1 st1 n1 h1 v r => ?_⟩
  obtain ⟨J, e, q⟩ := Lft.ofO h1
  simp only [Option.map_eq_some_iff] at e
  obtain ⟨s, e1, rfl⟩ := e
  obtain ⟨k, a, rfl, hs⟩ := src_of st1 r e1
  exact ⟨m1, S1, s, k, a, st1, rfl, hs, hs.sq st1 (at0 hK e1), fun H2 Jh e i => by subst e; exact q m1 _ st1 .refl Jh i⟩
theorem pi_oneM (ha : PE X a (rdE c W fa)) : PI X tg a (rdI c W fun ev S => (fa ev S).bind fun x S1 => Res.ofO ((Src.of S1 x).map .one) S1) := by
  refine ⟨fun pins s σ H R I h => ?_⟩
  refine thn (ha.run pins s σ H _ I (rd_src hK (f := id) h)) fun v s1 ⟨x, H1, I1, r1, q1⟩ => ?_
  obtain ⟨m, S, sr, k, p, st, rfl, hs, ⟨vs, hq⟩, q⟩ := q1
  cases r1
  rw [← hK] at hq
  obtain ⟨its, rv, hp, hz⟩ := invK k I1 hq
  refine (begK k p its.toArray).iter X.prog X.w X.A _ s1 _ hp ?_
  refine ⟨s1.heap.objs.size, [s1.heap.objs.size], _, It1 k X.K p, H1, rfl, I1.kept (t' := s1.toks) fun b o e => Heap.get?_push_of_some _ e, turn1 k p _, itK_new k (Heap.get?_push_size _ (begK k p its.toArray).free), fun b hb => ?_, q _ _ rfl (by rw [hK]; exact itR_one st hs)⟩
  have e : b = s1.heap.objs.size := by simpa using hb
  subst e
  exact I1.fpOk (Nat.le_refl _) (I1.hok.fresh (Nat.le_refl _))
theorem pi_enumM {p pos tpos : Pos} {elts : List Expr} {kk : Nat} (hg : Gl X "enumerate") (hm : X.mg "enumerate" = none) (ha : PE X a (rdE c W fa)) (hs : starEach [a] X.env = [(false, eval a X.env)]) :
    PI X (.Tuple elts kk tpos) (.Call (.Name "enumerate" p) [a] [] pos) (rdI c W fun ev S => (fa ev S).bind fun x S1 => Res.ofO ((Src.of S1 x).map .enum) S1) := by
  refine ⟨fun pins s σ H R I h => ?_⟩
  have hA := (pa_cons ha pa_nil (by rw [hs]; rfl)).run pos pins s σ H (fun vs H1 => ∃ x, vs = [x] ∧ pSrc c R .enum x H1) I ((rd_src hK (f := id) h).mono fun x H1 q => ⟨x, rfl, q⟩)
  refine Call_ (ld_blt I hg hm boot_enumerate (PyProof.Rows.callWith_type1 (thn hA fun us s1 ⟨vs, H1, I1, r1, q1⟩ => ?_) hs rfl))
  obtain ⟨x, rfl, m, S, sr, k, q, st, rfl, hsr, ⟨ws, hq⟩, fin⟩ := q1
  cases r1 with
  | cons r rr =>
    cases rr
    cases r
    rw [← hK] at hq
    obtain ⟨its, rv, hp, hz⟩ := invK k I1 hq
    refine enum1_begins (begK k q its.toArray) hp fun h' he hit hk => wpAny_pyIter_enum he ?_
    have lt : q < s1.heap.objs.size := hp.lt
    refine ⟨s1.heap.objs.size + 1, [s1.heap.objs.size + 1, s1.heap.objs.size], _, ItE k X.K q, H1, rfl, I1.kept (t' := s1.toks) hk,
      turnE k q (s1.heap.objs.size + 1) s1.heap.objs.size (Nat.succ_ne_self _) (Nat.ne_of_lt (Nat.lt_succ_of_lt lt)) (Nat.ne_of_lt lt), ⟨⟨.none, he⟩, itK_new k hit⟩, fun b hb => ?_, fin _ _ rfl (by rw [hK]; exact itR_enum st hsr)⟩
    have e' : b = s1.heap.objs.size + 1 ∨ b = s1.heap.objs.size := by simpa using hb
    have hle : s1.heap.objs.size ≤ b := by
      rcases e' with z | z
      · rw [z]; exact Nat.le_add_right _ _
      · rw [z]; exact Nat.le_refl _
    exact I1.fpOk hle (I1.hok.fresh hle)
/-- two sources -/
theorem rd_src2 {σ : L2.St} {H : Hp} {R : It → Hp → Prop} (h : rdI c W (fun ev S => (fa ev S).bind fun x S1 => (fb ev S1).bind fun y S2 => match Src.of S2 x, Src.of S2 y with
      | some s, some t => .ok (.zip s t) S2
      | _, _ => .fail) σ H R) :
    rdE c W fa σ H fun x H1 => rdE c W fb σ H1 fun y H2 => pSrc2 c R x y H2 := by
  obtain ⟨m, S, ev, st, eo, h⟩ := h
  refine ⟨m, S, ev, st, eo, (Lft.bind h).mono fun d m1 S1 H1 st1 n1 h1 v r => ?_⟩
  refine ⟨m1, S1, ev, st1, eo.nxt st n1, (Lft.bind h1).mono fun d2 m2 S2 H2 st2 n2 h2 v2 r2 => ?_⟩
  have r' := r.nxt st1 n2
  split at h2
  · rename_i s t e1 e2
    obtain ⟨k, p, rfl, hs⟩ := src_of st2 r' e1
    obtain ⟨k2, q, rfl, ht⟩ := src_of st2 r2 e2
    exact ⟨k, k2, p, q, rfl, rfl, hs.sq st2 (at0 hK e1), ht.sq st2 (at0 hK e2), h2 m2 _ st2 .refl _ (itR_zip st2 hs ht)⟩
  · exact h2.elim
theorem pi_zipM {p pos tpos : Pos} {elts : List Expr} {kk : Nat} (hg : Gl X "zip") (hm : X.mg "zip" = none) (ha : PE X a (rdE c W fa)) (hb : PE X b (rdE c W fb)) (hs : starEach [a, b] X.env = (false, eval a X.env) :: starEach [b] X.env)
    (hs2 : starEach [b] X.env = [(false, eval b X.env)]) :
    PI X (.Tuple elts kk tpos) (.Call (.Name "zip" p) [a, b] [] pos) (rdI c W fun ev S => (fa ev S).bind fun x S1 => (fb ev S1).bind fun y S2 => match Src.of S2 x, Src.of S2 y with
      | some s, some t => .ok (.zip s t) S2
      | _, _ => .fail) := by
  refine ⟨fun pins s σ H R I h => ?_⟩
  have hA := (pa_cons ha (pa_cons hb pa_nil (by rw [hs2]; rfl)) hs).run pos pins s σ H (fun vs H1 => ∃ x y, vs = [x, y] ∧ pSrc2 c R x y H1) I ((rd_src2 hK h).mono fun x H1 q => q.mono fun y H2 q => ⟨x, y, rfl, q⟩)
  refine Call_ (ld_blt I hg hm PyProof.Rows.boot_zip (PyProof.Rows.callWith_type1 (thn hA fun us s1 ⟨vs, H1, I1, r1, q1⟩ => ?_) hs (by rw [hs2]; rfl)))
  obtain ⟨x, y, rfl, k, k2, q, r, rfl, rfl, ⟨ws, hq⟩, ⟨ws2, hr⟩, fin⟩ := q1
  cases r1 with
  | cons e1 rr =>
    cases rr with
    | cons e2 rr =>
      cases rr
      cases e1
      cases e2
      rw [← hK] at hq hr
      obtain ⟨its, rv, hp, _⟩ := invK k I1 hq
      obtain ⟨its2, rv2, hp2, _⟩ := invK k2 I1 hr
      refine zip_begins2 (begK k q its.toArray) (begK k2 r its2.toArray) hp hp2 fun h' hz hTI hTO h1 h2 hsz hk => wpAny_pyIter_zip hz ?_
      have D := zip_sep2 (N := s1.heap.objs.size) (fp1 := [q]) (fp2 := [r]) (fun b hb => by rw [List.mem_singleton.mp hb]; exact hp.lt) (fun b hb => by rw [List.mem_singleton.mp hb]; exact hp2.lt)
      refine ⟨s1.heap.objs.size + 4, [s1.heap.objs.size + 4, s1.heap.objs.size + 2, s1.heap.objs.size + 3, s1.heap.objs.size, s1.heap.objs.size + 1], _, ItZ k k2 X.K q r, H1, rfl, I1.kept (t' := s1.toks) hk, turnZ k k2 D,
        ⟨hz, hTI, ⟨_, _, hTO⟩, itK_new k h1, itK_new k2 h2⟩, fun b hb => ?_, by rw [hK]; exact fin⟩
      have e' : b = s1.heap.objs.size + 4 ∨ b = s1.heap.objs.size + 2 ∨ b = s1.heap.objs.size + 3 ∨ b = s1.heap.objs.size ∨ b = s1.heap.objs.size + 1 := by simpa using hb
      have hle : s1.heap.objs.size ≤ b := by
        rcases e' with z | z | z | z | z
        · rw [z]; exact Nat.le_add_right _ _
        · rw [z]; exact Nat.le_add_right _ _
        · rw [z]; exact Nat.le_add_right _ _
        · rw [z]; exact Nat.le_refl _
        · rw [z]; exact Nat.le_add_right _ _
      exact I1.fpOk hle (I1.hok.fresh hle)
theorem pi_rng1M {p pos : Pos} (hg : Gl X "range") (hm : X.mg "range" = none) (ha : PE X a (rdE c W fa)) (hs : starEach [a] X.env = [(false, eval a X.env)]) :
    PI X tg (.Call (.Name "range" p) [a] [] pos) (rdI c W fun ev S => (fa ev S).bind fun x S1 => match x with
      | .dat (.int n) => if decide (-4611686018427387904 ≤ n) && decide (n < 4611686018427387904) then .ok (.rng 0 n.toNat) S1 else .fail
      | _ => .fail) := by
  refine ⟨fun pins s σ H R I h => ?_⟩
  refine (pi_range1 hg hm (pa_cons ha pa_nil (by rw [hs]; rfl)) hs).run pins s σ H R I ?_
  obtain ⟨m, S, ev, st, eo, h⟩ := h
  show rdE c W fa σ H _
  refine ⟨m, S, ev, st, eo, (Lft.bind h).mono fun d m1 S1 H1 st1 n1 h1 v r => ?_⟩
  split at h1
  · split at h1
    · rename_i n hb
      simp only [Bool.and_eq_true, decide_eq_true_eq] at hb
      exact ⟨n, by rw [rd_int r], by omega, by omega, h1 m1 _ st1 .refl _ itR_rng⟩
    · exact h1.elim
  · exact h1.elim
theorem pi_rng2M {p pos : Pos} (hg : Gl X "range") (hm : X.mg "range" = none) (ha : PE X a (rdE c W fa)) (hb : PE X b (rdE c W fb)) (hs : starEach [a, b] X.env = (false, eval a X.env) :: starEach [b] X.env)
    (hs2 : starEach [b] X.env = [(false, eval b X.env)]) :
    PI X tg (.Call (.Name "range" p) [a, b] [] pos) (rdI c W fun ev S => (fa ev S).bind fun x S1 => (fb ev S1).bind fun y S2 => match x, y with
      | .dat (.int i), .dat (.int j) => if decide (-4611686018427387904 ≤ i) && decide (i < 4611686018427387904) && decide (-4611686018427387904 ≤ j) && decide (j < 4611686018427387904) then .ok (.rng i (j - i).toNat) S2 else .fail
      | _, _ => .fail) := by
  refine ⟨fun pins s σ H R I h => ?_⟩
  refine (pi_range2 hg hm (pa_cons ha (pa_cons hb pa_nil (by rw [hs2]; rfl)) hs) (by rw [hs, hs2]) hs2).run pins s σ H R I ?_
  obtain ⟨m, S, ev, st, eo, h⟩ := h
  show rdE c W fa σ H _
  refine ⟨m, S, ev, st, eo, (Lft.bind h).mono fun d m1 S1 H1 st1 n1 h1 v r => ?_⟩
  show rdE c W fb σ H1 _
  refine ⟨m1, S1, ev, st1, eo.nxt st n1, (Lft.bind h1).mono fun d2 m2 S2 H2 st2 n2 h2 v2 r2 => ?_⟩
  split at h2
  · split at h2
    · rename_i i j hb
      simp only [Bool.and_eq_true, decide_eq_true_eq] at hb
      exact ⟨i, j, by rw [rd_int r, rd_int r2], by omega, h2 m2 _ st2 .refl _ itR_rng⟩
    · exact h2.elim
  · exact h2.elim
end
/-! ### targets -/
def gNames : List Nat → TGs
  | [] => gNil
  | i :: is => gCons (gName i) (gNames is)
def gOf (K : PySem.W.Frag) : Tg → TG
  | .nm i => gName i
  | .tp is => gTup K is.length (gNames is)
section
variable {c : Cfg} {m : Mp} {S : Store} {H H2 : Hp} {x : V} {ds : List D} {ev ev' : Ev} {σ : L2.St}
theorem wipe_in {i : Nat} {x : Option V} {σ : L2.St} : ∀ {vs : List Nat}, (wipe (σ.set i x) vs).set i none = (wipe σ vs).set i none
  | [] => by simp [wipe, List.set_set]
  | v :: vs => by
    unfold wipe
    by_cases h : v = i
    · subst h
      rw [List.set_set, List.set_set, wipe_in]
    · rw [List.set_comm _ _ h, wipe_in, List.set_comm _ _ (Ne.symm h)]
theorem wipe_set {i : Nat} {x : Option V} {σ : L2.St} : ∀ {vs : List Nat}, i ∈ vs → wipe (σ.set i x) vs = wipe σ vs
  | v :: vs, h => by
    unfold wipe
    rcases List.mem_cons.mp h with e | h
    · subst e
      exact wipe_in
    · rw [wipe_set h]
theorem wipe_set_comm {i : Nat} {σ : L2.St} : ∀ {vs : List Nat}, wipe (σ.set i none) vs = (wipe σ vs).set i none
  | [] => rfl
  | v :: vs => by
    unfold wipe
    rw [wipe_set_comm]
    by_cases h : v = i
    · subst h; rw [List.set_set]
    · rw [List.set_comm _ _ h]
theorem wipe_wipe {σ : L2.St} : ∀ {vs : List Nat}, wipe (wipe σ vs) vs = wipe σ vs
  | [] => rfl
  | v :: vs => by
    show (wipe ((wipe σ vs).set v none) vs).set v none = (wipe σ vs).set v none
    rw [wipe_set_comm, wipe_wipe, List.set_set]
/-- slots of is alone are changed -/
def Only (is : List Nat) (σ σ' : L2.St) : Prop := ∀ own : List Nat, (∀ i ∈ is, i ∈ own) → wipe σ' own = wipe σ own
theorem names_ok {Q : L2.St → Hp → Prop} : ∀ {is : List Nat} {ds : List D} {vs : List V} {ev : Ev} {σ : L2.St}, setSlots is ds ev = some ev' → RDs c.K m S H vs ds → EvOk c m S H σ ev → (∀ σ', Only is σ σ' → EvOk c m S H σ' ev' → Q σ' H) → vs.length = is.length ∧ gNames is vs σ H Q
  | [], [], _, ev, σ, e, r, eo, k => by
    cases r
    cases e
    exact ⟨rfl, rfl, k σ (fun _ _ => rfl) eo⟩
  | i :: is, d :: ds, _, ev, σ, e, r, eo, k => by
    cases r with
    | cons h t =>
      obtain ⟨h1, h2⟩ := names_ok (is := is) e t (eo.set i h) fun σ' o q => k σ' (fun own ho => (o own fun j hj => ho j (List.mem_cons_of_mem _ hj)).trans (wipe_set (ho i List.mem_cons_self))) q
      exact ⟨by simp [h1], _, _, rfl, h2⟩
  | [], _ :: _, _, _, _, e, _, _, _ => by cases e
  | _ :: _, [], _, _, _, e, _, _, _ => by cases e
def Tg.slots : Tg → List Nat
  | .nm i => [i]
  | .tp is => is
theorem put_ok {t : Tg} (st : Sto c m S H) (e : t.put ds ev = some ev') (it : ItmR c m S H x H2 ds) (eo : EvOk c m S H σ ev) {Q : L2.St → Hp → Prop} (k : ∀ σ', Sto c m S H2 → Nxt m S H m S H2 → Only t.slots σ σ' → EvOk c m S H2 σ' ev' → Q σ' H2) : gOf c.K t x σ H2 Q := by
  rcases it with ⟨d, rfl, rfl, r⟩ | ⟨T, vs, rfl, hT, rfl, rs, hl⟩
  · cases t with
    | nm i =>
      cases e
      exact k _ st .refl (fun own ho => wipe_set (ho i (by simp [Tg.slots]))) (eo.set i r)
    | tp is =>
      cases d with
      | ref n => cases e
      | scr l => cases e
      | dat p =>
        cases p with
        | tuple l =>
          obtain ⟨a, vs, rfl, ha, ra⟩ := rd_tup r
          obtain ⟨h1, h2⟩ := names_ok e ra.paired eo fun σ' o q => k σ' st .refl o q
          exact ⟨a, vs, rfl, ha, h1, h2⟩
        | _ => cases e
  · have st2 := st.new (o := .tup vs) hT
    have n2 : Nxt m S H m S (upd H T (.tup vs)) := nxt_plain hT
    cases t with
    | nm i =>
      cases ds with
      | nil => cases e
      | cons d r =>
        cases r with
        | nil => simp at hl
        | cons _ _ => cases e
    | tp is =>
      have e' : setSlots is ds ev = some ev' := by
        cases ds with
        | nil => simp at hl
        | cons d r =>
          cases r with
          | nil => simp at hl
          | cons d2 r2 =>
            have : (Tg.tp is).put (d :: d2 :: r2) ev = setSlots is (d :: d2 :: r2) ev := by
              cases d with
              | ref n => rfl
              | scr l => rfl
              | dat p => cases p <;> rfl
            rw [this] at e
            exact e
      obtain ⟨h1, h2⟩ := names_ok e' (RDs.nxt st n2 rs) (eo.nxt st n2) fun σ' o q => k σ' st2 n2 o q
      exact ⟨T, vs, rfl, SqT.of upd_same, h1, h2⟩
end
end MP
end
section
/-! MiniPy: comprehensions and loops. -/
namespace MP
open PySem PySem.Spec PyProof.Rows L2
abbrev W0 : WX := fun _ _ _ _ => False
theorem lft0_ok {α : Type} {c : Cfg} {σ : L2.St} {m : Mp} {S : Store} {H : Hp} {r : Res α} {P : α → Mp → Store → Hp → Prop} (a : α) (S' : Store) (e : r = .ok a S') (k : ∀ m' H', Sto c m' S' H' → Nxt m S H m' S' H' → P a m' S' H') : Lft c W0 σ m S H r P := by
  subst e; exact k
section
variable {c : Cfg} {W : WX} {K : PySem.W.Frag}
/-- a comprehension's state ahead of turn i -/
structure LcI (c : Cfg) (m0 : Mp) (S0 : Store) (H0 : Hp) (Dd : Addr) (own : List Nat) (σ0 : L2.St) (ev0 : Ev) (J : ItS) (tg : Tg) (test : Ev → Store → Res Bool) (elt : SE) (l : List D) (Sf : Store) (i k : Nat) (H : Hp) : Prop where
  ex : ∃ (m : Mp) (S : Store) (vs : List V) (acc rest : List D), Sto c m S H ∧ Nx0 m0 S0 H0 m S H ∧ m.hid = Dd :: m0.hid ∧ (∀ a ∈ m0.hid, ∀ o, H0 a = some o → H a = some o) ∧ H Dd = some (.lst vs) ∧ RDs c.K m S H vs acc ∧
    compLoop J tg test elt ev0 k i S = some (rest, Sf) ∧ acc ++ rest = l ∧ EvOk c m S H σ0 ev0
theorem rd_comp {fI : Ev → Store → Res ItS} {tg : Tg} {test : Ev → Store → Res Bool} {elt : SE} {own : List Nat} {cell : Bool} {σ : L2.St} {H : Hp} {Q : VK} (hown : ∀ i ∈ tg.slots, i ∈ own)
    (h : rdE c W (fun ev S => (fI ev S).bind fun J S1 => match compLoop J tg test elt (wipeE ev own) J.len 0 S1 with
      | some (l, S2) => if fits l.length then Res.ofP (mkL cell l S2) else .fail
      | none => .fail) σ H Q) : tLc (rdI c W fI) (gOf c.K tg) (rdT c W0 test) (rdE c W0 elt) own σ H Q := by
  obtain ⟨m, S, ev, st, eo, h⟩ := h
  refine ⟨m, S, ev, st, eo, (Lft.bind h).mono fun J m1 S1 H1 st1 n1 h1 Jh ij Dd hD => ?_⟩
  split at h1
  case h_2 => exact h1.elim
  case h_1 l S2 hcl =>
  split at h1
  case isFalse => exact h1.elim
  case isTrue hf =>
  obtain ⟨d, S3, hmk, fin⟩ := Lft.ofP h1
  obtain ⟨sth, nh⟩ := sto_hide (o := .lst []) st1 rfl hD
  have dn : Dd ∉ m1.hid := fun z => by
    obtain ⟨_, o, e, _⟩ := st1.hid Dd z
    rw [hD] at e; cases e
  have eo1 : EvOk c (m1.hide Dd) S1 (upd H1 Dd (.lst [])) (wipe σ own) (wipeE ev own) := (EvOk.nx0 st1 nh (eo.nxt st n1)).wipe own
  refine ⟨fun i k H => LcI c m1 S1 H1 Dd own (wipe σ own) (wipeE ev own) J tg test elt l S2 i k H, ⟨J.len, ⟨m1.hide Dd, S1, [], [], l, sth, nh, rfl, fun a ha o q => by rw [upd_ne (ne_of_none q hD)]; exact q, upd_same, .nil, hcl, rfl, eo1⟩⟩, ?_⟩
  rintro i k H ⟨mm, S, vs, acc, rest, st, n0, hh, hk, hv, rv, hc, hl, eo2⟩
  have hDm : Dd ∈ mm.hid := by rw [hh]; exact List.mem_cons_self
  have nx := ij i mm S H st n0
  -- the end
  have stop : Jh.stop i H → rest = [] → S = S2 → Jh.stop i H ∧ Q (.ref Dd) H := fun hs hr hS => by
    subst hr hS
    rw [List.append_nil] at hl
    subst hl
    obtain ⟨m', st', n', hid', r'⟩ := hid_done st hh dn hv rv hmk
    exact ⟨hs, fin m' H st' ⟨n0.trans n', hid', fun a ha o q => hk a ha o q⟩ _ r'⟩
  cases k with
  | zero =>
    unfold compLoop at hc
    split at hc
    · rename_i e
      cases hc
      rw [e] at nx
      exact .inl (stop nx rfl rfl)
    · cases hc
  | succ k =>
    unfold compLoop at hc
    split at hc
    · rename_i e
      cases hc
      rw [e] at nx
      exact .inl (stop nx rfl rfl)
    · cases hc
    · rename_i ds e
      rw [e] at nx
      obtain ⟨go, yl⟩ := nx
      refine .inr ⟨go, fun H' => LcI c m1 S1 H1 Dd own (wipe σ own) (wipeE ev own) J tg test elt l S2 (i + 1) k H', fun H' q => ⟨k, Nat.lt_succ_self k, q⟩, fun x H' y => ?_⟩
      split at hc
      · cases hc
      · rename_i ev' hput
        refine put_ok st hput (yl x H' y) eo2 fun σ2 st2 n2 only eo3 => ⟨(only own hown).trans wipe_wipe, mm, S, ev', st2, eo3, ?_⟩
        split at hc
        · rename_i S4 ht
          refine lft0_ok true S4 ht fun m4 H4 st4 n4 => ?_
          show rdE c W0 elt σ2 H4 _
          refine ⟨m4, S4, ev', st4, eo3.nxt st2 n4, ?_⟩
          split at hc
          · rename_i d5 S5 he
            simp only [Option.map_eq_some_iff] at hc
            obtain ⟨⟨l', S6⟩, hc', hp⟩ := hc
            cases hp
            refine lft0_ok d5 S5 he fun m5 H5 st5 n5 v r5 => ?_
            have n25 := (n2.trans n4).trans n5
            have hv5 : H5 Dd = some (.lst vs) := n25.hk Dd hDm _ hv
            have hh5 : m5.hid = Dd :: m1.hid := n25.same.trans hh
            have hlen : acc.length < sizeLine := by
              have := fits_ok hf
              rw [← hl] at this
              simp only [List.length_append, List.length_cons] at this
              omega
            refine ⟨vs, hv5, by rw [rv.len]; exact hlen, ?_⟩
            obtain ⟨st6, n6⟩ := sto_grow (o' := .lst (vs ++ [v])) st5 rfl (by rw [hh5]; exact List.mem_cons_self) hv5
            have n06 := (n0.trans n25.toNx0).trans n6
            refine ⟨m5, S5, vs ++ [v], acc ++ [d5], l', st6, n06, hh5, fun a ha o q => ?_, upd_same, RDs.app (RDs.nx0 st5 n6 (RDs.nxt st n25 rv)) (.cons (r5.nx0 st5 n6) .nil), hc', by rw [← hl]; simp, EvOk.nx0 st5 n6 (eo2.nxt st n25)⟩
            have ne : a ≠ Dd := fun z => dn (z ▸ ha)
            rw [upd_ne ne]
            exact n25.hk a (by rw [hh]; exact List.mem_cons_of_mem _ ha) o (hk a ha o q)
          · cases hc
        · rename_i S4 ht
          refine lft0_ok false S4 ht fun m4 H4 st4 n4 => ?_
          have n24 := n2.trans n4
          exact ⟨m4, S4, vs, acc, rest, st4, n0.trans n24.toNx0, n24.same.trans hh, fun a ha o q => n24.hk a (by rw [hh]; exact List.mem_cons_of_mem _ ha) o (hk a ha o q), n24.hk Dd hDm _ hv, RDs.nxt st n24 rv, hc, hl, eo2.nxt st n24⟩
        · cases hc
/-! ### a dict that a comprehension makes, asked for its keys at once -/
theorem mem_insI {a z : Int} : ∀ {l : List Int}, z ∈ insI a l ↔ z = a ∨ z ∈ l
  | [] => by simp [insI]
  | b :: r => by
    unfold insI
    split
    · simp only [List.mem_cons, mem_insI (l := r)]
      constructor
      · rintro (h | h | h) <;> simp [h]
      · rintro (h | h | h) <;> simp [h]
    · simp
theorem insI_perm {a : Int} : ∀ {l : List Int}, (insI a l).Perm (a :: l)
  | [] => List.Perm.refl _
  | b :: r => by
    unfold insI
    split
    · exact ((insI_perm (l := r)).cons b).trans (List.Perm.swap a b r)
    · exact List.Perm.refl _
theorem insI_le {a : Int} : ∀ {l : List Int}, l.Pairwise (· ≤ ·) → (insI a l).Pairwise (· ≤ ·)
  | [], _ => by simp [insI]
  | b :: r, h => by
    obtain ⟨h1, h2⟩ := List.pairwise_cons.mp h
    unfold insI
    split
    · rename_i q
      refine List.pairwise_cons.mpr ⟨fun z hz => ?_, insI_le h2⟩
      rcases mem_insI.mp hz with e | e
      · omega
      · exact h1 z e
    · rename_i q
      refine List.pairwise_cons.mpr ⟨fun z hz => ?_, h⟩
      rcases List.mem_cons.mp hz with e | e
      · omega
      · have := h1 z e
        omega
theorem sortI_perm : ∀ l : List Int, (sortI l).Perm l
  | [] => List.Perm.refl _
  | a :: r => insI_perm.trans ((sortI_perm r).cons a)
theorem sortI_le : ∀ l : List Int, (sortI l).Pairwise (· ≤ ·)
  | [] => List.Pairwise.nil
  | a :: r => insI_le (sortI_le r)
theorem sortI_one {ys l : List Int} (p : ys.Perm l) (o : ys.Pairwise (· ≤ ·)) : ys = sortI l := PySem.W.ksm_same (p.trans (sortI_perm l).symm) o (sortI_le l)
theorem addI_len (l : List Int) (i : Int) : (addI l i).length ≤ l.length + 1 := by
  unfold addI
  split <;> simp
theorem dedI_len : ∀ (ns acc : List Int), (ns.foldl addI acc).length ≤ acc.length + ns.length
  | [], _ => by simp
  | i :: r, acc => by
    have h := dedI_len r (addI acc i)
    have q := addI_len acc i
    simp only [List.foldl_cons, List.length_cons]
    omega
theorem any_inl (i : Int) : ∀ l : List Int, ((l.map Sum.inl).any fun k => decide (k = (Sum.inl i : Key))) = l.contains i
  | [] => rfl
  | a :: l => by
    have q := any_inl i l
    simp only [List.map_cons, List.any_cons, List.contains_cons, q]
    congr 1
    by_cases h : a = i
    · subst h; simp
    · have h' : ¬ i = a := fun e => h e.symm
      simp [h, h']
theorem putK_keys {kvs : List (Key × V)} {l : List Int} {i : Int} {z : V} (h : kvs.map (·.1) = l.map Sum.inl) : (putK kvs (.inl i) z).map (·.1) = (addI l i).map Sum.inl := by
  have key : (kvs.any fun kv => decide (kv.1 = Sum.inl i)) = l.contains i := by
    have e : (kvs.any fun kv => decide (kv.1 = Sum.inl i)) = (kvs.map (·.1)).any fun k => decide (k = (Sum.inl i : Key)) := by rw [List.any_map]; rfl
    rw [e, h, any_inl]
  unfold putK addI
  rw [key]
  split
  · rw [List.map_map, ← h]
    refine List.map_congr_left fun kv _ => ?_
    simp only [Function.comp]
    split <;> rfl
  · rw [List.map_append, List.map_append, h]
    rfl
/-- the state ahead of turn i -/
structure DcI (c : Cfg) (m0 : Mp) (S0 : Store) (H0 : Hp) (Dd : Addr) (σ0 : L2.St) (ev0 : Ev) (J : ItS) (tg : Tg) (test : Ev → Store → Res Bool) (elt : SE) (ns : List Int) (Sf : Store) (i k : Nat) (H : Hp) : Prop where
  ex : ∃ (m : Mp) (S : Store) (kvs : List (Key × V)) (acc rest : List Int), Sto c m S H ∧ Nx0 m0 S0 H0 m S H ∧ m.hid = Dd :: m0.hid ∧ (∀ a ∈ m0.hid, ∀ o, H0 a = some o → H a = some o) ∧ H Dd = some (.dK kvs) ∧ kvs.map (·.1) = (dedI acc).map Sum.inl ∧
    compLoop J tg test elt ev0 k i S = some (rest.map (fun i => D.dat (.int i)), Sf) ∧ acc ++ rest = ns ∧ EvOk c m S H σ0 ev0
/-- a hidden thing is let go -/
theorem hid_drop {m : Mp} {S : Store} {H : Hp} {p : Addr} {hid : List Addr} (st : Sto c m S H) (hm : m.hid = p :: hid) : Sto c ⟨m.cs, hid⟩ S H ∧ Nx0 m S H ⟨m.cs, hid⟩ S H := by
  have inHid : ∀ a ∈ hid, a ∈ m.hid := fun a h => by rw [hm]; exact List.mem_cons_of_mem _ h
  have lv : ∀ a, Lv ⟨m.cs, hid⟩ S a → Lv m S a := fun a h => by
    rcases h with h | h
    · exact .inl h
    · exact .inr (inHid a h)
  have n : Nx0 m S H ⟨m.cs, hid⟩ S H := ⟨⟨[], by simp⟩, fun _ _ h _ _ => h, fun a h => .inr (lv a h), fun _ h => h⟩
  refine ⟨⟨st.len, st.nd, fun k a x h1 h2 => ?_, st.wf, st.used, fun a ha => st.hid a (inHid a ha), st.tabs⟩, n⟩
  have z := st.cell k a x h1 h2
  cases x with
  | lst l =>
    obtain ⟨ws, e, r⟩ := z
    exact ⟨ws, e, RDs.nx0 st n r⟩
  | dic l => exact z
  | dead => exact z
theorem rd_dc {fI : Ev → Store → Res ItS} {tg : Tg} {test : Ev → Store → Res Bool} {elt : SE} {own : List Nat} {σ : L2.St} {H : Hp} {Q : VK} {b : Bool} (hown : ∀ i ∈ tg.slots, i ∈ own)
    (h : ∃ m S ev, Sto c m S H ∧ EvOk c m S H σ ev ∧ Lft c W σ m S H (fI ev S) fun J m1 S1 H1 => ∃ ns S2, compLoop J tg test elt (wipeE ev own) J.len 0 S1 = some (ns.map (fun i => D.dat (.int i)), S2) ∧ fits ns.length = true ∧
      ∀ m' H' D kvs, Sto c m' S2 H' → Nxt m1 S1 H1 m' S2 H' → H' D = some (.dK kvs) → kvs.map (·.1) = (dedI ns).map Sum.inl → Q (.ref D) H') :
    tDc (rdI c W fI) (gOf c.K tg) (rdT c W0 test) (rdE c W0 elt) (tC (.bl b)) own σ H Q := by
  obtain ⟨m, S, ev, st, eo, h⟩ := h
  refine ⟨m, S, ev, st, eo, h.mono fun J m1 S1 H1 st1 n1 h1 Jh ij Dd hD => ?_⟩
  obtain ⟨ns, S2, hcl, hf, fin⟩ := h1
  obtain ⟨sth, nh⟩ := sto_hide (o := .dK []) st1 rfl hD
  have dn : Dd ∉ m1.hid := fun z => by
    obtain ⟨_, o, e, _⟩ := st1.hid Dd z
    rw [hD] at e; cases e
  have eo1 : EvOk c (m1.hide Dd) S1 (upd H1 Dd (.dK [])) (wipe σ own) (wipeE ev own) := (EvOk.nx0 st1 nh (eo.nxt st n1)).wipe own
  refine ⟨fun i k H => DcI c m1 S1 H1 Dd (wipe σ own) (wipeE ev own) J tg test elt ns S2 i k H, ⟨J.len, ⟨m1.hide Dd, S1, [], [], ns, sth, nh, rfl, fun a ha o q => by rw [upd_ne (ne_of_none q hD)]; exact q, upd_same, rfl, hcl, rfl, eo1⟩⟩, ?_⟩
  rintro i k H ⟨mm, S, kvs, acc, rest, st, n0, hh, hk, hv, rv, hc, hl, eo2⟩
  have hDm : Dd ∈ mm.hid := by rw [hh]; exact List.mem_cons_self
  have nx := ij i mm S H st n0
  have stop : Jh.stop i H → rest = [] → S = S2 → Jh.stop i H ∧ Q (.ref Dd) H := fun hs hr hS => by
    subst hr hS
    rw [List.append_nil] at hl
    subst hl
    obtain ⟨st', n'⟩ := hid_drop st hh
    exact ⟨hs, fin _ H Dd kvs st' ⟨n0.trans n', rfl, fun a ha o q => hk a ha o q⟩ hv rv⟩
  cases k with
  | zero =>
    unfold compLoop at hc
    split at hc
    · rename_i e
      have hr : rest = [] := by
        cases rest with
        | nil => rfl
        | cons _ _ => cases hc
      subst hr
      cases hc
      rw [e] at nx
      exact .inl (stop nx rfl rfl)
    · cases hc
  | succ k =>
    unfold compLoop at hc
    split at hc
    · rename_i e
      have hr : rest = [] := by
        cases rest with
        | nil => rfl
        | cons _ _ => cases hc
      subst hr
      cases hc
      rw [e] at nx
      exact .inl (stop nx rfl rfl)
    · cases hc
    · rename_i ds e
      rw [e] at nx
      obtain ⟨go, yl⟩ := nx
      refine .inr ⟨go, fun H' => DcI c m1 S1 H1 Dd (wipe σ own) (wipeE ev own) J tg test elt ns S2 (i + 1) k H', fun H' q => ⟨k, Nat.lt_succ_self k, q⟩, fun x H' y => ?_⟩
      split at hc
      · cases hc
      · rename_i ev' hput
        refine put_ok st hput (yl x H' y) eo2 fun σ2 st2 n2 only eo3 => ⟨(only own hown).trans wipe_wipe, mm, S, ev', st2, eo3, ?_⟩
        split at hc
        · rename_i S4 ht
          refine lft0_ok true S4 ht fun m4 H4 st4 n4 => ?_
          show rdE c W0 elt σ2 H4 _
          refine ⟨m4, S4, ev', st4, eo3.nxt st2 n4, ?_⟩
          split at hc
          · rename_i d5 S5 he
            simp only [Option.map_eq_some_iff] at hc
            obtain ⟨⟨l', S6⟩, hc', hp⟩ := hc
            cases rest with
            | nil => cases hp
            | cons i5 rest =>
            cases hp
            refine lft0_ok _ S5 he fun m5 H5 st5 n5 v r5 => ?_
            cases rd_int r5
            have n25 := (n2.trans n4).trans n5
            have hv5 : H5 Dd = some (.dK kvs) := n25.hk Dd hDm _ hv
            have hh5 : m5.hid = Dd :: m1.hid := n25.same.trans hh
            have hlen : kvs.length < sizeLine := by
              have := fits_ok hf
              rw [← hl] at this
              simp only [List.length_append, List.length_cons] at this
              have q := congrArg List.length rv
              rw [List.length_map, List.length_map] at q
              have w := dedI_len acc []
              have w : (dedI acc).length ≤ acc.length := by simpa [dedI] using w
              omega
            refine ⟨kvs, .inl i5, rfl, hv5, hlen, ?_⟩
            obtain ⟨st6, n6⟩ := sto_grow (o' := .dK (putK kvs (.inl i5) (.bl b))) st5 rfl (by rw [hh5]; exact List.mem_cons_self) hv5
            have n06 := (n0.trans n25.toNx0).trans n6
            refine ⟨m5, S5, putK kvs (.inl i5) (.bl b), acc ++ [i5], rest, st6, n06, hh5, fun a ha o q => ?_, upd_same, ?_, hc', by rw [← hl]; simp, EvOk.nx0 st5 n6 (eo2.nxt st n25)⟩
            · have ne : a ≠ Dd := fun z => dn (z ▸ ha)
              rw [upd_ne ne]
              exact n25.hk a (by rw [hh]; exact List.mem_cons_of_mem _ ha) o (hk a ha o q)
            · rw [putK_keys rv]
              simp [dedI]
          · cases hc
        · rename_i S4 ht
          refine lft0_ok false S4 ht fun m4 H4 st4 n4 => ?_
          have n24 := n2.trans n4
          exact ⟨m4, S4, kvs, acc, rest, st4, n0.trans n24.toNx0, n24.same.trans hh, fun a ha o q => n24.hk a (by rw [hh]; exact List.mem_cons_of_mem _ ha) o (hk a ha o q), n24.hk Dd hDm _ hv, rv, hc, hl, eo2.nxt st n24⟩
        · cases hc
/-! ### statements -/
/-- what a statement comes to -/
def LftS (c : Cfg) (W : WX) (m : Mp) (S : Store) (H : Hp) (Ds : Ends) : SR → Prop
  | .nx ev' S' => ∀ m' H' σ', Sto c m' S' H' → Nxt m S H m' S' H' → EvOk c m' S' H' σ' ev' → Ds.nx σ' H'
  | .rt d S' => ∀ m' H' v, Sto c m' S' H' → Nxt m S H m' S' H' → RD c.K m' S' H' v d → Ds.rt v H'
  | .exc ev' e S' => ∀ m' H' σ' cls dd, Sto c m' S' H' → Nxt m S H m' S' H' → EvOk c m' S' H' σ' ev' → RX c m' S' H' e cls dd → W cls dd σ' H'
  | .fail => False
def rdS (c : Cfg) (W : WX) (f : Ev → Store → SR) : TS := fun Ds σ H => ∃ m S ev, Sto c m S H ∧ EvOk c m S H σ ev ∧ LftS c W m S H Ds (f ev S)
theorem LftS.from_ {m m1 : Mp} {S S1 : Store} {H H1 : Hp} {Ds : Ends} {r : SR} (n : Nxt m S H m1 S1 H1) (h : LftS c W m S H Ds r) : LftS c W m1 S1 H1 Ds r := by
  cases r with
  | nx ev' S' => exact fun m' H' σ' st' n' => h m' H' σ' st' (n.trans n')
  | rt d S' => exact fun m' H' v st' n' => h m' H' v st' (n.trans n')
  | exc ev' e S' => exact fun m' H' σ' cls dd st' n' => h m' H' σ' cls dd st' (n.trans n')
  | fail => exact h
/-- an expression within a statement -/
theorem LftS.ofE {α : Type} {m : Mp} {S : Store} {H : Hp} {Ds : Ends} {σ : L2.St} {ev : Ev} (eo : EvOk c m S H σ ev) (st : Sto c m S H) {r : Res α} {k : α → Store → SR}
    (h : LftS c W m S H Ds (r.sr ev k)) : Lft c W σ m S H r fun d m1 S1 H1 => LftS c W m1 S1 H1 Ds (k d S1) := by
  cases r with
  | ok d S1 => exact fun m' H' st' n' => h.from_ n'
  | exc e S1 => exact fun m' H' cls dd st' n' x => h m' H' σ cls dd st' n' (eo.nxt st n') x
  | fail => exact h
/-- for -/
structure FrI (c : Cfg) (W : WX) (Ds : Ends) (m0 : Mp) (S0 : Store) (H0 : Hp) (J : ItS) (tg : Tg) (body : Ev → Store → SR) (i k : Nat) (σ : L2.St) (H : Hp) : Prop where
  ex : ∃ m S ev, Sto c m S H ∧ Nxt m0 S0 H0 m S H ∧ EvOk c m S H σ ev ∧ LftS c W m S H Ds (forLoop J tg body k i ev S)
theorem rd_for {fI : Ev → Store → Res ItS} {tg : Tg} {body : Ev → Store → SR} {Ds : Ends} {σ : L2.St} {H : Hp}
    (h : rdS c W (fun ev S => (fI ev S).sr ev fun J S1 => forLoop J tg body J.len 0 ev S1) Ds σ H) : tFor (rdI c W fI) (gOf c.K tg) (rdS c W body) Ds σ H := by
  obtain ⟨m, S, ev, st, eo, h⟩ := h
  refine ⟨m, S, ev, st, eo, (LftS.ofE eo st h).mono fun J m1 S1 H1 st1 n1 h1 Jh ij => ?_⟩
  refine ⟨FrI c W Ds m1 S1 H1 J tg body, ⟨J.len, ⟨m1, S1, ev, st1, .refl, eo.nxt st n1, h1⟩⟩, ?_⟩
  rintro i k σ H ⟨m2, S2, ev2, st2, n2, eo2, h2⟩
  have nx := ij i m2 S2 H st2 n2.toNx0
  cases k with
  | zero =>
    unfold forLoop at h2
    split at h2
    · rename_i e
      rw [e] at nx
      exact .inl ⟨nx, h2 m2 H σ st2 .refl eo2⟩
    · exact h2.elim
  | succ k =>
    unfold forLoop at h2
    split at h2
    · rename_i e
      rw [e] at nx
      exact .inl ⟨nx, h2 m2 H σ st2 .refl eo2⟩
    · exact h2.elim
    · rename_i ds e
      rw [e] at nx
      obtain ⟨go, yl⟩ := nx
      refine .inr ⟨go, FrI c W Ds m1 S1 H1 J tg body (i + 1) k, fun σ' H' q => ⟨k, Nat.lt_succ_self k, q⟩, fun x H' y => ?_⟩
      split at h2
      · exact h2.elim
      · rename_i ev' hput
        refine put_ok st2 hput (yl x H' y) eo2 fun σ3 st3 n3 _ eo3 => ⟨m2, S2, ev', st3, eo3, ?_⟩
        split at h2
        · rename_i ev4 S4 hb
          rw [hb]
          exact fun m4 H4 σ4 st4 n4 eo4 => ⟨m4, S4, ev4, st4, (n2.trans n3).trans n4, eo4, h2.from_ (n3.trans n4)⟩
        · rename_i d S4 hb
          rw [hb]
          exact fun m4 H4 v st4 n4 r4 => h2 m4 H4 v st4 (n3.trans n4) r4
        · rename_i ev4 e4 S4 hb
          rw [hb]
          exact fun m4 H4 σ4 cls dd st4 n4 eo4 x4 => h2 m4 H4 σ4 cls dd st4 (n3.trans n4) eo4 x4
        · exact h2.elim
/-- while -/
structure WhI (c : Cfg) (W : WX) (Ds : Ends) (m0 : Mp) (S0 : Store) (H0 : Hp) (cond : Ev → Store → Res Bool) (body : Ev → Store → SR) (k : Nat) (σ : L2.St) (H : Hp) : Prop where
  ex : ∃ m S ev, Sto c m S H ∧ Nxt m0 S0 H0 m S H ∧ EvOk c m S H σ ev ∧ LftS c W m S H Ds (whileLoop cond body k ev S)
theorem rd_while {cond : Ev → Store → Res Bool} {body : Ev → Store → SR} {fuel : Nat} {Ds : Ends} {σ : L2.St} {H : Hp} (h : rdS c W (fun ev S => whileLoop cond body fuel ev S) Ds σ H) : tWhile (rdT c W cond) (rdS c W body) Ds σ H := by
  obtain ⟨m, S, ev, st, eo, h⟩ := h
  refine ⟨WhI c W Ds m S H cond body, ⟨fuel, ⟨m, S, ev, st, .refl, eo, h⟩⟩, ?_⟩
  rintro k σ H1 ⟨m2, S2, ev2, st2, n2, eo2, h2⟩
  cases k with
  | zero => exact h2.elim
  | succ k =>
    unfold whileLoop at h2
    refine ⟨m2, S2, ev2, st2, eo2, ?_⟩
    split at h2
    · rename_i S3 hc
      rw [hc]
      refine fun m3 H3 st3 n3 => ⟨WhI c W Ds m S H cond body k, fun σ' H' q => ⟨k, Nat.lt_succ_self k, q⟩, m3, S3, ev2, st3, eo2.nxt st2 n3, ?_⟩
      split at h2
      · rename_i ev4 S4 hb
        rw [hb]
        exact fun m4 H4 σ4 st4 n4 eo4 => ⟨m4, S4, ev4, st4, (n2.trans n3).trans n4, eo4, h2.from_ (n3.trans n4)⟩
      · rename_i d S4 hb
        rw [hb]
        exact fun m4 H4 v st4 n4 r4 => h2 m4 H4 v st4 (n3.trans n4) r4
      · rename_i ev4 e4 S4 hb
        rw [hb]
        exact fun m4 H4 σ4 cls dd st4 n4 eo4 x4 => h2 m4 H4 σ4 cls dd st4 (n3.trans n4) eo4 x4
      · exact h2.elim
    · rename_i S3 hc
      rw [hc]
      exact fun m3 H3 st3 n3 => h2 m3 H3 σ st3 n3 (eo2.nxt st2 n3)
    · rename_i e S3 hc
      rw [hc]
      exact fun m3 H3 cls dd st3 n3 x3 => h2 m3 H3 σ cls dd st3 n3 (eo2.nxt st2 n3) x3
    · exact h2.elim
end
end MP
end
section
/-! MiniPy: which written text a core text stands for. -/
namespace MP
open PySem PySem.Spec PyProof.Rows L2
/-- a module's name: a def of ours, a constant -/
inductive Gk where
  | fn (i : Nat)
  | cst (k : Nat)
  deriving DecidableEq
abbrev Tb := List (PySem.Str × Gk)
def bltNm : Blt → String
  | .len => "len"
  | .abs => "abs"
  | .int => "int"
  | .min => "min"
  | .max => "max"
  | .sum => "sum"
  | .all => "all"
  | .any => "any"
  | .tuple => "tuple"
  | .list _ => "list"
  | .sorted _ => "sorted"
  | .repr => "repr"
  | .str => "str"
theorem blt_boot (f : Blt) : bootBuiltins (bltNm f) = some (bltId f) := by
  cases f <;> decide +kernel +revert
def tyS : Ty → String
  | .int => "int"
  | .bool => "bool"
  | .tuple => "tuple"
  | .list => "list"
  | .dict => "dict"
  | .str => "str"
theorem ty_boot (t : Ty) : bootBuiltins (tyS t) = some (.type (tyS t)) := by cases t <;> decide +kernel
def bltNames : List PySem.Str := ["len", "abs", "int", "min", "max", "sum", "all", "any", "tuple", "list", "sorted", "repr", "str", "bool", "dict", "set", "range", "enumerate", "zip", "isinstance"]
theorem blt_in (f : Blt) : (bltNm f : PySem.Str) ∈ bltNames := by cases f <;> decide +kernel +revert
theorem blt_nn (f : Blt) : (bltNm f : PySem.Str) ≠ ("__name__" : PySem.Str) := by cases f <;> decide +kernel +revert
theorem blt_nd (f : Blt) : ((bltNm f : PySem.Str) == ("__debug__" : PySem.Str)) = false := by cases f <;> decide +kernel +revert
theorem ty_nn (f : Ty) : (tyS f : PySem.Str) ≠ ("__name__" : PySem.Str) := by cases f <;> decide +kernel +revert
theorem ty_nd (f : Ty) : ((tyS f : PySem.Str) == ("__debug__" : PySem.Str)) = false := by cases f <;> decide +kernel +revert
theorem ty_in (f : Ty) : (tyS f : PySem.Str) ∈ bltNames := by cases f <;> decide +kernel +revert
def nameOk (x : PySem.Str) : Bool := !(x == ("__debug__" : PySem.Str)) && !(x == ("__classdict__" : PySem.Str))
def visB (rs : Scope) (x : PySem.Str) : Bool := match rs.names.lookup x with
  | some .local => true
  | some .cell => true
  | some .free => true
  | _ => false
def glB (rs : Scope) (x : PySem.Str) : Bool := match rs.names.lookup x with
  | some .globalImplicit => true
  | _ => false
def litB : PyData → Expr → Bool
  | .none, .Constant .none _ _ => true
  | .bool b, .Constant (.bool c) _ _ => b == c
  | .int i, .Constant (.int j) _ _ => decide (i = j)
  | .str x, .Constant (.str y) _ _ => decide (x = y)
  | _, _ => false
def isOp : BOp → Operator → Bool
  | .add, .Add => true
  | .sub, .Sub => true
  | .mul, .Mult => true
  | .fdiv, .FloorDiv => true
  | .mod, .Mod => true
  | .pow, .Pow => true
  | _, _ => false
def opOf : BOp → Operator
  | .add => .Add
  | .sub => .Sub
  | .mul => .Mult
  | .fdiv => .FloorDiv
  | .mod => .Mod
  | .pow => .Pow
theorem isOp_eq {b : BOp} {o : Operator} (h : isOp b o = true) : o = opOf b := by
  cases b <;> cases o <;> first | rfl | cases h
def isCop : COp → CmpOp → Bool
  | .eq, .Eq => true
  | .ne, .NotEq => true
  | .lt, .Lt => true
  | .le, .LtE => true
  | .gt, .Gt => true
  | .ge, .GtE => true
  | .is, .Is => true
  | .isNot, .IsNot => true
  | .isIn, .In => true
  | .notIn, .NotIn => true
  | _, _ => false
theorem isCop_eq {b : COp} {o : CmpOp} (h : isCop b o = true) : o = copOf b := by
  cases b <;> cases o <;> first | rfl | cases h
def nonStar : Expr → Bool
  | .Starred .. => false
  | _ => true
def nonSet : Expr → Bool
  | .Set .. => false
  | _ => true
def nonCall : Expr → Bool
  | .Call .. => false
  | _ => true
def nonSlice : Expr → Bool
  | .Slice .. => false
  | _ => true
def nonComp : Expr → Bool
  | .ListComp .. => false
  | .SetComp .. => false
  | .DictComp .. => false
  | _ => true
theorem star_plain {e : Expr} {es : List Expr} {env : Env} (h : nonStar e = true) : starEach (e :: es) env = (false, eval e env) :: starEach es env := by
  cases e <;> first | rfl | cases h
theorem back_plain {pos : Pos} {env : Env} : ∀ {es : List Expr}, es.all nonStar = true → (backTo pos (starEach es env)).any (·.1) = false
  | [], _ => rfl
  | e :: es, h => by
    simp only [List.all_cons, Bool.and_eq_true] at h
    rw [star_plain h.1]
    show (false || (backTo pos (starEach es env)).any (·.1)) = false
    rw [back_plain h.2]
    rfl
theorem back_star {pos : Pos} {env : Env} : ∀ {es : List Expr}, es.all nonStar = false → (backTo pos (starEach es env)).any (·.1) = true
  | [], h => by cases h
  | e :: es, h => by
    cases hn : nonStar e with
    | true =>
      rw [star_plain hn]
      show (false || (backTo pos (starEach es env)).any (·.1)) = true
      rw [back_star (by simpa [hn] using h)]
      rfl
    | false =>
      cases e <;> first | rfl | cases hn
theorem set_plain {e : Expr} {env : Env} (h : nonSet e = true) : ∀ x, foldedSetIterable e env x = pure x := by
  intro x
  cases e <;> first | rfl | cases h
theorem base_plain {e : Expr} {n : PySem.Str} {env : Env} {w : Sem Value} (h : nonCall e = true) : attributeBase e n env w = w := by
  cases e <;> first | rfl | cases h
theorem ix_plain {e : Expr} (h : nonSlice e = true) : PlainIx e := by
  intro o i
  cases e <;> first | rfl | cases h
theorem in_plain {op : CmpOp} {e : Expr} (h : nonSet e = true) : behindInMarks op e = false := by
  cases e <;> first | rfl | cases h
theorem last_plain {o1 o2 : CmpOp} {e1 e2 : Expr} (h : nonSet e2 = true) : lastMarks [o1, o2] [e1, e2] = false := by
  show lastMarks [o2] [e2] = false
  exact in_plain h
theorem sw_plain {e : Expr} {t : Option Expr} {n : Nat} {env : Env} (h : nonComp e = true) : swapsWith e t n env = pure false := by
  cases e <;> first | rfl | cases h
/-- an expression whose test is its value's truth -/
def plainT : Expr → Bool
  | .UnaryOp .Not _ _ => false
  | .BoolOp .. => false
  | .IfExp .. => false
  | .Compare .. => false
  | _ => true
theorem true_plain {e : Expr} {env : Env} (h : plainT e = true) : ∀ whole, isTrue e env whole = (do let v ← whole; standAt e.pos; holding [v] (truthy v)) := by
  intro whole
  cases e <;> first | rfl | cases h | skip
  rename_i op x p
  cases op <;> first | rfl | cases h
/-! ### targets -/
def locB (rs : Scope) (fnb : PySem.Str → Bool) (x : PySem.Str) : Bool := match rs.names.lookup x with
  | some .local => true
  | some .cell => fnb x
  | _ => false
def ckNm (N : List PySem.Str) (rs : Scope) (fnb : PySem.Str → Bool) (i : Nat) : Expr → Bool
  | .Name x _ => decide (N[i]? = some x) && locB rs fnb x
  | _ => false
def ckNms (N : List PySem.Str) (rs : Scope) (fnb : PySem.Str → Bool) : List Nat → List Expr → Bool
  | [], [] => true
  | i :: is, e :: es => ckNm N rs fnb i e && ckNms N rs fnb is es
  | _, _ => false
def ckTg (N : List PySem.Str) (rs : Scope) (fnb : PySem.Str → Bool) : Tg → Expr → Bool
  | .nm i, e => ckNm N rs fnb i e
  | .tp is, .Tuple es _ _ => ckNms N rs fnb is es
  | _, _ => false
/-- a lone starred argument, or plain at the front -/
def headOk : List Expr → Bool
  | [] => true
  | [_] => true
  | y :: _ => nonStar y
def isTup : Expr → Bool
  | .Tuple .. => true
  | _ => false
def fnAll : PySem.Str → Bool := fun _ => true
def fnIn (scope : Scope) : PySem.Str → Bool := fun x => scope.names.lookup x == some .cell
section
variable {X : Cx} {fnb : PySem.Str → Bool} (nd : X.N.Nodup) (hf : ∀ x, fnb x = true → X.fn x = true)
include nd hf
theorem nm_ok {i : Nat} {e : Expr} (h : ckNm X.N X.env.scope fnb i e = true) : PG X e (gName i) := by
  cases e with
  | Name x p =>
    simp only [ckNm, Bool.and_eq_true, decide_eq_true_eq] at h
    obtain ⟨h1, h2⟩ := h
    unfold locB at h2
    split at h2
    · rename_i q
      exact pg_name nd h1 (.inl q) (.inr q)
    · rename_i q
      exact pg_name nd h1 (.inr q) (.inl (hf x h2))
    · cases h2
  | _ => cases h
theorem nms_ok : ∀ {is : List Nat} {es : List Expr}, ckNms X.N X.env.scope fnb is es = true → PGs X es (gNames is) ∧ (assignEach es X.env).length = is.length ∧ (assignEach es X.env).findIdx? (·.1) = none
  | [], [], _ => ⟨pgs_nil, rfl, rfl⟩
  | i :: is, e :: es, h => by
    simp only [ckNms, Bool.and_eq_true] at h
    obtain ⟨h1, h2⟩ := h
    obtain ⟨g1, g2, g3⟩ := nms_ok h2
    have ha : assignEach (e :: es) X.env = (false, assign e X.env) :: assignEach es X.env := by
      cases e <;> first | rfl | cases h1
    refine ⟨pgs_cons (nm_ok nd hf h1) g1 (by rw [ha]; rfl), by rw [ha, List.length_cons, g2, List.length_cons], ?_⟩
    rw [ha, List.findIdx?_cons]
    simp [g3]
  | [], _ :: _, h => by cases h
  | _ :: _, [], h => by cases h
theorem tg_ok (hc : X.calm = true) {t : Tg} {e : Expr} (h : ckTg X.N X.env.scope fnb t e = true) : PG X e (gOf X.K t) := by
  cases t with
  | nm i => exact nm_ok nd hf h
  | tp is =>
    cases e with
    | Tuple es k p =>
      obtain ⟨g1, g2, g3⟩ := nms_ok nd hf (show ckNms X.N X.env.scope fnb is es = true from h)
      exact pg_tup hc g1 g2 g3
    | _ => cases h
end
/-! ### the expressions -/
def asCall : Expr → Option (PySem.Str × Pos × List Expr × Pos)
  | .Call (.Name x p) xs [] q => some (x, p, xs, q)
  | _ => none
/-- a call of one argument -/
def asRepr : Expr → Option (PySem.Str × Expr)
  | .Call (.Name x _) [y] [] _ => some (x, y)
  | _ => none
def asMeth : Expr → Option (Expr × PySem.Str × Pos × List Expr × Pos)
  | .Call (.Attribute o n p) xs [] q => some (o, n, p, xs, q)
  | _ => none
def asSl : Expr → Option (Expr × Option Expr × Option Expr × Pos × Pos)
  | .Subscript x (.Slice l u none p) q => some (x, l, u, p, q)
  | _ => none
def asComp : Expr → Option (Expr × Expr × Expr × List Expr × Scope × Pos)
  | .ListComp x [⟨t, iter, conds, 0⟩] scope p => some (x, t, iter, conds, scope, p)
  | _ => none
/-- f of a dict comprehension whose values are a constant of truth -/
def asKset : Expr → Option (PySem.Str × Expr × Expr × Expr × List Expr × Scope)
  | .Call (.Name f _) [.DictComp x (.Constant (.bool _) _ _) [⟨t, iter, conds, 0⟩] scope _] [] _ => some (f, x, t, iter, conds, scope)
  | _ => none
/-- f of a set of a list -/
def asSset : Expr → Option (PySem.Str × PySem.Str × Expr)
  | .Call (.Name f _) [.Call (.Name g _) [x] [] _] [] _ => some (f, g, x)
  | _ => none
theorem asSset_eq {e x : Expr} {f g : PySem.Str} (h : asSset e = some (f, g, x)) : ∃ p p2 q q2, e = .Call (.Name f p) [.Call (.Name g p2) [x] [] q] [] q2 := by
  unfold asSset at h
  split at h
  · cases h; exact ⟨_, _, _, _, rfl⟩
  · cases h
def kqNm : KQ → PySem.Str
  | .srt _ => "sorted"
  | .len => "len"
def as1 : List Expr → Option Expr
  | [x] => some x
  | _ => none
def as2 : List Expr → Option (Expr × Expr)
  | [x, y] => some (x, y)
  | _ => none
def asNm : Expr → Option (PySem.Str × Pos)
  | .Name x p => some (x, p)
  | _ => none
theorem asRepr_eq {e : Expr} {x : PySem.Str} {y : Expr} (h : asRepr e = some (x, y)) : ∃ p q, e = .Call (.Name x p) [y] [] q := by
  unfold asRepr at h
  split at h
  · cases h; exact ⟨_, _, rfl⟩
  · cases h
theorem asCall_eq {e : Expr} {x : PySem.Str} {p q : Pos} {xs : List Expr} (h : asCall e = some (x, p, xs, q)) : e = .Call (.Name x p) xs [] q := by
  unfold asCall at h
  split at h
  · cases h; rfl
  · cases h
theorem asMeth_eq {e o : Expr} {x : PySem.Str} {p q : Pos} {xs : List Expr} (h : asMeth e = some (o, x, p, xs, q)) : e = .Call (.Attribute o x p) xs [] q := by
  unfold asMeth at h
  split at h
  · cases h; rfl
  · cases h
theorem asSl_eq {e o : Expr} {l u : Option Expr} {p q : Pos} (h : asSl e = some (o, l, u, p, q)) : e = .Subscript o (.Slice l u none p) q := by
  unfold asSl at h
  split at h
  · cases h; rfl
  · cases h
theorem asComp_eq {e x t iter : Expr} {conds : List Expr} {scope : Scope} {p : Pos} (h : asComp e = some (x, t, iter, conds, scope, p)) : e = .ListComp x [⟨t, iter, conds, 0⟩] scope p := by
  unfold asComp at h
  split at h
  · cases h; rfl
  · cases h
theorem asKset_eq {e x t iter : Expr} {f : PySem.Str} {conds : List Expr} {scope : Scope} (h : asKset e = some (f, x, t, iter, conds, scope)) : ∃ p b q1 q2 q3 q4, e = .Call (.Name f p) [.DictComp x (.Constant (.bool b) q1 q2) [⟨t, iter, conds, 0⟩] scope q3] [] q4 := by
  unfold asKset at h
  split at h
  · cases h; exact ⟨_, _, _, _, _, _, rfl⟩
  · cases h
theorem as1_eq {es : List Expr} {x : Expr} (h : as1 es = some x) : es = [x] := by
  unfold as1 at h
  split at h
  · cases h; rfl
  · cases h
theorem as2_eq {es : List Expr} {x y : Expr} (h : as2 es = some (x, y)) : es = [x, y] := by
  unfold as2 at h
  split at h
  · cases h; rfl
  · cases h
theorem asNm_eq {e : Expr} {x : PySem.Str} {p : Pos} (h : asNm e = some (x, p)) : e = .Name x p := by
  unfold asNm at h
  split at h
  · cases h; rfl
  · cases h
def ownOf (N : List PySem.Str) : List Nat → Option (List (PySem.Str × Nat))
  | [] => some []
  | i :: is => match N[i]?, ownOf N is with
    | some x, some r => some ((x, i) :: r)
    | _, _ => none
theorem ownOf_ix {N : List PySem.Str} : ∀ {is : List Nat} {own : List (PySem.Str × Nat)}, ownOf N is = some own → own.map (·.2) = is
  | [], _, h => by cases h; rfl
  | i :: is, own, h => by
    unfold ownOf at h
    split at h
    · rename_i x r h1 h2
      cases h
      rw [List.map_cons, ownOf_ix h2]
    · cases h
/-- tests are of the plain forms -/
def ckT : CE → Bool
  | .frz _ => false
  | .ite _ a b => ckT a && ckT b
  | _ => true
/-- pairs go to a target of several names -/
def ckG : CI → Expr → Bool
  | .enum _, t => isTup t
  | .zip2 _ _, t => isTup t
  | _, _ => true
section
variable (T : Tb) (N : List PySem.Str) (lvl : Nat)
mutual
def ckE : CE → Expr → Scope → Bool
  | .var i, e, rs => match e with
    | .Name x _ => decide (N[i]? = some x) && visB rs x && nameOk x
    | _ => false
  | .lit p, e, _ => litB p e
  | .gv k, e, rs => match e with
    | .Name x _ => decide (T.lookup x = some (.cst k)) && glB rs x && nameOk x
    | _ => false
  | .bin op a b, e, rs => match e with
    | .BinOp x o y _ => isOp op o && ckE a x rs && ckE b y rs
    | _ => false
  | .neg a, e, rs => match e with
    | .UnaryOp .USub x _ => ckE a x rs
    | _ => false
  | .not a, e, rs => match e with
    | .UnaryOp .Not x _ => ckE a x rs && ckT a
    | _ => false
  | .and es, e, rs => match e with
    | .BoolOp .And xs _ => ckB es xs rs
    | _ => false
  | .or es, e, rs => match e with
    | .BoolOp .Or xs _ => ckB es xs rs
    | _ => false
  | .cmp op a b, e, rs => match e with
    | .Compare x [o] [y] _ => isCop op o && nonSet y && ckE a x rs && ckE b y rs
    | _ => false
  | .rcmp neg a b, e, rs => match e with
    | .Compare x [o] [y] _ => isCop (if neg then .ne else .eq) o && (match asRepr x, asRepr y with
      | some (f, x1), some (g, y1) => decide (f = ("repr" : PySem.Str)) && decide (g = ("repr" : PySem.Str)) && glB rs f && nonStar x1 && nonStar y1 && ckE a x1 rs && ckE b y1 rs
      | _, _ => false)
    | _ => false
  | .chain op op2 a b c, e, rs => match e with
    | .Compare x [o, o2] [y, z] _ => isCop op o && isCop op2 o2 && nonSet z && ckE a x rs && ckE b y rs && ckE c z rs
    | _ => false
  | .ite c a b, e, rs => match e with
    | .IfExp t x y _ => ckE c t rs && ckT c && ckE a x rs && ckE b y rs
    | _ => false
  | .call f es, e, rs => match asCall e with
    | some (x, _, xs, _) => decide (T.lookup x = some (.fn f)) && Nat.blt f lvl && headOk xs && glB rs x && nameOk x && ckL es xs rs
    | none => false
  | .blt f es, e, rs => match asCall e with
    | some (x, _, xs, _) => decide (x = (bltNm f : PySem.Str)) && glB rs x && !xs.isEmpty && xs.all nonStar && ckL es xs rs
    | none => false
  | .meth m o es, e, rs => match asMeth e with
    | some (x, n, p, xs, q) => decide (n = mthName m) && nonCall x && decide (p.endLine = q.line) && ckE o x rs && xs.all nonStar && Nat.blt xs.length 30 && ckL es xs rs
    | none => false
  | .idx a b, e, rs => match e with
    | .Subscript x y _ => nonSlice y && ckE a x rs && ckE b y rs
    | _ => false
  | .sl a lo hi, e, rs => match asSl e with
    | some (x, l, h, _, _) => ckE a x rs && ckO lo l rs && ckO hi h rs
    | none => false
  | .tup es, e, rs => match e with
    | .Tuple xs _ _ => ckL es xs rs
    | _ => false
  | .lst _ es, e, rs => match e with
    | .List xs _ => ckL es xs rs
    | _ => false
  | .comp _ elt tg it ifs own, e, rs => match asComp e with
    | some (x, t, iter, conds, scope, _) => match ownOf N own with
      | some ow => blkC N rs scope ow && tg.slots.all (fun i => own.contains i) && nonSet iter && ckI it iter rs && ckG it t && ckTg N (relS scope rs) (fnIn scope) tg t && ckS ifs conds (relS scope rs) && ckE elt x (relS scope rs)
      | none => false
    | none => false
  | .kset q elt tg it ifs own, e, rs => match asKset e with
    | some (f, x, t, iter, conds, scope) => match ownOf N own with
      | some ow => decide (f = kqNm q) && glB rs f && blkC N rs scope ow && tg.slots.all (fun i => own.contains i) && nonSet iter && ckI it iter rs && ckG it t && ckTg N (relS scope rs) (fnIn scope) tg t && ckS ifs conds (relS scope rs) && ckE elt x (relS scope rs)
      | none => false
    | none => false
  | .sset q a, e, rs => match asSset e with
    | some (f, g, x) => decide (f = kqNm q) && decide (g = ("set" : PySem.Str)) && glB rs f && glB rs g && nonStar x && ckE a x rs
    | none => false
  | .frz a, e, rs => ckE a e rs
  | .isi ty a, e, rs => match asCall e with
    | some (f, _, xs, _) => match as2 xs with
      | some (x, y) => match asNm y with
        | some (t, _) => decide (f = ("isinstance" : PySem.Str)) && glB rs f && decide (t = (tyS ty : PySem.Str)) && glB rs t && nonStar x && ckE a x rs
        | none => false
      | none => false
    | none => false
def ckB : CL → List Expr → Scope → Bool
  | .nil, _, _ => false
  | .cons a r, es, rs => match r, es with
    | .nil, [x] => ckE a x rs && ckT a
    | r, x :: xs => ckE a x rs && ckT a && ckB r xs rs
    | _, _ => false
  | .star .., _, _ => false
def ckL : CL → List Expr → Scope → Bool
  | .nil, es, _ => match es with
    | [] => true
    | _ => false
  | .cons a r, es, rs => match es with
    | x :: xs => nonStar x && ckE a x rs && ckL r xs rs
    | _ => false
  | .star a r, es, rs => match es with
    | .Starred x _ :: xs => ckE a x rs && ckL r xs rs
    | _ => false
/-- a clause's tests: none or one -/
def ckS : CL → List Expr → Scope → Bool
  | .nil, es, _ => match es with
    | [] => true
    | _ => false
  | .cons a r, es, rs => match r, es with
    | .nil, [x] => ckE a x rs && ckT a
    | _, _ => false
  | .star .., _, _ => false
def ckO : CO → Option Expr → Scope → Bool
  | .none, e, _ => match e with
    | none => true
    | _ => false
  | .some a, e, rs => match e with
    | some x => ckE a x rs
    | _ => false
def ckI : CI → Expr → Scope → Bool
  | .one a, e, rs => ckE a e rs
  | .rng1 a, e, rs => match asCall e with
    | some (f, _, xs, _) => match as1 xs with
      | some x => decide (f = ("range" : PySem.Str)) && glB rs f && nonStar x && ckE a x rs
      | none => false
    | none => false
  | .rng2 a b, e, rs => match asCall e with
    | some (f, _, xs, _) => match as2 xs with
      | some (x, y) => decide (f = ("range" : PySem.Str)) && glB rs f && nonStar x && nonStar y && ckE a x rs && ckE b y rs
      | none => false
    | none => false
  | .enum a, e, rs => match asCall e with
    | some (f, _, xs, _) => match as1 xs with
      | some x => decide (f = ("enumerate" : PySem.Str)) && glB rs f && nonStar x && ckE a x rs
      | none => false
    | none => false
  | .zip2 a b, e, rs => match asCall e with
    | some (f, _, xs, _) => match as2 xs with
      | some (x, y) => decide (f = ("zip" : PySem.Str)) && glB rs f && nonStar x && nonStar y && ckE a x rs && ckE b y rs
      | none => false
    | none => false
end
end
end MP
end
section
/-! MiniPy: expressions keep what the evaluator says. -/
namespace MP
open PySem PySem.Spec PyProof.Rows L2
/-- a def of the module keeps what fn says -/
def FnM (P : Program) (w : World) (K : PySem.W.Frag) (mg : PySem.Str → Option Value) (base : Heap) (c : Cfg) (k : Nat) (f : Addr) (fn : Fn) : Prop :=
  ∀ (A : Around) (outer : List Env) (s : Shared) (H : Hp) (us : List Value) (vs : List V) (Q : VK) (E : XK) (m : Mp) (S : Store) (ds : List D), Room k A → A.guards = some [] → Env0 P w K mg base A outer s H → Vals vs us →
    Sto c m S H → RDs c.K m S H vs ds → Lft c (fun cls dd _ H' => E cls dd H') [] m S H (fn ds S) (fun d m' S' H' => ∀ v, RD c.K m' S' H' v d → Q v H') →
    codeAny (model P w) A (.call (.ref f) ⟨us, []⟩) (CR (L2.CX P w) outer P w H s Q E) s
/-- where an expression stands -/
structure Good (c : Cfg) (W : WX) (X : Cx) (Φ : List Fn) (G : List PyData) (T : Tb) : Prop where
  hK : X.K = c.K
  calm : X.calm = true
  tk : Takes X W
  rm : Room Φ.length X.A
  gd : X.A.guards = some []
  nd : X.N.Nodup
  fns : ∀ i fn x, Φ[i]? = some fn → T.lookup x = some (.fn i) → ∃ f, X.mg x = some (.ref f) ∧ PySem.W.keepIn X.K (.ref f) = true ∧ FnM X.prog X.w X.K X.mg X.base c (i + 1) f fn
  cst : ∀ k p x, G[k]? = some p → T.lookup x = some (.cst k) → ∃ u v, X.mg x = some u ∧ RelV v u ∧ ∀ L H, Rp c.K H L v p
  blt : ∀ x ∈ bltNames, X.mg x = none
theorem Good.blk {c : Cfg} {W : WX} {X : Cx} {Φ : List Fn} {G : List PyData} {T : Tb} (g : Good c W X Φ G T) (s : Shared) (H : Hp) (scope : Scope) (cenv : Env) (fp : List Addr) : Good c W0 (X.blk s H scope cenv fp) Φ G T :=
  ⟨g.hK, g.calm, LamX.takes0, g.rm, g.gd, g.nd, g.fns, g.cst, g.blt⟩
section
variable {c : Cfg} {W : WX} {X : Cx} {Φ : List Fn} {G : List PyData} {T : Tb} {σ : L2.St} {H : Hp}
theorem vis_ok {rs : Scope} {x : PySem.Str} (h : visB rs x = true) : Vis rs x := by
  unfold visB at h
  split at h
  · rename_i q; exact .inl q
  · rename_i q; exact .inr (.inl q)
  · rename_i q; exact .inr (.inr q)
  · cases h
theorem gl_ok {x : PySem.Str} (h : glB X.env.scope x = true) : Gl X x := by
  unfold glB at h
  split at h
  · rename_i q; exact q
  · cases h
theorem name_ok {x : PySem.Str} (h : nameOk x = true) : (x == ("__debug__" : PySem.Str)) = false ∧ (x == ("__classdict__" : PySem.Str)) = false := by
  unfold nameOk at h
  simp only [Bool.and_eq_true, Bool.not_eq_true'] at h
  exact h
theorem rd_ok {f : SE} {d : D} {v : V} {Q : VK} (h : rdE c W f σ H Q) (e : ∀ ev S, f ev S = .ok d S) (r : ∀ m S, RD c.K m S H v d) : Q v H := by
  obtain ⟨m, S, ev, st, eo, h⟩ := h
  rw [e] at h
  exact h m H st .refl v (r m S)
theorem lit_ok {p : PyData} {e : Expr} (h : litB p e = true) : PE X e (rdE c W fun _ S => .ok (.dat p) S) := by
  unfold litB at h
  split at h
  · exact peI pe_non fun σ H Q q => rd_ok q (fun _ _ => rfl) fun _ _ => .non
  · rename_i b c' _ _
    have : b = c' := by simpa using h
    subst this
    exact peI pe_bl fun σ H Q q => rd_ok q (fun _ _ => rfl) fun _ _ => .bl b
  · rename_i i j _ _
    have : i = j := of_decide_eq_true h
    subst this
    exact peI pe_int fun σ H Q q => rd_ok q (fun _ _ => rfl) fun _ _ => .int i
  · rename_i i j _ _
    have : i = j := of_decide_eq_true h
    subst this
    exact peI pe_str fun σ H Q q => rd_ok q (fun _ _ => rfl) fun _ _ => .str i
  · cases h
theorem var_ok {i : Nat} {x : PySem.Str} {p : Pos} (h1 : X.N[i]? = some x) (h2 : visB X.env.scope x = true) (h3 : nameOk x = true) : PE X (.Name x p) (rdE c W fun ev S => match ev[i]? with
    | some (some d) => .ok d S
    | _ => .fail) := by
  obtain ⟨n1, n2⟩ := name_ok h3
  refine peI (pe_var h1 (vis_ok h2) n1 n2) fun σ H Q q => ?_
  obtain ⟨m, S, ev, st, eo, h⟩ := q
  rcases hd : ev[i]? with _ | _ | d
  · simp only [hd] at h
    exact h.elim
  · simp only [hd] at h
    exact h.elim
  · simp only [hd] at h
    obtain ⟨v, e1, r⟩ := eo.2 i d hd
    exact ⟨v, e1, h m H st .refl v r⟩
/-- a def is called -/
theorem run_fnM {k : Nat} {f : Addr} {fn : Fn} {pins : List (Addr × Obj)} {s : Shared} {Q : VK} {us : List Value} {vs : List V} {m : Mp} {S : Store} {ds : List D} (F : FnM X.prog X.w X.K X.mg X.base c k f fn) (hr : Room k X.A) (gd : X.A.guards = some []) (tk : Takes X W)
    (I : Inv X pins σ H s) (r : Vals vs us) (st : Sto c m S H) (rs : RDs c.K m S H vs ds) (h : Lft c W σ m S H (fn ds S) fun d m' S' H' => ∀ v, RD c.K m' S' H' v d → Q v H') : wpAny (model X.prog X.w) X.A (call (.ref f) us) (EP X pins σ Q) X.xe s := by
  have h' : Lft c (fun cls dd _ H' => WE W σ cls dd H') [] m S H (fn ds S) fun d m' S' H' => ∀ v, RD c.K m' S' H' v d → Q v H' := by
    cases e : fn ds S with
    | ok d S' => rw [e] at h; exact h
    | exc x S' => rw [e] at h; exact h
    | fail => rw [e] at h; exact h
  refine wpAny_call (codeAny_mono (F X.A X.stack s H us vs Q (WE W σ) m S ds hr gd I.env0 r st rs h') fun res s' hq => ?_)
  cases res with
  | error e => exact passAt tk σ pins H s e s' I hq
  | ok fl =>
    cases fl with
    | ret u => exact I.after hq
    | next => exact False.elim hq
    | brk => exact False.elim hq
    | cont => exact False.elim hq
theorem rd_args {fl : SL} {g : List D → Store → Res D} {Q : VK} (h : rdE c W (fun ev S => (fl ev S).bind fun ds S1 => g ds S1) σ H Q) :
    rdA c W fl σ H fun vs H1 => ∃ m S ds, Sto c m S H1 ∧ RDs c.K m S H1 vs ds ∧ Lft c W σ m S H1 (g ds S) fun d m' S' H' => ∀ v, RD c.K m' S' H' v d → Q v H' := by
  obtain ⟨m, S, ev, st, eo, h⟩ := h
  exact ⟨m, S, ev, st, eo, (Lft.bind h).mono fun ds m1 S1 H1 st1 n1 h1 vs rs => ⟨m1, S1, ds, st1, rs, h1⟩⟩
theorem call_ok (g : Good c W X Φ G T) {f : Nat} {x : PySem.Str} {p pos : Pos} {es : List Expr} {fl : SL} (h1 : T.lookup x = some (.fn f)) (hl : f < Φ.length) (h2 : glB X.env.scope x = true) (h3 : nameOk x = true) (ha : PA X es (rdA c W fl))
    (h0 : es = [] → ∀ ev S, fl ev S = .ok [] S)
    (hs : ∀ y p2, es = [.Starred y p2] → ∃ fy : SE, PE X y (rdE c W fy) ∧ ∀ ev S, fl ev S = (fy ev S).bind fun d S1 => match getSeq S1 d with
      | some l => .ok (l ++ []) S1
      | none => .fail)
    (hn : headOk es = true) : PE X (.Call (.Name x p) es [] pos) (rdE c W fun ev S => (fl ev S).bind fun ds S1 => match Φ[f]? with
      | some fn => fn ds S1
      | none => .fail) := by
  refine ⟨fun pins s σ H Q I h => ?_⟩
  have gl := gl_ok h2
  have hfn : Φ[f]? = some Φ[f] := List.getElem?_eq_getElem hl
  simp only [hfn] at h
  have hA := rd_args h
  obtain ⟨a, hm, hk, F⟩ := g.fns f _ x hfn h1
  have hr : Room (f + 1) X.A := g.rm.mono hl
  have run : ∀ {us : List Value} {vs : List V} {s1 : Shared} {H1 : Hp}, Inv X pins σ H1 s1 → Vals vs us → (∃ m S ds, Sto c m S H1 ∧ RDs c.K m S H1 vs ds ∧ Lft c W σ m S H1 (Φ[f] ds S) fun d m' S' H' => ∀ v, RD c.K m' S' H' v d → Q v H') →
      wpAny (model X.prog X.w) X.A (call (.ref a) us) (EP X pins σ Q) X.xe s1 := fun I1 r ⟨m, S, ds, st, rs, k⟩ => run_fnM F hr g.gd g.tk I1 r st rs k
  refine wpAny_Call_Name_kw (ld_glob I gl hm ?_ (name_ok h3).1)
  cases es with
  | nil =>
    refine PySem.W.callWith_K0 I.kIn hk ?_
    obtain ⟨m, S, ev, st, eo, q⟩ := hA
    rw [h0 rfl] at q
    exact run (us := []) (vs := []) I .nil (q m H st .refl [] .nil)
  | cons y ys =>
    cases hy : nonStar y with
    | true =>
      have he := star_plain (es := ys) (env := X.env) hy
      cases hys : ys.all nonStar with
      | true =>
        refine PySem.W.callWith_K (h₀ := X.base) I.ok.mod.kin hk (thn (ha.run pos pins s σ H _ I hA) fun us s1 ⟨vs, H1, I1, r, q⟩ => ⟨I1.kIn, ?_⟩) he (back_plain hys)
        exact run I1 r q
      | false =>
        refine PySem.W.callWith_S2 (h₀ := X.base) I.ok.mod.kin hk (thn (ha.run pos pins s σ H _ I hA) fun us s1 ⟨vs, H1, I1, r, q⟩ => ⟨I1.kIn, ?_⟩) he (back_star hys)
        exact run I1 r q
    | false =>
      cases ys with
      | cons z zs =>
        have hn' : nonStar y = true := hn
        rw [hy] at hn'; cases hn'
      | nil =>
        cases y with
        | Starred y p2 =>
          obtain ⟨fy, hy1, hy2⟩ := hs y p2 rfl
          have hY : rdE c W fy σ H fun x H1 => ∃ b xs, x = .ref b ∧ (SqT X.K H1 b xs ∨ SqL X.K H1 b xs) ∧ ∃ m S ds, Sto c m S H1 ∧ RDs c.K m S H1 xs ds ∧ Lft c W σ m S H1 (Φ[f] ds S) fun d m' S' H' => ∀ v, RD c.K m' S' H' v d → Q v H' := by
            obtain ⟨m, S, ev, st, eo, q⟩ := hA
            rw [hy2] at q
            refine ⟨m, S, ev, st, eo, (Lft.bind q).mono fun d m1 S1 H1 st1 n1 k v r => ?_⟩
            cases hg : getSeq S1 d with
            | none => simp only [hg] at k; exact k.elim
            | some l =>
              simp only [hg] at k
              obtain ⟨b, xs, rfl, hb, rb⟩ := getSeq_ok st1 r hg
              refine ⟨b, xs, rfl, ?_, k m1 H1 st1 .refl xs (by rw [List.append_nil]; exact rb)⟩
              rw [g.hK]
              exact hb.symm
          refine PySem.W.callWith_S (h₀ := X.base) I.ok.mod.kin hk (thn (hy1.run pins s σ H _ I hY) fun v s1 ⟨z, H1, I1, rz, b, xs, ez, hxs, q⟩ => ?_)
          subst ez
          obtain rfl : v = Value.ref b := rz
          exact StX.star_any I1 hxs fun us s2 I2 rv => ⟨I2.kIn, run I2 rv q⟩
        | _ => cases hy
/-- built-ins -/
theorem blt_ok (g : Good c W X Φ G T) {f : Blt} {x : PySem.Str} {p pos : Pos} {y : Expr} {ys : List Expr} {fl : SL} (hx : x = (bltNm f : PySem.Str)) (h2 : glB X.env.scope x = true) (ha : PA X (y :: ys) (rdA c W fl)) (hy : nonStar y = true) (hys : ys.all nonStar = true) :
    PE X (.Call (.Name x p) (y :: ys) [] pos) (rdE c W fun ev S => (fl ev S).bind fun ds S1 => Res.ofP (bltV f ds S1)) := by
  subst hx
  have hm : X.mg (bltNm f) = none := g.blt _ (blt_in f)
  have hv := blt_boot f
  have he := star_plain (es := ys) (env := X.env) hy
  have hb := back_plain (pos := pos) (env := X.env) hys
  have hc := blt_V g.hK g.calm g.gd (by have := g.rm.un; omega) f
  have gl := gl_ok h2
  have key : PE X (.Call (.Name (bltNm f : PySem.Str) p) (y :: ys) [] pos) (tCB (OpL c (bltV f)) (rdA c W fl)) := by
    cases f <;> first
      | exact pe_callB hc gl hm hv ha (blt_nn _) (blt_nd _) he hb
      | exact pe_callTy hc gl hm hv ha (blt_nn _) (blt_nd _) he hb
  refine peI key fun σ H Q h => ?_
  obtain ⟨m, S, ev, st, eo, h⟩ := h
  refine ⟨m, S, ev, st, eo, (Lft.bind h).mono fun ds m1 S1 H1 st1 n1 k vs rs => ?_⟩
  obtain ⟨d, S2, e, k⟩ := Lft.ofP k
  exact ⟨m1, S1, ds, d, S2, st1, rs, e, fun m' H' v s n r => k m' H' s n v r⟩
end
end MP
end
section
/-! MiniPy: expressions keep what the evaluator says, by induction. -/
namespace MP
open PySem PySem.Spec PyProof.Rows L2
section
variable {c : Cfg} {W : WX} {X : Cx} {Φ : List Fn} {G : List PyData} {T : Tb} {σ : L2.St} {H : Hp} {fa fb fc : SE} {a b e : Expr} {pos : Pos}
theorem Good.hu (g : Good c W X Φ G T) : X.A.units + 65 < cLine := by have := g.rm.un; omega
theorem op_binV (hK : X.K = c.K) (op : BOp) : OpR X (binaryOp (opOf op)) (Op2 c (binop op)) := by
  cases op with
  | add => exact op_addV hK
  | sub => exact op_subV hK
  | mul => exact op_mulV hK
  | fdiv => exact op_fdivV hK
  | mod => exact op_modV hK
  | pow => exact op_powV hK
theorem bin_ok (hK : X.K = c.K) (op : BOp) (ha : PE X a (rdE c W fa)) (hb : PE X b (rdE c W fb)) : PE X (.BinOp a (opOf op) b pos) (rdE c W fun ev S => (fa ev S).bind fun x S1 => (fb ev S1).bind fun y S2 => Res.ofP (binop op x y S2)) :=
  peI (pe_op (op_binV hK op) ha hb) fun σ H Q h => rd_two h
theorem cmp_ok (g : Good c W X Φ G T) (op : COp) (hn : nonSet b = true) (ha : PE X a (rdE c W fa)) (hb : PE X b (rdE c W fb)) : PE X (.Compare a [copOf op] [b] pos) (rdE c W fun ev S => (fa ev S).bind fun x S1 => (fb ev S1).bind fun y S2 => Res.ofP (cmpR op x y S2)) :=
  peI (pe_cmpR (op_cmpV g.hK g.hu op) ha hb (in_plain hn)) fun σ H Q h => rd_two h
theorem rdE.toT {f : SE} {Q : Bool → Hp → Prop} (h : rdT c W (fun ev S => truthR (f ev S)) σ H Q) : rdE c W f σ H fun x H1 => ∃ k, TruV c.K x H1 k ∧ Q k H1 := by
  obtain ⟨m, S, ev, st, eo, h⟩ := h
  refine ⟨m, S, ev, st, eo, (Lft.bind h).mono fun d m1 S1 H1 st1 n1 k v r => ?_⟩
  obtain ⟨t, e, k⟩ := Lft.ofO k
  exact ⟨t, truth_ok st1 r e, k m1 H1 st1 .refl⟩
theorem cmpT_ok (g : Good c W X Φ G T) (op : COp) (hn : nonSet b = true) (ha : PE X a (rdE c W fa)) (hb : PE X b (rdE c W fb)) : PT X (.Compare a [copOf op] [b] pos) (rdT c W fun ev S => truthR ((fa ev S).bind fun x S1 => (fb ev S1).bind fun y S2 => Res.ofP (cmpR op x y S2))) := by
  refine ptI (pt_cmpR (op_cmpV g.hK g.hu op) ha hb (in_plain hn)) fun σ H Q h => ?_
  show tOp (Op2 c (cmpR op)) (rdE c W fa) (rdE c W fb) σ H fun x H' => ∃ k, x = .bl k ∧ Q k H'
  refine rd_two ?_
  obtain ⟨m, S, ev, st, eo, h⟩ := h
  refine ⟨m, S, ev, st, eo, ?_⟩
  -- the result is a bool
  have key : ∀ r : Res D, (∀ d S', r = .ok d S' → ∃ k, d = .dat (.bool k)) → Lft c W σ m S H (truthR r) (fun t _ _ H' => Q t H') → Lft c W σ m S H r fun d m' S' H' => ∀ v, RD c.K m' S' H' v d → ∃ k, v = .bl k ∧ Q k H' := fun r hb hr => by
    cases r with
    | ok d S' =>
      obtain ⟨k, rfl⟩ := hb d S' rfl
      exact fun m' H' st' n' v rv => ⟨k, rd_bool rv, hr m' H' st' n'⟩
    | exc e S' => exact hr
    | fail => exact hr
  refine key _ (fun d S' he => ?_) h
  cases e1 : fa ev S with
  | ok x S1 =>
    simp only [e1, Res.bind] at he
    cases e2 : fb ev S1 with
    | ok y S2 =>
      simp only [e2] at he
      unfold cmpR at he
      cases e3 : cmpV op S2 x y with
      | none => simp [e3, Res.ofP] at he
      | some k =>
        simp only [e3, Option.map_some, Res.ofP] at he
        cases he
        exact ⟨k, rfl⟩
    | exc _ _ => simp [e2] at he
    | fail => simp [e2] at he
  | exc _ _ => simp [e1, Res.bind] at he
  | fail => simp [e1, Res.bind] at he
/-! ### two texts of repr compared -/
/-- repr(a), as a value -/
def rRep (K : PySem.W.Frag) : List V → Hp → VK → Prop := fun xs H Q => ∃ x p, xs = [x] ∧ Dp K H x p ∧ reprOk p = true ∧ Q (.str p.shown) H
def oneF (fa : SE) : SL := fun ev S => (fa ev S).bind fun x S1 => .ok [x] S1
theorem rep_ok (g : Good c W X Φ G T) {p : Pos} (h2 : glB X.env.scope ("repr" : PySem.Str) = true) (hn : nonStar a = true) (ha : PE X a (rdE c W fa)) : PE X (.Call (.Name ("repr" : PySem.Str) p) [a] [] pos) (tCB (rRep X.K) (rdA c W (oneF fa))) := by
  have one : PA X [a] (rdA c W (oneF fa)) := paI (pa_cons ha pa_nil (star_plain hn)) fun σ H Q h => by
    obtain ⟨m, S, ev, st, eo, h⟩ := h
    refine ⟨m, S, ev, st, eo, (Lft.bind h).mono fun d m1 S1 H1 st1 n1 h1 v r => ?_⟩
    exact h1 m1 H1 st1 .refl [v] (.cons r .nil)
  exact pe_callB (repr_V g.hK g.gd g.hu) (gl_ok h2) (g.blt _ (blt_in .repr)) (blt_boot .repr) one (blt_nn .repr) (blt_nd .repr) (star_plain hn) (back_plain rfl)
def rcmpF (neg : Bool) (fa fb : SE) : SE := fun ev S => (fa ev S).bind fun x S1 => match reprP S1 x with
  | some p => (fb ev S1).bind fun y S2 => match reprP S2 y with
    | some q => Res.ofP (rcmpV neg p q S2)
    | none => .fail
  | none => .fail
mutual
theorem sameP_eq : ∀ {p q : PyData}, sameP p q = true → p = q
  | .none, q, h => by cases q <;> first | rfl | cases h
  | .bool a, q, h => by
    cases q with
    | bool b => have : a = b := by simpa [sameP] using h
                rw [this]
    | _ => cases h
  | .int a, q, h => by
    cases q with
    | int b => have : a = b := by simpa [sameP] using h
               rw [this]
    | _ => cases h
  | .str a, q, h => by
    cases q with
    | str b => have : a = b := by simpa [sameP] using h
               rw [this]
    | _ => cases h
  | .tuple a, q, h => by
    cases q with
    | tuple b => rw [sameAll_eq (show sameAll a b = true from h)]
    | _ => cases h
  | .list a, q, h => by
    cases q with
    | list b => rw [sameAll_eq (show sameAll a b = true from h)]
    | _ => cases h
  | .dict a, q, h => by cases q <;> cases h
theorem sameAll_eq : ∀ {p q : List PyData}, sameAll p q = true → p = q
  | [], q, h => by cases q <;> first | rfl | cases h
  | a :: r, q, h => by
    cases q with
    | nil => cases h
    | cons b s =>
      have h : (sameP a b && sameAll r s) = true := h
      simp only [Bool.and_eq_true] at h
      rw [sameP_eq h.1, sameAll_eq h.2]
end
theorem sameR_eq (p q : PyData) : sameR p q = decide (p.shown = q.shown) := by
  unfold sameR
  cases e : sameP p q with
  | false => rfl
  | true => rw [sameP_eq e]; simp
/-- the two operands in turn -/
theorem rcmp_two (g : Good c W X Φ G T) {neg : Bool} {Q : VK} (h : rdE c W (rcmpF neg fa fb) σ H Q) :
    tCB (rRep X.K) (rdA c W (oneF fa)) σ H fun x H1 => tCB (rRep X.K) (rdA c W (oneF fb)) σ H1 fun y H2 => ∃ z w, x = .str z ∧ y = .str w ∧ Q (.bl (if neg then !decide (z = w) else decide (z = w))) H2 := by
  have up : ∀ {f : SE} {m : Mp} {S : Store} {H : Hp} {P : D → Mp → Store → Hp → Prop} {ev : Ev}, Lft c W σ m S H (f ev S) P → Lft c W σ m S H (oneF f ev S) fun ds m' S' H' => ∃ d, ds = [d] ∧ P d m' S' H' := fun {f m S H P ev} q => by
    unfold oneF
    cases e : f ev S with
    | ok d S1 => rw [e] at q; exact fun m' H' st n => ⟨d, rfl, q m' H' st n⟩
    | exc _ _ => rw [e] at q; exact q
    | fail => rw [e] at q; exact q
  obtain ⟨m, S, ev, st, eo, h⟩ := h
  refine ⟨m, S, ev, st, eo, (up (Lft.bind h)).mono fun ds m1 S1 H1 st1 n1 h1 vs rs => ?_⟩
  obtain ⟨d, rfl, h1⟩ := h1
  obtain ⟨x, rfl, rx⟩ := one_of rs
  cases e2 : reprP S1 d with
  | none => simp only [e2] at h1; exact h1.elim
  | some p =>
    simp only [e2] at h1
    have e2' := e2
    simp only [reprP, Option.bind_eq_some_iff] at e2
    obtain ⟨p', h3, h4⟩ := e2
    split at h4
    case isFalse => cases h4
    case isTrue hr =>
      cases h4
      refine ⟨x, _, rfl, by rw [g.hK]; exact toP_dp st1 rx h3, hr, ?_⟩
      refine ⟨m1, S1, ev, st1, eo.nxt st n1, (up (Lft.bind h1)).mono fun ds m2 S2 H2 st2 n2 h2 ws qs => ?_⟩
      obtain ⟨d2, rfl, h2⟩ := h2
      obtain ⟨y, rfl, ry⟩ := one_of qs
      cases e5 : reprP S2 d2 with
      | none => simp only [e5] at h2; exact h2.elim
      | some q =>
        simp only [e5] at h2
        simp only [reprP, Option.bind_eq_some_iff] at e5
        obtain ⟨q', h6, h7⟩ := e5
        split at h7
        case isFalse => cases h7
        case isTrue hq =>
          cases h7
          refine ⟨y, _, rfl, by rw [g.hK]; exact toP_dp st2 ry h6, hq, _, _, rfl, rfl, ?_⟩
          have := h2 m2 H2 st2 .refl (.bl (if neg then !sameR p q else sameR p q)) (.bl _)
          rw [sameR_eq] at this
          exact this
theorem rcmp_ok (g : Good c W X Φ G T) {neg : Bool} {p1 p2 : Pos} (h2 : glB X.env.scope ("repr" : PySem.Str) = true) (hn : nonStar a = true) (hm : nonStar b = true) (ha : PE X a (rdE c W fa)) (hb : PE X b (rdE c W fb)) {p3 p4 : Pos} :
    PE X (.Compare (.Call (.Name ("repr" : PySem.Str) p1) [a] [] p2) [copOf (if neg then .ne else .eq)] [.Call (.Name ("repr" : PySem.Str) p3) [b] [] p4] pos) (rdE c W (rcmpF neg fa fb)) := by
  cases neg with
  | false =>
    refine peI (pe_cmpR (op := .Eq) op_eq (rep_ok g h2 hn ha) (rep_ok g h2 hm hb) (in_plain rfl)) fun σ H Q h => ?_
    obtain ⟨m, S, ev, st, eo, q⟩ := rcmp_two g h
    refine ⟨m, S, ev, st, eo, q.mono fun ds m1 S1 H1 st1 n1 h1 vs rs => ?_⟩
    obtain ⟨x, p, e1, e2, e3, m, S, ev, st, eo, q⟩ := h1 vs rs
    refine ⟨x, p, e1, e2, e3, m, S, ev, st, eo, q.mono fun ds m1 S1 H1 st1 n1 h1 vs rs => ?_⟩
    obtain ⟨y, q, e4, e5, e6, z, w, e7, e8, k⟩ := h1 vs rs
    refine ⟨y, q, e4, e5, e6, rfl, ?_⟩
    cases e7
    cases e8
    simpa using k
  | true =>
    refine peI (pe_cmpR (op := .NotEq) op_ne (rep_ok g h2 hn ha) (rep_ok g h2 hm hb) (in_plain rfl)) fun σ H Q h => ?_
    obtain ⟨m, S, ev, st, eo, q⟩ := rcmp_two g h
    refine ⟨m, S, ev, st, eo, q.mono fun ds m1 S1 H1 st1 n1 h1 vs rs => ?_⟩
    obtain ⟨x, p, e1, e2, e3, m, S, ev, st, eo, q⟩ := h1 vs rs
    refine ⟨x, p, e1, e2, e3, m, S, ev, st, eo, q.mono fun ds m1 S1 H1 st1 n1 h1 vs rs => ?_⟩
    obtain ⟨y, q, e4, e5, e6, z, w, e7, e8, k⟩ := h1 vs rs
    refine ⟨y, q, e4, e5, e6, rfl, ?_⟩
    cases e7
    cases e8
    simpa using k
/-- a test that is a value of truth -/
theorem rcmp_bool {neg : Bool} {Q : Bool → Hp → Prop} (h : rdT c W (fun ev S => truthR (rcmpF neg fa fb ev S)) σ H Q) : rdE c W (rcmpF neg fa fb) σ H fun x H' => ∃ k, x = .bl k ∧ Q k H' := by
  obtain ⟨m, S, ev, st, eo, h⟩ := h
  refine ⟨m, S, ev, st, eo, ?_⟩
  have key : ∀ r : Res D, (∀ d S', r = .ok d S' → ∃ k, d = .dat (.bool k)) → Lft c W σ m S H (truthR r) (fun t _ _ H' => Q t H') → Lft c W σ m S H r fun d m' S' H' => ∀ v, RD c.K m' S' H' v d → ∃ k, v = .bl k ∧ Q k H' := fun r hb hr => by
    cases r with
    | ok d S' =>
      obtain ⟨k, rfl⟩ := hb d S' rfl
      exact fun m' H' st' n' v rv => ⟨k, rd_bool rv, hr m' H' st' n'⟩
    | exc e S' => exact hr
    | fail => exact hr
  refine key _ (fun d S' he => ?_) h
  unfold rcmpF at he
  cases e1 : fa ev S with
  | ok x S1 =>
    simp only [e1, Res.bind] at he
    cases e2 : reprP S1 x with
    | none => simp [e2] at he
    | some p =>
      simp only [e2] at he
      cases e3 : fb ev S1 with
      | ok y S2 =>
        simp only [e3] at he
        cases e4 : reprP S2 y with
        | none => simp [e4] at he
        | some q =>
          simp only [e4, rcmpV, Res.ofP] at he
          cases he
          exact ⟨_, rfl⟩
      | exc _ _ => simp [e3] at he
      | fail => simp [e3] at he
  | exc _ _ => simp [e1, Res.bind] at he
  | fail => simp [e1, Res.bind] at he
theorem rcmpT_ok (g : Good c W X Φ G T) {neg : Bool} {p1 p2 : Pos} (h2 : glB X.env.scope ("repr" : PySem.Str) = true) (hn : nonStar a = true) (hm : nonStar b = true) (ha : PE X a (rdE c W fa)) (hb : PE X b (rdE c W fb)) {p3 p4 : Pos} :
    PT X (.Compare (.Call (.Name ("repr" : PySem.Str) p1) [a] [] p2) [copOf (if neg then .ne else .eq)] [.Call (.Name ("repr" : PySem.Str) p3) [b] [] p4] pos) (rdT c W fun ev S => truthR (rcmpF neg fa fb ev S)) := by
  have fin : ∀ {r : R2} {σ H} {Q : Bool → Hp → Prop}, (∀ z w H Q, Q (.bl (if neg then !decide (z = w) else decide (z = w))) H → r (.str z) (.str w) H Q) → rdT c W (fun ev S => truthR (rcmpF neg fa fb ev S)) σ H Q →
      tOp r (tCB (rRep X.K) (rdA c W (oneF fa))) (tCB (rRep X.K) (rdA c W (oneF fb))) σ H fun x H' => ∃ k, x = .bl k ∧ Q k H' := fun {r σ H Q} hr h => by
    obtain ⟨m, S, ev, st, eo, q⟩ := rcmp_two g (rcmp_bool h)
    refine ⟨m, S, ev, st, eo, q.mono fun ds m1 S1 H1 st1 n1 h1 vs rs => ?_⟩
    obtain ⟨x, p, e1, e2, e3, m, S, ev, st, eo, q⟩ := h1 vs rs
    refine ⟨x, p, e1, e2, e3, m, S, ev, st, eo, q.mono fun ds m1 S1 H1 st1 n1 h1 vs rs => ?_⟩
    obtain ⟨y, q, e4, e5, e6, z, w, e7, e8, k⟩ := h1 vs rs
    refine ⟨y, q, e4, e5, e6, ?_⟩
    cases e7
    cases e8
    exact hr _ _ _ _ k
  cases neg with
  | false => exact ptI (pt_cmpR (op := .Eq) op_eq (rep_ok g h2 hn ha) (rep_ok g h2 hm hb) (in_plain rfl)) fun σ H Q h => fin (fun z w H Q q => ⟨rfl, by simpa using q⟩) h
  | true => exact ptI (pt_cmpR (op := .NotEq) op_ne (rep_ok g h2 hn ha) (rep_ok g h2 hm hb) (in_plain rfl)) fun σ H Q h => fin (fun z w H Q q => ⟨rfl, by simpa using q⟩) h
def chainF (op op2 : COp) (fa fb fc : SE) : SE := fun ev S => (fa ev S).bind fun x S1 => (fb ev S1).bind fun y S2 => match cmpV op S2 x y with
  | some true => (fc ev S2).bind fun z S3 => Res.ofP (cmpR op2 y z S3)
  | some false => .ok (.dat (.bool false)) S2
  | none => .fail
theorem rd_chain {op op2 : COp} {Q : VK} (h : rdE c W (chainF op op2 fa fb fc) σ H Q) : tChain (Op2 c (cmpR op)) (Op2 c (cmpR op2)) (rdE c W fa) (rdE c W fb) (rdE c W fc) σ H Q := by
  obtain ⟨m, S, ev, st, eo, h⟩ := h
  refine ⟨m, S, ev, st, eo, (Lft.bind h).mono fun d1 m1 S1 H1 st1 n1 h1 v1 r1 => ?_⟩
  refine ⟨m1, S1, ev, st1, eo.nxt st n1, (Lft.bind h1).mono fun d2 m2 S2 H2 st2 n2 h2 v2 r2 => ?_⟩
  have eo2 := (eo.nxt st n1).nxt st1 n2
  have r1' := r1.nxt st1 n2
  cases e : cmpV op S2 d1 d2 with
  | none => simp only [e] at h2; exact h2.elim
  | some k =>
    have mk : cmpR op d1 d2 S2 = some (.dat (.bool k), S2) := by simp [cmpR, e]
    refine ⟨m2, S2, d1, d2, _, S2, st2, r1', r2, mk, fun m3 H3 v3 st3 n3 r3 => ⟨k, rd_bool r3, ?_⟩⟩
    cases k with
    | false =>
      simp only [e] at h2
      exact h2 m3 H3 st3 n3 _ (.bl false)
    | true =>
      simp only [e] at h2
      have h3 := Lft.from_ n3 (Lft.bind h2)
      refine ⟨m3, S2, ev, st3, eo2.nxt st2 n3, h3.mono fun d4 m4 S4 H4 st4 n4 h4 v4 r4 => ?_⟩
      obtain ⟨d, S', e5, k5⟩ := Lft.ofP h4
      exact ⟨m4, S4, d2, d4, d, S', st4, (r2.nxt st2 n3).nxt st3 n4, r4, e5, fun m' H' v s n r => k5 m' H' s n v r⟩
theorem chain_ok (g : Good c W X Φ G T) (op op2 : COp) {z : Expr} (hn : nonSet z = true) (ha : PE X a (rdE c W fa)) (hb : PE X b (rdE c W fb)) (hc : PE X z (rdE c W fc)) : PE X (.Compare a [copOf op, copOf op2] [b, z] pos) (rdE c W (chainF op op2 fa fb fc)) :=
  peI (pe_chain (op_cmpV g.hK g.hu op) (op_cmpV g.hK g.hu op2) ha hb hc (last_plain hn)) fun σ H Q h => rd_chain h
theorem chain_bool {op op2 : COp} {ev : Ev} {S S' : Store} {d : D} (h : chainF op op2 fa fb fc ev S = .ok d S') : ∃ k, d = .dat (.bool k) := by
  unfold chainF at h
  cases e1 : fa ev S with
  | ok x S1 =>
    simp only [e1, Res.bind] at h
    cases e2 : fb ev S1 with
    | ok y S2 =>
      simp only [e2] at h
      cases e3 : cmpV op S2 x y with
      | none => simp [e3] at h
      | some k =>
        cases k with
        | false => simp only [e3] at h; cases h; exact ⟨false, rfl⟩
        | true =>
          simp only [e3] at h
          cases e4 : fc ev S2 with
          | ok z S3 =>
            simp only [e4] at h
            unfold cmpR at h
            cases e5 : cmpV op2 S3 y z with
            | none => simp [e5, Res.ofP] at h
            | some k =>
              simp only [e5, Option.map_some, Res.ofP] at h
              cases h
              exact ⟨k, rfl⟩
          | exc _ _ => simp [e4] at h
          | fail => simp [e4] at h
    | exc _ _ => simp [e2] at h
    | fail => simp [e2] at h
  | exc _ _ => simp [e1, Res.bind] at h
  | fail => simp [e1, Res.bind] at h
/-- a test of an expression that gives bools -/
theorem toT_bool {f : SE} {Q : Bool → Hp → Prop} (hb : ∀ ev S d S', f ev S = .ok d S' → ∃ k, d = .dat (.bool k)) (h : rdT c W (fun ev S => truthR (f ev S)) σ H Q) : rdE c W f σ H fun x H1 => ∃ k, x = .bl k ∧ Q k H1 := by
  obtain ⟨m, S, ev, st, eo, h⟩ := h
  refine ⟨m, S, ev, st, eo, ?_⟩
  cases e : f ev S with
  | ok d S' =>
    simp only [e] at h
    obtain ⟨k, rfl⟩ := hb ev S d S' e
    exact fun m' H' st' n' v rv => ⟨k, rd_bool rv, h m' H' st' n'⟩
  | exc x S' => simp only [e] at h; exact h
  | fail => simp only [e] at h; exact h
theorem chainT_ok (g : Good c W X Φ G T) (op op2 : COp) {z : Expr} (hn : nonSet z = true) (ha : PE X a (rdE c W fa)) (hb : PE X b (rdE c W fb)) (hc : PE X z (rdE c W fc)) : PT X (.Compare a [copOf op, copOf op2] [b, z] pos) (rdT c W fun ev S => truthR (chainF op op2 fa fb fc ev S)) :=
  ptI (pt_chain (op_cmpV g.hK g.hu op) (op_cmpV g.hK g.hu op2) ha hb hc (last_plain hn)) fun σ H Q h => rd_chain (toT_bool (fun _ _ _ _ q => chain_bool q) h)
theorem truth_test (hK : X.K = c.K) (hp : plainT e = true) (he : PE X e (rdE c W fa)) : PT X e (rdT c W fun ev S => truthR (fa ev S)) :=
  ptI (pt_truth he (true_plain hp)) fun σ H Q h => by rw [hK]; exact rdE.toT h
theorem not_ok (hK : X.K = c.K) (he : PE X e (rdE c W fa)) : PE X (.UnaryOp .Not e pos) (rdE c W fun ev S => (truthR (fa ev S)).bind fun k S1 => .ok (.dat (.bool (!k))) S1) := by
  refine peI (pe_notT he) fun σ H Q h => ?_
  obtain ⟨m, S, ev, st, eo, h⟩ := h
  rw [hK]
  refine ⟨m, S, ev, st, eo, (Lft.bind (Lft.bind h)).mono fun d m1 S1 H1 st1 n1 k v r => ?_⟩
  obtain ⟨t, e, k⟩ := Lft.ofO k
  exact ⟨t, truth_ok st1 r e, k m1 H1 st1 .refl m1 H1 st1 .refl _ (.bl _)⟩
theorem notT_ok {tf : Ev → Store → Res Bool} (he : PT X e (rdT c W tf)) : PT X (.UnaryOp .Not e pos) (rdT c W fun ev S => truthR ((tf ev S).bind fun k S1 => .ok (.dat (.bool (!k))) S1)) := by
  refine ptI (pt_not he) fun σ H Q h => ?_
  obtain ⟨m, S, ev, st, eo, h⟩ := h
  exact ⟨m, S, ev, st, eo, (Lft.bind (Lft.bind h)).mono fun t m1 S1 H1 st1 n1 k => k m1 H1 st1 .refl m1 H1 st1 .refl⟩
theorem neg_ok (he : PE X e (rdE c W fa)) : PE X (.UnaryOp .USub e pos) (rdE c W fun ev S => (fa ev S).bind fun x S1 => match x with
    | .dat (.int i) => .ok (.dat (.int (-i))) S1
    | _ => .fail) := by
  refine peI (pe_un un_neg he) fun σ H Q h => ?_
  obtain ⟨m, S, ev, st, eo, h⟩ := h
  refine ⟨m, S, ev, st, eo, (Lft.bind h).mono fun d m1 S1 H1 st1 n1 k v r => ?_⟩
  split at k
  · rename_i i
    exact ⟨i, rd_int r, k m1 H1 st1 .refl _ (.int _)⟩
  · exact k.elim
theorem ite_ok {tf : Ev → Store → Res Bool} {t : Expr} (ht : PT X t (rdT c W tf)) (ha : PE X a (rdE c W fa)) (hb : PE X b (rdE c W fb)) : PE X (.IfExp t a b pos) (rdE c W fun ev S => (tf ev S).bind fun k S1 => match k with
    | true => fa ev S1
    | false => fb ev S1) := by
  refine peI (pe_ifExp ht ha hb) fun σ H Q h => ?_
  obtain ⟨m, S, ev, st, eo, h⟩ := h
  refine ⟨m, S, ev, st, eo, (Lft.bind h).mono fun k m1 S1 H1 st1 n1 q => ?_⟩
  cases k with
  | true => exact ⟨m1, S1, ev, st1, eo.nxt st n1, q⟩
  | false => exact ⟨m1, S1, ev, st1, eo.nxt st n1, q⟩
theorem isTrue_if {X : Cx} {t a b : Expr} {pos : Pos} {tt ta tb : TT} (ht : PT X t tt) (ha : PT X a ta) (hb : PT X b tb) : PT X (.IfExp t a b pos) (fun σ H Q => tt σ H fun k H1 => if k = true then ta σ H1 Q else tb σ H1 Q) := by
  refine ⟨fun pins s σ H Q I h => ?_⟩
  show wpAny _ _ (do if ← isTrue t X.env (eval t X.env) then isTrue a X.env (eval a X.env) else isTrue b X.env (eval b X.env)) _ _ s
  refine wpAny_bind (thn (ht.run pins s σ H _ I h) fun k s1 ⟨H1, I1, q⟩ => ?_)
  cases k with
  | true => exact ha.run pins s1 σ H1 Q I1 q
  | false => exact hb.run pins s1 σ H1 Q I1 q
theorem iteT_ok {tf ga gb : Ev → Store → Res Bool} {t : Expr} (ht : PT X t (rdT c W tf)) (ha : PT X a (rdT c W ga)) (hb : PT X b (rdT c W gb)) {f : Ev → Store → Res Bool} (hf : ∀ ev S, f ev S = (tf ev S).bind fun k S1 => match k with
    | true => ga ev S1
    | false => gb ev S1) : PT X (.IfExp t a b pos) (rdT c W f) := by
  refine ptI (isTrue_if ht ha hb) fun σ H Q h => ?_
  obtain ⟨m, S, ev, st, eo, h⟩ := h
  rw [hf] at h
  refine ⟨m, S, ev, st, eo, (Lft.bind h).mono fun k m1 S1 H1 st1 n1 q => ?_⟩
  cases k with
  | true => exact ⟨m1, S1, ev, st1, eo.nxt st n1, q⟩
  | false => exact ⟨m1, S1, ev, st1, eo.nxt st n1, q⟩
theorem idx_ok (hK : X.K = c.K) (hn : nonSlice b = true) (ha : PE X a (rdE c W fa)) (hb : PE X b (rdE c W fb)) : PE X (.Subscript a b pos) (rdE c W fun ev S => (fa ev S).bind fun x S1 => (fb ev S1).bind fun y S2 => Res.ofP (idxV x y S2)) :=
  peI (pe_ix (ix_V hK) ha hb (ix_plain hn)) fun σ H Q h => rd_two h
/-- a slice's parts -/
def rdO (c : Cfg) (W : WX) (f : Ev → Store → Res (Option Int)) : TO := fun σ H Q => ∃ m S ev, Sto c m S H ∧ EvOk c m S H σ ev ∧ Lft c W σ m S H (f ev S) fun o _ _ H' => Q o H'
theorem poI {e : Option Expr} {t t' : TO} (h : PO X e t) (i : ∀ σ H Q, t' σ H Q → t σ H Q) : PO X e t' := ⟨fun pins s σ H Q I w => h.run pins s σ H Q I (i σ H Q w)⟩
theorem part_none : PO X none (rdO c W fun _ S => .ok none S) := poI po_none fun σ H Q h => by
  obtain ⟨m, S, ev, st, eo, h⟩ := h
  exact h m H st .refl
theorem part_some (ha : PE X a (rdE c W fa)) : PO X (some a) (rdO c W fun ev S => (fa ev S).bind fun x S1 => match x with
    | .dat (.int i) => .ok (some i) S1
    | _ => .fail) := poI (po_some ha) fun σ H Q h => by
  obtain ⟨m, S, ev, st, eo, h⟩ := h
  refine ⟨m, S, ev, st, eo, (Lft.bind h).mono fun d m1 S1 H1 st1 n1 k v r => ?_⟩
  split at k
  · rename_i i
    exact ⟨i, rd_int r, k m1 H1 st1 .refl⟩
  · exact k.elim
theorem sl_ok (hK : X.K = c.K) {lo hi : Option Expr} {fl fh : Ev → Store → Res (Option Int)} {p2 : Pos} (ha : PE X a (rdE c W fa)) (hl : PO X lo (rdO c W fl)) (hh : PO X hi (rdO c W fh)) :
    PE X (.Subscript a (.Slice lo hi none p2) pos) (rdE c W fun ev S => (fa ev S).bind fun x S1 => (fl ev S1).bind fun l S2 => (fh ev S2).bind fun h S3 => Res.ofP (slV x l h S3)) := by
  refine peI (pe_slice (sl_V hK) ha hl hh) fun σ H Q h => ?_
  obtain ⟨m, S, ev, st, eo, h⟩ := h
  refine ⟨m, S, ev, st, eo, (Lft.bind h).mono fun d m1 S1 H1 st1 n1 h1 v r => ?_⟩
  have eo1 := eo.nxt st n1
  refine ⟨m1, S1, ev, st1, eo1, (Lft.bind h1).mono fun l m2 S2 H2 st2 n2 h2 => ?_⟩
  have eo2 := eo1.nxt st1 n2
  refine ⟨m2, S2, ev, st2, eo2, (Lft.bind h2).mono fun l2 m3 S3 H3 st3 n3 h3 => ?_⟩
  obtain ⟨d', S', e, k⟩ := Lft.ofP h3
  exact ⟨m3, S3, d, d', S', st3, (r.nxt st1 n2).nxt st2 n3, e, fun m' H' v s n r => k m' H' s n v r⟩
theorem tup_ok {es : List Expr} {k : Nat} {fl : SL} (ha : PA X es (rdA c W fl)) : PE X (.Tuple es k pos) (rdE c W fun ev S => (fl ev S).bind fun ds S1 => if fits ds.length then Res.ofP (mkT ds S1) else .fail) := by
  refine peI (pe_tup ha) fun σ H Q h => ?_
  obtain ⟨m, S, ev, st, eo, h⟩ := h
  refine ⟨m, S, ev, st, eo, (Lft.bind h).mono fun ds m1 S1 H1 st1 n1 h1 vs rs => ?_⟩
  split at h1
  · rename_i hf
    obtain ⟨d, S', e, k⟩ := Lft.ofP h1
    refine ⟨by rw [rs.len]; exact fits_ok hf, fun p hp => ?_⟩
    obtain ⟨s2, n2, q2⟩ := mkT_ok st1 hp rs e
    exact k _ _ s2 n2 _ q2
  · exact h1.elim
theorem lst_ok {es : List Expr} {cell : Bool} {fl : SL} (ha : PA X es (rdA c W fl)) : PE X (.List es pos) (rdE c W fun ev S => (fl ev S).bind fun ds S1 => if fits ds.length then Res.ofP (mkL cell ds S1) else .fail) := by
  refine peI (pe_lst ha) fun σ H Q h => ?_
  obtain ⟨m, S, ev, st, eo, h⟩ := h
  refine ⟨m, S, ev, st, eo, (Lft.bind h).mono fun ds m1 S1 H1 st1 n1 h1 vs rs => ?_⟩
  split at h1
  · rename_i hf
    obtain ⟨d, S', e, k⟩ := Lft.ofP h1
    refine ⟨by rw [rs.len]; exact fits_ok hf, fun p hp => ?_⟩
    obtain ⟨m2, s2, n2, q2⟩ := mkL_ok st1 hp rs e
    exact k _ _ s2 n2 _ q2
  · exact h1.elim
theorem frz_pe (he : PE X e (rdE c W fa)) : PE X e (rdE c W fun ev S => (fa ev S).bind fun x S1 => Res.ofP ((frz 4 x S1).map fun (p, S2) => (.dat p, S2))) := by
  refine peI he fun σ H Q h => ?_
  obtain ⟨m, S, ev, st, eo, h⟩ := h
  refine ⟨m, S, ev, st, eo, (Lft.bind h).mono fun d m1 S1 H1 st1 n1 h1 v r => ?_⟩
  obtain ⟨d', S', e, k⟩ := Lft.ofP h1
  simp only [Option.map_eq_some_iff] at e
  obtain ⟨⟨p, S2⟩, e1, e2⟩ := e
  cases e2
  obtain ⟨s2, n2, q2⟩ := frz_ok 4 st1 r e1
  exact k _ _ s2 n2 _ q2
/-! ### and, or -/
theorem and_ok (hK : X.K = c.K) {r : List Expr} {z : Expr} (ha : PE X a (rdE c W fa)) (hb : PE X (.BoolOp .And (z :: r) pos) (rdE c W fb)) : PE X (.BoolOp .And (a :: z :: r) pos) (rdE c W fun ev S => (fa ev S).bind fun x S1 => match truth S1 x with
    | some true => fb ev S1
    | some false => .ok x S1
    | none => .fail) := by
  refine peI (pe_andT ha hb) fun σ H Q h => ?_
  obtain ⟨m, S, ev, st, eo, h⟩ := h
  rw [hK]
  refine ⟨m, S, ev, st, eo, (Lft.bind h).mono fun d m1 S1 H1 st1 n1 k v r => ?_⟩
  cases e : truth S1 d with
  | none => simp only [e] at k; exact k.elim
  | some t =>
    refine ⟨t, truth_ok st1 r e, ?_⟩
    cases t with
    | true => simp only [e] at k; exact ⟨m1, S1, ev, st1, eo.nxt st n1, k⟩
    | false => simp only [e] at k; exact k m1 H1 st1 .refl v r
theorem or_ok (hK : X.K = c.K) {r : List Expr} {z : Expr} (ha : PE X a (rdE c W fa)) (hb : PE X (.BoolOp .Or (z :: r) pos) (rdE c W fb)) : PE X (.BoolOp .Or (a :: z :: r) pos) (rdE c W fun ev S => (fa ev S).bind fun x S1 => match truth S1 x with
    | some false => fb ev S1
    | some true => .ok x S1
    | none => .fail) := by
  refine peI (pe_orT ha hb) fun σ H Q h => ?_
  obtain ⟨m, S, ev, st, eo, h⟩ := h
  rw [hK]
  refine ⟨m, S, ev, st, eo, (Lft.bind h).mono fun d m1 S1 H1 st1 n1 k v r => ?_⟩
  cases e : truth S1 d with
  | none => simp only [e] at k; exact k.elim
  | some t =>
    refine ⟨t, truth_ok st1 r e, ?_⟩
    cases t with
    | false => simp only [e] at k; exact ⟨m1, S1, ev, st1, eo.nxt st n1, k⟩
    | true => simp only [e] at k; exact k m1 H1 st1 .refl v r
theorem pwI {e : Expr} {t t' : TT} (h : PW X e t) (i : ∀ σ H Q, t' σ H Q → t σ H Q) : PW X e t' := ⟨fun wh pins s σ H Q I w => h.run wh pins s σ H Q I (i σ H Q w)⟩
theorem andT_ok {r : List Expr} {z : Expr} (ha : PT X a (rdT c W fun ev S => truthR (fa ev S))) (hb : PW X (.BoolOp .And (z :: r) pos) (rdT c W fun ev S => truthR (fb ev S))) : PW X (.BoolOp .And (a :: z :: r) pos) (rdT c W fun ev S => truthR ((fa ev S).bind fun x S1 => match truth S1 x with
    | some true => fb ev S1
    | some false => .ok x S1
    | none => .fail)) := by
  refine pwI (pw_and ha hb) fun σ H Q h => ?_
  obtain ⟨m, S, ev, st, eo, h⟩ := h
  refine ⟨m, S, ev, st, eo, ?_⟩
  cases e1 : fa ev S with
  | ok d S1 =>
    simp only [e1, truthR, Res.bind] at h ⊢
    cases e : truth S1 d with
    | none => simp only [e] at h; exact h.elim
    | some t =>
      intro m' H' st' n'
      cases t with
      | true =>
        simp only [e] at h
        exact ⟨m', S1, ev, st', eo.nxt st n', h.from_ n'⟩
      | false =>
        simp only [e, Res.ofO] at h
        exact h m' H' st' n'
  | exc x S1 => simp only [e1, truthR, Res.bind] at h ⊢; exact h
  | fail => simp only [e1, truthR, Res.bind] at h; exact h.elim
theorem orT_ok {r : List Expr} {z : Expr} (ha : PT X a (rdT c W fun ev S => truthR (fa ev S))) (hb : PW X (.BoolOp .Or (z :: r) pos) (rdT c W fun ev S => truthR (fb ev S))) : PW X (.BoolOp .Or (a :: z :: r) pos) (rdT c W fun ev S => truthR ((fa ev S).bind fun x S1 => match truth S1 x with
    | some false => fb ev S1
    | some true => .ok x S1
    | none => .fail)) := by
  refine pwI (pw_or ha hb) fun σ H Q h => ?_
  obtain ⟨m, S, ev, st, eo, h⟩ := h
  refine ⟨m, S, ev, st, eo, ?_⟩
  cases e1 : fa ev S with
  | ok d S1 =>
    simp only [e1, truthR, Res.bind] at h ⊢
    cases e : truth S1 d with
    | none => simp only [e] at h; exact h.elim
    | some t =>
      intro m' H' st' n'
      cases t with
      | false =>
        simp only [e] at h
        exact ⟨m', S1, ev, st', eo.nxt st n', h.from_ n'⟩
      | true =>
        simp only [e, Res.ofO] at h
        exact h m' H' st' n'
  | exc x S1 => simp only [e1, truthR, Res.bind] at h ⊢; exact h
  | fail => simp only [e1, truthR, Res.bind] at h; exact h.elim
end
end MP
end
section
/-! MiniPy: the induction over expressions. -/
namespace MP
open PySem PySem.Spec PyProof.Rows L2
section
variable {c : Cfg} {W : WX} {X : Cx} {Φ : List Fn} {G : List PyData} {T : Tb} {σ : L2.St} {H : Hp} {fa fb fc : SE} {a b e : Expr} {pos : Pos}
theorem back_all {pos : Pos} {env : Env} : ∀ {es : List Expr}, es.all nonStar = true → (backTo pos (starEach es env)).all (fun x => !x.1) = true
  | [], _ => rfl
  | e :: es, h => by
    simp only [List.all_cons, Bool.and_eq_true] at h
    rw [star_plain h.1]
    show (!false && (backTo pos (starEach es env)).all (fun x => !x.1)) = true
    rw [back_all h.2]
    rfl
theorem list_slots (m : Mth) : ∃ s : Slot "list" (mthName m) (mthId m), typeOf (.builtin (mthId m)) = pure (.type "method_descriptor") := by
  cases m with
  | append => exact ⟨PySem.F.slot_list_append, PySem.F.type_list_append⟩
  | extend => exact ⟨PySem.F.slot_list_extend, PySem.F.type_list_extend⟩
  | pop => exact ⟨PySem.F.slot_list_pop, PySem.F.type_list_pop⟩
  | popAt => exact ⟨PySem.F.slot_list_pop, PySem.F.type_list_pop⟩
  | index => exact ⟨PySem.F.slot_list_index, PySem.F.type_list_index⟩
  | insert => exact ⟨PySem.F.slot_list_insert, PySem.F.type_list_insert⟩
theorem getL_ty {m : Mp} {S : Store} {d : D} {v : V} (st : Sto c m S H) (r : RD c.K m S H v d) {l : List D} (e : getL S d = some l) (hK : X.K = c.K) : tyV X.K "list" v H := by
  obtain ⟨a, vs, rfl, ha, _⟩ := getL_ok st r e
  exact .inl ⟨rfl, vs, by rw [hK]; exact SqL.of ha⟩
theorem meth_ok (g : Good c W X Φ G T) (m : Mth) {o : Expr} {es : List Expr} {fl : SL} {apos cpos : Pos} (hn : nonCall o = true) (hl : apos.endLine = cpos.line) (ho : PE X o (rdE c W fa)) (hs : es.all nonStar = true) (h30 : es.length < 30) (ha : PA X es (rdA c W fl))
    (h0 : es = [] → ∀ ev S, fl ev S = .ok [] S) :
    PE X (.Call (.Attribute o (mthName m) apos) es [] cpos) (rdE c W fun ev S => (fa ev S).bind fun x S1 => match getL S1 x with
      | some _ => (fl ev S1).bind fun ds S2 => Res.ofP (methV m x ds S2)
      | none => .fail) := by
  obtain ⟨slot, hty⟩ := list_slots m
  have hline : (apos.endLine == cpos.line) = true := by rw [hl]; exact beq_self_eq_true _
  have pa := PySem.F.plainAttrs_list
  have mt := mt_V g.hK g.hu m
  have rd : ∀ {σ : L2.St} {H : Hp} {Q : VK}, rdE c W (fun ev S => (fa ev S).bind fun x S1 => match getL S1 x with
      | some _ => (fl ev S1).bind fun ds S2 => Res.ofP (methV m x ds S2)
      | none => .fail) σ H Q → rdE c W fa σ H fun x H1 => tyV X.K "list" x H1 ∧ rdA c W fl σ H1 fun vs H2 => OpM c (methV m) x vs H2 Q := fun {σ H Q} h => by
    obtain ⟨mm, S, ev, st, eo, h⟩ := h
    refine ⟨mm, S, ev, st, eo, (Lft.bind h).mono fun d m1 S1 H1 st1 n1 k v r => ?_⟩
    cases hg : getL S1 d with
    | none => simp only [hg] at k; exact k.elim
    | some l =>
      simp only [hg] at k
      refine ⟨getL_ty st1 r hg g.hK, m1, S1, ev, st1, eo.nxt st n1, (Lft.bind k).mono fun ds m2 S2 H2 st2 n2 k2 vs rs => ?_⟩
      obtain ⟨d2, S3, e, k3⟩ := Lft.ofP k2
      exact ⟨m2, S2, d, ds, d2, S3, st2, r.nxt st1 n2, rs, e, fun m' H' v s n r => k3 m' H' s n v r⟩
  cases es with
  | nil =>
    refine peI (pe_bm0 pa slot hty mt ho (base_plain hn) hline) fun σ H Q h => (rd h).mono fun x H1 q => ⟨q.1, ?_⟩
    obtain ⟨m2, S, ev, st, eo, q⟩ := q.2
    rw [h0 rfl] at q
    exact q m2 _ st .refl [] .nil
  | cons y ys =>
    have hs' := hs
    simp only [List.all_cons, Bool.and_eq_true] at hs
    refine peI (pe_bm pa slot hty mt ho ha (base_plain hn) ?_ hline (star_plain hs.1) (back_plain hs.2)) fun σ H Q h => (rd h).mono fun x H1 q => q
    rw [back_all hs']
    show (true && true && decide ((y :: ys).length + 0 + 0 < 30)) = true
    simpa using h30
/-- types of values -/
inductive Kn where | non | bl | int | str | lst | tup
def knS : Kn → String
  | .non => "NoneType"
  | .bl => "bool"
  | .int => "int"
  | .str => "str"
  | .lst => "list"
  | .tup => "tuple"
def isaK : Ty → Kn → Bool
  | .int, .int => true
  | .int, .bl => true
  | .bool, .bl => true
  | .tuple, .tup => true
  | .list, .lst => true
  | .str, .str => true
  | _, _ => false
theorem kit_all (k : Kn) (t : Ty) : kitB (knS k) (tyS t) = some (isaK t k) := by
  cases k <;> cases t <;> decide +kernel
theorem sqT_ty {K : PySem.W.Frag} {vs : List V} {p : Addr} (h : SqT K H p vs) : TyX K H (.ref p) (.type "tuple") := by
  rcases h with (h | ⟨o, h⟩) | ⟨o, its, n, h1, h2, _⟩
  · exact .base (.tup h)
  · exact .fTuple h
  · exact .kTuple h1 h2
theorem isa_ty {m : Mp} {S : Store} {d : D} {v : V} (st : Sto c m S H) (r : RD c.K m S H v d) {ty : Ty} {k : Bool} (e : isaD S ty d = some k) : ∃ kn, TyX c.K H v (.type (knS kn)) ∧ isaK ty kn = k := by
  cases d with
  | scr l => cases e
  | ref n =>
    obtain ⟨a, e1, rfl⟩ := r
    simp only [isaD, Option.map_eq_some_iff] at e
    obtain ⟨l, h1, h2⟩ := e
    obtain ⟨vs, h, _⟩ := st.cell n a _ e1 (cellAt_some h1)
    refine ⟨.lst, .base (.lst h), ?_⟩
    cases ty <;> cases h2 <;> rfl
  | dat p =>
    cases e
    cases p with
    | none => cases r; exact ⟨.non, .base .non, by cases ty <;> rfl⟩
    | bool b => cases r; exact ⟨.bl, .base (.bl b), by cases ty <;> rfl⟩
    | int i => cases r; exact ⟨.int, .base (.int i), by cases ty <;> rfl⟩
    | str x => cases r; exact ⟨.str, .base (.str x), by cases ty <;> rfl⟩
    | tuple l =>
      obtain ⟨a, vs, rfl, h, _⟩ := rd_tup r
      exact ⟨.tup, sqT_ty h, by cases ty <;> rfl⟩
    | list l =>
      cases r with
      | lst h _ _ => exact ⟨.lst, .base (.lst h), by cases ty <;> rfl⟩
    | dict l => cases r
theorem isi_ok (g : Good c W X Φ G T) (ty : Ty) {p p2 pos : Pos} (h1 : glB X.env.scope "isinstance" = true) (h2 : glB X.env.scope (tyS ty : PySem.Str) = true) (hn : nonStar a = true) (ha : PE X a (rdE c W fa)) :
    PE X (.Call (.Name "isinstance" p) [a, .Name (tyS ty : PySem.Str) p2] [] pos) (rdE c W fun ev S => (fa ev S).bind fun x S1 => match isaD S1 ty x with
      | some k => .ok (.dat (.bool k)) S1
      | none => .fail) := by
  have hT : PE X (.Name (tyS ty : PySem.Str) p2) (tC (.ty (tyS ty))) := pe_bltn (gl_ok h2) (g.blt _ (ty_in ty)) (ty_boot ty) rfl (ty_nn ty) (ty_nd ty)
  refine peI (pe_callB call_isi (gl_ok h1) (g.blt _ (by decide +kernel)) PyProof.Rows.boot_isinstance (pa_cons ha (pa_cons hT pa_nil rfl) (star_plain hn)) (he := star_plain hn) (hpl := rfl)) fun σ H Q h => ?_
  obtain ⟨m, S, ev, st, eo, h⟩ := h
  show rdE c W fa σ H _
  refine ⟨m, S, ev, st, eo, (Lft.bind h).mono fun d m1 S1 H1 st1 n1 k v r => ?_⟩
  cases e : isaD S1 ty d with
  | none => simp only [e] at k; exact k.elim
  | some t =>
    simp only [e] at k
    obtain ⟨kn, hty, hk⟩ := isa_ty st1 r e
    refine ⟨v, .ty (tyS ty), .type (knS kn), .type (tyS ty), t, rfl, .ty _, by rw [g.hK]; exact hty, ?_, k m1 H1 st1 .refl _ (.bl t)⟩
    rw [← hk]
    exact kit_ty (kit_all kn ty)
end
/-- arguments: one, plain -/
theorem pa_consM {c : Cfg} {W : WX} {X : Cx} {a : Expr} {es : List Expr} {fa : SE} {fl : SL} (hn : nonStar a = true) (ha : PE X a (rdE c W fa)) (hl : PA X es (rdA c W fl)) : PA X (a :: es) (rdA c W fun ev S => (fa ev S).bind fun x S1 => (fl ev S1).bind fun xs S2 => .ok (x :: xs) S2) := by
  refine paI (pa_cons ha hl (star_plain hn)) fun σ H Q h => ?_
  obtain ⟨m, S, ev, st, eo, h⟩ := h
  refine ⟨m, S, ev, st, eo, (Lft.bind h).mono fun d m1 S1 H1 st1 n1 h1 v r => ⟨m1, S1, ev, st1, eo.nxt st n1, (Lft.bind h1).mono fun ds m2 S2 H2 st2 n2 h2 vs rs => ?_⟩⟩
  exact h2 m2 H2 st2 .refl (v :: vs) (.cons (r.nxt st1 n2) rs)
theorem pa_starM {c : Cfg} {W : WX} {X : Cx} {a : Expr} {p : Pos} {es : List Expr} {fa : SE} {fl : SL} (hK : X.K = c.K) (ha : PE X a (rdE c W fa)) (hl : PA X es (rdA c W fl)) : PA X (.Starred a p :: es) (rdA c W fun ev S => (fa ev S).bind fun x S1 => match getSeq S1 x with
    | some l => (fl ev S1).bind fun xs S2 => .ok (l ++ xs) S2
    | none => .fail) := by
  refine paI (StX.pa_star ha hl) fun σ H Q h => ?_
  obtain ⟨m, S, ev, st, eo, h⟩ := h
  refine ⟨m, S, ev, st, eo, (Lft.bind h).mono fun d m1 S1 H1 st1 n1 h1 v r => ?_⟩
  cases hg : getSeq S1 d with
  | none => simp only [hg] at h1; exact h1.elim
  | some l =>
    simp only [hg] at h1
    obtain ⟨b, xs, rfl, hb, rb⟩ := getSeq_ok st1 r hg
    rw [hK]
    refine ⟨b, xs, rfl, hb.symm, m1, S1, ev, st1, eo.nxt st n1, (Lft.bind h1).mono fun ds m2 S2 H2 st2 n2 h2 vs rs => ?_⟩
    exact h2 m2 H2 st2 .refl (xs ++ vs) ((RDs.nxt st1 n2 rb).app rs)
theorem pa_nilM {c : Cfg} {W : WX} {X : Cx} : PA X [] (rdA c W fun _ S => .ok [] S) := paI pa_nil fun σ H Q h => by
  obtain ⟨m, S, ev, st, eo, h⟩ := h
  exact h m H st .refl [] .nil
theorem ptsI {X : Cx} {es : List Expr} {t t' : TT} (h : PTs X es t) (i : ∀ σ H Q, t' σ H Q → t σ H Q) : PTs X es t' := ⟨fun pins s σ H Q I w => h.run pins s σ H Q I (i σ H Q w)⟩
abbrev GoodAll (c : Cfg) (Φ : List Fn) (G : List PyData) (T : Tb) (N : List PySem.Str) (rs : Scope) (W : WX) (X : Cx) : Prop := Good c W X Φ G T ∧ X.N = N ∧ X.env.scope = rs
section
variable {c : Cfg} {Φ : List Fn} {G : List PyData} {T : Tb} {a b z t o elt : CE} {es r ifs : CL} {lo hi : CO} {it : CI} {i k f : Nat} {m : Mth} {ty : Ty} {cell : Bool} {tg : Tg} {own : List Nat} {op : BOp} {p : PyData}
/-- a comprehension -/
theorem comp_ok {W : WX} {X : Cx} (g : Good c W X Φ G T) {cell : Bool} {tg : Tg} {own : List Nat} {ow : List (PySem.Str × Nat)} {x t iter : Expr} {conds : List Expr} {scope : Scope} {pos : Pos} {fI : Ev → Store → Res ItS} {ft : Ev → Store → Res Bool} {fe : SE}
    (h1 : ownOf X.N own = some ow) (h2 : blkC X.N X.env.scope scope ow = true) (h3 : tg.slots.all (fun i => own.contains i) = true) (h4 : nonSet iter = true) (hi : PI X t iter (rdI c W fI)) (ht : ckTg X.N (relS scope X.env.scope) (fnIn scope) tg t = true)
    (hs : ∀ X', Good c W0 X' Φ G T → X'.N = X.N → X'.env.scope = relS scope X.env.scope → PTs X' conds (rdT c W0 ft)) (he : ∀ X', Good c W0 X' Φ G T → X'.N = X.N → X'.env.scope = relS scope X.env.scope → PE X' x (rdE c W0 fe)) :
    PE X (.ListComp x [⟨t, iter, conds, 0⟩] scope pos) (rdE c W fun ev S => (fI ev S).bind fun J S1 => match compLoop J tg ft fe (wipeE ev own) J.len 0 S1 with
      | some (l, S2) => if fits l.length then Res.ofP (mkL cell l S2) else .fail
      | none => .fail) := by
  have hown := ownOf_ix h1
  refine peI (pe_lc (g := gOf c.K tg) (tt := rdT c W0 ft) (te := rdE c W0 fe) g.calm g.nd hi (blkOk_by h2) (fun s H C cl fp => ?_) (fun s H C cl fp => hs _ (g.blk s H scope _ fp) rfl rfl) (fun s H C cl fp => he _ (g.blk s H scope _ fp) rfl rfl) (set_plain h4)) fun σ H Q h => ?_
  · have z := tg_ok (X := X.blk s H scope (compEnvC scope cl C X.env) fp) (fnb := fnIn scope) g.nd (fun _ q => q) g.calm (t := tg) (e := t) ht
    rw [← g.hK]
    exact z
  · rw [hown]
    refine rd_comp (fun i hi => ?_) h
    have := List.all_eq_true.mp h3 i hi
    simpa using this
theorem intsOf_some : ∀ {l : List D} {ns : List Int}, (toDats l).bind intsOf = some ns → l = ns.map fun i => .dat (.int i)
  | [], ns, h => by cases h; rfl
  | .dat p :: r, ns, h => by
    simp only [toDats, Option.bind_eq_some_iff, Option.map_eq_some_iff] at h
    obtain ⟨q, ⟨ps, h1, h2⟩, h3⟩ := h
    subst h2
    unfold intsOf at h3
    split at h3
    · rename_i e; cases e
    · rename_i i r' e
      cases e
      simp only [Option.map_eq_some_iff] at h3
      obtain ⟨js, h4, h5⟩ := h3
      subst h5
      rw [intsOf_some (l := r) (ns := js) (by rw [h1]; exact h4)]
      rfl
    · cases h3
  | .ref _ :: _, ns, h => by simp [toDats] at h
  | .scr _ :: _, ns, h => by simp [toDats] at h
def kidOf : KQ → String
  | .srt _ => "sorted"
  | .len => "len"
theorem kset_ok {W : WX} {X : Cx} (g : Good c W X Φ G T) {q : KQ} {tg : Tg} {own : List Nat} {ow : List (PySem.Str × Nat)} {x t iter : Expr} {conds : List Expr} {scope : Scope} {fI : Ev → Store → Res ItS} {ft : Ev → Store → Res Bool} {fe : SE} {p q2 q3 q4 : Pos} {b : Bool} {q1 : _}
    (hg : glB X.env.scope (kqNm q) = true) (h1 : ownOf X.N own = some ow) (h2 : blkC X.N X.env.scope scope ow = true) (h3 : tg.slots.all (fun i => own.contains i) = true) (h4 : nonSet iter = true) (hi : PI X t iter (rdI c W fI)) (ht : ckTg X.N (relS scope X.env.scope) (fnIn scope) tg t = true)
    (hs : ∀ X', Good c W0 X' Φ G T → X'.N = X.N → X'.env.scope = relS scope X.env.scope → PTs X' conds (rdT c W0 ft)) (he : ∀ X', Good c W0 X' Φ G T → X'.N = X.N → X'.env.scope = relS scope X.env.scope → PE X' x (rdE c W0 fe)) :
    PE X (.Call (.Name (kqNm q) p) [.DictComp x (.Constant (.bool b) q1 q2) [⟨t, iter, conds, 0⟩] scope q3] [] q4) (rdE c W fun ev S => (fI ev S).bind fun J S1 => match compLoop J tg ft fe (wipeE ev own) J.len 0 S1 with
      | some (l, S2) => match (toDats l).bind intsOf with
        | some ns => if fits ns.length then Res.ofP (ksetV q ns S2) else .fail
        | none => .fail
      | none => .fail) := by
  have hown := ownOf_ix h1
  have dc : PE X (.DictComp x (.Constant (.bool b) q1 q2) [⟨t, iter, conds, 0⟩] scope q3) (tDc (rdI c W fI) (gOf c.K tg) (rdT c W0 ft) (rdE c W0 fe) (tC (.bl b)) (ow.map (·.2))) := by
    refine pe_dc (g := gOf c.K tg) (tt := rdT c W0 ft) (tk := rdE c W0 fe) (tv := tC (.bl b)) g.calm g.nd hi (blkOk_by h2) (fun s H C cl fp => ?_) (fun s H C cl fp => hs _ (g.blk s H scope _ fp) rfl rfl) (fun s H C cl fp => he _ (g.blk s H scope _ fp) rfl rfl) (fun s H C cl fp => pe_bl) (set_plain h4)
    have z := tg_ok (X := X.blk s H scope (compEnvC scope cl C X.env) fp) (fnb := fnIn scope) g.nd (fun _ q => q) g.calm (t := tg) (e := t) ht
    rw [← g.hK]
    exact z
  rw [hown] at dc
  have main : ∀ {σ : L2.St} {H : Hp} {Q Q' : VK}, rdE c W (fun ev S => (fI ev S).bind fun J S1 => match compLoop J tg ft fe (wipeE ev own) J.len 0 S1 with
      | some (l, S2) => match (toDats l).bind intsOf with
        | some ns => if fits ns.length then Res.ofP (ksetV q ns S2) else .fail
        | none => .fail
      | none => .fail) σ H Q → (∀ v H', (∃ m' S2 ns d S3 D kvs, v = .ref D ∧ H' D = some (.dK kvs) ∧ kvs.map (·.1) = (dedI ns).map Sum.inl ∧ ksetV q ns S2 = some (d, S3) ∧ Sto c m' S2 H' ∧
        ∀ m2 H2, Sto c m2 S3 H2 → Nxt m' S2 H' m2 S3 H2 → ∀ w, RD c.K m2 S3 H2 w d → Q w H2) → Q' v H') → tDc (rdI c W fI) (gOf c.K tg) (rdT c W0 ft) (rdE c W0 fe) (tC (.bl b)) own σ H Q' := fun {σ H Q Q'} h kk => by
    obtain ⟨m, S, ev, st, eo, h⟩ := h
    refine rd_dc (fun i hi => by have := List.all_eq_true.mp h3 i hi; simpa using this) ⟨m, S, ev, st, eo, (Lft.bind h).mono fun J m1 S1 H1 st1 n1 h1 => ?_⟩
    split at h1
    case h_2 => exact h1.elim
    case h_1 l S2 hcl =>
    split at h1
    case h_2 => exact h1.elim
    case h_1 ns hns =>
    split at h1
    case isFalse => exact h1.elim
    case isTrue hf =>
    obtain ⟨d, S3, e, fin⟩ := Lft.ofP h1
    refine ⟨ns, S2, by rw [hcl, intsOf_some hns], hf, fun m' H' D kvs st' n' hD hk => kk _ _ ⟨m', S2, ns, d, S3, D, kvs, rfl, hD, hk, e, st', fun m2 H2 st2 n2 w r => fin m2 H2 st2 (n'.trans n2) w r⟩⟩
  cases q with
  | srt cell =>
    refine peI (pe_callB (call_sortedDI g.calm) (gl_ok hg) (g.blt _ (blt_in (.sorted cell))) (blt_boot (.sorted cell)) (pa_cons dc pa_nil rfl) (blt_nn (.sorted cell)) (blt_nd (.sorted cell)) (star_plain rfl) (back_plain rfl)) fun σ H Q h => ?_
    unfold tCB tCons tNil
    refine main h fun v H' q => ?_
    obtain ⟨m', S2, ns, d, S3, D, kvs, rfl, hD, hk, e, st', fin⟩ := q
    replace e : (if Nat.blt (dedI ns).length 64 then mkL cell ((sortI (dedI ns)).map fun i => .dat (.int i)) S2 else none) = some (d, S3) := e
    split at e
    · rename_i h64
      refine ⟨D, kvs, dedI ns, rfl, .inl hD, hk, by simpa [Nat.blt_eq] using h64, fun ys p hp ho hn => ?_⟩
      rw [sortI_one hp ho]
      have r : RDs c.K m' S2 H' ((sortI (dedI ns)).map V.int) ((sortI (dedI ns)).map fun i => .dat (.int i)) := scr_ok _
      obtain ⟨m2, s2, n2, q2⟩ := mkL_ok st' hn r e
      exact fin _ _ s2 n2 _ q2
    · cases e
  | len =>
    refine peI (pe_callB call_lenD (gl_ok hg) (g.blt _ (blt_in .len)) (blt_boot .len) (pa_cons dc pa_nil rfl) (blt_nn .len) (blt_nd .len) (star_plain rfl) (back_plain rfl)) fun σ H Q h => ?_
    unfold tCB tCons tNil
    refine main h fun v H' q => ?_
    obtain ⟨m', S2, ns, d, S3, D, kvs, rfl, hD, hk, e, st', fin⟩ := q
    cases e
    have hl : kvs.length = (dedI ns).length := by
      have z := congrArg List.length hk
      simpa using z
    refine ⟨D, kvs, rfl, hD, ?_⟩
    rw [hl]
    exact fin m' H' st' .refl _ (.int _)
theorem rowsOf_vs {L : Addr → Prop} {K : PySem.W.Frag} {H : Hp} : ∀ {ps : List PyData} {vs : List V} {ks : List (List Int)}, Rps K H L vs ps → MP.rowsOf ps = some ks →
    ∃ kk : List (Addr × List Int), vs = kk.map (fun p => V.ref p.1) ∧ kk.map (·.2) = ks ∧ ∀ p ∈ kk, SqT K H p.1 (p.2.map V.int)
  | [], _, _, h, e => by
    cases h
    cases e
    exact ⟨[], rfl, rfl, fun p hp => nomatch hp⟩
  | p :: r, _, ks, h, e => by
    cases h with
    | cons h1 h2 =>
      cases p with
      | tuple l =>
        unfold MP.rowsOf at e
        split at e
        · rename_i a b ea eb
          cases e
          obtain ⟨kk, z1, z2, z3⟩ := rowsOf_vs h2 eb
          cases h1 with
          | tup g1 g2 =>
            rename_i ad us
            have eu := intsOf_vs g2 ea
            subst eu
            refine ⟨(ad, a) :: kk, by rw [z1]; rfl, by rw [List.map_cons, z2], fun p hp => ?_⟩
            rcases List.mem_cons.mp hp with q | q
            · subst q
              exact g1
            · exact z3 p q
        · cases e
      | _ => cases e
theorem sset_ok {W : WX} {X : Cx} (g : Good c W X Φ G T) {q : KQ} {x : Expr} {fa : SE} {p p2 q1 q2 : Pos} (hg : glB X.env.scope (kqNm q) = true) (hg2 : glB X.env.scope ("set" : PySem.Str) = true) (hn : nonStar x = true) (ha : PE X x (rdE c W fa)) :
    PE X (.Call (.Name (kqNm q) p) [.Call (.Name ("set" : PySem.Str) p2) [x] [] q1] [] q2) (rdE c W fun ev S => (fa ev S).bind fun y S1 => Res.ofP (ssetV q y S1)) := by
  cases q with
  | srt cell =>
    have inner := pe_callTy (pos := q1) (p := p2) (cr_setI g.calm) (gl_ok hg2) (g.blt _ (by decide +kernel)) boot_set (pa_cons ha pa_nil (star_plain hn)) (by decide) (by decide) (star_plain hn) (back_plain rfl)
    refine peI (pe_callB (cr_sortedSet g.calm) (gl_ok hg) (g.blt _ (blt_in (.sorted cell))) (blt_boot (.sorted cell)) (pa_cons inner pa_nil rfl) (blt_nn (.sorted cell)) (blt_nd (.sorted cell)) (star_plain rfl) (back_plain rfl)) fun σ H Q h => ?_
    unfold tCB tCons tNil
    obtain ⟨m, S, ev, st, eo, h⟩ := h
    refine ⟨m, S, ev, st, eo, (Lft.bind h).mono fun d m1 S1 H1 st1 n1 h1 v r => ?_⟩
    obtain ⟨d2, S2, e, fin⟩ := Lft.ofP h1
    cases d with
    | ref n => cases e
    | scr l => cases e
    | dat pd =>
      cases pd with
      | list ps =>
        cases r with
        | lst ha2 hnl hrs =>
          rename_i a vs
          replace e : ((intsOf ps).bind fun ns => if Nat.blt ns.length 64 then mkL cell ((sortI (dedI ns)).map fun i => .dat (.int i)) S1 else none) = some (d2, S2) := e
          cases hi : intsOf ps with
          | none => rw [hi] at e; cases e
          | some ns =>
            rw [hi, Option.bind_some] at e
            split at e
            · rename_i h64
              have ev2 := intsOf_vs hrs hi
              subst ev2
              refine ⟨a, ns, rfl, by rw [g.hK]; exact SqL.of ha2, by simpa [Nat.blt_eq] using h64, fun b n hb hn64 => ?_⟩
              have st2 := st1.new (o := SetO X.w b (fun k => decide (k ∈ ns)) n) hb
              have nx2 : Nxt m1 S1 H1 m1 S1 (upd H1 b (SetO X.w b (fun k => decide (k ∈ ns)) n)) := nxt_plain hb
              refine ⟨b, _, n, rfl, if_pos rfl, hn64, fun ys p hp hm hl hpn => ?_⟩
              have pm := dedI_perm hp (ns := ns) (fun k => (hm k).trans decide_eq_true_iff)
              rw [sortI_one pm (hp.imp fun h => Int.le_of_lt h)]
              have rr : RDs c.K m1 S1 (upd H1 b (SetO X.w b (fun k => decide (k ∈ ns)) n)) ((sortI (dedI ns)).map V.int) ((sortI (dedI ns)).map fun i => .dat (.int i)) := scr_ok _
              obtain ⟨m2, s2, n2, q2⟩ := mkL_ok st2 hpn rr e
              exact fin m2 _ s2 (nx2.trans n2) _ q2
            · cases e
      | _ => cases e
  | len =>
    have hu := g.hu
    have inner := pe_callTy (pos := q1) (p := p2) (cr_setOfT g.calm (by omega)) (gl_ok hg2) (g.blt _ (by decide +kernel)) boot_set (pa_cons ha pa_nil (star_plain hn)) (by decide) (by decide) (star_plain hn) (back_plain rfl)
    refine peI (pe_callB cr_lenT (gl_ok hg) (g.blt _ (blt_in .len)) (blt_boot .len) (pa_cons inner pa_nil rfl) (blt_nn .len) (blt_nd .len) (star_plain rfl) (back_plain rfl)) fun σ H Q h => ?_
    unfold tCB tCons tNil
    obtain ⟨m, S, ev, st, eo, h⟩ := h
    refine ⟨m, S, ev, st, eo, (Lft.bind h).mono fun d m1 S1 H1 st1 n1 h1 v r => ?_⟩
    obtain ⟨d2, S2, e, fin⟩ := Lft.ofP h1
    cases d with
    | ref n => cases e
    | scr l => cases e
    | dat pd =>
      cases pd with
      | list ps =>
        cases r with
        | lst ha2 hnl hrs =>
          rename_i a vs
          replace e : ((MP.rowsOf ps).bind fun ks => if Nat.blt ks.length 64 then pin (.int ((dedR ks).length : Nat)) S1 else none) = some (d2, S2) := e
          cases hi : MP.rowsOf ps with
          | none => rw [hi] at e; cases e
          | some ks =>
            rw [hi, Option.bind_some] at e
            split at e
            · rename_i h64
              cases e
              obtain ⟨kk, z1, z2, z3⟩ := rowsOf_vs hrs hi
              subst z1
              have hlen : kk.length = ks.length := by rw [← z2, List.length_map]
              refine ⟨a, kk, rfl, by rw [g.hK]; exact SqL.of ha2, by rw [g.hK]; exact z3, by rw [hlen]; simpa [Nat.blt_eq] using h64, fun b L hb hsub hall => ?_⟩
              have st2 := st1.new (o := SetTO X.prog X.w b L) hb
              have nx2 : Nxt m1 S1 H1 m1 S1 (upd H1 b (SetTO X.prog X.w b L)) := nxt_plain hb
              refine ⟨b, L, rfl, if_pos rfl, fun p hp => by rw [g.hK]; exact sqT_nxt st1 nx2.toNx0 (z3 p (hsub p hp)), fun nd => ?_⟩
              have hm : ∀ v, v ∈ L.map (·.2) ↔ v ∈ ks := fun v => by
                rw [← z2]
                constructor
                · intro hv
                  obtain ⟨p, hp, rfl⟩ := List.mem_map.mp hv
                  exact List.mem_map_of_mem (hsub p hp)
                · intro hv
                  obtain ⟨p, hp, rfl⟩ := List.mem_map.mp hv
                  exact hall p hp
              rw [len_dedR nd hm]
              exact fin m1 _ st2 nx2 _ (.int _)
            · cases e
      | _ => cases e
theorem okE_of {W : WX} {X : Cx} {e : Expr} {f : SE} (g : Good c W X Φ G T) (k : CE) (hk : plainT e = true) (h : PE X e (rdE c W f)) : PE X e (rdE c W f) ∧ (ckT k = true → PT X e (rdT c W fun ev S => truthR (f ev S))) :=
  ⟨h, fun _ => truth_test g.hK hk h⟩
def P1 (c : Cfg) (Φ : List Fn) (G : List PyData) (T : Tb) (ce : CE) : Prop := ∀ (W : WX) (X : Cx) (e : Expr), Good c W X Φ G T → ckE T X.N Φ.length ce e X.env.scope = true → PE X e (rdE c W (evE Φ G ce)) ∧ (ckT ce = true → PT X e (rdT c W fun ev S => truthR (evE Φ G ce ev S)))
def PB (c : Cfg) (Φ : List Fn) (G : List PyData) (T : Tb) (es : CL) : Prop := ∀ (W : WX) (X : Cx) (xs : List Expr), Good c W X Φ G T → ckB T X.N Φ.length es xs X.env.scope = true →
    (∀ p, PE X (.BoolOp .And xs p) (rdE c W (evAnd Φ G es)) ∧ PW X (.BoolOp .And xs p) (rdT c W fun ev S => truthR (evAnd Φ G es ev S))) ∧
    (∀ p, PE X (.BoolOp .Or xs p) (rdE c W (evOr Φ G es)) ∧ PW X (.BoolOp .Or xs p) (rdT c W fun ev S => truthR (evOr Φ G es ev S)))
def PL (c : Cfg) (Φ : List Fn) (G : List PyData) (T : Tb) (es : CL) : Prop := ∀ (W : WX) (X : Cx) (xs : List Expr), Good c W X Φ G T → ckL T X.N Φ.length es xs X.env.scope = true → PA X xs (rdA c W (evL Φ G es))
def PTS (c : Cfg) (Φ : List Fn) (G : List PyData) (T : Tb) (es : CL) : Prop := ∀ (W : WX) (X : Cx) (xs : List Expr), Good c W X Φ G T → ckS T X.N Φ.length es xs X.env.scope = true → PTs X xs (rdT c W (evTs Φ G es))
def PST (c : Cfg) (Φ : List Fn) (G : List PyData) (T : Tb) (es : CL) : Prop := ∀ (W : WX) (X : Cx) (y : Expr) (p2 : Pos), Good c W X Φ G T → ckL T X.N Φ.length es [.Starred y p2] X.env.scope = true → ∃ fy : SE, PE X y (rdE c W fy) ∧ ∀ ev S, evL Φ G es ev S = (fy ev S).bind fun d S1 => match getSeq S1 d with
      | some l => .ok (l ++ []) S1
      | none => .fail
def P2 (c : Cfg) (Φ : List Fn) (G : List PyData) (T : Tb) (es : CL) : Prop := PB c Φ G T es ∧ PL c Φ G T es ∧ PTS c Φ G T es ∧ PST c Φ G T es
def P3 (c : Cfg) (Φ : List Fn) (G : List PyData) (T : Tb) (o : CO) : Prop := ∀ (W : WX) (X : Cx) (x : Option Expr), Good c W X Φ G T → ckO T X.N Φ.length o x X.env.scope = true → PO X x (rdO c W (evO Φ G o))
def P4 (c : Cfg) (Φ : List Fn) (G : List PyData) (T : Tb) (it : CI) : Prop := ∀ (W : WX) (X : Cx) (x t : Expr), Good c W X Φ G T → ckI T X.N Φ.length it x X.env.scope = true → ckG it t = true → PI X t x (rdI c W (evI Φ G it))
theorem c_var : P1 c Φ G T (.var i) := by
  intro W X e g h
  cases e with
  | Name x p =>
    simp only [ckE, Bool.and_eq_true, decide_eq_true_eq] at h
    exact okE_of g _ rfl (var_ok h.1.1 h.1.2 h.2)
  | _ => simp [ckE] at h
theorem c_lit : P1 c Φ G T (.lit p) := by
  intro W X e g h
  have h : litB p e = true := h
  refine okE_of g _ ?_ (lit_ok h)
  cases e <;> first | rfl | (cases p <;> cases h)
theorem c_gv : P1 c Φ G T (.gv k) := by
  intro W X e g h
  cases e with
  | Name x p =>
    simp only [ckE, Bool.and_eq_true, decide_eq_true_eq] at h
    refine okE_of g _ rfl ?_
    cases hk : G[k]? with
    | none =>
      refine ⟨fun pins s σ H Q I q => ?_⟩
      obtain ⟨m, S, ev, st, eo, q⟩ := q
      simp only [evE, hk] at q
      exact q.elim
    | some q =>
      obtain ⟨u, v, hm, r, hv⟩ := g.cst k q x hk h.1.1
      refine peI (pe_glob (gl_ok h.1.2) hm r (name_ok h.2).1) fun σ H Q z => ?_
      exact rd_ok (d := .dat q) z (fun ev S => by simp only [evE, hk]) fun m S => hv _ _
  | _ => simp [ckE] at h
theorem c_bin (h_a : P1 c Φ G T a) (h_b : P1 c Φ G T b) : P1 c Φ G T (.bin op a b) := by
  intro W X e g h
  cases e with
  | BinOp x o y p =>
    simp only [ckE, Bool.and_eq_true] at h
    obtain ⟨⟨h1, h2⟩, h3⟩ := h
    rw [isOp_eq h1]
    exact okE_of g _ rfl (bin_ok g.hK op (h_a _ _ _ g h2).1 (h_b _ _ _ g h3).1)
  | _ => simp [ckE] at h
theorem c_neg (h_a : P1 c Φ G T a) : P1 c Φ G T (.neg a) := by
  intro W X e g h
  cases e with
  | UnaryOp o x p =>
    cases o with
    | USub => exact okE_of g _ rfl (neg_ok (h_a _ _ _ g h).1)
    | _ => simp [ckE] at h
  | _ => simp [ckE] at h
theorem c_not (h_a : P1 c Φ G T a) : P1 c Φ G T (.not a) := by
  intro W X e g h
  cases e with
  | UnaryOp o x p =>
    cases o with
    | Not =>
      simp only [ckE, Bool.and_eq_true] at h
      obtain ⟨i1, i2⟩ := h_a _ _ _ g h.1
      exact ⟨not_ok g.hK i1, fun _ => notT_ok (i2 h.2)⟩
    | _ => simp [ckE] at h
  | _ => simp [ckE] at h
theorem c_and (h_es : P2 c Φ G T es) : P1 c Φ G T (.and es) := by
  intro W X e g h
  cases e with
  | BoolOp o xs p =>
    cases o with
    | And =>
      obtain ⟨i1, i2⟩ := h_es.1 _ _ xs g h
      exact ⟨(i1 p).1, fun _ => ((i1 p).2).pt⟩
    | _ => simp [ckE] at h
  | _ => simp [ckE] at h
theorem c_or (h_es : P2 c Φ G T es) : P1 c Φ G T (.or es) := by
  intro W X e g h
  cases e with
  | BoolOp o xs p =>
    cases o with
    | Or =>
      obtain ⟨i1, i2⟩ := h_es.1 _ _ xs g h
      exact ⟨(i2 p).1, fun _ => ((i2 p).2).pt⟩
    | _ => simp [ckE] at h
  | _ => simp [ckE] at h
theorem c_cmp {op : COp} (h_a : P1 c Φ G T a) (h_b : P1 c Φ G T b) : P1 c Φ G T (.cmp op a b) := by
  intro W X e g h
  cases e with
  | Compare x os ys p =>
    match os, ys, h with
    | [o], [y], h =>
      simp only [ckE, Bool.and_eq_true] at h
      obtain ⟨⟨⟨h1, h2⟩, h3⟩, h4⟩ := h
      rw [isCop_eq h1]
      exact ⟨cmp_ok g op h2 (h_a _ _ _ g h3).1 (h_b _ _ _ g h4).1, fun _ => cmpT_ok g op h2 (h_a _ _ _ g h3).1 (h_b _ _ _ g h4).1⟩
    | [], _, h => simp [ckE] at h
    | _ :: _ :: _, _, h => simp [ckE] at h
    | [_], [], h => simp [ckE] at h
    | [_], _ :: _ :: _, h => simp [ckE] at h
  | _ => simp [ckE] at h
theorem c_rcmp {neg : Bool} (h_a : P1 c Φ G T a) (h_b : P1 c Φ G T b) : P1 c Φ G T (.rcmp neg a b) := by
  intro W X e g h
  cases e with
  | Compare x os ys p =>
    match os, ys, h with
    | [o], [y], h =>
      simp only [ckE, Bool.and_eq_true] at h
      obtain ⟨h1, h2⟩ := h
      split at h2
      case h_2 => cases h2
      case h_1 f x1 gg y1 e1 e2 =>
        obtain ⟨p1, p2, rfl⟩ := asRepr_eq e1
        obtain ⟨p3, p4, rfl⟩ := asRepr_eq e2
        simp only [Bool.and_eq_true, decide_eq_true_eq] at h2
        obtain ⟨⟨⟨⟨⟨⟨rfl, rfl⟩, h3⟩, h4⟩, h5⟩, h6⟩, h7⟩ := h2
        rw [isCop_eq h1]
        exact ⟨rcmp_ok g h3 h4 h5 (h_a _ _ _ g h6).1 (h_b _ _ _ g h7).1, fun _ => rcmpT_ok g h3 h4 h5 (h_a _ _ _ g h6).1 (h_b _ _ _ g h7).1⟩
    | [], _, h => simp [ckE] at h
    | _ :: _ :: _, _, h => simp [ckE] at h
    | [_], [], h => simp [ckE] at h
    | [_], _ :: _ :: _, h => simp [ckE] at h
  | _ => simp [ckE] at h
theorem c_chain {op op2 : COp} (h_a : P1 c Φ G T a) (h_b : P1 c Φ G T b) (h_z : P1 c Φ G T z) : P1 c Φ G T (.chain op op2 a b z) := by
  intro W X e g h
  cases e with
  | Compare x os ys p =>
    match os, ys, h with
    | [o, o2], [y, w], h =>
      simp only [ckE, Bool.and_eq_true] at h
      obtain ⟨⟨⟨⟨⟨h1, h2⟩, h3⟩, h4⟩, h5⟩, h6⟩ := h
      rw [isCop_eq h1, isCop_eq h2]
      exact ⟨chain_ok g op op2 h3 (h_a _ _ _ g h4).1 (h_b _ _ _ g h5).1 (h_z _ _ _ g h6).1, fun _ => chainT_ok g op op2 h3 (h_a _ _ _ g h4).1 (h_b _ _ _ g h5).1 (h_z _ _ _ g h6).1⟩
    | [], _, h => simp [ckE] at h
    | [_], _, h => simp [ckE] at h
    | _ :: _ :: _ :: _, _, h => simp [ckE] at h
    | [_, _], [], h => simp [ckE] at h
    | [_, _], [_], h => simp [ckE] at h
    | [_, _], _ :: _ :: _ :: _, h => simp [ckE] at h
  | _ => simp [ckE] at h
theorem c_ite (h_t : P1 c Φ G T t) (h_a : P1 c Φ G T a) (h_b : P1 c Φ G T b) : P1 c Φ G T (.ite t a b) := by
  intro W X e g h
  cases e with
  | IfExp u x y p =>
    simp only [ckE, Bool.and_eq_true] at h
    obtain ⟨⟨⟨h1, h2⟩, h3⟩, h4⟩ := h
    obtain ⟨i1, i2⟩ := h_t _ _ _ g h1
    obtain ⟨j1, j2⟩ := h_a _ _ _ g h3
    obtain ⟨k1, k2⟩ := h_b _ _ _ g h4
    refine ⟨ite_ok (i2 h2) j1 k1, fun q => ?_⟩
    have q : (ckT a && ckT b) = true := q
    simp only [Bool.and_eq_true] at q
    refine iteT_ok (i2 h2) (j2 q.1) (k2 q.2) fun ev S => ?_
    show truthR ((truthR (evE Φ G t ev S)).bind _) = _
    cases truthR (evE Φ G t ev S) with
    | ok k S1 => cases k <;> rfl
    | exc e S1 => rfl
    | fail => rfl
  | _ => simp [ckE] at h
theorem c_call (h_es : P2 c Φ G T es) : P1 c Φ G T (.call f es) := by
  intro W X e g h
  unfold ckE at h
  split at h
  case h_2 => cases h
  case h_1 x p xs pos heq =>
    rw [asCall_eq heq]
    simp only [Bool.and_eq_true, decide_eq_true_eq, Nat.blt_eq] at h
    obtain ⟨⟨⟨⟨⟨h1, h2⟩, h3⟩, h4⟩, h5⟩, h6⟩ := h
    refine okE_of g _ rfl (call_ok g h1 h2 h4 h5 (h_es.2.1 _ _ _ g h6) (fun hx => ?_) (fun y p2 hx => ?_) h3)
    · subst hx
      cases es with
      | nil => exact fun _ _ => rfl
      | cons _ _ => simp [ckL] at h6
      | star _ _ => simp [ckL] at h6
    · subst hx
      exact h_es.2.2.2 _ _ _ _ g h6
theorem c_blt {f : Blt} (h_es : P2 c Φ G T es) : P1 c Φ G T (.blt f es) := by
  intro W X e g h
  unfold ckE at h
  split at h
  case h_2 => cases h
  case h_1 x p xs pos heq =>
    rw [asCall_eq heq]
    simp only [Bool.and_eq_true, decide_eq_true_eq] at h
    obtain ⟨⟨⟨⟨h1, h2⟩, h3⟩, h4⟩, h5⟩ := h
    cases xs with
    | nil => cases h3
    | cons y ys =>
      simp only [List.all_cons, Bool.and_eq_true] at h4
      exact okE_of g _ rfl (blt_ok g h1 h2 (h_es.2.1 _ _ _ g h5) h4.1 h4.2)
theorem c_meth (h_o : P1 c Φ G T o) (h_es : P2 c Φ G T es) : P1 c Φ G T (.meth m o es) := by
  intro W X e g h
  unfold ckE at h
  split at h
  case h_2 => cases h
  case h_1 x n p xs q heq =>
    rw [asMeth_eq heq]
    simp only [Bool.and_eq_true, decide_eq_true_eq, Nat.blt_eq] at h
    obtain ⟨⟨⟨⟨⟨⟨h1, h2⟩, h3⟩, h4⟩, h5⟩, h6⟩, h7⟩ := h
    subst h1
    refine okE_of g _ rfl (meth_ok g m h2 h3 (h_o _ _ _ g h4).1 h5 h6 (h_es.2.1 _ _ _ g h7) fun hx => ?_)
    subst hx
    cases es with
    | nil => exact fun _ _ => rfl
    | cons _ _ => simp [ckL] at h7
    | star _ _ => simp [ckL] at h7
theorem c_idx (h_a : P1 c Φ G T a) (h_b : P1 c Φ G T b) : P1 c Φ G T (.idx a b) := by
  intro W X e g h
  cases e with
  | Subscript x y p =>
    simp only [ckE, Bool.and_eq_true] at h
    exact okE_of g _ rfl (idx_ok g.hK h.1.1 (h_a _ _ _ g h.1.2).1 (h_b _ _ _ g h.2).1)
  | _ => simp [ckE] at h
theorem c_sl (h_a : P1 c Φ G T a) (h_lo : P3 c Φ G T lo) (h_hi : P3 c Φ G T hi) : P1 c Φ G T (.sl a lo hi) := by
  intro W X e g h
  unfold ckE at h
  split at h
  case h_2 => cases h
  case h_1 x l u p2 p heq =>
    rw [asSl_eq heq]
    simp only [Bool.and_eq_true] at h
    exact okE_of g _ rfl (sl_ok g.hK (h_a _ _ _ g h.1.1).1 (h_lo _ _ _ g h.1.2) (h_hi _ _ _ g h.2))
theorem c_tup (h_es : P2 c Φ G T es) : P1 c Φ G T (.tup es) := by
  intro W X e g h
  cases e with
  | Tuple xs k p => exact okE_of g _ rfl (tup_ok (h_es.2.1 _ _ _ g h))
  | _ => simp [ckE] at h
theorem c_lst (h_es : P2 c Φ G T es) : P1 c Φ G T (.lst cell es) := by
  intro W X e g h
  cases e with
  | List xs p => exact okE_of g _ rfl (lst_ok (h_es.2.1 _ _ _ g h))
  | _ => simp [ckE] at h
theorem c_comp (h_elt : P1 c Φ G T elt) (h_it : P4 c Φ G T it) (h_ifs : P2 c Φ G T ifs) : P1 c Φ G T (.comp cell elt tg it ifs own) := by
  intro W X e g h
  unfold ckE at h
  split at h
  case h_2 => cases h
  case h_1 x t iter conds scope pos heq =>
    rw [asComp_eq heq]
    split at h
    · rename_i ow how
      simp only [Bool.and_eq_true] at h
      obtain ⟨⟨⟨⟨⟨⟨⟨h1, h2⟩, h3⟩, h4⟩, h5⟩, h6⟩, h7⟩, h8⟩ := h
      refine okE_of g _ rfl (comp_ok g how h1 h2 h3 (h_it _ _ _ _ g h4 h5) h6 (fun X' g' hN hs => ?_) (fun X' g' hN hs => ?_))
      · refine h_ifs.2.2.1 _ _ _ g' ?_
        rw [hN, hs]
        exact h7
      · refine (h_elt _ _ _ g' ?_).1
        rw [hN, hs]
        exact h8
    · cases h
theorem c_kset (h_elt : P1 c Φ G T elt) (h_it : P4 c Φ G T it) (h_ifs : P2 c Φ G T ifs) : P1 c Φ G T (.kset q elt tg it ifs own) := by
  intro W X e g h
  unfold ckE at h
  split at h
  case h_2 => cases h
  case h_1 f x t iter conds scope heq =>
    obtain ⟨p, b, q1, q2, q3, q4, rfl⟩ := asKset_eq heq
    split at h
    · rename_i ow how
      simp only [Bool.and_eq_true, decide_eq_true_eq] at h
      obtain ⟨⟨⟨⟨⟨⟨⟨⟨⟨h0, hg⟩, h1⟩, h2⟩, h3⟩, h4⟩, h5⟩, h6⟩, h7⟩, h8⟩ := h
      subst h0
      refine okE_of g _ rfl (kset_ok g hg how h1 h2 h3 (h_it _ _ _ _ g h4 h5) h6 (fun X' g' hN hs => ?_) (fun X' g' hN hs => ?_))
      · refine h_ifs.2.2.1 _ _ _ g' ?_
        rw [hN, hs]
        exact h7
      · refine (h_elt _ _ _ g' ?_).1
        rw [hN, hs]
        exact h8
    · cases h
theorem c_sset (h_a : P1 c Φ G T a) : P1 c Φ G T (.sset q a) := by
  intro W X e g h
  unfold ckE at h
  split at h
  case h_2 => cases h
  case h_1 f g2 x heq =>
    obtain ⟨p, p2, q1, q2, rfl⟩ := asSset_eq heq
    simp only [Bool.and_eq_true, decide_eq_true_eq] at h
    obtain ⟨⟨⟨⟨⟨h0, h1⟩, h2⟩, h3⟩, h4⟩, h5⟩ := h
    subst h0
    subst h1
    exact okE_of g _ rfl (sset_ok g h2 h3 h4 (h_a _ _ _ g h5).1)
theorem c_frz (h_a : P1 c Φ G T a) : P1 c Φ G T (.frz a) := by
  intro W X e g h
  exact ⟨frz_pe (h_a _ _ _ g h).1, fun z => by cases z⟩
theorem c_isi (h_a : P1 c Φ G T a) : P1 c Φ G T (.isi ty a) := by
  intro W X e g h
  unfold ckE at h
  split at h
  case h_2 => cases h
  case h_1 f p xs pos heq =>
  split at h
  case h_2 => cases h
  case h_1 x y heq2 =>
  split at h
  case h_2 => cases h
  case h_1 t p2 heq3 =>
    rw [asCall_eq heq, as2_eq heq2, asNm_eq heq3]
    simp only [Bool.and_eq_true, decide_eq_true_eq] at h
    obtain ⟨⟨⟨⟨⟨h1, h2⟩, h3⟩, h4⟩, h5⟩, h6⟩ := h
    subst h1 h3
    exact okE_of g _ rfl (isi_ok g ty h2 h4 h5 (h_a _ _ _ g h6).1)
theorem c_nil : P2 c Φ G T .nil := by
  refine ⟨fun W X xs g h => by simp [ckB] at h, fun W X xs g h => ?_, fun W X xs g h => ?_, fun W X y p2 g h => by simp [ckL] at h⟩
  · cases xs with
    | nil => exact pa_nilM
    | cons _ _ => simp [ckL] at h
  · cases xs with
    | nil =>
      refine ptsI pts_nil fun σ H Q h => ?_
      obtain ⟨m, S, ev, st, eo, h⟩ := h
      exact h m H st .refl
    | cons _ _ => simp [ckS] at h
theorem c_cons (h_a : P1 c Φ G T a) (h_r : P2 c Φ G T r) : P2 c Φ G T (.cons a r) := by
  refine ⟨fun W X xs g h => ?_, fun W X xs g h => ?_, fun W X xs g h => ?_, fun W X y p2 g h => by simp [ckL, nonStar] at h⟩
  · cases r with
    | nil =>
      cases xs with
      | nil => simp [ckB] at h
      | cons x xs =>
        cases xs with
        | nil =>
          simp only [ckB, Bool.and_eq_true] at h
          obtain ⟨i1, i2⟩ := h_a _ _ _ g h.1
          exact ⟨fun p => ⟨pe_one i1, pw_and1 (i2 h.2)⟩, fun p => ⟨pe_one i1, pw_or1 (i2 h.2)⟩⟩
        | cons _ _ => simp [ckB] at h
    | star b r => cases xs <;> simp [ckB] at h
    | cons b r =>
      cases xs with
      | nil => simp [ckB] at h
      | cons x xs =>
        cases xs with
        | nil => simp [ckB] at h
        | cons y ys =>
          have h : (ckE T X.N Φ.length a x X.env.scope && ckT a && ckB T X.N Φ.length (.cons b r) (y :: ys) X.env.scope) = true := h
          simp only [Bool.and_eq_true] at h
          obtain ⟨i1, i2⟩ := h_a _ _ _ g h.1.1
          obtain ⟨j1, j2⟩ := h_r.1 _ _ _ g h.2
          exact ⟨fun p => ⟨and_ok g.hK i1 (j1 p).1, andT_ok (i2 h.1.2) (j1 p).2⟩, fun p => ⟨or_ok g.hK i1 (j2 p).1, orT_ok (i2 h.1.2) (j2 p).2⟩⟩
  · cases xs with
    | nil => simp [ckL] at h
    | cons x xs =>
      simp only [ckL, Bool.and_eq_true] at h
      exact pa_consM h.1.1 (h_a _ _ _ g h.1.2).1 (h_r.2.1 _ _ _ g h.2)
  · cases r with
    | nil =>
      cases xs with
      | nil => simp [ckS] at h
      | cons x xs =>
        cases xs with
        | nil =>
          simp only [ckS, Bool.and_eq_true] at h
          exact pts_one ((h_a _ _ _ g h.1).2 h.2)
        | cons _ _ => simp [ckS] at h
    | star b r => cases xs <;> simp [ckS] at h
    | cons b r => cases xs <;> simp [ckS] at h
theorem c_star (h_a : P1 c Φ G T a) (h_r : P2 c Φ G T r) : P2 c Φ G T (.star a r) := by
  refine ⟨fun W X xs g h => by simp [ckB] at h, fun W X xs g h => ?_, fun W X xs g h => by simp [ckS] at h, fun W X y p2 g h => ?_⟩
  · cases xs with
    | nil => simp [ckL] at h
    | cons x xs =>
      cases x with
      | Starred x p =>
        simp only [ckL, Bool.and_eq_true] at h
        exact pa_starM g.hK (h_a _ _ _ g h.1).1 (h_r.2.1 _ _ _ g h.2)
      | _ => simp [ckL] at h
  · simp only [ckL, Bool.and_eq_true] at h
    cases r with
    | nil => exact ⟨evE Φ G a, (h_a _ _ _ g h.1).1, fun ev S => rfl⟩
    | cons _ _ => simp [ckL] at h
    | star _ _ => simp [ckL] at h
theorem o_none : P3 c Φ G T (.none) := by
  intro W X x g h
  cases x with
  | none => exact part_none
  | some _ => simp [ckO] at h
theorem o_some (h_a : P1 c Φ G T a) : P3 c Φ G T (.some a) := by
  intro W X x g h
  cases x with
  | none => simp [ckO] at h
  | some x =>
    simp only [ckO] at h
    exact part_some (h_a _ _ _ g h).1
theorem i_one (h_a : P1 c Φ G T a) : P4 c Φ G T (.one a) := by
  intro W X x t g h ht
  exact pi_oneM g.hK (h_a _ _ _ g h).1
theorem i_rng1 (h_a : P1 c Φ G T a) : P4 c Φ G T (.rng1 a) := by
  intro W X x t g h ht
  unfold ckI at h
  split at h
  case h_2 => cases h
  case h_1 f p xs pos heq =>
  split at h
  case h_2 => cases h
  case h_1 y heq2 =>
    rw [asCall_eq heq, as1_eq heq2]
    simp only [Bool.and_eq_true, decide_eq_true_eq] at h
    obtain ⟨⟨⟨h1, h2⟩, h3⟩, h4⟩ := h
    subst h1
    exact pi_rng1M g.hK (gl_ok h2) (g.blt _ (by decide +kernel)) (h_a _ _ _ g h4).1 (star_plain h3)
theorem i_rng2 (h_a : P1 c Φ G T a) (h_b : P1 c Φ G T b) : P4 c Φ G T (.rng2 a b) := by
  intro W X x t g h ht
  unfold ckI at h
  split at h
  case h_2 => cases h
  case h_1 f p xs pos heq =>
  split at h
  case h_2 => cases h
  case h_1 y z heq2 =>
    rw [asCall_eq heq, as2_eq heq2]
    simp only [Bool.and_eq_true, decide_eq_true_eq] at h
    obtain ⟨⟨⟨⟨⟨h1, h2⟩, h3⟩, h4⟩, h5⟩, h6⟩ := h
    subst h1
    exact pi_rng2M g.hK (gl_ok h2) (g.blt _ (by decide +kernel)) (h_a _ _ _ g h5).1 (h_b _ _ _ g h6).1 (star_plain h3) (star_plain h4)
theorem i_enum (h_a : P1 c Φ G T a) : P4 c Φ G T (.enum a) := by
  intro W X x t g h ht
  unfold ckI at h
  split at h
  case h_2 => cases h
  case h_1 f p xs pos heq =>
  split at h
  case h_2 => cases h
  case h_1 y heq2 =>
    rw [asCall_eq heq, as1_eq heq2]
    simp only [Bool.and_eq_true, decide_eq_true_eq] at h
    obtain ⟨⟨⟨h1, h2⟩, h3⟩, h4⟩ := h
    subst h1
    cases t with
    | Tuple es k p => exact pi_enumM g.hK (gl_ok h2) (g.blt _ (by decide +kernel)) (h_a _ _ _ g h4).1 (star_plain h3)
    | _ => cases ht
theorem i_zip2 (h_a : P1 c Φ G T a) (h_b : P1 c Φ G T b) : P4 c Φ G T (.zip2 a b) := by
  intro W X x t g h ht
  unfold ckI at h
  split at h
  case h_2 => cases h
  case h_1 f p xs pos heq =>
  split at h
  case h_2 => cases h
  case h_1 y z heq2 =>
    rw [asCall_eq heq, as2_eq heq2]
    simp only [Bool.and_eq_true, decide_eq_true_eq] at h
    obtain ⟨⟨⟨⟨⟨h1, h2⟩, h3⟩, h4⟩, h5⟩, h6⟩ := h
    subst h1
    cases t with
    | Tuple es k p => exact pi_zipM g.hK (gl_ok h2) (g.blt _ (by decide +kernel)) (h_a _ _ _ g h5).1 (h_b _ _ _ g h6).1 (star_plain h3) (star_plain h4)
    | _ => cases ht
theorem all1 (ce : CE) : P1 c Φ G T ce :=
  CE.rec (motive_1 := P1 c Φ G T) (motive_2 := P2 c Φ G T) (motive_3 := P3 c Φ G T) (motive_4 := P4 c Φ G T)
    (fun _ => c_var) (fun _ => c_lit) (fun _ => c_gv) (fun _ _ _ => c_bin) (fun _ => c_neg) (fun _ => c_not) (fun _ => c_and) (fun _ => c_or) (fun _ _ _ => c_cmp) (fun _ _ _ => c_rcmp) (fun _ _ _ _ _ => c_chain) (fun _ _ _ => c_ite) (fun _ _ => c_call) (fun _ _ => c_blt) (fun _ _ _ => c_meth) (fun _ _ => c_idx)
    (fun _ _ _ => c_sl) (fun _ => c_tup) (fun _ _ => c_lst) (fun _ _ _ _ _ _ h1 h2 h3 => c_comp h1 h2 h3) (fun _ _ _ _ _ _ h1 h2 h3 => c_kset h1 h2 h3) (fun _ _ => c_sset) (fun _ => c_frz) (fun _ _ => c_isi) c_nil (fun _ _ => c_cons) (fun _ _ => c_star) o_none (fun _ => o_some) (fun _ => i_one) (fun _ => i_rng1) (fun _ _ => i_rng2) (fun _ => i_enum) (fun _ _ => i_zip2) ce
end
end MP
end
section
/-! MiniPy: statements. -/
namespace MP
open PySem PySem.Spec PyProof.Rows L2
def notStar : Expr → Bool
  | .Starred .. => true
  | _ => false
def swapNames (rs : Scope) (ts : List Expr) : List PySem.Str := ts.filterMap fun
  | .Name id pos => if rs.names.lookup id == some .local && pos.line == (ts.head?.map (·.pos.line)).getD 0 then some id else none
  | _ => none
/-- what is stored name by name, as the compiler does it -/
def swapR (rs : Scope) (ts vs : List Expr) : Option (Option (List PySem.Str)) :=
  if (!(ts.length == 2 || ts.length == 3) || vs.length != ts.length) = true then some none
  else if (vs.any fun | .Starred .. => true | _ => false) = true then some none
  else if ((swapNames rs ts).length != ts.length || (swapNames rs ts).eraseDups.length != (swapNames rs ts).length) = true then some none
  else if vs.all (foldedForSure 8) = true then some none
  else if vs.all (constantsAlone 8) = true then none
  else some (some (swapNames rs ts))
theorem swap_by {env : Env} {ts vs : List Expr} {k k2 : Nat} {p p2 : Pos} {r : Option (List PySem.Str)} (hk : env.scope.kind = .function) (h : swapR env.scope ts vs = some r) : swappedStores [.Tuple ts k p] (.Tuple vs k2 p2) env = pure r := by
  have hb : env.blockKind = .function := by unfold Env.blockKind; rw [hk]; rfl
  unfold swapR at h
  unfold swappedStores
  simp only [hb, bne_self_eq_false, Bool.or_false]
  by_cases h1 : (!(ts.length == 2 || ts.length == 3) || vs.length != ts.length) = true
  · rw [if_pos h1] at h
    cases h
    exact if_pos h1
  · rw [if_neg h1] at h
    refine (if_neg h1).trans ?_
    by_cases h2 : (vs.any fun | .Starred .. => true | _ => false) = true
    · replace h := (if_pos h2).symm.trans h
      cases h
      exact if_pos h2
    · replace h := (if_neg h2).symm.trans h
      refine (if_neg h2).trans ?_
      by_cases h3 : ((swapNames env.scope ts).length != ts.length || (swapNames env.scope ts).eraseDups.length != (swapNames env.scope ts).length) = true
      · replace h := (if_pos h3).symm.trans h
        cases h
        exact if_pos h3
      · replace h := (if_neg h3).symm.trans h
        refine (if_neg h3).trans ?_
        by_cases h4 : vs.all (foldedForSure 8) = true
        · replace h := (if_pos h4).symm.trans h
          cases h
          exact if_pos h4
        · replace h := (if_neg h4).symm.trans h
          refine (if_neg h4).trans ?_
          by_cases h5 : vs.all (constantsAlone 8) = true
          · replace h := (if_pos h5).symm.trans h
            cases h
          · replace h := (if_neg h5).symm.trans h
            cases h
            exact if_neg h5
def nonTup : Expr → Bool
  | .Tuple .. => false
  | _ => true
theorem swap_nonTup {env : Env} {ts : List Expr} {v : Expr} {k : Nat} {p : Pos} (h : nonTup v = true) : swappedStores [.Tuple ts k p] v env = pure none := by
  cases v <;> first | rfl | cases h
theorem swap_sub {env : Env} {o i v : Expr} {p : Pos} : swappedStores [.Subscript o i p] v env = pure none := by
  cases v <;> rfl
/-- slots and names fit -/
def ckPar (N : List PySem.Str) (rs : Scope) : List Nat → List PySem.Str → Bool
  | [], [] => true
  | i :: is, x :: xs => decide (N[i]? = some x) && decide (rs.names.lookup x = some .local) && ckPar N rs is xs
  | _, _ => false
section
variable {c : Cfg} {W : WX} {X : Cx} {Φ : List Fn} {G : List PyData} {T : Tb} {σ : L2.St} {H : Hp} {e : Expr} {pos : Pos} {fl : SL} {fa fb fc : SE}
theorem ckPar_snoc {N : List PySem.Str} {rs : Scope} : ∀ {is : List Nat} {xs : List PySem.Str} {i : Nat} {x : PySem.Str}, ckPar N rs is xs = true → N[i]? = some x → rs.names.lookup x = some .local → ckPar N rs (is ++ [i]) (xs ++ [x]) = true
  | [], [], i, x, _, h1, h2 => by simp [ckPar, h1, h2]
  | j :: is, y :: xs, i, x, h, h1, h2 => by
    simp only [ckPar, Bool.and_eq_true, List.cons_append] at h ⊢
    exact ⟨h.1, ckPar_snoc h.2 h1 h2⟩
  | [], _ :: _, _, _, h, _, _ => by cases h
  | _ :: _, [], _, _, h, _, _ => by cases h
theorem ckPar_rev {N : List PySem.Str} {rs : Scope} : ∀ {is : List Nat} {xs : List PySem.Str}, ckPar N rs is xs = true → ckPar N rs is.reverse xs.reverse = true
  | [], [], _ => rfl
  | i :: is, x :: xs, h => by
    simp only [ckPar, Bool.and_eq_true, decide_eq_true_eq] at h
    rw [List.reverse_cons, List.reverse_cons]
    exact ckPar_snoc (ckPar_rev h.2) h.1.1 h.1.2
  | [], _ :: _, h => by cases h
  | _ :: _, [], h => by cases h
theorem RDs.rev {m : Mp} {S : Store} {vs : List V} {ds : List D} (r : RDs c.K m S H vs ds) : RDs c.K m S H vs.reverse ds.reverse := by
  induction r with
  | nil => exact .nil
  | cons a _ ih =>
    rw [List.reverse_cons, List.reverse_cons]
    exact ih.app (.cons a .nil)
theorem Vals.rev {vs : List V} {us : List Value} (r : Vals vs us) : Vals vs.reverse us.reverse := by
  induction r with
  | nil => exact .nil
  | cons a _ ih =>
    rw [List.reverse_cons, List.reverse_cons]
    exact Vals.append ih (.cons a .nil)
theorem bind_all (nd : X.N.Nodup) {pins : List (Addr × Obj)} {m : Mp} {S : Store} {ev' : Ev} {E : Value → Shared → Prop} : ∀ {is : List Nat} {names : List PySem.Str} {ds : List D} {vs : List V} {us : List Value} {σ : L2.St} {ev : Ev} {s : Shared}, ckPar X.N X.env.scope is names = true → setSlots is ds ev = some ev' →
    RDs c.K m S H vs ds → Vals vs us → Inv X pins σ H s → EvOk c m S H σ ev → wpAny (model X.prog X.w) X.A (assignInOrder (names.map fun n => bindName X.env n) us) (fun _ s' => ∃ σ', Inv X pins σ' H s' ∧ EvOk c m S H σ' ev') E s
  | [], [], ds, _, _, σ, ev, s, _, hs, r, rv, I, eo => by
    cases ds with
    | nil =>
      cases hs
      exact assignInOrder_nil ⟨σ, I, eo⟩
    | cons _ _ => cases hs
  | i :: is, x :: xs, ds, _, _, σ, ev, s, hp, hs, r, rv, I, eo => by
    cases ds with
    | nil => cases hs
    | cons d ds =>
      cases r with
      | cons r1 r2 =>
        cases rv with
        | cons v1 v2 =>
          simp only [ckPar, Bool.and_eq_true, decide_eq_true_eq] at hp
          rw [List.map_cons]
          refine assignInOrder_cons (wpAny_bindName (store_ok I nd hp.1.1 (.inl hp.1.2) v1 (fun s2 I2 => ?_) (.inr hp.1.2)))
          exact bind_all nd hp.2 hs r2 v2 I2 (eo.set i r1)
  | [], _ :: _, _, _, _, _, _, _, h, _, _, _, _, _ => by cases h
  | _ :: _, [], _, _, _, _, _, _, h, _, _, _, _, _ => by cases h
theorem par_ok (hc : X.calm = true) (nd : X.N.Nodup) {is : List Nat} {names : List PySem.Str} {ts vs : List Expr} {kt k2 : Nat} {pt pt2 : Pos} (hp : ckPar X.N X.env.scope is names = true) (hsw : swapR X.env.scope ts vs = some (some names)) (hn : names.length = vs.length) (h4 : vs.length < 4)
    (hlen : ∀ ev S ds S', fl ev S = .ok ds S' → ds.length = vs.length) (ha : PA X vs (rdA c W fl)) :
    PS X (.Assign [.Tuple ts kt pt] (.Tuple vs k2 pt2) pos) (rdS c W fun ev S => (fl ev S).sr ev fun ds S1 => match setSlots is.reverse ds.reverse ev with
      | some ev' => .nx ev' S1
      | none => .fail) := by
  refine ⟨fun pins s σ H D I h => ?_⟩
  rw [exec_Assign_arm]
  refine wpAny_bind (wpAny_standAt ?_)
  have hs0 : swapsWithSole [.Tuple ts kt pt] (.Tuple vs k2 pt2) pos.line X.env = pure false := rfl
  rw [hs0]
  refine wpAny_bind (wpAny_pure ?_)
  rw [if_neg (by decide)]
  have hA : rdA c W fl σ H fun xs H1 => xs.length = vs.length ∧ ∃ m S ev ev' ds, Sto c m S H1 ∧ EvOk c m S H1 σ ev ∧ RDs c.K m S H1 xs ds ∧ setSlots is.reverse ds.reverse ev = some ev' ∧ ∀ σ', EvOk c m S H1 σ' ev' → D.nx σ' H1 := by
    obtain ⟨m, S, ev, st, eo, h⟩ := h
    refine ⟨m, S, ev, st, eo, ?_⟩
    have h2 := LftS.ofE eo st h
    cases e : fl ev S with
    | ok ds S1 =>
      rw [e] at h2
      intro m1 H1 st1 n1 xs rs
      have h3 := h2 m1 H1 st1 n1
      refine ⟨by rw [rs.len]; exact hlen ev S ds S1 e, m1, S1, ev, ?_⟩
      cases hq : setSlots is.reverse ds.reverse ev with
      | none => simp only [hq] at h3; exact h3.elim
      | some ev' =>
        simp only [hq] at h3
        exact ⟨ev', ds, st1, eo.nxt st n1, rs, hq, fun σ' q => h3 m1 H1 σ' st1 .refl q⟩
    | exc x S1 => rw [e] at h2; exact h2
    | fail => rw [e] at h2; exact h2
  refine wpAny_bind (Tuple_ (thn (ha.run _ pins s σ H _ I hA) fun us s1 ⟨xs, H1, I1, r1, hl, m, S, ev, ev', ds, st, eo, rs, hq, fin⟩ => ?_))
  have hul : us.length = vs.length := by rw [← r1.length]; exact hl
  refine wpAny_newObj_type ?_ (by show us.toArray.size ≤ sizeLine; rw [List.size_toArray, hul, sizeLine_eq]; omega)
  have I2 : Inv X pins σ H1 { s1 with heap := s1.heap.push { cls := .type "tuple", data := .seq us.toArray } } := I1.kept (t' := s1.toks) fun b o e => Heap.get?_push_of_some _ e
  rw [swap_by I.ok.kind hsw]
  refine wpAny_bind (wpAny_pure ?_)
  show wpAny (model X.prog X.w) X.A (do rule "assign.swapped-stores"; let items ← unpackItems (.ref s1.heap.objs.size) names.length none; assignInOrder (names.reverse.map fun n => bindName X.env n) items.reverse; pure Flow.next) _ _ _
  have hn2 : names.length = us.toArray.size := by simp [hul, hn]
  rw [hn2]
  refine wpAny_bind (wpAny_rule (wpAny_bind (unpackItems_tuple (items := us.toArray) (I.ok.hd hc) (IsTup.new s1.heap _) fun h' hx' => ?_)))
  have I3 := I2.kept (h' := h') (t' := s1.toks) fun b o e => hx' b o (Nat.ne_of_lt (Heap.lt_size e)) e
  show wpAny _ _ (assignInOrder (names.reverse.map fun n => bindName X.env n) us.toArray.toList.reverse >>= fun _ => pure Flow.next) _ _ _
  refine wpAny_bind (thn (bind_all nd (ckPar_rev hp) hq rs.rev (Vals.rev r1) I3 eo) fun _ s' ⟨σ', I', eo'⟩ => wpAny_pure ⟨σ', H1, I', fin σ' eo'⟩)
/-- one target -/
theorem rd_asg {t : Tg} {Ds : Ends} (h : rdS c W (fun ev S => (fa ev S).sr ev fun d S1 => match t.put [d] ev with
      | some ev' => .nx ev' S1
      | none => .fail) Ds σ H) : rdE c W fa σ H fun x H1 => gOf c.K t x σ H1 Ds.nx := by
  obtain ⟨m, S, ev, st, eo, h⟩ := h
  refine ⟨m, S, ev, st, eo, (LftS.ofE eo st h).mono fun d m1 S1 H1 st1 n1 k v r => ?_⟩
  cases hq : t.put [d] ev with
  | none => simp only [hq] at k; exact k.elim
  | some ev' =>
    simp only [hq] at k
    exact put_ok st1 hq (.inl ⟨d, rfl, rfl, r⟩) (eo.nxt st n1) fun σ' st2 n2 _ eo2 => k m1 H1 σ' st2 n2 eo2
theorem asg_ok (hK : X.K = c.K) {t : Tg} {tg : Expr} (he : PE X e (rdE c W fa)) (hg : PG X tg (gOf X.K t)) (hs : swapsWithSole [tg] e pos.line X.env = pure false) (hw : swappedStores [tg] e X.env = pure none) (h1 : (assignEach [tg] X.env).map (·.2) = [assign tg X.env]) :
    PS X (.Assign [tg] e pos) (rdS c W fun ev S => (fa ev S).sr ev fun d S1 => match t.put [d] ev with
      | some ev' => .nx ev' S1
      | none => .fail) :=
  psI (ps_asg he hg hs hw h1) fun D σ H h => by rw [hK]; exact rd_asg h
theorem PIp.int {op : BOp} (h : op = .add ∨ op = .sub) : PIp X (opOf op) (fun x y H Q => ∃ m S d1 d2 d, Sto c m S H ∧ RD c.K m S H x d1 ∧ RD c.K m S H y d2 ∧ augV op d1 d2 = some d ∧ ∀ v, RD c.K m S H v d → Q v H) := by
  rintro pins s σ H x y v u Q I rx ry ⟨m, S, d1, d2, d, st, r1, r2, e, k⟩
  unfold augV at e
  split at e
  · cases e
    exact ip_add pins s σ H x y v u Q I rx ry ⟨_, _, rd_int r1, rd_int r2, k _ (.int _)⟩
  · cases e
    exact ip_sub pins s σ H x y v u Q I rx ry ⟨_, _, rd_int r1, rd_int r2, k _ (.int _)⟩
  · cases e
theorem aug_ok (nd : X.N.Nodup) (hf : ∀ x, X.fn x = true) {op : BOp} {i : Nat} {x : PySem.Str} {p : Pos} (ho : op = .add ∨ op = .sub) (hi : X.N[i]? = some x) (hx : Loc X.env.scope x) (he : PE X e (rdE c W fa)) :
    PS X (.AugAssign (.Name x p) (opOf op) e pos) (rdS c W fun ev S => match ev[i]? with
      | some (some x) => (fa ev S).sr ev fun y S1 => match augV op x y with
        | some z => .nx (ev.set i (some z)) S1
        | none => .fail
      | _ => .fail) := by
  refine psI (ps_aug nd hi hx he (PIp.int (c := c) ho) (.inl (hf x))) fun Ds σ H h => ?_
  obtain ⟨m, S, ev, st, eo, h⟩ := h
  rcases hd : ev[i]? with _ | _ | d
  · simp only [hd] at h
    exact h.elim
  · simp only [hd] at h
    exact h.elim
  · simp only [hd] at h
    obtain ⟨v, e1, r⟩ := eo.2 i d hd
    refine ⟨v, e1, m, S, ev, st, eo, (LftS.ofE eo st h).mono fun y m1 S1 H1 st1 n1 k w rw' => ?_⟩
    cases hq : augV op d y with
    | none => simp only [hq] at k; exact k.elim
    | some z =>
      simp only [hq] at k
      exact ⟨m1, S1, d, y, z, st1, r.nxt st n1, rw', hq, fun v2 r2 => k m1 H1 _ st1 .refl ((eo.nxt st n1).set i r2)⟩
theorem asub_plain {o i : Expr} {env : Env} (h : nonSlice i = true) : ∀ v, assign (.Subscript o i pos) env v = (do
      let ov ← holding [v] (eval o env)
      let iv ← holding [v, ov] (eval i env)
      standAt pos
      holding [v, ov, iv] (setItem ov iv v)
      release [v, ov, iv] []) := by
  intro v
  cases i <;> first | rfl | cases h
theorem seti_ok (hK : X.K = c.K) {o i : Expr} {p : Pos} (hn : nonSlice i = true) (hs : swapsWithSole [.Subscript o i p] e pos.line X.env = pure false) (he : PE X e (rdE c W fa)) (ho : PE X o (rdE c W fb)) (hi : PE X i (rdE c W fc)) :
    PS X (.Assign [.Subscript o i p] e pos) (rdS c W fun ev S => (fa ev S).sr ev fun v S1 => (fb ev S1).sr ev fun x S2 => (fc ev S2).sr ev fun y S3 => match setiV x y v S3 with
      | some S4 => .nx ev S4
      | none => .fail) := by
  refine psI (ps_asg he (pg_sub ho hi (set_V hK) (asub_plain hn)) hs swap_sub rfl) fun Ds σ H h => ?_
  obtain ⟨m, S, ev, st, eo, h⟩ := h
  refine ⟨m, S, ev, st, eo, (LftS.ofE eo st h).mono fun d m1 S1 H1 st1 n1 h1 v r => ?_⟩
  have eo1 := eo.nxt st n1
  refine ⟨m1, S1, ev, st1, eo1, (LftS.ofE eo1 st1 h1).mono fun d2 m2 S2 H2 st2 n2 h2 v2 r2 => ?_⟩
  have eo2 := eo1.nxt st1 n2
  refine ⟨m2, S2, ev, st2, eo2, (LftS.ofE eo2 st2 h2).mono fun d3 m3 S3 H3 st3 n3 h3 v3 r3 => ?_⟩
  have eo3 := eo2.nxt st2 n3
  cases hq : setiV d2 d3 d S3 with
  | none => simp only [hq] at h3; exact h3.elim
  | some S4 =>
    simp only [hq] at h3
    refine ⟨m3, S3, d2, d3, d, S4, st3, r2.nxt st2 n3, r3, (r.nxt st1 n2).nxt st2 n3, hq, fun m' H' st' n' => ?_⟩
    exact h3 m' H' σ st' n' (eo3.nxt st3 n')
end
end MP
end
section
/-! MiniPy: statements keep what the evaluator says; defs. -/
namespace MP
open PySem PySem.Spec PyProof.Rows L2
section
variable {c : Cfg} {Φ : List Fn} {G : List PyData} {T : Tb}
theorem all2 : ∀ es : CL, P2 c Φ G T es
  | .nil => c_nil
  | .cons a r => c_cons (all1 a) (all2 r)
  | .star a r => c_star (all1 a) (all2 r)
theorem all4 : ∀ it : CI, P4 c Φ G T it
  | .one a => i_one (all1 a)
  | .rng1 a => i_rng1 (all1 a)
  | .rng2 a b => i_rng2 (all1 a) (all1 b)
  | .enum a => i_enum (all1 a)
  | .zip2 a b => i_zip2 (all1 a) (all1 b)
end
def asAsg : Stmt → Option (Expr × Expr × Pos)
  | .Assign [t] v p => some (t, v, p)
  | _ => none
theorem asAsg_eq {s : Stmt} {t v : Expr} {p : Pos} (h : asAsg s = some (t, v, p)) : s = .Assign [t] v p := by
  unfold asAsg at h
  split at h
  · cases h; rfl
  · cases h
def asTup : Expr → Option (List Expr × Nat × Pos)
  | .Tuple xs k p => some (xs, k, p)
  | _ => none
theorem asTup_eq {e : Expr} {xs : List Expr} {k : Nat} {p : Pos} (h : asTup e = some (xs, k, p)) : e = .Tuple xs k p := by
  unfold asTup at h
  split at h
  · cases h; rfl
  · cases h
/-- a comprehension that is stored under a local name on its line -/
def swB (rs : Scope) (x : PySem.Str) (p vp : Pos) (scope : Scope) : Bool := decide (rs.names.lookup x = some .local) && (p.line == vp.line) && !(scope.names.any fun (n, k) => n == x && (k == .local || k == .cell))
section
variable (T : Tb) (N : List PySem.Str) (lvl : Nat)
/-- one target: how the value is kept till the store -/
def ckAs (e : CE) (tg : Tg) (t v : Expr) (rs : Scope) : Bool := match tg with
  | .nm _ => (match asNm t with
    | some _ => (match e with
      | .comp .. => true
      | _ => nonComp v)
    | none => false)
  | .tp _ => (match asTup t with
    | some (ts, _, _) => (match asTup v with
      | some (vs, _, _) => (match swapR rs ts vs with
        | some none => true
        | _ => false)
      | none => nonTup v)
    | none => false)
mutual
def ckSt : CS → Stmt → Scope → Bool
  | .asg tg e, s, rs => match asAsg s with
    | some (t, v, _) => ckE T N lvl e v rs && ckTg N rs fnAll tg t && ckAs e tg t v rs
    | none => false
  | .par is es, s, rs => match asAsg s with
    | some (t, v, _) => match asTup t with
      | some (ts, _, _) => match asTup v with
        | some (vs, _, _) => match swapR rs ts vs with
          | some (some names) => ckPar N rs is names && decide (names.length = vs.length) && Nat.blt vs.length 4 && vs.all nonStar && ckL T N lvl es vs rs
          | _ => false
        | none => false
      | none => false
    | none => false
  | .aug op i e, s, rs => match s with
    | .AugAssign t o v _ => match asNm t with
      | some (x, _) => isOp op o && (isOp .add o || isOp .sub o) && ckNm N rs fnAll i t && ckE T N lvl e v rs
      | none => false
    | _ => false
  | .seti o i e, s, rs => match asAsg s with
    | some (t, v, _) => match t with
      | .Subscript x y _ => nonSlice y && ckE T N lvl e v rs && ckE T N lvl o x rs && ckE T N lvl i y rs
      | _ => false
    | none => false
  | .expr e, s, rs => match s with
    | .Expr v _ => nonComp v && ckE T N lvl e v rs
    | _ => false
  | .ret e, s, rs => match s with
    | .Return (some v) _ => ckE T N lvl e v rs
    | _ => false
  | .retN, s, _ => match s with
    | .Return none _ => true
    | _ => false
  | .iff t a b, s, rs => match s with
    | .If c x y _ => ckE T N lvl t c rs && ckT t && ckSs a x rs && ckSs b y rs
    | _ => false
  | .for tg it body, s, rs => match s with
    | .For t iter b [] _ => nonSet iter && ckI T N lvl it iter rs && ckG it t && ckTg N rs fnAll tg t && ckSs body b rs
    | _ => false
  | .while t body, s, rs => match s with
    | .While c b [] _ => ckE T N lvl t c rs && ckT t && ckSs body b rs
    | _ => false
  | .never, _, _ => true
def ckSs : CSs → List Stmt → Scope → Bool
  | .nil, ss, _ => match ss with
    | [] => true
    | _ => false
  | .cons a r, ss, rs => match ss with
    | s :: ss => ckSt a s rs && ckSs r ss rs
    | _ => false
end
end
/-- where a statement stands -/
structure GoodS (c : Cfg) (W : WX) (X : Cx) (Φ : List Fn) (G : List PyData) (T : Tb) : Prop extends Good c W X Φ G T where
  own : PassesOwn (model X.prog X.w) X.A X.env X.xe
  fn : ∀ x, X.fn x = true
section
variable {c : Cfg} {W : WX} {X : Cx} {Φ : List Fn} {G : List PyData} {T : Tb} {σ : L2.St} {H : Hp}
theorem sole_nonComp {t v : Expr} {n : Nat} {env : Env} (h : nonComp v = true) : swapsWithSole [t] v n env = pure false := sw_plain h
theorem sole_tup {ts : List Expr} {k : Nat} {p : Pos} {v : Expr} {n : Nat} {env : Env} : swapsWithSole [.Tuple ts k p] v n env = pure false := by cases v <;> rfl
theorem sole_sub {o i : Expr} {p : Pos} {v : Expr} {n : Nat} {env : Env} : swapsWithSole [.Subscript o i p] v n env = pure false := by cases v <;> rfl
theorem sw_val {elt : Expr} {gs : List Comprehension} {scope : Scope} {pos py : Pos} {y : PySem.Str} {l : Nat} {env : Env} (hk : env.scope.kind = .function) (h : swB env.scope y py pos scope = false) : swapsWith (.ListComp elt gs scope pos) (some (.Name y py)) l env = pure false := by
  have hb : env.blockKind = .function := by unfold Env.blockKind; rw [hk]; rfl
  have e : swapsWith (.ListComp elt gs scope pos) (some (.Name y py)) l env = pure (env.blockKind == .function && env.kindOf y == some .local && py.line == pos.line && !(scope.names.any fun (n, k) => n == y && (k == .local || k == .cell))) := rfl
  rw [e]
  congr 1
  unfold swB at h
  rw [hb]
  show (true && (env.kindOf y == some .local) && (py.line == pos.line) && _) = false
  rw [Bool.true_and]
  have : (env.kindOf y == some .local) = decide (env.scope.names.lookup y = some .local) := by
    unfold Env.kindOf
    by_cases q : env.scope.names.lookup y = some .local
    · rw [q]; rfl
    · rw [decide_eq_false q]
      exact beq_eq_false_iff_ne.mpr q
  rw [this]
  exact h
/-- a comprehension stored under a local name on its line -/
theorem comp_set (g : Good c W X Φ G T) {i : Nat} {y : PySem.Str} {py : Pos} {cell : Bool} {tg : Tg} {own : List Nat} {ow : List (PySem.Str × Nat)} {x t iter : Expr} {conds : List Expr} {scope : Scope} {pos spos : Pos} {fI : Ev → Store → Res ItS} {ft : Ev → Store → Res Bool} {fe : SE}
    (hk : X.env.scope.kind = .function) (hy : X.N[i]? = some y) (hsw : swB X.env.scope y py pos scope = true) (h1 : ownOf X.N own = some ow) (h2 : blkC X.N X.env.scope scope ow = true) (h3 : tg.slots.all (fun i => own.contains i) = true) (h4 : nonSet iter = true) (hi : PI X t iter (rdI c W fI)) (ht : ckTg X.N (relS scope X.env.scope) (fnIn scope) tg t = true)
    (hs : ∀ X', Good c W0 X' Φ G T → X'.N = X.N → X'.env.scope = relS scope X.env.scope → PTs X' conds (rdT c W0 ft)) (he : ∀ X', Good c W0 X' Φ G T → X'.N = X.N → X'.env.scope = relS scope X.env.scope → PE X' x (rdE c W0 fe)) :
    PS X (.Assign [.Name y py] (.ListComp x [⟨t, iter, conds, 0⟩] scope pos) spos) (rdS c W fun ev S => ((fI ev S).bind fun J S1 => match compLoop J tg ft fe (wipeE ev own) J.len 0 S1 with
      | some (l, S2) => if fits l.length then Res.ofP (mkL cell l S2) else .fail
      | none => .fail).sr ev fun d S1 => match (Tg.nm i).put [d] ev with
      | some ev' => .nx ev' S1
      | none => .fail) := by
  have hown := ownOf_ix h1
  unfold swB at hsw
  simp only [Bool.and_eq_true, decide_eq_true_eq, Bool.not_eq_true'] at hsw
  refine psI (ps_setLc (g := gOf c.K tg) (tt := rdT c W0 ft) (te := rdE c W0 fe) g.calm g.nd hy hsw.1.1 (sw_true hk hsw.1.1 hsw.1.2 hsw.2) hi (blkOk_by h2) (fun s H C cl fp => ?_) (fun s H C cl fp => hs _ (g.blk s H scope _ fp) rfl rfl) (fun s H C cl fp => he _ (g.blk s H scope _ fp) rfl rfl) (set_plain h4)) fun Ds σ H h => ?_
  · have z := tg_ok (X := X.blk s H scope (compEnvC scope cl C X.env) fp) (fnb := fnIn scope) g.nd (fun _ q => q) g.calm (t := tg) (e := t) ht
    rw [← g.hK]
    exact z
  · have h' := rd_asg (t := .nm i) (fa := fun ev S => (fI ev S).bind fun J S1 => match compLoop J tg ft fe (wipeE ev own) J.len 0 S1 with
      | some (l, S2) => if fits l.length then Res.ofP (mkL cell l S2) else .fail
      | none => .fail) h
    rw [hown]
    refine rd_comp (Q := fun x H1 => gName i x σ H1 Ds.nx) (fun j hj => ?_) h'
    have := List.all_eq_true.mp h3 j hj
    simpa using this
theorem evL_len : ∀ {es : CL} {vs : List Expr} {rs : Scope} {N : List PySem.Str} {lvl : Nat} {ev : Ev} {S S' : Store} {ds : List D}, vs.all nonStar = true → ckL T N lvl es vs rs = true → evL Φ G es ev S = .ok ds S' → ds.length = vs.length
  | .nil, vs, _, _, _, ev, S, S', ds, h1, h2, h3 => by
    cases vs with
    | nil => cases h3; rfl
    | cons _ _ => simp [ckL] at h2
  | .cons a r, vs, _, _, _, ev, S, S', ds, h1, h2, h3 => by
    cases vs with
    | nil => simp [ckL] at h2
    | cons v vs =>
      simp only [ckL, Bool.and_eq_true] at h2
      simp only [List.all_cons, Bool.and_eq_true] at h1
      have h3 : ((evE Φ G a ev S).bind fun x S1 => (evL Φ G r ev S1).bind fun xs S2 => .ok (x :: xs) S2) = .ok ds S' := h3
      cases e1 : evE Φ G a ev S with
      | ok x S1 =>
        simp only [e1, Res.bind] at h3
        cases e2 : evL Φ G r ev S1 with
        | ok xs S2 =>
          simp only [e2] at h3
          cases h3
          simp [evL_len h1.2 h2.2 e2]
        | exc _ _ => simp [e2] at h3
        | fail => simp [e2] at h3
      | exc _ _ => simp [e1, Res.bind] at h3
      | fail => simp [e1, Res.bind] at h3
  | .star a r, vs, _, _, _, ev, S, S', ds, h1, h2, h3 => by
    cases vs with
    | nil => simp [ckL] at h2
    | cons v vs =>
      cases v with
      | Starred _ _ => simp [nonStar] at h1
      | _ => simp [ckL] at h2
def Q1 (c : Cfg) (W : WX) (X : Cx) (Φ : List Fn) (G : List PyData) (T : Tb) (cs : CS) : Prop := ∀ st : Stmt, ckSt T X.N Φ.length cs st X.env.scope = true → PS X st (rdS c W (evS Φ G cs))
def Q2 (c : Cfg) (W : WX) (X : Cx) (Φ : List Fn) (G : List PyData) (T : Tb) (cs : CSs) : Prop := ∀ ss : List Stmt, ckSs T X.N Φ.length cs ss X.env.scope = true → PSs X ss (rdS c W (evSs Φ G cs))
theorem ps_kind {st : Stmt} {t : TS} (h : X.env.scope.kind = .function → PS X st t) : PS X st t := ⟨fun pins s σ H D I w => (h I.ok.kind).run pins s σ H D I w⟩
variable (g : GoodS c W X Φ G T)
include g
theorem s_asg {tg : Tg} {e : CE} : Q1 c W X Φ G T (.asg tg e) := by
  intro st h
  unfold ckSt at h
  split at h
  case h_2 => cases h
  case h_1 t v p heq =>
  rw [asAsg_eq heq]
  simp only [Bool.and_eq_true] at h
  obtain ⟨⟨h1, h2⟩, h3⟩ := h
  have he := (all1 e _ _ _ g.toGood h1).1
  have hg := tg_ok g.nd (fun x _ => g.fn x) g.calm h2
  unfold ckAs at h3
  cases tg with
  | nm i =>
    cases ht : asNm t with
    | none => simp [ht] at h3
    | some q =>
      obtain ⟨x, px⟩ := q
      rw [asNm_eq ht] at h2 hg ⊢
      simp only [ht] at h3
      have plain : nonComp v = true → PS X (.Assign [.Name x px] v p) (rdS c W (evS Φ G (.asg (.nm i) e))) := fun hv =>
        asg_ok g.hK he hg (sole_nonComp hv) (by cases v <;> rfl) rfl
      cases e with
      | comp cell elt tg2 it ifs own =>
        have h1' := h1
        unfold ckE at h1
        split at h1
        case h_2 => cases h1
        case h_1 cx ct iter conds scope cp hc =>
        split at h1
        case h_2 => cases h1
        case h_1 ow how =>
        rw [asComp_eq hc] at he ⊢
        simp only [Bool.and_eq_true] at h1
        obtain ⟨⟨⟨⟨⟨⟨⟨k1, k2⟩, k3⟩, k4⟩, k5⟩, k6⟩, k7⟩, k8⟩ := h1
        refine ps_kind fun hk => ?_
        cases hsw : swB X.env.scope x px cp scope with
        | false => exact asg_ok g.hK he hg (sw_val (l := p.line) hk hsw) rfl rfl
        | true =>
          simp only [ckTg, ckNm, Bool.and_eq_true, decide_eq_true_eq] at h2
          refine comp_set g.toGood hk h2.1 hsw how k1 k2 k3 (all4 it _ _ _ _ g.toGood k4 k5) k6 (fun X' g' hN hs => ?_) (fun X' g' hN hs => ?_)
          · refine (all2 ifs).2.2.1 _ _ _ g' ?_
            rw [hN, hs]
            exact k7
          · refine (all1 elt _ _ _ g' ?_).1
            rw [hN, hs]
            exact k8
      | _ => exact plain h3
  | tp is =>
    cases ht : asTup t with
    | none => simp [ht] at h3
    | some q =>
      obtain ⟨ts, k, pt⟩ := q
      rw [asTup_eq ht] at hg ⊢
      simp only [ht] at h3
      cases hv : asTup v with
      | none =>
        simp only [hv] at h3
        exact asg_ok g.hK he hg sole_tup (swap_nonTup h3) rfl
      | some q2 =>
        obtain ⟨vs, k2, pt2⟩ := q2
        simp only [hv] at h3
        rw [asTup_eq hv] at he ⊢
        refine ps_kind fun hk => asg_ok g.hK he hg rfl (swap_by hk ?_) rfl
        split at h3
        · rename_i hq; exact hq
        · cases h3
theorem s_par {is : List Nat} {es : CL} : Q1 c W X Φ G T (.par is es) := by
  intro st h
  unfold ckSt at h
  split at h
  case h_2 => cases h
  case h_1 t v p heq =>
  split at h
  case h_2 => cases h
  case h_1 ts kt pt ht =>
  split at h
  case h_2 => cases h
  case h_1 vs k2 pt2 hv =>
  split at h
  case h_2 => cases h
  case h_1 names hsw =>
  rw [asAsg_eq heq, asTup_eq ht, asTup_eq hv]
  simp only [Bool.and_eq_true, decide_eq_true_eq, Nat.blt_eq] at h
  obtain ⟨⟨⟨⟨h1, h2⟩, h3⟩, h4⟩, h5⟩ := h
  exact par_ok g.calm g.nd h1 hsw h2 h3 (fun ev S ds S' e => evL_len h4 h5 e) ((all2 es).2.1 _ _ _ g.toGood h5)
theorem s_aug {op : BOp} {i : Nat} {e : CE} : Q1 c W X Φ G T (.aug op i e) := by
  intro st h
  cases st with
  | AugAssign t o v p =>
    unfold ckSt at h
    cases ht : asNm t with
    | none => simp [ht] at h
    | some q =>
      obtain ⟨x, px⟩ := q
      simp only [ht] at h
      rw [asNm_eq ht] at h ⊢
      simp only [Bool.and_eq_true, Bool.or_eq_true] at h
      obtain ⟨⟨⟨h1, h2⟩, h3⟩, h4⟩ := h
      rw [isOp_eq h1] at h2 ⊢
      simp only [ckNm, Bool.and_eq_true, decide_eq_true_eq] at h3
      refine aug_ok g.nd g.fn ?_ h3.1 ?_ (all1 e _ _ _ g.toGood h4).1
      · cases op <;> first | exact .inl rfl | exact .inr rfl | (rcases h2 with z | z <;> cases z)
      · have q := h3.2
        unfold locB at q
        split at q
        · rename_i z; exact .inl z
        · rename_i z; exact .inr z
        · cases q
  | _ => simp [ckSt] at h
theorem s_seti {o i e : CE} : Q1 c W X Φ G T (.seti o i e) := by
  intro st h
  unfold ckSt at h
  split at h
  case h_2 => cases h
  case h_1 t v p heq =>
  rw [asAsg_eq heq]
  cases t with
  | Subscript x y q =>
    simp only [Bool.and_eq_true] at h
    obtain ⟨⟨⟨h1, h2⟩, h3⟩, h4⟩ := h
    exact seti_ok g.hK h1 sole_sub (all1 e _ _ _ g.toGood h2).1 (all1 o _ _ _ g.toGood h3).1 (all1 i _ _ _ g.toGood h4).1
  | _ => cases h
theorem s_expr {e : CE} : Q1 c W X Φ G T (.expr e) := by
  intro st h
  cases st with
  | Expr v p =>
    simp only [ckSt, Bool.and_eq_true] at h
    refine psI (ps_expr (all1 e _ _ _ g.toGood h.2).1 (sw_plain h.1)) fun Ds σ H w => ?_
    obtain ⟨m, S, ev, st, eo, w⟩ := w
    exact ⟨m, S, ev, st, eo, (LftS.ofE eo st w).mono fun d m1 S1 H1 st1 n1 k v r => k m1 H1 σ st1 .refl (eo.nxt st n1)⟩
  | _ => simp [ckSt] at h
theorem s_ret {e : CE} : Q1 c W X Φ G T (.ret e) := by
  intro st h
  cases st with
  | Return v p =>
    cases v with
    | none => simp [ckSt] at h
    | some v =>
      refine psI (ps_ret (all1 e _ _ _ g.toGood h).1) fun Ds σ H w => ?_
      obtain ⟨m, S, ev, st, eo, w⟩ := w
      exact ⟨m, S, ev, st, eo, (LftS.ofE eo st w).mono fun d m1 S1 H1 st1 n1 k v r => k m1 H1 v st1 .refl r⟩
  | _ => simp [ckSt] at h
omit g in
theorem s_retN : Q1 c W X Φ G T .retN := by
  intro st h
  cases st with
  | Return v p =>
    cases v with
    | none =>
      refine psI ps_retN fun Ds σ H w => ?_
      obtain ⟨m, S, ev, st, eo, w⟩ := w
      exact w m H .non st .refl .non
    | some v => simp [ckSt] at h
  | _ => simp [ckSt] at h
theorem s_iff {t : CE} {a b : CSs} (ha : Q2 c W X Φ G T a) (hb : Q2 c W X Φ G T b) : Q1 c W X Φ G T (.iff t a b) := by
  intro st h
  cases st with
  | If x y z p =>
    simp only [ckSt, Bool.and_eq_true] at h
    refine psI (ps_if ((all1 t _ _ _ g.toGood h.1.1.1).2 h.1.1.2) (ha y h.1.2) (hb z h.2)) fun Ds σ H w => ?_
    obtain ⟨m, S, ev, st, eo, w⟩ := w
    refine ⟨m, S, ev, st, eo, (LftS.ofE eo st w).mono fun k m1 S1 H1 st1 n1 q => ?_⟩
    cases k with
    | true => exact ⟨m1, S1, ev, st1, eo.nxt st n1, q⟩
    | false => exact ⟨m1, S1, ev, st1, eo.nxt st n1, q⟩
  | _ => simp [ckSt] at h
theorem s_for {tg : Tg} {it : CI} {body : CSs} (hb : Q2 c W X Φ G T body) : Q1 c W X Φ G T (.for tg it body) := by
  intro st h
  cases st with
  | For t iter b els p =>
    cases els with
    | nil =>
      simp only [ckSt, Bool.and_eq_true] at h
      obtain ⟨⟨⟨⟨h1, h2⟩, h3⟩, h4⟩, h5⟩ := h
      have hg := tg_ok g.nd (fun x _ => g.fn x) g.calm h4
      refine psI (ps_for g.own g.calm (all4 it _ _ _ _ g.toGood h2 h3) hg (hb b h5) (set_plain h1)) fun Ds σ H w => ?_
      rw [g.hK]
      exact rd_for w
    | cons _ _ => simp [ckSt] at h
  | _ => simp [ckSt] at h
theorem s_while {t : CE} {body : CSs} (hb : Q2 c W X Φ G T body) : Q1 c W X Φ G T (.while t body) := by
  intro st h
  cases st with
  | While x b els p =>
    cases els with
    | nil =>
      simp only [ckSt, Bool.and_eq_true] at h
      exact psI (ps_while g.own ((all1 t _ _ _ g.toGood h.1.1).2 h.1.2) (hb b h.2)) fun Ds σ H w => rd_while w
    | cons _ _ => simp [ckSt] at h
  | _ => simp [ckSt] at h
omit g in
theorem s_never : Q1 c W X Φ G T .never := fun st _ => psI ps_never fun Ds σ H w => by
  obtain ⟨m, S, ev, st, eo, w⟩ := w
  exact w.elim
omit g in
theorem s_nil : Q2 c W X Φ G T .nil := by
  intro ss h
  cases ss with
  | nil =>
    refine pssI pss_nil fun Ds σ H w => ?_
    obtain ⟨m, S, ev, st, eo, w⟩ := w
    exact w m H σ st .refl eo
  | cons _ _ => simp [ckSs] at h
omit g in
theorem s_cons {a : CS} {r : CSs} (ha : Q1 c W X Φ G T a) (hr : Q2 c W X Φ G T r) : Q2 c W X Φ G T (.cons a r) := by
  intro ss h
  cases ss with
  | nil => simp [ckSs] at h
  | cons s ss =>
    simp only [ckSs, Bool.and_eq_true] at h
    refine pssI (pss_cons (ha s h.1) (hr ss h.2)) fun Ds σ H w => ?_
    obtain ⟨m, S, ev, st, eo, w⟩ := w
    refine ⟨m, S, ev, st, eo, ?_⟩
    replace w : LftS c W m S H Ds (match evS Φ G a ev S with
      | .nx ev1 S1 => evSs Φ G r ev1 S1
      | .rt d S1 => .rt d S1
      | .exc ev1 e S1 => .exc ev1 e S1
      | .fail => .fail) := w
    cases e : evS Φ G a ev S with
    | nx ev1 S1 =>
      rw [e] at w
      exact fun m' H' σ' st' n' eo' => ⟨m', S1, ev1, st', eo', LftS.from_ n' w⟩
    | rt d S1 => rw [e] at w; exact w
    | exc ev1 x S1 => rw [e] at w; exact w
    | fail => rw [e] at w; exact w
theorem allS (ss : CSs) : Q2 c W X Φ G T ss :=
  CSs.rec (motive_1 := Q1 c W X Φ G T) (motive_2 := Q2 c W X Φ G T) (fun _ _ => s_asg g) (fun _ _ => s_par g) (fun _ _ _ => s_aug g) (fun _ _ _ => s_seti g) (fun _ => s_expr g) (fun _ => s_ret g) s_retN (fun _ _ _ => s_iff g) (fun _ _ _ => s_for g) (fun _ _ => s_while g) s_never s_nil (fun _ _ => s_cons) ss
end
end MP
end
section
/-! MiniPy: defs keep what the evaluator says. -/
namespace MP
open PySem PySem.Spec PyProof.Rows L2
mutual
theorem Rp.anti {K : PySem.W.Frag} {H : Hp} {L L' : Addr → Prop} (hl : ∀ a, L' a → L a) : ∀ {p : PyData} {v : V}, Rp K H L v p → Rp K H L' v p
  | .none, _, h => by cases h; exact .non
  | .bool b, _, h => by cases h; exact .bl b
  | .int i, _, h => by cases h; exact .int i
  | .str x, _, h => by cases h; exact .str x
  | .tuple ps, _, h => by
    cases h with
    | tup h1 h2 => exact .tup h1 (Rps.anti hl h2)
  | .list ps, _, h => by
    cases h with
    | lst h1 h2 h3 => exact .lst h1 (fun z => h2 (hl _ z)) (Rps.anti hl h3)
  | .dict _, _, h => by cases h
theorem Rps.anti {K : PySem.W.Frag} {H : Hp} {L L' : Addr → Prop} (hl : ∀ a, L' a → L a) : ∀ {ps : List PyData} {vs : List V}, Rps K H L vs ps → Rps K H L' vs ps
  | [], _, h => by cases h; exact .nil
  | p :: ps, _, h => by
    cases h with
    | cons h1 h2 => exact .cons (Rp.anti hl h1) (Rps.anti hl h2)
end
section
variable {c : Cfg} {m m' : Mp} {S S' : Store} {H H' : Hp}
def Mp.cut (m m' : Mp) : Mp := ⟨m.cs, m'.hid⟩
theorem lv_cut (hl : m.cs.length = S.length) (n : Nxt m S H m' S' H') : ∀ a, Lv (m.cut m') (S'.take S.length) a → Lv m' S' a := by
  obtain ⟨r, er⟩ := n.pre
  rintro a (⟨k, x, h1, h2, h3⟩ | h)
  · have h1 : m.cs[k]? = some a := h1
    have hk : k < m.cs.length := (List.getElem?_eq_some_iff.mp h1).1
    refine .inl ⟨k, x, ?_, ?_, h3⟩
    · rw [er, List.getElem?_append_left hk]; exact h1
    · rw [List.getElem?_take_of_lt (by omega)] at h2; exact h2
  · exact .inr h
theorem rd_cut (hl : m.cs.length = S.length) (n : Nxt m S H m' S' H') {v : V} {d : D} (hb : below S.length d = true) (r : RD c.K m' S' H' v d) : RD c.K (m.cut m') (S'.take S.length) H' v d := by
  obtain ⟨r0, er⟩ := n.pre
  cases d with
  | dat p => exact Rp.anti (lv_cut hl n) r
  | ref k =>
    obtain ⟨a, e, q⟩ := r
    refine ⟨a, ?_, q⟩
    have hk : k < m.cs.length := by
      simp only [below, Nat.blt_eq] at hb
      omega
    rw [er, List.getElem?_append_left hk] at e
    exact e
  | scr l =>
    obtain ⟨a, e, q⟩ := r
    exact ⟨a, e, q.imp (fun z => ⟨z.1, fun y => z.2 (lv_cut hl n a y)⟩) id⟩
theorem rds_cut (hl : m.cs.length = S.length) (n : Nxt m S H m' S' H') : ∀ {ds : List D} {vs : List V}, (∀ d ∈ ds, below S.length d = true) → RDs c.K m' S' H' vs ds → RDs c.K (m.cut m') (S'.take S.length) H' vs ds
  | _, _, _, .nil => .nil
  | _, _, hb, .cons h t => .cons (rd_cut hl n (hb _ List.mem_cons_self) h) (rds_cut hl n (fun d hd => hb d (List.mem_cons_of_mem _ hd)) t)
theorem below_le {n k : Nat} {d : D} (h : below n d = true) (hn : n ≤ k) : below k d = true := by
  cases d with
  | dat p => rfl
  | scr p => rfl
  | ref j =>
    simp only [below, Nat.blt_eq] at h ⊢
    omega
theorem sto_cut (hl : m.cs.length = S.length) (st : Sto c m' S' H') (n : Nxt m S H m' S' H') : Sto c (m.cut m') (S'.take S.length) H' ∧ Nxt m S H (m.cut m') (S'.take S.length) H' := by
  obtain ⟨r, er⟩ := n.pre
  have hS : S.length ≤ S'.length := by
    have := st.len
    rw [er, List.length_append] at this
    omega
  have inM : ∀ a ∈ m.cs, a ∈ m'.cs := fun a h => by rw [er]; exact List.mem_append_left _ h
  refine ⟨⟨?_, ?_, fun k a x h1 h2 => ?_, fun k l h d hd => ?_, fun a ha => st.used a (inM a ha), fun a ha => ?_, st.tabs⟩, ⟨⟨⟨[], by simp [Mp.cut]⟩, n.keep, fun a h => n.lv a (lv_cut hl n a h), n.there⟩, n.same, n.hk⟩⟩
  · show m.cs.length = (S'.take S.length).length
    rw [List.length_take]
    omega
  · have := st.nd
    rw [er] at this
    exact (List.nodup_append.mp this).1
  · have h1 : m.cs[k]? = some a := h1
    have hk : k < m.cs.length := (List.getElem?_eq_some_iff.mp h1).1
    rw [List.getElem?_take_of_lt (by omega)] at h2
    have q := st.cell k a x (by rw [er, List.getElem?_append_left hk]; exact h1) h2
    cases x with
    | lst l =>
      obtain ⟨vs, e, rr⟩ := q
      exact ⟨vs, e, rds_cut hl n (fun d hd => below_le (st.wf k l h2 d hd) (by omega)) rr⟩
    | dic l => exact q
    | dead => exact q
  · have hk : k < (S'.take S.length).length := (List.getElem?_eq_some_iff.mp h).1
    rw [List.length_take] at hk
    rw [List.getElem?_take_of_lt (by omega)] at h
    exact st.wf k l h d hd
  · obtain ⟨h1, h2⟩ := st.hid a ha
    exact ⟨fun z => h1 (inM a z), h2⟩
/-- a list that is handed back: the first cell behind the caller's -/
theorem sto_back (hl : m.cs.length = S.length) (st : Sto c m' S' H') (n : Nxt m S H m' S' H') {k : Nat} {a : Addr} {l : List D} (hk : S.length ≤ k) (hm : m'.cs[k]? = some a) (hS : S'[k]? = some (.lst l)) (hb : ∀ d ∈ l, below S.length d = true) :
    ∃ m2, Sto c m2 (S'.take S.length ++ [.lst l]) H' ∧ Nxt m S H m2 (S'.take S.length ++ [.lst l]) H' ∧ RD c.K m2 (S'.take S.length ++ [.lst l]) H' (.ref a) (.ref S.length) := by
  obtain ⟨s2, n2⟩ := sto_cut hl st n
  obtain ⟨r, er⟩ := n.pre
  have la : Lv m' S' a := .inl ⟨k, _, hm, hS, by simp⟩
  have hlen : (S'.take S.length).length = S.length := by
    have := s2.len
    rw [← this]
    exact hl
  have na : a ∉ m.cs := fun z => by
    obtain ⟨j, hj⟩ := List.mem_iff_getElem?.mp z
    have hjl : j < m.cs.length := (List.getElem?_eq_some_iff.mp hj).1
    have hj' : m'.cs[j]? = some a := by rw [er, List.getElem?_append_left hjl]; exact hj
    obtain ⟨i1, e1⟩ := List.getElem?_eq_some_iff.mp hm
    obtain ⟨i2, e2⟩ := List.getElem?_eq_some_iff.mp hj'
    have := (List.getElem_inj st.nd).mp (e1.trans e2.symm)
    omega
  have lv2 : ∀ b, Lv ⟨m.cs ++ [a], m'.hid⟩ (S'.take S.length ++ [.lst l]) b → b = a ∨ Lv (m.cut m') (S'.take S.length) b := by
    rintro b (⟨j, x, h1, h2, h3⟩ | h)
    · have h1 : (m.cs ++ [a])[j]? = some b := h1
      by_cases hj : j < m.cs.length
      · rw [List.getElem?_append_left hj] at h1
        rw [List.getElem?_append_left (by omega)] at h2
        exact .inr (.inl ⟨j, x, h1, h2, h3⟩)
      · rw [List.getElem?_append_right (Nat.le_of_not_lt hj)] at h1
        have : b ∈ [a] := List.mem_of_getElem? h1
        exact .inl (by simpa using this)
    · exact .inr (.inr h)
  have lv3 : ∀ b, Lv ⟨m.cs ++ [a], m'.hid⟩ (S'.take S.length ++ [.lst l]) b → Lv m' S' b := fun b h => by
    rcases lv2 b h with e | h
    · rw [e]; exact la
    · exact lv_cut hl n b h
  -- values keep their reading
  have rd : ∀ {v : V} {d : D}, below S.length d = true → RD c.K m' S' H' v d → RD c.K ⟨m.cs ++ [a], m'.hid⟩ (S'.take S.length ++ [.lst l]) H' v d := fun {v d} hd rr => by
    cases d with
    | dat p => exact Rp.anti lv3 rr
    | ref j =>
      obtain ⟨b, e, q⟩ := rr
      have hj : j < m.cs.length := by
        simp only [below, Nat.blt_eq] at hd
        omega
      rw [er, List.getElem?_append_left hj] at e
      exact ⟨b, by show (m.cs ++ [a])[j]? = some b; rw [List.getElem?_append_left hj]; exact e, q⟩
    | scr u =>
      obtain ⟨b, e, q⟩ := rr
      exact ⟨b, e, q.imp (fun z => ⟨z.1, fun y => z.2 (lv3 b y)⟩) id⟩
  have rds : ∀ {ds : List D} {vs : List V}, (∀ d ∈ ds, below S.length d = true) → RDs c.K m' S' H' vs ds → RDs c.K ⟨m.cs ++ [a], m'.hid⟩ (S'.take S.length ++ [.lst l]) H' vs ds := by
    intro ds vs hd rr
    induction rr with
    | nil => exact .nil
    | cons h t ih => exact .cons (rd (hd _ List.mem_cons_self) h) (ih fun d q => hd d (List.mem_cons_of_mem _ q))
  obtain ⟨vs, hv, rv⟩ := st.cell k a _ hm hS
  refine ⟨⟨m.cs ++ [a], m'.hid⟩, ⟨?_, ?_, fun j b x h1 h2 => ?_, fun j l' h d hd => ?_, fun b hb' => ?_, fun b hb' => ?_, st.tabs⟩, ⟨⟨⟨[a], rfl⟩, n.keep, fun b h => n.lv b (lv3 b h), n.there⟩, n.same, n.hk⟩, a, ?_, rfl⟩
  · show (m.cs ++ [a]).length = _
    rw [List.length_append, List.length_append, hlen, hl]
    rfl
  · refine List.nodup_append.mpr ⟨s2.nd, by simp, fun x hx y hy z => ?_⟩
    have : y = a := by simpa using hy
    subst this z
    exact na hx
  · have h1 : (m.cs ++ [a])[j]? = some b := h1
    by_cases hj : j < m.cs.length
    · rw [List.getElem?_append_left hj] at h1
      rw [List.getElem?_append_left (by omega), List.getElem?_take_of_lt (by omega)] at h2
      have q := st.cell j b x (by rw [er, List.getElem?_append_left hj]; exact h1) h2
      cases x with
      | lst l' =>
        obtain ⟨ws, e, rr⟩ := q
        exact ⟨ws, e, rds (fun d hd => below_le (st.wf j l' h2 d hd) (by omega)) rr⟩
      | dic l => exact q
      | dead => exact q
    · have hj' : m.cs.length ≤ j := Nat.le_of_not_lt hj
      rw [List.getElem?_append_right hj'] at h1
      rw [List.getElem?_append_right (by omega)] at h2
      have e1 : b ∈ [a] := List.mem_of_getElem? h1
      have e2 : x ∈ [Cell.lst l] := List.mem_of_getElem? h2
      have e1 : b = a := by simpa using e1
      have e2 : x = Cell.lst l := by simpa using e2
      subst e1 e2
      exact ⟨vs, hv, rds hb rv⟩
  · by_cases hj : j < S.length
    · rw [List.getElem?_append_left (by omega)] at h
      exact s2.wf j l' h d hd
    · rw [List.getElem?_append_right (by omega)] at h
      have e2 : Cell.lst l' ∈ [Cell.lst l] := List.mem_of_getElem? h
      have e2 : l' = l := by simpa using e2
      subst e2
      exact below_le (hb d hd) (by omega)
  · rcases List.mem_append.mp (show b ∈ m.cs ++ [a] from hb') with z | z
    · exact s2.used b z
    · have : b = a := by simpa using z
      subst this
      exact ⟨_, hv, rfl⟩
  · obtain ⟨h1, h2⟩ := st.hid b hb'
    refine ⟨fun z => ?_, h2⟩
    rcases List.mem_append.mp (show b ∈ m.cs ++ [a] from z) with y | y
    · exact h1 (by rw [er]; exact List.mem_append_left _ y)
    · have : b = a := by simpa using y
      subst this
      exact h1 (List.mem_of_getElem? hm)
  · show (m.cs ++ [a])[S.length]? = some a
    rw [← hl, List.getElem?_append_right (Nat.le_refl _)]
    simp
/-- a def's end -/
theorem lft_leave {W : WX} {σ : L2.St} {Q : VK} {E : XK} (st0 : Sto c m S H) {r : SR} (h : Lft c (fun cls dd _ H' => E cls dd H') σ m S H (leave S.length r) fun d m' S' H' => ∀ v, RD c.K m' S' H' v d → Q v H') :
    LftS c (fun cls dd _ H' => E cls dd H') m S H { nx := fun _ H' => Q .non H', rt := Q } r := by
  cases r with
  | nx ev S' =>
    intro m' H' σ' st n eo
    obtain ⟨s2, n2⟩ := sto_cut st0.len st n
    exact h _ H' s2 n2 .non .non
  | rt d S' =>
    intro m' H' v st n rv
    by_cases hb : below S.length d = true
    · replace h : Lft c (fun cls dd _ H' => E cls dd H') σ m S H (if below S.length d then .ok d (S'.take S.length) else giveBack S.length d S') fun d m' S' H' => ∀ v, RD c.K m' S' H' v d → Q v H' := h
      rw [if_pos hb] at h
      obtain ⟨s2, n2⟩ := sto_cut st0.len st n
      exact h _ H' s2 n2 v (rd_cut st0.len n hb rv)
    · cases d with
      | dat p => exact absurd rfl hb
      | scr p => exact absurd rfl hb
      | ref k =>
        replace h : Lft c (fun cls dd _ H' => E cls dd H') σ m S H (if below S.length (.ref k) then .ok (.ref k) (S'.take S.length) else giveBack S.length (.ref k) S') fun d m' S' H' => ∀ v, RD c.K m' S' H' v d → Q v H' := h
        rw [if_neg hb] at h
        unfold giveBack at h
        cases hc : cellAt S' k with
        | none => simp only [hc] at h; exact h.elim
        | some l =>
          simp only [hc] at h
          by_cases ha : l.all (below S.length) = true
          · rw [if_pos ha] at h
            obtain ⟨a, e1, rfl⟩ := rv
            have hk : S.length ≤ k := by
              simp only [below, Nat.blt_eq] at hb
              omega
            obtain ⟨m2, s2, n2, r2⟩ := sto_back st0.len st n hk e1 (cellAt_some hc) (fun d hd => List.all_eq_true.mp ha d hd)
            exact h m2 H' s2 n2 _ r2
          · rw [if_neg ha] at h
            exact h.elim
  | exc ev e S' =>
    intro m' H' σ' cls dd st n eo x
    obtain ⟨s2, n2⟩ := sto_cut st0.len st n
    refine h _ H' cls dd s2 n2 ?_
    obtain ⟨C, f, h1, h2, h3⟩ := x
    refine ⟨C, f, h1, h2, ?_⟩
    cases ha : e.arg with
    | none => exact True.intro
    | some p =>
      rw [ha] at h3
      obtain ⟨d, v, g1, g2, g3⟩ := h3
      exact ⟨d, v, g1, g2, Rp.anti (lv_cut st0.len n) g3⟩
  | fail => exact h
theorem evOk_start {vs : List V} {ds : List D} {k : Nat} (r : RDs c.K m S H vs ds) : EvOk c m S H (vs.map some ++ List.replicate k none) (ds.map some ++ List.replicate k none) := by
  refine ⟨by simp [r.len], fun i d e => ?_⟩
  by_cases hi : i < ds.length
  · rw [List.getElem?_append_left (by simpa using hi), List.getElem?_map] at e
    cases hd : ds[i]? with
    | none => rw [hd] at e; cases e
    | some d' =>
      rw [hd] at e
      cases e
      obtain ⟨v, h1, h2⟩ := r.get hd
      refine ⟨v, ?_, h2⟩
      rw [List.getElem?_append_left (by simpa [r.len] using hi), List.getElem?_map, h1]
      rfl
  · rw [List.getElem?_append_right (by simpa using Nat.le_of_not_lt hi)] at e
    have := List.mem_of_getElem? e
    simp at this
end
/-- what the defs know of the module -/
structure ModOk (P : Program) (w : World) (K : PySem.W.Frag) (mg : PySem.Str → Option Value) (base : Heap) (c : Cfg) (Φ : List Fn) (G : List PyData) (T : Tb) : Prop where
  hK : K = c.K
  fns : ∀ i fn x, Φ[i]? = some fn → T.lookup x = some (.fn i) → ∃ f, mg x = some (.ref f) ∧ PySem.W.keepIn K (.ref f) = true ∧ FnM P w K mg base c (i + 1) f fn
  cst : ∀ k p x, G[k]? = some p → T.lookup x = some (.cst k) → ∃ u v, mg x = some u ∧ RelV v u ∧ ∀ L H, Rp c.K H L v p
  blt : ∀ x ∈ bltNames, mg x = none
section
variable {c : Cfg} {P : Program} {w : World} {K : PySem.W.Frag} {mg : PySem.Str → Option Value} {base : Heap} {f : Addr} {name qual : PySem.Str} {params : Arguments} {body : List Stmt} {scope : Scope} {dV kV doc pm cdv ct oc : Value} {an od : Option Addr}
  {osl : Array (Option Value)} {N ps : List PySem.Str} {Φ : List Fn} {G : List PyData} {T : Tb} {d : Def}
theorem body_ok (M : ModOk P w K mg base c Φ G T) (S : FnScope N ps scope) (ck : ckSs T N Φ.length d.body body scope = true) {A : Around} {outer : List Env} {s : Shared} {H : Hp} {E : XK} (hr : Room Φ.length (A.deeper (envOfC qual scope s.heap.objs.size f cdv))) (gd : A.guards = some []) :
    PSs (cxOf (L2.CX P w) P w K mg base N qual scope f cdv A outer s H E) body (rdS c (fun cls dd _ H' => E cls dd H') (evSs Φ G d.body)) := by
  have g : GoodS c (fun cls dd _ H' => E cls dd H') (cxOf (L2.CX P w) P w K mg base N qual scope f cdv A outer s H E) Φ G T :=
    { hK := M.hK, calm := rfl, tk := takes_of rfl rfl rfl rfl, rm := hr, gd := gd, nd := S.nd, fns := M.fns, cst := M.cst, blt := M.blt, own := passes_of rfl, fn := fun _ => rfl }
  exact allS g d.body body ck
theorem fn_plain (M : ModOk P w K mg base c Φ G T) (lk : K.lookup f = some ⟨oc, od, .func (PySem.W.fnOf name qual params body scope dV kV doc pm an cdv ct), osl⟩) (hcd : PySem.W.codeIn K cdv qual = true) (S : FnScope N ps scope)
    (hb : ∀ us : List Value, us.length = ps.length → bindArgs (PySem.W.fnOf name qual params body scope dV kV doc pm an cdv ct) ⟨us, []⟩ = pure (ps.zip us))
    (hva : d.va = false) (hnp : d.np = ps.length) (hns : d.ns = N.length) (ck : ckSs T N Φ.length d.body body scope = true) : FnM P w K mg base c (Φ.length + 1) f (mkFn Φ G d) := by
  intro A outer s H us vs Q E m S1 ds hr gd e0 r st rs h
  have hlen : ds.length = d.np := by
    unfold mkFn bindV at h
    rw [hva] at h
    by_cases q : Nat.beq ds.length d.np = true
    · exact Nat.eq_of_beq_eq_true q
    · simp only [q] at h
      exact h.elim
  have hbq : Nat.beq ds.length d.np = true := by rw [hlen]; exact Nat.beq_refl _
  unfold mkFn bindV at h
  simp only [hva, hbq, if_true] at h
  have hvl : vs.length = ps.length := by rw [rs.len, hlen, hnp]
  refine LamX.run_ofS lk hcd S hr e0 (BindsTo.of_eq (hb us (by rw [← r.length]; exact hvl))) r hvl fun hr' => ⟨_, body_ok M S ck hr' gd, ?_⟩
  refine ⟨m, S1, _, st, ?_, lft_leave (W := fun cls dd _ H' => E cls dd H') st h⟩
  show EvOk c m S1 H (vs.map some ++ List.replicate (N.length - vs.length) none) _
  have e : d.ns - ds.length = N.length - vs.length := by rw [hns, rs.len]
  rw [e]
  exact evOk_start rs
/-- a starred parameter: what is left over, as a new tuple -/
theorem fn_va {pv : PySem.Str} (M : ModOk P w K mg base c Φ G T) (lk : K.lookup f = some ⟨oc, od, .func (PySem.W.fnOf name qual params body scope dV kV doc pm an cdv ct), osl⟩) (hcd : PySem.W.codeIn K cdv qual = true) (S : FnScope N (ps ++ [pv]) scope)
    (hb : ∀ us rest : List Value, us.length = ps.length → bindArgs (PySem.W.fnOf name qual params body scope dV kV doc pm an cdv ct) ⟨us ++ rest, []⟩ = (newTuple rest >>= fun t => pure (ps.zip us ++ [(pv, t)])))
    (hva : d.va = true) (hnp : d.np = ps.length) (hns : d.ns = N.length) (ck : ckSs T N Φ.length d.body body scope = true) : FnM P w K mg base c (Φ.length + 1) f (mkFn Φ G d) := by
  intro A outer s H us vs Q E m S1 ds hr gd e0 r st rs h
  unfold mkFn bindV at h
  simp only [hva] at h
  by_cases q : (Nat.ble d.np ds.length && fits ds.length) = true
  case neg =>
    simp only [q] at h
    exact h.elim
  case pos =>
  simp only [q, if_true] at h
  simp only [Bool.and_eq_true] at q
  have hle : d.np ≤ ds.length := Nat.le_of_ble_eq_true q.1
  cases hd : toDats (ds.drop d.np) with
  | none => simp only [hd] at h; exact h.elim
  | some qs =>
    simp only [hd] at h
    have hdr := toDats_some hd
    have hv : vs = vs.take ps.length ++ vs.drop ps.length := (List.take_append_drop _ _).symm
    have hu : us = us.take ps.length ++ us.drop ps.length := (List.take_append_drop _ _).symm
    have r1 : Vals (vs.take ps.length) (us.take ps.length) := r.take _
    have r2 : Vals (vs.drop ps.length) (us.drop ps.length) := r.drop _
    have rs1 : RDs c.K m S1 H (vs.take ps.length) (ds.take ps.length) := RDs.takeN rs _
    have rs2 : RDs c.K m S1 H (vs.drop ps.length) (ds.drop ps.length) := RDs.dropN rs _
    have hvl : (vs.take ps.length).length = ps.length := by
      rw [List.length_take, rs.len]
      omega
    have hul : (us.take ps.length).length = ps.length := by rw [← r1.length]; exact hvl
    have hz : (vs.drop ps.length).length ≤ sizeLine := by
      have := fits_ok q.2
      rw [List.length_drop, rs.len]
      omega
    have hz2 : (us.drop ps.length).length ≤ sizeLine := by rw [← r2.length]; exact hz
    have hn : H s.heap.objs.size = none := e0.hok.fresh (Nat.le_refl _)
    refine StX.run_bnd lk hcd S hr e0 (G := fun xs H2 => ∃ p, H p = none ∧ xs = vs.take ps.length ++ [V.ref p] ∧ H2 = upd H p (.tup (vs.drop ps.length))) (fun A' Ex Q' k => ?_) fun s2 H2 xs ⟨p, hp, ex, eH⟩ hr' => ⟨_, body_ok M S ck hr' gd, ?_⟩
    · rw [hu, hb _ _ hul]
      refine wpAny_bind (wpAny_newTuple (wpAny_pure ?_) hz2)
      have new : ObjOk P w (upd H s.heap.objs.size (.tup (vs.drop ps.length))) (s.heap.push ({ cls := .type "tuple", data := .seq (us.drop ps.length).toArray } : Obj)) s.heap.objs.size (.tup (vs.drop ps.length)) := ⟨hz, _, r2, ⟨_, Heap.get?_push_size _ rfl, rfl, _, rfl⟩⟩
      have un := StX.un_laid (fs := frs outer) (s := s) (o := ({ cls := .type "tuple", data := .seq (us.drop ps.length).toArray } : Obj)) (u := .tup (vs.drop ps.length)) hn
      have z := k _ _ (vs.take ps.length ++ [V.ref s.heap.objs.size]) (us.take ps.length ++ [Value.ref s.heap.objs.size]) (StX.env0_laid e0 new) un rfl (fun e s' => StX.cxUp outer s H _ _ E e s' un (fun b o q => Heap.get?_push_of_some _ q) rfl) (r1.append (.cons rfl .nil))
        (by rw [List.length_append, List.length_append, hvl] <;> rfl) ⟨_, hn, rfl, rfl⟩
      rw [List.zip_append hul.symm] at z
      exact z
    · subst ex eH
      have st2 : Sto c m S1 (upd H p (.tup (vs.drop ps.length))) := st.new hp
      have n2 : Nxt m S1 H m S1 (upd H p (.tup (vs.drop ps.length))) := nxt_plain hp
      have rr : RDs c.K m S1 (upd H p (.tup (vs.drop ps.length))) (vs.take ps.length ++ [V.ref p]) (ds.take d.np ++ [.dat (.tuple qs)]) := by
        rw [hnp]
        refine RDs.app (RDs.nxt st n2 rs1) (.cons ?_ .nil)
        rw [hnp] at hdr
        rw [hdr] at rs2
        exact rp_tup st hp (Rps.of_paired rs2)
      refine ⟨m, S1, _, st2, ?_, lft_leave (W := fun cls dd _ H' => E cls dd H') st2 (Lft.from_ n2 h)⟩
      show EvOk c m S1 _ ((vs.take ps.length ++ [V.ref p]).map some ++ List.replicate (N.length - (vs.take ps.length ++ [V.ref p]).length) none) _
      have e : d.ns - (ds.take d.np ++ [D.dat (.tuple qs)]).length = N.length - (vs.take ps.length ++ [V.ref p]).length := by rw [hns, rr.len]
      rw [e]
      exact evOk_start rr
end
end MP
end
section
/-! MiniPy: the module's defs; the law's end. -/
namespace MP
open PySem PySem.Spec PyProof.Rows L2
/-- a def: the name under which it stands, its own, its text, its slots, its parameters, the starred one, what it stands for -/
structure DI where
  nm : PySem.Str
  fnm : PySem.Str
  st : Stmt
  N : List PySem.Str
  ps : List PySem.Str
  pv : Option PySem.Str
  d : Def
def DI.all (x : DI) : List PySem.Str := x.ps ++ x.pv.toList
def DI.def_ (x : DI) : He.DefD := ⟨(x.nm, none), x.fnm, x.fnm, defArgs x.st, defBody x.st, defScope x.st, [], []⟩
def scB (N P : List PySem.Str) (sc : Scope) : Bool :=
  decide (sc.kind = .function) && !sc.isCoroutine && !sc.isGenerator && decide N.Nodup && decide (N.take P.length = P) &&
    P.all (fun x => decide (sc.names.lookup x = some .local ∨ sc.names.lookup x = some .cell)) && sc.names.all fun y => decide (y.2 ≠ .free)
theorem scB_ok {N P : List PySem.Str} {sc : Scope} (h : scB N P sc = true) : FnScope N P sc := by
  unfold scB at h
  simp only [Bool.and_eq_true, decide_eq_true_eq, Bool.not_eq_true', List.all_eq_true] at h
  obtain ⟨⟨⟨⟨⟨⟨h1, h2⟩, h3⟩, h4⟩, h5⟩, h6⟩, h7⟩ := h
  exact ⟨h1, h2, h3, h4, h5, h6, h7⟩
def ckD (T : Tb) (i : Nat) (x : DI) : Bool :=
  scB x.N x.all (defScope x.st) && Nat.beq x.d.np x.ps.length && Nat.beq x.d.ns x.N.length && (x.d.va == x.pv.isSome) && ckSs T x.N i x.d.body (defBody x.st) (defScope x.st)
def BindP (x : DI) : Prop := match x.pv with
  | none => ∀ (kV doc pm : Value) (an : Option Addr) (cdv ct : Value) (us : List Value), us.length = x.ps.length → bindArgs (PySem.W.fnOf x.fnm x.fnm (defArgs x.st) (defBody x.st) (defScope x.st) .none kV doc pm an cdv ct) ⟨us, []⟩ = pure (x.ps.zip us)
  | some pv => ∀ (kV doc pm : Value) (an : Option Addr) (cdv ct : Value) (us rest : List Value), us.length = x.ps.length → bindArgs (PySem.W.fnOf x.fnm x.fnm (defArgs x.st) (defBody x.st) (defScope x.st) .none kV doc pm an cdv ct) ⟨us ++ rest, []⟩ = (newTuple rest >>= fun t => pure (x.ps.zip us ++ [(pv, t)]))
section
variable {P : Program} {w : World} {K : PySem.W.Frag} {mg : PySem.Str → Option Value} {base : Heap} {c : Cfg} {Φ : List Fn} {G : List PyData} {T : Tb}
theorem def_ok (M : ModOk P w K mg base c Φ G T) {x : DI} {f : Addr} {fd : FuncData} (F : FunD K x.fnm x.fnm (defArgs x.st) (defBody x.st) (defScope x.st) [] [] f fd) (ck : ckD T Φ.length x = true) (hb : BindP x) : FnM P w K mg base c (Φ.length + 1) f (mkFn Φ G x.d) := by
  unfold ckD at ck
  simp only [Bool.and_eq_true, beq_iff_eq] at ck
  obtain ⟨⟨⟨⟨k1, k2⟩, k3⟩, k4⟩, k5⟩ := ck
  have k2 := Nat.eq_of_beq_eq_true k2
  have k3 := Nat.eq_of_beq_eq_true k3
  obtain ⟨oc, od, dV, kV, doc, pm, an, cdv, ct, osl, rfl, lk, hcd, hD, _⟩ := F.ex
  have hdV : dV = .none := by
    rcases hD with ⟨_, e⟩ | ⟨e, _⟩
    · exact e
    · exact absurd rfl e
  subst hdV
  unfold BindP at hb
  cases hp : x.pv with
  | none =>
    rw [hp] at hb k4
    unfold DI.all at k1
    rw [hp] at k1
    exact fn_plain M lk hcd (by simpa using scB_ok k1) (hb kV doc pm an cdv ct) k4 k2 k3 k5
  | some pv =>
    rw [hp] at hb k4
    unfold DI.all at k1
    rw [hp] at k1
    exact fn_va M lk hcd (by simpa using scB_ok k1) (hb kV doc pm an cdv ct) k4 k2 k3 k5
theorem fnsOf_eq (G : List PyData) : ∀ (l : List Def) (Φ : List Fn), ∃ r, fnsOf G l Φ = Φ ++ r ∧ r.length = l.length
  | [], Φ => ⟨[], by simp [fnsOf], rfl⟩
  | d :: l, Φ => by
    obtain ⟨r, h1, h2⟩ := fnsOf_eq G l (Φ ++ [mkFn Φ G d])
    exact ⟨mkFn Φ G d :: r, by unfold fnsOf; rw [h1, List.append_assoc]; rfl, by simp [h2]⟩
/-- all the defs -/
theorem mods_ok : ∀ (l : List DI) (Φ : List Fn), ModOk P w K mg base c Φ G T → (∀ j x, l[j]? = some x → ckD T (Φ.length + j) x = true ∧ BindP x ∧ mg x.nm = some (.ref (He.fAd K (x.nm, none))) ∧ PySem.W.keepIn K (.ref (He.fAd K (x.nm, none))) = true ∧
      (∃ fd, FunD K x.fnm x.fnm (defArgs x.st) (defBody x.st) (defScope x.st) [] [] (He.fAd K (x.nm, none)) fd) ∧ ∀ y, T.lookup y = some (.fn (Φ.length + j)) → y = x.nm) → ModOk P w K mg base c (fnsOf G (l.map (·.d)) Φ) G T
  | [], Φ, M, _ => M
  | x :: l, Φ, M, h => by
    obtain ⟨h1, h2, h3, h4, ⟨fd, h5⟩, h6⟩ := h 0 x rfl
    have F := def_ok M h5 h1 h2
    refine mods_ok l (Φ ++ [mkFn Φ G x.d]) ⟨M.hK, fun i fn y e1 e2 => ?_, M.cst, M.blt⟩ fun j y hy => ?_
    · by_cases hi : i < Φ.length
      · rw [List.getElem?_append_left hi] at e1
        exact M.fns i fn y e1 e2
      · have hi' : Φ.length ≤ i := Nat.le_of_not_lt hi
        rw [List.getElem?_append_right hi'] at e1
        have hl : i - Φ.length < [mkFn Φ G x.d].length := (List.getElem?_eq_some_iff.mp e1).1
        have hi2 : i = Φ.length := by
          simp only [List.length_singleton] at hl
          omega
        subst hi2
        rw [Nat.sub_self] at e1
        cases e1
        have := h6 y e2
        subst this
        exact ⟨_, h3, h4, F⟩
    · have q := h (j + 1) y hy
      have e : (Φ ++ [mkFn Φ G x.d]).length + j = Φ.length + (j + 1) := by
        rw [List.length_append, List.length_singleton]
        omega
      rw [e]
      exact q
end
/-! ### the law's end -/
section
open PySem.W
/-- the heap that is known at the law's entry: the empty tables, the script -/
def H0 (cs : List (Addr × Addr)) (K : PySem.W.Frag) (a : Addr) (vs : List Value) (ns : List Int) : Hp := fun b =>
  if b ∈ cs.map (·.2) then some (.tbl #[]) else if b = a ∧ K.lookup a = none then some (.frz { cls := .type "list", data := .seq vs.toArray } (.lst (ns.map V.int))) else none
theorem mp_call {P : Program} {w : World} {K : PySem.W.Frag} {mg mb : PySem.Str → Option Value} {fa a : Addr} {cs : List (Addr × Addr)} {s₁ : Shared} {vs : List Value} {ns : List Int}
    (KX : K.In s₁.heap) (hns : s₁.heap.Ns mainGlobals mg) (hb : s₁.heap.Ns builtinsNs mb) (hbb : ∀ x : PySem.Str, x ≠ "__name__" → mb x = bootBuiltins x) (hlim : s₁.heap.NoLimit) (hg : s₁.gens = #[])
    (hT : ∀ p ∈ cs, s₁.heap.get? p.2 = some { cls := .none, data := .fields #[] }) (nT : ∀ p ∈ cs, K.lookup p.2 = none) (C : ∀ p ∈ cs, PySem.W.CodeHd s₁.heap p.1 p.2)
    (hbm : ∃ (bm : Addr) (ob : Obj), mg "__builtins__" = some (.ref bm) ∧ bm ≠ builtinsNs ∧ s₁.heap.get? bm = some ob ∧ ob.cls = .type "module" ∧ ob.dict = some builtinsNs ∧ ob.data = .plain)
    (ha : s₁.heap.get? a = some { cls := .type "list", data := .seq vs.toArray }) (hi : IntsAre vs ns) (hl : ns.length ≤ sizeLine)
    (F : ∀ base : Heap, K.In base → base.Ns mainGlobals mg → (∀ p ∈ cs, LamX.TabB base mg p.1 p.2) → Env0 P w K mg base callerA [] s₁ (H0 cs K a vs ns) → (∀ p ∈ cs, H0 cs K a vs ns p.2 = some (.tbl #[])) →
      ((Rd (H0 cs K a vs ns) a (.lst (ns.map V.int))) ∨ KL K a (ns.map V.int)) →
      codeAny (model P w) callerA (.call (.ref fa) ⟨[.ref a], []⟩) (CR (L2.CX P w) [] P w (H0 cs K a vs ns) s₁ (fun v _ => v = .bl true) fun _ _ _ => False) s₁) :
    codeAny (model P w) callerA (.call (.ref fa) ⟨[.ref a], []⟩) (fun r s' => r = .ok (.ret (.bool true)) ∧ OldK s₁.heap s'.heap ∧ s'.os = s₁.os ∧ AllBare s'.gens) s₁ := by
  have rv := vals_ints hi
  have tab : ∀ b, b ∈ cs.map (·.2) → s₁.heap.get? b = some { cls := .none, data := .fields #[] } ∧ K.lookup b = none := fun b hb => by
    obtain ⟨p, hp, e⟩ := List.mem_map.mp hb
    subst e
    exact ⟨hT p hp, nT p hp⟩
  have inT : ∀ p ∈ cs, p.2 ∈ cs.map (·.2) := fun p hp => List.mem_map.mpr ⟨p, hp, rfl⟩
  have atT : ∀ b, b ∈ cs.map (·.2) → H0 cs K a vs ns b = some (.tbl #[]) := fun b hb => if_pos hb
  have aT : a ∉ cs.map (·.2) := fun z => by
    have q := (tab a z).1
    rw [ha] at q
    exact nomatch (show Data.seq vs.toArray _ = Data.fields #[] from congrArg (·.data) (Option.some.inj q))
  have atA : K.lookup a = none → H0 cs K a vs ns a = some (.frz { cls := .type "list", data := .seq vs.toArray } (.lst (ns.map V.int))) := fun hk => (if_neg aT).trans (if_pos ⟨rfl, hk⟩)
  have off : ∀ b, b ∉ cs.map (·.2) → ¬ (b = a ∧ K.lookup a = none) → H0 cs K a vs ns b = none := fun b h1 h2 => (if_neg h1).trans (if_neg h2)
  -- whatever is no table and no list is not tracked
  have plain : ∀ {b : Addr} {o : Obj}, s₁.heap.get? b = some o → (∀ us n, o.data ≠ .seq us n) → o.data ≠ .fields #[] → H0 cs K a vs ns b = none := fun {b o} e h1 h2 => by
    refine off b (fun z => ?_) fun z => ?_
    · have q := (tab b z).1
      rw [e] at q
      exact h2 (congrArg Obj.data (Option.some.inj q))
    · rw [z.1, ha] at e
      exact h1 _ _ (congrArg Obj.data (Option.some.inj e)).symm
  have dicts : ∀ {b : Addr} {m : PySem.Str → Option Value}, s₁.heap.Ns b m → (hidT s₁.heap (H0 cs K a vs ns)).Ns b m := fun {b m} ⟨o, es, ep, e, d, r⟩ => by
    refine ⟨o, es, ep, hidT_get e (plain e (fun us n z => ?_) fun z => ?_), d, r⟩ <;> (rw [d] at z; cases z)
  have kin : K.In (hidT s₁.heap (H0 cs K a vs ns)) := fun b o e => by
    refine hidT_get (KX b o e) (off b (fun z => ?_) fun z => ?_)
    · rw [(tab b z).2] at e; cases e
    · rw [z.1, z.2] at e; cases e
  have hok : HOk P w (H0 cs K a vs ns) s₁.heap := fun b u q => by
    by_cases h1 : b ∈ cs.map (·.2)
    · rw [atT b h1] at q
      cases q
      exact (tab b h1).1
    · by_cases h2 : b = a ∧ K.lookup a = none
      · obtain ⟨rfl, h2⟩ := h2
        rw [atA h2] at q
        cases q
        exact ⟨ha, by rw [List.length_map]; exact hl, vs, _, rv, ha⟩
      · rw [off b h1 h2] at q
        cases q
  have mo : L2.Mod K mg (hidT s₁.heap (H0 cs K a vs ns)) := ⟨kin, dicts hns, ⟨mb, dicts hb, hbb⟩, let ⟨mc, h1, h2⟩ := hlim; ⟨mc, dicts h1, h2⟩⟩
  have tb : ∀ p ∈ cs, LamX.TabB (hidT s₁.heap (H0 cs K a vs ns)) mg p.1 p.2 := fun p hp => by
    refine ⟨?_, ?_, fun z => ?_⟩
    · obtain ⟨o, us, file, tf, flags, tg, inF, text, tt, e1, r1, r2, r3, rest⟩ := C p hp
      refine ⟨o, us, file, tf, flags, tg, inF, text, tt, hidT_get e1 (plain e1 (fun zs n z => ?_) fun z => ?_), r1, r2, r3, rest⟩
      · rw [r2] at z; cases z
      · rw [r2] at z
        have z := Data.fields.inj z
        rw [z] at r3
        simp at r3
    · obtain ⟨bm, ob, b1, b2, b3, b4, b5, b6⟩ := hbm
      refine ⟨bm, ob, b1, b2, fun q => ?_, fun q => ?_, hidT_get b3 (plain b3 (fun zs n z => ?_) fun z => ?_), b4, b5, b6⟩
      · obtain ⟨o, es, ep, e, d, _⟩ := hns
        rw [q, e] at b3
        cases b3
        rw [d] at b6
        cases b6
      · rw [q, hT p hp] at b3
        cases b3
        cases b6
      · rw [b6] at z; cases z
      · rw [b6] at z; cases z
    · obtain ⟨o, es, ep, e, d, _⟩ := hns
      rw [z, hT p hp] at e
      cases e
      cases d
  have e0 : Env0 P w K mg (hidT s₁.heap (H0 cs K a vs ns)) callerA [] s₁ (H0 cs K a vs ns) := ⟨rfl, mo, fun b o e => of_hidT e, Nat.le_of_eq (hidT_size _ _), trivial, fun b hb => (List.not_mem_nil hb).elim, hok, .of_eq hg⟩
  have scr : Rd (H0 cs K a vs ns) a (.lst (ns.map V.int)) ∨ KL K a (ns.map V.int) := by
    cases hk : K.lookup a with
    | none => exact .inl (.inr ⟨_, atA hk⟩)
    | some o =>
      have e := KX a o hk
      rw [ha] at e
      cases e
      exact .inr ⟨_, vs.toArray, _, hk, rfl, rfl, rfl, by rw [List.size_toArray, hi.length]; exact hl, by simpa using rv⟩
  refine codeAny_mono (F _ kin (dicts hns) tb e0 (fun p hp => atT _ (inT p hp)) scr) fun r s' h => ?_
  cases r with
  | error e =>
    obtain ⟨_, _, _, _, _, _, _, _, _, _, _, _, z⟩ := h
    exact z.elim
  | ok fl =>
    cases fl with
    | next => exact False.elim h
    | brk => exact False.elim h
    | cont => exact False.elim h
    | ret u =>
      obtain ⟨v, H', os, bare, un, hok', r', q⟩ := h
      subst q
      obtain rfl : u = Value.bool true := r'
      have kept : ∀ b o, b ∉ cs.map (·.2) → s₁.heap.get? b = some o → s'.heap.get? b = some o := fun b o nb e => by
        by_cases h2 : b = a ∧ K.lookup a = none
        · obtain ⟨rfl, h2⟩ := h2
          have z := un.frzs b _ _ (atA h2)
          obtain ⟨e2, _⟩ := hok' b _ z
          rw [ha] at e
          cases e
          exact e2
        · exact un.keep b o e (off b nb h2) (fun z => (List.not_mem_nil z).elim) fun z => (List.not_mem_nil z).elim
      have grown : ∀ p ∈ cs, ∃ more : Array Value, s'.heap.get? p.2 = some { cls := .none, data := .fields more } := fun p hp => by
        obtain ⟨more, z⟩ := un.tbls p.2 #[] (atT _ (inT p hp))
        exact ⟨_, hok' p.2 _ z⟩
      refine ⟨rfl, ⟨fun b o e => ?_, fun b o e => ?_⟩, os, bare⟩
      · by_cases hm : b ∈ cs.map (·.2)
        · obtain ⟨p, hp, ep⟩ := List.mem_map.mp hm
          subst ep
          obtain ⟨more, gr⟩ := grown p hp
          rw [hT p hp] at e
          cases e
          exact .inr (.inl ⟨((C p hp).tab (hT p hp)).isCodeTable, rfl, #[], more, rfl, by rw [Array.empty_append]; exact gr⟩)
        · exact .inl (kept b o hm e)
      · by_cases hm : b ∈ cs.map (·.2)
        · obtain ⟨p, hp, ep⟩ := List.mem_map.mp hm
          subst ep
          obtain ⟨more, gr⟩ := grown p hp
          exact ⟨_, gr⟩
        · exact ⟨o, kept b o hm e⟩
end
end MP
end
section
/-! MiniPy: a law row from its defs and the evaluator's answer. -/
namespace MP
open PySem PySem.Spec PyProof.Rows L2
def tbF : Nat → List DI → Tb
  | _, [] => []
  | i, x :: r => (x.nm, .fn i) :: tbF (i + 1) r
def tbC : Nat → List (PySem.Str × PyData) → Tb
  | _, [] => []
  | k, x :: r => (x.1, .cst k) :: tbC (k + 1) r
def tbOf (DL : List DI) (CT : List (PySem.Str × PyData)) : Tb := tbF 0 DL ++ tbC 0 CT
theorem tbF_mem : ∀ {l : List DI} {i j : Nat} {y : PySem.Str} {g : Gk}, (y, g) ∈ tbF i l → ∃ j x, g = .fn (i + j) ∧ l[j]? = some x ∧ x.nm = y
  | x :: l, i, j, y, g, h => by
    rcases List.mem_cons.mp (show (y, g) ∈ (x.nm, Gk.fn i) :: tbF (i + 1) l from h) with e | h
    · cases e
      exact ⟨0, x, rfl, rfl, rfl⟩
    · obtain ⟨j', x', h1, h2, h3⟩ := tbF_mem (j := j) h
      exact ⟨j' + 1, x', by rw [h1]; congr 1; omega, by simpa using h2, h3⟩
theorem tbC_mem : ∀ {l : List (PySem.Str × PyData)} {i : Nat} {y : PySem.Str} {g : Gk}, (y, g) ∈ tbC i l → ∃ j x, g = .cst (i + j) ∧ l[j]? = some x ∧ x.1 = y
  | x :: l, i, y, g, h => by
    rcases List.mem_cons.mp (show (y, g) ∈ (x.1, Gk.cst i) :: tbC (i + 1) l from h) with e | h
    · cases e
      exact ⟨0, x, rfl, rfl, rfl⟩
    · obtain ⟨j', x', h1, h2, h3⟩ := tbC_mem h
      exact ⟨j' + 1, x', by rw [h1]; congr 1; omega, by simpa using h2, h3⟩
def cstFa : PySem.Str × PyData → List He.Fa
  | (x, .int i) => [.int x i]
  | (x, .str s) => [.str x s]
  | _ => []
def cstOk : PyData → Bool
  | .int _ => true
  | .str _ => true
  | _ => false
def faL (DL : List DI) (CT : List (PySem.Str × PyData)) : List He.Fa := DL.map (fun x => He.Fa.glo x.nm) ++ bltNames.map He.Fa.free ++ CT.flatMap cstFa
def fnL (DL : List DI) : List He.DefD := DL.map DI.def_
section
variable {DL : List DI} {CT : List (PySem.Str × PyData)} {K : PySem.W.Frag} {h : Heap} {mg : PySem.Str → Option Value} {P : Program} {w : World} {base : Heap} {c : Cfg}
theorem SaysD.fact_mem {fa : List He.Fa} {fn : List He.DefD} (s : He.SaysD fa fn K) {f : He.Fa} (hf : f ∈ fa) : f.ok K = true := by
  obtain ⟨i, hi⟩ := List.mem_iff_getElem?.mp hf
  exact s.fact i hi
theorem mod0 (hK : K = c.K) (X : K.In h) (G : h.Ns mainGlobals mg) (s : He.SaysD (faL DL CT) (fnL DL) K) (hc : CT.all (fun x => cstOk x.2) = true) : ModOk P w K mg base c [] (CT.map (·.2)) (tbOf DL CT) := by
  refine ⟨hK, fun i fn x e _ => (nomatch e), fun k p x e1 e2 => ?_, fun x hx => ?_⟩
  · have hm : (x, Gk.cst k) ∈ tbOf DL CT := PySem.mem_of_lookup e2
    rcases List.mem_append.mp hm with z | z
    · obtain ⟨j, y, h1, _⟩ := tbF_mem (j := 0) z
      cases h1
    · obtain ⟨j, y, h1, h2, h3⟩ := tbC_mem z
      have hj : k = j := by
        have := Gk.cst.inj h1
        omega
      subst hj
      rw [List.getElem?_map, h2] at e1
      cases e1
      have hok := List.all_eq_true.mp hc y (List.mem_of_getElem? h2)
      obtain ⟨yn, yp⟩ := y
      subst h3
      have inF : ∀ f ∈ cstFa (yn, yp), f.ok K = true := fun f hf => SaysD.fact_mem s (List.mem_append_right _ (List.mem_flatMap.mpr ⟨_, List.mem_of_getElem? h2, hf⟩))
      cases yp with
      | int i =>
        obtain ⟨t, ht⟩ := He.int_ok X G (inF (.int yn i) (by simp [cstFa]))
        exact ⟨_, .int i, ht, ⟨t, rfl⟩, fun _ _ => .int i⟩
      | str u =>
        obtain ⟨t, ht⟩ := He.str_ok X G (inF (.str yn u) (by simp [cstFa]))
        exact ⟨_, .str u, ht, ⟨t, rfl⟩, fun _ _ => .str u⟩
      | _ => cases hok
  · exact He.free_ok X G (SaysD.fact_mem s (List.mem_append_left _ (List.mem_append_right _ (List.mem_map.mpr ⟨x, hx, rfl⟩))))
def ckAll (T : Tb) : Nat → List DI → Bool
  | _, [] => true
  | i, x :: r => ckD T i x && ckAll T (i + 1) r
theorem ckAll_at {T : Tb} : ∀ {l : List DI} {i j : Nat} {x : DI}, ckAll T i l = true → l[j]? = some x → ckD T (i + j) x = true
  | y :: l, i, 0, x, h, e => by
    simp only [ckAll, Bool.and_eq_true] at h
    cases e
    exact h.1
  | y :: l, i, j + 1, x, h, e => by
    simp only [ckAll, Bool.and_eq_true] at h
    have := ckAll_at h.2 (show l[j]? = some x by simpa using e)
    have e2 : i + 1 + j = i + (j + 1) := by omega
    rw [e2] at this
    exact this
theorem mod_ok (hK : K = c.K) (X : K.In h) (G : h.Ns mainGlobals mg) (s : He.SaysD (faL DL CT) (fnL DL) K) (hc : CT.all (fun x => cstOk x.2) = true) (ck : ckAll (tbOf DL CT) 0 DL = true) (hb : ∀ x ∈ DL, BindP x) :
    ModOk P w K mg base c (fnsOf (CT.map (·.2)) (DL.map (·.d)) []) (CT.map (·.2)) (tbOf DL CT) := by
  refine mods_ok DL [] (mod0 hK X G s hc) fun j x hx => ?_
  have hm := List.mem_of_getElem? hx
  have g := SaysD.fact_mem s (f := .glo x.nm) (List.mem_append_left _ (List.mem_append_left _ (List.mem_map.mpr ⟨x, hm, rfl⟩)))
  have e : (fnL DL)[j]? = some x.def_ := by
    unfold fnL
    rw [List.getElem?_map, hx]
    rfl
  obtain ⟨fd, F⟩ := s.def_ j e
  refine ⟨ckAll_at ck hx, hb x hm, He.glo_ok X G g, F.kp, ⟨fd, F⟩, fun y hy => ?_⟩
  have hm2 : (y, Gk.fn (([] : List Fn).length + j)) ∈ tbOf DL CT := PySem.mem_of_lookup hy
  rcases List.mem_append.mp hm2 with z | z
  · obtain ⟨j', x', h1, h2, h3⟩ := tbF_mem (j := 0) z
    have hj : j = j' := by
      have := Gk.fn.inj h1
      simpa using this
    subst hj
    rw [hx] at h2
    cases h2
    exact h3.symm
  · obtain ⟨_, _, h1, _⟩ := tbC_mem z
    cases h1
end
/-- the law's end: what the evaluator says of every script -/
theorem mp_walk {l : PySem.W.OpenLaw} {n m i : Nat} {q : Program} {loose : List PySem.Str} {XP : (PySem.Str → Option Value) → Heap → Prop} {d : DefRec} {DL : List DI} {CT : List (PySem.Str × PyData)} {fn : Fn}
    (hn : l.most = some n) (hn2 : n ≤ sizeLine) (hdf : d.params.defaults = []) (hr : Room DL.length callerA) (hc : CT.all (fun x => cstOk x.2) = true) (ck : ckAll (tbOf DL CT) 0 DL = true) (hb : ∀ x ∈ DL, BindP x)
    (hl : (tbOf DL CT).lookup d.name = some (.fn i)) (hfn : (fnsOf (CT.map (·.2)) (DL.map (·.d)) [])[i]? = some fn)
    (ev : ∀ ns : List Int, ns.length ≤ n → (∀ z ∈ ns, Builtin.Int.intBits z ≤ 1048576) → ∃ S, fn [.scr ns] [] = .ok (.dat (.bool true)) S) :
    PySem.W.WalkO q loose XP (He.hookD m (faL DL CT) (fnL DL)).says l.row.toRowW d [] (fun f vs => PySem.call f vs) := by
  refine Att.attach_callB hn hdf fun w s₀ s₁ mg mb fa o pm cd doc a vs ns G Y ho hd hcd hmg hobj hints hlen hbits hg => ?_
  obtain ⟨K, KX, sy⟩ := Y
  refine mp_call (cs := []) KX G.T.g G.T.b G.T.builtins G.T.nolimit hg (fun p hp => (nomatch hp)) (fun p hp => (nomatch hp)) (fun p hp => (nomatch hp)) G.T.bmain hobj hints (Nat.le_trans hlen hn2) fun base kb nb _ e0 _ hs => ?_
  have M : ModOk l.prog w K mg base ⟨K, [], []⟩ (fnsOf (CT.map (·.2)) (DL.map (·.d)) []) (CT.map (·.2)) (tbOf DL CT) := mod_ok rfl KX G.T.g sy hc ck hb
  obtain ⟨f, hf, _, F⟩ := M.fns i fn d.name hfn hl
  rw [hmg] at hf
  cases hf
  obtain ⟨S, hS⟩ := ev ns hlen hbits
  have hil : i < DL.length := by
    obtain ⟨r, h1, h2⟩ := fnsOf_eq (CT.map (·.2)) (DL.map (·.d)) []
    rw [h1] at hfn
    have := (List.getElem?_eq_some_iff.mp hfn).1
    simp only [List.nil_append, h2, List.length_map] at this
    exact this
  refine F callerA [] s₁ _ [.ref a] [.ref a] _ _ ⟨[], []⟩ [] [.scr ns] (hr.mono hil) rfl e0 (.cons rfl .nil) ?_ (.cons ?_ .nil) ?_
  · exact ⟨rfl, List.nodup_nil, fun n a x h => (nomatch h), fun n l h => (nomatch h), fun a h => (nomatch h), fun a h => (nomatch h), fun p hp => (nomatch hp)⟩
  · refine ⟨a, rfl, hs.imp (fun z => ⟨z, ?_⟩) id⟩
    rintro (⟨k, x, h1, _⟩ | h)
    · exact nomatch h1
    · exact nomatch h
  · rw [hS]
    exact fun m' H' _ _ v rv => rd_bool rv
end MP
end
section
/-! MiniPy: what a run comes to, as conditions (no program in sight). -/
namespace MP
open PySem
def W {α : Type} (r : Res α) (Q : α → Store → Prop) : Prop := match r with
  | .ok a S => Q a S
  | _ => False
def WS (r : SR) (N : Ev → Store → Prop) (R : D → Store → Prop) : Prop := match r with
  | .nx ev S => N ev S
  | .rt d S => R d S
  | _ => False
section
variable {α β : Type} {Q : α → Store → Prop} {S S' : Store} {N : Ev → Store → Prop} {R : D → Store → Prop} {ev : Ev} {Φ : List Fn} {G : List PyData}
theorem W_ok (a : α) : W (.ok a S) Q = Q a S := rfl
theorem W_bind (r : Res β) (f : β → Store → Res α) : W (r.bind f) Q = W r fun b S' => W (f b S') Q := by cases r <;> rfl
theorem W_ofP (o : Option (α × Store)) : W (Res.ofP o) Q = ∃ a S', o = some (a, S') ∧ Q a S' := by
  cases o with
  | none => simp [Res.ofP, W]
  | some p =>
    obtain ⟨a, S'⟩ := p
    simp only [Res.ofP, W]
    refine propext ⟨fun h => ⟨a, S', rfl, h⟩, fun ⟨b, S2, e, h⟩ => ?_⟩
    cases e
    exact h
theorem W_ofO (o : Option α) : W (Res.ofO o S) Q = ∃ a, o = some a ∧ Q a S := by
  cases o <;> simp [Res.ofO, W]
theorem W_mono {r : Res α} {Q' : α → Store → Prop} (h : W r Q) (k : ∀ a S', Q a S' → Q' a S') : W r Q' := by
  cases r with
  | ok a S' => exact k _ _ h
  | _ => exact h
theorem W_eq {r : Res α} (h : W r Q) : ∃ a S', r = .ok a S' ∧ Q a S' := by
  cases r with
  | ok a S' => exact ⟨a, S', rfl, h⟩
  | exc _ _ => exact h.elim
  | fail => exact h.elim
theorem WS_nx : WS (.nx ev S) N R = N ev S := rfl
theorem WS_rt (d : D) : WS (.rt d S) N R = R d S := rfl
theorem WS_sr (r : Res α) (f : α → Store → SR) : WS (r.sr ev f) N R = W r fun a S' => WS (f a S') N R := by cases r <;> rfl
theorem WS_nil : WS (evSs Φ G .nil ev S) N R = N ev S := rfl
theorem WS_cons (a : CS) (r : CSs) : WS (evSs Φ G (.cons a r) ev S) N R = WS (evS Φ G a ev S) (fun ev1 S1 => WS (evSs Φ G r ev1 S1) N R) R := by
  show WS (match evS Φ G a ev S with
    | .nx ev1 S1 => evSs Φ G r ev1 S1
    | .rt d S1 => .rt d S1
    | .exc ev1 e S1 => .exc ev1 e S1
    | .fail => .fail) N R = _
  cases evS Φ G a ev S <;> rfl
theorem WS_mono {r : SR} {N' : Ev → Store → Prop} {R' : D → Store → Prop} (h : WS r N R) (k : ∀ e S', N e S' → N' e S') (k2 : ∀ d S', R d S' → R' d S') : WS r N' R' := by
  cases r with
  | nx e S' => exact k _ _ h
  | rt d S' => exact k2 _ _ h
  | _ => exact h
/-- a loop by its turns -/
theorem WS_for {it : ItS} {tg : Tg} {body : Ev → Store → SR} (I : Nat → Ev → Store → Prop) (n : Nat) (hn : n ≤ loopFuel)
    (step : ∀ i ev S, i < n → I i ev S → ∃ ds ev', it.next i S = .item ds ∧ tg.put ds ev = some ev' ∧ WS (body ev' S) (fun ev2 S2 => I (i + 1) ev2 S2) R)
    (stop : ∀ ev S, I n ev S → it.next n S = .stop ∧ N ev S) : ∀ (k i : Nat) (ev : Ev) (S : Store), i ≤ n → n - i ≤ k → I i ev S → WS (forLoop it tg body k i ev S) N R
  | k, i, ev, S, hi, hk, h => by
    by_cases e : i = n
    · subst e
      obtain ⟨h1, h2⟩ := stop ev S h
      cases k <;> (unfold forLoop; rw [h1]; exact h2)
    · have hlt : i < n := by omega
      cases k with
      | zero => omega
      | succ k =>
        obtain ⟨ds, ev', h1, h2, h3⟩ := step i ev S hlt h
        unfold forLoop
        rw [h1]
        simp only [h2]
        cases hb : body ev' S with
        | nx ev2 S2 =>
          rw [hb] at h3
          exact WS_for I n hn step stop k (i + 1) ev2 S2 (by omega) (by omega) h3
        | rt d S2 => rw [hb] at h3; exact h3
        | exc _ _ _ => rw [hb] at h3; exact h3.elim
        | fail => rw [hb] at h3; exact h3.elim
/-- a comprehension by its turns: the items so far -/
theorem comp_inv {it : ItS} {tg : Tg} {test : Ev → Store → Res Bool} {elt : SE} {ev : Ev} (I : Nat → List D → Store → Prop) (n : Nat)
    (step : ∀ i acc S, i < n → I i acc S → ∃ ds ev', it.next i S = .item ds ∧ tg.put ds ev = some ev' ∧ W (test ev' S) fun b S1 => (b = true → W (elt ev' S1) fun d S2 => I (i + 1) (acc ++ [d]) S2) ∧ (b = false → I (i + 1) acc S1))
    (stop : ∀ acc S, I n acc S → it.next n S = .stop) : ∀ (k i : Nat) (acc : List D) (S : Store), i ≤ n → n - i ≤ k → I i acc S → ∃ l S', compLoop it tg test elt ev k i S = some (l, S') ∧ I n (acc ++ l) S'
  | k, i, acc, S, hi, hk, h => by
    by_cases e : i = n
    · subst e
      have h1 := stop acc S h
      refine ⟨[], S, ?_, by simpa using h⟩
      cases k <;> (unfold compLoop; rw [h1])
    · have hlt : i < n := by omega
      cases k with
      | zero => omega
      | succ k =>
        obtain ⟨ds, ev', h1, h2, h3⟩ := step i acc S hlt h
        obtain ⟨b, S1, e1, h4, h5⟩ := W_eq h3
        cases b with
        | false =>
          obtain ⟨l, S', e2, h6⟩ := comp_inv I n step stop k (i + 1) acc S1 (by omega) (by omega) (h5 rfl)
          refine ⟨l, S', ?_, h6⟩
          unfold compLoop
          rw [h1]
          simp only [h2, e1, e2]
        | true =>
          obtain ⟨d, S2, e2, h6⟩ := W_eq (h4 rfl)
          obtain ⟨l, S', e3, h7⟩ := comp_inv I n step stop k (i + 1) (acc ++ [d]) S2 (by omega) (by omega) h6
          refine ⟨d :: l, S', ?_, by simpa using h7⟩
          unfold compLoop
          rw [h1]
          simp only [h2, e1, e2, e3, Option.map_some]
/-- what is walked, as a list of the items -/
def Walk (it : ItS) (S : Store) (its : List (List D)) : Prop := (∀ i ds, its[i]? = some ds → it.next i S = .item ds) ∧ it.next its.length S = .stop
theorem walk_one (ps : List PyData) (S : Store) : Walk (.one (.vals ps)) S (ps.map fun p => [.dat p]) := by
  refine ⟨fun i ds h => ?_, ?_⟩
  · rw [List.getElem?_map, Option.map_eq_some_iff] at h
    obtain ⟨p, h1, h2⟩ := h
    have hi := (List.getElem?_eq_some_iff.mp h1).1
    simp [ItS.next, Src.at, Nat.le_of_lt hi, h1, nx1, ← h2]
  · simp [ItS.next, Src.at, nx1]
theorem walk_enum (ps : List PyData) (S : Store) : Walk (.enum (.vals ps)) S (ps.zipIdx.map fun p => [.dat (.int (p.2 : Nat)), .dat p.1]) := by
  refine ⟨fun i ds h => ?_, ?_⟩
  · rw [List.getElem?_map, Option.map_eq_some_iff] at h
    obtain ⟨p, h1, h2⟩ := h
    rw [List.getElem?_zipIdx, Option.map_eq_some_iff] at h1
    obtain ⟨q, h3, h4⟩ := h1
    have hi := (List.getElem?_eq_some_iff.mp h3).1
    subst h4
    simp [ItS.next, Src.at, Nat.le_of_lt hi, h3, nxE, ← h2]
  · simp [ItS.next, Src.at, nxE]
theorem walk_zip (ps qs : List PyData) (hl : ps.length = qs.length) (S : Store) : Walk (.zip (.vals ps) (.vals qs)) S ((ps.zip qs).map fun p => [.dat p.1, .dat p.2]) := by
  refine ⟨fun i ds h => ?_, ?_⟩
  · rw [List.getElem?_map, Option.map_eq_some_iff] at h
    obtain ⟨p, h1, h2⟩ := h
    obtain ⟨h3, h4⟩ := List.getElem?_zip_eq_some.mp h1
    have hi := (List.getElem?_eq_some_iff.mp h3).1
    have hj := (List.getElem?_eq_some_iff.mp h4).1
    simp [ItS.next, Src.at, Nat.le_of_lt hi, Nat.le_of_lt hj, h3, h4, nx2, ← h2]
  · simp [ItS.next, Src.at, nx2, hl]
theorem walk_rng (lo : Int) (n : Nat) (S : Store) : Walk (.rng lo n) S ((List.range n).map fun i => [.dat (.int (lo + (i : Nat)))]) := by
  refine ⟨fun i ds h => ?_, ?_⟩
  · rw [List.getElem?_map, Option.map_eq_some_iff] at h
    obtain ⟨j, h1, h2⟩ := h
    obtain ⟨h3, h4⟩ := List.getElem?_eq_some_iff.mp h1
    rw [List.length_range] at h3
    rw [List.getElem_range] at h4
    subst h4
    simp [ItS.next, Nat.blt_eq, h3, ← h2]
  · simp [ItS.next, Nat.blt]
/-- a comprehension that changes nothing: tests b, values g, by the item -/
theorem comp_pure {it : ItS} {tg : Tg} {test : Ev → Store → Res Bool} {elt : SE} {ev : Ev} {S : Store} {its : List (List D)} (w : Walk it S its) (b : List D → Bool) (g : List D → D)
    (h : ∀ ds ∈ its, ∃ ev', tg.put ds ev = some ev' ∧ test ev' S = .ok (b ds) S ∧ (b ds = true → elt ev' S = .ok (g ds) S)) (k : Nat) (hk : its.length ≤ k) :
    compLoop it tg test elt ev k 0 S = some ((its.filter b).map g, S) := by
  have key : ∀ (k i : Nat), i ≤ its.length → its.length - i ≤ k → compLoop it tg test elt ev k i S = some (((its.drop i).filter b).map g, S) := by
    intro k
    induction k with
    | zero =>
      intro i hi hk
      have e : i = its.length := by omega
      subst e
      unfold compLoop
      rw [w.2]
      simp
    | succ k ih =>
      intro i hi hk
      unfold compLoop
      by_cases e : i = its.length
      · subst e
        rw [w.2]
        simp
      · have hlt : i < its.length := by omega
        have hg : its[i]? = some its[i] := by simp [hlt]
        obtain ⟨ev', h1, h2, h3⟩ := h its[i] (List.getElem_mem hlt)
        rw [w.1 i _ hg]
        have hd : its.drop i = its[i] :: its.drop (i + 1) := List.drop_eq_getElem_cons hlt
        simp only [h1, h2]
        rw [hd, List.filter_cons]
        cases hb : b its[i] with
        | false => simp only [Bool.false_eq_true, if_false]; exact ih (i + 1) hlt (by omega)
        | true =>
          simp only [if_true, h3 hb, ih (i + 1) hlt (by omega), Option.map_some, List.map_cons]
  exact key k 0 (Nat.zero_le _) (by omega)
end
end MP
end
section
/-! MiniPy: one equation per core form; bodies under binders stay closed. -/
namespace MP
open PySem
section
variable (Φ : List Fn) (G : List PyData)
def bodyT (ifs : CL) : Ev → Store → Res Bool := fun e s => evTs Φ G ifs e s
def bodyE (a : CE) : SE := fun e s => evE Φ G a e s
def bodyS (b : CSs) : Ev → Store → SR := fun e s => evSs Φ G b e s
def getV (o : Option (Option D)) (S : Store) : Res D := match o with
  | some (some d) => .ok d S
  | _ => .fail
def getG (o : Option PyData) (S : Store) : Res D := match o with
  | some p => .ok (.dat p) S
  | none => .fail
def negR (x : D) (S : Store) : Res D := match x with
  | .dat (.int i) => .ok (.dat (.int (-i))) S
  | _ => .fail
def fitR {α : Type} (n : Nat) (r : Res α) : Res α := if fits n then r else .fail
def compR {α : Type} (o : Option (List D × Store)) (f : List D → Store → Res α) : Res α := match o with
  | some (l, S) => f l S
  | none => .fail
def callR (o : Option Fn) (ds : List D) (S : Store) : Res D := match o with
  | some fn => fn ds S
  | none => .fail
def boolR (o : Option Bool) (S : Store) : Res D := match o with
  | some b => .ok (.dat (.bool b)) S
  | none => .fail
def selR {α : Type} (t : Bool) (a b : α) : α := match t with
  | true => a
  | false => b
def forkR {α : Type} (o : Option Bool) (a b : Res α) : Res α := match o with
  | some true => a
  | some false => b
  | none => .fail
def optR {α β : Type} (o : Option α) (f : α → Res β) : Res β := match o with
  | some a => f a
  | none => .fail
def iR (x : D) (S : Store) : Res (Option Int) := match x with
  | .dat (.int i) => .ok (some i) S
  | _ => .fail
def rng1R (x : D) (S : Store) : Res ItS := match x with
  | .dat (.int n) => if decide (-4611686018427387904 ≤ n) && decide (n < 4611686018427387904) then .ok (.rng 0 n.toNat) S else .fail
  | _ => .fail
def rng2R (x y : D) (S : Store) : Res ItS := match x, y with
  | .dat (.int i), .dat (.int j) => if decide (-4611686018427387904 ≤ i) && decide (i < 4611686018427387904) && decide (-4611686018427387904 ≤ j) && decide (j < 4611686018427387904) then .ok (.rng i (j - i).toNat) S else .fail
  | _, _ => .fail
def zipR (s t : Option Src) (S : Store) : Res ItS := match s, t with
  | some s, some t => .ok (.zip s t) S
  | _, _ => .fail
def nxR (o : Option Ev) (S : Store) : SR := match o with
  | some e => .nx e S
  | none => .fail
def setR (o : Option Store) (ev : Ev) : SR := match o with
  | some S => .nx ev S
  | none => .fail
def SR.andThen (r : SR) (f : Ev → Store → SR) : SR := match r with
  | .nx e S => f e S
  | .rt d S => .rt d S
  | .exc e x S => .exc e x S
  | .fail => .fail
variable (ev : Ev) (S : Store)
theorem xE_var (i : Nat) : evE Φ G (.var i) ev S = getV ev[i]? S := rfl
theorem xE_lit (p : PyData) : evE Φ G (.lit p) ev S = .ok (.dat p) S := rfl
theorem xE_gv (x : Nat) : evE Φ G (.gv x) ev S = getG G[x]? S := rfl
theorem xE_bin (op : BOp) (a b : CE) : evE Φ G (.bin op a b) ev S = (evE Φ G a ev S).bind fun x S1 => (evE Φ G b ev S1).bind fun y S2 => Res.ofP (binop op x y S2) := rfl
theorem xE_neg (a : CE) : evE Φ G (.neg a) ev S = (evE Φ G a ev S).bind negR := rfl
theorem xE_not (a : CE) : evE Φ G (.not a) ev S = (truthR (evE Φ G a ev S)).bind fun b S1 => .ok (.dat (.bool (!b))) S1 := rfl
theorem xE_and (es : CL) : evE Φ G (.and es) ev S = evAnd Φ G es ev S := rfl
theorem xE_or (es : CL) : evE Φ G (.or es) ev S = evOr Φ G es ev S := rfl
theorem xE_cmp (op : COp) (a b : CE) : evE Φ G (.cmp op a b) ev S = (evE Φ G a ev S).bind fun x S1 => (evE Φ G b ev S1).bind fun y S2 => Res.ofP (cmpR op x y S2) := rfl
theorem xE_rcmp (neg : Bool) (a b : CE) : evE Φ G (.rcmp neg a b) ev S = (evE Φ G a ev S).bind fun x S1 => optR (reprP S1 x) fun p => (evE Φ G b ev S1).bind fun y S2 => optR (reprP S2 y) fun q => Res.ofP (rcmpV neg p q S2) := by
  rw [evE]
  refine congrArg (Res.bind _) (funext fun x => funext fun S1 => ?_)
  cases reprP S1 x with
  | none => rfl
  | some p =>
    refine congrArg (Res.bind _) (funext fun y => funext fun S2 => ?_)
    cases h : reprP S2 y <;> simp only [h] <;> rfl
theorem xE_chain (op op2 : COp) (a b c : CE) : evE Φ G (.chain op op2 a b c) ev S = (evE Φ G a ev S).bind fun x S1 => (evE Φ G b ev S1).bind fun y S2 => forkR (cmpV op S2 x y) ((evE Φ G c ev S2).bind fun z S3 => Res.ofP (cmpR op2 y z S3)) (.ok (.dat (.bool false)) S2) := rfl
theorem xE_ite (c a b : CE) : evE Φ G (.ite c a b) ev S = (truthR (evE Φ G c ev S)).bind fun t S1 => selR t (evE Φ G a ev S1) (evE Φ G b ev S1) := rfl
theorem xE_call (f : Nat) (es : CL) : evE Φ G (.call f es) ev S = (evL Φ G es ev S).bind fun ds S1 => callR Φ[f]? ds S1 := rfl
theorem xE_blt (f : Blt) (es : CL) : evE Φ G (.blt f es) ev S = (evL Φ G es ev S).bind fun ds S1 => Res.ofP (bltV f ds S1) := rfl
theorem xE_idx (a b : CE) : evE Φ G (.idx a b) ev S = (evE Φ G a ev S).bind fun x S1 => (evE Φ G b ev S1).bind fun y S2 => Res.ofP (idxV x y S2) := rfl
theorem xE_sl (a : CE) (lo hi : CO) : evE Φ G (.sl a lo hi) ev S = (evE Φ G a ev S).bind fun x S1 => (evO Φ G lo ev S1).bind fun l S2 => (evO Φ G hi ev S2).bind fun h S3 => Res.ofP (slV x l h S3) := rfl
theorem xE_tup (es : CL) : evE Φ G (.tup es) ev S = (evL Φ G es ev S).bind fun ds S1 => fitR ds.length (Res.ofP (mkT ds S1)) := rfl
theorem xE_lst (c : Bool) (es : CL) : evE Φ G (.lst c es) ev S = (evL Φ G es ev S).bind fun ds S1 => fitR ds.length (Res.ofP (mkL c ds S1)) := rfl
theorem xE_comp (c : Bool) (elt : CE) (tg : Tg) (it : CI) (ifs : CL) (own : List Nat) : evE Φ G (.comp c elt tg it ifs own) ev S = (evI Φ G it ev S).bind fun J S1 =>
    compR (compLoop J tg (bodyT Φ G ifs) (bodyE Φ G elt) (wipeE ev own) J.len 0 S1) fun l S2 => fitR l.length (Res.ofP (mkL c l S2)) := rfl
theorem xE_kset (q : KQ) (elt : CE) (tg : Tg) (it : CI) (ifs : CL) (own : List Nat) : evE Φ G (.kset q elt tg it ifs own) ev S = (evI Φ G it ev S).bind fun J S1 =>
    compR (compLoop J tg (bodyT Φ G ifs) (bodyE Φ G elt) (wipeE ev own) J.len 0 S1) fun l S2 => optR ((toDats l).bind intsOf) fun ns => fitR ns.length (Res.ofP (ksetV q ns S2)) := by
  rw [evE]
  refine congrArg (Res.bind _) (funext fun x => funext fun S1 => ?_)
  show (match compLoop x tg (bodyT Φ G ifs) (bodyE Φ G elt) (wipeE ev own) x.len 0 S1 with
    | some (l, S2) => (match (toDats l).bind intsOf with
      | some ns => if fits ns.length then Res.ofP (ksetV q ns S2) else .fail
      | none => .fail)
    | none => .fail) = _
  cases compLoop x tg (bodyT Φ G ifs) (bodyE Φ G elt) (wipeE ev own) x.len 0 S1 with
  | none => rfl
  | some p =>
    obtain ⟨l, S2⟩ := p
    show (match (toDats l).bind intsOf with
      | some ns => if fits ns.length then Res.ofP (ksetV q ns S2) else .fail
      | none => .fail) = optR _ _
    cases (toDats l).bind intsOf <;> rfl
theorem xE_isi (ty : Ty) (a : CE) : evE Φ G (.isi ty a) ev S = (evE Φ G a ev S).bind fun x S1 => boolR (isaD S1 ty x) S1 := rfl
theorem xA_one (a : CE) : evAnd Φ G (.cons a .nil) ev S = evE Φ G a ev S := rfl
theorem xA_cons (a b : CE) (r : CL) : evAnd Φ G (.cons a (.cons b r)) ev S = (evE Φ G a ev S).bind fun x S1 => forkR (truth S1 x) (evAnd Φ G (.cons b r) ev S1) (.ok x S1) := rfl
theorem xO_one (a : CE) : evOr Φ G (.cons a .nil) ev S = evE Φ G a ev S := rfl
theorem xO_cons (a b : CE) (r : CL) : evOr Φ G (.cons a (.cons b r)) ev S = (evE Φ G a ev S).bind fun x S1 => forkR (truth S1 x) (.ok x S1) (evOr Φ G (.cons b r) ev S1) := by
  show (evE Φ G a ev S).bind (fun x S1 => match truth S1 x with
    | some false => evOr Φ G (.cons b r) ev S1
    | some true => .ok x S1
    | none => .fail) = _
  refine congrArg (Res.bind _) (funext fun x => funext fun S1 => ?_)
  rcases truth S1 x with _ | _ | _ <;> rfl
theorem xL_nil : evL Φ G .nil ev S = .ok [] S := rfl
theorem xL_cons (a : CE) (r : CL) : evL Φ G (.cons a r) ev S = (evE Φ G a ev S).bind fun x S1 => (evL Φ G r ev S1).bind fun xs S2 => .ok (x :: xs) S2 := rfl
theorem xL_star (a : CE) (r : CL) : evL Φ G (.star a r) ev S = (evE Φ G a ev S).bind fun x S1 => optR (getSeq S1 x) fun l => (evL Φ G r ev S1).bind fun xs S2 => .ok (l ++ xs) S2 := by
  rw [evL]
  refine congrArg (Res.bind _) (funext fun x => funext fun S1 => ?_)
  cases getSeq S1 x <;> rfl
theorem xT_nil : evTs Φ G .nil ev S = .ok true S := rfl
theorem xT_one (a : CE) : evTs Φ G (.cons a .nil) ev S = truthR (evE Φ G a ev S) := rfl
theorem xU_none : evO Φ G .none ev S = .ok none S := rfl
theorem xU_some (a : CE) : evO Φ G (.some a) ev S = (evE Φ G a ev S).bind iR := rfl
theorem xI_one (a : CE) : evI Φ G (.one a) ev S = (evE Φ G a ev S).bind fun x S1 => Res.ofO ((Src.of S1 x).map .one) S1 := rfl
theorem xI_enum (a : CE) : evI Φ G (.enum a) ev S = (evE Φ G a ev S).bind fun x S1 => Res.ofO ((Src.of S1 x).map .enum) S1 := rfl
theorem xI_rng1 (a : CE) : evI Φ G (.rng1 a) ev S = (evE Φ G a ev S).bind rng1R := rfl
theorem xI_rng2 (a b : CE) : evI Φ G (.rng2 a b) ev S = (evE Φ G a ev S).bind fun x S1 => (evE Φ G b ev S1).bind fun y S2 => rng2R x y S2 := rfl
theorem xI_zip2 (a b : CE) : evI Φ G (.zip2 a b) ev S = (evE Φ G a ev S).bind fun x S1 => (evE Φ G b ev S1).bind fun y S2 => zipR (Src.of S2 x) (Src.of S2 y) S2 := rfl
theorem xS_asg (tg : Tg) (e : CE) : evS Φ G (.asg tg e) ev S = (evE Φ G e ev S).sr ev fun d S1 => nxR (tg.put [d] ev) S1 := rfl
theorem xS_par (is : List Nat) (es : CL) : evS Φ G (.par is es) ev S = (evL Φ G es ev S).sr ev fun ds S1 => nxR (setSlots is.reverse ds.reverse ev) S1 := rfl
theorem xS_seti (o i e : CE) : evS Φ G (.seti o i e) ev S = (evE Φ G e ev S).sr ev fun v S1 => (evE Φ G o ev S1).sr ev fun x S2 => (evE Φ G i ev S2).sr ev fun y S3 => setR (setiV x y v S3) ev := rfl
theorem xS_expr (e : CE) : evS Φ G (.expr e) ev S = (evE Φ G e ev S).sr ev fun _ S1 => .nx ev S1 := rfl
theorem xS_ret (e : CE) : evS Φ G (.ret e) ev S = (evE Φ G e ev S).sr ev fun d S1 => .rt d S1 := rfl
theorem xS_retN : evS Φ G .retN ev S = .rt (.dat .none) S := rfl
theorem xS_iff (c : CE) (a b : CSs) : evS Φ G (.iff c a b) ev S = (truthR (evE Φ G c ev S)).sr ev fun t S1 => selR t (evSs Φ G a ev S1) (evSs Φ G b ev S1) := rfl
theorem xS_for (tg : Tg) (it : CI) (b : CSs) : evS Φ G (.for tg it b) ev S = (evI Φ G it ev S).sr ev fun J S1 => forLoop J tg (bodyS Φ G b) J.len 0 ev S1 := rfl
theorem xSs_nil : evSs Φ G .nil ev S = .nx ev S := rfl
theorem xSs_cons (a : CS) (r : CSs) : evSs Φ G (.cons a r) ev S = (evS Φ G a ev S).andThen fun e s => evSs Φ G r e s := by
  show (match evS Φ G a ev S with
    | .nx ev1 S1 => evSs Φ G r ev1 S1
    | .rt d S1 => .rt d S1
    | .exc ev1 e S1 => .exc ev1 e S1
    | .fail => .fail) = _
  cases evS Φ G a ev S <;> rfl
end
section
variable {α β : Type} (S : Store) (ev : Ev)
theorem bind_ok (a : α) (f : α → Store → Res β) : (Res.ok a S).bind f = f a S := rfl
theorem sr_ok (a : α) (f : α → Store → SR) : (Res.ok a S).sr ev f = f a S := rfl
theorem ofP_some (a : α) : Res.ofP (some (a, S)) = .ok a S := rfl
theorem ofO_some (a : α) : Res.ofO (some a) S = .ok a S := rfl
theorem getV_some (d : D) : getV (some (some d)) S = .ok d S := rfl
theorem getG_some (p : PyData) : getG (some p) S = .ok (.dat p) S := rfl
theorem negR_int (i : Int) : negR (.dat (.int i)) S = .ok (.dat (.int (-i))) S := rfl
theorem fitR_ok (n : Nat) (r : Res α) (h : n ≤ 16777216) : fitR n r = r := by simp [fitR, fits, Nat.ble_eq.mpr h]
theorem compR_some (l : List D) (f : List D → Store → Res α) : compR (some (l, S)) f = f l S := rfl
theorem callR_some (fn : Fn) (ds : List D) : callR (some fn) ds S = fn ds S := rfl
theorem boolR_some (b : Bool) : boolR (some b) S = .ok (.dat (.bool b)) S := rfl
theorem selR_t (a b : α) : selR true a b = a := rfl
theorem selR_f (a b : α) : selR false a b = b := rfl
theorem forkR_t (a b : Res α) : forkR (some true) a b = a := rfl
theorem forkR_f (a b : Res α) : forkR (some false) a b = b := rfl
theorem optR_some (a : α) (f : α → Res β) : optR (some a) f = f a := rfl
theorem iR_int (i : Int) : iR (.dat (.int i)) S = .ok (some i) S := rfl
theorem rng1R_int (n : Int) (h1 : -4611686018427387904 ≤ n) (h2 : n < 4611686018427387904) : rng1R (.dat (.int n)) S = .ok (.rng 0 n.toNat) S := by simp [rng1R, h1, h2]
theorem rng2R_int (i j : Int) (h1 : -4611686018427387904 ≤ i) (h2 : i < 4611686018427387904) (h3 : -4611686018427387904 ≤ j) (h4 : j < 4611686018427387904) : rng2R (.dat (.int i)) (.dat (.int j)) S = .ok (.rng i (j - i).toNat) S := by simp [rng2R, h1, h2, h3, h4]
theorem zipR_some (s t : Src) : zipR (some s) (some t) S = .ok (.zip s t) S := rfl
theorem nxR_some (e : Ev) : nxR (some e) S = .nx e S := rfl
theorem setR_some (S' : Store) : setR (some S') ev = .nx ev S' := rfl
theorem at_nx (f : Ev → Store → SR) : (SR.nx ev S).andThen f = f ev S := rfl
theorem at_rt (d : D) (f : Ev → Store → SR) : (SR.rt d S).andThen f = .rt d S := rfl
theorem truth_bool (b : Bool) : truth S (.dat (.bool b)) = some b := rfl
theorem truth_list (l : List PyData) : truth S (.dat (.list l)) = some (!l.isEmpty) := rfl
theorem truth_tuple (l : List PyData) : truth S (.dat (.tuple l)) = some (!l.isEmpty) := rfl
theorem put_nm (i : Nat) (d : D) : Tg.put (.nm i) [d] ev = some (ev.set i (some d)) := rfl
theorem put_tp (is : List Nat) (l : List PyData) : Tg.put (.tp is) [.dat (.tuple l)] ev = setSlots is (l.map .dat) ev := rfl
theorem put_tp2 (is : List Nat) (d e : D) (r : List D) : Tg.put (.tp is) (d :: e :: r) ev = setSlots is (d :: e :: r) ev := by simp [Tg.put]
theorem setSlots_nil : setSlots [] [] ev = some ev := rfl
theorem setSlots_cons (i : Nat) (is : List Nat) (d : D) (ds : List D) : setSlots (i :: is) (d :: ds) ev = setSlots is ds (ev.set i (some d)) := rfl
theorem add_int (i j : Int) : binop .add (.dat (.int i)) (.dat (.int j)) S = some (.dat (.int (i + j)), S) := rfl
theorem sub_int (i j : Int) : binop .sub (.dat (.int i)) (.dat (.int j)) S = some (.dat (.int (i - j)), S) := rfl
theorem add_tup (a b : List PyData) (h : a.length + b.length ≤ 16777216) : binop .add (.dat (.tuple a)) (.dat (.tuple b)) S = some (.dat (.tuple (a ++ b)), S) := by
  simp [binop, addV, fits, Nat.ble_eq.mpr h]
theorem toDats_dat (ps : List PyData) : toDats (ps.map .dat) = some ps := by
  induction ps with
  | nil => rfl
  | cons p r ih => simp [toDats, ih]
theorem toDats_app (ps qs : List PyData) : toDats (ps.map .dat ++ qs.map .dat) = some (ps ++ qs) := by rw [← List.map_append, toDats_dat]
theorem add_lst (a b : List PyData) (h : a.length + b.length ≤ 16777216) : binop .add (.dat (.list a)) (.dat (.list b)) S = some (.dat (.list (a ++ b)), S) := by
  simp [binop, addV, addL, getL, fits, Nat.ble_eq.mpr h, mkL, toDats_app]
theorem mul_int (i j : Int) (h : i.natAbs.log2 + j.natAbs.log2 < 1000000) : binop .mul (.dat (.int i)) (.dat (.int j)) S = some (.dat (.int (i * j)), S) := by
  simp [binop, mulV, Nat.blt_eq.mpr h]
theorem fdiv_int (i j : Int) (h : 0 < j) (h2 : j.natAbs.log2 < 9000) : binop .fdiv (.dat (.int i)) (.dat (.int j)) S = some (.dat (.int (i / j)), S) := by
  simp [binop, onDat, fdivV, Nat.blt_eq.mpr h2, h]
theorem mod_int (i j : Int) (h : 0 < j) : binop .mod (.dat (.int i)) (.dat (.int j)) S = some (.dat (.int (i % j)), S) := by
  simp [binop, onDat, modV, h]
theorem pow_int (i j : Int) (h : 0 ≤ j) (h2 : j ≤ 1000000) (h3 : i.natAbs < 18446744073709551616) : binop .pow (.dat (.int i)) (.dat (.int j)) S = some (.dat (.int (i ^ j.toNat)), S) := by
  simp [binop, onDat, powV, Nat.blt_eq.mpr h3, h, h2]
theorem cmpR_of {op : COp} {x y : D} {b : Bool} (h : cmpV op S x y = some b) : cmpR op x y S = some (.dat (.bool b), S) := by simp [cmpR, h]
theorem lt_int (i j : Int) : cmpV .lt S (.dat (.int i)) (.dat (.int j)) = some (decide (i < j)) := rfl
theorem le_int (i j : Int) : cmpV .le S (.dat (.int i)) (.dat (.int j)) = some (decide (i ≤ j)) := rfl
theorem gt_int (i j : Int) : cmpV .gt S (.dat (.int i)) (.dat (.int j)) = some (decide (j < i)) := rfl
theorem ge_int (i j : Int) : cmpV .ge S (.dat (.int i)) (.dat (.int j)) = some (decide (j ≤ i)) := rfl
theorem beq_dec (i j : Int) : (i == j) = decide (i = j) := rfl
theorem eq_int (i j : Int) : cmpV .eq S (.dat (.int i)) (.dat (.int j)) = some (decide (i = j)) := rfl
theorem ne_int (i j : Int) : cmpV .ne S (.dat (.int i)) (.dat (.int j)) = some (!decide (i = j)) := rfl
theorem eq_bool (i j : Bool) : cmpV .eq S (.dat (.bool i)) (.dat (.bool j)) = some (i == j) := rfl
theorem ne_bool (i j : Bool) : cmpV .ne S (.dat (.bool i)) (.dat (.bool j)) = some (!(i == j)) := rfl
theorem eq_str (i j : Str) (h : shapedOk (.str i) = true) (h2 : shapedOk (.str j) = true) : cmpV .eq S (.dat (.str i)) (.dat (.str j)) = some (i == j) := by
  show (if shapedOk (.str i) && shapedOk (.str j) then some (i == j) else none) = _
  rw [h, h2]
  rfl
theorem ne_str (i j : Str) (h : shapedOk (.str i) = true) (h2 : shapedOk (.str j) = true) : cmpV .ne S (.dat (.str i)) (.dat (.str j)) = some (!(i == j)) := by
  show (cmpV .eq S (.dat (.str i)) (.dat (.str j))).map _ = _
  rw [eq_str S i j h h2]
  rfl
theorem is_bool (i j : Bool) : cmpV .is S (.dat (.bool i)) (.dat (.bool j)) = some (decide (i = j)) := rfl
theorem isNot_bool (i j : Bool) : cmpV .isNot S (.dat (.bool i)) (.dat (.bool j)) = some (!decide (i = j)) := rfl
theorem is_intN (i : Int) : cmpV .is S (.dat (.int i)) (.dat .none) = some false := rfl
theorem isNot_intN (i : Int) : cmpV .isNot S (.dat (.int i)) (.dat .none) = some true := rfl
theorem len_tup (l : List PyData) : bltV .len [.dat (.tuple l)] S = some (.dat (.int (l.length : Nat)), S) := by simp [bltV, getSeq, pin]
theorem len_lst (l : List PyData) : bltV .len [.dat (.list l)] S = some (.dat (.int (l.length : Nat)), S) := by simp [bltV, getSeq, pin]
theorem len_scr (l : List Int) : bltV .len [.scr l] S = some (.dat (.int (l.length : Nat)), S) := by simp [bltV, getSeq, pin]
theorem abs_int (i : Int) : bltV .abs [.dat (.int i)] S = some (.dat (.int (if i < 0 then -i else i)), S) := rfl
theorem int_int (i : Int) : bltV .int [.dat (.int i)] S = some (.dat (.int i), S) := rfl
theorem int_bool (b : Bool) : bltV .int [.dat (.bool b)] S = some (.dat (.int (if b then 1 else 0)), S) := rfl
theorem min_ints (i j : Int) : bltV .min [.dat (.int i), .dat (.int j)] S = some (.dat (.int (if j < i then j else i)), S) := rfl
theorem max_ints (i j : Int) : bltV .max [.dat (.int i), .dat (.int j)] S = some (.dat (.int (if j > i then j else i)), S) := rfl
theorem tuple_lst (l : List PyData) : bltV .tuple [.dat (.list l)] S = some (.dat (.tuple l), S) := by simp [bltV, getSeq, mkT, toDats_dat]
theorem tuple_tup (l : List PyData) : bltV .tuple [.dat (.tuple l)] S = some (.dat (.tuple l), S) := by simp [bltV, getSeq, mkT, toDats_dat]
theorem list_tup (l : List PyData) : bltV (.list false) [.dat (.tuple l)] S = some (.dat (.list l), S) := by simp [bltV, getSeq, mkL, toDats_dat]
theorem intsOf_int (l : List Int) : intsOf (l.map .int) = some l := by
  induction l with
  | nil => rfl
  | cons p r ih => simp [intsOf, ih]
theorem boolsOf_bool (l : List Bool) : boolsOf (l.map .bool) = some l := by
  induction l with
  | nil => rfl
  | cons p r ih => simp [boolsOf, ih]
theorem min_lst (l : List Int) (m : Int) (h : minI l = some m) : bltV .min [.dat (.list (l.map .int))] S = some (.dat (.int m), S) := by
  show ((((toDats ((l.map PyData.int).map .dat)).bind intsOf).bind minI).bind fun i => pin (.int i) S) = _
  rw [toDats_dat, Option.bind_some, intsOf_int, Option.bind_some, h]
  rfl
theorem max_lst (l : List Int) (m : Int) (h : maxI l = some m) : bltV .max [.dat (.list (l.map .int))] S = some (.dat (.int m), S) := by
  show ((((toDats ((l.map PyData.int).map .dat)).bind intsOf).bind maxI).bind fun i => pin (.int i) S) = _
  rw [toDats_dat, Option.bind_some, intsOf_int, Option.bind_some, h]
  rfl
theorem all_lst (l : List Bool) : bltV .all [.dat (.list (l.map .bool))] S = some (.dat (.bool (l.all id)), S) := by
  show (((toDats ((l.map PyData.bool).map .dat)).bind boolsOf).bind fun q => pin (.bool (q.all id)) S) = _
  rw [toDats_dat, Option.bind_some, boolsOf_bool]
  rfl
theorem any_lst (l : List Bool) : bltV .any [.dat (.list (l.map .bool))] S = some (.dat (.bool (l.any id)), S) := by
  show (((toDats ((l.map PyData.bool).map .dat)).bind boolsOf).bind fun q => pin (.bool (q.any id)) S) = _
  rw [toDats_dat, Option.bind_some, boolsOf_bool]
  rfl
theorem mkL_dat (l : List PyData) : mkL false (l.map .dat) S = some (.dat (.list l), S) := by simp [mkL, toDats_dat]
theorem mkT_dat (l : List PyData) : mkT (l.map .dat) S = some (.dat (.tuple l), S) := by simp [mkT, toDats_dat]
theorem mkL_cons0 : mkL false [] S = some (.dat (.list []), S) := rfl
theorem mkT0 : mkT [] S = some (.dat (.tuple []), S) := rfl
theorem mkT1 (a : PyData) : mkT [.dat a] S = some (.dat (.tuple [a]), S) := rfl
theorem mkT2 (a b : PyData) : mkT [.dat a, .dat b] S = some (.dat (.tuple [a, b]), S) := rfl
theorem mkT3 (a b c : PyData) : mkT [.dat a, .dat b, .dat c] S = some (.dat (.tuple [a, b, c]), S) := rfl
theorem srcOf_tup (l : List PyData) : Src.of S (.dat (.tuple l)) = some (.vals l) := rfl
theorem srcOf_lst (l : List PyData) : Src.of S (.dat (.list l)) = some (.vals l) := rfl
theorem isaD_dat (ty : Ty) (p : PyData) : isaD S ty (.dat p) = some (isaP ty p) := rfl
theorem below_dat (k : Nat) (p : PyData) : below k (.dat p) = true := rfl
theorem leave_rt (k : Nat) (p : PyData) : leave k (.rt (.dat p) S) = .ok (.dat p) (S.take k) := rfl
theorem leave_nx (k : Nat) : leave k (.nx ev S) = .ok (.dat .none) (S.take k) := rfl
theorem leave_rtS (p : PyData) : leave S.length (.rt (.dat p) S) = .ok (.dat p) S := by rw [leave_rt, List.take_length]
theorem leave_nxS : leave S.length (.nx ev S) = .ok (.dat .none) S := by rw [leave_nx, List.take_length]
theorem wipe_nil : wipeE ev [] = ev := rfl
theorem wipe_cons (v : Nat) (vs : List Nat) : wipeE ev (v :: vs) = (wipeE ev vs).set v none := rfl
theorem map_some' {α β : Type} (f : α → β) (a : α) : (some a).map f = some (f a) := rfl
theorem len_one (s : Src) : (ItS.one s).len = s.len := rfl
theorem len_enum (s : Src) : (ItS.enum s).len = s.len := rfl
theorem len_zip (s t : Src) : (ItS.zip s t).len = s.len := rfl
theorem len_rng (lo : Int) (n : Nat) : (ItS.rng lo n).len = n := rfl
theorem len_vals (l : List PyData) : (Src.vals l).len = l.length := rfl
end
end MP
end
section
/-! MiniPy: comprehensions over plain rows. -/
namespace MP
open PySem
abbrev row (xs : List Int) : PyData := .tuple (xs.map .int)
section
variable {Φ : List Fn} {G : List PyData} {elt : CE} {ifs : CL} {ev : Ev} {S : Store}
theorem comp_1 {i : Nat} (ps : List PyData) (b : PyData → Bool) (g : PyData → PyData)
    (h : ∀ p ∈ ps, evTs Φ G ifs (ev.set i (some (.dat p))) S = .ok (b p) S ∧ (b p = true → evE Φ G elt (ev.set i (some (.dat p))) S = .ok (.dat (g p)) S)) :
    compLoop (.one (.vals ps)) (.nm i) (bodyT Φ G ifs) (bodyE Φ G elt) ev ps.length 0 S = some (((ps.filter b).map g).map .dat, S) := by
  have w := comp_pure (tg := .nm i) (test := bodyT Φ G ifs) (elt := bodyE Φ G elt) (ev := ev) (walk_one ps S)
    (fun ds => match ds with | [.dat p] => b p | _ => false) (fun ds => match ds with | [.dat p] => .dat (g p) | _ => .dat .none)
    (fun ds hds => by
      obtain ⟨p, hp, rfl⟩ := List.mem_map.mp hds
      exact ⟨_, rfl, h p hp⟩) ps.length (by simp)
  rw [w]
  congr 2
  clear w h
  induction ps with
  | nil => rfl
  | cons p r ih => cases hb : b p <;> simp [hb, ih]
theorem comp_1m {i : Nat} (ps : List PyData) (g : PyData → PyData)
    (h : ∀ p ∈ ps, evE Φ G elt (ev.set i (some (.dat p))) S = .ok (.dat (g p)) S) :
    compLoop (.one (.vals ps)) (.nm i) (bodyT Φ G .nil) (bodyE Φ G elt) ev ps.length 0 S = some ((ps.map g).map .dat, S) := by
  rw [comp_1 ps (fun _ => true) g (fun p hp => ⟨rfl, fun _ => h p hp⟩), List.filter_eq_self.mpr (fun _ _ => rfl)]
theorem comp_1i {i : Nat} (xs : List Int) (g : Int → PyData)
    (h : ∀ x ∈ xs, evE Φ G elt (ev.set i (some (.dat (.int x)))) S = .ok (.dat (g x)) S) :
    compLoop (.one (.vals (xs.map .int))) (.nm i) (bodyT Φ G .nil) (bodyE Φ G elt) ev xs.length 0 S = some ((xs.map g).map .dat, S) := by
  have w := comp_1m (Φ := Φ) (G := G) (elt := elt) (ev := ev) (S := S) (i := i) (xs.map .int) (fun p => match p with | .int x => g x | _ => .none) (fun p hp => by
    obtain ⟨x, hx, rfl⟩ := List.mem_map.mp hp
    exact h x hx)
  rw [List.length_map] at w
  rw [w]
  simp only [List.map_map, Function.comp_def]
theorem comp_z {i j : Nat} (xs ys : List Int) (hl : xs.length = ys.length) (f : Int → Int → PyData)
    (h : ∀ x y, evE Φ G elt ((ev.set i (some (.dat (.int x)))).set j (some (.dat (.int y)))) S = .ok (.dat (f x y)) S) :
    compLoop (.zip (.vals (xs.map .int)) (.vals (ys.map .int))) (.tp [i, j]) (bodyT Φ G .nil) (bodyE Φ G elt) ev xs.length 0 S = some ((List.zipWith f xs ys).map .dat, S) := by
  have w := comp_pure (tg := .tp [i, j]) (test := bodyT Φ G .nil) (elt := bodyE Φ G elt) (ev := ev) (walk_zip (xs.map .int) (ys.map .int) (by simp [hl]) S)
    (fun ds => true) (fun ds => match ds with | [.dat (.int x), .dat (.int y)] => .dat (f x y) | _ => .dat .none)
    (fun ds hds => by
      rw [List.zip_map, List.map_map] at hds
      obtain ⟨p, hp, rfl⟩ := List.mem_map.mp hds
      exact ⟨_, rfl, rfl, fun _ => h _ _⟩) xs.length (by simp [hl])
  rw [w]
  congr 2
  clear w h hl
  induction xs generalizing ys with
  | nil => rfl
  | cons x r ih =>
    cases ys with
    | nil => rfl
    | cons y s =>
      have := ih s
      simp only [List.map_cons, List.zip_cons_cons, List.filter_cons, if_true, List.zipWith_cons_cons] at this ⊢
      rw [this]
theorem comp_e {i j : Nat} (xs : List Int) (b : Nat → Int → Bool) (g : Nat → Int → PyData)
    (h : ∀ k x, xs[k]? = some x → evTs Φ G ifs ((ev.set i (some (.dat (.int (k : Nat))))).set j (some (.dat (.int x)))) S = .ok (b k x) S ∧ (b k x = true → evE Φ G elt ((ev.set i (some (.dat (.int (k : Nat))))).set j (some (.dat (.int x)))) S = .ok (.dat (g k x)) S)) :
    compLoop (.enum (.vals (xs.map .int))) (.tp [i, j]) (bodyT Φ G ifs) (bodyE Φ G elt) ev xs.length 0 S = some (((xs.zipIdx.filter fun p => b p.2 p.1).map fun p => g p.2 p.1).map .dat, S) := by
  have w := comp_pure (tg := .tp [i, j]) (test := bodyT Φ G ifs) (elt := bodyE Φ G elt) (ev := ev) (walk_enum (xs.map .int) S)
    (fun ds => match ds with | [.dat (.int k), .dat (.int x)] => b k.toNat x | _ => false) (fun ds => match ds with | [.dat (.int k), .dat (.int x)] => .dat (g k.toNat x) | _ => .dat .none)
    (fun ds hds => by
      obtain ⟨p, hp, rfl⟩ := List.mem_map.mp hds
      obtain ⟨q, k⟩ := p
      have hk := (List.mem_zipIdx_iff_getElem?.mp hp)
      rw [List.getElem?_map, Option.map_eq_some_iff] at hk
      obtain ⟨x, h1, h2⟩ := hk
      subst h2
      exact ⟨_, rfl, h k x h1⟩) xs.length (by simp)
  rw [w]
  congr 2
  clear w h
  rw [List.zipIdx_map, List.map_map, List.filter_map, List.map_map, List.map_map]
  rfl
theorem comp_r {i : Nat} (lo : Int) (n : Nat) (b : Int → Bool) (g : Int → PyData)
    (h : ∀ k < n, evTs Φ G ifs (ev.set i (some (.dat (.int (lo + (k : Nat)))))) S = .ok (b (lo + (k : Nat))) S ∧ (b (lo + (k : Nat)) = true → evE Φ G elt (ev.set i (some (.dat (.int (lo + (k : Nat)))))) S = .ok (.dat (g (lo + (k : Nat)))) S)) :
    compLoop (.rng lo n) (.nm i) (bodyT Φ G ifs) (bodyE Φ G elt) ev n 0 S = some (((((List.range n).map fun k => lo + (k : Nat)).filter b).map g).map .dat, S) := by
  have w := comp_pure (tg := .nm i) (test := bodyT Φ G ifs) (elt := bodyE Φ G elt) (ev := ev) (walk_rng lo n S)
    (fun ds => match ds with | [.dat (.int k)] => b k | _ => false) (fun ds => match ds with | [.dat (.int k)] => .dat (g k) | _ => .dat .none)
    (fun ds hds => by
      obtain ⟨k, hk, rfl⟩ := List.mem_map.mp hds
      exact ⟨_, rfl, h k (List.mem_range.mp hk)⟩) n (by simp)
  rw [w]
  congr 2
  clear w h
  rw [List.filter_map, List.filter_map, List.map_map, List.map_map, List.map_map]
  rfl
theorem comp_zi {i j : Nat} (xs ys : List Int) (hl : xs.length = ys.length) (f : Int → Int → Int)
    (h : ∀ x y, evE Φ G elt ((ev.set i (some (.dat (.int x)))).set j (some (.dat (.int y)))) S = .ok (.dat (.int (f x y))) S) :
    compLoop (.zip (.vals (xs.map .int)) (.vals (ys.map .int))) (.tp [i, j]) (bodyT Φ G .nil) (bodyE Φ G elt) ev xs.length 0 S = some (((List.zipWith f xs ys).map .int).map .dat, S) := by
  rw [comp_z xs ys hl (fun x y => .int (f x y)) h]
  simp only [List.map_zipWith]
theorem comp_ei {i j : Nat} (xs : List Int) (b : Nat → Int → Bool) (g : Nat → Int → Int)
    (h : ∀ k x, xs[k]? = some x → evTs Φ G ifs ((ev.set i (some (.dat (.int (k : Nat))))).set j (some (.dat (.int x)))) S = .ok (b k x) S ∧ (b k x = true → evE Φ G elt ((ev.set i (some (.dat (.int (k : Nat))))).set j (some (.dat (.int x)))) S = .ok (.dat (.int (g k x))) S)) :
    compLoop (.enum (.vals (xs.map .int))) (.tp [i, j]) (bodyT Φ G ifs) (bodyE Φ G elt) ev xs.length 0 S = some ((((xs.zipIdx.filter fun p => b p.2 p.1).map fun p => g p.2 p.1).map .int).map .dat, S) := by
  rw [comp_e xs b (fun k x => .int (g k x)) h]
  simp only [List.map_map, Function.comp_def]
theorem comp_ri {i : Nat} (lo : Int) (n : Nat) (b : Int → Bool) (g : Int → Int)
    (h : ∀ k < n, evTs Φ G ifs (ev.set i (some (.dat (.int (lo + (k : Nat)))))) S = .ok (b (lo + (k : Nat))) S ∧ (b (lo + (k : Nat)) = true → evE Φ G elt (ev.set i (some (.dat (.int (lo + (k : Nat)))))) S = .ok (.dat (.int (g (lo + (k : Nat))))) S)) :
    compLoop (.rng lo n) (.nm i) (bodyT Φ G ifs) (bodyE Φ G elt) ev n 0 S = some ((((((List.range n).map fun k => lo + (k : Nat)).filter b).map g).map .int).map .dat, S) := by
  rw [comp_r lo n b (fun k => .int (g k)) h]
  simp only [List.map_map, Function.comp_def]
theorem comp_1ii {i : Nat} (xs : List Int) (g : Int → Int)
    (h : ∀ x ∈ xs, evE Φ G elt (ev.set i (some (.dat (.int x)))) S = .ok (.dat (.int (g x))) S) :
    compLoop (.one (.vals (xs.map .int))) (.nm i) (bodyT Φ G .nil) (bodyE Φ G elt) ev xs.length 0 S = some (((xs.map g).map .int).map .dat, S) := by
  rw [comp_1i xs (fun x => .int (g x)) h]
  simp only [List.map_map, Function.comp_def]
theorem comp_1b {i : Nat} (ps : List PyData) (b : PyData → Bool)
    (h : ∀ p ∈ ps, evE Φ G elt (ev.set i (some (.dat p))) S = .ok (.dat (.bool (b p))) S) :
    compLoop (.one (.vals ps)) (.nm i) (bodyT Φ G .nil) (bodyE Φ G elt) ev ps.length 0 S = some (((ps.map b).map .bool).map .dat, S) := by
  rw [comp_1m ps (fun x => .bool (b x)) h]
  simp only [List.map_map, Function.comp_def]
end
section
variable (S : Store)
theorem idx_t (l : List PyData) (k : Nat) (p : PyData) (h : l[k]? = some p) : idxV (.dat (.tuple l)) (.dat (.int (k : Nat))) S = some (.dat p, S) := by
  have hk := (List.getElem?_eq_some_iff.mp h).1
  simp [idxV, getSeq, L2.atI, L2.ixN, hk]
  exact (List.getElem?_eq_some_iff.mp h).2
theorem idx_l (l : List PyData) (k : Nat) (p : PyData) (h : l[k]? = some p) : idxV (.dat (.list l)) (.dat (.int (k : Nat))) S = some (.dat p, S) := by
  have hk := (List.getElem?_eq_some_iff.mp h).1
  simp [idxV, getSeq, L2.atI, L2.ixN, hk]
  exact (List.getElem?_eq_some_iff.mp h).2
theorem idx_t0 (a : PyData) (l : List PyData) : idxV (.dat (.tuple (a :: l))) (.dat (.int 0)) S = some (.dat a, S) := idx_t S (a :: l) 0 a rfl
theorem idx_t1 (a b : PyData) (l : List PyData) : idxV (.dat (.tuple (a :: b :: l))) (.dat (.int 1)) S = some (.dat b, S) := idx_t S (a :: b :: l) 1 b rfl
theorem idx_t2 (a b c : PyData) (l : List PyData) : idxV (.dat (.tuple (a :: b :: c :: l))) (.dat (.int 2)) S = some (.dat c, S) := idx_t S (a :: b :: c :: l) 2 c rfl
theorem idx_l0 (a : PyData) (l : List PyData) : idxV (.dat (.list (a :: l))) (.dat (.int 0)) S = some (.dat a, S) := idx_l S (a :: l) 0 a rfl
theorem idx_row (xs : List Int) (k : Nat) (h : k < xs.length) : idxV (.dat (.tuple (xs.map .int))) (.dat (.int (k : Nat))) S = some (.dat (.int (xs.getD k 0)), S) :=
  idx_t S _ k _ (by simp [List.getD_eq_getElem?_getD, h])
theorem mkL_f (l : List D) : mkL false l S = (toDats l).map fun ps => (.dat (.list ps), S) := rfl
theorem mkT_f (l : List D) : mkT l S = (toDats l).map fun ps => (.dat (.tuple ps), S) := rfl
theorem toDats_cons (p : PyData) (r : List D) : toDats (.dat p :: r) = (toDats r).map (p :: ·) := rfl
theorem toDats_nil : toDats [] = some [] := rfl
theorem seq_tup (l : List PyData) : getSeq S (.dat (.tuple l)) = some (l.map .dat) := rfl
theorem canAll (l : List PyData) : PyData.canLayAll0 l = l.all PyData.canLay0 := by
  induction l with
  | nil => rfl
  | cons a r ih => simp [PyData.canLayAll0, ih]
theorem depAll (l : List PyData) (k : Nat) (h : ∀ p ∈ l, p.depth ≤ k) : PyData.depthAll l ≤ k := by
  induction l with
  | nil => exact Nat.zero_le _
  | cons a r ih =>
    have h1 := h a List.mem_cons_self
    have h2 := ih fun p hp => h p (List.mem_cons_of_mem _ hp)
    show max a.depth (PyData.depthAll r) ≤ k
    omega
theorem shown_all (l : List PyData) (h : ∀ p ∈ l, p.showable = true) : PyData.showableAll l = true := by
  induction l with
  | nil => rfl
  | cons a r ih => simp [PyData.showableAll, h a List.mem_cons_self, ih fun p hp => h p (List.mem_cons_of_mem _ hp)]
theorem bulk_all (l : List PyData) (k : Nat) (h : ∀ p ∈ l, p.bulk ≤ k) : PyData.bulkAll l ≤ (k + 1) * l.length := by
  induction l with
  | nil => exact Nat.zero_le _
  | cons a r ih =>
    have h1 := h a List.mem_cons_self
    have h2 := ih fun p hp => h p (List.mem_cons_of_mem _ hp)
    show a.bulk + 1 + PyData.bulkAll r ≤ _
    rw [List.length_cons, Nat.mul_succ]
    omega
theorem shaped_tup (l : List PyData) (h : ∀ p ∈ l, p.canLay0 = true) (hd : ∀ p ∈ l, p.depth ≤ 63) : shapedOk (.tuple l) = true := by
  have h1 := depAll l 63 hd
  have h2 : (PyData.tuple l).depth ≤ 64 := by show PyData.depthAll l + 1 ≤ 64; omega
  have h3 : (PyData.tuple l).canLay0 = true := by show PyData.canLayAll0 l = true; rw [canAll, List.all_eq_true]; exact h
  simp [shapedOk, SeqAt.shaped, h3, h2]
theorem shaped_lst (l : List PyData) (h : ∀ p ∈ l, p.canLay0 = true) (hd : ∀ p ∈ l, p.depth ≤ 63) : shapedOk (.list l) = true := by
  have h1 := depAll l 63 hd
  have h2 : (PyData.list l).depth ≤ 64 := by show PyData.depthAll l + 1 ≤ 64; omega
  have h3 : (PyData.list l).canLay0 = true := by show PyData.canLayAll0 l = true; rw [canAll, List.all_eq_true]; exact h
  simp [shapedOk, SeqAt.shaped, h3, h2]
theorem row_can (xs : List Int) : (row xs).canLay0 = true := by
  show PyData.canLayAll0 _ = true
  rw [canAll, List.all_eq_true]
  intro p hp
  obtain ⟨x, _, rfl⟩ := List.mem_map.mp hp
  rfl
theorem row_dep (xs : List Int) : (row xs).depth ≤ 1 := by
  have := depAll (xs.map .int) 0 (fun p hp => by
    obtain ⟨x, _, rfl⟩ := List.mem_map.mp hp
    exact Nat.le_refl 0)
  show PyData.depthAll _ + 1 ≤ 1
  omega
theorem int_can (xs : List Int) : ∀ p ∈ xs.map PyData.int, p.canLay0 = true := fun p hp => by
  obtain ⟨x, _, rfl⟩ := List.mem_map.mp hp
  rfl
theorem int_dep (xs : List Int) : ∀ p ∈ xs.map PyData.int, p.depth ≤ 63 := fun p hp => by
  obtain ⟨x, _, rfl⟩ := List.mem_map.mp hp
  exact Nat.zero_le _
theorem shaped_row (xs : List Int) : shapedOk (.tuple (xs.map .int)) = true := shaped_tup _ (int_can xs) (int_dep xs)
theorem shaped_ints (xs : List Int) : shapedOk (.list (xs.map .int)) = true := shaped_lst _ (int_can xs) (int_dep xs)
theorem eqv_ints (xs ys : List Int) : PyData.eqvAll (xs.map .int) (ys.map .int) = decide (xs = ys) := by
  induction xs generalizing ys with
  | nil => cases ys <;> rfl
  | cons x r ih =>
    cases ys with
    | nil => rfl
    | cons y s =>
      show (x == y && PyData.eqvAll (r.map .int) (s.map .int)) = _
      rw [ih]
      by_cases h : x = y <;> by_cases h2 : r = s <;> simp [h, h2]
theorem eq_row (xs ys : List Int) : cmpV .eq S (.dat (.tuple (xs.map .int))) (.dat (.tuple (ys.map .int))) = some (decide (xs = ys)) := by
  show (if shapedOk (.tuple (xs.map .int)) && shapedOk (.tuple (ys.map .int)) then some (PyData.eqvAll (xs.map .int) (ys.map .int)) else none) = _
  rw [shaped_row, shaped_row, eqv_ints]
  rfl
theorem eq_ints (xs ys : List Int) : cmpV .eq S (.dat (.list (xs.map .int))) (.dat (.list (ys.map .int))) = some (decide (xs = ys)) := by
  show (if shapedOk (.list (xs.map .int)) && shapedOk (.list (ys.map .int)) then some (PyData.eqvAll (xs.map .int) (ys.map .int)) else none) = _
  rw [shaped_ints, shaped_ints, eqv_ints]
  rfl
theorem eq_nil (xs : List Int) : cmpV .eq S (.dat (.list (xs.map .int))) (.dat (.list [])) = some (decide (xs = [])) := eq_ints S xs []
theorem ne_nil (xs : List Int) : cmpV .ne S (.dat (.list (xs.map .int))) (.dat (.list [])) = some (!decide (xs = [])) := by
  show (cmpV .eq S (.dat (.list (xs.map .int))) (.dat (.list []))).map _ = _
  rw [eq_nil]
  rfl
theorem ne_nilnil : cmpV .ne S (.dat (.list [])) (.dat (.list [])) = some false := ne_nil S []
theorem in_none_row (xs : List Int) : cmpV .isIn S (.dat .none) (.dat (.tuple (xs.map .int))) = some false := by
  show (if flatP .none && (xs.map PyData.int).all flatP then some ((xs.map PyData.int).any fun z => PyData.eqv z .none) else none) = _
  have h1 : (xs.map PyData.int).all flatP = true := by simp [List.all_eq_true, flatP]
  have h2 : ((xs.map PyData.int).any fun z => PyData.eqv z .none) = false := by
    rw [List.any_eq_false]
    intro p hp
    obtain ⟨x, _, rfl⟩ := List.mem_map.mp hp
    simp [PyData.eqv]
  rw [h1, h2]
  rfl
theorem in_ints (v : Int) (xs : List Int) : cmpV .isIn S (.dat (.int v)) (.dat (.list (xs.map .int))) = some (decide (v ∈ xs)) := by
  show (if shapedOk (.int v) && shapedOk (.list (xs.map .int)) then some ((xs.map PyData.int).any fun z => PyData.eqv z (.int v)) else none) = _
  rw [shaped_ints]
  have h2 : ((xs.map PyData.int).any fun z => PyData.eqv z (.int v)) = decide (v ∈ xs) := by
    rw [List.any_map, Bool.eq_iff_iff, List.any_eq_true, decide_eq_true_iff]
    constructor
    · rintro ⟨x, h, e⟩
      have : x = v := by simpa [PyData.eqv] using e
      exact this ▸ h
    · intro h
      exact ⟨v, h, by simp [PyData.eqv]⟩
  rw [h2]
  rfl
theorem all_b (l : List Bool) (h : ∀ b ∈ l, b = true) : bltV .all [.dat (.list (l.map .bool))] S = some (.dat (.bool true), S) := by
  rw [all_lst]
  congr
  rw [List.all_eq_true]
  exact h
theorem sameAll_int (xs : List Int) : sameAll (xs.map .int) (xs.map .int) = true := by
  induction xs with
  | nil => rfl
  | cons a r ih => simp [sameAll, sameP, ih]
theorem sameAll_bool (xs : List Bool) : sameAll (xs.map .bool) (xs.map .bool) = true := by
  induction xs with
  | nil => rfl
  | cons a r ih => simp [sameAll, sameP, ih]
end
end MP
end
section
namespace LW
open MP PySem
def jn (a b : Int) (xs ys : List Int) : List Int := List.zipWith (fun x y => if y + b > x + a then y + b else x + a) xs ys
def df (xs zs : List Int) : List Int := List.zipWith (fun x z => z - x) xs zs
def mn (l : List Int) : Int := (minI l).getD 0
def lw (xs ys zs : List Int) : List Int := jn (mn (df xs zs)) (mn (df ys zs)) xs ys
def brs (low zs : List Int) : List Int := (zs.zipIdx.filter fun p => decide (low.getD p.2 0 < p.1)).map fun p => (p.2 : Int)
def Bd (c : Int) (xs : List Int) : Prop := ∀ x ∈ xs, -c ≤ x ∧ x ≤ c
theorem minI_some : ∀ (l : List Int), l ≠ [] → ∃ m, minI l = some m ∧ m ∈ l ∧ ∀ x ∈ l, m ≤ x
  | [], h => absurd rfl h
  | a :: r, _ => by
    unfold minI
    by_cases hr : r = []
    · subst hr
      exact ⟨a, rfl, by simp, by simp⟩
    · obtain ⟨m, h1, h2, h3⟩ := minI_some r hr
      rw [h1]
      refine ⟨if m < a then m else a, rfl, ?_, ?_⟩
      · split <;> simp [h2]
      · intro x hx
        rcases List.mem_cons.mp hx with rfl | hx
        · split <;> omega
        · have := h3 x hx
          split <;> omega
theorem maxI_some : ∀ (l : List Int), l ≠ [] → ∃ m, maxI l = some m ∧ m ∈ l ∧ ∀ x ∈ l, x ≤ m
  | [], h => absurd rfl h
  | a :: r, _ => by
    unfold maxI
    by_cases hr : r = []
    · subst hr
      exact ⟨a, rfl, by simp, by simp⟩
    · obtain ⟨m, h1, h2, h3⟩ := maxI_some r hr
      rw [h1]
      refine ⟨if a < m then m else a, rfl, ?_, ?_⟩
      · split <;> simp [h2]
      · intro x hx
        rcases List.mem_cons.mp hx with rfl | hx
        · split <;> omega
        · have := h3 x hx
          split <;> omega
theorem minI_mn (l : List Int) (h : l ≠ []) : minI l = some (mn l) := by
  obtain ⟨m, h1, _⟩ := minI_some l h
  simp [mn, h1]
theorem mn_mem (l : List Int) (h : l ≠ []) : mn l ∈ l := by
  obtain ⟨m, h1, h2, _⟩ := minI_some l h
  simpa [mn, h1] using h2
theorem mn_le (l : List Int) (x : Int) (h : x ∈ l) : mn l ≤ x := by
  obtain ⟨m, h1, _, h2⟩ := minI_some l (List.ne_nil_of_mem h)
  simpa [mn, h1] using h2 x h
theorem len_jn (a b : Int) (xs ys : List Int) (h : xs.length = ys.length) : (jn a b xs ys).length = xs.length := by simp [jn, h]
theorem len_df (xs zs : List Int) (h : xs.length = zs.length) : (df xs zs).length = xs.length := by simp [df, h]
theorem df_ne (xs zs : List Int) (h : xs.length = zs.length) (h0 : 0 < xs.length) : df xs zs ≠ [] := by
  intro e
  have := len_df xs zs h
  rw [e] at this
  simp at this
  omega
theorem mem_df (xs zs : List Int) (v : Int) : v ∈ df xs zs ↔ ∃ i, ∃ h1 : i < xs.length, ∃ h2 : i < zs.length, v = zs[i] - xs[i] := by
  constructor
  · intro h
    obtain ⟨i, hi, e⟩ := List.mem_iff_getElem.mp h
    have hi' := hi
    simp only [df, List.length_zipWith] at hi'
    refine ⟨i, by omega, by omega, ?_⟩
    rw [← e]
    simp [df]
  · rintro ⟨i, h1, h2, rfl⟩
    refine List.mem_iff_getElem.mpr ⟨i, by simp [df]; omega, by simp [df]⟩
theorem get_jn (a b : Int) (xs ys : List Int) (i : Nat) (h1 : i < xs.length) (h2 : i < ys.length) (h : i < (jn a b xs ys).length) : (jn a b xs ys)[i] = max (xs[i] + a) (ys[i] + b) := by
  simp only [jn, List.getElem_zipWith]
  split <;> omega
theorem get_lw (xs ys zs : List Int) (i : Nat) (h1 : i < xs.length) (h2 : i < ys.length) (h : i < (lw xs ys zs).length) : (lw xs ys zs)[i] = max (xs[i] + mn (df xs zs)) (ys[i] + mn (df ys zs)) := get_jn _ _ xs ys i h1 h2 h
section
variable (xs ys zs : List Int) (hx : xs.length = ys.length) (hz : xs.length = zs.length)
include hx hz
theorem len_lw : (lw xs ys zs).length = xs.length := len_jn _ _ _ _ hx
theorem le_mn (a : Int) (h0 : 0 < xs.length) (h : ∀ i (h1 : i < xs.length) (h2 : i < zs.length), xs[i] + a ≤ zs[i]) : a ≤ mn (df xs zs) := by
  have := mn_mem (df xs zs) (df_ne xs zs hz h0)
  obtain ⟨i, h1, h2, e⟩ := (mem_df xs zs _).mp this
  have := h i h1 h2
  omega
theorem mn_at (i : Nat) (h1 : i < xs.length) (h2 : i < zs.length) : xs[i] + mn (df xs zs) ≤ zs[i] := by
  have := mn_le (df xs zs) _ ((mem_df xs zs _).mpr ⟨i, h1, h2, rfl⟩)
  omega
theorem lw_le (i : Nat) (h : i < (lw xs ys zs).length) (h2 : i < zs.length) : (lw xs ys zs)[i] ≤ zs[i] := by
  have h1 : i < xs.length := by omega
  have h3 : i < ys.length := by omega
  rw [get_lw xs ys zs i h1 h3]
  have e1 := mn_at xs ys zs hx hz i h1 h2
  have e2 := mn_at ys xs zs hx.symm (hx.symm.trans hz) i h3 h2
  omega
theorem lw_great (a b : Int) (h0 : 0 < xs.length) (h : ∀ i (h1 : i < (jn a b xs ys).length) (h2 : i < zs.length), (jn a b xs ys)[i] ≤ zs[i]) (i : Nat) (h1 : i < (jn a b xs ys).length) (h2 : i < (lw xs ys zs).length) :
    (jn a b xs ys)[i] ≤ (lw xs ys zs)[i] := by
  have hl := len_jn a b xs ys hx
  have ha : a ≤ mn (df xs zs) := le_mn xs ys zs hx hz a h0 fun j k1 k2 => by
    have := h j (by omega) k2
    rw [get_jn _ _ _ _ j k1 (by omega)] at this
    omega
  have hb : b ≤ mn (df ys zs) := le_mn ys xs zs hx.symm (hx.symm.trans hz) b (by omega) fun j k1 k2 => by
    have := h j (by omega) k2
    rw [get_jn _ _ _ _ j (by omega) k1] at this
    omega
  rw [get_jn _ _ _ _ i (by omega) (by omega), get_lw xs ys zs i (by omega) (by omega)]
  omega
end
theorem lw_span (a b : Int) (xs ys : List Int) (hx : xs.length = ys.length) (h0 : 0 < xs.length) : lw xs ys (jn a b xs ys) = jn a b xs ys := by
  have hl := len_jn a b xs ys hx
  refine List.ext_getElem (by rw [len_lw xs ys _ hx hl.symm, hl]) fun i h1 h2 => ?_
  have e1 := lw_le xs ys _ hx hl.symm i h1 h2
  have e2 := lw_great xs ys _ hx hl.symm a b h0 (fun j _ _ => Int.le_refl _) i h2 h1
  omega
theorem brs_nil (low zs : List Int) (hl : low.length = zs.length) (h : ∀ i (h1 : i < low.length) (h2 : i < zs.length), low[i] ≤ zs[i]) : brs low zs = [] ↔ low = zs := by
  constructor
  · intro e
    have e' : (zs.zipIdx.filter fun p => decide (low.getD p.2 0 < p.1)) = [] := by
      have := congrArg List.length e
      simp only [brs, List.length_map, List.length_nil] at this
      exact List.length_eq_zero_iff.mp this
    rw [List.filter_eq_nil_iff] at e'
    refine List.ext_getElem hl fun i h1 h2 => ?_
    have := e' (zs[i], i) (List.mem_zipIdx_iff_getElem?.mpr (by simp [h2]))
    simp [List.getD_eq_getElem?_getD, h1] at this
    have := h i h1 h2
    omega
  · rintro rfl
    have e' : (low.zipIdx.filter fun p => decide (low.getD p.2 0 < p.1)) = [] := by
      rw [List.filter_eq_nil_iff]
      intro p hp
      have := List.mem_zipIdx_iff_getElem?.mp hp
      simp [List.getD_eq_getElem?_getD, this]
    rw [brs, e']
    rfl
theorem brs_mem (low zs : List Int) (v : Int) : v ∈ brs low zs ↔ ∃ i : Nat, ∃ h : i < zs.length, v = i ∧ low.getD i 0 < zs[i] := by
  simp only [brs, List.mem_map, List.mem_filter, Prod.exists]
  constructor
  · rintro ⟨x, i, ⟨h1, h2⟩, rfl⟩
    have := List.mem_zipIdx_iff_getElem?.mp h1
    obtain ⟨h3, h4⟩ := List.getElem?_eq_some_iff.mp this
    refine ⟨i, h3, rfl, ?_⟩
    rw [h4]
    simpa using h2
  · rintro ⟨i, h, rfl, h2⟩
    exact ⟨zs[i], i, ⟨List.mem_zipIdx_iff_getElem?.mpr (by simp [h]), by simpa using h2⟩, rfl⟩
/-! ### sorted keys: the first is the least -/
theorem mem_addI (l : List Int) (i v : Int) : v ∈ addI l i ↔ v ∈ l ∨ v = i := by
  unfold addI
  split
  · next h =>
    have h' : i ∈ l := by simpa using h
    constructor
    · exact Or.inl
    · rintro (h | rfl)
      · exact h
      · exact h'
  · simp
theorem mem_fold (ns : List Int) : ∀ (l : List Int) (v : Int), v ∈ ns.foldl addI l ↔ v ∈ l ∨ v ∈ ns := by
  induction ns with
  | nil => simp
  | cons a r ih =>
    intro l v
    rw [List.foldl_cons, ih, mem_addI]
    simp [or_assoc]
theorem mem_dedI (ns : List Int) (v : Int) : v ∈ dedI ns ↔ v ∈ ns := by simp [dedI, mem_fold]
theorem len_addI (l : List Int) (i : Int) : (addI l i).length ≤ l.length + 1 := by
  unfold addI
  split <;> simp
theorem len_fold (ns : List Int) : ∀ (l : List Int), (ns.foldl addI l).length ≤ l.length + ns.length := by
  induction ns with
  | nil => simp
  | cons a r ih =>
    intro l
    have h1 := ih (addI l a)
    have h2 := len_addI l a
    simp only [List.foldl_cons, List.length_cons] at h1 ⊢
    omega
theorem len_dedI (ns : List Int) : (dedI ns).length ≤ ns.length := by simpa [dedI] using len_fold ns []
theorem mem_insI (a v : Int) : ∀ l : List Int, v ∈ insI a l ↔ v = a ∨ v ∈ l
  | [] => by simp [insI]
  | b :: r => by
    unfold insI
    split
    · rw [List.mem_cons, mem_insI a v r, List.mem_cons]
      constructor
      · rintro (h | h | h)
        · exact .inr (.inl h)
        · exact .inl h
        · exact .inr (.inr h)
      · rintro (h | h | h)
        · exact .inr (.inl h)
        · exact .inl h
        · exact .inr (.inr h)
    · simp
theorem mem_sortI (v : Int) : ∀ l : List Int, v ∈ sortI l ↔ v ∈ l
  | [] => by simp [sortI]
  | a :: r => by rw [sortI, mem_insI, mem_sortI v r, List.mem_cons]
theorem insI_sorted (a : Int) : ∀ l : List Int, l.Pairwise (· ≤ ·) → (insI a l).Pairwise (· ≤ ·)
  | [], _ => by simp [insI]
  | b :: r, h => by
    have h' := List.pairwise_cons.mp h
    unfold insI
    split
    · next hb =>
      refine List.pairwise_cons.mpr ⟨fun v hv => ?_, insI_sorted a r h'.2⟩
      rcases (mem_insI a v r).mp hv with rfl | hv
      · omega
      · exact h'.1 v hv
    · next hb =>
      refine List.pairwise_cons.mpr ⟨fun v hv => ?_, h⟩
      rcases List.mem_cons.mp hv with rfl | hv
      · omega
      · have := h'.1 v hv
        omega
theorem sortI_sorted : ∀ l : List Int, (sortI l).Pairwise (· ≤ ·)
  | [] => by simp [sortI]
  | a :: r => insI_sorted a _ (sortI_sorted r)
theorem sort_first (ns : List Int) (h : ns ≠ []) : (sortI (dedI ns))[0]? = some (mn ns) := by
  have hm : mn ns ∈ sortI (dedI ns) := (mem_sortI _ _).mpr ((mem_dedI _ _).mpr (mn_mem ns h))
  have hs := sortI_sorted (dedI ns)
  cases e : sortI (dedI ns) with
  | nil => rw [e] at hm; cases hm
  | cons a r =>
    have ha : a ∈ ns := (mem_dedI _ _).mp ((mem_sortI _ _).mp (by rw [e]; exact List.mem_cons_self))
    have h1 := mn_le ns a ha
    rw [e] at hs hm
    have h2 : a ≤ mn ns := by
      rcases List.mem_cons.mp hm with h | h
      · omega
      · exact (List.pairwise_cons.mp hs).1 _ h
    have : a = mn ns := by omega
    simp [this]
end LW
end
section
namespace LW
open MP PySem
/-- _law_bag -/
def b_d0 : CSs := (.cons (.asg (.nm 2) (.ite (.cmp .lt (.var 1) (.blt .len (.cons (.var 0) .nil))) (.blt .int (.cons (.idx (.var 0) (.var 1)) .nil)) (.bin .add (.bin .mul (.lit (.int 149)) (.var 1)) (.lit (.int 83)))))
  (.cons (.asg (.nm 3) (.bin .mod (.blt .max (.cons (.lit (.int 0)) (.cons (.bin .sub (.blt .abs (.cons (.var 2) .nil)) (.bin .pow (.lit (.int 10)) (.lit (.int 16)))) .nil))) (.bin .mul (.bin .pow (.lit (.int 10)) (.lit (.int 58))) (.bin .pow (.lit (.int 10)) (.lit (.int 59))))))
  (.cons (.ret (.lst true (.cons (.var 3) (.cons (.bin .add (.bin .add (.bin .add (.bin .mul (.bin .mod (.blt .abs (.cons (.var 2) .nil)) (.lit (.int 1152921504606846999))) (.lit (.int 101))) (.bin .mul (.lit (.int 1049)) (.var 1))) (.bin .mul (.lit (.int 59)) (.blt .int (.cons (.cmp .lt (.var 2) (.lit (.int 0))) .nil)))) (.lit (.int 29))) (.cons (.lit (.int 0)) .nil)))))
  .nil)))
def D0 : Def := ⟨2, false, 4, b_d0⟩
/-- is_int -/
def b_d1 : CSs := (.cons (.ret (.and (.cons (.isi .int (.var 0)) (.cons (.not (.isi .bool (.var 0))) .nil))))
  .nil)
def D1 : Def := ⟨1, false, 1, b_d1⟩
/-- is_whole -/
def b_d2 : CSs := (.cons (.ret (.and (.cons (.call 1 (.cons (.var 0) .nil)) (.cons (.chain .lt .lt (.neg (.gv 0)) (.var 0) (.gv 0)) .nil))))
  .nil)
def D2 : Def := ⟨1, false, 1, b_d2⟩
/-- is_within -/
def b_d3 : CSs := (.cons (.ret (.and (.cons (.call 2 (.cons (.var 0) .nil)) (.cons (.chain .le .le (.var 1) (.var 0) (.var 2)) .nil))))
  .nil)
def D3 : Def := ⟨3, false, 3, b_d3⟩
/-- is_row_of -/
def b_d4 : CSs := (.cons (.iff (.or (.cons (.not (.isi .tuple (.var 1))) (.cons (.cmp .ne (.blt .len (.cons (.var 1) .nil)) (.var 0)) .nil))) (.cons (.ret (.lit (.bool false)))
  .nil) .nil)
  (.cons (.iff (.not (.blt .all (.cons (.comp false (.or (.cons (.cmp .is (.var 2) (.lit .none)) (.cons (.call 3 (.cons (.var 2) (.cons (.neg (.gv 1)) (.cons (.gv 1) .nil)))) .nil))) (.nm 2) (.one (.var 1)) .nil [2]) .nil))) (.cons (.ret (.lit (.bool false)))
  .nil) .nil)
  (.cons (.ret (.blt .any (.cons (.comp false (.cmp .isNot (.var 2) (.lit .none)) (.nm 2) (.one (.var 1)) .nil [2]) .nil)))
  .nil)))
def D4 : Def := ⟨2, false, 3, b_d4⟩
/-- require_some_row -/
def b_d5 : CSs := (.cons (.iff (.or (.cons (.not (.isi .tuple (.var 0))) (.cons (.not (.chain .le .le (.lit (.int 1)) (.blt .len (.cons (.var 0) .nil)) (.gv 2))) (.cons (.not (.call 4 (.cons (.blt .len (.cons (.var 0) .nil)) (.cons (.var 0) .nil)))) .nil)))) (.cons .never
  .nil) .nil)
  .nil)
def D5 : Def := ⟨1, false, 1, b_d5⟩
/-- require_full -/
def b_d6 : CSs := (.cons (.for (.nm 1) (.one (.var 0)) (.cons (.expr (.call 5 (.cons (.var 1) .nil)))
  (.cons (.iff (.cmp .isIn (.lit .none) (.var 1)) (.cons .never
  .nil) .nil)
  .nil)))
  (.cons (.iff (.blt .any (.cons (.comp false (.cmp .ne (.blt .len (.cons (.var 1) .nil)) (.blt .len (.cons (.idx (.var 0) (.lit (.int 0))) .nil))) (.nm 1) (.one (.var 0)) .nil [1]) .nil)) (.cons .never
  .nil) .nil)
  .nil))
def D6 : Def := ⟨0, true, 2, b_d6⟩
/-- differences_in -/
def b_d7 : CSs := (.cons (.ret (.kset (.srt false) (.bin .sub (.var 3) (.var 2)) (.tp [2, 3]) (.zip2 (.var 0) (.var 1)) .nil [2, 3]))
  .nil)
def D7 : Def := ⟨2, false, 4, b_d7⟩
/-- gap_in -/
def b_d8 : CSs := (.cons (.asg (.nm 2) (.call 7 (.cons (.var 0) (.cons (.var 1) .nil))))
  (.cons (.ret (.bin .sub (.idx (.var 2) (.neg (.lit (.int 1)))) (.idx (.var 2) (.lit (.int 0)))))
  .nil))
def D8 : Def := ⟨2, false, 3, b_d8⟩
/-- gap -/
def b_d9 : CSs := (.cons (.expr (.call 6 (.cons (.var 0) (.cons (.var 1) .nil))))
  (.cons (.ret (.call 8 (.cons (.var 0) (.cons (.var 1) .nil))))
  .nil))
def D9 : Def := ⟨2, false, 2, b_d9⟩
/-- are_shifts -/
def b_d10 : CSs := (.cons (.expr (.call 6 (.cons (.var 0) (.cons (.var 1) .nil))))
  (.cons (.ret (.cmp .eq (.call 8 (.cons (.var 0) (.cons (.var 1) .nil))) (.lit (.int 0))))
  .nil))
def D10 : Def := ⟨2, false, 2, b_d10⟩
/-- differences -/
def b_d11 : CSs := (.cons (.expr (.call 6 (.cons (.var 0) (.cons (.var 1) .nil))))
  (.cons (.ret (.blt .tuple (.cons (.call 7 (.cons (.var 0) (.cons (.var 1) .nil))) .nil)))
  .nil))
def D11 : Def := ⟨2, false, 2, b_d11⟩
/-- joined_in -/
def b_d12 : CSs := (.cons (.ret (.blt .tuple (.cons (.comp false (.blt .max (.cons (.bin .add (.var 3) (.var 2)) (.cons (.var 4) .nil))) (.tp [3, 4]) (.zip2 (.var 0) (.var 1)) .nil [3, 4]) .nil)))
  .nil)
def D12 : Def := ⟨3, false, 5, b_d12⟩
/-- joined_at -/
def b_d13 : CSs := (.cons (.expr (.call 6 (.cons (.var 0) (.cons (.var 1) .nil))))
  (.cons (.iff (.not (.call 3 (.cons (.var 2) (.cons (.neg (.gv 1)) (.cons (.gv 1) .nil))))) (.cons .never
  .nil) .nil)
  (.cons (.ret (.call 12 (.cons (.var 0) (.cons (.var 1) (.cons (.var 2) .nil)))))
  .nil)))
def D13 : Def := ⟨3, false, 3, b_d13⟩
/-- levelled_in -/
def b_d14 : CSs := (.cons (.ret (.blt .tuple (.cons (.comp false (.bin .sub (.var 1) (.idx (.var 0) (.lit (.int 0)))) (.nm 1) (.one (.var 0)) .nil [1]) .nil)))
  .nil)
def D14 : Def := ⟨1, false, 2, b_d14⟩
/-- corners_in -/
def b_d15 : CSs := (.cons (.ret (.comp false (.call 14 (.cons (.call 12 (.cons (.var 0) (.cons (.var 1) (.cons (.var 2) .nil)))) .nil)) (.nm 2) (.one (.call 7 (.cons (.var 0) (.cons (.var 1) .nil)))) .nil [2]))
  .nil)
def D15 : Def := ⟨2, false, 3, b_d15⟩
/-- corners -/
def b_d16 : CSs := (.cons (.expr (.call 6 (.cons (.var 0) (.cons (.var 1) .nil))))
  (.cons (.ret (.blt .tuple (.cons (.call 15 (.cons (.var 0) (.cons (.var 1) .nil))) .nil)))
  .nil))
def D16 : Def := ⟨2, false, 2, b_d16⟩
/-- lesser -/
def b_d17 : CSs := (.cons (.expr (.call 6 (.cons (.var 0) (.cons (.var 1) .nil))))
  (.cons (.ret (.blt .tuple (.cons (.comp false (.blt .min (.cons (.var 2) (.cons (.var 3) .nil))) (.tp [2, 3]) (.zip2 (.var 0) (.var 1)) .nil [2, 3]) .nil)))
  .nil))
def D17 : Def := ⟨2, false, 4, b_d17⟩
/-- middle_in -/
def b_d18 : CSs := (.cons (.asg (.nm 2) (.call 15 (.cons (.var 0) (.cons (.var 1) .nil))))
  (.cons (.asg (.nm 3) (.comp false (.blt .min (.cons (.call 8 (.cons (.var 0) (.cons (.var 4) .nil))) (.cons (.call 8 (.cons (.var 1) (.cons (.var 4) .nil))) .nil))) (.nm 4) (.one (.var 2)) .nil [4]))
  (.cons (.ret (.idx (.var 2) (.meth .index (.var 3) (.cons (.blt .max (.cons (.var 3) .nil)) .nil))))
  .nil)))
def D18 : Def := ⟨2, false, 5, b_d18⟩
/-- middle -/
def b_d19 : CSs := (.cons (.expr (.call 6 (.cons (.var 0) (.cons (.var 1) .nil))))
  (.cons (.ret (.call 18 (.cons (.var 0) (.cons (.var 1) .nil))))
  .nil))
def D19 : Def := ⟨2, false, 2, b_d19⟩
/-- _law_draw -/
def b_d20 : CSs := (.cons (.iff (.cmp .gt (.idx (.var 0) (.lit (.int 0))) (.lit (.int 0))) (.cons (.asg (.nm 4) (.bin .mod (.blt .int (.cons (.idx (.var 0) (.lit (.int 0))) .nil)) (.var 1)))
  (.cons (.seti (.var 0) (.lit (.int 0)) (.bin .fdiv (.idx (.var 0) (.lit (.int 0))) (.var 1)))
  (.cons (.ret (.var 4))
  .nil))) .nil)
  (.cons (.seti (.var 0) (.lit (.int 2)) (.bin .add (.idx (.var 0) (.lit (.int 2))) (.lit (.int 1))))
  (.cons (.asg (.nm 2) (.bin .mod (.blt .int (.cons (.bin .add (.idx (.var 0) (.lit (.int 1))) (.bin .mul (.lit (.int 86028121)) (.idx (.var 0) (.lit (.int 2))))) .nil)) (.lit (.int 2305843009213693951))))
  (.cons (.asg (.nm 3) (.bin .add (.bin .mul (.bin .mod (.blt .int (.cons (.bin .add (.bin .mul (.var 2) (.var 2)) (.bin .mul (.lit (.int 107)) (.idx (.var 0) (.lit (.int 2))))) .nil)) (.lit (.int 2305843009213693921))) (.lit (.int 3999971))) (.var 2)))
  (.cons (.ret (.bin .mod (.blt .int (.cons (.bin .fdiv (.var 3) (.lit (.int 65539))) .nil)) (.var 1)))
  .nil)))))
def D20 : Def := ⟨2, false, 5, b_d20⟩
/-- _law_one_of -/
def b_d21 : CSs := (.cons (.ret (.idx (.var 1) (.call 20 (.cons (.var 0) (.cons (.blt .len (.cons (.var 1) .nil)) .nil)))))
  .nil)
def D21 : Def := ⟨2, false, 2, b_d21⟩
/-- _law_join -/
def b_d22 : CSs := (.cons (.ret (.blt .tuple (.cons (.comp false (.blt .max (.cons (.bin .add (.var 3) (.var 2)) (.cons (.var 4) .nil))) (.tp [3, 4]) (.zip2 (.var 0) (.var 1)) .nil [3, 4]) .nil)))
  .nil)
def D22 : Def := ⟨3, false, 5, b_d22⟩
/-- _law_row -/
def b_d23 : CSs := (.cons (.asg (.nm 2) (.call 21 (.cons (.var 0) (.cons (.lst false (.cons (.lit (.int 3)) (.cons (.lit (.int 20)) (.cons (.bin .pow (.lit (.int 10)) (.lit (.int 8))) .nil)))) .nil))))
  (.cons (.ret (.blt .tuple (.cons (.comp false (.bin .sub (.call 20 (.cons (.var 0) (.cons (.bin .add (.bin .mul (.lit (.int 2)) (.var 2)) (.lit (.int 1))) .nil))) (.var 2)) (.nm 3) (.rng1 (.var 1)) .nil [3]) .nil)))
  .nil))
def D23 : Def := ⟨2, false, 4, b_d23⟩
/-- _law_gap -/
def b_d24 : CSs := (.cons (.asg (.nm 2) (.comp false (.bin .sub (.var 4) (.var 3)) (.tp [3, 4]) (.zip2 (.var 0) (.var 1)) .nil [3, 4]))
  (.cons (.ret (.bin .sub (.blt .max (.cons (.var 2) .nil)) (.blt .min (.cons (.var 2) .nil))))
  .nil))
def D24 : Def := ⟨2, false, 5, b_d24⟩
/-- _law_right -/
def b_d25 : CSs := (.cons (.asg (.nm 1) (.bin .add (.lit (.int 1)) (.call 20 (.cons (.var 0) (.cons (.lit (.int 5)) .nil)))))
  (.cons (.asg (.tp [12, 13]) (.tup (.cons (.call 23 (.cons (.var 0) (.cons (.var 1) .nil))) (.cons (.call 23 (.cons (.var 0) (.cons (.var 1) .nil))) .nil))))
  (.cons (.asg (.nm 2) (.call 20 (.cons (.var 0) (.cons (.lit (.int 99)) .nil))))
  (.cons (.asg (.nm 3) (.call 21 (.cons (.var 0) (.cons (.lst false (.cons (.call 23 (.cons (.var 0) (.cons (.var 1) .nil))) (.cons (.blt .tuple (.cons (.comp false (.bin .add (.var 16) (.var 2)) (.nm 16) (.one (.var 12)) .nil [16]) .nil)) .nil))) .nil))))
  (.cons (.asg (.nm 4) (.sset (.srt false) (.comp false (.bin .sub (.var 18) (.var 17)) (.tp [17, 18]) (.zip2 (.var 12) (.var 3)) .nil [17, 18])))
  (.cons (.iff (.rcmp true (.lst false (.cons (.call 9 (.cons (.var 12) (.cons (.var 3) .nil))) (.cons (.call 9 (.cons (.var 3) (.cons (.var 12) .nil))) (.cons (.call 10 (.cons (.var 12) (.cons (.var 3) .nil))) (.cons (.call 11 (.cons (.var 12) (.cons (.var 3) .nil))) .nil))))) (.lst false (.cons (.bin .sub (.idx (.var 4) (.neg (.lit (.int 1)))) (.idx (.var 4) (.lit (.int 0)))) (.cons (.bin .sub (.idx (.var 4) (.neg (.lit (.int 1)))) (.idx (.var 4) (.lit (.int 0)))) (.cons (.cmp .eq (.blt .len (.cons (.var 4) .nil)) (.lit (.int 1))) (.cons (.blt .tuple (.cons (.var 4) .nil)) .nil)))))) (.cons (.ret (.lit (.bool false)))
  .nil) .nil)
  (.cons (.iff (.or (.cons (.cmp .gt (.call 9 (.cons (.var 12) (.cons (.var 3) .nil))) (.bin .add (.call 9 (.cons (.var 12) (.cons (.var 13) .nil))) (.call 9 (.cons (.var 13) (.cons (.var 3) .nil))))) (.cons (.cmp .ne (.call 9 (.cons (.blt .tuple (.cons (.comp false (.bin .add (.var 16) (.lit (.int 7))) (.nm 16) (.one (.var 12)) .nil [16]) .nil)) (.cons (.var 3) .nil))) (.call 9 (.cons (.var 12) (.cons (.var 3) .nil)))) .nil))) (.cons (.ret (.lit (.bool false)))
  .nil) .nil)
  (.cons (.asg (.nm 5) (.comp false (.blt .tuple (.cons (.comp false (.bin .add (.var 17) (.var 18)) (.tp [17, 18]) (.zip2 (.var 15) (.var 13)) .nil [17, 18]) .nil)) (.nm 15) (.one (.tup (.cons (.var 12) (.cons (.var 3) .nil)))) .nil [15]))
  (.cons (.iff (.cmp .ne (.call 9 (.cons (.idx (.var 5) (.lit (.int 0))) (.cons (.idx (.var 5) (.lit (.int 1))) .nil))) (.call 9 (.cons (.var 12) (.cons (.var 3) .nil)))) (.cons (.ret (.lit (.bool false)))
  .nil) .nil)
  (.cons (.asg (.nm 6) (.comp false (.call 22 (.cons (.var 12) (.cons (.var 3) (.cons (.var 8) .nil)))) (.nm 8) (.one (.var 4)) .nil [8]))
  (.cons (.asg (.nm 7) (.comp false (.blt .tuple (.cons (.comp false (.bin .sub (.var 16) (.idx (.var 15) (.lit (.int 0)))) (.nm 16) (.one (.var 15)) .nil [16]) .nil)) (.nm 15) (.one (.var 6)) .nil [15]))
  (.cons (.iff (.or (.cons (.rcmp true (.call 16 (.cons (.var 12) (.cons (.var 3) .nil))) (.blt .tuple (.cons (.var 7) .nil))) (.cons (.cmp .ne (.sset .len (.var 7)) (.blt .len (.cons (.var 4) .nil))) .nil))) (.cons (.ret (.lit (.bool false)))
  .nil) .nil)
  (.cons (.for (.nm 8) (.one (.bin .add (.sl (.var 4) .none (.some (.lit (.int 2)))) (.lst false (.cons (.bin .sub (.call 20 (.cons (.var 0) (.cons (.lit (.int 2001)) .nil))) (.lit (.int 1000))) (.cons (.lit (.int 0)) .nil))))) (.cons (.iff (.rcmp true (.call 13 (.cons (.var 12) (.cons (.var 3) (.cons (.var 8) .nil)))) (.call 22 (.cons (.var 12) (.cons (.var 3) (.cons (.var 8) .nil))))) (.cons (.ret (.lit (.bool false)))
  .nil) .nil)
  (.cons (.asg (.nm 14) (.blt .min (.cons (.blt .max (.cons (.var 8) (.cons (.idx (.var 4) (.lit (.int 0))) .nil))) (.cons (.idx (.var 4) (.neg (.lit (.int 1)))) .nil))))
  (.cons (.iff (.or (.cons (.cmp .ne (.call 24 (.cons (.var 3) (.cons (.call 22 (.cons (.var 12) (.cons (.var 3) (.cons (.var 14) .nil)))) .nil))) (.bin .sub (.var 14) (.idx (.var 4) (.lit (.int 0))))) (.cons (.cmp .ne (.call 24 (.cons (.var 12) (.cons (.call 22 (.cons (.var 12) (.cons (.var 3) (.cons (.var 14) .nil)))) .nil))) (.bin .sub (.idx (.var 4) (.neg (.lit (.int 1)))) (.var 14))) .nil))) (.cons (.ret (.lit (.bool false)))
  .nil) .nil)
  .nil))))
  (.cons (.asg (.nm 9) (.comp false (.blt .min (.cons (.call 24 (.cons (.var 12) (.cons (.var 15) .nil))) (.cons (.call 24 (.cons (.var 3) (.cons (.var 15) .nil))) .nil))) (.nm 15) (.one (.var 7)) .nil [15]))
  (.cons (.iff (.rcmp true (.call 19 (.cons (.var 12) (.cons (.var 3) .nil))) (.idx (.var 7) (.meth .index (.var 9) (.cons (.blt .max (.cons (.var 9) .nil)) .nil)))) (.cons (.ret (.lit (.bool false)))
  .nil) .nil)
  (.cons (.asg (.nm 10) (.blt .tuple (.cons (.comp false (.blt .min (.cons (.var 17) (.cons (.var 18) .nil))) (.tp [17, 18]) (.zip2 (.var 12) (.var 3)) .nil [17, 18]) .nil)))
  (.cons (.asg (.nm 11) (.call 22 (.cons (.var 12) (.cons (.var 3) (.cons (.lit (.int 0)) .nil)))))
  (.cons (.iff (.cmp .ne (.comp false (.bin .add (.var 17) (.var 18)) (.tp [17, 18]) (.zip2 (.var 12) (.var 3)) .nil [17, 18]) (.comp false (.bin .add (.var 17) (.var 18)) (.tp [17, 18]) (.zip2 (.var 10) (.var 11)) .nil [17, 18])) (.cons (.ret (.lit (.bool false)))
  .nil) .nil)
  (.cons (.ret (.and (.cons (.rcmp false (.call 17 (.cons (.var 12) (.cons (.var 3) .nil))) (.var 10)) (.cons (.cmp .le (.blt .max (.cons (.call 9 (.cons (.var 10) (.cons (.var 12) .nil))) (.cons (.call 9 (.cons (.var 10) (.cons (.var 3) .nil))) .nil))) (.call 9 (.cons (.var 12) (.cons (.var 3) .nil)))) .nil))))
  .nil)))))))))))))))))))
def D25 : Def := ⟨1, false, 19, b_d25⟩
/-- law -/
def b_d26 : CSs := (.cons (.for (.nm 1) (.rng1 (.blt .max (.cons (.lit (.int 1)) (.cons (.blt .min (.cons (.lit (.int 2)) (.cons (.blt .len (.cons (.var 0) .nil)) .nil))) .nil)))) (.cons (.asg (.nm 3) (.call 0 (.cons (.var 0) (.cons (.var 1) .nil))))
  (.cons (.for (.nm 4) (.rng1 (.lit (.int 8))) (.cons (.iff (.not (.call 25 (.cons (.var 3) .nil))) (.cons (.ret (.lit (.bool false)))
  .nil) .nil)
  .nil))
  .nil)))
  (.cons (.asg (.tp [5, 6]) (.tup (.cons (.tup (.cons (.lit (.int 0)) (.cons (.lit (.int 0)) (.cons (.lit (.int 0)) .nil)))) (.cons (.tup (.cons (.lit (.int 0)) (.cons (.lit (.int 2)) (.cons (.lit (.int 5)) .nil)))) .nil))))
  (.cons (.asg (.nm 2) (.lst false (.cons (.call 9 (.cons (.var 5) (.cons (.var 6) .nil))) (.cons (.call 10 (.cons (.var 5) (.cons (.tup (.cons (.lit (.int 3)) (.cons (.lit (.int 3)) (.cons (.lit (.int 3)) .nil)))) .nil))) (.cons (.call 11 (.cons (.var 5) (.cons (.var 6) .nil))) (.cons (.call 13 (.cons (.var 5) (.cons (.var 6) (.cons (.lit (.int 3)) .nil)))) (.cons (.call 16 (.cons (.var 5) (.cons (.var 6) .nil))) (.cons (.call 17 (.cons (.var 5) (.cons (.var 6) .nil))) (.cons (.call 19 (.cons (.var 5) (.cons (.var 6) .nil))) (.cons (.call 16 (.cons (.tup (.cons (.lit (.int 4)) .nil)) (.cons (.tup (.cons (.lit (.int 9)) .nil)) .nil))) .nil))))))))))
  (.cons (.ret (.rcmp false (.var 2) (.lst false (.cons (.lit (.int 5)) (.cons (.lit (.bool true)) (.cons (.tup (.cons (.lit (.int 0)) (.cons (.lit (.int 2)) (.cons (.lit (.int 5)) .nil)))) (.cons (.tup (.cons (.lit (.int 3)) (.cons (.lit (.int 3)) (.cons (.lit (.int 5)) .nil)))) (.cons (.tup (.cons (.tup (.cons (.lit (.int 0)) (.cons (.lit (.int 2)) (.cons (.lit (.int 5)) .nil)))) (.cons (.tup (.cons (.lit (.int 0)) (.cons (.lit (.int 0)) (.cons (.lit (.int 3)) .nil)))) (.cons (.tup (.cons (.lit (.int 0)) (.cons (.lit (.int 0)) (.cons (.lit (.int 0)) .nil)))) .nil)))) (.cons (.tup (.cons (.lit (.int 0)) (.cons (.lit (.int 0)) (.cons (.lit (.int 0)) .nil)))) (.cons (.tup (.cons (.lit (.int 0)) (.cons (.lit (.int 0)) (.cons (.lit (.int 3)) .nil)))) (.cons (.tup (.cons (.tup (.cons (.lit (.int 0)) .nil)) .nil)) .nil)))))))))))
  .nil))))
def D26 : Def := ⟨1, false, 7, b_d26⟩
def DS : List Def := [D0, D1, D2, D3, D4, D5, D6, D7, D8, D9, D10, D11, D12, D13, D14, D15, D16, D17, D18, D19, D20, D21, D22, D23, D24, D25, D26]
def GV : List PyData := [.int (1000000000000000000000000000000000000000000000000000000000000), .int (1000000000), .int (5)]
def P0 : List Fn := fnsOf GV [] []
def F0 : Fn := mkFn P0 GV D0
def P1 : List Fn := fnsOf GV [D0] []
def F1 : Fn := mkFn P1 GV D1
def P2 : List Fn := fnsOf GV [D0, D1] []
def F2 : Fn := mkFn P2 GV D2
def P3 : List Fn := fnsOf GV [D0, D1, D2] []
def F3 : Fn := mkFn P3 GV D3
def P4 : List Fn := fnsOf GV [D0, D1, D2, D3] []
def F4 : Fn := mkFn P4 GV D4
def P5 : List Fn := fnsOf GV [D0, D1, D2, D3, D4] []
def F5 : Fn := mkFn P5 GV D5
def P6 : List Fn := fnsOf GV [D0, D1, D2, D3, D4, D5] []
def F6 : Fn := mkFn P6 GV D6
def P7 : List Fn := fnsOf GV [D0, D1, D2, D3, D4, D5, D6] []
def F7 : Fn := mkFn P7 GV D7
def P8 : List Fn := fnsOf GV [D0, D1, D2, D3, D4, D5, D6, D7] []
def F8 : Fn := mkFn P8 GV D8
def P9 : List Fn := fnsOf GV [D0, D1, D2, D3, D4, D5, D6, D7, D8] []
def F9 : Fn := mkFn P9 GV D9
def P10 : List Fn := fnsOf GV [D0, D1, D2, D3, D4, D5, D6, D7, D8, D9] []
def F10 : Fn := mkFn P10 GV D10
def P11 : List Fn := fnsOf GV [D0, D1, D2, D3, D4, D5, D6, D7, D8, D9, D10] []
def F11 : Fn := mkFn P11 GV D11
def P12 : List Fn := fnsOf GV [D0, D1, D2, D3, D4, D5, D6, D7, D8, D9, D10, D11] []
def F12 : Fn := mkFn P12 GV D12
def P13 : List Fn := fnsOf GV [D0, D1, D2, D3, D4, D5, D6, D7, D8, D9, D10, D11, D12] []
def F13 : Fn := mkFn P13 GV D13
def P14 : List Fn := fnsOf GV [D0, D1, D2, D3, D4, D5, D6, D7, D8, D9, D10, D11, D12, D13] []
def F14 : Fn := mkFn P14 GV D14
def P15 : List Fn := fnsOf GV [D0, D1, D2, D3, D4, D5, D6, D7, D8, D9, D10, D11, D12, D13, D14] []
def F15 : Fn := mkFn P15 GV D15
def P16 : List Fn := fnsOf GV [D0, D1, D2, D3, D4, D5, D6, D7, D8, D9, D10, D11, D12, D13, D14, D15] []
def F16 : Fn := mkFn P16 GV D16
def P17 : List Fn := fnsOf GV [D0, D1, D2, D3, D4, D5, D6, D7, D8, D9, D10, D11, D12, D13, D14, D15, D16] []
def F17 : Fn := mkFn P17 GV D17
def P18 : List Fn := fnsOf GV [D0, D1, D2, D3, D4, D5, D6, D7, D8, D9, D10, D11, D12, D13, D14, D15, D16, D17] []
def F18 : Fn := mkFn P18 GV D18
def P19 : List Fn := fnsOf GV [D0, D1, D2, D3, D4, D5, D6, D7, D8, D9, D10, D11, D12, D13, D14, D15, D16, D17, D18] []
def F19 : Fn := mkFn P19 GV D19
def P20 : List Fn := fnsOf GV [D0, D1, D2, D3, D4, D5, D6, D7, D8, D9, D10, D11, D12, D13, D14, D15, D16, D17, D18, D19] []
def F20 : Fn := mkFn P20 GV D20
def P21 : List Fn := fnsOf GV [D0, D1, D2, D3, D4, D5, D6, D7, D8, D9, D10, D11, D12, D13, D14, D15, D16, D17, D18, D19, D20] []
def F21 : Fn := mkFn P21 GV D21
def P22 : List Fn := fnsOf GV [D0, D1, D2, D3, D4, D5, D6, D7, D8, D9, D10, D11, D12, D13, D14, D15, D16, D17, D18, D19, D20, D21] []
def F22 : Fn := mkFn P22 GV D22
def P23 : List Fn := fnsOf GV [D0, D1, D2, D3, D4, D5, D6, D7, D8, D9, D10, D11, D12, D13, D14, D15, D16, D17, D18, D19, D20, D21, D22] []
def F23 : Fn := mkFn P23 GV D23
def P24 : List Fn := fnsOf GV [D0, D1, D2, D3, D4, D5, D6, D7, D8, D9, D10, D11, D12, D13, D14, D15, D16, D17, D18, D19, D20, D21, D22, D23] []
def F24 : Fn := mkFn P24 GV D24
def P25 : List Fn := fnsOf GV [D0, D1, D2, D3, D4, D5, D6, D7, D8, D9, D10, D11, D12, D13, D14, D15, D16, D17, D18, D19, D20, D21, D22, D23, D24] []
def F25 : Fn := mkFn P25 GV D25
def P26 : List Fn := fnsOf GV [D0, D1, D2, D3, D4, D5, D6, D7, D8, D9, D10, D11, D12, D13, D14, D15, D16, D17, D18, D19, D20, D21, D22, D23, D24, D25] []
def F26 : Fn := mkFn P26 GV D26
end LW
end
section
namespace LW
open MP PySem
section
variable (S : Store)
theorem in1 (a : D) : F1 [a] S = leave S.length (evSs P1 GV b_d1 [some a] S) := rfl
theorem in2 (a : D) : F2 [a] S = leave S.length (evSs P2 GV b_d2 [some a] S) := rfl
theorem in3 (a b c : D) : F3 [a, b, c] S = leave S.length (evSs P3 GV b_d3 [some a, some b, some c] S) := rfl
theorem in4 (a b : D) : F4 [a, b] S = leave S.length (evSs P4 GV b_d4 [some a, some b, none] S) := rfl
theorem in5 (a : D) : F5 [a] S = leave S.length (evSs P5 GV b_d5 [some a] S) := rfl
theorem in7 (a b : D) : F7 [a, b] S = leave S.length (evSs P7 GV b_d7 [some a, some b, none, none] S) := rfl
theorem in20 (a b : D) : F20 [a, b] S = leave S.length (evSs P20 GV b_d20 [some a, some b, none, none, none] S) := rfl
theorem in21 (a b : D) : F21 [a, b] S = leave S.length (evSs P21 GV b_d21 [some a, some b] S) := rfl
theorem in23 (a b : D) : F23 [a, b] S = leave S.length (evSs P23 GV b_d23 [some a, some b, none, none] S) := rfl
theorem in14 (a : D) : F14 [a] S = leave S.length (evSs P14 GV b_d14 [some a, none] S) := rfl
theorem in12 (a b c : D) : F12 [a, b, c] S = leave S.length (evSs P12 GV b_d12 [some a, some b, some c, none, none] S) := rfl
theorem in15 (a b : D) : F15 [a, b] S = leave S.length (evSs P15 GV b_d15 [some a, some b, none] S) := rfl
theorem in16 (a b : D) : F16 [a, b] S = leave S.length (evSs P16 GV b_d16 [some a, some b] S) := rfl
theorem g0 : GV[0]? = some (.int 1000000000000000000000000000000000000000000000000000000000000) := rfl
theorem g1 : GV[1]? = some (.int 1000000000) := rfl
theorem g2 : GV[2]? = some (.int 5) := rfl
theorem F1_gen (p : PyData) : F1 [.dat p] S = .ok (.dat (.bool (isaP .int p && !isaP .bool p))) S := by
  rw [in1]
  cases p <;> simp (maxDischargeDepth := 3) only [xE_var, xE_lit, xE_gv, xE_bin, xE_neg, xE_not, xE_and, xE_or, xE_cmp, xE_rcmp, xE_chain, xE_ite, xE_call, xE_blt, xE_idx, xE_sl, xE_tup, xE_lst, xE_comp, xE_kset, xE_isi, xA_one, xA_cons, xO_one, xO_cons, xL_nil, xL_cons, xL_star, xT_nil, xT_one, xU_none, xU_some, xI_one, xI_enum, xI_rng1, xI_rng2, xI_zip2, xS_asg, xS_par, xS_seti, xS_expr, xS_ret, xS_retN, xS_iff, xS_for, xSs_nil, xSs_cons, bind_ok, sr_ok, ofP_some, ofO_some, getV_some, getG_some, negR_int, fitR_ok, compR_some, callR_some, boolR_some, selR_t, selR_f, forkR_t, forkR_f, optR_some, iR_int, rng1R_int, rng2R_int, zipR_some, nxR_some, setR_some, at_nx, at_rt, truth_bool, truth_list, truth_tuple, put_nm, put_tp, put_tp2, setSlots_nil, setSlots_cons, add_int, sub_int, add_tup, add_lst, mod_int, lt_int, le_int, gt_int, ge_int, eq_int, ne_int, eq_bool, ne_bool, is_bool, isNot_bool, is_intN, isNot_intN, cmpR_of _ (lt_int _ _ _), cmpR_of _ (le_int _ _ _), cmpR_of _ (gt_int _ _ _), cmpR_of _ (ge_int _ _ _), cmpR_of _ (eq_int _ _ _), cmpR_of _ (ne_int _ _ _), cmpR_of _ (eq_bool _ _ _), cmpR_of _ (ne_bool _ _ _), cmpR_of _ (is_bool _ _ _), cmpR_of _ (isNot_bool _ _ _), cmpR_of _ (is_intN _ _), cmpR_of _ (isNot_intN _ _), len_tup, len_lst, len_scr, abs_int, int_int, int_bool, min_ints, max_ints, tuple_lst, tuple_tup, list_tup, mkL_f, mkT_f, toDats_cons, toDats_nil, toDats_app, List.append_nil, Nat.reduceAdd, Nat.reduceLeDiff, decide_true, decide_false, Int.reduceEq, srcOf_tup, srcOf_lst, isaD_dat, below_dat, leave_rtS, leave_nxS, wipe_nil, wipe_cons, map_some', len_one, len_enum, len_zip, len_rng, len_vals, truthR, List.getElem?_cons_zero, List.getElem?_cons_succ, List.set_cons_zero, List.set_cons_succ, List.length_cons, List.length_nil, List.length_map, List.reverse_cons, List.reverse_nil, List.nil_append, List.cons_append, List.map_cons, List.map_nil, Nat.zero_add, Bool.not_true, Bool.not_false, idx_t0, idx_t1, idx_t2, idx_l0, seq_tup, eq_row, eq_ints, eq_nil, ne_nil, in_none_row, in_ints, toDats_dat, intsOf_int, Option.bind_some, cmpR_of _ (eq_row _ _ _), cmpR_of _ (eq_ints _ _ _), cmpR_of _ (eq_nil _ _), cmpR_of _ (ne_nil _ _), cmpR_of _ (in_none_row _ _), cmpR_of _ (in_ints _ _ _), cmpR_of _ (ne_nilnil _), b_d1, isaP, Bool.and_true, Bool.and_false, Bool.true_and, Bool.false_and]
theorem p2_1 : P2[1]? = some F1 := rfl
theorem F2_int (i : Int) (h1 : -1000000000000000000000000000000000000000000000000000000000000 < i) (h2 : i < 1000000000000000000000000000000000000000000000000000000000000) : F2 [.dat (.int i)] S = .ok (.dat (.bool true)) S := by
  rw [in2]
  simp (maxDischargeDepth := 3) only [xE_var, xE_lit, xE_gv, xE_bin, xE_neg, xE_not, xE_and, xE_or, xE_cmp, xE_rcmp, xE_chain, xE_ite, xE_call, xE_blt, xE_idx, xE_sl, xE_tup, xE_lst, xE_comp, xE_kset, xE_isi, xA_one, xA_cons, xO_one, xO_cons, xL_nil, xL_cons, xL_star, xT_nil, xT_one, xU_none, xU_some, xI_one, xI_enum, xI_rng1, xI_rng2, xI_zip2, xS_asg, xS_par, xS_seti, xS_expr, xS_ret, xS_retN, xS_iff, xS_for, xSs_nil, xSs_cons, bind_ok, sr_ok, ofP_some, ofO_some, getV_some, getG_some, negR_int, fitR_ok, compR_some, callR_some, boolR_some, selR_t, selR_f, forkR_t, forkR_f, optR_some, iR_int, rng1R_int, rng2R_int, zipR_some, nxR_some, setR_some, at_nx, at_rt, truth_bool, truth_list, truth_tuple, put_nm, put_tp, put_tp2, setSlots_nil, setSlots_cons, add_int, sub_int, add_tup, add_lst, mod_int, lt_int, le_int, gt_int, ge_int, eq_int, ne_int, eq_bool, ne_bool, is_bool, isNot_bool, is_intN, isNot_intN, cmpR_of _ (lt_int _ _ _), cmpR_of _ (le_int _ _ _), cmpR_of _ (gt_int _ _ _), cmpR_of _ (ge_int _ _ _), cmpR_of _ (eq_int _ _ _), cmpR_of _ (ne_int _ _ _), cmpR_of _ (eq_bool _ _ _), cmpR_of _ (ne_bool _ _ _), cmpR_of _ (is_bool _ _ _), cmpR_of _ (isNot_bool _ _ _), cmpR_of _ (is_intN _ _), cmpR_of _ (isNot_intN _ _), len_tup, len_lst, len_scr, abs_int, int_int, int_bool, min_ints, max_ints, tuple_lst, tuple_tup, list_tup, mkL_f, mkT_f, toDats_cons, toDats_nil, toDats_app, List.append_nil, Nat.reduceAdd, Nat.reduceLeDiff, decide_true, decide_false, Int.reduceEq, srcOf_tup, srcOf_lst, isaD_dat, below_dat, leave_rtS, leave_nxS, wipe_nil, wipe_cons, map_some', len_one, len_enum, len_zip, len_rng, len_vals, truthR, List.getElem?_cons_zero, List.getElem?_cons_succ, List.set_cons_zero, List.set_cons_succ, List.length_cons, List.length_nil, List.length_map, List.reverse_cons, List.reverse_nil, List.nil_append, List.cons_append, List.map_cons, List.map_nil, Nat.zero_add, Bool.not_true, Bool.not_false, idx_t0, idx_t1, idx_t2, idx_l0, seq_tup, eq_row, eq_ints, eq_nil, ne_nil, in_none_row, in_ints, toDats_dat, intsOf_int, Option.bind_some, cmpR_of _ (eq_row _ _ _), cmpR_of _ (eq_ints _ _ _), cmpR_of _ (eq_nil _ _), cmpR_of _ (ne_nil _ _), cmpR_of _ (in_none_row _ _), cmpR_of _ (in_ints _ _ _), cmpR_of _ (ne_nilnil _), b_d2, p2_1, g0, F1_gen, isaP, Bool.true_and, decide_eq_true h1, decide_eq_true h2]
theorem F2_not (p : PyData) (h : (isaP .int p && !isaP .bool p) = false) : F2 [.dat p] S = .ok (.dat (.bool false)) S := by
  rw [in2]
  simp (maxDischargeDepth := 3) only [xE_var, xE_lit, xE_gv, xE_bin, xE_neg, xE_not, xE_and, xE_or, xE_cmp, xE_rcmp, xE_chain, xE_ite, xE_call, xE_blt, xE_idx, xE_sl, xE_tup, xE_lst, xE_comp, xE_kset, xE_isi, xA_one, xA_cons, xO_one, xO_cons, xL_nil, xL_cons, xL_star, xT_nil, xT_one, xU_none, xU_some, xI_one, xI_enum, xI_rng1, xI_rng2, xI_zip2, xS_asg, xS_par, xS_seti, xS_expr, xS_ret, xS_retN, xS_iff, xS_for, xSs_nil, xSs_cons, bind_ok, sr_ok, ofP_some, ofO_some, getV_some, getG_some, negR_int, fitR_ok, compR_some, callR_some, boolR_some, selR_t, selR_f, forkR_t, forkR_f, optR_some, iR_int, rng1R_int, rng2R_int, zipR_some, nxR_some, setR_some, at_nx, at_rt, truth_bool, truth_list, truth_tuple, put_nm, put_tp, put_tp2, setSlots_nil, setSlots_cons, add_int, sub_int, add_tup, add_lst, mod_int, lt_int, le_int, gt_int, ge_int, eq_int, ne_int, eq_bool, ne_bool, is_bool, isNot_bool, is_intN, isNot_intN, cmpR_of _ (lt_int _ _ _), cmpR_of _ (le_int _ _ _), cmpR_of _ (gt_int _ _ _), cmpR_of _ (ge_int _ _ _), cmpR_of _ (eq_int _ _ _), cmpR_of _ (ne_int _ _ _), cmpR_of _ (eq_bool _ _ _), cmpR_of _ (ne_bool _ _ _), cmpR_of _ (is_bool _ _ _), cmpR_of _ (isNot_bool _ _ _), cmpR_of _ (is_intN _ _), cmpR_of _ (isNot_intN _ _), len_tup, len_lst, len_scr, abs_int, int_int, int_bool, min_ints, max_ints, tuple_lst, tuple_tup, list_tup, mkL_f, mkT_f, toDats_cons, toDats_nil, toDats_app, List.append_nil, Nat.reduceAdd, Nat.reduceLeDiff, decide_true, decide_false, Int.reduceEq, srcOf_tup, srcOf_lst, isaD_dat, below_dat, leave_rtS, leave_nxS, wipe_nil, wipe_cons, map_some', len_one, len_enum, len_zip, len_rng, len_vals, truthR, List.getElem?_cons_zero, List.getElem?_cons_succ, List.set_cons_zero, List.set_cons_succ, List.length_cons, List.length_nil, List.length_map, List.reverse_cons, List.reverse_nil, List.nil_append, List.cons_append, List.map_cons, List.map_nil, Nat.zero_add, Bool.not_true, Bool.not_false, idx_t0, idx_t1, idx_t2, idx_l0, seq_tup, eq_row, eq_ints, eq_nil, ne_nil, in_none_row, in_ints, toDats_dat, intsOf_int, Option.bind_some, cmpR_of _ (eq_row _ _ _), cmpR_of _ (eq_ints _ _ _), cmpR_of _ (eq_nil _ _), cmpR_of _ (ne_nil _ _), cmpR_of _ (in_none_row _ _), cmpR_of _ (in_ints _ _ _), cmpR_of _ (ne_nilnil _), b_d2, p2_1, g0, F1_gen, h]
theorem p3_2 : P3[2]? = some F2 := rfl
theorem F3_in (i a b : Int) (h1 : a ≤ i) (h2 : i ≤ b) (h3 : -1000000000 ≤ a) (h4 : b ≤ 1000000000) : F3 [.dat (.int i), .dat (.int a), .dat (.int b)] S = .ok (.dat (.bool true)) S := by
  rw [in3]
  simp (maxDischargeDepth := 3) only [xE_var, xE_lit, xE_gv, xE_bin, xE_neg, xE_not, xE_and, xE_or, xE_cmp, xE_rcmp, xE_chain, xE_ite, xE_call, xE_blt, xE_idx, xE_sl, xE_tup, xE_lst, xE_comp, xE_kset, xE_isi, xA_one, xA_cons, xO_one, xO_cons, xL_nil, xL_cons, xL_star, xT_nil, xT_one, xU_none, xU_some, xI_one, xI_enum, xI_rng1, xI_rng2, xI_zip2, xS_asg, xS_par, xS_seti, xS_expr, xS_ret, xS_retN, xS_iff, xS_for, xSs_nil, xSs_cons, bind_ok, sr_ok, ofP_some, ofO_some, getV_some, getG_some, negR_int, fitR_ok, compR_some, callR_some, boolR_some, selR_t, selR_f, forkR_t, forkR_f, optR_some, iR_int, rng1R_int, rng2R_int, zipR_some, nxR_some, setR_some, at_nx, at_rt, truth_bool, truth_list, truth_tuple, put_nm, put_tp, put_tp2, setSlots_nil, setSlots_cons, add_int, sub_int, add_tup, add_lst, mod_int, lt_int, le_int, gt_int, ge_int, eq_int, ne_int, eq_bool, ne_bool, is_bool, isNot_bool, is_intN, isNot_intN, cmpR_of _ (lt_int _ _ _), cmpR_of _ (le_int _ _ _), cmpR_of _ (gt_int _ _ _), cmpR_of _ (ge_int _ _ _), cmpR_of _ (eq_int _ _ _), cmpR_of _ (ne_int _ _ _), cmpR_of _ (eq_bool _ _ _), cmpR_of _ (ne_bool _ _ _), cmpR_of _ (is_bool _ _ _), cmpR_of _ (isNot_bool _ _ _), cmpR_of _ (is_intN _ _), cmpR_of _ (isNot_intN _ _), len_tup, len_lst, len_scr, abs_int, int_int, int_bool, min_ints, max_ints, tuple_lst, tuple_tup, list_tup, mkL_f, mkT_f, toDats_cons, toDats_nil, toDats_app, List.append_nil, Nat.reduceAdd, Nat.reduceLeDiff, decide_true, decide_false, Int.reduceEq, srcOf_tup, srcOf_lst, isaD_dat, below_dat, leave_rtS, leave_nxS, wipe_nil, wipe_cons, map_some', len_one, len_enum, len_zip, len_rng, len_vals, truthR, List.getElem?_cons_zero, List.getElem?_cons_succ, List.set_cons_zero, List.set_cons_succ, List.length_cons, List.length_nil, List.length_map, List.reverse_cons, List.reverse_nil, List.nil_append, List.cons_append, List.map_cons, List.map_nil, Nat.zero_add, Bool.not_true, Bool.not_false, idx_t0, idx_t1, idx_t2, idx_l0, seq_tup, eq_row, eq_ints, eq_nil, ne_nil, in_none_row, in_ints, toDats_dat, intsOf_int, Option.bind_some, cmpR_of _ (eq_row _ _ _), cmpR_of _ (eq_ints _ _ _), cmpR_of _ (eq_nil _ _), cmpR_of _ (ne_nil _ _), cmpR_of _ (in_none_row _ _), cmpR_of _ (in_ints _ _ _), cmpR_of _ (ne_nilnil _), b_d3, p3_2, F2_int S i (by omega) (by omega), decide_eq_true h1, decide_eq_true h2]
theorem p4_3 : P4[3]? = some F3 := rfl
theorem F4_row (xs : List Int) (h : Bd 1000000000 xs) (h0 : 0 < xs.length) (h5 : xs.length ≤ 5) : F4 [.dat (.int (xs.length : Nat)), .dat (row xs)] S = .ok (.dat (.bool true)) S := by
  rw [in4]
  have hf : xs.length ≤ 16777216 := by omega
  have c1 := comp_1b (Φ := P4) (G := GV) (S := S) (i := 2) (ev := [some (.dat (.int (xs.length : Nat))), some (.dat (row xs)), none]) (elt := .or (.cons (.cmp .is (.var 2) (.lit .none)) (.cons (.call 3 (.cons (.var 2) (.cons (.neg (.gv 1)) (.cons (.gv 1) .nil)))) .nil))) (xs.map .int) (fun _ => true) (fun p hp => by
    obtain ⟨x, hx, rfl⟩ := List.mem_map.mp hp
    have := h x hx
    simp (maxDischargeDepth := 3) only [xE_var, xE_lit, xE_gv, xE_bin, xE_neg, xE_not, xE_and, xE_or, xE_cmp, xE_rcmp, xE_chain, xE_ite, xE_call, xE_blt, xE_idx, xE_sl, xE_tup, xE_lst, xE_comp, xE_kset, xE_isi, xA_one, xA_cons, xO_one, xO_cons, xL_nil, xL_cons, xL_star, xT_nil, xT_one, xU_none, xU_some, xI_one, xI_enum, xI_rng1, xI_rng2, xI_zip2, xS_asg, xS_par, xS_seti, xS_expr, xS_ret, xS_retN, xS_iff, xS_for, xSs_nil, xSs_cons, bind_ok, sr_ok, ofP_some, ofO_some, getV_some, getG_some, negR_int, fitR_ok, compR_some, callR_some, boolR_some, selR_t, selR_f, forkR_t, forkR_f, optR_some, iR_int, rng1R_int, rng2R_int, zipR_some, nxR_some, setR_some, at_nx, at_rt, truth_bool, truth_list, truth_tuple, put_nm, put_tp, put_tp2, setSlots_nil, setSlots_cons, add_int, sub_int, add_tup, add_lst, mod_int, lt_int, le_int, gt_int, ge_int, eq_int, ne_int, eq_bool, ne_bool, is_bool, isNot_bool, is_intN, isNot_intN, cmpR_of _ (lt_int _ _ _), cmpR_of _ (le_int _ _ _), cmpR_of _ (gt_int _ _ _), cmpR_of _ (ge_int _ _ _), cmpR_of _ (eq_int _ _ _), cmpR_of _ (ne_int _ _ _), cmpR_of _ (eq_bool _ _ _), cmpR_of _ (ne_bool _ _ _), cmpR_of _ (is_bool _ _ _), cmpR_of _ (isNot_bool _ _ _), cmpR_of _ (is_intN _ _), cmpR_of _ (isNot_intN _ _), len_tup, len_lst, len_scr, abs_int, int_int, int_bool, min_ints, max_ints, tuple_lst, tuple_tup, list_tup, mkL_f, mkT_f, toDats_cons, toDats_nil, toDats_app, List.append_nil, Nat.reduceAdd, Nat.reduceLeDiff, decide_true, decide_false, Int.reduceEq, srcOf_tup, srcOf_lst, isaD_dat, below_dat, leave_rtS, leave_nxS, wipe_nil, wipe_cons, map_some', len_one, len_enum, len_zip, len_rng, len_vals, truthR, List.getElem?_cons_zero, List.getElem?_cons_succ, List.set_cons_zero, List.set_cons_succ, List.length_cons, List.length_nil, List.length_map, List.reverse_cons, List.reverse_nil, List.nil_append, List.cons_append, List.map_cons, List.map_nil, Nat.zero_add, Bool.not_true, Bool.not_false, idx_t0, idx_t1, idx_t2, idx_l0, seq_tup, eq_row, eq_ints, eq_nil, ne_nil, in_none_row, in_ints, toDats_dat, intsOf_int, Option.bind_some, cmpR_of _ (eq_row _ _ _), cmpR_of _ (eq_ints _ _ _), cmpR_of _ (eq_nil _ _), cmpR_of _ (ne_nil _ _), cmpR_of _ (in_none_row _ _), cmpR_of _ (in_ints _ _ _), cmpR_of _ (ne_nilnil _), p4_3, g1, F3_in S x (-1000000000) 1000000000 this.1 this.2 (by omega) (by omega)])
  have c2 := comp_1b (Φ := P4) (G := GV) (S := S) (i := 2) (ev := [some (.dat (.int (xs.length : Nat))), some (.dat (row xs)), none]) (elt := .cmp .isNot (.var 2) (.lit .none)) (xs.map .int) (fun _ => true) (fun p hp => by
    obtain ⟨x, hx, rfl⟩ := List.mem_map.mp hp
    simp (maxDischargeDepth := 3) only [xE_var, xE_lit, xE_gv, xE_bin, xE_neg, xE_not, xE_and, xE_or, xE_cmp, xE_rcmp, xE_chain, xE_ite, xE_call, xE_blt, xE_idx, xE_sl, xE_tup, xE_lst, xE_comp, xE_kset, xE_isi, xA_one, xA_cons, xO_one, xO_cons, xL_nil, xL_cons, xL_star, xT_nil, xT_one, xU_none, xU_some, xI_one, xI_enum, xI_rng1, xI_rng2, xI_zip2, xS_asg, xS_par, xS_seti, xS_expr, xS_ret, xS_retN, xS_iff, xS_for, xSs_nil, xSs_cons, bind_ok, sr_ok, ofP_some, ofO_some, getV_some, getG_some, negR_int, fitR_ok, compR_some, callR_some, boolR_some, selR_t, selR_f, forkR_t, forkR_f, optR_some, iR_int, rng1R_int, rng2R_int, zipR_some, nxR_some, setR_some, at_nx, at_rt, truth_bool, truth_list, truth_tuple, put_nm, put_tp, put_tp2, setSlots_nil, setSlots_cons, add_int, sub_int, add_tup, add_lst, mod_int, lt_int, le_int, gt_int, ge_int, eq_int, ne_int, eq_bool, ne_bool, is_bool, isNot_bool, is_intN, isNot_intN, cmpR_of _ (lt_int _ _ _), cmpR_of _ (le_int _ _ _), cmpR_of _ (gt_int _ _ _), cmpR_of _ (ge_int _ _ _), cmpR_of _ (eq_int _ _ _), cmpR_of _ (ne_int _ _ _), cmpR_of _ (eq_bool _ _ _), cmpR_of _ (ne_bool _ _ _), cmpR_of _ (is_bool _ _ _), cmpR_of _ (isNot_bool _ _ _), cmpR_of _ (is_intN _ _), cmpR_of _ (isNot_intN _ _), len_tup, len_lst, len_scr, abs_int, int_int, int_bool, min_ints, max_ints, tuple_lst, tuple_tup, list_tup, mkL_f, mkT_f, toDats_cons, toDats_nil, toDats_app, List.append_nil, Nat.reduceAdd, Nat.reduceLeDiff, decide_true, decide_false, Int.reduceEq, srcOf_tup, srcOf_lst, isaD_dat, below_dat, leave_rtS, leave_nxS, wipe_nil, wipe_cons, map_some', len_one, len_enum, len_zip, len_rng, len_vals, truthR, List.getElem?_cons_zero, List.getElem?_cons_succ, List.set_cons_zero, List.set_cons_succ, List.length_cons, List.length_nil, List.length_map, List.reverse_cons, List.reverse_nil, List.nil_append, List.cons_append, List.map_cons, List.map_nil, Nat.zero_add, Bool.not_true, Bool.not_false, idx_t0, idx_t1, idx_t2, idx_l0, seq_tup, eq_row, eq_ints, eq_nil, ne_nil, in_none_row, in_ints, toDats_dat, intsOf_int, Option.bind_some, cmpR_of _ (eq_row _ _ _), cmpR_of _ (eq_ints _ _ _), cmpR_of _ (eq_nil _ _), cmpR_of _ (ne_nil _ _), cmpR_of _ (in_none_row _ _), cmpR_of _ (in_ints _ _ _), cmpR_of _ (ne_nilnil _)])
  rw [List.length_map] at c1 c2
  have e1 : bltV .all [.dat (.list (((xs.map PyData.int).map fun _ => true).map PyData.bool))] S = some (.dat (.bool true), S) := all_b S _ (by simp)
  have e2 : bltV .any [.dat (.list (((xs.map PyData.int).map fun _ => true).map PyData.bool))] S = some (.dat (.bool true), S) := by
    rw [any_lst]
    cases xs with
    | nil => simp at h0
    | cons x r => rfl
  simp (maxDischargeDepth := 3) only [xE_var, xE_lit, xE_gv, xE_bin, xE_neg, xE_not, xE_and, xE_or, xE_cmp, xE_rcmp, xE_chain, xE_ite, xE_call, xE_blt, xE_idx, xE_sl, xE_tup, xE_lst, xE_comp, xE_kset, xE_isi, xA_one, xA_cons, xO_one, xO_cons, xL_nil, xL_cons, xL_star, xT_nil, xT_one, xU_none, xU_some, xI_one, xI_enum, xI_rng1, xI_rng2, xI_zip2, xS_asg, xS_par, xS_seti, xS_expr, xS_ret, xS_retN, xS_iff, xS_for, xSs_nil, xSs_cons, bind_ok, sr_ok, ofP_some, ofO_some, getV_some, getG_some, negR_int, fitR_ok, compR_some, callR_some, boolR_some, selR_t, selR_f, forkR_t, forkR_f, optR_some, iR_int, rng1R_int, rng2R_int, zipR_some, nxR_some, setR_some, at_nx, at_rt, truth_bool, truth_list, truth_tuple, put_nm, put_tp, put_tp2, setSlots_nil, setSlots_cons, add_int, sub_int, add_tup, add_lst, mod_int, lt_int, le_int, gt_int, ge_int, eq_int, ne_int, eq_bool, ne_bool, is_bool, isNot_bool, is_intN, isNot_intN, cmpR_of _ (lt_int _ _ _), cmpR_of _ (le_int _ _ _), cmpR_of _ (gt_int _ _ _), cmpR_of _ (ge_int _ _ _), cmpR_of _ (eq_int _ _ _), cmpR_of _ (ne_int _ _ _), cmpR_of _ (eq_bool _ _ _), cmpR_of _ (ne_bool _ _ _), cmpR_of _ (is_bool _ _ _), cmpR_of _ (isNot_bool _ _ _), cmpR_of _ (is_intN _ _), cmpR_of _ (isNot_intN _ _), len_tup, len_lst, len_scr, abs_int, int_int, int_bool, min_ints, max_ints, tuple_lst, tuple_tup, list_tup, mkL_f, mkT_f, toDats_cons, toDats_nil, toDats_app, List.append_nil, Nat.reduceAdd, Nat.reduceLeDiff, decide_true, decide_false, Int.reduceEq, srcOf_tup, srcOf_lst, isaD_dat, below_dat, leave_rtS, leave_nxS, wipe_nil, wipe_cons, map_some', len_one, len_enum, len_zip, len_rng, len_vals, truthR, List.getElem?_cons_zero, List.getElem?_cons_succ, List.set_cons_zero, List.set_cons_succ, List.length_cons, List.length_nil, List.length_map, List.reverse_cons, List.reverse_nil, List.nil_append, List.cons_append, List.map_cons, List.map_nil, Nat.zero_add, Bool.not_true, Bool.not_false, idx_t0, idx_t1, idx_t2, idx_l0, seq_tup, eq_row, eq_ints, eq_nil, ne_nil, in_none_row, in_ints, toDats_dat, intsOf_int, Option.bind_some, cmpR_of _ (eq_row _ _ _), cmpR_of _ (eq_ints _ _ _), cmpR_of _ (eq_nil _ _), cmpR_of _ (ne_nil _ _), cmpR_of _ (in_none_row _ _), cmpR_of _ (in_ints _ _ _), cmpR_of _ (ne_nilnil _), b_d4, isaP, c1, c2, hf, e1, e2, decide_true]
theorem p5_4 : P5[4]? = some F4 := rfl
theorem F5_row (xs : List Int) (h : Bd 1000000000 xs) (h0 : 0 < xs.length) (h5 : xs.length ≤ 5) : F5 [.dat (row xs)] S = .ok (.dat .none) S := by
  rw [in5]
  have a1 : (1 : Int) ≤ (xs.length : Nat) := by omega
  have a2 : ((xs.length : Nat) : Int) ≤ 5 := by omega
  simp (maxDischargeDepth := 3) only [xE_var, xE_lit, xE_gv, xE_bin, xE_neg, xE_not, xE_and, xE_or, xE_cmp, xE_rcmp, xE_chain, xE_ite, xE_call, xE_blt, xE_idx, xE_sl, xE_tup, xE_lst, xE_comp, xE_kset, xE_isi, xA_one, xA_cons, xO_one, xO_cons, xL_nil, xL_cons, xL_star, xT_nil, xT_one, xU_none, xU_some, xI_one, xI_enum, xI_rng1, xI_rng2, xI_zip2, xS_asg, xS_par, xS_seti, xS_expr, xS_ret, xS_retN, xS_iff, xS_for, xSs_nil, xSs_cons, bind_ok, sr_ok, ofP_some, ofO_some, getV_some, getG_some, negR_int, fitR_ok, compR_some, callR_some, boolR_some, selR_t, selR_f, forkR_t, forkR_f, optR_some, iR_int, rng1R_int, rng2R_int, zipR_some, nxR_some, setR_some, at_nx, at_rt, truth_bool, truth_list, truth_tuple, put_nm, put_tp, put_tp2, setSlots_nil, setSlots_cons, add_int, sub_int, add_tup, add_lst, mod_int, lt_int, le_int, gt_int, ge_int, eq_int, ne_int, eq_bool, ne_bool, is_bool, isNot_bool, is_intN, isNot_intN, cmpR_of _ (lt_int _ _ _), cmpR_of _ (le_int _ _ _), cmpR_of _ (gt_int _ _ _), cmpR_of _ (ge_int _ _ _), cmpR_of _ (eq_int _ _ _), cmpR_of _ (ne_int _ _ _), cmpR_of _ (eq_bool _ _ _), cmpR_of _ (ne_bool _ _ _), cmpR_of _ (is_bool _ _ _), cmpR_of _ (isNot_bool _ _ _), cmpR_of _ (is_intN _ _), cmpR_of _ (isNot_intN _ _), len_tup, len_lst, len_scr, abs_int, int_int, int_bool, min_ints, max_ints, tuple_lst, tuple_tup, list_tup, mkL_f, mkT_f, toDats_cons, toDats_nil, toDats_app, List.append_nil, Nat.reduceAdd, Nat.reduceLeDiff, decide_true, decide_false, Int.reduceEq, srcOf_tup, srcOf_lst, isaD_dat, below_dat, leave_rtS, leave_nxS, wipe_nil, wipe_cons, map_some', len_one, len_enum, len_zip, len_rng, len_vals, truthR, List.getElem?_cons_zero, List.getElem?_cons_succ, List.set_cons_zero, List.set_cons_succ, List.length_cons, List.length_nil, List.length_map, List.reverse_cons, List.reverse_nil, List.nil_append, List.cons_append, List.map_cons, List.map_nil, Nat.zero_add, Bool.not_true, Bool.not_false, idx_t0, idx_t1, idx_t2, idx_l0, seq_tup, eq_row, eq_ints, eq_nil, ne_nil, in_none_row, in_ints, toDats_dat, intsOf_int, Option.bind_some, cmpR_of _ (eq_row _ _ _), cmpR_of _ (eq_ints _ _ _), cmpR_of _ (eq_nil _ _), cmpR_of _ (ne_nil _ _), cmpR_of _ (in_none_row _ _), cmpR_of _ (in_ints _ _ _), cmpR_of _ (ne_nilnil _), b_d5, isaP, g2, p5_4, F4_row S xs h h0 h5, decide_eq_true a1, decide_eq_true a2]
theorem in6_2 (a b : PyData) : F6 [.dat a, .dat b] S = leave S.length (evSs P6 GV b_d6 [some (.dat (.tuple [a, b])), none] S) := rfl
theorem p6_5 : P6[5]? = some F5 := rfl
/-- a full row -/
structure Rw (n : Nat) (xs : List Int) : Prop where
  len : xs.length = n
  pos : 0 < n
  le : n ≤ 5
  bd : Bd 1000000000 xs
theorem turn6 {n : Nat} {xs : List Int} (h : Rw n xs) (r e : Option D) : bodyS P6 GV (.cons (.expr (.call 5 (.cons (.var 1) .nil))) (.cons (.iff (.cmp .isIn (.lit .none) (.var 1)) (.cons .never .nil) .nil) .nil)) [r, some (.dat (.tuple (xs.map .int)))] S = .nx [r, some (.dat (.tuple (xs.map .int)))] S := by
  unfold bodyS
  simp (maxDischargeDepth := 3) only [xE_var, xE_lit, xE_gv, xE_bin, xE_neg, xE_not, xE_and, xE_or, xE_cmp, xE_rcmp, xE_chain, xE_ite, xE_call, xE_blt, xE_idx, xE_sl, xE_tup, xE_lst, xE_comp, xE_kset, xE_isi, xA_one, xA_cons, xO_one, xO_cons, xL_nil, xL_cons, xL_star, xT_nil, xT_one, xU_none, xU_some, xI_one, xI_enum, xI_rng1, xI_rng2, xI_zip2, xS_asg, xS_par, xS_seti, xS_expr, xS_ret, xS_retN, xS_iff, xS_for, xSs_nil, xSs_cons, bind_ok, sr_ok, ofP_some, ofO_some, getV_some, getG_some, negR_int, fitR_ok, compR_some, callR_some, boolR_some, selR_t, selR_f, forkR_t, forkR_f, optR_some, iR_int, rng1R_int, rng2R_int, zipR_some, nxR_some, setR_some, at_nx, at_rt, truth_bool, truth_list, truth_tuple, put_nm, put_tp, put_tp2, setSlots_nil, setSlots_cons, add_int, sub_int, add_tup, add_lst, mod_int, lt_int, le_int, gt_int, ge_int, eq_int, ne_int, eq_bool, ne_bool, is_bool, isNot_bool, is_intN, isNot_intN, cmpR_of _ (lt_int _ _ _), cmpR_of _ (le_int _ _ _), cmpR_of _ (gt_int _ _ _), cmpR_of _ (ge_int _ _ _), cmpR_of _ (eq_int _ _ _), cmpR_of _ (ne_int _ _ _), cmpR_of _ (eq_bool _ _ _), cmpR_of _ (ne_bool _ _ _), cmpR_of _ (is_bool _ _ _), cmpR_of _ (isNot_bool _ _ _), cmpR_of _ (is_intN _ _), cmpR_of _ (isNot_intN _ _), len_tup, len_lst, len_scr, abs_int, int_int, int_bool, min_ints, max_ints, tuple_lst, tuple_tup, list_tup, mkL_f, mkT_f, toDats_cons, toDats_nil, toDats_app, List.append_nil, Nat.reduceAdd, Nat.reduceLeDiff, decide_true, decide_false, Int.reduceEq, srcOf_tup, srcOf_lst, isaD_dat, below_dat, leave_rtS, leave_nxS, wipe_nil, wipe_cons, map_some', len_one, len_enum, len_zip, len_rng, len_vals, truthR, List.getElem?_cons_zero, List.getElem?_cons_succ, List.set_cons_zero, List.set_cons_succ, List.length_cons, List.length_nil, List.length_map, List.reverse_cons, List.reverse_nil, List.nil_append, List.cons_append, List.map_cons, List.map_nil, Nat.zero_add, Bool.not_true, Bool.not_false, idx_t0, idx_t1, idx_t2, idx_l0, seq_tup, eq_row, eq_ints, eq_nil, ne_nil, in_none_row, in_ints, toDats_dat, intsOf_int, Option.bind_some, cmpR_of _ (eq_row _ _ _), cmpR_of _ (eq_ints _ _ _), cmpR_of _ (eq_nil _ _), cmpR_of _ (ne_nil _ _), cmpR_of _ (in_none_row _ _), cmpR_of _ (in_ints _ _ _), cmpR_of _ (ne_nilnil _), p6_5, F5_row S xs h.bd (by rw [h.len]; exact h.pos) (by rw [h.len]; exact h.le)]
theorem for2 (b : Ev → Store → SR) (p q : PyData) (ev e1 e2 : Ev) (h1 : b (ev.set 1 (some (.dat p))) S = .nx e1 S) (h2 : b (e1.set 1 (some (.dat q))) S = .nx e2 S) :
    forLoop (.one (.vals [p, q])) (.nm 1) b 2 0 ev S = .nx e2 S := by
  simp [forLoop, ItS.next, Src.at, nx1, put_nm, h1, h2]
theorem F6_2 {n : Nat} {xs ys : List Int} (hx : Rw n xs) (hy : Rw n ys) : F6 [.dat (row xs), .dat (row ys)] S = .ok (.dat .none) S := by
  rw [in6_2]
  have f := for2 S _ (row xs) (row ys) [some (.dat (.tuple [row xs, row ys])), none] _ _ (turn6 S hx _ none) (turn6 S hy _ none)
  have c := comp_1b (Φ := P6) (G := GV) (S := S) (i := 1) (ev := [some (.dat (.tuple [row xs, row ys])), none]) (elt := .cmp .ne (.blt .len (.cons (.var 1) .nil)) (.blt .len (.cons (.idx (.var 0) (.lit (.int 0))) .nil))) [row xs, row ys] (fun _ => false) (fun p hp => by
    have e : ∃ ws : List Int, p = .tuple (ws.map .int) ∧ ws.length = n := by
      simp only [List.mem_cons, List.not_mem_nil, or_false] at hp
      rcases hp with rfl | rfl
      · exact ⟨xs, rfl, hx.len⟩
      · exact ⟨ys, rfl, hy.len⟩
    obtain ⟨ws, rfl, hw⟩ := e
    simp (maxDischargeDepth := 3) only [xE_var, xE_lit, xE_gv, xE_bin, xE_neg, xE_not, xE_and, xE_or, xE_cmp, xE_rcmp, xE_chain, xE_ite, xE_call, xE_blt, xE_idx, xE_sl, xE_tup, xE_lst, xE_comp, xE_kset, xE_isi, xA_one, xA_cons, xO_one, xO_cons, xL_nil, xL_cons, xL_star, xT_nil, xT_one, xU_none, xU_some, xI_one, xI_enum, xI_rng1, xI_rng2, xI_zip2, xS_asg, xS_par, xS_seti, xS_expr, xS_ret, xS_retN, xS_iff, xS_for, xSs_nil, xSs_cons, bind_ok, sr_ok, ofP_some, ofO_some, getV_some, getG_some, negR_int, fitR_ok, compR_some, callR_some, boolR_some, selR_t, selR_f, forkR_t, forkR_f, optR_some, iR_int, rng1R_int, rng2R_int, zipR_some, nxR_some, setR_some, at_nx, at_rt, truth_bool, truth_list, truth_tuple, put_nm, put_tp, put_tp2, setSlots_nil, setSlots_cons, add_int, sub_int, add_tup, add_lst, mod_int, lt_int, le_int, gt_int, ge_int, eq_int, ne_int, eq_bool, ne_bool, is_bool, isNot_bool, is_intN, isNot_intN, cmpR_of _ (lt_int _ _ _), cmpR_of _ (le_int _ _ _), cmpR_of _ (gt_int _ _ _), cmpR_of _ (ge_int _ _ _), cmpR_of _ (eq_int _ _ _), cmpR_of _ (ne_int _ _ _), cmpR_of _ (eq_bool _ _ _), cmpR_of _ (ne_bool _ _ _), cmpR_of _ (is_bool _ _ _), cmpR_of _ (isNot_bool _ _ _), cmpR_of _ (is_intN _ _), cmpR_of _ (isNot_intN _ _), len_tup, len_lst, len_scr, abs_int, int_int, int_bool, min_ints, max_ints, tuple_lst, tuple_tup, list_tup, mkL_f, mkT_f, toDats_cons, toDats_nil, toDats_app, List.append_nil, Nat.reduceAdd, Nat.reduceLeDiff, decide_true, decide_false, Int.reduceEq, srcOf_tup, srcOf_lst, isaD_dat, below_dat, leave_rtS, leave_nxS, wipe_nil, wipe_cons, map_some', len_one, len_enum, len_zip, len_rng, len_vals, truthR, List.getElem?_cons_zero, List.getElem?_cons_succ, List.set_cons_zero, List.set_cons_succ, List.length_cons, List.length_nil, List.length_map, List.reverse_cons, List.reverse_nil, List.nil_append, List.cons_append, List.map_cons, List.map_nil, Nat.zero_add, Bool.not_true, Bool.not_false, idx_t0, idx_t1, idx_t2, idx_l0, seq_tup, eq_row, eq_ints, eq_nil, ne_nil, in_none_row, in_ints, toDats_dat, intsOf_int, Option.bind_some, cmpR_of _ (eq_row _ _ _), cmpR_of _ (eq_ints _ _ _), cmpR_of _ (eq_nil _ _), cmpR_of _ (ne_nil _ _), cmpR_of _ (in_none_row _ _), cmpR_of _ (in_ints _ _ _), cmpR_of _ (ne_nilnil _), hw, hx.len, decide_true])
  have e1 : bltV .any [.dat (.list [.bool false, .bool false])] S = some (.dat (.bool false), S) := rfl
  simp only [List.length_cons, List.length_nil, Nat.zero_add, Nat.reduceAdd] at c
  simp (maxDischargeDepth := 3) only [xE_var, xE_lit, xE_gv, xE_bin, xE_neg, xE_not, xE_and, xE_or, xE_cmp, xE_rcmp, xE_chain, xE_ite, xE_call, xE_blt, xE_idx, xE_sl, xE_tup, xE_lst, xE_comp, xE_kset, xE_isi, xA_one, xA_cons, xO_one, xO_cons, xL_nil, xL_cons, xL_star, xT_nil, xT_one, xU_none, xU_some, xI_one, xI_enum, xI_rng1, xI_rng2, xI_zip2, xS_asg, xS_par, xS_seti, xS_expr, xS_ret, xS_retN, xS_iff, xS_for, xSs_nil, xSs_cons, bind_ok, sr_ok, ofP_some, ofO_some, getV_some, getG_some, negR_int, fitR_ok, compR_some, callR_some, boolR_some, selR_t, selR_f, forkR_t, forkR_f, optR_some, iR_int, rng1R_int, rng2R_int, zipR_some, nxR_some, setR_some, at_nx, at_rt, truth_bool, truth_list, truth_tuple, put_nm, put_tp, put_tp2, setSlots_nil, setSlots_cons, add_int, sub_int, add_tup, add_lst, mod_int, lt_int, le_int, gt_int, ge_int, eq_int, ne_int, eq_bool, ne_bool, is_bool, isNot_bool, is_intN, isNot_intN, cmpR_of _ (lt_int _ _ _), cmpR_of _ (le_int _ _ _), cmpR_of _ (gt_int _ _ _), cmpR_of _ (ge_int _ _ _), cmpR_of _ (eq_int _ _ _), cmpR_of _ (ne_int _ _ _), cmpR_of _ (eq_bool _ _ _), cmpR_of _ (ne_bool _ _ _), cmpR_of _ (is_bool _ _ _), cmpR_of _ (isNot_bool _ _ _), cmpR_of _ (is_intN _ _), cmpR_of _ (isNot_intN _ _), len_tup, len_lst, len_scr, abs_int, int_int, int_bool, min_ints, max_ints, tuple_lst, tuple_tup, list_tup, mkL_f, mkT_f, toDats_cons, toDats_nil, toDats_app, List.append_nil, Nat.reduceAdd, Nat.reduceLeDiff, decide_true, decide_false, Int.reduceEq, srcOf_tup, srcOf_lst, isaD_dat, below_dat, leave_rtS, leave_nxS, wipe_nil, wipe_cons, map_some', len_one, len_enum, len_zip, len_rng, len_vals, truthR, List.getElem?_cons_zero, List.getElem?_cons_succ, List.set_cons_zero, List.set_cons_succ, List.length_cons, List.length_nil, List.length_map, List.reverse_cons, List.reverse_nil, List.nil_append, List.cons_append, List.map_cons, List.map_nil, Nat.zero_add, Bool.not_true, Bool.not_false, idx_t0, idx_t1, idx_t2, idx_l0, seq_tup, eq_row, eq_ints, eq_nil, ne_nil, in_none_row, in_ints, toDats_dat, intsOf_int, Option.bind_some, cmpR_of _ (eq_row _ _ _), cmpR_of _ (eq_ints _ _ _), cmpR_of _ (eq_nil _ _), cmpR_of _ (ne_nil _ _), cmpR_of _ (in_none_row _ _), cmpR_of _ (in_ints _ _ _), cmpR_of _ (ne_nilnil _), b_d6, f, c, e1]
theorem kset_srt (ns : List Int) (h : ns.length < 64) : ksetV (.srt false) ns S = some (.dat (.list ((sortI (dedI ns)).map .int)), S) := by
  have h1 : (dedI ns).length < 64 := Nat.lt_of_le_of_lt (len_dedI ns) h
  show (if Nat.blt (dedI ns).length 64 then mkL false ((sortI (dedI ns)).map fun i => .dat (.int i)) S else none) = _
  rw [if_pos (Nat.blt_eq.mpr h1)]
  have := mkL_dat S ((sortI (dedI ns)).map .int)
  rw [List.map_map] at this
  exact this
theorem F7_ok (xs ys : List Int) (hl : xs.length = ys.length) (h5 : xs.length ≤ 5) : F7 [.dat (row xs), .dat (row ys)] S = .ok (.dat (.list ((sortI (dedI (df xs ys))).map .int))) S := by
  rw [in7]
  have c := comp_zi (Φ := P7) (G := GV) (S := S) (i := 2) (j := 3) (ev := [some (.dat (row xs)), some (.dat (row ys)), none, none]) (elt := .bin .sub (.var 3) (.var 2)) xs ys hl (fun x y => y - x) (fun x y => by simp (maxDischargeDepth := 3) only [xE_var, xE_lit, xE_gv, xE_bin, xE_neg, xE_not, xE_and, xE_or, xE_cmp, xE_rcmp, xE_chain, xE_ite, xE_call, xE_blt, xE_idx, xE_sl, xE_tup, xE_lst, xE_comp, xE_kset, xE_isi, xA_one, xA_cons, xO_one, xO_cons, xL_nil, xL_cons, xL_star, xT_nil, xT_one, xU_none, xU_some, xI_one, xI_enum, xI_rng1, xI_rng2, xI_zip2, xS_asg, xS_par, xS_seti, xS_expr, xS_ret, xS_retN, xS_iff, xS_for, xSs_nil, xSs_cons, bind_ok, sr_ok, ofP_some, ofO_some, getV_some, getG_some, negR_int, fitR_ok, compR_some, callR_some, boolR_some, selR_t, selR_f, forkR_t, forkR_f, optR_some, iR_int, rng1R_int, rng2R_int, zipR_some, nxR_some, setR_some, at_nx, at_rt, truth_bool, truth_list, truth_tuple, put_nm, put_tp, put_tp2, setSlots_nil, setSlots_cons, add_int, sub_int, add_tup, add_lst, mod_int, lt_int, le_int, gt_int, ge_int, eq_int, ne_int, eq_bool, ne_bool, is_bool, isNot_bool, is_intN, isNot_intN, cmpR_of _ (lt_int _ _ _), cmpR_of _ (le_int _ _ _), cmpR_of _ (gt_int _ _ _), cmpR_of _ (ge_int _ _ _), cmpR_of _ (eq_int _ _ _), cmpR_of _ (ne_int _ _ _), cmpR_of _ (eq_bool _ _ _), cmpR_of _ (ne_bool _ _ _), cmpR_of _ (is_bool _ _ _), cmpR_of _ (isNot_bool _ _ _), cmpR_of _ (is_intN _ _), cmpR_of _ (isNot_intN _ _), len_tup, len_lst, len_scr, abs_int, int_int, int_bool, min_ints, max_ints, tuple_lst, tuple_tup, list_tup, mkL_f, mkT_f, toDats_cons, toDats_nil, toDats_app, List.append_nil, Nat.reduceAdd, Nat.reduceLeDiff, decide_true, decide_false, Int.reduceEq, srcOf_tup, srcOf_lst, isaD_dat, below_dat, leave_rtS, leave_nxS, wipe_nil, wipe_cons, map_some', len_one, len_enum, len_zip, len_rng, len_vals, truthR, List.getElem?_cons_zero, List.getElem?_cons_succ, List.set_cons_zero, List.set_cons_succ, List.length_cons, List.length_nil, List.length_map, List.reverse_cons, List.reverse_nil, List.nil_append, List.cons_append, List.map_cons, List.map_nil, Nat.zero_add, Bool.not_true, Bool.not_false, idx_t0, idx_t1, idx_t2, idx_l0, seq_tup, eq_row, eq_ints, eq_nil, ne_nil, in_none_row, in_ints, toDats_dat, intsOf_int, Option.bind_some, cmpR_of _ (eq_row _ _ _), cmpR_of _ (eq_ints _ _ _), cmpR_of _ (eq_nil _ _), cmpR_of _ (ne_nil _ _), cmpR_of _ (in_none_row _ _), cmpR_of _ (in_ints _ _ _), cmpR_of _ (ne_nilnil _)])
  have hd : (List.zipWith (fun x y => y - x) xs ys).length ≤ 16777216 := by simp; omega
  have hd2 : (List.zipWith (fun x y => y - x) xs ys).length < 64 := by simp; omega
  simp (maxDischargeDepth := 3) only [xE_var, xE_lit, xE_gv, xE_bin, xE_neg, xE_not, xE_and, xE_or, xE_cmp, xE_rcmp, xE_chain, xE_ite, xE_call, xE_blt, xE_idx, xE_sl, xE_tup, xE_lst, xE_comp, xE_kset, xE_isi, xA_one, xA_cons, xO_one, xO_cons, xL_nil, xL_cons, xL_star, xT_nil, xT_one, xU_none, xU_some, xI_one, xI_enum, xI_rng1, xI_rng2, xI_zip2, xS_asg, xS_par, xS_seti, xS_expr, xS_ret, xS_retN, xS_iff, xS_for, xSs_nil, xSs_cons, bind_ok, sr_ok, ofP_some, ofO_some, getV_some, getG_some, negR_int, fitR_ok, compR_some, callR_some, boolR_some, selR_t, selR_f, forkR_t, forkR_f, optR_some, iR_int, rng1R_int, rng2R_int, zipR_some, nxR_some, setR_some, at_nx, at_rt, truth_bool, truth_list, truth_tuple, put_nm, put_tp, put_tp2, setSlots_nil, setSlots_cons, add_int, sub_int, add_tup, add_lst, mod_int, lt_int, le_int, gt_int, ge_int, eq_int, ne_int, eq_bool, ne_bool, is_bool, isNot_bool, is_intN, isNot_intN, cmpR_of _ (lt_int _ _ _), cmpR_of _ (le_int _ _ _), cmpR_of _ (gt_int _ _ _), cmpR_of _ (ge_int _ _ _), cmpR_of _ (eq_int _ _ _), cmpR_of _ (ne_int _ _ _), cmpR_of _ (eq_bool _ _ _), cmpR_of _ (ne_bool _ _ _), cmpR_of _ (is_bool _ _ _), cmpR_of _ (isNot_bool _ _ _), cmpR_of _ (is_intN _ _), cmpR_of _ (isNot_intN _ _), len_tup, len_lst, len_scr, abs_int, int_int, int_bool, min_ints, max_ints, tuple_lst, tuple_tup, list_tup, mkL_f, mkT_f, toDats_cons, toDats_nil, toDats_app, List.append_nil, Nat.reduceAdd, Nat.reduceLeDiff, decide_true, decide_false, Int.reduceEq, srcOf_tup, srcOf_lst, isaD_dat, below_dat, leave_rtS, leave_nxS, wipe_nil, wipe_cons, map_some', len_one, len_enum, len_zip, len_rng, len_vals, truthR, List.getElem?_cons_zero, List.getElem?_cons_succ, List.set_cons_zero, List.set_cons_succ, List.length_cons, List.length_nil, List.length_map, List.reverse_cons, List.reverse_nil, List.nil_append, List.cons_append, List.map_cons, List.map_nil, Nat.zero_add, Bool.not_true, Bool.not_false, idx_t0, idx_t1, idx_t2, idx_l0, seq_tup, eq_row, eq_ints, eq_nil, ne_nil, in_none_row, in_ints, toDats_dat, intsOf_int, Option.bind_some, cmpR_of _ (eq_row _ _ _), cmpR_of _ (eq_ints _ _ _), cmpR_of _ (eq_nil _ _), cmpR_of _ (ne_nil _ _), cmpR_of _ (in_none_row _ _), cmpR_of _ (in_ints _ _ _), cmpR_of _ (ne_nilnil _), b_d7, c, hd, kset_srt S _ hd2]
  rfl
theorem F14_ok (xs : List Int) (x : Int) (h0 : xs[0]? = some x) (h5 : xs.length ≤ 5) : F14 [.dat (row xs)] S = .ok (.dat (row (xs.map fun y => y - x))) S := by
  rw [in14]
  have i : idxV (.dat (.tuple (xs.map .int))) (.dat (.int 0)) S = some (.dat (.int x), S) := idx_t S (xs.map .int) 0 (.int x) (by rw [List.getElem?_map, h0]; rfl)
  have c := comp_1ii (Φ := P14) (G := GV) (S := S) (i := 1) (ev := [some (.dat (row xs)), none]) (elt := .bin .sub (.var 1) (.idx (.var 0) (.lit (.int 0)))) xs (fun y => y - x) (fun y _ => by simp (maxDischargeDepth := 3) only [xE_var, xE_lit, xE_gv, xE_bin, xE_neg, xE_not, xE_and, xE_or, xE_cmp, xE_rcmp, xE_chain, xE_ite, xE_call, xE_blt, xE_idx, xE_sl, xE_tup, xE_lst, xE_comp, xE_kset, xE_isi, xA_one, xA_cons, xO_one, xO_cons, xL_nil, xL_cons, xL_star, xT_nil, xT_one, xU_none, xU_some, xI_one, xI_enum, xI_rng1, xI_rng2, xI_zip2, xS_asg, xS_par, xS_seti, xS_expr, xS_ret, xS_retN, xS_iff, xS_for, xSs_nil, xSs_cons, bind_ok, sr_ok, ofP_some, ofO_some, getV_some, getG_some, negR_int, fitR_ok, compR_some, callR_some, boolR_some, selR_t, selR_f, forkR_t, forkR_f, optR_some, iR_int, rng1R_int, rng2R_int, zipR_some, nxR_some, setR_some, at_nx, at_rt, truth_bool, truth_list, truth_tuple, put_nm, put_tp, put_tp2, setSlots_nil, setSlots_cons, add_int, sub_int, add_tup, add_lst, mod_int, lt_int, le_int, gt_int, ge_int, eq_int, ne_int, eq_bool, ne_bool, is_bool, isNot_bool, is_intN, isNot_intN, cmpR_of _ (lt_int _ _ _), cmpR_of _ (le_int _ _ _), cmpR_of _ (gt_int _ _ _), cmpR_of _ (ge_int _ _ _), cmpR_of _ (eq_int _ _ _), cmpR_of _ (ne_int _ _ _), cmpR_of _ (eq_bool _ _ _), cmpR_of _ (ne_bool _ _ _), cmpR_of _ (is_bool _ _ _), cmpR_of _ (isNot_bool _ _ _), cmpR_of _ (is_intN _ _), cmpR_of _ (isNot_intN _ _), len_tup, len_lst, len_scr, abs_int, int_int, int_bool, min_ints, max_ints, tuple_lst, tuple_tup, list_tup, mkL_f, mkT_f, toDats_cons, toDats_nil, toDats_app, List.append_nil, Nat.reduceAdd, Nat.reduceLeDiff, decide_true, decide_false, Int.reduceEq, srcOf_tup, srcOf_lst, isaD_dat, below_dat, leave_rtS, leave_nxS, wipe_nil, wipe_cons, map_some', len_one, len_enum, len_zip, len_rng, len_vals, truthR, List.getElem?_cons_zero, List.getElem?_cons_succ, List.set_cons_zero, List.set_cons_succ, List.length_cons, List.length_nil, List.length_map, List.reverse_cons, List.reverse_nil, List.nil_append, List.cons_append, List.map_cons, List.map_nil, Nat.zero_add, Bool.not_true, Bool.not_false, idx_t0, idx_t1, idx_t2, idx_l0, seq_tup, eq_row, eq_ints, eq_nil, ne_nil, in_none_row, in_ints, toDats_dat, intsOf_int, Option.bind_some, cmpR_of _ (eq_row _ _ _), cmpR_of _ (eq_ints _ _ _), cmpR_of _ (eq_nil _ _), cmpR_of _ (ne_nil _ _), cmpR_of _ (in_none_row _ _), cmpR_of _ (in_ints _ _ _), cmpR_of _ (ne_nilnil _), i])
  have hd : xs.length ≤ 16777216 := by omega
  simp (maxDischargeDepth := 3) only [xE_var, xE_lit, xE_gv, xE_bin, xE_neg, xE_not, xE_and, xE_or, xE_cmp, xE_rcmp, xE_chain, xE_ite, xE_call, xE_blt, xE_idx, xE_sl, xE_tup, xE_lst, xE_comp, xE_kset, xE_isi, xA_one, xA_cons, xO_one, xO_cons, xL_nil, xL_cons, xL_star, xT_nil, xT_one, xU_none, xU_some, xI_one, xI_enum, xI_rng1, xI_rng2, xI_zip2, xS_asg, xS_par, xS_seti, xS_expr, xS_ret, xS_retN, xS_iff, xS_for, xSs_nil, xSs_cons, bind_ok, sr_ok, ofP_some, ofO_some, getV_some, getG_some, negR_int, fitR_ok, compR_some, callR_some, boolR_some, selR_t, selR_f, forkR_t, forkR_f, optR_some, iR_int, rng1R_int, rng2R_int, zipR_some, nxR_some, setR_some, at_nx, at_rt, truth_bool, truth_list, truth_tuple, put_nm, put_tp, put_tp2, setSlots_nil, setSlots_cons, add_int, sub_int, add_tup, add_lst, mod_int, lt_int, le_int, gt_int, ge_int, eq_int, ne_int, eq_bool, ne_bool, is_bool, isNot_bool, is_intN, isNot_intN, cmpR_of _ (lt_int _ _ _), cmpR_of _ (le_int _ _ _), cmpR_of _ (gt_int _ _ _), cmpR_of _ (ge_int _ _ _), cmpR_of _ (eq_int _ _ _), cmpR_of _ (ne_int _ _ _), cmpR_of _ (eq_bool _ _ _), cmpR_of _ (ne_bool _ _ _), cmpR_of _ (is_bool _ _ _), cmpR_of _ (isNot_bool _ _ _), cmpR_of _ (is_intN _ _), cmpR_of _ (isNot_intN _ _), len_tup, len_lst, len_scr, abs_int, int_int, int_bool, min_ints, max_ints, tuple_lst, tuple_tup, list_tup, mkL_f, mkT_f, toDats_cons, toDats_nil, toDats_app, List.append_nil, Nat.reduceAdd, Nat.reduceLeDiff, decide_true, decide_false, Int.reduceEq, srcOf_tup, srcOf_lst, isaD_dat, below_dat, leave_rtS, leave_nxS, wipe_nil, wipe_cons, map_some', len_one, len_enum, len_zip, len_rng, len_vals, truthR, List.getElem?_cons_zero, List.getElem?_cons_succ, List.set_cons_zero, List.set_cons_succ, List.length_cons, List.length_nil, List.length_map, List.reverse_cons, List.reverse_nil, List.nil_append, List.cons_append, List.map_cons, List.map_nil, Nat.zero_add, Bool.not_true, Bool.not_false, idx_t0, idx_t1, idx_t2, idx_l0, seq_tup, eq_row, eq_ints, eq_nil, ne_nil, in_none_row, in_ints, toDats_dat, intsOf_int, Option.bind_some, cmpR_of _ (eq_row _ _ _), cmpR_of _ (eq_ints _ _ _), cmpR_of _ (eq_nil _ _), cmpR_of _ (ne_nil _ _), cmpR_of _ (in_none_row _ _), cmpR_of _ (in_ints _ _ _), cmpR_of _ (ne_nilnil _), b_d14, c, hd]
theorem F12_ok (xs ys : List Int) (a : Int) (hl : xs.length = ys.length) (hf : xs.length ≤ 5) : F12 [.dat (row xs), .dat (row ys), .dat (.int a)] S = .ok (.dat (row (jn a 0 xs ys))) S := by
  rw [in12]
  have c := comp_zi (Φ := P12) (G := GV) (S := S) (i := 3) (j := 4) (ev := [some (.dat (row xs)), some (.dat (row ys)), some (.dat (.int a)), none, none]) (elt := .blt .max (.cons (.bin .add (.var 3) (.var 2)) (.cons (.var 4) .nil))) xs ys hl (fun x y => if y > x + a then y else x + a) (fun x y => by simp (maxDischargeDepth := 3) only [xE_var, xE_lit, xE_gv, xE_bin, xE_neg, xE_not, xE_and, xE_or, xE_cmp, xE_rcmp, xE_chain, xE_ite, xE_call, xE_blt, xE_idx, xE_sl, xE_tup, xE_lst, xE_comp, xE_kset, xE_isi, xA_one, xA_cons, xO_one, xO_cons, xL_nil, xL_cons, xL_star, xT_nil, xT_one, xU_none, xU_some, xI_one, xI_enum, xI_rng1, xI_rng2, xI_zip2, xS_asg, xS_par, xS_seti, xS_expr, xS_ret, xS_retN, xS_iff, xS_for, xSs_nil, xSs_cons, bind_ok, sr_ok, ofP_some, ofO_some, getV_some, getG_some, negR_int, fitR_ok, compR_some, callR_some, boolR_some, selR_t, selR_f, forkR_t, forkR_f, optR_some, iR_int, rng1R_int, rng2R_int, zipR_some, nxR_some, setR_some, at_nx, at_rt, truth_bool, truth_list, truth_tuple, put_nm, put_tp, put_tp2, setSlots_nil, setSlots_cons, add_int, sub_int, add_tup, add_lst, mod_int, lt_int, le_int, gt_int, ge_int, eq_int, ne_int, eq_bool, ne_bool, is_bool, isNot_bool, is_intN, isNot_intN, cmpR_of _ (lt_int _ _ _), cmpR_of _ (le_int _ _ _), cmpR_of _ (gt_int _ _ _), cmpR_of _ (ge_int _ _ _), cmpR_of _ (eq_int _ _ _), cmpR_of _ (ne_int _ _ _), cmpR_of _ (eq_bool _ _ _), cmpR_of _ (ne_bool _ _ _), cmpR_of _ (is_bool _ _ _), cmpR_of _ (isNot_bool _ _ _), cmpR_of _ (is_intN _ _), cmpR_of _ (isNot_intN _ _), len_tup, len_lst, len_scr, abs_int, int_int, int_bool, min_ints, max_ints, tuple_lst, tuple_tup, list_tup, mkL_f, mkT_f, toDats_cons, toDats_nil, toDats_app, List.append_nil, Nat.reduceAdd, Nat.reduceLeDiff, decide_true, decide_false, Int.reduceEq, srcOf_tup, srcOf_lst, isaD_dat, below_dat, leave_rtS, leave_nxS, wipe_nil, wipe_cons, map_some', len_one, len_enum, len_zip, len_rng, len_vals, truthR, List.getElem?_cons_zero, List.getElem?_cons_succ, List.set_cons_zero, List.set_cons_succ, List.length_cons, List.length_nil, List.length_map, List.reverse_cons, List.reverse_nil, List.nil_append, List.cons_append, List.map_cons, List.map_nil, Nat.zero_add, Bool.not_true, Bool.not_false, idx_t0, idx_t1, idx_t2, idx_l0, seq_tup, eq_row, eq_ints, eq_nil, ne_nil, in_none_row, in_ints, toDats_dat, intsOf_int, Option.bind_some, cmpR_of _ (eq_row _ _ _), cmpR_of _ (eq_ints _ _ _), cmpR_of _ (eq_nil _ _), cmpR_of _ (ne_nil _ _), cmpR_of _ (in_none_row _ _), cmpR_of _ (in_ints _ _ _), cmpR_of _ (ne_nilnil _)])
  have hd2 : (List.zipWith (fun x y => if y > x + a then y else x + a) xs ys).length ≤ 16777216 := by simp; omega
  have e : List.zipWith (fun x y => if y > x + a then y else x + a) xs ys = jn a 0 xs ys := by simp [jn]
  simp (maxDischargeDepth := 3) only [xE_var, xE_lit, xE_gv, xE_bin, xE_neg, xE_not, xE_and, xE_or, xE_cmp, xE_rcmp, xE_chain, xE_ite, xE_call, xE_blt, xE_idx, xE_sl, xE_tup, xE_lst, xE_comp, xE_kset, xE_isi, xA_one, xA_cons, xO_one, xO_cons, xL_nil, xL_cons, xL_star, xT_nil, xT_one, xU_none, xU_some, xI_one, xI_enum, xI_rng1, xI_rng2, xI_zip2, xS_asg, xS_par, xS_seti, xS_expr, xS_ret, xS_retN, xS_iff, xS_for, xSs_nil, xSs_cons, bind_ok, sr_ok, ofP_some, ofO_some, getV_some, getG_some, negR_int, fitR_ok, compR_some, callR_some, boolR_some, selR_t, selR_f, forkR_t, forkR_f, optR_some, iR_int, rng1R_int, rng2R_int, zipR_some, nxR_some, setR_some, at_nx, at_rt, truth_bool, truth_list, truth_tuple, put_nm, put_tp, put_tp2, setSlots_nil, setSlots_cons, add_int, sub_int, add_tup, add_lst, mod_int, lt_int, le_int, gt_int, ge_int, eq_int, ne_int, eq_bool, ne_bool, is_bool, isNot_bool, is_intN, isNot_intN, cmpR_of _ (lt_int _ _ _), cmpR_of _ (le_int _ _ _), cmpR_of _ (gt_int _ _ _), cmpR_of _ (ge_int _ _ _), cmpR_of _ (eq_int _ _ _), cmpR_of _ (ne_int _ _ _), cmpR_of _ (eq_bool _ _ _), cmpR_of _ (ne_bool _ _ _), cmpR_of _ (is_bool _ _ _), cmpR_of _ (isNot_bool _ _ _), cmpR_of _ (is_intN _ _), cmpR_of _ (isNot_intN _ _), len_tup, len_lst, len_scr, abs_int, int_int, int_bool, min_ints, max_ints, tuple_lst, tuple_tup, list_tup, mkL_f, mkT_f, toDats_cons, toDats_nil, toDats_app, List.append_nil, Nat.reduceAdd, Nat.reduceLeDiff, decide_true, decide_false, Int.reduceEq, srcOf_tup, srcOf_lst, isaD_dat, below_dat, leave_rtS, leave_nxS, wipe_nil, wipe_cons, map_some', len_one, len_enum, len_zip, len_rng, len_vals, truthR, List.getElem?_cons_zero, List.getElem?_cons_succ, List.set_cons_zero, List.set_cons_succ, List.length_cons, List.length_nil, List.length_map, List.reverse_cons, List.reverse_nil, List.nil_append, List.cons_append, List.map_cons, List.map_nil, Nat.zero_add, Bool.not_true, Bool.not_false, idx_t0, idx_t1, idx_t2, idx_l0, seq_tup, eq_row, eq_ints, eq_nil, ne_nil, in_none_row, in_ints, toDats_dat, intsOf_int, Option.bind_some, cmpR_of _ (eq_row _ _ _), cmpR_of _ (eq_ints _ _ _), cmpR_of _ (eq_nil _ _), cmpR_of _ (ne_nil _ _), cmpR_of _ (in_none_row _ _), cmpR_of _ (in_ints _ _ _), cmpR_of _ (ne_nilnil _), b_d12, c, hd2]
  rw [e]
/-- a corner of two rows -/
def corner (xs ys : List Int) (d : Int) : List Int := (jn d 0 xs ys).map fun y => y - (jn d 0 xs ys).headD 0
theorem p15_7 : P15[7]? = some F7 := rfl
theorem p15_14 : P15[14]? = some F14 := rfl
theorem p15_12 : P15[12]? = some F12 := rfl
theorem F15_ok {n : Nat} {xs ys : List Int} (hx : Rw n xs) (hy : Rw n ys) : F15 [.dat (row xs), .dat (row ys)] S = .ok (.dat (.list ((sortI (dedI (df xs ys))).map fun d => row (corner xs ys d)))) S := by
  rw [in15]
  have l1 := hx.len
  have l2 := hy.len
  have l4 := hx.pos
  have l5 := hx.le
  have c := comp_1i (Φ := P15) (G := GV) (S := S) (i := 2) (ev := [some (.dat (row xs)), some (.dat (row ys)), none]) (elt := .call 14 (.cons (.call 12 (.cons (.var 0) (.cons (.var 1) (.cons (.var 2) .nil)))) .nil)) (sortI (dedI (df xs ys))) (fun d => row (corner xs ys d)) (fun d _ => by
    have hl := len_jn d 0 xs ys (by omega)
    have h0 : (jn d 0 xs ys)[0]? = some ((jn d 0 xs ys).headD 0) := by
      cases e : jn d 0 xs ys with
      | nil => rw [e] at hl; simp at hl; omega
      | cons a r => rfl
    simp (maxDischargeDepth := 3) only [xE_var, xE_lit, xE_gv, xE_bin, xE_neg, xE_not, xE_and, xE_or, xE_cmp, xE_rcmp, xE_chain, xE_ite, xE_call, xE_blt, xE_idx, xE_sl, xE_tup, xE_lst, xE_comp, xE_kset, xE_isi, xA_one, xA_cons, xO_one, xO_cons, xL_nil, xL_cons, xL_star, xT_nil, xT_one, xU_none, xU_some, xI_one, xI_enum, xI_rng1, xI_rng2, xI_zip2, xS_asg, xS_par, xS_seti, xS_expr, xS_ret, xS_retN, xS_iff, xS_for, xSs_nil, xSs_cons, bind_ok, sr_ok, ofP_some, ofO_some, getV_some, getG_some, negR_int, fitR_ok, compR_some, callR_some, boolR_some, selR_t, selR_f, forkR_t, forkR_f, optR_some, iR_int, rng1R_int, rng2R_int, zipR_some, nxR_some, setR_some, at_nx, at_rt, truth_bool, truth_list, truth_tuple, put_nm, put_tp, put_tp2, setSlots_nil, setSlots_cons, add_int, sub_int, add_tup, add_lst, mod_int, lt_int, le_int, gt_int, ge_int, eq_int, ne_int, eq_bool, ne_bool, is_bool, isNot_bool, is_intN, isNot_intN, cmpR_of _ (lt_int _ _ _), cmpR_of _ (le_int _ _ _), cmpR_of _ (gt_int _ _ _), cmpR_of _ (ge_int _ _ _), cmpR_of _ (eq_int _ _ _), cmpR_of _ (ne_int _ _ _), cmpR_of _ (eq_bool _ _ _), cmpR_of _ (ne_bool _ _ _), cmpR_of _ (is_bool _ _ _), cmpR_of _ (isNot_bool _ _ _), cmpR_of _ (is_intN _ _), cmpR_of _ (isNot_intN _ _), len_tup, len_lst, len_scr, abs_int, int_int, int_bool, min_ints, max_ints, tuple_lst, tuple_tup, list_tup, mkL_f, mkT_f, toDats_cons, toDats_nil, toDats_app, List.append_nil, Nat.reduceAdd, Nat.reduceLeDiff, decide_true, decide_false, Int.reduceEq, srcOf_tup, srcOf_lst, isaD_dat, below_dat, leave_rtS, leave_nxS, wipe_nil, wipe_cons, map_some', len_one, len_enum, len_zip, len_rng, len_vals, truthR, List.getElem?_cons_zero, List.getElem?_cons_succ, List.set_cons_zero, List.set_cons_succ, List.length_cons, List.length_nil, List.length_map, List.reverse_cons, List.reverse_nil, List.nil_append, List.cons_append, List.map_cons, List.map_nil, Nat.zero_add, Bool.not_true, Bool.not_false, idx_t0, idx_t1, idx_t2, idx_l0, seq_tup, eq_row, eq_ints, eq_nil, ne_nil, in_none_row, in_ints, toDats_dat, intsOf_int, Option.bind_some, cmpR_of _ (eq_row _ _ _), cmpR_of _ (eq_ints _ _ _), cmpR_of _ (eq_nil _ _), cmpR_of _ (ne_nil _ _), cmpR_of _ (in_none_row _ _), cmpR_of _ (in_ints _ _ _), cmpR_of _ (ne_nilnil _), p15_14, p15_12, F12_ok S xs ys d (by omega) (by omega), F14_ok S _ _ h0 (by omega)]
    rfl)
  have hd : (sortI (dedI (df xs ys))).length ≤ 16777216 := by
    have h1 := len_dedI (df xs ys)
    have h2 := len_df xs ys (by omega)
    have h3 : ∀ l : List Int, (sortI l).length = l.length := by
      have k : ∀ a (l : List Int), (insI a l).length = l.length + 1 := by
        intro a l
        induction l with
        | nil => rfl
        | cons b r ih =>
          unfold insI
          split <;> simp [ih]
      intro l
      induction l with
      | nil => rfl
      | cons a r ih => rw [sortI, k, ih]; rfl
    rw [h3]
    omega
  simp (maxDischargeDepth := 3) only [xE_var, xE_lit, xE_gv, xE_bin, xE_neg, xE_not, xE_and, xE_or, xE_cmp, xE_rcmp, xE_chain, xE_ite, xE_call, xE_blt, xE_idx, xE_sl, xE_tup, xE_lst, xE_comp, xE_kset, xE_isi, xA_one, xA_cons, xO_one, xO_cons, xL_nil, xL_cons, xL_star, xT_nil, xT_one, xU_none, xU_some, xI_one, xI_enum, xI_rng1, xI_rng2, xI_zip2, xS_asg, xS_par, xS_seti, xS_expr, xS_ret, xS_retN, xS_iff, xS_for, xSs_nil, xSs_cons, bind_ok, sr_ok, ofP_some, ofO_some, getV_some, getG_some, negR_int, fitR_ok, compR_some, callR_some, boolR_some, selR_t, selR_f, forkR_t, forkR_f, optR_some, iR_int, rng1R_int, rng2R_int, zipR_some, nxR_some, setR_some, at_nx, at_rt, truth_bool, truth_list, truth_tuple, put_nm, put_tp, put_tp2, setSlots_nil, setSlots_cons, add_int, sub_int, add_tup, add_lst, mod_int, lt_int, le_int, gt_int, ge_int, eq_int, ne_int, eq_bool, ne_bool, is_bool, isNot_bool, is_intN, isNot_intN, cmpR_of _ (lt_int _ _ _), cmpR_of _ (le_int _ _ _), cmpR_of _ (gt_int _ _ _), cmpR_of _ (ge_int _ _ _), cmpR_of _ (eq_int _ _ _), cmpR_of _ (ne_int _ _ _), cmpR_of _ (eq_bool _ _ _), cmpR_of _ (ne_bool _ _ _), cmpR_of _ (is_bool _ _ _), cmpR_of _ (isNot_bool _ _ _), cmpR_of _ (is_intN _ _), cmpR_of _ (isNot_intN _ _), len_tup, len_lst, len_scr, abs_int, int_int, int_bool, min_ints, max_ints, tuple_lst, tuple_tup, list_tup, mkL_f, mkT_f, toDats_cons, toDats_nil, toDats_app, List.append_nil, Nat.reduceAdd, Nat.reduceLeDiff, decide_true, decide_false, Int.reduceEq, srcOf_tup, srcOf_lst, isaD_dat, below_dat, leave_rtS, leave_nxS, wipe_nil, wipe_cons, map_some', len_one, len_enum, len_zip, len_rng, len_vals, truthR, List.getElem?_cons_zero, List.getElem?_cons_succ, List.set_cons_zero, List.set_cons_succ, List.length_cons, List.length_nil, List.length_map, List.reverse_cons, List.reverse_nil, List.nil_append, List.cons_append, List.map_cons, List.map_nil, Nat.zero_add, Bool.not_true, Bool.not_false, idx_t0, idx_t1, idx_t2, idx_l0, seq_tup, eq_row, eq_ints, eq_nil, ne_nil, in_none_row, in_ints, toDats_dat, intsOf_int, Option.bind_some, cmpR_of _ (eq_row _ _ _), cmpR_of _ (eq_ints _ _ _), cmpR_of _ (eq_nil _ _), cmpR_of _ (ne_nil _ _), cmpR_of _ (in_none_row _ _), cmpR_of _ (in_ints _ _ _), cmpR_of _ (ne_nilnil _), b_d15, p15_7, F7_ok S xs ys (by omega) (by omega), c, hd]
theorem p16_6 : P16[6]? = some F6 := rfl
theorem p16_15 : P16[15]? = some F15 := rfl
theorem F16_ok {n : Nat} {xs ys : List Int} (hx : Rw n xs) (hy : Rw n ys) : F16 [.dat (row xs), .dat (row ys)] S = .ok (.dat (.tuple ((sortI (dedI (df xs ys))).map fun d => row (corner xs ys d)))) S := by
  rw [in16]
  simp (maxDischargeDepth := 3) only [xE_var, xE_lit, xE_gv, xE_bin, xE_neg, xE_not, xE_and, xE_or, xE_cmp, xE_rcmp, xE_chain, xE_ite, xE_call, xE_blt, xE_idx, xE_sl, xE_tup, xE_lst, xE_comp, xE_kset, xE_isi, xA_one, xA_cons, xO_one, xO_cons, xL_nil, xL_cons, xL_star, xT_nil, xT_one, xU_none, xU_some, xI_one, xI_enum, xI_rng1, xI_rng2, xI_zip2, xS_asg, xS_par, xS_seti, xS_expr, xS_ret, xS_retN, xS_iff, xS_for, xSs_nil, xSs_cons, bind_ok, sr_ok, ofP_some, ofO_some, getV_some, getG_some, negR_int, fitR_ok, compR_some, callR_some, boolR_some, selR_t, selR_f, forkR_t, forkR_f, optR_some, iR_int, rng1R_int, rng2R_int, zipR_some, nxR_some, setR_some, at_nx, at_rt, truth_bool, truth_list, truth_tuple, put_nm, put_tp, put_tp2, setSlots_nil, setSlots_cons, add_int, sub_int, add_tup, add_lst, mod_int, lt_int, le_int, gt_int, ge_int, eq_int, ne_int, eq_bool, ne_bool, is_bool, isNot_bool, is_intN, isNot_intN, cmpR_of _ (lt_int _ _ _), cmpR_of _ (le_int _ _ _), cmpR_of _ (gt_int _ _ _), cmpR_of _ (ge_int _ _ _), cmpR_of _ (eq_int _ _ _), cmpR_of _ (ne_int _ _ _), cmpR_of _ (eq_bool _ _ _), cmpR_of _ (ne_bool _ _ _), cmpR_of _ (is_bool _ _ _), cmpR_of _ (isNot_bool _ _ _), cmpR_of _ (is_intN _ _), cmpR_of _ (isNot_intN _ _), len_tup, len_lst, len_scr, abs_int, int_int, int_bool, min_ints, max_ints, tuple_lst, tuple_tup, list_tup, mkL_f, mkT_f, toDats_cons, toDats_nil, toDats_app, List.append_nil, Nat.reduceAdd, Nat.reduceLeDiff, decide_true, decide_false, Int.reduceEq, srcOf_tup, srcOf_lst, isaD_dat, below_dat, leave_rtS, leave_nxS, wipe_nil, wipe_cons, map_some', len_one, len_enum, len_zip, len_rng, len_vals, truthR, List.getElem?_cons_zero, List.getElem?_cons_succ, List.set_cons_zero, List.set_cons_succ, List.length_cons, List.length_nil, List.length_map, List.reverse_cons, List.reverse_nil, List.nil_append, List.cons_append, List.map_cons, List.map_nil, Nat.zero_add, Bool.not_true, Bool.not_false, idx_t0, idx_t1, idx_t2, idx_l0, seq_tup, eq_row, eq_ints, eq_nil, ne_nil, in_none_row, in_ints, toDats_dat, intsOf_int, Option.bind_some, cmpR_of _ (eq_row _ _ _), cmpR_of _ (eq_ints _ _ _), cmpR_of _ (eq_nil _ _), cmpR_of _ (ne_nil _ _), cmpR_of _ (in_none_row _ _), cmpR_of _ (in_ints _ _ _), cmpR_of _ (ne_nilnil _), b_d16, p16_6, p16_15, F6_2 S hx hy, F15_ok S hx hy]
end
end LW
end
section
namespace LW
open MP PySem
def CellIs (S : Store) (n : Nat) (g sd c : Int) : Prop := S[n]? = some (.lst [.dat (.int g), .dat (.int sd), .dat (.int c)])
def Jar (n k : Nat) (S : Store) : Prop := ∃ g sd c, CellIs S n g sd c ∧ 0 ≤ sd ∧ sd < 1606938044258990275541962092341162602522202993782792835301376 ∧ 0 ≤ c ∧ c ≤ (k : Nat)
theorem Jar.mono {n k k' : Nat} {S : Store} (h : Jar n k S) (hk : k ≤ k') : Jar n k' S := by
  obtain ⟨g, sd, c, h1, h2, h3, h4, h5⟩ := h
  exact ⟨g, sd, c, h1, h2, h3, h4, by omega⟩
theorem log_small (i : Int) (k : Nat) (h1 : 0 ≤ i) (h2 : i < ((2 ^ k : Nat) : Int)) (hk : 0 < k) : i.natAbs.log2 < k := by
  by_cases h : i.natAbs = 0
  · rw [h]
    exact hk
  · rw [Nat.log2_lt h]
    omega
section
variable {S : Store} {n : Nat} {g sd c : Int} (h : CellIs S n g sd c)
include h
theorem cell_of : cellAt S n = some [.dat (.int g), .dat (.int sd), .dat (.int c)] := by simp only [cellAt, show S[n]? = _ from h]
theorem ix0 : idxV (.ref n) (.dat (.int 0)) S = some (.dat (.int g), S) := by
  simp [idxV, getSeq, cell_of h, L2.atI, L2.ixN]
theorem ix1 : idxV (.ref n) (.dat (.int 1)) S = some (.dat (.int sd), S) := by
  simp [idxV, getSeq, cell_of h, L2.atI, L2.ixN]
theorem ix2 : idxV (.ref n) (.dat (.int 2)) S = some (.dat (.int c), S) := by
  simp [idxV, getSeq, cell_of h, L2.atI, L2.ixN]
theorem lt_of_cell : n < S.length := (List.getElem?_eq_some_iff.mp h).1
theorem st0 (v : Int) : ∃ S1, setiV (.ref n) (.dat (.int 0)) (.dat (.int v)) S = some S1 ∧ S1.length = S.length ∧ CellIs S1 n v sd c := by
  refine ⟨S.set n (.lst [.dat (.int v), .dat (.int sd), .dat (.int c)]), ?_, by simp, ?_⟩
  · simp [setiV, cell_of h, setAt, L2.ixN, below]
  · simp [CellIs, lt_of_cell h]
theorem st2 (v : Int) : ∃ S1, setiV (.ref n) (.dat (.int 2)) (.dat (.int v)) S = some S1 ∧ S1.length = S.length ∧ CellIs S1 n g sd v := by
  refine ⟨S.set n (.lst [.dat (.int g), .dat (.int sd), .dat (.int v)]), ?_, by simp, ?_⟩
  · simp [setiV, cell_of h, setAt, L2.ixN, below]
  · simp [CellIs, lt_of_cell h]
end
theorem leave_to (k : Nat) (p : PyData) (S' : Store) (h : S'.length = k) : leave k (.rt (.dat p) S') = .ok (.dat p) S' := by
  rw [leave_rt, ← h, List.take_length]
theorem F20_ok (S : Store) (n k : Nat) (m : Int) (hj : Jar n k S) (hk : k ≤ 1000000) (hm : 0 < m) (hm2 : m < 1000000000000) :
    ∃ v S', F20 [.ref n, .dat (.int m)] S = .ok (.dat (.int v)) S' ∧ 0 ≤ v ∧ v < m ∧ Jar n (k + 1) S' ∧ S'.length = S.length := by
  obtain ⟨g, sd, c, h, h2, h3, h4, h5⟩ := hj
  have hlm : m.natAbs.log2 < 9000 := Nat.lt_trans (log_small m 40 (by omega) (by have : ((2 ^ 40 : Nat) : Int) = 1099511627776 := rfl; omega) (by omega)) (by omega)
  by_cases hg : 0 < g
  · obtain ⟨S1, e1, e2, e3⟩ := st0 h (g / m)
    refine ⟨g % m, S1, ?_, Int.emod_nonneg _ (by omega), Int.emod_lt_of_pos _ hm, ⟨_, _, _, e3, h2, h3, h4, by omega⟩, e2⟩
    rw [in20]
    have lv := leave_to S.length (.int (g % m)) S1 e2
    simp (maxDischargeDepth := 3) only [xE_var, xE_lit, xE_gv, xE_bin, xE_neg, xE_not, xE_and, xE_or, xE_cmp, xE_rcmp, xE_chain, xE_ite, xE_call, xE_blt, xE_idx, xE_sl, xE_tup, xE_lst, xE_comp, xE_kset, xE_isi, xA_one, xA_cons, xO_one, xO_cons, xL_nil, xL_cons, xL_star, xT_nil, xT_one, xU_none, xU_some, xI_one, xI_enum, xI_rng1, xI_rng2, xI_zip2, xS_asg, xS_par, xS_seti, xS_expr, xS_ret, xS_retN, xS_iff, xS_for, xSs_nil, xSs_cons, bind_ok, sr_ok, ofP_some, ofO_some, getV_some, getG_some, negR_int, fitR_ok, compR_some, callR_some, boolR_some, selR_t, selR_f, forkR_t, forkR_f, optR_some, iR_int, rng1R_int, rng2R_int, zipR_some, nxR_some, setR_some, at_nx, at_rt, truth_bool, truth_list, truth_tuple, put_nm, put_tp, put_tp2, setSlots_nil, setSlots_cons, add_int, sub_int, add_tup, add_lst, mod_int, lt_int, le_int, gt_int, ge_int, eq_int, ne_int, eq_bool, ne_bool, is_bool, isNot_bool, is_intN, isNot_intN, cmpR_of _ (lt_int _ _ _), cmpR_of _ (le_int _ _ _), cmpR_of _ (gt_int _ _ _), cmpR_of _ (ge_int _ _ _), cmpR_of _ (eq_int _ _ _), cmpR_of _ (ne_int _ _ _), cmpR_of _ (eq_bool _ _ _), cmpR_of _ (ne_bool _ _ _), cmpR_of _ (is_bool _ _ _), cmpR_of _ (isNot_bool _ _ _), cmpR_of _ (is_intN _ _), cmpR_of _ (isNot_intN _ _), len_tup, len_lst, len_scr, abs_int, int_int, int_bool, min_ints, max_ints, tuple_lst, tuple_tup, list_tup, mkL_f, mkT_f, toDats_cons, toDats_nil, toDats_app, List.append_nil, Nat.reduceAdd, Nat.reduceLeDiff, decide_true, decide_false, Int.reduceEq, srcOf_tup, srcOf_lst, isaD_dat, below_dat, leave_rtS, leave_nxS, wipe_nil, wipe_cons, map_some', len_one, len_enum, len_zip, len_rng, len_vals, truthR, List.getElem?_cons_zero, List.getElem?_cons_succ, List.set_cons_zero, List.set_cons_succ, List.length_cons, List.length_nil, List.length_map, List.reverse_cons, List.reverse_nil, List.nil_append, List.cons_append, List.map_cons, List.map_nil, Nat.zero_add, Bool.not_true, Bool.not_false, idx_t0, idx_t1, idx_t2, idx_l0, seq_tup, eq_row, eq_ints, eq_nil, ne_nil, in_none_row, in_ints, toDats_dat, intsOf_int, Option.bind_some, cmpR_of _ (eq_row _ _ _), cmpR_of _ (eq_ints _ _ _), cmpR_of _ (eq_nil _ _), cmpR_of _ (ne_nil _ _), cmpR_of _ (in_none_row _ _), cmpR_of _ (in_ints _ _ _), cmpR_of _ (ne_nilnil _), b_d20, ix0 h, decide_eq_true hg, mod_int S g m hm, fdiv_int S g m hm hlm, e1, lv]
  · obtain ⟨S1, e1, e2, e3⟩ := st2 h (c + 1)
    generalize hone : (sd + 86028121 * (c + 1)) % 2305843009213693951 = one
    have o1 : 0 ≤ one := by rw [← hone]; exact Int.emod_nonneg _ (by decide)
    have o2 : one < 2305843009213693951 := by rw [← hone]; exact Int.emod_lt_of_pos _ (by decide)
    generalize hq : (one * one + 107 * (c + 1)) % 2305843009213693921 = q
    have q1 : 0 ≤ q := by rw [← hq]; exact Int.emod_nonneg _ (by decide)
    have q2 : q < 2305843009213693921 := by rw [← hq]; exact Int.emod_lt_of_pos _ (by decide)
    have p61 : ((2 ^ 61 : Nat) : Int) = 2305843009213693952 := rfl
    have p20 : ((2 ^ 30 : Nat) : Int) = 1073741824 := rfl
    have lo := log_small one 61 o1 (by omega) (by omega)
    have lq := log_small q 61 q1 (by omega) (by omega)
    have lc := log_small (c + 1) 30 (by omega) (by omega) (by omega)
    have la := log_small 86028121 30 (by omega) (by omega) (by omega)
    have lb := log_small 107 30 (by omega) (by omega) (by omega)
    have ld := log_small 3999971 30 (by omega) (by omega) (by omega)
    have le := log_small 65539 30 (by omega) (by omega) (by omega)
    refine ⟨((q * 3999971 + one) / 65539) % m, S1, ?_, Int.emod_nonneg _ (by omega), Int.emod_lt_of_pos _ hm, ⟨_, _, _, e3, h2, h3, by omega, by omega⟩, e2⟩
    rw [in20]
    have lv := leave_to S.length (.int (((q * 3999971 + one) / 65539) % m)) S1 e2
    have m1 := mul_int S1 86028121 (c + 1) (by omega)
    have m2 := mul_int S1 one one (by omega)
    have m3 := mul_int S1 107 (c + 1) (by omega)
    have m4 := mul_int S1 q 3999971 (by omega)
    have d1 := mod_int S1 (sd + 86028121 * (c + 1)) 2305843009213693951 (by decide)
    have d2 := mod_int S1 (one * one + 107 * (c + 1)) 2305843009213693921 (by decide)
    have d3 := fdiv_int S1 (q * 3999971 + one) 65539 (by decide) (by omega)
    have d4 := mod_int S1 ((q * 3999971 + one) / 65539) m hm
    rw [hone] at d1
    rw [hq] at d2
    simp (maxDischargeDepth := 3) only [xE_var, xE_lit, xE_gv, xE_bin, xE_neg, xE_not, xE_and, xE_or, xE_cmp, xE_rcmp, xE_chain, xE_ite, xE_call, xE_blt, xE_idx, xE_sl, xE_tup, xE_lst, xE_comp, xE_kset, xE_isi, xA_one, xA_cons, xO_one, xO_cons, xL_nil, xL_cons, xL_star, xT_nil, xT_one, xU_none, xU_some, xI_one, xI_enum, xI_rng1, xI_rng2, xI_zip2, xS_asg, xS_par, xS_seti, xS_expr, xS_ret, xS_retN, xS_iff, xS_for, xSs_nil, xSs_cons, bind_ok, sr_ok, ofP_some, ofO_some, getV_some, getG_some, negR_int, fitR_ok, compR_some, callR_some, boolR_some, selR_t, selR_f, forkR_t, forkR_f, optR_some, iR_int, rng1R_int, rng2R_int, zipR_some, nxR_some, setR_some, at_nx, at_rt, truth_bool, truth_list, truth_tuple, put_nm, put_tp, put_tp2, setSlots_nil, setSlots_cons, add_int, sub_int, add_tup, add_lst, mod_int, lt_int, le_int, gt_int, ge_int, eq_int, ne_int, eq_bool, ne_bool, is_bool, isNot_bool, is_intN, isNot_intN, cmpR_of _ (lt_int _ _ _), cmpR_of _ (le_int _ _ _), cmpR_of _ (gt_int _ _ _), cmpR_of _ (ge_int _ _ _), cmpR_of _ (eq_int _ _ _), cmpR_of _ (ne_int _ _ _), cmpR_of _ (eq_bool _ _ _), cmpR_of _ (ne_bool _ _ _), cmpR_of _ (is_bool _ _ _), cmpR_of _ (isNot_bool _ _ _), cmpR_of _ (is_intN _ _), cmpR_of _ (isNot_intN _ _), len_tup, len_lst, len_scr, abs_int, int_int, int_bool, min_ints, max_ints, tuple_lst, tuple_tup, list_tup, mkL_f, mkT_f, toDats_cons, toDats_nil, toDats_app, List.append_nil, Nat.reduceAdd, Nat.reduceLeDiff, decide_true, decide_false, Int.reduceEq, srcOf_tup, srcOf_lst, isaD_dat, below_dat, leave_rtS, leave_nxS, wipe_nil, wipe_cons, map_some', len_one, len_enum, len_zip, len_rng, len_vals, truthR, List.getElem?_cons_zero, List.getElem?_cons_succ, List.set_cons_zero, List.set_cons_succ, List.length_cons, List.length_nil, List.length_map, List.reverse_cons, List.reverse_nil, List.nil_append, List.cons_append, List.map_cons, List.map_nil, Nat.zero_add, Bool.not_true, Bool.not_false, idx_t0, idx_t1, idx_t2, idx_l0, seq_tup, eq_row, eq_ints, eq_nil, ne_nil, in_none_row, in_ints, toDats_dat, intsOf_int, Option.bind_some, cmpR_of _ (eq_row _ _ _), cmpR_of _ (eq_ints _ _ _), cmpR_of _ (eq_nil _ _), cmpR_of _ (ne_nil _ _), cmpR_of _ (in_none_row _ _), cmpR_of _ (in_ints _ _ _), cmpR_of _ (ne_nilnil _), b_d20, ix0 h, decide_eq_false hg, ix2 h, e1, ix1 e3, ix2 e3, m1, m2, m3, m4, d1, d2, d3, d4, lv]
theorem p21_20 : P21[20]? = some F20 := rfl
theorem F21_ok (S : Store) (n k : Nat) (l : List PyData) (hj : Jar n k S) (hk : k ≤ 1000000) (h0 : 0 < l.length) (h5 : l.length ≤ 10) :
    ∃ (v : Nat) (p : PyData) (S' : Store), F21 [.ref n, .dat (.list l)] S = .ok (.dat p) S' ∧ l[v]? = some p ∧ Jar n (k + 1) S' ∧ S'.length = S.length := by
  obtain ⟨v, S', e1, v0, v1, j, e2⟩ := F20_ok S n k (l.length : Nat) hj hk (by omega) (by omega)
  obtain ⟨w, rfl⟩ := Int.eq_ofNat_of_zero_le v0
  have hw : w < l.length := by omega
  refine ⟨w, l[w], S', ?_, by simp [hw], j, e2⟩
  rw [in21]
  have lv := leave_to S.length l[w] S' e2
  simp (maxDischargeDepth := 3) only [xE_var, xE_lit, xE_gv, xE_bin, xE_neg, xE_not, xE_and, xE_or, xE_cmp, xE_rcmp, xE_chain, xE_ite, xE_call, xE_blt, xE_idx, xE_sl, xE_tup, xE_lst, xE_comp, xE_kset, xE_isi, xA_one, xA_cons, xO_one, xO_cons, xL_nil, xL_cons, xL_star, xT_nil, xT_one, xU_none, xU_some, xI_one, xI_enum, xI_rng1, xI_rng2, xI_zip2, xS_asg, xS_par, xS_seti, xS_expr, xS_ret, xS_retN, xS_iff, xS_for, xSs_nil, xSs_cons, bind_ok, sr_ok, ofP_some, ofO_some, getV_some, getG_some, negR_int, fitR_ok, compR_some, callR_some, boolR_some, selR_t, selR_f, forkR_t, forkR_f, optR_some, iR_int, rng1R_int, rng2R_int, zipR_some, nxR_some, setR_some, at_nx, at_rt, truth_bool, truth_list, truth_tuple, put_nm, put_tp, put_tp2, setSlots_nil, setSlots_cons, add_int, sub_int, add_tup, add_lst, mod_int, lt_int, le_int, gt_int, ge_int, eq_int, ne_int, eq_bool, ne_bool, is_bool, isNot_bool, is_intN, isNot_intN, cmpR_of _ (lt_int _ _ _), cmpR_of _ (le_int _ _ _), cmpR_of _ (gt_int _ _ _), cmpR_of _ (ge_int _ _ _), cmpR_of _ (eq_int _ _ _), cmpR_of _ (ne_int _ _ _), cmpR_of _ (eq_bool _ _ _), cmpR_of _ (ne_bool _ _ _), cmpR_of _ (is_bool _ _ _), cmpR_of _ (isNot_bool _ _ _), cmpR_of _ (is_intN _ _), cmpR_of _ (isNot_intN _ _), len_tup, len_lst, len_scr, abs_int, int_int, int_bool, min_ints, max_ints, tuple_lst, tuple_tup, list_tup, mkL_f, mkT_f, toDats_cons, toDats_nil, toDats_app, List.append_nil, Nat.reduceAdd, Nat.reduceLeDiff, decide_true, decide_false, Int.reduceEq, srcOf_tup, srcOf_lst, isaD_dat, below_dat, leave_rtS, leave_nxS, wipe_nil, wipe_cons, map_some', len_one, len_enum, len_zip, len_rng, len_vals, truthR, List.getElem?_cons_zero, List.getElem?_cons_succ, List.set_cons_zero, List.set_cons_succ, List.length_cons, List.length_nil, List.length_map, List.reverse_cons, List.reverse_nil, List.nil_append, List.cons_append, List.map_cons, List.map_nil, Nat.zero_add, Bool.not_true, Bool.not_false, idx_t0, idx_t1, idx_t2, idx_l0, seq_tup, eq_row, eq_ints, eq_nil, ne_nil, in_none_row, in_ints, toDats_dat, intsOf_int, Option.bind_some, cmpR_of _ (eq_row _ _ _), cmpR_of _ (eq_ints _ _ _), cmpR_of _ (eq_nil _ _), cmpR_of _ (ne_nil _ _), cmpR_of _ (in_none_row _ _), cmpR_of _ (in_ints _ _ _), cmpR_of _ (ne_nilnil _), b_d21, p21_20, e1, idx_l S' l w l[w] (by simp [hw]), lv]
theorem pow8 (S : Store) : binop .pow (.dat (.int 10)) (.dat (.int 8)) S = some (.dat (.int 100000000), S) := by
  rw [pow_int S 10 8 (by decide) (by decide) (by decide)]
  rfl
theorem p23_20 : P23[20]? = some F20 := rfl
theorem p23_21 : P23[21]? = some F21 := rfl
theorem e19 (S : Store) (n k : Nat) (most : Int) (s i : Int) (hj : Jar n k S) (hk : k ≤ 1000000) (hm1 : 0 ≤ most) (hm2 : most ≤ 100000000) :
    ∃ v S3, evE P23 GV (.bin .sub (.call 20 (.cons (.var 0) (.cons (.bin .add (.bin .mul (.lit (.int 2)) (.var 2)) (.lit (.int 1))) .nil))) (.var 2)) [some (.ref n), some (.dat (.int s)), some (.dat (.int most)), some (.dat (.int i))] S = .ok (.dat (.int v)) S3 ∧ -100000000 ≤ v ∧ v ≤ 100000000 ∧ Jar n (k + 1) S3 ∧ S3.length = S.length := by
  obtain ⟨v, S3, f1, f2, f3, f4, f5⟩ := F20_ok S n k (2 * most + 1) hj (by omega) (by omega) (by omega)
  have lm := log_small most 30 hm1 (by have : ((2 ^ 30 : Nat) : Int) = 1073741824 := rfl; omega) (by omega)
  have l2 := log_small 2 30 (by omega) (by have : ((2 ^ 30 : Nat) : Int) = 1073741824 := rfl; omega) (by omega)
  refine ⟨v - most, S3, ?_, by omega, by omega, f4, f5⟩
  have mm := mul_int S 2 most (by omega)
  simp (maxDischargeDepth := 3) only [xE_var, xE_lit, xE_gv, xE_bin, xE_neg, xE_not, xE_and, xE_or, xE_cmp, xE_rcmp, xE_chain, xE_ite, xE_call, xE_blt, xE_idx, xE_sl, xE_tup, xE_lst, xE_comp, xE_kset, xE_isi, xA_one, xA_cons, xO_one, xO_cons, xL_nil, xL_cons, xL_star, xT_nil, xT_one, xU_none, xU_some, xI_one, xI_enum, xI_rng1, xI_rng2, xI_zip2, xS_asg, xS_par, xS_seti, xS_expr, xS_ret, xS_retN, xS_iff, xS_for, xSs_nil, xSs_cons, bind_ok, sr_ok, ofP_some, ofO_some, getV_some, getG_some, negR_int, fitR_ok, compR_some, callR_some, boolR_some, selR_t, selR_f, forkR_t, forkR_f, optR_some, iR_int, rng1R_int, rng2R_int, zipR_some, nxR_some, setR_some, at_nx, at_rt, truth_bool, truth_list, truth_tuple, put_nm, put_tp, put_tp2, setSlots_nil, setSlots_cons, add_int, sub_int, add_tup, add_lst, mod_int, lt_int, le_int, gt_int, ge_int, eq_int, ne_int, eq_bool, ne_bool, is_bool, isNot_bool, is_intN, isNot_intN, cmpR_of _ (lt_int _ _ _), cmpR_of _ (le_int _ _ _), cmpR_of _ (gt_int _ _ _), cmpR_of _ (ge_int _ _ _), cmpR_of _ (eq_int _ _ _), cmpR_of _ (ne_int _ _ _), cmpR_of _ (eq_bool _ _ _), cmpR_of _ (ne_bool _ _ _), cmpR_of _ (is_bool _ _ _), cmpR_of _ (isNot_bool _ _ _), cmpR_of _ (is_intN _ _), cmpR_of _ (isNot_intN _ _), len_tup, len_lst, len_scr, abs_int, int_int, int_bool, min_ints, max_ints, tuple_lst, tuple_tup, list_tup, mkL_f, mkT_f, toDats_cons, toDats_nil, toDats_app, List.append_nil, Nat.reduceAdd, Nat.reduceLeDiff, decide_true, decide_false, Int.reduceEq, srcOf_tup, srcOf_lst, isaD_dat, below_dat, leave_rtS, leave_nxS, wipe_nil, wipe_cons, map_some', len_one, len_enum, len_zip, len_rng, len_vals, truthR, List.getElem?_cons_zero, List.getElem?_cons_succ, List.set_cons_zero, List.set_cons_succ, List.length_cons, List.length_nil, List.length_map, List.reverse_cons, List.reverse_nil, List.nil_append, List.cons_append, List.map_cons, List.map_nil, Nat.zero_add, Bool.not_true, Bool.not_false, idx_t0, idx_t1, idx_t2, idx_l0, seq_tup, eq_row, eq_ints, eq_nil, ne_nil, in_none_row, in_ints, toDats_dat, intsOf_int, Option.bind_some, cmpR_of _ (eq_row _ _ _), cmpR_of _ (eq_ints _ _ _), cmpR_of _ (eq_nil _ _), cmpR_of _ (ne_nil _ _), cmpR_of _ (in_none_row _ _), cmpR_of _ (in_ints _ _ _), cmpR_of _ (ne_nilnil _), p23_20, mm, f1]
theorem c19 (S1 : Store) (n k s : Nat) (j1 : Jar n k S1) (hk : k + 10 ≤ 1000000) (h5 : s ≤ 5) (t most : Int) (hm1 : 0 ≤ most) (hm2 : most ≤ 100000000) :
    ∃ (xs : List Int) (S2 : Store), compLoop (.rng 0 s) (.nm 3) (bodyT P23 GV .nil) (bodyE P23 GV (.bin .sub (.call 20 (.cons (.var 0) (.cons (.bin .add (.bin .mul (.lit (.int 2)) (.var 2)) (.lit (.int 1))) .nil))) (.var 2))) [some (.ref n), some (.dat (.int t)), some (.dat (.int most)), none] s 0 S1 = some ((xs.map .int).map .dat, S2) ∧ xs.length = s ∧ Bd 100000000 xs ∧ Jar n (k + s) S2 ∧ S2.length = S1.length := by
  obtain ⟨l, S2, c1, xs, c2, c3, c4, c5, c6⟩ := comp_inv (it := .rng 0 s) (tg := .nm 3) (test := bodyT P23 GV .nil) (elt := bodyE P23 GV (.bin .sub (.call 20 (.cons (.var 0) (.cons (.bin .add (.bin .mul (.lit (.int 2)) (.var 2)) (.lit (.int 1))) .nil))) (.var 2)))
    (ev := [some (.ref n), some (.dat (.int t)), some (.dat (.int most)), none])
    (fun i acc S' => ∃ xs : List Int, acc = (xs.map .int).map .dat ∧ xs.length = i ∧ Bd 100000000 xs ∧ Jar n (k + i) S' ∧ S'.length = S1.length) s
    (fun i acc S' hi hI => by
      obtain ⟨xs, a1, a2, a3, a4, a5⟩ := hI
      refine ⟨[.dat (.int (0 + (i : Nat)))], [some (.ref n), some (.dat (.int t)), some (.dat (.int most)), some (.dat (.int (0 + (i : Nat))))], by simp only [ItS.next, Nat.blt_eq.mpr hi, if_true], rfl, ?_⟩
      show (true = true → W _ _) ∧ (true = false → _)
      refine ⟨fun _ => ?_, fun e => by cases e⟩
      obtain ⟨v, S3, f1, f2, f3, f4, f5⟩ := e19 S' n (k + i) most t (0 + (i : Nat)) a4 (by omega) hm1 hm2
      show W (evE P23 GV _ _ S') _
      rw [f1]
      refine ⟨xs ++ [v], by rw [a1]; simp, by simp [a2], ?_, f4.mono (by omega), by omega⟩
      intro x hx
      rcases List.mem_append.mp hx with hx | hx
      · exact a3 x hx
      · rw [List.mem_singleton.mp hx]
        exact ⟨f2, f3⟩)
    (fun acc S' _ => by simp [ItS.next, Nat.blt]) s 0 [] S1 (by omega) (by omega) ⟨[], rfl, rfl, fun x hx => (List.not_mem_nil hx).elim, j1.mono (by omega), rfl⟩
  rw [List.nil_append] at c2
  subst c2
  exact ⟨xs, S2, c1, c3, c4, c5, c6⟩
theorem F23_ok (S : Store) (n k s : Nat) (t : Int) (ht : t = (s : Nat)) (hj : Jar n k S) (hk : k + 20 ≤ 1000000) (h1 : 1 ≤ s) (h5 : s ≤ 5) :
    ∃ (xs : List Int) (S' : Store), F23 [.ref n, .dat (.int t)] S = .ok (.dat (row xs)) S' ∧ xs.length = s ∧ Bd 100000000 xs ∧ Jar n (k + 6) S' ∧ S'.length = S.length := by
  obtain ⟨v, p, S1, e1, e2, j1, e3⟩ := F21_ok S n k [.int 3, .int 20, .int 100000000] hj (by omega) (by simp) (by simp)
  have hp : ∃ most : Int, p = .int most ∧ 0 ≤ most ∧ most ≤ 100000000 := by
    match v, e2 with
    | 0, e2 => exact ⟨3, (Option.some.inj e2).symm, by omega, by omega⟩
    | 1, e2 => exact ⟨20, (Option.some.inj e2).symm, by omega, by omega⟩
    | 2, e2 => exact ⟨100000000, (Option.some.inj e2).symm, by omega, by omega⟩
  obtain ⟨most, rfl, hm1, hm2⟩ := hp
  obtain ⟨xs, S2, c1, c3, c4, c5, c6⟩ := c19 S1 n (k + 1) s j1 (by omega) h5 t most hm1 hm2
  have c7 : S2.length = S.length := c6.trans e3
  refine ⟨xs, S2, ?_, c3, c4, c5.mono (by omega), c7⟩
  have r1 : rng1R (.dat (.int t)) S1 = .ok (.rng 0 s) S1 := by
    rw [rng1R_int S1 t (by omega) (by omega), ht, Int.toNat_natCast]
  clear ht
  rw [in23]
  have lv := leave_to S.length (row xs) S2 c7
  have hf : xs.length ≤ 16777216 := by omega
  simp (maxDischargeDepth := 3) only [xE_var, xE_lit, xE_gv, xE_bin, xE_neg, xE_not, xE_and, xE_or, xE_cmp, xE_rcmp, xE_chain, xE_ite, xE_call, xE_blt, xE_idx, xE_sl, xE_tup, xE_lst, xE_comp, xE_kset, xE_isi, xA_one, xA_cons, xO_one, xO_cons, xL_nil, xL_cons, xL_star, xT_nil, xT_one, xU_none, xU_some, xI_one, xI_enum, xI_rng1, xI_rng2, xI_zip2, xS_asg, xS_par, xS_seti, xS_expr, xS_ret, xS_retN, xS_iff, xS_for, xSs_nil, xSs_cons, bind_ok, sr_ok, ofP_some, ofO_some, getV_some, getG_some, negR_int, fitR_ok, compR_some, callR_some, boolR_some, selR_t, selR_f, forkR_t, forkR_f, optR_some, iR_int, rng1R_int, rng2R_int, zipR_some, nxR_some, setR_some, at_nx, at_rt, truth_bool, truth_list, truth_tuple, put_nm, put_tp, put_tp2, setSlots_nil, setSlots_cons, add_int, sub_int, add_tup, add_lst, mod_int, lt_int, le_int, gt_int, ge_int, eq_int, ne_int, eq_bool, ne_bool, is_bool, isNot_bool, is_intN, isNot_intN, cmpR_of _ (lt_int _ _ _), cmpR_of _ (le_int _ _ _), cmpR_of _ (gt_int _ _ _), cmpR_of _ (ge_int _ _ _), cmpR_of _ (eq_int _ _ _), cmpR_of _ (ne_int _ _ _), cmpR_of _ (eq_bool _ _ _), cmpR_of _ (ne_bool _ _ _), cmpR_of _ (is_bool _ _ _), cmpR_of _ (isNot_bool _ _ _), cmpR_of _ (is_intN _ _), cmpR_of _ (isNot_intN _ _), len_tup, len_lst, len_scr, abs_int, int_int, int_bool, min_ints, max_ints, tuple_lst, tuple_tup, list_tup, mkL_f, mkT_f, toDats_cons, toDats_nil, toDats_app, List.append_nil, Nat.reduceAdd, Nat.reduceLeDiff, decide_true, decide_false, Int.reduceEq, srcOf_tup, srcOf_lst, isaD_dat, below_dat, leave_rtS, leave_nxS, wipe_nil, wipe_cons, map_some', len_one, len_enum, len_zip, len_rng, len_vals, truthR, List.getElem?_cons_zero, List.getElem?_cons_succ, List.set_cons_zero, List.set_cons_succ, List.length_cons, List.length_nil, List.length_map, List.reverse_cons, List.reverse_nil, List.nil_append, List.cons_append, List.map_cons, List.map_nil, Nat.zero_add, Bool.not_true, Bool.not_false, idx_t0, idx_t1, idx_t2, idx_l0, seq_tup, eq_row, eq_ints, eq_nil, ne_nil, in_none_row, in_ints, toDats_dat, intsOf_int, Option.bind_some, cmpR_of _ (eq_row _ _ _), cmpR_of _ (eq_ints _ _ _), cmpR_of _ (eq_nil _ _), cmpR_of _ (ne_nil _ _), cmpR_of _ (in_none_row _ _), cmpR_of _ (in_ints _ _ _), cmpR_of _ (ne_nilnil _), b_d23, pow8, p23_21, e1, r1, c1, hf, lv]
end LW
end
section
namespace LW
open MP PySem
def mx (l : List Int) : Int := (maxI l).getD 0
theorem maxI_mx (l : List Int) (h : l ≠ []) : maxI l = some (mx l) := by
  obtain ⟨m, h1, _⟩ := maxI_some l h
  simp [mx, h1]
theorem mx_mem (l : List Int) (h : l ≠ []) : mx l ∈ l := by
  obtain ⟨m, h1, h2, _⟩ := maxI_some l h
  simpa [mx, h1] using h2
theorem le_mx (l : List Int) (x : Int) (h : x ∈ l) : x ≤ mx l := by
  obtain ⟨m, h1, _, h2⟩ := maxI_some l (List.ne_nil_of_mem h)
  simpa [mx, h1] using h2 x h
theorem mx_eq {l : List Int} {p : Int} (h : p ∈ l) (h2 : ∀ x ∈ l, x ≤ p) : mx l = p := by
  have h3 := le_mx l p h
  have h4 := h2 _ (mx_mem l (List.ne_nil_of_mem h))
  omega
theorem mn_eq {l : List Int} {p : Int} (h : p ∈ l) (h2 : ∀ x ∈ l, p ≤ x) : mn l = p := by
  have h3 := mn_le l p h
  have h4 := h2 _ (mn_mem l (List.ne_nil_of_mem h))
  omega
/-- the gap of two rows -/
def gp (xs ys : List Int) : Int := mx (df xs ys) - mn (df xs ys)
section
variable {xs ys zs : List Int} (hl : xs.length = ys.length) (h0 : 0 < xs.length)
include hl h0
theorem df_at {i : Nat} (h1 : i < xs.length) (h2 : i < ys.length) : ys[i] - xs[i] ∈ df xs ys := (mem_df xs ys _).mpr ⟨i, h1, h2, rfl⟩
theorem top_at : ∃ i, ∃ h1 : i < xs.length, ∃ h2 : i < ys.length, mx (df xs ys) = ys[i] - xs[i] := (mem_df xs ys _).mp (mx_mem _ (df_ne xs ys hl h0))
theorem low_at : ∃ i, ∃ h1 : i < xs.length, ∃ h2 : i < ys.length, mn (df xs ys) = ys[i] - xs[i] := (mem_df xs ys _).mp (mn_mem _ (df_ne xs ys hl h0))
theorem mn_le_mx : mn (df xs ys) ≤ mx (df xs ys) := le_mx _ _ (mn_mem _ (df_ne xs ys hl h0))
theorem gp_nonneg : 0 ≤ gp xs ys := by
  have := mn_le_mx hl h0
  unfold gp
  omega
theorem gp_ge {i j : Nat} (h1 : i < xs.length) (h2 : i < ys.length) (h3 : j < xs.length) (h4 : j < ys.length) : (ys[i] - xs[i]) - (ys[j] - xs[j]) ≤ gp xs ys := by
  have e1 := le_mx _ _ (df_at hl h0 h1 h2)
  have e2 := mn_le _ _ (df_at hl h0 h3 h4)
  unfold gp
  omega
theorem gp_le {c : Int} (h : ∀ i j (h1 : i < xs.length) (h2 : i < ys.length) (h3 : j < xs.length) (h4 : j < ys.length), (ys[i] - xs[i]) - (ys[j] - xs[j]) ≤ c) : gp xs ys ≤ c := by
  obtain ⟨i, h1, h2, e1⟩ := top_at hl h0
  obtain ⟨j, h3, h4, e2⟩ := low_at hl h0
  have := h i j h1 h2 h3 h4
  unfold gp
  omega
end
theorem gp_symm {xs ys : List Int} (hl : xs.length = ys.length) (h0 : 0 < xs.length) : gp ys xs = gp xs ys := by
  have a : gp ys xs ≤ gp xs ys := gp_le hl.symm (by omega) fun i j h1 h2 h3 h4 => by
    have := gp_ge hl h0 h4 h3 h2 h1
    omega
  have b : gp xs ys ≤ gp ys xs := gp_le hl h0 fun i j h1 h2 h3 h4 => by
    have := gp_ge hl.symm (by omega) h4 h3 h2 h1
    omega
  omega
theorem gp_tri {xs ys zs : List Int} (hl : xs.length = ys.length) (hz : xs.length = zs.length) (h0 : 0 < xs.length) : gp xs ys ≤ gp xs zs + gp zs ys := gp_le hl h0 fun i j h1 h2 h3 h4 => by
  have a := gp_ge hz h0 (i := i) (j := j) h1 (by omega) h3 (by omega)
  have b := gp_ge (hz.symm.trans hl) (by omega) (i := i) (j := j) (by omega) h2 (by omega) h4
  omega
theorem gp_congr {xs ys us vs : List Int} (hl : xs.length = ys.length) (hu : us.length = vs.length) (hxu : xs.length = us.length) (h0 : 0 < xs.length) (k : Int)
    (h : ∀ i (h1 : i < xs.length) (h2 : i < ys.length) (h3 : i < us.length) (h4 : i < vs.length), vs[i] - us[i] = ys[i] - xs[i] + k) : gp us vs = gp xs ys := by
  have a : gp us vs ≤ gp xs ys := gp_le hu (by omega) fun i j h1 h2 h3 h4 => by
    have e1 := h i (by omega) (by omega) h1 h2
    have e2 := h j (by omega) (by omega) h3 h4
    have := gp_ge hl h0 (i := i) (j := j) (by omega) (by omega) (by omega) (by omega)
    omega
  have b : gp xs ys ≤ gp us vs := gp_le hl h0 fun i j h1 h2 h3 h4 => by
    have e1 := h i h1 h2 (by omega) (by omega)
    have e2 := h j h3 h4 (by omega) (by omega)
    have := gp_ge hu (by omega) (i := i) (j := j) (by omega) (by omega) (by omega) (by omega)
    omega
  omega
theorem gp_shift (k : Int) {xs ys : List Int} (hl : xs.length = ys.length) (h0 : 0 < xs.length) : gp (xs.map fun v => v + k) ys = gp xs ys :=
  gp_congr hl (by simp [hl]) (by simp) h0 (-k) fun i h1 h2 h3 h4 => by
    rw [List.getElem_map]
    omega
theorem gp_add {xs ys zs : List Int} (hl : xs.length = ys.length) (hz : xs.length = zs.length) (h0 : 0 < xs.length) : gp (List.zipWith (fun a b => a + b) xs zs) (List.zipWith (fun a b => a + b) ys zs) = gp xs ys :=
  gp_congr hl (by simp [hl, ← hz]) (by simp [← hz]) h0 0 fun i h1 h2 h3 h4 => by
    simp only [List.getElem_zipWith]
    omega
section
variable {xs ys : List Int} (hl : xs.length = ys.length) (h0 : 0 < xs.length) (t : Int) (ht1 : mn (df xs ys) ≤ t) (ht2 : t ≤ mx (df xs ys))
include hl h0 ht1 ht2
theorem gp_join_first : gp xs (jn t 0 xs ys) = mx (df xs ys) - t := by
  have hj := len_jn t 0 xs ys hl
  have ne := df_ne xs (jn t 0 xs ys) hj.symm h0
  obtain ⟨i, h1, h2, e1⟩ := top_at hl h0
  obtain ⟨j, h3, h4, e2⟩ := low_at hl h0
  have at' : ∀ k (k1 : k < xs.length) (k2 : k < ys.length) (k3 : k < (jn t 0 xs ys).length), (jn t 0 xs ys)[k] - xs[k] = max t (ys[k] - xs[k]) := fun k k1 k2 k3 => by
    rw [get_jn t 0 xs ys k k1 k2]
    omega
  have a : mx (df xs (jn t 0 xs ys)) = mx (df xs ys) := by
    refine mx_eq ((mem_df _ _ _).mpr ⟨i, h1, by omega, ?_⟩) fun x hx => ?_
    · rw [at' i h1 h2 (by omega)]
      omega
    · obtain ⟨k, k1, k2, rfl⟩ := (mem_df _ _ _).mp hx
      rw [at' k k1 (by omega) k2]
      have := le_mx _ _ (df_at hl h0 k1 (by omega))
      omega
  have b : mn (df xs (jn t 0 xs ys)) = t := by
    refine mn_eq ((mem_df _ _ _).mpr ⟨j, h3, by omega, ?_⟩) fun x hx => ?_
    · rw [at' j h3 h4 (by omega)]
      omega
    · obtain ⟨k, k1, k2, rfl⟩ := (mem_df _ _ _).mp hx
      rw [at' k k1 (by omega) k2]
      omega
  unfold gp
  omega
theorem gp_join_second : gp ys (jn t 0 xs ys) = t - mn (df xs ys) := by
  have hj := len_jn t 0 xs ys hl
  obtain ⟨i, h1, h2, e1⟩ := top_at hl h0
  obtain ⟨j, h3, h4, e2⟩ := low_at hl h0
  have at' : ∀ k (k1 : k < xs.length) (k2 : k < ys.length) (k3 : k < (jn t 0 xs ys).length), (jn t 0 xs ys)[k] - ys[k] = max 0 (t - (ys[k] - xs[k])) := fun k k1 k2 k3 => by
    rw [get_jn t 0 xs ys k k1 k2]
    omega
  have a : mx (df ys (jn t 0 xs ys)) = t - mn (df xs ys) := by
    refine mx_eq ((mem_df _ _ _).mpr ⟨j, h4, by omega, ?_⟩) fun x hx => ?_
    · rw [at' j h3 h4 (by omega)]
      omega
    · obtain ⟨k, k1, k2, rfl⟩ := (mem_df _ _ _).mp hx
      rw [at' k (by omega) k1 k2]
      have := mn_le _ _ (df_at hl h0 (i := k) (by omega) k1)
      omega
  have b : mn (df ys (jn t 0 xs ys)) = 0 := by
    refine mn_eq ((mem_df _ _ _).mpr ⟨i, h2, by omega, ?_⟩) fun x hx => ?_
    · rw [at' i h1 h2 (by omega)]
      omega
    · obtain ⟨k, k1, k2, rfl⟩ := (mem_df _ _ _).mp hx
      rw [at' k (by omega) k1 k2]
      omega
  unfold gp
  omega
end
/-! ### the sorted differences -/
abbrev sd (xs ys : List Int) : List Int := sortI (dedI (df xs ys))
theorem mem_sd (xs ys : List Int) (v : Int) : v ∈ sd xs ys ↔ v ∈ df xs ys := by rw [mem_sortI, mem_dedI]
theorem sd_nodup (xs ys : List Int) : (sd xs ys).Nodup := ((MP.sortI_perm _).nodup_iff).mpr (MP.fold_addI _ [] (by simp)).1
theorem sd_ne {xs ys : List Int} (hl : xs.length = ys.length) (h0 : 0 < xs.length) : sd xs ys ≠ [] := by
  intro e
  have := (mem_sd xs ys _).mpr (mn_mem _ (df_ne xs ys hl h0))
  rw [e] at this
  cases this
theorem sd_len {xs ys : List Int} (hl : xs.length = ys.length) : (sd xs ys).length ≤ xs.length := by
  rw [(MP.sortI_perm _).length_eq]
  refine Nat.le_trans (len_dedI _) ?_
  rw [len_df xs ys hl]
  exact Nat.le_refl _
theorem sd_first {xs ys : List Int} (hl : xs.length = ys.length) (h0 : 0 < xs.length) : (sd xs ys)[0]? = some (mn (df xs ys)) := sort_first _ (df_ne xs ys hl h0)
theorem sorted_last (l : List Int) (hs : l.Pairwise (· ≤ ·)) (h : l ≠ []) : l[l.length - 1]? = some (mx l) := by
  have hlen : 0 < l.length := List.length_pos_iff.mpr h
  rw [List.getElem?_eq_getElem (by omega)]
  congr 1
  refine (mx_eq (List.getElem_mem _) fun x hx => ?_).symm
  obtain ⟨i, hi, rfl⟩ := List.mem_iff_getElem.mp hx
  by_cases e : i = l.length - 1
  · subst e
    exact Int.le_refl _
  · exact List.pairwise_iff_getElem.mp hs i (l.length - 1) hi (by omega) (by omega)
theorem sd_last {xs ys : List Int} (hl : xs.length = ys.length) (h0 : 0 < xs.length) : (sd xs ys)[(sd xs ys).length - 1]? = some (mx (df xs ys)) := by
  rw [sorted_last _ (sortI_sorted _) (sd_ne hl h0)]
  congr 1
  refine mx_eq ((mem_sd xs ys _).mpr (mx_mem _ (df_ne xs ys hl h0))) fun x hx => ?_
  exact le_mx _ _ ((mem_sd xs ys _).mp hx)
theorem shifts_iff {xs ys : List Int} (hl : xs.length = ys.length) (h0 : 0 < xs.length) : decide (gp xs ys = 0) = decide (((sd xs ys).length : Int) = 1) := by
  have hf := sd_first hl h0
  have hla := sd_last hl h0
  have hne := sd_ne hl h0
  have hnd := sd_nodup xs ys
  have hp : 0 < (sd xs ys).length := List.length_pos_iff.mpr hne
  rw [decide_eq_decide]
  unfold gp
  constructor
  · intro e
    rw [show mx (df xs ys) = mn (df xs ys) by omega, ← hf] at hla
    have h1 := List.getElem?_eq_some_iff.mp (hla.trans hf)
    have h2 := List.getElem?_eq_some_iff.mp hf
    by_cases k : (sd xs ys).length - 1 = 0
    · omega
    · have := List.pairwise_iff_getElem.mp hnd 0 ((sd xs ys).length - 1) hp (by omega) (by omega)
      exact absurd (h2.2.trans h1.2.symm) this
  · intro e
    rw [show (sd xs ys).length - 1 = 0 by omega, hf] at hla
    have := Option.some.inj hla
    omega
theorem corner_gp {xs ys : List Int} (hl : xs.length = ys.length) (h0 : 0 < xs.length) (us : List Int) (hu : us.length = xs.length) (d : Int) : gp us (corner xs ys d) = gp us (jn d 0 xs ys) := by
  have hj := len_jn d 0 xs ys hl
  refine gp_congr (by omega) (by simp [corner]; omega) rfl (by omega) (-((jn d 0 xs ys).headD 0)) fun i h1 h2 h3 h4 => ?_
  simp only [corner, List.getElem_map]
  omega
theorem corner_inj {xs ys : List Int} (hl : xs.length = ys.length) (h0 : 0 < xs.length) {d e : Int} (hd : d ∈ df xs ys) (he : e ∈ df xs ys) (h : corner xs ys d = corner xs ys e) : d = e := by
  have a := corner_gp hl h0 ys hl.symm d
  have b := corner_gp hl h0 ys hl.symm e
  rw [gp_join_second hl h0 d (mn_le _ _ hd) (le_mx _ _ hd)] at a
  rw [gp_join_second hl h0 e (mn_le _ _ he) (le_mx _ _ he), ← h] at b
  omega
theorem corners_len {xs ys : List Int} (hl : xs.length = ys.length) (h0 : 0 < xs.length) : (dedR ((sd xs ys).map (corner xs ys))).length = (sd xs ys).length := by
  have nd : ((sd xs ys).map (corner xs ys)).Nodup := by
    refine List.pairwise_map.mpr ((sd_nodup xs ys).imp_of_mem fun {a b} ha hb hab e => hab ?_)
    exact corner_inj hl h0 ((mem_sd xs ys a).mp ha) ((mem_sd xs ys b).mp hb) e
  obtain ⟨h1, h2⟩ := MP.fold_addR ((sd xs ys).map (corner xs ys)) [] (by simp)
  have p : (dedR ((sd xs ys).map (corner xs ys))).Perm ((sd xs ys).map (corner xs ys)) := (List.perm_ext_iff_of_nodup h1 nd).mpr fun v => by
    show v ∈ List.foldl addR [] _ ↔ _
    rw [h2]
    simp
  rw [p.length_eq, List.length_map]
/-! ### the lesser row -/
def lss (xs ys : List Int) : List Int := List.zipWith (fun x y => if y < x then y else x) xs ys
theorem len_lss {xs ys : List Int} (hl : xs.length = ys.length) : (lss xs ys).length = xs.length := by simp [lss, hl]
theorem sums (xs ys : List Int) (hl : xs.length = ys.length) : List.zipWith (fun a b => a + b) (lss xs ys) (jn 0 0 xs ys) = List.zipWith (fun a b => a + b) xs ys := by
  refine List.ext_getElem (by simp [lss, jn, hl]) fun i h1 h2 => ?_
  simp only [lss, jn, List.getElem_zipWith]
  split <;> split <;> omega
theorem lss_first {xs ys : List Int} (hl : xs.length = ys.length) (h0 : 0 < xs.length) : gp (lss xs ys) xs ≤ gp xs ys := gp_le (len_lss hl) (by rw [len_lss hl]; exact h0) fun i j h1 h2 h3 h4 => by
  have a := gp_ge hl h0 (i := j) (j := i) h4 (by omega) h2 (by omega)
  have b := gp_nonneg hl h0
  simp only [lss, List.getElem_zipWith]
  split <;> split <;> omega
theorem lss_second {xs ys : List Int} (hl : xs.length = ys.length) (h0 : 0 < xs.length) : gp (lss xs ys) ys ≤ gp xs ys := gp_le ((len_lss hl).trans hl) (by rw [len_lss hl]; exact h0) fun i j h1 h2 h3 h4 => by
  have a := gp_ge hl h0 (i := i) (j := j) (by omega) h2 (by omega) h4
  have b := gp_nonneg hl h0
  simp only [lss, List.getElem_zipWith]
  split <;> split <;> omega
/-! ### places -/
theorem find_int (m : Int) : ∀ (l : List Int) (k : Nat), m ∈ l → ∃ j, findIx (.int m) (l.map .int) k = some (k + j) ∧ j < l.length
  | [], _, h => by cases h
  | a :: r, k, h => by
    by_cases e : a = m
    · refine ⟨0, ?_, by simp⟩
      have e' : PyData.eqv (.int a) (.int m) = true := by simp [PyData.eqv, e]
      show (if PyData.eqv (.int a) (.int m) = true then some k else findIx (.int m) (r.map .int) (k + 1)) = _
      rw [e']
      rfl
    · have hr : m ∈ r := by
        rcases List.mem_cons.mp h with h | h
        · exact absurd h.symm e
        · exact h
      obtain ⟨j, h1, h2⟩ := find_int m r (k + 1) hr
      refine ⟨j + 1, ?_, by simp; omega⟩
      have e' : PyData.eqv (.int a) (.int m) = false := by simp [PyData.eqv, e]
      show (if PyData.eqv (.int a) (.int m) = true then some k else findIx (.int m) (r.map .int) (k + 1)) = _
      rw [e', h1]
      simp
      omega
end LW
end
section
namespace LW
open MP PySem
theorem comp_map {α : Type} {Φ : List Fn} {G : List PyData} {elt : CE} {ev : Ev} {S : Store} {i : Nat} (l : List α) (F g : α → PyData)
    (h : ∀ a ∈ l, evE Φ G elt (ev.set i (some (.dat (F a)))) S = .ok (.dat (g a)) S) (n : Nat) (hn : l.length = n) :
    compLoop (.one (.vals (l.map F))) (.nm i) (bodyT Φ G .nil) (bodyE Φ G elt) ev n 0 S = some ((l.map g).map .dat, S) := by
  subst hn
  obtain ⟨r, S', e, h1, h2⟩ := comp_inv (it := .one (.vals (l.map F))) (tg := .nm i) (test := bodyT Φ G .nil) (elt := bodyE Φ G elt) (ev := ev) (fun i acc S' => S' = S ∧ acc = ((l.take i).map g).map .dat) l.length
    (fun k acc S' hk hI => by
      obtain ⟨rfl, rfl⟩ := hI
      refine ⟨[.dat (F l[k])], ev.set i (some (.dat (F l[k]))), ?_, rfl, ?_⟩
      · simp [ItS.next, Src.at, Nat.le_of_lt hk, hk, nx1]
      · refine ⟨fun _ => ?_, fun e => by cases e⟩
        show W (evE Φ G elt _ _) _
        rw [h l[k] (List.getElem_mem hk)]
        refine ⟨rfl, ?_⟩
        rw [List.take_succ_eq_append_getElem hk, List.map_append, List.map_append]
        rfl)
    (fun acc S' _ => by simp [ItS.next, Src.at, nx1]) l.length 0 [] S (Nat.zero_le _) (by omega) ⟨rfl, rfl⟩
  subst h1
  rw [List.nil_append, List.take_length] at h2
  rw [e, h2]
theorem xE_meth (Φ : List Fn) (G : List PyData) (ev : Ev) (S : Store) (m : Mth) (o : CE) (es : CL) : evE Φ G (.meth m o es) ev S = (evE Φ G o ev S).bind fun x S1 => optR (getL S1 x) fun _ => (evL Φ G es ev S1).bind fun ds S2 => Res.ofP (methV m x ds S2) := by
  rw [evE]
  refine congrArg (Res.bind _) (funext fun x => funext fun S1 => ?_)
  cases getL S1 x <;> rfl
theorem xE_sset (Φ : List Fn) (G : List PyData) (ev : Ev) (S : Store) (q : KQ) (a : CE) : evE Φ G (.sset q a) ev S = (evE Φ G a ev S).bind fun x S1 => Res.ofP (ssetV q x S1) := rfl
section
variable (S : Store)
theorem getL_dat (l : List PyData) : getL S (.dat (.list l)) = some (l.map .dat) := rfl
theorem idx_end (l : List Int) (v : Int) (h0 : l ≠ []) (h : l[l.length - 1]? = some v) : idxV (.dat (.list (l.map .int))) (.dat (.int (-1))) S = some (.dat (.int v), S) := by
  have hp : 0 < l.length := List.length_pos_iff.mpr h0
  have hx : L2.ixN ((l.map PyData.int).map D.dat).length (-1) = some (l.length - 1) := by
    unfold L2.ixN
    rw [List.length_map, List.length_map, if_neg (by omega), if_pos (by omega)]
    congr 1
    omega
  have hg : ((l.map PyData.int).map D.dat)[l.length - 1]? = some (.dat (.int v)) := by
    rw [List.getElem?_map, List.getElem?_map, h]
    rfl
  show (match some ((l.map PyData.int).map D.dat), D.dat (.int (-1)) with
    | some l, .dat (.int i) => (L2.atI l i).map fun d => (d, S)
    | _, _ => none) = _
  show (L2.atI ((l.map PyData.int).map D.dat) (-1)).map (fun d => (d, S)) = _
  unfold L2.atI
  rw [hx, Option.bind_some, hg]
  rfl
theorem idx_zero (l : List Int) (v : Int) (h : l[0]? = some v) : idxV (.dat (.list (l.map .int))) (.dat (.int 0)) S = some (.dat (.int v), S) := idx_l S (l.map .int) 0 (.int v) (by rw [List.getElem?_map, h]; rfl)
theorem idx_l1 (a b : PyData) (l : List PyData) : idxV (.dat (.list (a :: b :: l))) (.dat (.int 1)) S = some (.dat b, S) := idx_l S (a :: b :: l) 1 b rfl
theorem in8 (a b : D) : F8 [a, b] S = leave S.length (evSs P8 GV b_d8 [some a, some b, none] S) := rfl
theorem in9 (a b : D) : F9 [a, b] S = leave S.length (evSs P9 GV b_d9 [some a, some b] S) := rfl
theorem in10 (a b : D) : F10 [a, b] S = leave S.length (evSs P10 GV b_d10 [some a, some b] S) := rfl
theorem in11 (a b : D) : F11 [a, b] S = leave S.length (evSs P11 GV b_d11 [some a, some b] S) := rfl
theorem in13 (a b c : D) : F13 [a, b, c] S = leave S.length (evSs P13 GV b_d13 [some a, some b, some c] S) := rfl
theorem in17 (a b : D) : F17 [a, b] S = leave S.length (evSs P17 GV b_d17 [some a, some b, none, none] S) := rfl
theorem in18 (a b : D) : F18 [a, b] S = leave S.length (evSs P18 GV b_d18 [some a, some b, none, none, none] S) := rfl
theorem in19 (a b : D) : F19 [a, b] S = leave S.length (evSs P19 GV b_d19 [some a, some b] S) := rfl
theorem in22 (a b c : D) : F22 [a, b, c] S = leave S.length (evSs P22 GV b_d22 [some a, some b, some c, none, none] S) := rfl
theorem in24 (a b : D) : F24 [a, b] S = leave S.length (evSs P24 GV b_d24 [some a, some b, none, none, none] S) := rfl
theorem p8_7 : P8[7]? = some F7 := rfl
theorem p9_6 : P9[6]? = some F6 := rfl
theorem p9_8 : P9[8]? = some F8 := rfl
theorem p10_6 : P10[6]? = some F6 := rfl
theorem p10_8 : P10[8]? = some F8 := rfl
theorem p11_6 : P11[6]? = some F6 := rfl
theorem p11_7 : P11[7]? = some F7 := rfl
theorem p13_6 : P13[6]? = some F6 := rfl
theorem p13_3 : P13[3]? = some F3 := rfl
theorem p13_12 : P13[12]? = some F12 := rfl
theorem p17_6 : P17[6]? = some F6 := rfl
theorem p18_15 : P18[15]? = some F15 := rfl
theorem p18_8 : P18[8]? = some F8 := rfl
theorem p19_6 : P19[6]? = some F6 := rfl
theorem p19_18 : P19[18]? = some F18 := rfl
theorem F8_ok (xs ys : List Int) (hl : xs.length = ys.length) (h0 : 0 < xs.length) (h5 : xs.length ≤ 5) : F8 [.dat (row xs), .dat (row ys)] S = .ok (.dat (.int (gp xs ys))) S := by
  rw [in8]
  have e1 := idx_end S (sd xs ys) _ (sd_ne hl h0) (sd_last hl h0)
  have e2 := idx_zero S (sd xs ys) _ (sd_first hl h0)
  simp (maxDischargeDepth := 3) only [xE_var, xE_lit, xE_gv, xE_bin, xE_neg, xE_not, xE_and, xE_or, xE_cmp, xE_rcmp, xE_chain, xE_ite, xE_call, xE_blt, xE_idx, xE_sl, xE_tup, xE_lst, xE_comp, xE_kset, xE_isi, xA_one, xA_cons, xO_one, xO_cons, xL_nil, xL_cons, xL_star, xT_nil, xT_one, xU_none, xU_some, xI_one, xI_enum, xI_rng1, xI_rng2, xI_zip2, xS_asg, xS_par, xS_seti, xS_expr, xS_ret, xS_retN, xS_iff, xS_for, xSs_nil, xSs_cons, bind_ok, sr_ok, ofP_some, ofO_some, getV_some, getG_some, negR_int, fitR_ok, compR_some, callR_some, boolR_some, selR_t, selR_f, forkR_t, forkR_f, optR_some, iR_int, rng1R_int, rng2R_int, zipR_some, nxR_some, setR_some, at_nx, at_rt, truth_bool, truth_list, truth_tuple, put_nm, put_tp, put_tp2, setSlots_nil, setSlots_cons, add_int, sub_int, add_tup, add_lst, mod_int, lt_int, le_int, gt_int, ge_int, eq_int, ne_int, eq_bool, ne_bool, is_bool, isNot_bool, is_intN, isNot_intN, cmpR_of _ (lt_int _ _ _), cmpR_of _ (le_int _ _ _), cmpR_of _ (gt_int _ _ _), cmpR_of _ (ge_int _ _ _), cmpR_of _ (eq_int _ _ _), cmpR_of _ (ne_int _ _ _), cmpR_of _ (eq_bool _ _ _), cmpR_of _ (ne_bool _ _ _), cmpR_of _ (is_bool _ _ _), cmpR_of _ (isNot_bool _ _ _), cmpR_of _ (is_intN _ _), cmpR_of _ (isNot_intN _ _), len_tup, len_lst, len_scr, abs_int, int_int, int_bool, min_ints, max_ints, tuple_lst, tuple_tup, list_tup, mkL_f, mkT_f, toDats_cons, toDats_nil, toDats_app, List.append_nil, Nat.reduceAdd, Nat.reduceLeDiff, decide_true, decide_false, Int.reduceEq, srcOf_tup, srcOf_lst, isaD_dat, below_dat, leave_rtS, leave_nxS, wipe_nil, wipe_cons, map_some', len_one, len_enum, len_zip, len_rng, len_vals, truthR, List.getElem?_cons_zero, List.getElem?_cons_succ, List.set_cons_zero, List.set_cons_succ, List.length_cons, List.length_nil, List.length_map, List.reverse_cons, List.reverse_nil, List.nil_append, List.cons_append, List.map_cons, List.map_nil, Nat.zero_add, Bool.not_true, Bool.not_false, idx_t0, idx_t1, idx_t2, idx_l0, seq_tup, eq_row, eq_ints, eq_nil, ne_nil, in_none_row, in_ints, toDats_dat, intsOf_int, Option.bind_some, cmpR_of _ (eq_row _ _ _), cmpR_of _ (eq_ints _ _ _), cmpR_of _ (eq_nil _ _), cmpR_of _ (ne_nil _ _), cmpR_of _ (in_none_row _ _), cmpR_of _ (in_ints _ _ _), cmpR_of _ (ne_nilnil _), b_d8, p8_7, F7_ok S xs ys hl h5, e1, e2]
  rfl
section
variable {n : Nat} {xs ys : List Int} (hx : Rw n xs) (hy : Rw n ys)
include hx hy
theorem F9_ok : F9 [.dat (row xs), .dat (row ys)] S = .ok (.dat (.int (gp xs ys))) S := by
  have l1 := hx.len
  have l2 := hy.len
  have l4 := hx.pos
  have l5 := hx.le
  rw [in9]
  simp (maxDischargeDepth := 3) only [xE_var, xE_lit, xE_gv, xE_bin, xE_neg, xE_not, xE_and, xE_or, xE_cmp, xE_rcmp, xE_chain, xE_ite, xE_call, xE_blt, xE_idx, xE_sl, xE_tup, xE_lst, xE_comp, xE_kset, xE_isi, xA_one, xA_cons, xO_one, xO_cons, xL_nil, xL_cons, xL_star, xT_nil, xT_one, xU_none, xU_some, xI_one, xI_enum, xI_rng1, xI_rng2, xI_zip2, xS_asg, xS_par, xS_seti, xS_expr, xS_ret, xS_retN, xS_iff, xS_for, xSs_nil, xSs_cons, bind_ok, sr_ok, ofP_some, ofO_some, getV_some, getG_some, negR_int, fitR_ok, compR_some, callR_some, boolR_some, selR_t, selR_f, forkR_t, forkR_f, optR_some, iR_int, rng1R_int, rng2R_int, zipR_some, nxR_some, setR_some, at_nx, at_rt, truth_bool, truth_list, truth_tuple, put_nm, put_tp, put_tp2, setSlots_nil, setSlots_cons, add_int, sub_int, add_tup, add_lst, mod_int, lt_int, le_int, gt_int, ge_int, eq_int, ne_int, eq_bool, ne_bool, is_bool, isNot_bool, is_intN, isNot_intN, cmpR_of _ (lt_int _ _ _), cmpR_of _ (le_int _ _ _), cmpR_of _ (gt_int _ _ _), cmpR_of _ (ge_int _ _ _), cmpR_of _ (eq_int _ _ _), cmpR_of _ (ne_int _ _ _), cmpR_of _ (eq_bool _ _ _), cmpR_of _ (ne_bool _ _ _), cmpR_of _ (is_bool _ _ _), cmpR_of _ (isNot_bool _ _ _), cmpR_of _ (is_intN _ _), cmpR_of _ (isNot_intN _ _), len_tup, len_lst, len_scr, abs_int, int_int, int_bool, min_ints, max_ints, tuple_lst, tuple_tup, list_tup, mkL_f, mkT_f, toDats_cons, toDats_nil, toDats_app, List.append_nil, Nat.reduceAdd, Nat.reduceLeDiff, decide_true, decide_false, Int.reduceEq, srcOf_tup, srcOf_lst, isaD_dat, below_dat, leave_rtS, leave_nxS, wipe_nil, wipe_cons, map_some', len_one, len_enum, len_zip, len_rng, len_vals, truthR, List.getElem?_cons_zero, List.getElem?_cons_succ, List.set_cons_zero, List.set_cons_succ, List.length_cons, List.length_nil, List.length_map, List.reverse_cons, List.reverse_nil, List.nil_append, List.cons_append, List.map_cons, List.map_nil, Nat.zero_add, Bool.not_true, Bool.not_false, idx_t0, idx_t1, idx_t2, idx_l0, seq_tup, eq_row, eq_ints, eq_nil, ne_nil, in_none_row, in_ints, toDats_dat, intsOf_int, Option.bind_some, cmpR_of _ (eq_row _ _ _), cmpR_of _ (eq_ints _ _ _), cmpR_of _ (eq_nil _ _), cmpR_of _ (ne_nil _ _), cmpR_of _ (in_none_row _ _), cmpR_of _ (in_ints _ _ _), cmpR_of _ (ne_nilnil _), b_d9, p9_6, p9_8, F6_2 S hx hy, F8_ok S xs ys (by omega) (by omega) (by omega)]
theorem F10_ok : F10 [.dat (row xs), .dat (row ys)] S = .ok (.dat (.bool (decide (gp xs ys = 0)))) S := by
  have l1 := hx.len
  have l2 := hy.len
  have l4 := hx.pos
  have l5 := hx.le
  rw [in10]
  simp (maxDischargeDepth := 3) only [xE_var, xE_lit, xE_gv, xE_bin, xE_neg, xE_not, xE_and, xE_or, xE_cmp, xE_rcmp, xE_chain, xE_ite, xE_call, xE_blt, xE_idx, xE_sl, xE_tup, xE_lst, xE_comp, xE_kset, xE_isi, xA_one, xA_cons, xO_one, xO_cons, xL_nil, xL_cons, xL_star, xT_nil, xT_one, xU_none, xU_some, xI_one, xI_enum, xI_rng1, xI_rng2, xI_zip2, xS_asg, xS_par, xS_seti, xS_expr, xS_ret, xS_retN, xS_iff, xS_for, xSs_nil, xSs_cons, bind_ok, sr_ok, ofP_some, ofO_some, getV_some, getG_some, negR_int, fitR_ok, compR_some, callR_some, boolR_some, selR_t, selR_f, forkR_t, forkR_f, optR_some, iR_int, rng1R_int, rng2R_int, zipR_some, nxR_some, setR_some, at_nx, at_rt, truth_bool, truth_list, truth_tuple, put_nm, put_tp, put_tp2, setSlots_nil, setSlots_cons, add_int, sub_int, add_tup, add_lst, mod_int, lt_int, le_int, gt_int, ge_int, eq_int, ne_int, eq_bool, ne_bool, is_bool, isNot_bool, is_intN, isNot_intN, cmpR_of _ (lt_int _ _ _), cmpR_of _ (le_int _ _ _), cmpR_of _ (gt_int _ _ _), cmpR_of _ (ge_int _ _ _), cmpR_of _ (eq_int _ _ _), cmpR_of _ (ne_int _ _ _), cmpR_of _ (eq_bool _ _ _), cmpR_of _ (ne_bool _ _ _), cmpR_of _ (is_bool _ _ _), cmpR_of _ (isNot_bool _ _ _), cmpR_of _ (is_intN _ _), cmpR_of _ (isNot_intN _ _), len_tup, len_lst, len_scr, abs_int, int_int, int_bool, min_ints, max_ints, tuple_lst, tuple_tup, list_tup, mkL_f, mkT_f, toDats_cons, toDats_nil, toDats_app, List.append_nil, Nat.reduceAdd, Nat.reduceLeDiff, decide_true, decide_false, Int.reduceEq, srcOf_tup, srcOf_lst, isaD_dat, below_dat, leave_rtS, leave_nxS, wipe_nil, wipe_cons, map_some', len_one, len_enum, len_zip, len_rng, len_vals, truthR, List.getElem?_cons_zero, List.getElem?_cons_succ, List.set_cons_zero, List.set_cons_succ, List.length_cons, List.length_nil, List.length_map, List.reverse_cons, List.reverse_nil, List.nil_append, List.cons_append, List.map_cons, List.map_nil, Nat.zero_add, Bool.not_true, Bool.not_false, idx_t0, idx_t1, idx_t2, idx_l0, seq_tup, eq_row, eq_ints, eq_nil, ne_nil, in_none_row, in_ints, toDats_dat, intsOf_int, Option.bind_some, cmpR_of _ (eq_row _ _ _), cmpR_of _ (eq_ints _ _ _), cmpR_of _ (eq_nil _ _), cmpR_of _ (ne_nil _ _), cmpR_of _ (in_none_row _ _), cmpR_of _ (in_ints _ _ _), cmpR_of _ (ne_nilnil _), b_d10, p10_6, p10_8, F6_2 S hx hy, F8_ok S xs ys (by omega) (by omega) (by omega)]
theorem F11_ok : F11 [.dat (row xs), .dat (row ys)] S = .ok (.dat (row (sd xs ys))) S := by
  have l1 := hx.len
  have l2 := hy.len
  have l5 := hx.le
  rw [in11]
  simp (maxDischargeDepth := 3) only [xE_var, xE_lit, xE_gv, xE_bin, xE_neg, xE_not, xE_and, xE_or, xE_cmp, xE_rcmp, xE_chain, xE_ite, xE_call, xE_blt, xE_idx, xE_sl, xE_tup, xE_lst, xE_comp, xE_kset, xE_isi, xA_one, xA_cons, xO_one, xO_cons, xL_nil, xL_cons, xL_star, xT_nil, xT_one, xU_none, xU_some, xI_one, xI_enum, xI_rng1, xI_rng2, xI_zip2, xS_asg, xS_par, xS_seti, xS_expr, xS_ret, xS_retN, xS_iff, xS_for, xSs_nil, xSs_cons, bind_ok, sr_ok, ofP_some, ofO_some, getV_some, getG_some, negR_int, fitR_ok, compR_some, callR_some, boolR_some, selR_t, selR_f, forkR_t, forkR_f, optR_some, iR_int, rng1R_int, rng2R_int, zipR_some, nxR_some, setR_some, at_nx, at_rt, truth_bool, truth_list, truth_tuple, put_nm, put_tp, put_tp2, setSlots_nil, setSlots_cons, add_int, sub_int, add_tup, add_lst, mod_int, lt_int, le_int, gt_int, ge_int, eq_int, ne_int, eq_bool, ne_bool, is_bool, isNot_bool, is_intN, isNot_intN, cmpR_of _ (lt_int _ _ _), cmpR_of _ (le_int _ _ _), cmpR_of _ (gt_int _ _ _), cmpR_of _ (ge_int _ _ _), cmpR_of _ (eq_int _ _ _), cmpR_of _ (ne_int _ _ _), cmpR_of _ (eq_bool _ _ _), cmpR_of _ (ne_bool _ _ _), cmpR_of _ (is_bool _ _ _), cmpR_of _ (isNot_bool _ _ _), cmpR_of _ (is_intN _ _), cmpR_of _ (isNot_intN _ _), len_tup, len_lst, len_scr, abs_int, int_int, int_bool, min_ints, max_ints, tuple_lst, tuple_tup, list_tup, mkL_f, mkT_f, toDats_cons, toDats_nil, toDats_app, List.append_nil, Nat.reduceAdd, Nat.reduceLeDiff, decide_true, decide_false, Int.reduceEq, srcOf_tup, srcOf_lst, isaD_dat, below_dat, leave_rtS, leave_nxS, wipe_nil, wipe_cons, map_some', len_one, len_enum, len_zip, len_rng, len_vals, truthR, List.getElem?_cons_zero, List.getElem?_cons_succ, List.set_cons_zero, List.set_cons_succ, List.length_cons, List.length_nil, List.length_map, List.reverse_cons, List.reverse_nil, List.nil_append, List.cons_append, List.map_cons, List.map_nil, Nat.zero_add, Bool.not_true, Bool.not_false, idx_t0, idx_t1, idx_t2, idx_l0, seq_tup, eq_row, eq_ints, eq_nil, ne_nil, in_none_row, in_ints, toDats_dat, intsOf_int, Option.bind_some, cmpR_of _ (eq_row _ _ _), cmpR_of _ (eq_ints _ _ _), cmpR_of _ (eq_nil _ _), cmpR_of _ (ne_nil _ _), cmpR_of _ (in_none_row _ _), cmpR_of _ (in_ints _ _ _), cmpR_of _ (ne_nilnil _), b_d11, p11_6, p11_7, F6_2 S hx hy, F7_ok S xs ys (by omega) (by omega)]
theorem F13_ok (t : Int) (h1 : -1000000000 ≤ t) (h2 : t ≤ 1000000000) : F13 [.dat (row xs), .dat (row ys), .dat (.int t)] S = .ok (.dat (row (jn t 0 xs ys))) S := by
  have l1 := hx.len
  have l2 := hy.len
  have l5 := hx.le
  rw [in13]
  simp (maxDischargeDepth := 3) only [xE_var, xE_lit, xE_gv, xE_bin, xE_neg, xE_not, xE_and, xE_or, xE_cmp, xE_rcmp, xE_chain, xE_ite, xE_call, xE_blt, xE_idx, xE_sl, xE_tup, xE_lst, xE_comp, xE_kset, xE_isi, xA_one, xA_cons, xO_one, xO_cons, xL_nil, xL_cons, xL_star, xT_nil, xT_one, xU_none, xU_some, xI_one, xI_enum, xI_rng1, xI_rng2, xI_zip2, xS_asg, xS_par, xS_seti, xS_expr, xS_ret, xS_retN, xS_iff, xS_for, xSs_nil, xSs_cons, bind_ok, sr_ok, ofP_some, ofO_some, getV_some, getG_some, negR_int, fitR_ok, compR_some, callR_some, boolR_some, selR_t, selR_f, forkR_t, forkR_f, optR_some, iR_int, rng1R_int, rng2R_int, zipR_some, nxR_some, setR_some, at_nx, at_rt, truth_bool, truth_list, truth_tuple, put_nm, put_tp, put_tp2, setSlots_nil, setSlots_cons, add_int, sub_int, add_tup, add_lst, mod_int, lt_int, le_int, gt_int, ge_int, eq_int, ne_int, eq_bool, ne_bool, is_bool, isNot_bool, is_intN, isNot_intN, cmpR_of _ (lt_int _ _ _), cmpR_of _ (le_int _ _ _), cmpR_of _ (gt_int _ _ _), cmpR_of _ (ge_int _ _ _), cmpR_of _ (eq_int _ _ _), cmpR_of _ (ne_int _ _ _), cmpR_of _ (eq_bool _ _ _), cmpR_of _ (ne_bool _ _ _), cmpR_of _ (is_bool _ _ _), cmpR_of _ (isNot_bool _ _ _), cmpR_of _ (is_intN _ _), cmpR_of _ (isNot_intN _ _), len_tup, len_lst, len_scr, abs_int, int_int, int_bool, min_ints, max_ints, tuple_lst, tuple_tup, list_tup, mkL_f, mkT_f, toDats_cons, toDats_nil, toDats_app, List.append_nil, Nat.reduceAdd, Nat.reduceLeDiff, decide_true, decide_false, Int.reduceEq, srcOf_tup, srcOf_lst, isaD_dat, below_dat, leave_rtS, leave_nxS, wipe_nil, wipe_cons, map_some', len_one, len_enum, len_zip, len_rng, len_vals, truthR, List.getElem?_cons_zero, List.getElem?_cons_succ, List.set_cons_zero, List.set_cons_succ, List.length_cons, List.length_nil, List.length_map, List.reverse_cons, List.reverse_nil, List.nil_append, List.cons_append, List.map_cons, List.map_nil, Nat.zero_add, Bool.not_true, Bool.not_false, idx_t0, idx_t1, idx_t2, idx_l0, seq_tup, eq_row, eq_ints, eq_nil, ne_nil, in_none_row, in_ints, toDats_dat, intsOf_int, Option.bind_some, cmpR_of _ (eq_row _ _ _), cmpR_of _ (eq_ints _ _ _), cmpR_of _ (eq_nil _ _), cmpR_of _ (ne_nil _ _), cmpR_of _ (in_none_row _ _), cmpR_of _ (in_ints _ _ _), cmpR_of _ (ne_nilnil _), b_d13, p13_6, p13_3, p13_12, g1, F6_2 S hx hy, F3_in S t (-1000000000) 1000000000 h1 h2 (by omega) (by omega), F12_ok S xs ys t (by omega) (by omega)]
theorem F17_ok : F17 [.dat (row xs), .dat (row ys)] S = .ok (.dat (row (lss xs ys))) S := by
  have l1 := hx.len
  have l2 := hy.len
  have l5 := hx.le
  rw [in17]
  have c := comp_zi (Φ := P17) (G := GV) (S := S) (i := 2) (j := 3) (ev := [some (.dat (row xs)), some (.dat (row ys)), none, none]) (elt := .blt .min (.cons (.var 2) (.cons (.var 3) .nil))) xs ys (by omega) (fun x y => if y < x then y else x) (fun x y => by simp (maxDischargeDepth := 3) only [xE_var, xE_lit, xE_gv, xE_bin, xE_neg, xE_not, xE_and, xE_or, xE_cmp, xE_rcmp, xE_chain, xE_ite, xE_call, xE_blt, xE_idx, xE_sl, xE_tup, xE_lst, xE_comp, xE_kset, xE_isi, xA_one, xA_cons, xO_one, xO_cons, xL_nil, xL_cons, xL_star, xT_nil, xT_one, xU_none, xU_some, xI_one, xI_enum, xI_rng1, xI_rng2, xI_zip2, xS_asg, xS_par, xS_seti, xS_expr, xS_ret, xS_retN, xS_iff, xS_for, xSs_nil, xSs_cons, bind_ok, sr_ok, ofP_some, ofO_some, getV_some, getG_some, negR_int, fitR_ok, compR_some, callR_some, boolR_some, selR_t, selR_f, forkR_t, forkR_f, optR_some, iR_int, rng1R_int, rng2R_int, zipR_some, nxR_some, setR_some, at_nx, at_rt, truth_bool, truth_list, truth_tuple, put_nm, put_tp, put_tp2, setSlots_nil, setSlots_cons, add_int, sub_int, add_tup, add_lst, mod_int, lt_int, le_int, gt_int, ge_int, eq_int, ne_int, eq_bool, ne_bool, is_bool, isNot_bool, is_intN, isNot_intN, cmpR_of _ (lt_int _ _ _), cmpR_of _ (le_int _ _ _), cmpR_of _ (gt_int _ _ _), cmpR_of _ (ge_int _ _ _), cmpR_of _ (eq_int _ _ _), cmpR_of _ (ne_int _ _ _), cmpR_of _ (eq_bool _ _ _), cmpR_of _ (ne_bool _ _ _), cmpR_of _ (is_bool _ _ _), cmpR_of _ (isNot_bool _ _ _), cmpR_of _ (is_intN _ _), cmpR_of _ (isNot_intN _ _), len_tup, len_lst, len_scr, abs_int, int_int, int_bool, min_ints, max_ints, tuple_lst, tuple_tup, list_tup, mkL_f, mkT_f, toDats_cons, toDats_nil, toDats_app, List.append_nil, Nat.reduceAdd, Nat.reduceLeDiff, decide_true, decide_false, Int.reduceEq, srcOf_tup, srcOf_lst, isaD_dat, below_dat, leave_rtS, leave_nxS, wipe_nil, wipe_cons, map_some', len_one, len_enum, len_zip, len_rng, len_vals, truthR, List.getElem?_cons_zero, List.getElem?_cons_succ, List.set_cons_zero, List.set_cons_succ, List.length_cons, List.length_nil, List.length_map, List.reverse_cons, List.reverse_nil, List.nil_append, List.cons_append, List.map_cons, List.map_nil, Nat.zero_add, Bool.not_true, Bool.not_false, idx_t0, idx_t1, idx_t2, idx_l0, seq_tup, eq_row, eq_ints, eq_nil, ne_nil, in_none_row, in_ints, toDats_dat, intsOf_int, Option.bind_some, cmpR_of _ (eq_row _ _ _), cmpR_of _ (eq_ints _ _ _), cmpR_of _ (eq_nil _ _), cmpR_of _ (ne_nil _ _), cmpR_of _ (in_none_row _ _), cmpR_of _ (in_ints _ _ _), cmpR_of _ (ne_nilnil _)])
  have hd : (List.zipWith (fun x y : Int => if y < x then y else x) xs ys).length ≤ 16777216 := by simp; omega
  simp (maxDischargeDepth := 3) only [xE_var, xE_lit, xE_gv, xE_bin, xE_neg, xE_not, xE_and, xE_or, xE_cmp, xE_rcmp, xE_chain, xE_ite, xE_call, xE_blt, xE_idx, xE_sl, xE_tup, xE_lst, xE_comp, xE_kset, xE_isi, xA_one, xA_cons, xO_one, xO_cons, xL_nil, xL_cons, xL_star, xT_nil, xT_one, xU_none, xU_some, xI_one, xI_enum, xI_rng1, xI_rng2, xI_zip2, xS_asg, xS_par, xS_seti, xS_expr, xS_ret, xS_retN, xS_iff, xS_for, xSs_nil, xSs_cons, bind_ok, sr_ok, ofP_some, ofO_some, getV_some, getG_some, negR_int, fitR_ok, compR_some, callR_some, boolR_some, selR_t, selR_f, forkR_t, forkR_f, optR_some, iR_int, rng1R_int, rng2R_int, zipR_some, nxR_some, setR_some, at_nx, at_rt, truth_bool, truth_list, truth_tuple, put_nm, put_tp, put_tp2, setSlots_nil, setSlots_cons, add_int, sub_int, add_tup, add_lst, mod_int, lt_int, le_int, gt_int, ge_int, eq_int, ne_int, eq_bool, ne_bool, is_bool, isNot_bool, is_intN, isNot_intN, cmpR_of _ (lt_int _ _ _), cmpR_of _ (le_int _ _ _), cmpR_of _ (gt_int _ _ _), cmpR_of _ (ge_int _ _ _), cmpR_of _ (eq_int _ _ _), cmpR_of _ (ne_int _ _ _), cmpR_of _ (eq_bool _ _ _), cmpR_of _ (ne_bool _ _ _), cmpR_of _ (is_bool _ _ _), cmpR_of _ (isNot_bool _ _ _), cmpR_of _ (is_intN _ _), cmpR_of _ (isNot_intN _ _), len_tup, len_lst, len_scr, abs_int, int_int, int_bool, min_ints, max_ints, tuple_lst, tuple_tup, list_tup, mkL_f, mkT_f, toDats_cons, toDats_nil, toDats_app, List.append_nil, Nat.reduceAdd, Nat.reduceLeDiff, decide_true, decide_false, Int.reduceEq, srcOf_tup, srcOf_lst, isaD_dat, below_dat, leave_rtS, leave_nxS, wipe_nil, wipe_cons, map_some', len_one, len_enum, len_zip, len_rng, len_vals, truthR, List.getElem?_cons_zero, List.getElem?_cons_succ, List.set_cons_zero, List.set_cons_succ, List.length_cons, List.length_nil, List.length_map, List.reverse_cons, List.reverse_nil, List.nil_append, List.cons_append, List.map_cons, List.map_nil, Nat.zero_add, Bool.not_true, Bool.not_false, idx_t0, idx_t1, idx_t2, idx_l0, seq_tup, eq_row, eq_ints, eq_nil, ne_nil, in_none_row, in_ints, toDats_dat, intsOf_int, Option.bind_some, cmpR_of _ (eq_row _ _ _), cmpR_of _ (eq_ints _ _ _), cmpR_of _ (eq_nil _ _), cmpR_of _ (ne_nil _ _), cmpR_of _ (in_none_row _ _), cmpR_of _ (in_ints _ _ _), cmpR_of _ (ne_nilnil _), b_d17, p17_6, F6_2 S hx hy, c, hd]
  rfl
end
theorem F22_ok (xs ys : List Int) (a : Int) (hl : xs.length = ys.length) (hf : xs.length ≤ 5) : F22 [.dat (row xs), .dat (row ys), .dat (.int a)] S = .ok (.dat (row (jn a 0 xs ys))) S := by
  rw [in22]
  have c := comp_zi (Φ := P22) (G := GV) (S := S) (i := 3) (j := 4) (ev := [some (.dat (row xs)), some (.dat (row ys)), some (.dat (.int a)), none, none]) (elt := .blt .max (.cons (.bin .add (.var 3) (.var 2)) (.cons (.var 4) .nil))) xs ys hl (fun x y => if y > x + a then y else x + a) (fun x y => by simp (maxDischargeDepth := 3) only [xE_var, xE_lit, xE_gv, xE_bin, xE_neg, xE_not, xE_and, xE_or, xE_cmp, xE_rcmp, xE_chain, xE_ite, xE_call, xE_blt, xE_idx, xE_sl, xE_tup, xE_lst, xE_comp, xE_kset, xE_isi, xA_one, xA_cons, xO_one, xO_cons, xL_nil, xL_cons, xL_star, xT_nil, xT_one, xU_none, xU_some, xI_one, xI_enum, xI_rng1, xI_rng2, xI_zip2, xS_asg, xS_par, xS_seti, xS_expr, xS_ret, xS_retN, xS_iff, xS_for, xSs_nil, xSs_cons, bind_ok, sr_ok, ofP_some, ofO_some, getV_some, getG_some, negR_int, fitR_ok, compR_some, callR_some, boolR_some, selR_t, selR_f, forkR_t, forkR_f, optR_some, iR_int, rng1R_int, rng2R_int, zipR_some, nxR_some, setR_some, at_nx, at_rt, truth_bool, truth_list, truth_tuple, put_nm, put_tp, put_tp2, setSlots_nil, setSlots_cons, add_int, sub_int, add_tup, add_lst, mod_int, lt_int, le_int, gt_int, ge_int, eq_int, ne_int, eq_bool, ne_bool, is_bool, isNot_bool, is_intN, isNot_intN, cmpR_of _ (lt_int _ _ _), cmpR_of _ (le_int _ _ _), cmpR_of _ (gt_int _ _ _), cmpR_of _ (ge_int _ _ _), cmpR_of _ (eq_int _ _ _), cmpR_of _ (ne_int _ _ _), cmpR_of _ (eq_bool _ _ _), cmpR_of _ (ne_bool _ _ _), cmpR_of _ (is_bool _ _ _), cmpR_of _ (isNot_bool _ _ _), cmpR_of _ (is_intN _ _), cmpR_of _ (isNot_intN _ _), len_tup, len_lst, len_scr, abs_int, int_int, int_bool, min_ints, max_ints, tuple_lst, tuple_tup, list_tup, mkL_f, mkT_f, toDats_cons, toDats_nil, toDats_app, List.append_nil, Nat.reduceAdd, Nat.reduceLeDiff, decide_true, decide_false, Int.reduceEq, srcOf_tup, srcOf_lst, isaD_dat, below_dat, leave_rtS, leave_nxS, wipe_nil, wipe_cons, map_some', len_one, len_enum, len_zip, len_rng, len_vals, truthR, List.getElem?_cons_zero, List.getElem?_cons_succ, List.set_cons_zero, List.set_cons_succ, List.length_cons, List.length_nil, List.length_map, List.reverse_cons, List.reverse_nil, List.nil_append, List.cons_append, List.map_cons, List.map_nil, Nat.zero_add, Bool.not_true, Bool.not_false, idx_t0, idx_t1, idx_t2, idx_l0, seq_tup, eq_row, eq_ints, eq_nil, ne_nil, in_none_row, in_ints, toDats_dat, intsOf_int, Option.bind_some, cmpR_of _ (eq_row _ _ _), cmpR_of _ (eq_ints _ _ _), cmpR_of _ (eq_nil _ _), cmpR_of _ (ne_nil _ _), cmpR_of _ (in_none_row _ _), cmpR_of _ (in_ints _ _ _), cmpR_of _ (ne_nilnil _)])
  have hd2 : (List.zipWith (fun x y => if y > x + a then y else x + a) xs ys).length ≤ 16777216 := by simp; omega
  have e : List.zipWith (fun x y => if y > x + a then y else x + a) xs ys = jn a 0 xs ys := by simp [jn]
  simp (maxDischargeDepth := 3) only [xE_var, xE_lit, xE_gv, xE_bin, xE_neg, xE_not, xE_and, xE_or, xE_cmp, xE_rcmp, xE_chain, xE_ite, xE_call, xE_blt, xE_idx, xE_sl, xE_tup, xE_lst, xE_comp, xE_kset, xE_isi, xA_one, xA_cons, xO_one, xO_cons, xL_nil, xL_cons, xL_star, xT_nil, xT_one, xU_none, xU_some, xI_one, xI_enum, xI_rng1, xI_rng2, xI_zip2, xS_asg, xS_par, xS_seti, xS_expr, xS_ret, xS_retN, xS_iff, xS_for, xSs_nil, xSs_cons, bind_ok, sr_ok, ofP_some, ofO_some, getV_some, getG_some, negR_int, fitR_ok, compR_some, callR_some, boolR_some, selR_t, selR_f, forkR_t, forkR_f, optR_some, iR_int, rng1R_int, rng2R_int, zipR_some, nxR_some, setR_some, at_nx, at_rt, truth_bool, truth_list, truth_tuple, put_nm, put_tp, put_tp2, setSlots_nil, setSlots_cons, add_int, sub_int, add_tup, add_lst, mod_int, lt_int, le_int, gt_int, ge_int, eq_int, ne_int, eq_bool, ne_bool, is_bool, isNot_bool, is_intN, isNot_intN, cmpR_of _ (lt_int _ _ _), cmpR_of _ (le_int _ _ _), cmpR_of _ (gt_int _ _ _), cmpR_of _ (ge_int _ _ _), cmpR_of _ (eq_int _ _ _), cmpR_of _ (ne_int _ _ _), cmpR_of _ (eq_bool _ _ _), cmpR_of _ (ne_bool _ _ _), cmpR_of _ (is_bool _ _ _), cmpR_of _ (isNot_bool _ _ _), cmpR_of _ (is_intN _ _), cmpR_of _ (isNot_intN _ _), len_tup, len_lst, len_scr, abs_int, int_int, int_bool, min_ints, max_ints, tuple_lst, tuple_tup, list_tup, mkL_f, mkT_f, toDats_cons, toDats_nil, toDats_app, List.append_nil, Nat.reduceAdd, Nat.reduceLeDiff, decide_true, decide_false, Int.reduceEq, srcOf_tup, srcOf_lst, isaD_dat, below_dat, leave_rtS, leave_nxS, wipe_nil, wipe_cons, map_some', len_one, len_enum, len_zip, len_rng, len_vals, truthR, List.getElem?_cons_zero, List.getElem?_cons_succ, List.set_cons_zero, List.set_cons_succ, List.length_cons, List.length_nil, List.length_map, List.reverse_cons, List.reverse_nil, List.nil_append, List.cons_append, List.map_cons, List.map_nil, Nat.zero_add, Bool.not_true, Bool.not_false, idx_t0, idx_t1, idx_t2, idx_l0, seq_tup, eq_row, eq_ints, eq_nil, ne_nil, in_none_row, in_ints, toDats_dat, intsOf_int, Option.bind_some, cmpR_of _ (eq_row _ _ _), cmpR_of _ (eq_ints _ _ _), cmpR_of _ (eq_nil _ _), cmpR_of _ (ne_nil _ _), cmpR_of _ (in_none_row _ _), cmpR_of _ (in_ints _ _ _), cmpR_of _ (ne_nilnil _), b_d22, c, hd2]
  rw [e]
theorem F24_ok (xs ys : List Int) (hl : xs.length = ys.length) (h0 : 0 < xs.length) (h5 : xs.length ≤ 5) : F24 [.dat (row xs), .dat (row ys)] S = .ok (.dat (.int (gp xs ys))) S := by
  rw [in24]
  have c := comp_zi (Φ := P24) (G := GV) (S := S) (i := 3) (j := 4) (ev := [some (.dat (row xs)), some (.dat (row ys)), none, none, none]) (elt := .bin .sub (.var 4) (.var 3)) xs ys hl (fun x y => y - x) (fun x y => by simp (maxDischargeDepth := 3) only [xE_var, xE_lit, xE_gv, xE_bin, xE_neg, xE_not, xE_and, xE_or, xE_cmp, xE_rcmp, xE_chain, xE_ite, xE_call, xE_blt, xE_idx, xE_sl, xE_tup, xE_lst, xE_comp, xE_kset, xE_isi, xA_one, xA_cons, xO_one, xO_cons, xL_nil, xL_cons, xL_star, xT_nil, xT_one, xU_none, xU_some, xI_one, xI_enum, xI_rng1, xI_rng2, xI_zip2, xS_asg, xS_par, xS_seti, xS_expr, xS_ret, xS_retN, xS_iff, xS_for, xSs_nil, xSs_cons, bind_ok, sr_ok, ofP_some, ofO_some, getV_some, getG_some, negR_int, fitR_ok, compR_some, callR_some, boolR_some, selR_t, selR_f, forkR_t, forkR_f, optR_some, iR_int, rng1R_int, rng2R_int, zipR_some, nxR_some, setR_some, at_nx, at_rt, truth_bool, truth_list, truth_tuple, put_nm, put_tp, put_tp2, setSlots_nil, setSlots_cons, add_int, sub_int, add_tup, add_lst, mod_int, lt_int, le_int, gt_int, ge_int, eq_int, ne_int, eq_bool, ne_bool, is_bool, isNot_bool, is_intN, isNot_intN, cmpR_of _ (lt_int _ _ _), cmpR_of _ (le_int _ _ _), cmpR_of _ (gt_int _ _ _), cmpR_of _ (ge_int _ _ _), cmpR_of _ (eq_int _ _ _), cmpR_of _ (ne_int _ _ _), cmpR_of _ (eq_bool _ _ _), cmpR_of _ (ne_bool _ _ _), cmpR_of _ (is_bool _ _ _), cmpR_of _ (isNot_bool _ _ _), cmpR_of _ (is_intN _ _), cmpR_of _ (isNot_intN _ _), len_tup, len_lst, len_scr, abs_int, int_int, int_bool, min_ints, max_ints, tuple_lst, tuple_tup, list_tup, mkL_f, mkT_f, toDats_cons, toDats_nil, toDats_app, List.append_nil, Nat.reduceAdd, Nat.reduceLeDiff, decide_true, decide_false, Int.reduceEq, srcOf_tup, srcOf_lst, isaD_dat, below_dat, leave_rtS, leave_nxS, wipe_nil, wipe_cons, map_some', len_one, len_enum, len_zip, len_rng, len_vals, truthR, List.getElem?_cons_zero, List.getElem?_cons_succ, List.set_cons_zero, List.set_cons_succ, List.length_cons, List.length_nil, List.length_map, List.reverse_cons, List.reverse_nil, List.nil_append, List.cons_append, List.map_cons, List.map_nil, Nat.zero_add, Bool.not_true, Bool.not_false, idx_t0, idx_t1, idx_t2, idx_l0, seq_tup, eq_row, eq_ints, eq_nil, ne_nil, in_none_row, in_ints, toDats_dat, intsOf_int, Option.bind_some, cmpR_of _ (eq_row _ _ _), cmpR_of _ (eq_ints _ _ _), cmpR_of _ (eq_nil _ _), cmpR_of _ (ne_nil _ _), cmpR_of _ (in_none_row _ _), cmpR_of _ (in_ints _ _ _), cmpR_of _ (ne_nilnil _)])
  have hd : (List.zipWith (fun x y : Int => y - x) xs ys).length ≤ 16777216 := by simp; omega
  have m1 : bltV .max [.dat (.list ((List.zipWith (fun x y : Int => y - x) xs ys).map .int))] S = some (.dat (.int (mx (df xs ys))), S) := max_lst S _ _ (maxI_mx (df xs ys) (df_ne xs ys hl h0))
  have m2 : bltV .min [.dat (.list ((List.zipWith (fun x y : Int => y - x) xs ys).map .int))] S = some (.dat (.int (mn (df xs ys))), S) := min_lst S _ _ (minI_mn (df xs ys) (df_ne xs ys hl h0))
  simp (maxDischargeDepth := 3) only [xE_var, xE_lit, xE_gv, xE_bin, xE_neg, xE_not, xE_and, xE_or, xE_cmp, xE_rcmp, xE_chain, xE_ite, xE_call, xE_blt, xE_idx, xE_sl, xE_tup, xE_lst, xE_comp, xE_kset, xE_isi, xA_one, xA_cons, xO_one, xO_cons, xL_nil, xL_cons, xL_star, xT_nil, xT_one, xU_none, xU_some, xI_one, xI_enum, xI_rng1, xI_rng2, xI_zip2, xS_asg, xS_par, xS_seti, xS_expr, xS_ret, xS_retN, xS_iff, xS_for, xSs_nil, xSs_cons, bind_ok, sr_ok, ofP_some, ofO_some, getV_some, getG_some, negR_int, fitR_ok, compR_some, callR_some, boolR_some, selR_t, selR_f, forkR_t, forkR_f, optR_some, iR_int, rng1R_int, rng2R_int, zipR_some, nxR_some, setR_some, at_nx, at_rt, truth_bool, truth_list, truth_tuple, put_nm, put_tp, put_tp2, setSlots_nil, setSlots_cons, add_int, sub_int, add_tup, add_lst, mod_int, lt_int, le_int, gt_int, ge_int, eq_int, ne_int, eq_bool, ne_bool, is_bool, isNot_bool, is_intN, isNot_intN, cmpR_of _ (lt_int _ _ _), cmpR_of _ (le_int _ _ _), cmpR_of _ (gt_int _ _ _), cmpR_of _ (ge_int _ _ _), cmpR_of _ (eq_int _ _ _), cmpR_of _ (ne_int _ _ _), cmpR_of _ (eq_bool _ _ _), cmpR_of _ (ne_bool _ _ _), cmpR_of _ (is_bool _ _ _), cmpR_of _ (isNot_bool _ _ _), cmpR_of _ (is_intN _ _), cmpR_of _ (isNot_intN _ _), len_tup, len_lst, len_scr, abs_int, int_int, int_bool, min_ints, max_ints, tuple_lst, tuple_tup, list_tup, mkL_f, mkT_f, toDats_cons, toDats_nil, toDats_app, List.append_nil, Nat.reduceAdd, Nat.reduceLeDiff, decide_true, decide_false, Int.reduceEq, srcOf_tup, srcOf_lst, isaD_dat, below_dat, leave_rtS, leave_nxS, wipe_nil, wipe_cons, map_some', len_one, len_enum, len_zip, len_rng, len_vals, truthR, List.getElem?_cons_zero, List.getElem?_cons_succ, List.set_cons_zero, List.set_cons_succ, List.length_cons, List.length_nil, List.length_map, List.reverse_cons, List.reverse_nil, List.nil_append, List.cons_append, List.map_cons, List.map_nil, Nat.zero_add, Bool.not_true, Bool.not_false, idx_t0, idx_t1, idx_t2, idx_l0, seq_tup, eq_row, eq_ints, eq_nil, ne_nil, in_none_row, in_ints, toDats_dat, intsOf_int, Option.bind_some, cmpR_of _ (eq_row _ _ _), cmpR_of _ (eq_ints _ _ _), cmpR_of _ (eq_nil _ _), cmpR_of _ (ne_nil _ _), cmpR_of _ (in_none_row _ _), cmpR_of _ (in_ints _ _ _), cmpR_of _ (ne_nilnil _), b_d24, c, hd, m1, m2]
  rfl
/-! ### the middle corner -/
def score (xs ys : List Int) (d : Int) : Int := if gp ys (corner xs ys d) < gp xs (corner xs ys d) then gp ys (corner xs ys d) else gp xs (corner xs ys d)
abbrev scs (xs ys : List Int) : List Int := (sd xs ys).map (score xs ys)
def midAt (xs ys : List Int) : Nat := (findIx (.int (mx (scs xs ys))) ((scs xs ys).map .int) 0).getD 0
def mid (xs ys : List Int) : List Int := corner xs ys ((sd xs ys).getD (midAt xs ys) 0)
theorem mid_find {xs ys : List Int} (hl : xs.length = ys.length) (h0 : 0 < xs.length) : findIx (.int (mx (scs xs ys))) ((scs xs ys).map .int) 0 = some (midAt xs ys) ∧ midAt xs ys < (sd xs ys).length := by
  have hne : scs xs ys ≠ [] := fun e => sd_ne hl h0 (List.map_eq_nil_iff.mp e)
  obtain ⟨j, h1, h2⟩ := find_int (mx (scs xs ys)) (scs xs ys) 0 (mx_mem _ hne)
  rw [Nat.zero_add] at h1
  have e : midAt xs ys = j := by
    unfold midAt
    rw [h1]
    rfl
  rw [e]
  exact ⟨h1, by simpa using h2⟩
theorem index_ok {xs ys : List Int} (hl : xs.length = ys.length) (h0 : 0 < xs.length) : methV .index (.dat (.list ((scs xs ys).map .int))) [.dat (.int (mx (scs xs ys)))] S = some (.dat (.int (midAt xs ys : Nat)), S) := by
  show (if shapedOk (.list ((scs xs ys).map .int)) && shapedOk (.int (mx (scs xs ys))) then findIx (.int (mx (scs xs ys))) ((scs xs ys).map .int) 0 else none).map (fun j : Nat => (D.dat (.int (j : Nat)), S)) = _
  rw [shaped_ints, (mid_find hl h0).1]
  rfl
theorem idx_mid {xs ys : List Int} (hl : xs.length = ys.length) (h0 : 0 < xs.length) : idxV (.dat (.list ((sd xs ys).map fun d => row (corner xs ys d)))) (.dat (.int (midAt xs ys : Nat))) S = some (.dat (row (mid xs ys)), S) := by
  have h := (mid_find hl h0).2
  refine idx_l S _ _ _ ?_
  rw [List.getElem?_map, List.getElem?_eq_getElem h]
  simp [mid, List.getD_eq_getElem?_getD, h]
theorem max_sc {xs ys : List Int} (hl : xs.length = ys.length) (h0 : 0 < xs.length) : bltV .max [.dat (.list ((scs xs ys).map .int))] S = some (.dat (.int (mx (scs xs ys))), S) :=
  max_lst S _ _ (maxI_mx _ fun e => sd_ne hl h0 (List.map_eq_nil_iff.mp e))
theorem F18_ok {n : Nat} {xs ys : List Int} (hx : Rw n xs) (hy : Rw n ys) : F18 [.dat (row xs), .dat (row ys)] S = .ok (.dat (row (mid xs ys))) S := by
  have l1 := hx.len
  have l2 := hy.len
  have l4 := hx.pos
  have l5 := hx.le
  have hl : xs.length = ys.length := by omega
  have h0 : 0 < xs.length := by omega
  rw [in18]
  have c := comp_map (Φ := P18) (G := GV) (S := S) (i := 4) (ev := [some (.dat (row xs)), some (.dat (row ys)), some (.dat (.list ((sd xs ys).map fun d => row (corner xs ys d)))), none, none]) (elt := .blt .min (.cons (.call 8 (.cons (.var 0) (.cons (.var 4) .nil))) (.cons (.call 8 (.cons (.var 1) (.cons (.var 4) .nil))) .nil))) (sd xs ys) (fun d => row (corner xs ys d)) (fun d => .int (score xs ys d)) (fun d _ => by
    have hj := len_jn d 0 xs ys hl
    have hc : (corner xs ys d).length = xs.length := by simp [corner, hj]
    simp (maxDischargeDepth := 3) only [xE_var, xE_lit, xE_gv, xE_bin, xE_neg, xE_not, xE_and, xE_or, xE_cmp, xE_rcmp, xE_chain, xE_ite, xE_call, xE_blt, xE_idx, xE_sl, xE_tup, xE_lst, xE_comp, xE_kset, xE_isi, xA_one, xA_cons, xO_one, xO_cons, xL_nil, xL_cons, xL_star, xT_nil, xT_one, xU_none, xU_some, xI_one, xI_enum, xI_rng1, xI_rng2, xI_zip2, xS_asg, xS_par, xS_seti, xS_expr, xS_ret, xS_retN, xS_iff, xS_for, xSs_nil, xSs_cons, bind_ok, sr_ok, ofP_some, ofO_some, getV_some, getG_some, negR_int, fitR_ok, compR_some, callR_some, boolR_some, selR_t, selR_f, forkR_t, forkR_f, optR_some, iR_int, rng1R_int, rng2R_int, zipR_some, nxR_some, setR_some, at_nx, at_rt, truth_bool, truth_list, truth_tuple, put_nm, put_tp, put_tp2, setSlots_nil, setSlots_cons, add_int, sub_int, add_tup, add_lst, mod_int, lt_int, le_int, gt_int, ge_int, eq_int, ne_int, eq_bool, ne_bool, is_bool, isNot_bool, is_intN, isNot_intN, cmpR_of _ (lt_int _ _ _), cmpR_of _ (le_int _ _ _), cmpR_of _ (gt_int _ _ _), cmpR_of _ (ge_int _ _ _), cmpR_of _ (eq_int _ _ _), cmpR_of _ (ne_int _ _ _), cmpR_of _ (eq_bool _ _ _), cmpR_of _ (ne_bool _ _ _), cmpR_of _ (is_bool _ _ _), cmpR_of _ (isNot_bool _ _ _), cmpR_of _ (is_intN _ _), cmpR_of _ (isNot_intN _ _), len_tup, len_lst, len_scr, abs_int, int_int, int_bool, min_ints, max_ints, tuple_lst, tuple_tup, list_tup, mkL_f, mkT_f, toDats_cons, toDats_nil, toDats_app, List.append_nil, Nat.reduceAdd, Nat.reduceLeDiff, decide_true, decide_false, Int.reduceEq, srcOf_tup, srcOf_lst, isaD_dat, below_dat, leave_rtS, leave_nxS, wipe_nil, wipe_cons, map_some', len_one, len_enum, len_zip, len_rng, len_vals, truthR, List.getElem?_cons_zero, List.getElem?_cons_succ, List.set_cons_zero, List.set_cons_succ, List.length_cons, List.length_nil, List.length_map, List.reverse_cons, List.reverse_nil, List.nil_append, List.cons_append, List.map_cons, List.map_nil, Nat.zero_add, Bool.not_true, Bool.not_false, idx_t0, idx_t1, idx_t2, idx_l0, seq_tup, eq_row, eq_ints, eq_nil, ne_nil, in_none_row, in_ints, toDats_dat, intsOf_int, Option.bind_some, cmpR_of _ (eq_row _ _ _), cmpR_of _ (eq_ints _ _ _), cmpR_of _ (eq_nil _ _), cmpR_of _ (ne_nil _ _), cmpR_of _ (in_none_row _ _), cmpR_of _ (in_ints _ _ _), cmpR_of _ (ne_nilnil _), p18_8, F8_ok S xs (corner xs ys d) (by omega) h0 (by omega), F8_ok S ys (corner xs ys d) (by omega) (by omega) (by omega)]
    rfl) _ rfl
  have e : (sd xs ys).map (fun d => PyData.int (score xs ys d)) = (scs xs ys).map .int := by
    rw [List.map_map]
    rfl
  rw [e] at c
  have hf : (sd xs ys).length ≤ 16777216 := by have := sd_len hl; omega
  generalize hma : midAt xs ys = ma at *
  have ix := index_ok S hl h0
  have im := idx_mid S hl h0
  rw [hma] at ix im
  generalize ((ma : Nat) : Int) = mi at ix im
  simp (maxDischargeDepth := 3) only [xE_var, xE_lit, xE_gv, xE_bin, xE_neg, xE_not, xE_and, xE_or, xE_cmp, xE_rcmp, xE_chain, xE_ite, xE_call, xE_blt, xE_idx, xE_sl, xE_tup, xE_lst, xE_comp, xE_kset, xE_isi, xA_one, xA_cons, xO_one, xO_cons, xL_nil, xL_cons, xL_star, xT_nil, xT_one, xU_none, xU_some, xI_one, xI_enum, xI_rng1, xI_rng2, xI_zip2, xS_asg, xS_par, xS_seti, xS_expr, xS_ret, xS_retN, xS_iff, xS_for, xSs_nil, xSs_cons, bind_ok, sr_ok, ofP_some, ofO_some, getV_some, getG_some, negR_int, fitR_ok, compR_some, callR_some, boolR_some, selR_t, selR_f, forkR_t, forkR_f, optR_some, iR_int, rng1R_int, rng2R_int, zipR_some, nxR_some, setR_some, at_nx, at_rt, truth_bool, truth_list, truth_tuple, put_nm, put_tp, put_tp2, setSlots_nil, setSlots_cons, add_int, sub_int, add_tup, add_lst, mod_int, lt_int, le_int, gt_int, ge_int, eq_int, ne_int, eq_bool, ne_bool, is_bool, isNot_bool, is_intN, isNot_intN, cmpR_of _ (lt_int _ _ _), cmpR_of _ (le_int _ _ _), cmpR_of _ (gt_int _ _ _), cmpR_of _ (ge_int _ _ _), cmpR_of _ (eq_int _ _ _), cmpR_of _ (ne_int _ _ _), cmpR_of _ (eq_bool _ _ _), cmpR_of _ (ne_bool _ _ _), cmpR_of _ (is_bool _ _ _), cmpR_of _ (isNot_bool _ _ _), cmpR_of _ (is_intN _ _), cmpR_of _ (isNot_intN _ _), len_tup, len_lst, len_scr, abs_int, int_int, int_bool, min_ints, max_ints, tuple_lst, tuple_tup, list_tup, mkL_f, mkT_f, toDats_cons, toDats_nil, toDats_app, List.append_nil, Nat.reduceAdd, Nat.reduceLeDiff, decide_true, decide_false, Int.reduceEq, srcOf_tup, srcOf_lst, isaD_dat, below_dat, leave_rtS, leave_nxS, wipe_nil, wipe_cons, map_some', len_one, len_enum, len_zip, len_rng, len_vals, truthR, List.getElem?_cons_zero, List.getElem?_cons_succ, List.set_cons_zero, List.set_cons_succ, List.length_cons, List.length_nil, List.length_map, List.reverse_cons, List.reverse_nil, List.nil_append, List.cons_append, List.map_cons, List.map_nil, Nat.zero_add, Bool.not_true, Bool.not_false, idx_t0, idx_t1, idx_t2, idx_l0, seq_tup, eq_row, eq_ints, eq_nil, ne_nil, in_none_row, in_ints, toDats_dat, intsOf_int, Option.bind_some, cmpR_of _ (eq_row _ _ _), cmpR_of _ (eq_ints _ _ _), cmpR_of _ (eq_nil _ _), cmpR_of _ (ne_nil _ _), cmpR_of _ (in_none_row _ _), cmpR_of _ (in_ints _ _ _), cmpR_of _ (ne_nilnil _), b_d18, p18_15, F15_ok S hx hy, c, hf, xE_meth, getL_dat, max_sc S hl h0, ix, im]
theorem F19_ok {n : Nat} {xs ys : List Int} (hx : Rw n xs) (hy : Rw n ys) : F19 [.dat (row xs), .dat (row ys)] S = .ok (.dat (row (mid xs ys))) S := by
  rw [in19]
  simp (maxDischargeDepth := 3) only [xE_var, xE_lit, xE_gv, xE_bin, xE_neg, xE_not, xE_and, xE_or, xE_cmp, xE_rcmp, xE_chain, xE_ite, xE_call, xE_blt, xE_idx, xE_sl, xE_tup, xE_lst, xE_comp, xE_kset, xE_isi, xA_one, xA_cons, xO_one, xO_cons, xL_nil, xL_cons, xL_star, xT_nil, xT_one, xU_none, xU_some, xI_one, xI_enum, xI_rng1, xI_rng2, xI_zip2, xS_asg, xS_par, xS_seti, xS_expr, xS_ret, xS_retN, xS_iff, xS_for, xSs_nil, xSs_cons, bind_ok, sr_ok, ofP_some, ofO_some, getV_some, getG_some, negR_int, fitR_ok, compR_some, callR_some, boolR_some, selR_t, selR_f, forkR_t, forkR_f, optR_some, iR_int, rng1R_int, rng2R_int, zipR_some, nxR_some, setR_some, at_nx, at_rt, truth_bool, truth_list, truth_tuple, put_nm, put_tp, put_tp2, setSlots_nil, setSlots_cons, add_int, sub_int, add_tup, add_lst, mod_int, lt_int, le_int, gt_int, ge_int, eq_int, ne_int, eq_bool, ne_bool, is_bool, isNot_bool, is_intN, isNot_intN, cmpR_of _ (lt_int _ _ _), cmpR_of _ (le_int _ _ _), cmpR_of _ (gt_int _ _ _), cmpR_of _ (ge_int _ _ _), cmpR_of _ (eq_int _ _ _), cmpR_of _ (ne_int _ _ _), cmpR_of _ (eq_bool _ _ _), cmpR_of _ (ne_bool _ _ _), cmpR_of _ (is_bool _ _ _), cmpR_of _ (isNot_bool _ _ _), cmpR_of _ (is_intN _ _), cmpR_of _ (isNot_intN _ _), len_tup, len_lst, len_scr, abs_int, int_int, int_bool, min_ints, max_ints, tuple_lst, tuple_tup, list_tup, mkL_f, mkT_f, toDats_cons, toDats_nil, toDats_app, List.append_nil, Nat.reduceAdd, Nat.reduceLeDiff, decide_true, decide_false, Int.reduceEq, srcOf_tup, srcOf_lst, isaD_dat, below_dat, leave_rtS, leave_nxS, wipe_nil, wipe_cons, map_some', len_one, len_enum, len_zip, len_rng, len_vals, truthR, List.getElem?_cons_zero, List.getElem?_cons_succ, List.set_cons_zero, List.set_cons_succ, List.length_cons, List.length_nil, List.length_map, List.reverse_cons, List.reverse_nil, List.nil_append, List.cons_append, List.map_cons, List.map_nil, Nat.zero_add, Bool.not_true, Bool.not_false, idx_t0, idx_t1, idx_t2, idx_l0, seq_tup, eq_row, eq_ints, eq_nil, ne_nil, in_none_row, in_ints, toDats_dat, intsOf_int, Option.bind_some, cmpR_of _ (eq_row _ _ _), cmpR_of _ (eq_ints _ _ _), cmpR_of _ (eq_nil _ _), cmpR_of _ (ne_nil _ _), cmpR_of _ (in_none_row _ _), cmpR_of _ (in_ints _ _ _), cmpR_of _ (ne_nilnil _), b_d19, p19_6, p19_18, F6_2 S hx hy, F18_ok S hx hy]
end
end LW
end
section
namespace LW
open MP PySem
def s25_0 : CS := (.asg (.nm 1) (.bin .add (.lit (.int 1)) (.call 20 (.cons (.var 0) (.cons (.lit (.int 5)) .nil)))))
def s25_1 : CS := (.asg (.tp [12, 13]) (.tup (.cons (.call 23 (.cons (.var 0) (.cons (.var 1) .nil))) (.cons (.call 23 (.cons (.var 0) (.cons (.var 1) .nil))) .nil))))
def s25_2 : CS := (.asg (.nm 2) (.call 20 (.cons (.var 0) (.cons (.lit (.int 99)) .nil))))
def s25_3 : CS := (.asg (.nm 3) (.call 21 (.cons (.var 0) (.cons (.lst false (.cons (.call 23 (.cons (.var 0) (.cons (.var 1) .nil))) (.cons (.blt .tuple (.cons (.comp false (.bin .add (.var 16) (.var 2)) (.nm 16) (.one (.var 12)) .nil [16]) .nil)) .nil))) .nil))))
def s25_4 : CS := (.asg (.nm 4) (.sset (.srt false) (.comp false (.bin .sub (.var 18) (.var 17)) (.tp [17, 18]) (.zip2 (.var 12) (.var 3)) .nil [17, 18])))
def s25_5 : CS := (.iff (.rcmp true (.lst false (.cons (.call 9 (.cons (.var 12) (.cons (.var 3) .nil))) (.cons (.call 9 (.cons (.var 3) (.cons (.var 12) .nil))) (.cons (.call 10 (.cons (.var 12) (.cons (.var 3) .nil))) (.cons (.call 11 (.cons (.var 12) (.cons (.var 3) .nil))) .nil))))) (.lst false (.cons (.bin .sub (.idx (.var 4) (.neg (.lit (.int 1)))) (.idx (.var 4) (.lit (.int 0)))) (.cons (.bin .sub (.idx (.var 4) (.neg (.lit (.int 1)))) (.idx (.var 4) (.lit (.int 0)))) (.cons (.cmp .eq (.blt .len (.cons (.var 4) .nil)) (.lit (.int 1))) (.cons (.blt .tuple (.cons (.var 4) .nil)) .nil)))))) (.cons (.ret (.lit (.bool false)))
  .nil) .nil)
def s25_6 : CS := (.iff (.or (.cons (.cmp .gt (.call 9 (.cons (.var 12) (.cons (.var 3) .nil))) (.bin .add (.call 9 (.cons (.var 12) (.cons (.var 13) .nil))) (.call 9 (.cons (.var 13) (.cons (.var 3) .nil))))) (.cons (.cmp .ne (.call 9 (.cons (.blt .tuple (.cons (.comp false (.bin .add (.var 16) (.lit (.int 7))) (.nm 16) (.one (.var 12)) .nil [16]) .nil)) (.cons (.var 3) .nil))) (.call 9 (.cons (.var 12) (.cons (.var 3) .nil)))) .nil))) (.cons (.ret (.lit (.bool false)))
  .nil) .nil)
def s25_7 : CS := (.asg (.nm 5) (.comp false (.blt .tuple (.cons (.comp false (.bin .add (.var 17) (.var 18)) (.tp [17, 18]) (.zip2 (.var 15) (.var 13)) .nil [17, 18]) .nil)) (.nm 15) (.one (.tup (.cons (.var 12) (.cons (.var 3) .nil)))) .nil [15]))
def s25_8 : CS := (.iff (.cmp .ne (.call 9 (.cons (.idx (.var 5) (.lit (.int 0))) (.cons (.idx (.var 5) (.lit (.int 1))) .nil))) (.call 9 (.cons (.var 12) (.cons (.var 3) .nil)))) (.cons (.ret (.lit (.bool false)))
  .nil) .nil)
def s25_9 : CS := (.asg (.nm 6) (.comp false (.call 22 (.cons (.var 12) (.cons (.var 3) (.cons (.var 8) .nil)))) (.nm 8) (.one (.var 4)) .nil [8]))
def s25_10 : CS := (.asg (.nm 7) (.comp false (.blt .tuple (.cons (.comp false (.bin .sub (.var 16) (.idx (.var 15) (.lit (.int 0)))) (.nm 16) (.one (.var 15)) .nil [16]) .nil)) (.nm 15) (.one (.var 6)) .nil [15]))
def s25_11 : CS := (.iff (.or (.cons (.rcmp true (.call 16 (.cons (.var 12) (.cons (.var 3) .nil))) (.blt .tuple (.cons (.var 7) .nil))) (.cons (.cmp .ne (.sset .len (.var 7)) (.blt .len (.cons (.var 4) .nil))) .nil))) (.cons (.ret (.lit (.bool false)))
  .nil) .nil)
def s25_12 : CS := (.for (.nm 8) (.one (.bin .add (.sl (.var 4) .none (.some (.lit (.int 2)))) (.lst false (.cons (.bin .sub (.call 20 (.cons (.var 0) (.cons (.lit (.int 2001)) .nil))) (.lit (.int 1000))) (.cons (.lit (.int 0)) .nil))))) (.cons (.iff (.rcmp true (.call 13 (.cons (.var 12) (.cons (.var 3) (.cons (.var 8) .nil)))) (.call 22 (.cons (.var 12) (.cons (.var 3) (.cons (.var 8) .nil))))) (.cons (.ret (.lit (.bool false)))
  .nil) .nil)
  (.cons (.asg (.nm 14) (.blt .min (.cons (.blt .max (.cons (.var 8) (.cons (.idx (.var 4) (.lit (.int 0))) .nil))) (.cons (.idx (.var 4) (.neg (.lit (.int 1)))) .nil))))
  (.cons (.iff (.or (.cons (.cmp .ne (.call 24 (.cons (.var 3) (.cons (.call 22 (.cons (.var 12) (.cons (.var 3) (.cons (.var 14) .nil)))) .nil))) (.bin .sub (.var 14) (.idx (.var 4) (.lit (.int 0))))) (.cons (.cmp .ne (.call 24 (.cons (.var 12) (.cons (.call 22 (.cons (.var 12) (.cons (.var 3) (.cons (.var 14) .nil)))) .nil))) (.bin .sub (.idx (.var 4) (.neg (.lit (.int 1)))) (.var 14))) .nil))) (.cons (.ret (.lit (.bool false)))
  .nil) .nil)
  .nil))))
def s25_13 : CS := (.asg (.nm 9) (.comp false (.blt .min (.cons (.call 24 (.cons (.var 12) (.cons (.var 15) .nil))) (.cons (.call 24 (.cons (.var 3) (.cons (.var 15) .nil))) .nil))) (.nm 15) (.one (.var 7)) .nil [15]))
def s25_14 : CS := (.iff (.rcmp true (.call 19 (.cons (.var 12) (.cons (.var 3) .nil))) (.idx (.var 7) (.meth .index (.var 9) (.cons (.blt .max (.cons (.var 9) .nil)) .nil)))) (.cons (.ret (.lit (.bool false)))
  .nil) .nil)
def s25_15 : CS := (.asg (.nm 10) (.blt .tuple (.cons (.comp false (.blt .min (.cons (.var 17) (.cons (.var 18) .nil))) (.tp [17, 18]) (.zip2 (.var 12) (.var 3)) .nil [17, 18]) .nil)))
def s25_16 : CS := (.asg (.nm 11) (.call 22 (.cons (.var 12) (.cons (.var 3) (.cons (.lit (.int 0)) .nil)))))
def s25_17 : CS := (.iff (.cmp .ne (.comp false (.bin .add (.var 17) (.var 18)) (.tp [17, 18]) (.zip2 (.var 12) (.var 3)) .nil [17, 18]) (.comp false (.bin .add (.var 17) (.var 18)) (.tp [17, 18]) (.zip2 (.var 10) (.var 11)) .nil [17, 18])) (.cons (.ret (.lit (.bool false)))
  .nil) .nil)
def s25_18 : CS := (.ret (.and (.cons (.rcmp false (.call 17 (.cons (.var 12) (.cons (.var 3) .nil))) (.var 10)) (.cons (.cmp .le (.blt .max (.cons (.call 9 (.cons (.var 10) (.cons (.var 12) .nil))) (.cons (.call 9 (.cons (.var 10) (.cons (.var 3) .nil))) .nil))) (.call 9 (.cons (.var 12) (.cons (.var 3) .nil)))) .nil))))
theorem b25_eq : b_d25 = .cons s25_0 (.cons s25_1 (.cons s25_2 (.cons s25_3 (.cons s25_4 (.cons s25_5 (.cons s25_6 (.cons s25_7 (.cons s25_8 (.cons s25_9 (.cons s25_10 (.cons s25_11 (.cons s25_12 (.cons s25_13 (.cons s25_14 (.cons s25_15 (.cons s25_16 (.cons s25_17 (.cons s25_18 .nil)))))))))))))))))) := rfl
def s26_0 : CS := (.for (.nm 1) (.rng1 (.blt .max (.cons (.lit (.int 1)) (.cons (.blt .min (.cons (.lit (.int 2)) (.cons (.blt .len (.cons (.var 0) .nil)) .nil))) .nil)))) (.cons (.asg (.nm 3) (.call 0 (.cons (.var 0) (.cons (.var 1) .nil))))
  (.cons (.for (.nm 4) (.rng1 (.lit (.int 8))) (.cons (.iff (.not (.call 25 (.cons (.var 3) .nil))) (.cons (.ret (.lit (.bool false)))
  .nil) .nil)
  .nil))
  .nil)))
def s26_1 : CS := (.asg (.tp [5, 6]) (.tup (.cons (.tup (.cons (.lit (.int 0)) (.cons (.lit (.int 0)) (.cons (.lit (.int 0)) .nil)))) (.cons (.tup (.cons (.lit (.int 0)) (.cons (.lit (.int 2)) (.cons (.lit (.int 5)) .nil)))) .nil))))
def s26_2 : CS := (.asg (.nm 2) (.lst false (.cons (.call 9 (.cons (.var 5) (.cons (.var 6) .nil))) (.cons (.call 10 (.cons (.var 5) (.cons (.tup (.cons (.lit (.int 3)) (.cons (.lit (.int 3)) (.cons (.lit (.int 3)) .nil)))) .nil))) (.cons (.call 11 (.cons (.var 5) (.cons (.var 6) .nil))) (.cons (.call 13 (.cons (.var 5) (.cons (.var 6) (.cons (.lit (.int 3)) .nil)))) (.cons (.call 16 (.cons (.var 5) (.cons (.var 6) .nil))) (.cons (.call 17 (.cons (.var 5) (.cons (.var 6) .nil))) (.cons (.call 19 (.cons (.var 5) (.cons (.var 6) .nil))) (.cons (.call 16 (.cons (.tup (.cons (.lit (.int 4)) .nil)) (.cons (.tup (.cons (.lit (.int 9)) .nil)) .nil))) .nil))))))))))
def s26_3 : CS := (.ret (.rcmp false (.var 2) (.lst false (.cons (.lit (.int 5)) (.cons (.lit (.bool true)) (.cons (.tup (.cons (.lit (.int 0)) (.cons (.lit (.int 2)) (.cons (.lit (.int 5)) .nil)))) (.cons (.tup (.cons (.lit (.int 3)) (.cons (.lit (.int 3)) (.cons (.lit (.int 5)) .nil)))) (.cons (.tup (.cons (.tup (.cons (.lit (.int 0)) (.cons (.lit (.int 2)) (.cons (.lit (.int 5)) .nil)))) (.cons (.tup (.cons (.lit (.int 0)) (.cons (.lit (.int 0)) (.cons (.lit (.int 3)) .nil)))) (.cons (.tup (.cons (.lit (.int 0)) (.cons (.lit (.int 0)) (.cons (.lit (.int 0)) .nil)))) .nil)))) (.cons (.tup (.cons (.lit (.int 0)) (.cons (.lit (.int 0)) (.cons (.lit (.int 0)) .nil)))) (.cons (.tup (.cons (.lit (.int 0)) (.cons (.lit (.int 0)) (.cons (.lit (.int 3)) .nil)))) (.cons (.tup (.cons (.tup (.cons (.lit (.int 0)) .nil)) .nil)) .nil)))))))))))
theorem b26_eq : b_d26 = .cons s26_0 (.cons s26_1 (.cons s26_2 (.cons s26_3 .nil))) := rfl
def s0_0 : CS := (.asg (.nm 2) (.ite (.cmp .lt (.var 1) (.blt .len (.cons (.var 0) .nil))) (.blt .int (.cons (.idx (.var 0) (.var 1)) .nil)) (.bin .add (.bin .mul (.lit (.int 149)) (.var 1)) (.lit (.int 83)))))
def s0_1 : CS := (.asg (.nm 3) (.bin .mod (.blt .max (.cons (.lit (.int 0)) (.cons (.bin .sub (.blt .abs (.cons (.var 2) .nil)) (.bin .pow (.lit (.int 10)) (.lit (.int 16)))) .nil))) (.bin .mul (.bin .pow (.lit (.int 10)) (.lit (.int 58))) (.bin .pow (.lit (.int 10)) (.lit (.int 59))))))
def s0_2 : CS := (.ret (.lst true (.cons (.var 3) (.cons (.bin .add (.bin .add (.bin .add (.bin .mul (.bin .mod (.blt .abs (.cons (.var 2) .nil)) (.lit (.int 1152921504606846999))) (.lit (.int 101))) (.bin .mul (.lit (.int 1049)) (.var 1))) (.bin .mul (.lit (.int 59)) (.blt .int (.cons (.cmp .lt (.var 2) (.lit (.int 0))) .nil)))) (.lit (.int 29))) (.cons (.lit (.int 0)) .nil)))))
theorem b0_eq : b_d0 = .cons s0_0 (.cons s0_1 (.cons s0_2 .nil)) := rfl
theorem pow58 (S : Store) : ∃ A : Int, binop .pow (.dat (.int 10)) (.dat (.int 58)) S = some (.dat (.int A), S) ∧ 0 < A ∧ A.natAbs.log2 < 400 :=
  ⟨10 ^ 58, by rw [pow_int S 10 58 (by decide) (by decide) (by decide)]; rfl, by decide +kernel, by decide +kernel⟩
theorem pow59 (S : Store) : ∃ A : Int, binop .pow (.dat (.int 10)) (.dat (.int 59)) S = some (.dat (.int A), S) ∧ 0 < A ∧ A.natAbs.log2 < 400 :=
  ⟨10 ^ 59, by rw [pow_int S 10 59 (by decide) (by decide) (by decide)]; rfl, by decide +kernel, by decide +kernel⟩
theorem pow16 (S : Store) : ∃ A : Int, binop .pow (.dat (.int 10)) (.dat (.int 16)) S = some (.dat (.int A), S) :=
  ⟨10 ^ 16, by rw [pow_int S 10 16 (by decide) (by decide) (by decide)]; rfl⟩
theorem in0 (S : Store) (a b : D) : F0 [a, b] S = leave S.length (evSs P0 GV b_d0 [some a, some b, none, none] S) := rfl
theorem F0_0 (S : Store) (ns : List Int) (t : Int) (h0 : 0 ≤ t) (h1 : t ≤ 1) : ∃ c : Int, evS P0 GV s0_0 [some (.scr ns), some (.dat (.int t)), none, none] S = .nx [some (.scr ns), some (.dat (.int t)), some (.dat (.int c)), none] S := by
  have l1 := log_small t 30 h0 (by have : ((2 ^ 30 : Nat) : Int) = 1073741824 := rfl; omega) (by omega)
  have l2 := log_small 149 30 (by omega) (by have : ((2 ^ 30 : Nat) : Int) = 1073741824 := rfl; omega) (by omega)
  have m := mul_int S 149 t (by omega)
  by_cases h : t < (ns.length : Nat)
  · have e : idxV (.scr ns) (.dat (.int t)) S = some (.dat (.int (ns.getD t.toNat 0)), S) := by
      obtain ⟨k, rfl⟩ := Int.eq_ofNat_of_zero_le h0
      have hk : k < ns.length := Int.ofNat_lt.mp h
      simp [idxV, getSeq, L2.atI, L2.ixN, hk, List.getD_eq_getElem?_getD]
    refine ⟨ns.getD t.toNat 0, ?_⟩
    unfold s0_0
    simp (maxDischargeDepth := 3) only [xE_var, xE_lit, xE_gv, xE_bin, xE_neg, xE_not, xE_and, xE_or, xE_cmp, xE_rcmp, xE_chain, xE_ite, xE_call, xE_blt, xE_idx, xE_sl, xE_tup, xE_lst, xE_comp, xE_kset, xE_isi, xA_one, xA_cons, xO_one, xO_cons, xL_nil, xL_cons, xL_star, xT_nil, xT_one, xU_none, xU_some, xI_one, xI_enum, xI_rng1, xI_rng2, xI_zip2, xS_asg, xS_par, xS_seti, xS_expr, xS_ret, xS_retN, xS_iff, xS_for, xSs_nil, xSs_cons, bind_ok, sr_ok, ofP_some, ofO_some, getV_some, getG_some, negR_int, fitR_ok, compR_some, callR_some, boolR_some, selR_t, selR_f, forkR_t, forkR_f, optR_some, iR_int, rng1R_int, rng2R_int, zipR_some, nxR_some, setR_some, at_nx, at_rt, truth_bool, truth_list, truth_tuple, put_nm, put_tp, put_tp2, setSlots_nil, setSlots_cons, add_int, sub_int, add_tup, add_lst, mod_int, lt_int, le_int, gt_int, ge_int, eq_int, ne_int, eq_bool, ne_bool, is_bool, isNot_bool, is_intN, isNot_intN, cmpR_of _ (lt_int _ _ _), cmpR_of _ (le_int _ _ _), cmpR_of _ (gt_int _ _ _), cmpR_of _ (ge_int _ _ _), cmpR_of _ (eq_int _ _ _), cmpR_of _ (ne_int _ _ _), cmpR_of _ (eq_bool _ _ _), cmpR_of _ (ne_bool _ _ _), cmpR_of _ (is_bool _ _ _), cmpR_of _ (isNot_bool _ _ _), cmpR_of _ (is_intN _ _), cmpR_of _ (isNot_intN _ _), len_tup, len_lst, len_scr, abs_int, int_int, int_bool, min_ints, max_ints, tuple_lst, tuple_tup, list_tup, mkL_f, mkT_f, toDats_cons, toDats_nil, toDats_app, List.append_nil, Nat.reduceAdd, Nat.reduceLeDiff, decide_true, decide_false, Int.reduceEq, srcOf_tup, srcOf_lst, isaD_dat, below_dat, leave_rtS, leave_nxS, wipe_nil, wipe_cons, map_some', len_one, len_enum, len_zip, len_rng, len_vals, truthR, List.getElem?_cons_zero, List.getElem?_cons_succ, List.set_cons_zero, List.set_cons_succ, List.length_cons, List.length_nil, List.length_map, List.reverse_cons, List.reverse_nil, List.nil_append, List.cons_append, List.map_cons, List.map_nil, Nat.zero_add, Bool.not_true, Bool.not_false, idx_t0, idx_t1, idx_t2, idx_l0, seq_tup, eq_row, eq_ints, eq_nil, ne_nil, in_none_row, in_ints, toDats_dat, intsOf_int, Option.bind_some, cmpR_of _ (eq_row _ _ _), cmpR_of _ (eq_ints _ _ _), cmpR_of _ (eq_nil _ _), cmpR_of _ (ne_nil _ _), cmpR_of _ (in_none_row _ _), cmpR_of _ (in_ints _ _ _), cmpR_of _ (ne_nilnil _), decide_eq_true h, e]
  · refine ⟨149 * t + 83, ?_⟩
    unfold s0_0
    simp (maxDischargeDepth := 3) only [xE_var, xE_lit, xE_gv, xE_bin, xE_neg, xE_not, xE_and, xE_or, xE_cmp, xE_rcmp, xE_chain, xE_ite, xE_call, xE_blt, xE_idx, xE_sl, xE_tup, xE_lst, xE_comp, xE_kset, xE_isi, xA_one, xA_cons, xO_one, xO_cons, xL_nil, xL_cons, xL_star, xT_nil, xT_one, xU_none, xU_some, xI_one, xI_enum, xI_rng1, xI_rng2, xI_zip2, xS_asg, xS_par, xS_seti, xS_expr, xS_ret, xS_retN, xS_iff, xS_for, xSs_nil, xSs_cons, bind_ok, sr_ok, ofP_some, ofO_some, getV_some, getG_some, negR_int, fitR_ok, compR_some, callR_some, boolR_some, selR_t, selR_f, forkR_t, forkR_f, optR_some, iR_int, rng1R_int, rng2R_int, zipR_some, nxR_some, setR_some, at_nx, at_rt, truth_bool, truth_list, truth_tuple, put_nm, put_tp, put_tp2, setSlots_nil, setSlots_cons, add_int, sub_int, add_tup, add_lst, mod_int, lt_int, le_int, gt_int, ge_int, eq_int, ne_int, eq_bool, ne_bool, is_bool, isNot_bool, is_intN, isNot_intN, cmpR_of _ (lt_int _ _ _), cmpR_of _ (le_int _ _ _), cmpR_of _ (gt_int _ _ _), cmpR_of _ (ge_int _ _ _), cmpR_of _ (eq_int _ _ _), cmpR_of _ (ne_int _ _ _), cmpR_of _ (eq_bool _ _ _), cmpR_of _ (ne_bool _ _ _), cmpR_of _ (is_bool _ _ _), cmpR_of _ (isNot_bool _ _ _), cmpR_of _ (is_intN _ _), cmpR_of _ (isNot_intN _ _), len_tup, len_lst, len_scr, abs_int, int_int, int_bool, min_ints, max_ints, tuple_lst, tuple_tup, list_tup, mkL_f, mkT_f, toDats_cons, toDats_nil, toDats_app, List.append_nil, Nat.reduceAdd, Nat.reduceLeDiff, decide_true, decide_false, Int.reduceEq, srcOf_tup, srcOf_lst, isaD_dat, below_dat, leave_rtS, leave_nxS, wipe_nil, wipe_cons, map_some', len_one, len_enum, len_zip, len_rng, len_vals, truthR, List.getElem?_cons_zero, List.getElem?_cons_succ, List.set_cons_zero, List.set_cons_succ, List.length_cons, List.length_nil, List.length_map, List.reverse_cons, List.reverse_nil, List.nil_append, List.cons_append, List.map_cons, List.map_nil, Nat.zero_add, Bool.not_true, Bool.not_false, idx_t0, idx_t1, idx_t2, idx_l0, seq_tup, eq_row, eq_ints, eq_nil, ne_nil, in_none_row, in_ints, toDats_dat, intsOf_int, Option.bind_some, cmpR_of _ (eq_row _ _ _), cmpR_of _ (eq_ints _ _ _), cmpR_of _ (eq_nil _ _), cmpR_of _ (ne_nil _ _), cmpR_of _ (in_none_row _ _), cmpR_of _ (in_ints _ _ _), cmpR_of _ (ne_nilnil _), decide_eq_false h, m]
theorem F0_1 (S : Store) (a b : Option D) (c : Int) : ∃ g : Int, evS P0 GV s0_1 [a, b, some (.dat (.int c)), none] S = .nx [a, b, some (.dat (.int c)), some (.dat (.int g))] S := by
  obtain ⟨A, a1, a2, a3⟩ := pow58 S
  obtain ⟨B, b1, b2, b3⟩ := pow59 S
  obtain ⟨C, c1⟩ := pow16 S
  have m := mul_int S A B (by omega)
  refine ⟨(if (if c < 0 then -c else c) - C > 0 then (if c < 0 then -c else c) - C else 0) % (A * B), ?_⟩
  unfold s0_1
  simp (maxDischargeDepth := 3) only [xE_var, xE_lit, xE_gv, xE_bin, xE_neg, xE_not, xE_and, xE_or, xE_cmp, xE_rcmp, xE_chain, xE_ite, xE_call, xE_blt, xE_idx, xE_sl, xE_tup, xE_lst, xE_comp, xE_kset, xE_isi, xA_one, xA_cons, xO_one, xO_cons, xL_nil, xL_cons, xL_star, xT_nil, xT_one, xU_none, xU_some, xI_one, xI_enum, xI_rng1, xI_rng2, xI_zip2, xS_asg, xS_par, xS_seti, xS_expr, xS_ret, xS_retN, xS_iff, xS_for, xSs_nil, xSs_cons, bind_ok, sr_ok, ofP_some, ofO_some, getV_some, getG_some, negR_int, fitR_ok, compR_some, callR_some, boolR_some, selR_t, selR_f, forkR_t, forkR_f, optR_some, iR_int, rng1R_int, rng2R_int, zipR_some, nxR_some, setR_some, at_nx, at_rt, truth_bool, truth_list, truth_tuple, put_nm, put_tp, put_tp2, setSlots_nil, setSlots_cons, add_int, sub_int, add_tup, add_lst, mod_int, lt_int, le_int, gt_int, ge_int, eq_int, ne_int, eq_bool, ne_bool, is_bool, isNot_bool, is_intN, isNot_intN, cmpR_of _ (lt_int _ _ _), cmpR_of _ (le_int _ _ _), cmpR_of _ (gt_int _ _ _), cmpR_of _ (ge_int _ _ _), cmpR_of _ (eq_int _ _ _), cmpR_of _ (ne_int _ _ _), cmpR_of _ (eq_bool _ _ _), cmpR_of _ (ne_bool _ _ _), cmpR_of _ (is_bool _ _ _), cmpR_of _ (isNot_bool _ _ _), cmpR_of _ (is_intN _ _), cmpR_of _ (isNot_intN _ _), len_tup, len_lst, len_scr, abs_int, int_int, int_bool, min_ints, max_ints, tuple_lst, tuple_tup, list_tup, mkL_f, mkT_f, toDats_cons, toDats_nil, toDats_app, List.append_nil, Nat.reduceAdd, Nat.reduceLeDiff, decide_true, decide_false, Int.reduceEq, srcOf_tup, srcOf_lst, isaD_dat, below_dat, leave_rtS, leave_nxS, wipe_nil, wipe_cons, map_some', len_one, len_enum, len_zip, len_rng, len_vals, truthR, List.getElem?_cons_zero, List.getElem?_cons_succ, List.set_cons_zero, List.set_cons_succ, List.length_cons, List.length_nil, List.length_map, List.reverse_cons, List.reverse_nil, List.nil_append, List.cons_append, List.map_cons, List.map_nil, Nat.zero_add, Bool.not_true, Bool.not_false, idx_t0, idx_t1, idx_t2, idx_l0, seq_tup, eq_row, eq_ints, eq_nil, ne_nil, in_none_row, in_ints, toDats_dat, intsOf_int, Option.bind_some, cmpR_of _ (eq_row _ _ _), cmpR_of _ (eq_ints _ _ _), cmpR_of _ (eq_nil _ _), cmpR_of _ (ne_nil _ _), cmpR_of _ (in_none_row _ _), cmpR_of _ (in_ints _ _ _), cmpR_of _ (ne_nilnil _), a1, b1, c1, m, mod_int S _ (A * B) (Int.mul_pos a2 b2)]
theorem F0_2 (S : Store) (a : Option D) (t c g : Int) (h0 : 0 ≤ t) (h1 : t ≤ 1) : ∃ sd : Int, 0 ≤ sd ∧ sd < 1606938044258990275541962092341162602522202993782792835301376 ∧
    evS P0 GV s0_2 [a, some (.dat (.int t)), some (.dat (.int c)), some (.dat (.int g))] S = .rt (.ref S.length) (S ++ [.lst [.dat (.int g), .dat (.int sd), .dat (.int 0)]]) := by
  generalize hw : (if decide (c < 0) = true then (1 : Int) else 0) = w
  have w0 : 0 ≤ w := by rw [← hw]; split <;> decide
  have w1 : w ≤ 1 := by rw [← hw]; split <;> decide
  generalize ha : (if c < 0 then -c else c) = ab
  generalize hr : ab % 1152921504606846999 = r
  have r0 : 0 ≤ r := by rw [← hr]; exact Int.emod_nonneg _ (by decide)
  have r1 : r < 1152921504606846999 := by rw [← hr]; exact Int.emod_lt_of_pos _ (by decide)
  have p61 : ((2 ^ 61 : Nat) : Int) = 2305843009213693952 := rfl
  have p30 : ((2 ^ 30 : Nat) : Int) = 1073741824 := rfl
  have k1 := log_small r 61 r0 (by omega) (by omega)
  have k2 := log_small 101 30 (by omega) (by omega) (by omega)
  have k3 := log_small 1049 30 (by omega) (by omega) (by omega)
  have k4 := log_small t 30 h0 (by omega) (by omega)
  have k5 := log_small 59 30 (by omega) (by omega) (by omega)
  have k6 := log_small w 30 w0 (by omega) (by omega)
  have m1 := mul_int S r 101 (by omega)
  have m2 := mul_int S 1049 t (by omega)
  have m3 := mul_int S 59 w (by omega)
  have d1 := mod_int S ab 1152921504606846999 (by decide)
  rw [hr] at d1
  refine ⟨r * 101 + 1049 * t + 59 * w + 29, by omega, by omega, ?_⟩
  unfold s0_2
  simp (maxDischargeDepth := 3) only [xE_var, xE_lit, xE_gv, xE_bin, xE_neg, xE_not, xE_and, xE_or, xE_cmp, xE_rcmp, xE_chain, xE_ite, xE_call, xE_blt, xE_idx, xE_sl, xE_tup, xE_lst, xE_comp, xE_kset, xE_isi, xA_one, xA_cons, xO_one, xO_cons, xL_nil, xL_cons, xL_star, xT_nil, xT_one, xU_none, xU_some, xI_one, xI_enum, xI_rng1, xI_rng2, xI_zip2, xS_asg, xS_par, xS_seti, xS_expr, xS_ret, xS_retN, xS_iff, xS_for, xSs_nil, xSs_cons, bind_ok, sr_ok, ofP_some, ofO_some, getV_some, getG_some, negR_int, fitR_ok, compR_some, callR_some, boolR_some, selR_t, selR_f, forkR_t, forkR_f, optR_some, iR_int, rng1R_int, rng2R_int, zipR_some, nxR_some, setR_some, at_nx, at_rt, truth_bool, truth_list, truth_tuple, put_nm, put_tp, put_tp2, setSlots_nil, setSlots_cons, add_int, sub_int, add_tup, add_lst, mod_int, lt_int, le_int, gt_int, ge_int, eq_int, ne_int, eq_bool, ne_bool, is_bool, isNot_bool, is_intN, isNot_intN, cmpR_of _ (lt_int _ _ _), cmpR_of _ (le_int _ _ _), cmpR_of _ (gt_int _ _ _), cmpR_of _ (ge_int _ _ _), cmpR_of _ (eq_int _ _ _), cmpR_of _ (ne_int _ _ _), cmpR_of _ (eq_bool _ _ _), cmpR_of _ (ne_bool _ _ _), cmpR_of _ (is_bool _ _ _), cmpR_of _ (isNot_bool _ _ _), cmpR_of _ (is_intN _ _), cmpR_of _ (isNot_intN _ _), len_tup, len_lst, len_scr, abs_int, int_int, int_bool, min_ints, max_ints, tuple_lst, tuple_tup, list_tup, mkL_f, mkT_f, toDats_cons, toDats_nil, toDats_app, List.append_nil, Nat.reduceAdd, Nat.reduceLeDiff, decide_true, decide_false, Int.reduceEq, srcOf_tup, srcOf_lst, isaD_dat, below_dat, leave_rtS, leave_nxS, wipe_nil, wipe_cons, map_some', len_one, len_enum, len_zip, len_rng, len_vals, truthR, List.getElem?_cons_zero, List.getElem?_cons_succ, List.set_cons_zero, List.set_cons_succ, List.length_cons, List.length_nil, List.length_map, List.reverse_cons, List.reverse_nil, List.nil_append, List.cons_append, List.map_cons, List.map_nil, Nat.zero_add, Bool.not_true, Bool.not_false, idx_t0, idx_t1, idx_t2, idx_l0, seq_tup, eq_row, eq_ints, eq_nil, ne_nil, in_none_row, in_ints, toDats_dat, intsOf_int, Option.bind_some, cmpR_of _ (eq_row _ _ _), cmpR_of _ (eq_ints _ _ _), cmpR_of _ (eq_nil _ _), cmpR_of _ (ne_nil _ _), cmpR_of _ (in_none_row _ _), cmpR_of _ (in_ints _ _ _), cmpR_of _ (ne_nilnil _), ha, d1, m1, m2, hw, m3, mkL]
theorem giveBack_ok (S : Store) (l : List D) (h : l.all (below S.length) = true) : leave S.length (.rt (.ref S.length) (S ++ [.lst l])) = .ok (.ref S.length) (S ++ [.lst l]) := by
  have h1 : Nat.blt S.length S.length = false := by
    rw [Bool.eq_false_iff]
    intro h
    exact absurd (Nat.blt_eq.mp h) (Nat.lt_irrefl _)
  have h2 : cellAt (S ++ [.lst l]) S.length = some l := by simp [cellAt]
  simp [leave, below, h1, giveBack, h2, h]
theorem F0_ok (S : Store) (ns : List Int) (t : Int) (h0 : 0 ≤ t) (h1 : t ≤ 1) : ∃ S', F0 [.scr ns, .dat (.int t)] S = .ok (.ref S.length) S' ∧ Jar S.length 0 S' ∧ S'.length = S.length + 1 := by
  obtain ⟨c, e0⟩ := F0_0 S ns t h0 h1
  obtain ⟨g, e1⟩ := F0_1 S (some (.scr ns)) (some (.dat (.int t))) c
  obtain ⟨sd, s0, s1, e2⟩ := F0_2 S (some (.scr ns)) t c g h0 h1
  refine ⟨S ++ [.lst [.dat (.int g), .dat (.int sd), .dat (.int 0)]], ?_, ⟨g, sd, 0, ?_, s0, s1, Int.le_refl _, Int.le_refl _⟩, by simp⟩
  · rw [in0, b0_eq, xSs_cons, e0, at_nx, xSs_cons, e1, at_nx, xSs_cons, e2, at_rt]
    exact giveBack_ok S _ rfl
  · exact (show (S ++ [.lst [.dat (.int g), .dat (.int sd), .dat (.int 0)]])[S.length]? = _ by simp)
theorem Bd.mono {c d : Int} {xs : List Int} (h : Bd c xs) (hc : c ≤ d) : Bd d xs := fun x hx => ⟨Int.le_trans (Int.neg_le_neg hc) (h x hx).1, Int.le_trans (h x hx).2 hc⟩
theorem Bd_jn {c d : Int} (a b : Int) {xs ys : List Int} (hx : Bd c xs) (hy : Bd c ys) (ha : -d ≤ a) (ha2 : a ≤ d) (hb : -d ≤ b) (hb2 : b ≤ d) (hl : xs.length = ys.length) : Bd (c + d) (jn a b xs ys) := by
  intro v hv
  obtain ⟨i, hi, e⟩ := List.mem_iff_getElem.mp hv
  have hl2 := len_jn a b xs ys hl
  rw [get_jn a b xs ys i (by omega) (by omega)] at e
  have h1 := hx xs[i] (List.getElem_mem _)
  have h2 := hy ys[i] (List.getElem_mem _)
  omega
theorem row_show (us : List Int) (h : Bd 1000000000000 us) : (row us).showable = true := by
  show PyData.showableAll _ = true
  refine shown_all _ fun p hp => ?_
  obtain ⟨x, hx, rfl⟩ := List.mem_map.mp hp
  have := h x hx
  have p41 : ((2 ^ 41 : Nat) : Int) = 2199023255552 := rfl
  show decide (x.natAbs.log2 < 1920) = true
  refine decide_eq_true ?_
  by_cases h0 : x.natAbs = 0
  · rw [h0]; decide
  · have : x.natAbs.log2 < 41 := (Nat.log2_lt h0).mpr (by omega)
    omega
theorem row_bulk (us : List Int) : (row us).bulk ≤ us.length := by
  have := bulk_all (us.map PyData.int) 0 (fun p hp => by
    obtain ⟨x, hx, rfl⟩ := List.mem_map.mp hp
    exact Nat.le_refl 0)
  rw [List.length_map, Nat.zero_add, Nat.one_mul] at this
  exact this
theorem eq_nilnil (S : Store) : cmpV .eq S (.dat (.list [])) (.dat (.list [])) = some true := eq_ints S [] []
theorem corner_eq (xs ys : List Int) (d : Int) : corner xs ys d = jn (d - (jn d 0 xs ys).headD 0) (0 - (jn d 0 xs ys).headD 0) xs ys := by
  generalize hh : (jn d 0 xs ys).headD 0 = h
  unfold corner
  rw [hh]
  unfold jn
  rw [List.map_zipWith]
  congr
  funext x y
  split <;> split <;> omega

theorem corner_bd {xs ys : List Int} (c : Int) (hl : xs.length = ys.length) (bx : Bd c xs) (by' : Bd c ys) (hc : 0 ≤ c) (d : Int) (hd : d ∈ df xs ys) : Bd (6 * c) (corner xs ys d) := by
  have hd2 : -(2 * c) ≤ d ∧ d ≤ 2 * c := by
    obtain ⟨i, h1, h2, e⟩ := (mem_df xs ys d).mp hd
    have b1 := bx _ (List.getElem_mem h1)
    have b2 := by' _ (List.getElem_mem h2)
    omega
  have hb := Bd_jn (c := c) (d := 2 * c) d 0 bx by' hd2.1 hd2.2 (by omega) (by omega) hl
  intro v hv
  unfold corner at hv
  obtain ⟨u, hu, rfl⟩ := List.mem_map.mp hv
  have b1 := hb u hu
  have b2 : -(3 * c) ≤ (jn d 0 xs ys).headD 0 ∧ (jn d 0 xs ys).headD 0 ≤ 3 * c := by
    cases e : jn d 0 xs ys with
    | nil =>
      show -(3 * c) ≤ 0 ∧ 0 ≤ 3 * c
      omega
    | cons w r =>
      have := hb w (by rw [e]; exact List.mem_cons_self)
      show -(3 * c) ≤ w ∧ w ≤ 3 * c
      omega
  omega
/-! ### what repr tells -/
def simpleP (p : PyData) : Prop := p.canLay0 = true ∧ p.depth ≤ 10 ∧ p.showable = true ∧ p.bulk ≤ 50
theorem rep_list (S : Store) (l : List PyData) (h : ∀ p ∈ l, simpleP p) (hl : l.length ≤ 100) : reprP S (.dat (.list l)) = some (.list l) := by
  have h1 : shapedOk (.list l) = true := shaped_lst l (fun p hp => (h p hp).1) (fun p hp => Nat.le_trans (h p hp).2.1 (by omega))
  have h2 : (PyData.list l).showable = true := shown_all l fun p hp => (h p hp).2.2.1
  have h3 : (PyData.list l).bulk ≤ 8000 := by
    have := bulk_all l 50 fun p hp => (h p hp).2.2.2
    show PyData.bulkAll l ≤ 8000
    have : (50 + 1) * l.length ≤ 51 * 100 := Nat.mul_le_mul_left _ hl
    omega
  show (if (shapedOk (.list l) && (PyData.list l).showable && Nat.ble (PyData.list l).bulk 8000) = true then some (PyData.list l) else none) = _
  rw [h1, h2, Nat.ble_eq.mpr h3]
  rfl
theorem rep_tup (S : Store) (l : List PyData) (h : ∀ p ∈ l, simpleP p) (hl : l.length ≤ 100) : reprP S (.dat (.tuple l)) = some (.tuple l) := by
  have h1 : shapedOk (.tuple l) = true := shaped_tup l (fun p hp => (h p hp).1) (fun p hp => Nat.le_trans (h p hp).2.1 (by omega))
  have h2 : (PyData.tuple l).showable = true := shown_all l fun p hp => (h p hp).2.2.1
  have h3 : (PyData.tuple l).bulk ≤ 8000 := by
    have := bulk_all l 50 fun p hp => (h p hp).2.2.2
    show PyData.bulkAll l ≤ 8000
    have : (50 + 1) * l.length ≤ 51 * 100 := Nat.mul_le_mul_left _ hl
    omega
  show (if (shapedOk (.tuple l) && (PyData.tuple l).showable && Nat.ble (PyData.tuple l).bulk 8000) = true then some (PyData.tuple l) else none) = _
  rw [h1, h2, Nat.ble_eq.mpr h3]
  rfl
theorem simple_int (i : Int) (h : -1000000000000 ≤ i) (h2 : i ≤ 1000000000000) : simpleP (.int i) := by
  refine ⟨rfl, Nat.zero_le _, ?_, Nat.zero_le _⟩
  have p41 : ((2 ^ 41 : Nat) : Int) = 2199023255552 := rfl
  show decide (i.natAbs.log2 < 1920) = true
  refine decide_eq_true ?_
  by_cases h0 : i.natAbs = 0
  · rw [h0]; decide
  · have : i.natAbs.log2 < 41 := (Nat.log2_lt h0).mpr (by omega)
    omega
theorem simple_bool (b : Bool) : simpleP (.bool b) := ⟨rfl, Nat.zero_le _, rfl, Nat.zero_le _⟩
theorem simple_row (us : List Int) (h : Bd 1000000000000 us) (hl : us.length ≤ 50) : simpleP (row us) :=
  ⟨row_can us, Nat.le_trans (row_dep us) (by omega), row_show us h, Nat.le_trans (row_bulk us) hl⟩
mutual
theorem same_refl : ∀ p : PyData, p.canLay0 = true → sameP p p = true
  | .none, _ => rfl
  | .bool b, _ => by cases b <;> rfl
  | .int i, _ => decide_eq_true rfl
  | .str s, _ => decide_eq_true rfl
  | .tuple l, h => same_all l h
  | .list l, h => same_all l h
  | .dict _, h => nomatch h
theorem same_all : ∀ l : List PyData, PyData.canLayAll0 l = true → sameAll l l = true
  | [], _ => rfl
  | a :: r, h => by
    have h' : (a.canLay0 && PyData.canLayAll0 r) = true := h
    rw [Bool.and_eq_true] at h'
    show (sameP a a && sameAll r r) = true
    rw [same_refl a h'.1, same_all r h'.2]
    rfl
end
theorem rc_same (S : Store) (p : PyData) (h : p.canLay0 = true) : rcmpV true p p S = some (.dat (.bool false), S) := by
  show some (D.dat (.bool (!(sameP _ _ || _))), S) = _
  rw [same_refl p h]
  rfl
theorem rc_same' (S : Store) (p : PyData) (h : p.canLay0 = true) : rcmpV false p p S = some (.dat (.bool true), S) := by
  show some (D.dat (.bool (sameP _ _ || _)), S) = _
  rw [same_refl p h]
  rfl
theorem can_of_rep {S : Store} {p : PyData} (h : reprP S (.dat p) = some p) : p.canLay0 = true := by
  have h' : (if reprOk p = true then some p else none) = some p := h
  by_cases e : reprOk p = true
  · unfold reprOk shapedOk SeqAt.shaped at e
    simp only [Bool.and_eq_true] at e
    exact e.1.1.1
  · rw [if_neg e] at h'
    cases h'
theorem ne_ints (S : Store) (xs ys : List Int) : cmpV .ne S (.dat (.list (xs.map .int))) (.dat (.list (ys.map .int))) = some (!decide (xs = ys)) := by
  show (cmpV .eq S (.dat (.list (xs.map .int))) (.dat (.list (ys.map .int)))).map _ = _
  rw [eq_ints]
  rfl
theorem rowsOf_rows (l : List (List Int)) : MP.rowsOf (l.map row) = some l := by
  induction l with
  | nil => rfl
  | cons a r ih =>
    show (match intsOf (a.map .int), MP.rowsOf (r.map row) with
      | some a, some b => some (a :: b)
      | _, _ => none) = _
    rw [intsOf_int, ih]
theorem sset_len (S : Store) (l : List (List Int)) (h : l.length < 64) : ssetV .len (.dat (.list (l.map row))) S = some (.dat (.int ((dedR l).length : Nat)), S) := by
  show ((MP.rowsOf (l.map row)).bind fun ks => if Nat.blt ks.length 64 then pin (.int ((dedR ks).length : Nat)) S else none) = _
  rw [rowsOf_rows, Option.bind_some, if_pos (Nat.blt_eq.mpr h)]
  rfl
theorem sset_srt (S : Store) (l : List Int) (h : l.length < 64) : ssetV (.srt false) (.dat (.list (l.map .int))) S = some (.dat (.list ((sortI (dedI l)).map .int)), S) := by
  show ((intsOf (l.map .int)).bind fun ns => if Nat.blt ns.length 64 then mkL false ((sortI (dedI ns)).map fun i => .dat (.int i)) S else none) = _
  rw [intsOf_int, Option.bind_some, if_pos (Nat.blt_eq.mpr h)]
  have := mkL_dat S ((sortI (dedI l)).map .int)
  rw [List.map_map] at this
  exact this
theorem sl_list2 (S : Store) (l : List Int) : slV (.dat (.list (l.map .int))) none (some 2) S = some (.dat (.list ((l.take 2).map .int)), S) := by
  have e0 : HT.sIx (l.map PyData.int).length 0 none = 0 := rfl
  have e2 : HT.sIx (l.map PyData.int).length (l.map PyData.int).length (some 2) = min 2 (l.map PyData.int).length := rfl
  show ((toDats ((l.map PyData.int).map .dat)).map fun q => (D.dat (.list (cutL q none (some 2))), S)) = _
  rw [toDats_dat]
  show some (D.dat (.list (cutL (l.map .int) none (some 2))), S) = _
  unfold cutL
  rw [e0, e2, List.drop_zero, Nat.sub_zero, List.map_take]
  have e : List.take (min 2 (l.map PyData.int).length) (l.map PyData.int) = List.take 2 (l.map PyData.int) := by
    rw [List.take_eq_take_iff]
    omega
  rw [e]
end LW
end
section
namespace LW
open MP PySem
theorem in25 (S : Store) (a : D) : F25 [a] S = leave S.length (evSs P25 GV b_d25 [some a, none, none, none, none, none, none, none, none, none, none, none, none, none, none, none, none, none, none] S) := rfl
theorem p25_9 : P25[9]? = some F9 := rfl
theorem p25_10 : P25[10]? = some F10 := rfl
theorem p25_11 : P25[11]? = some F11 := rfl
theorem p25_13 : P25[13]? = some F13 := rfl
theorem p25_16 : P25[16]? = some F16 := rfl
theorem p25_17 : P25[17]? = some F17 := rfl
theorem p25_19 : P25[19]? = some F19 := rfl
theorem p25_20 : P25[20]? = some F20 := rfl
theorem p25_21 : P25[21]? = some F21 := rfl
theorem p25_22 : P25[22]? = some F22 := rfl
theorem p25_23 : P25[23]? = some F23 := rfl
theorem p25_24 : P25[24]? = some F24 := rfl
abbrev ad (us zs : List Int) : List Int := List.zipWith (fun a b => a + b) us zs
variable (S : Store) (a0 a1 a2 a3 a4 a5 a6 a7 a8 a9 a10 a11 a12 a13 a14 a15 a16 a17 a18 : Option D)
theorem st25_0 (n k : Nat) (hj : Jar n k S) (hk : k ≤ 1000000) : ∃ (s : Nat) (t : Int) (S1 : Store), evS P25 GV s25_0 [some (.ref n), a1, a2, a3, a4, a5, a6, a7, a8, a9, a10, a11, a12, a13, a14, a15, a16, a17, a18] S = .nx [some (.ref n), some (.dat (.int t)), a2, a3, a4, a5, a6, a7, a8, a9, a10, a11, a12, a13, a14, a15, a16, a17, a18] S1 ∧ t = (s : Nat) ∧ 1 ≤ s ∧ s ≤ 5 ∧ Jar n (k + 1) S1 ∧ S1.length = S.length := by
  obtain ⟨v, S1, e1, e2, e3, e4, e5⟩ := F20_ok S n k 5 hj hk (by decide) (by decide)
  refine ⟨(1 + v).toNat, 1 + v, S1, ?_, by omega, by omega, by omega, e4, e5⟩
  unfold s25_0
  simp (maxDischargeDepth := 3) only [xE_var, xE_lit, xE_gv, xE_bin, xE_neg, xE_not, xE_and, xE_or, xE_cmp, xE_rcmp, xE_chain, xE_ite, xE_call, xE_blt, xE_idx, xE_sl, xE_tup, xE_lst, xE_comp, xE_kset, xE_isi, xA_one, xA_cons, xO_one, xO_cons, xL_nil, xL_cons, xL_star, xT_nil, xT_one, xU_none, xU_some, xI_one, xI_enum, xI_rng1, xI_rng2, xI_zip2, xS_asg, xS_par, xS_seti, xS_expr, xS_ret, xS_retN, xS_iff, xS_for, xSs_nil, xSs_cons, bind_ok, sr_ok, ofP_some, ofO_some, getV_some, getG_some, negR_int, fitR_ok, compR_some, callR_some, boolR_some, selR_t, selR_f, forkR_t, forkR_f, optR_some, iR_int, rng1R_int, rng2R_int, zipR_some, nxR_some, setR_some, at_nx, at_rt, truth_bool, truth_list, truth_tuple, put_nm, put_tp, put_tp2, setSlots_nil, setSlots_cons, add_int, sub_int, add_tup, add_lst, mod_int, lt_int, le_int, gt_int, ge_int, eq_int, ne_int, eq_bool, ne_bool, is_bool, isNot_bool, is_intN, isNot_intN, cmpR_of _ (lt_int _ _ _), cmpR_of _ (le_int _ _ _), cmpR_of _ (gt_int _ _ _), cmpR_of _ (ge_int _ _ _), cmpR_of _ (eq_int _ _ _), cmpR_of _ (ne_int _ _ _), cmpR_of _ (eq_bool _ _ _), cmpR_of _ (ne_bool _ _ _), cmpR_of _ (is_bool _ _ _), cmpR_of _ (isNot_bool _ _ _), cmpR_of _ (is_intN _ _), cmpR_of _ (isNot_intN _ _), len_tup, len_lst, len_scr, abs_int, int_int, int_bool, min_ints, max_ints, tuple_lst, tuple_tup, list_tup, mkL_f, mkT_f, toDats_cons, toDats_nil, toDats_app, List.append_nil, Nat.reduceAdd, Nat.reduceLeDiff, decide_true, decide_false, Int.reduceEq, srcOf_tup, srcOf_lst, isaD_dat, below_dat, leave_rtS, leave_nxS, wipe_nil, wipe_cons, map_some', len_one, len_enum, len_zip, len_rng, len_vals, truthR, List.getElem?_cons_zero, List.getElem?_cons_succ, List.set_cons_zero, List.set_cons_succ, List.length_cons, List.length_nil, List.length_map, List.reverse_cons, List.reverse_nil, List.nil_append, List.cons_append, List.map_cons, List.map_nil, Nat.zero_add, Bool.not_true, Bool.not_false, idx_t0, idx_t1, idx_t2, idx_l0, seq_tup, eq_row, eq_ints, eq_nil, ne_nil, in_none_row, in_ints, toDats_dat, intsOf_int, Option.bind_some, cmpR_of _ (eq_row _ _ _), cmpR_of _ (eq_ints _ _ _), cmpR_of _ (eq_nil _ _), cmpR_of _ (ne_nil _ _), cmpR_of _ (in_none_row _ _), cmpR_of _ (in_ints _ _ _), cmpR_of _ (ne_nilnil _), p25_20, e1]
theorem st25_1 (n k s : Nat) (t : Int) (hj : Jar n k S) (hk : k + 100 ≤ 1000000) (ht : t = (s : Nat)) (h1 : 1 ≤ s) (h5 : s ≤ 5) : ∃ (xs zs : List Int) (S1 : Store), evS P25 GV s25_1 [some (.ref n), some (.dat (.int t)), a2, a3, a4, a5, a6, a7, a8, a9, a10, a11, a12, a13, a14, a15, a16, a17, a18] S = .nx [some (.ref n), some (.dat (.int t)), a2, a3, a4, a5, a6, a7, a8, a9, a10, a11, some (.dat (row xs)), some (.dat (row zs)), a14, a15, a16, a17, a18] S1 ∧ xs.length = s ∧ zs.length = s ∧ Bd 100000000 xs ∧ Bd 100000000 zs ∧ Jar n (k + 12) S1 ∧ S1.length = S.length := by
  obtain ⟨xs, S1, e1, e2, e3, e4, e5⟩ := F23_ok S n k s t ht hj (by omega) h1 h5
  obtain ⟨ys, S2, f1, f2, f3, f4, f5⟩ := F23_ok S1 n (k + 6) s t ht e4 (by omega) h1 h5
  refine ⟨xs, ys, S2, ?_, e2, f2, e3, f3, f4, by omega⟩
  clear ht
  unfold s25_1
  simp (maxDischargeDepth := 3) only [xE_var, xE_lit, xE_gv, xE_bin, xE_neg, xE_not, xE_and, xE_or, xE_cmp, xE_rcmp, xE_chain, xE_ite, xE_call, xE_blt, xE_idx, xE_sl, xE_tup, xE_lst, xE_comp, xE_kset, xE_isi, xA_one, xA_cons, xO_one, xO_cons, xL_nil, xL_cons, xL_star, xT_nil, xT_one, xU_none, xU_some, xI_one, xI_enum, xI_rng1, xI_rng2, xI_zip2, xS_asg, xS_par, xS_seti, xS_expr, xS_ret, xS_retN, xS_iff, xS_for, xSs_nil, xSs_cons, bind_ok, sr_ok, ofP_some, ofO_some, getV_some, getG_some, negR_int, fitR_ok, compR_some, callR_some, boolR_some, selR_t, selR_f, forkR_t, forkR_f, optR_some, iR_int, rng1R_int, rng2R_int, zipR_some, nxR_some, setR_some, at_nx, at_rt, truth_bool, truth_list, truth_tuple, put_nm, put_tp, put_tp2, setSlots_nil, setSlots_cons, add_int, sub_int, add_tup, add_lst, mod_int, lt_int, le_int, gt_int, ge_int, eq_int, ne_int, eq_bool, ne_bool, is_bool, isNot_bool, is_intN, isNot_intN, cmpR_of _ (lt_int _ _ _), cmpR_of _ (le_int _ _ _), cmpR_of _ (gt_int _ _ _), cmpR_of _ (ge_int _ _ _), cmpR_of _ (eq_int _ _ _), cmpR_of _ (ne_int _ _ _), cmpR_of _ (eq_bool _ _ _), cmpR_of _ (ne_bool _ _ _), cmpR_of _ (is_bool _ _ _), cmpR_of _ (isNot_bool _ _ _), cmpR_of _ (is_intN _ _), cmpR_of _ (isNot_intN _ _), len_tup, len_lst, len_scr, abs_int, int_int, int_bool, min_ints, max_ints, tuple_lst, tuple_tup, list_tup, mkL_f, mkT_f, toDats_cons, toDats_nil, toDats_app, List.append_nil, Nat.reduceAdd, Nat.reduceLeDiff, decide_true, decide_false, Int.reduceEq, srcOf_tup, srcOf_lst, isaD_dat, below_dat, leave_rtS, leave_nxS, wipe_nil, wipe_cons, map_some', len_one, len_enum, len_zip, len_rng, len_vals, truthR, List.getElem?_cons_zero, List.getElem?_cons_succ, List.set_cons_zero, List.set_cons_succ, List.length_cons, List.length_nil, List.length_map, List.reverse_cons, List.reverse_nil, List.nil_append, List.cons_append, List.map_cons, List.map_nil, Nat.zero_add, Bool.not_true, Bool.not_false, idx_t0, idx_t1, idx_t2, idx_l0, seq_tup, eq_row, eq_ints, eq_nil, ne_nil, in_none_row, in_ints, toDats_dat, intsOf_int, Option.bind_some, cmpR_of _ (eq_row _ _ _), cmpR_of _ (eq_ints _ _ _), cmpR_of _ (eq_nil _ _), cmpR_of _ (ne_nil _ _), cmpR_of _ (in_none_row _ _), cmpR_of _ (in_ints _ _ _), cmpR_of _ (ne_nilnil _), p25_23, e1, f1]
theorem st25_2 (n k : Nat) (hj : Jar n k S) (hk : k + 100 ≤ 1000000) : ∃ (g : Int) (S1 : Store), evS P25 GV s25_2 [some (.ref n), a1, a2, a3, a4, a5, a6, a7, a8, a9, a10, a11, a12, a13, a14, a15, a16, a17, a18] S = .nx [some (.ref n), a1, some (.dat (.int g)), a3, a4, a5, a6, a7, a8, a9, a10, a11, a12, a13, a14, a15, a16, a17, a18] S1 ∧ 0 ≤ g ∧ g < 99 ∧ Jar n (k + 1) S1 ∧ S1.length = S.length := by
  obtain ⟨v, S1, e1, e2, e3, e4, e5⟩ := F20_ok S n k 99 hj (by omega) (by decide) (by decide)
  refine ⟨v, S1, ?_, e2, e3, e4, e5⟩
  unfold s25_2
  simp (maxDischargeDepth := 3) only [xE_var, xE_lit, xE_gv, xE_bin, xE_neg, xE_not, xE_and, xE_or, xE_cmp, xE_rcmp, xE_chain, xE_ite, xE_call, xE_blt, xE_idx, xE_sl, xE_tup, xE_lst, xE_comp, xE_kset, xE_isi, xA_one, xA_cons, xO_one, xO_cons, xL_nil, xL_cons, xL_star, xT_nil, xT_one, xU_none, xU_some, xI_one, xI_enum, xI_rng1, xI_rng2, xI_zip2, xS_asg, xS_par, xS_seti, xS_expr, xS_ret, xS_retN, xS_iff, xS_for, xSs_nil, xSs_cons, bind_ok, sr_ok, ofP_some, ofO_some, getV_some, getG_some, negR_int, fitR_ok, compR_some, callR_some, boolR_some, selR_t, selR_f, forkR_t, forkR_f, optR_some, iR_int, rng1R_int, rng2R_int, zipR_some, nxR_some, setR_some, at_nx, at_rt, truth_bool, truth_list, truth_tuple, put_nm, put_tp, put_tp2, setSlots_nil, setSlots_cons, add_int, sub_int, add_tup, add_lst, mod_int, lt_int, le_int, gt_int, ge_int, eq_int, ne_int, eq_bool, ne_bool, is_bool, isNot_bool, is_intN, isNot_intN, cmpR_of _ (lt_int _ _ _), cmpR_of _ (le_int _ _ _), cmpR_of _ (gt_int _ _ _), cmpR_of _ (ge_int _ _ _), cmpR_of _ (eq_int _ _ _), cmpR_of _ (ne_int _ _ _), cmpR_of _ (eq_bool _ _ _), cmpR_of _ (ne_bool _ _ _), cmpR_of _ (is_bool _ _ _), cmpR_of _ (isNot_bool _ _ _), cmpR_of _ (is_intN _ _), cmpR_of _ (isNot_intN _ _), len_tup, len_lst, len_scr, abs_int, int_int, int_bool, min_ints, max_ints, tuple_lst, tuple_tup, list_tup, mkL_f, mkT_f, toDats_cons, toDats_nil, toDats_app, List.append_nil, Nat.reduceAdd, Nat.reduceLeDiff, decide_true, decide_false, Int.reduceEq, srcOf_tup, srcOf_lst, isaD_dat, below_dat, leave_rtS, leave_nxS, wipe_nil, wipe_cons, map_some', len_one, len_enum, len_zip, len_rng, len_vals, truthR, List.getElem?_cons_zero, List.getElem?_cons_succ, List.set_cons_zero, List.set_cons_succ, List.length_cons, List.length_nil, List.length_map, List.reverse_cons, List.reverse_nil, List.nil_append, List.cons_append, List.map_cons, List.map_nil, Nat.zero_add, Bool.not_true, Bool.not_false, idx_t0, idx_t1, idx_t2, idx_l0, seq_tup, eq_row, eq_ints, eq_nil, ne_nil, in_none_row, in_ints, toDats_dat, intsOf_int, Option.bind_some, cmpR_of _ (eq_row _ _ _), cmpR_of _ (eq_ints _ _ _), cmpR_of _ (eq_nil _ _), cmpR_of _ (ne_nil _ _), cmpR_of _ (in_none_row _ _), cmpR_of _ (in_ints _ _ _), cmpR_of _ (ne_nilnil _), p25_20, e1]
theorem st25_3 (n k s : Nat) (t g : Int) (xs : List Int) (hj : Jar n k S) (hk : k + 100 ≤ 1000000) (ht : t = (s : Nat)) (h1 : 1 ≤ s) (h5 : s ≤ 5) (hx : xs.length = s) (bx : Bd 100000000 xs) (hg : 0 ≤ g) (hg2 : g < 99) : ∃ (ys : List Int) (S1 : Store), evS P25 GV s25_3 [some (.ref n), some (.dat (.int t)), some (.dat (.int g)), a3, a4, a5, a6, a7, a8, a9, a10, a11, some (.dat (row xs)), a13, a14, a15, a16, a17, a18] S = .nx [some (.ref n), some (.dat (.int t)), some (.dat (.int g)), some (.dat (row ys)), a4, a5, a6, a7, a8, a9, a10, a11, some (.dat (row xs)), a13, a14, a15, a16, a17, a18] S1 ∧ ys.length = s ∧ Bd 100000098 ys ∧ Jar n (k + 7) S1 ∧ S1.length = S.length := by
  obtain ⟨rs, S1, e1, e2, e3, e4, e5⟩ := F23_ok S n k s t ht hj (by omega) h1 h5
  have c := comp_1ii (Φ := P25) (G := GV) (S := S1) (i := 16) (ev := [some (.ref n), some (.dat (.int t)), some (.dat (.int g)), a3, a4, a5, a6, a7, a8, a9, a10, a11, some (.dat (row xs)), a13, a14, a15, none, a17, a18]) (elt := .bin .add (.var 16) (.var 2)) xs (fun v => v + g) (fun v _ => by simp (maxDischargeDepth := 3) only [xE_var, xE_lit, xE_gv, xE_bin, xE_neg, xE_not, xE_and, xE_or, xE_cmp, xE_rcmp, xE_chain, xE_ite, xE_call, xE_blt, xE_idx, xE_sl, xE_tup, xE_lst, xE_comp, xE_kset, xE_isi, xA_one, xA_cons, xO_one, xO_cons, xL_nil, xL_cons, xL_star, xT_nil, xT_one, xU_none, xU_some, xI_one, xI_enum, xI_rng1, xI_rng2, xI_zip2, xS_asg, xS_par, xS_seti, xS_expr, xS_ret, xS_retN, xS_iff, xS_for, xSs_nil, xSs_cons, bind_ok, sr_ok, ofP_some, ofO_some, getV_some, getG_some, negR_int, fitR_ok, compR_some, callR_some, boolR_some, selR_t, selR_f, forkR_t, forkR_f, optR_some, iR_int, rng1R_int, rng2R_int, zipR_some, nxR_some, setR_some, at_nx, at_rt, truth_bool, truth_list, truth_tuple, put_nm, put_tp, put_tp2, setSlots_nil, setSlots_cons, add_int, sub_int, add_tup, add_lst, mod_int, lt_int, le_int, gt_int, ge_int, eq_int, ne_int, eq_bool, ne_bool, is_bool, isNot_bool, is_intN, isNot_intN, cmpR_of _ (lt_int _ _ _), cmpR_of _ (le_int _ _ _), cmpR_of _ (gt_int _ _ _), cmpR_of _ (ge_int _ _ _), cmpR_of _ (eq_int _ _ _), cmpR_of _ (ne_int _ _ _), cmpR_of _ (eq_bool _ _ _), cmpR_of _ (ne_bool _ _ _), cmpR_of _ (is_bool _ _ _), cmpR_of _ (isNot_bool _ _ _), cmpR_of _ (is_intN _ _), cmpR_of _ (isNot_intN _ _), len_tup, len_lst, len_scr, abs_int, int_int, int_bool, min_ints, max_ints, tuple_lst, tuple_tup, list_tup, mkL_f, mkT_f, toDats_cons, toDats_nil, toDats_app, List.append_nil, Nat.reduceAdd, Nat.reduceLeDiff, decide_true, decide_false, Int.reduceEq, srcOf_tup, srcOf_lst, isaD_dat, below_dat, leave_rtS, leave_nxS, wipe_nil, wipe_cons, map_some', len_one, len_enum, len_zip, len_rng, len_vals, truthR, List.getElem?_cons_zero, List.getElem?_cons_succ, List.set_cons_zero, List.set_cons_succ, List.length_cons, List.length_nil, List.length_map, List.reverse_cons, List.reverse_nil, List.nil_append, List.cons_append, List.map_cons, List.map_nil, Nat.zero_add, Bool.not_true, Bool.not_false, idx_t0, idx_t1, idx_t2, idx_l0, seq_tup, eq_row, eq_ints, eq_nil, ne_nil, in_none_row, in_ints, toDats_dat, intsOf_int, Option.bind_some, cmpR_of _ (eq_row _ _ _), cmpR_of _ (eq_ints _ _ _), cmpR_of _ (eq_nil _ _), cmpR_of _ (ne_nil _ _), cmpR_of _ (in_none_row _ _), cmpR_of _ (in_ints _ _ _), cmpR_of _ (ne_nilnil _)])
  obtain ⟨v, p, S2, f1, f2, f3, f4⟩ := F21_ok S1 n (k + 6) [row rs, row (xs.map fun v => v + g)] e4 (by omega) (by simp) (by simp)
  have hp : ∃ ys, p = row ys ∧ ys.length = s ∧ Bd 100000098 ys := by
    match v, f2 with
    | 0, f2 => exact ⟨rs, (Option.some.inj f2).symm, e2, e3.mono (by decide)⟩
    | 1, f2 =>
      refine ⟨xs.map fun v => v + g, (Option.some.inj f2).symm, by simp [hx], fun u hu => ?_⟩
      obtain ⟨w, hw, rfl⟩ := List.mem_map.mp hu
      have := bx w hw
      omega
  obtain ⟨ys, rfl, hy, by'⟩ := hp
  refine ⟨ys, S2, ?_, hy, by', f3, by omega⟩
  have hd : xs.length ≤ 16777216 := by omega
  clear ht
  unfold s25_3
  simp (maxDischargeDepth := 3) only [xE_var, xE_lit, xE_gv, xE_bin, xE_neg, xE_not, xE_and, xE_or, xE_cmp, xE_rcmp, xE_chain, xE_ite, xE_call, xE_blt, xE_idx, xE_sl, xE_tup, xE_lst, xE_comp, xE_kset, xE_isi, xA_one, xA_cons, xO_one, xO_cons, xL_nil, xL_cons, xL_star, xT_nil, xT_one, xU_none, xU_some, xI_one, xI_enum, xI_rng1, xI_rng2, xI_zip2, xS_asg, xS_par, xS_seti, xS_expr, xS_ret, xS_retN, xS_iff, xS_for, xSs_nil, xSs_cons, bind_ok, sr_ok, ofP_some, ofO_some, getV_some, getG_some, negR_int, fitR_ok, compR_some, callR_some, boolR_some, selR_t, selR_f, forkR_t, forkR_f, optR_some, iR_int, rng1R_int, rng2R_int, zipR_some, nxR_some, setR_some, at_nx, at_rt, truth_bool, truth_list, truth_tuple, put_nm, put_tp, put_tp2, setSlots_nil, setSlots_cons, add_int, sub_int, add_tup, add_lst, mod_int, lt_int, le_int, gt_int, ge_int, eq_int, ne_int, eq_bool, ne_bool, is_bool, isNot_bool, is_intN, isNot_intN, cmpR_of _ (lt_int _ _ _), cmpR_of _ (le_int _ _ _), cmpR_of _ (gt_int _ _ _), cmpR_of _ (ge_int _ _ _), cmpR_of _ (eq_int _ _ _), cmpR_of _ (ne_int _ _ _), cmpR_of _ (eq_bool _ _ _), cmpR_of _ (ne_bool _ _ _), cmpR_of _ (is_bool _ _ _), cmpR_of _ (isNot_bool _ _ _), cmpR_of _ (is_intN _ _), cmpR_of _ (isNot_intN _ _), len_tup, len_lst, len_scr, abs_int, int_int, int_bool, min_ints, max_ints, tuple_lst, tuple_tup, list_tup, mkL_f, mkT_f, toDats_cons, toDats_nil, toDats_app, List.append_nil, Nat.reduceAdd, Nat.reduceLeDiff, decide_true, decide_false, Int.reduceEq, srcOf_tup, srcOf_lst, isaD_dat, below_dat, leave_rtS, leave_nxS, wipe_nil, wipe_cons, map_some', len_one, len_enum, len_zip, len_rng, len_vals, truthR, List.getElem?_cons_zero, List.getElem?_cons_succ, List.set_cons_zero, List.set_cons_succ, List.length_cons, List.length_nil, List.length_map, List.reverse_cons, List.reverse_nil, List.nil_append, List.cons_append, List.map_cons, List.map_nil, Nat.zero_add, Bool.not_true, Bool.not_false, idx_t0, idx_t1, idx_t2, idx_l0, seq_tup, eq_row, eq_ints, eq_nil, ne_nil, in_none_row, in_ints, toDats_dat, intsOf_int, Option.bind_some, cmpR_of _ (eq_row _ _ _), cmpR_of _ (eq_ints _ _ _), cmpR_of _ (eq_nil _ _), cmpR_of _ (ne_nil _ _), cmpR_of _ (in_none_row _ _), cmpR_of _ (in_ints _ _ _), cmpR_of _ (ne_nilnil _), p25_23, p25_21, e1, c, hd, f1]
section
variable {s : Nat} {xs ys zs : List Int} (hx : Rw s xs) (hy : Rw s ys) (hz : Rw s zs)
include hx hy
theorem st25_4 : evS P25 GV s25_4 [a0, a1, a2, some (.dat (row ys)), a4, a5, a6, a7, a8, a9, a10, a11, some (.dat (row xs)), a13, a14, a15, a16, a17, a18] S = .nx [a0, a1, a2, some (.dat (row ys)), some (.dat (.list ((sd xs ys).map .int))), a5, a6, a7, a8, a9, a10, a11, some (.dat (row xs)), a13, a14, a15, a16, a17, a18] S := by
  have l1 := hx.len
  have l2 := hy.len
  have l5 := hx.le
  have c := comp_zi (Φ := P25) (G := GV) (S := S) (i := 17) (j := 18) (ev := [a0, a1, a2, some (.dat (row ys)), a4, a5, a6, a7, a8, a9, a10, a11, some (.dat (row xs)), a13, a14, a15, a16, none, none]) (elt := .bin .sub (.var 18) (.var 17)) xs ys (by omega) (fun x y => y - x) (fun x y => by simp (maxDischargeDepth := 3) only [xE_var, xE_lit, xE_gv, xE_bin, xE_neg, xE_not, xE_and, xE_or, xE_cmp, xE_rcmp, xE_chain, xE_ite, xE_call, xE_blt, xE_idx, xE_sl, xE_tup, xE_lst, xE_comp, xE_kset, xE_isi, xA_one, xA_cons, xO_one, xO_cons, xL_nil, xL_cons, xL_star, xT_nil, xT_one, xU_none, xU_some, xI_one, xI_enum, xI_rng1, xI_rng2, xI_zip2, xS_asg, xS_par, xS_seti, xS_expr, xS_ret, xS_retN, xS_iff, xS_for, xSs_nil, xSs_cons, bind_ok, sr_ok, ofP_some, ofO_some, getV_some, getG_some, negR_int, fitR_ok, compR_some, callR_some, boolR_some, selR_t, selR_f, forkR_t, forkR_f, optR_some, iR_int, rng1R_int, rng2R_int, zipR_some, nxR_some, setR_some, at_nx, at_rt, truth_bool, truth_list, truth_tuple, put_nm, put_tp, put_tp2, setSlots_nil, setSlots_cons, add_int, sub_int, add_tup, add_lst, mod_int, lt_int, le_int, gt_int, ge_int, eq_int, ne_int, eq_bool, ne_bool, is_bool, isNot_bool, is_intN, isNot_intN, cmpR_of _ (lt_int _ _ _), cmpR_of _ (le_int _ _ _), cmpR_of _ (gt_int _ _ _), cmpR_of _ (ge_int _ _ _), cmpR_of _ (eq_int _ _ _), cmpR_of _ (ne_int _ _ _), cmpR_of _ (eq_bool _ _ _), cmpR_of _ (ne_bool _ _ _), cmpR_of _ (is_bool _ _ _), cmpR_of _ (isNot_bool _ _ _), cmpR_of _ (is_intN _ _), cmpR_of _ (isNot_intN _ _), len_tup, len_lst, len_scr, abs_int, int_int, int_bool, min_ints, max_ints, tuple_lst, tuple_tup, list_tup, mkL_f, mkT_f, toDats_cons, toDats_nil, toDats_app, List.append_nil, Nat.reduceAdd, Nat.reduceLeDiff, decide_true, decide_false, Int.reduceEq, srcOf_tup, srcOf_lst, isaD_dat, below_dat, leave_rtS, leave_nxS, wipe_nil, wipe_cons, map_some', len_one, len_enum, len_zip, len_rng, len_vals, truthR, List.getElem?_cons_zero, List.getElem?_cons_succ, List.set_cons_zero, List.set_cons_succ, List.length_cons, List.length_nil, List.length_map, List.reverse_cons, List.reverse_nil, List.nil_append, List.cons_append, List.map_cons, List.map_nil, Nat.zero_add, Bool.not_true, Bool.not_false, idx_t0, idx_t1, idx_t2, idx_l0, seq_tup, eq_row, eq_ints, eq_nil, ne_nil, in_none_row, in_ints, toDats_dat, intsOf_int, Option.bind_some, cmpR_of _ (eq_row _ _ _), cmpR_of _ (eq_ints _ _ _), cmpR_of _ (eq_nil _ _), cmpR_of _ (ne_nil _ _), cmpR_of _ (in_none_row _ _), cmpR_of _ (in_ints _ _ _), cmpR_of _ (ne_nilnil _)])
  have hd : (List.zipWith (fun x y : Int => y - x) xs ys).length ≤ 16777216 := by simp; omega
  have q := sset_srt S (List.zipWith (fun x y : Int => y - x) xs ys) (by simp; omega)
  unfold s25_4
  simp (maxDischargeDepth := 3) only [xE_var, xE_lit, xE_gv, xE_bin, xE_neg, xE_not, xE_and, xE_or, xE_cmp, xE_rcmp, xE_chain, xE_ite, xE_call, xE_blt, xE_idx, xE_sl, xE_tup, xE_lst, xE_comp, xE_kset, xE_isi, xA_one, xA_cons, xO_one, xO_cons, xL_nil, xL_cons, xL_star, xT_nil, xT_one, xU_none, xU_some, xI_one, xI_enum, xI_rng1, xI_rng2, xI_zip2, xS_asg, xS_par, xS_seti, xS_expr, xS_ret, xS_retN, xS_iff, xS_for, xSs_nil, xSs_cons, bind_ok, sr_ok, ofP_some, ofO_some, getV_some, getG_some, negR_int, fitR_ok, compR_some, callR_some, boolR_some, selR_t, selR_f, forkR_t, forkR_f, optR_some, iR_int, rng1R_int, rng2R_int, zipR_some, nxR_some, setR_some, at_nx, at_rt, truth_bool, truth_list, truth_tuple, put_nm, put_tp, put_tp2, setSlots_nil, setSlots_cons, add_int, sub_int, add_tup, add_lst, mod_int, lt_int, le_int, gt_int, ge_int, eq_int, ne_int, eq_bool, ne_bool, is_bool, isNot_bool, is_intN, isNot_intN, cmpR_of _ (lt_int _ _ _), cmpR_of _ (le_int _ _ _), cmpR_of _ (gt_int _ _ _), cmpR_of _ (ge_int _ _ _), cmpR_of _ (eq_int _ _ _), cmpR_of _ (ne_int _ _ _), cmpR_of _ (eq_bool _ _ _), cmpR_of _ (ne_bool _ _ _), cmpR_of _ (is_bool _ _ _), cmpR_of _ (isNot_bool _ _ _), cmpR_of _ (is_intN _ _), cmpR_of _ (isNot_intN _ _), len_tup, len_lst, len_scr, abs_int, int_int, int_bool, min_ints, max_ints, tuple_lst, tuple_tup, list_tup, mkL_f, mkT_f, toDats_cons, toDats_nil, toDats_app, List.append_nil, Nat.reduceAdd, Nat.reduceLeDiff, decide_true, decide_false, Int.reduceEq, srcOf_tup, srcOf_lst, isaD_dat, below_dat, leave_rtS, leave_nxS, wipe_nil, wipe_cons, map_some', len_one, len_enum, len_zip, len_rng, len_vals, truthR, List.getElem?_cons_zero, List.getElem?_cons_succ, List.set_cons_zero, List.set_cons_succ, List.length_cons, List.length_nil, List.length_map, List.reverse_cons, List.reverse_nil, List.nil_append, List.cons_append, List.map_cons, List.map_nil, Nat.zero_add, Bool.not_true, Bool.not_false, idx_t0, idx_t1, idx_t2, idx_l0, seq_tup, eq_row, eq_ints, eq_nil, ne_nil, in_none_row, in_ints, toDats_dat, intsOf_int, Option.bind_some, cmpR_of _ (eq_row _ _ _), cmpR_of _ (eq_ints _ _ _), cmpR_of _ (eq_nil _ _), cmpR_of _ (ne_nil _ _), cmpR_of _ (in_none_row _ _), cmpR_of _ (in_ints _ _ _), cmpR_of _ (ne_nilnil _), c, hd, xE_sset, q]
  rfl
theorem st25_5 (bx : Bd 200000000 xs) (by' : Bd 200000000 ys) : evS P25 GV s25_5 [a0, a1, a2, some (.dat (row ys)), some (.dat (.list ((sd xs ys).map .int))), a5, a6, a7, a8, a9, a10, a11, some (.dat (row xs)), a13, a14, a15, a16, a17, a18] S = .nx [a0, a1, a2, some (.dat (row ys)), some (.dat (.list ((sd xs ys).map .int))), a5, a6, a7, a8, a9, a10, a11, some (.dat (row xs)), a13, a14, a15, a16, a17, a18] S := by
  have l1 := hx.len
  have l2 := hy.len
  have l4 := hx.pos
  have l5 := hx.le
  have hl : xs.length = ys.length := by omega
  have h0 : 0 < xs.length := by omega
  have e1 := idx_end S (sd xs ys) _ (sd_ne hl h0) (sd_last hl h0)
  have e2 := idx_zero S (sd xs ys) _ (sd_first hl h0)
  have eg : mx (df xs ys) - mn (df xs ys) = gp xs ys := rfl
  have es := gp_symm hl h0
  have ei := shifts_iff hl h0
  have dbd : ∀ v ∈ df xs ys, -400000000 ≤ v ∧ v ≤ 400000000 := fun v hv => by
    obtain ⟨i, h1, h2, e⟩ := (mem_df xs ys v).mp hv
    have b1 := bx _ (List.getElem_mem h1)
    have b2 := by' _ (List.getElem_mem h2)
    omega
  have b1 := dbd _ (mx_mem _ (df_ne xs ys hl h0))
  have b2 := dbd _ (mn_mem _ (df_ne xs ys hl h0))
  have sb : Bd 1000000000000 (sd xs ys) := fun v hv => by
    have := dbd v ((mem_sd xs ys v).mp hv)
    omega
  have sl := sd_len hl
  have r := rep_list S [.int (gp xs ys), .int (gp xs ys), .bool (decide (((sd xs ys).length : Int) = 1)), row (sd xs ys)] (fun p hp => by
    simp only [List.mem_cons, List.not_mem_nil, or_false] at hp
    rcases hp with rfl | rfl | rfl | rfl
    · exact simple_int _ (by omega) (by omega)
    · exact simple_int _ (by omega) (by omega)
    · exact simple_bool _
    · exact simple_row _ sb (by omega)) (by simp)
  have rc := rc_same S _ (can_of_rep r)
  have f1 := F9_ok S hx hy
  have f2 := F9_ok S hy hx
  have f3 := F10_ok S hx hy
  rw [es] at f2
  rw [ei] at f3
  unfold s25_5
  simp (maxDischargeDepth := 3) only [xE_var, xE_lit, xE_gv, xE_bin, xE_neg, xE_not, xE_and, xE_or, xE_cmp, xE_rcmp, xE_chain, xE_ite, xE_call, xE_blt, xE_idx, xE_sl, xE_tup, xE_lst, xE_comp, xE_kset, xE_isi, xA_one, xA_cons, xO_one, xO_cons, xL_nil, xL_cons, xL_star, xT_nil, xT_one, xU_none, xU_some, xI_one, xI_enum, xI_rng1, xI_rng2, xI_zip2, xS_asg, xS_par, xS_seti, xS_expr, xS_ret, xS_retN, xS_iff, xS_for, xSs_nil, xSs_cons, bind_ok, sr_ok, ofP_some, ofO_some, getV_some, getG_some, negR_int, fitR_ok, compR_some, callR_some, boolR_some, selR_t, selR_f, forkR_t, forkR_f, optR_some, iR_int, rng1R_int, rng2R_int, zipR_some, nxR_some, setR_some, at_nx, at_rt, truth_bool, truth_list, truth_tuple, put_nm, put_tp, put_tp2, setSlots_nil, setSlots_cons, add_int, sub_int, add_tup, add_lst, mod_int, lt_int, le_int, gt_int, ge_int, eq_int, ne_int, eq_bool, ne_bool, is_bool, isNot_bool, is_intN, isNot_intN, cmpR_of _ (lt_int _ _ _), cmpR_of _ (le_int _ _ _), cmpR_of _ (gt_int _ _ _), cmpR_of _ (ge_int _ _ _), cmpR_of _ (eq_int _ _ _), cmpR_of _ (ne_int _ _ _), cmpR_of _ (eq_bool _ _ _), cmpR_of _ (ne_bool _ _ _), cmpR_of _ (is_bool _ _ _), cmpR_of _ (isNot_bool _ _ _), cmpR_of _ (is_intN _ _), cmpR_of _ (isNot_intN _ _), len_tup, len_lst, len_scr, abs_int, int_int, int_bool, min_ints, max_ints, tuple_lst, tuple_tup, list_tup, mkL_f, mkT_f, toDats_cons, toDats_nil, toDats_app, List.append_nil, Nat.reduceAdd, Nat.reduceLeDiff, decide_true, decide_false, Int.reduceEq, srcOf_tup, srcOf_lst, isaD_dat, below_dat, leave_rtS, leave_nxS, wipe_nil, wipe_cons, map_some', len_one, len_enum, len_zip, len_rng, len_vals, truthR, List.getElem?_cons_zero, List.getElem?_cons_succ, List.set_cons_zero, List.set_cons_succ, List.length_cons, List.length_nil, List.length_map, List.reverse_cons, List.reverse_nil, List.nil_append, List.cons_append, List.map_cons, List.map_nil, Nat.zero_add, Bool.not_true, Bool.not_false, idx_t0, idx_t1, idx_t2, idx_l0, seq_tup, eq_row, eq_ints, eq_nil, ne_nil, in_none_row, in_ints, toDats_dat, intsOf_int, Option.bind_some, cmpR_of _ (eq_row _ _ _), cmpR_of _ (eq_ints _ _ _), cmpR_of _ (eq_nil _ _), cmpR_of _ (ne_nil _ _), cmpR_of _ (in_none_row _ _), cmpR_of _ (in_ints _ _ _), cmpR_of _ (ne_nilnil _), p25_9, p25_10, p25_11, f1, f2, f3, F11_ok S hx hy, e1, e2, eg, r, rc]
include hz
theorem st25_6 (bx : Bd 200000000 xs) : evS P25 GV s25_6 [a0, a1, a2, some (.dat (row ys)), a4, a5, a6, a7, a8, a9, a10, a11, some (.dat (row xs)), some (.dat (row zs)), a14, a15, a16, a17, a18] S = .nx [a0, a1, a2, some (.dat (row ys)), a4, a5, a6, a7, a8, a9, a10, a11, some (.dat (row xs)), some (.dat (row zs)), a14, a15, a16, a17, a18] S := by
  have l1 := hx.len
  have l2 := hy.len
  have l3 := hz.len
  have l4 := hx.pos
  have l5 := hx.le
  have hl : xs.length = ys.length := by omega
  have h0 : 0 < xs.length := by omega
  have tri := gp_tri (zs := zs) hl (by omega) h0
  have d : decide (gp xs zs + gp zs ys < gp xs ys) = false := decide_eq_false (by omega)
  have hx7 : Rw s (xs.map fun v => v + 7) := ⟨by simp [l1], l4, l5, fun u hu => by
    obtain ⟨w, hw, rfl⟩ := List.mem_map.mp hu
    have := bx w hw
    omega⟩
  have c := comp_1ii (Φ := P25) (G := GV) (S := S) (i := 16) (ev := [a0, a1, a2, some (.dat (row ys)), a4, a5, a6, a7, a8, a9, a10, a11, some (.dat (row xs)), some (.dat (row zs)), a14, a15, none, a17, a18]) (elt := .bin .add (.var 16) (.lit (.int 7))) xs (fun v => v + 7) (fun v _ => by simp (maxDischargeDepth := 3) only [xE_var, xE_lit, xE_gv, xE_bin, xE_neg, xE_not, xE_and, xE_or, xE_cmp, xE_rcmp, xE_chain, xE_ite, xE_call, xE_blt, xE_idx, xE_sl, xE_tup, xE_lst, xE_comp, xE_kset, xE_isi, xA_one, xA_cons, xO_one, xO_cons, xL_nil, xL_cons, xL_star, xT_nil, xT_one, xU_none, xU_some, xI_one, xI_enum, xI_rng1, xI_rng2, xI_zip2, xS_asg, xS_par, xS_seti, xS_expr, xS_ret, xS_retN, xS_iff, xS_for, xSs_nil, xSs_cons, bind_ok, sr_ok, ofP_some, ofO_some, getV_some, getG_some, negR_int, fitR_ok, compR_some, callR_some, boolR_some, selR_t, selR_f, forkR_t, forkR_f, optR_some, iR_int, rng1R_int, rng2R_int, zipR_some, nxR_some, setR_some, at_nx, at_rt, truth_bool, truth_list, truth_tuple, put_nm, put_tp, put_tp2, setSlots_nil, setSlots_cons, add_int, sub_int, add_tup, add_lst, mod_int, lt_int, le_int, gt_int, ge_int, eq_int, ne_int, eq_bool, ne_bool, is_bool, isNot_bool, is_intN, isNot_intN, cmpR_of _ (lt_int _ _ _), cmpR_of _ (le_int _ _ _), cmpR_of _ (gt_int _ _ _), cmpR_of _ (ge_int _ _ _), cmpR_of _ (eq_int _ _ _), cmpR_of _ (ne_int _ _ _), cmpR_of _ (eq_bool _ _ _), cmpR_of _ (ne_bool _ _ _), cmpR_of _ (is_bool _ _ _), cmpR_of _ (isNot_bool _ _ _), cmpR_of _ (is_intN _ _), cmpR_of _ (isNot_intN _ _), len_tup, len_lst, len_scr, abs_int, int_int, int_bool, min_ints, max_ints, tuple_lst, tuple_tup, list_tup, mkL_f, mkT_f, toDats_cons, toDats_nil, toDats_app, List.append_nil, Nat.reduceAdd, Nat.reduceLeDiff, decide_true, decide_false, Int.reduceEq, srcOf_tup, srcOf_lst, isaD_dat, below_dat, leave_rtS, leave_nxS, wipe_nil, wipe_cons, map_some', len_one, len_enum, len_zip, len_rng, len_vals, truthR, List.getElem?_cons_zero, List.getElem?_cons_succ, List.set_cons_zero, List.set_cons_succ, List.length_cons, List.length_nil, List.length_map, List.reverse_cons, List.reverse_nil, List.nil_append, List.cons_append, List.map_cons, List.map_nil, Nat.zero_add, Bool.not_true, Bool.not_false, idx_t0, idx_t1, idx_t2, idx_l0, seq_tup, eq_row, eq_ints, eq_nil, ne_nil, in_none_row, in_ints, toDats_dat, intsOf_int, Option.bind_some, cmpR_of _ (eq_row _ _ _), cmpR_of _ (eq_ints _ _ _), cmpR_of _ (eq_nil _ _), cmpR_of _ (ne_nil _ _), cmpR_of _ (in_none_row _ _), cmpR_of _ (in_ints _ _ _), cmpR_of _ (ne_nilnil _)])
  have f7 := F9_ok S hx7 hy
  rw [gp_shift 7 hl h0] at f7
  have hd : xs.length ≤ 16777216 := by omega
  unfold s25_6
  simp (maxDischargeDepth := 3) only [xE_var, xE_lit, xE_gv, xE_bin, xE_neg, xE_not, xE_and, xE_or, xE_cmp, xE_rcmp, xE_chain, xE_ite, xE_call, xE_blt, xE_idx, xE_sl, xE_tup, xE_lst, xE_comp, xE_kset, xE_isi, xA_one, xA_cons, xO_one, xO_cons, xL_nil, xL_cons, xL_star, xT_nil, xT_one, xU_none, xU_some, xI_one, xI_enum, xI_rng1, xI_rng2, xI_zip2, xS_asg, xS_par, xS_seti, xS_expr, xS_ret, xS_retN, xS_iff, xS_for, xSs_nil, xSs_cons, bind_ok, sr_ok, ofP_some, ofO_some, getV_some, getG_some, negR_int, fitR_ok, compR_some, callR_some, boolR_some, selR_t, selR_f, forkR_t, forkR_f, optR_some, iR_int, rng1R_int, rng2R_int, zipR_some, nxR_some, setR_some, at_nx, at_rt, truth_bool, truth_list, truth_tuple, put_nm, put_tp, put_tp2, setSlots_nil, setSlots_cons, add_int, sub_int, add_tup, add_lst, mod_int, lt_int, le_int, gt_int, ge_int, eq_int, ne_int, eq_bool, ne_bool, is_bool, isNot_bool, is_intN, isNot_intN, cmpR_of _ (lt_int _ _ _), cmpR_of _ (le_int _ _ _), cmpR_of _ (gt_int _ _ _), cmpR_of _ (ge_int _ _ _), cmpR_of _ (eq_int _ _ _), cmpR_of _ (ne_int _ _ _), cmpR_of _ (eq_bool _ _ _), cmpR_of _ (ne_bool _ _ _), cmpR_of _ (is_bool _ _ _), cmpR_of _ (isNot_bool _ _ _), cmpR_of _ (is_intN _ _), cmpR_of _ (isNot_intN _ _), len_tup, len_lst, len_scr, abs_int, int_int, int_bool, min_ints, max_ints, tuple_lst, tuple_tup, list_tup, mkL_f, mkT_f, toDats_cons, toDats_nil, toDats_app, List.append_nil, Nat.reduceAdd, Nat.reduceLeDiff, decide_true, decide_false, Int.reduceEq, srcOf_tup, srcOf_lst, isaD_dat, below_dat, leave_rtS, leave_nxS, wipe_nil, wipe_cons, map_some', len_one, len_enum, len_zip, len_rng, len_vals, truthR, List.getElem?_cons_zero, List.getElem?_cons_succ, List.set_cons_zero, List.set_cons_succ, List.length_cons, List.length_nil, List.length_map, List.reverse_cons, List.reverse_nil, List.nil_append, List.cons_append, List.map_cons, List.map_nil, Nat.zero_add, Bool.not_true, Bool.not_false, idx_t0, idx_t1, idx_t2, idx_l0, seq_tup, eq_row, eq_ints, eq_nil, ne_nil, in_none_row, in_ints, toDats_dat, intsOf_int, Option.bind_some, cmpR_of _ (eq_row _ _ _), cmpR_of _ (eq_ints _ _ _), cmpR_of _ (eq_nil _ _), cmpR_of _ (ne_nil _ _), cmpR_of _ (in_none_row _ _), cmpR_of _ (in_ints _ _ _), cmpR_of _ (ne_nilnil _), p25_9, F9_ok S hx hy, F9_ok S hx hz, F9_ok S hz hy, d, c, hd, f7]
theorem st25_7 : evS P25 GV s25_7 [a0, a1, a2, some (.dat (row ys)), a4, a5, a6, a7, a8, a9, a10, a11, some (.dat (row xs)), some (.dat (row zs)), a14, a15, a16, a17, a18] S = .nx [a0, a1, a2, some (.dat (row ys)), a4, some (.dat (.list [row (ad xs zs), row (ad ys zs)])), a6, a7, a8, a9, a10, a11, some (.dat (row xs)), some (.dat (row zs)), a14, a15, a16, a17, a18] S := by
  have l1 := hx.len
  have l2 := hy.len
  have l3 := hz.len
  have l5 := hx.le
  have c : compLoop (.one (.vals [.tuple (xs.map .int), .tuple (ys.map .int)])) (.nm 15) (bodyT P25 GV .nil) (bodyE P25 GV (.blt .tuple (.cons (.comp false (.bin .add (.var 17) (.var 18)) (.tp [17, 18]) (.zip2 (.var 15) (.var 13)) .nil [17, 18]) .nil))) [a0, a1, a2, some (.dat (row ys)), a4, a5, a6, a7, a8, a9, a10, a11, some (.dat (row xs)), some (.dat (row zs)), a14, none, a16, a17, a18] 2 0 S = some ([.dat (row (ad xs zs)), .dat (row (ad ys zs))], S) :=
    comp_map [xs, ys] row (fun us => row (ad us zs)) (fun us hu => by
      have lu : us.length = s := by
        simp only [List.mem_cons, List.not_mem_nil, or_false] at hu
        rcases hu with rfl | rfl
        · exact l1
        · exact l2
      have c2 := comp_zi (Φ := P25) (G := GV) (S := S) (i := 17) (j := 18) (ev := [a0, a1, a2, some (.dat (row ys)), a4, a5, a6, a7, a8, a9, a10, a11, some (.dat (row xs)), some (.dat (row zs)), a14, some (.dat (row us)), a16, none, none]) (elt := .bin .add (.var 17) (.var 18)) us zs (by omega) (fun x y => x + y) (fun x y => by simp (maxDischargeDepth := 3) only [xE_var, xE_lit, xE_gv, xE_bin, xE_neg, xE_not, xE_and, xE_or, xE_cmp, xE_rcmp, xE_chain, xE_ite, xE_call, xE_blt, xE_idx, xE_sl, xE_tup, xE_lst, xE_comp, xE_kset, xE_isi, xA_one, xA_cons, xO_one, xO_cons, xL_nil, xL_cons, xL_star, xT_nil, xT_one, xU_none, xU_some, xI_one, xI_enum, xI_rng1, xI_rng2, xI_zip2, xS_asg, xS_par, xS_seti, xS_expr, xS_ret, xS_retN, xS_iff, xS_for, xSs_nil, xSs_cons, bind_ok, sr_ok, ofP_some, ofO_some, getV_some, getG_some, negR_int, fitR_ok, compR_some, callR_some, boolR_some, selR_t, selR_f, forkR_t, forkR_f, optR_some, iR_int, rng1R_int, rng2R_int, zipR_some, nxR_some, setR_some, at_nx, at_rt, truth_bool, truth_list, truth_tuple, put_nm, put_tp, put_tp2, setSlots_nil, setSlots_cons, add_int, sub_int, add_tup, add_lst, mod_int, lt_int, le_int, gt_int, ge_int, eq_int, ne_int, eq_bool, ne_bool, is_bool, isNot_bool, is_intN, isNot_intN, cmpR_of _ (lt_int _ _ _), cmpR_of _ (le_int _ _ _), cmpR_of _ (gt_int _ _ _), cmpR_of _ (ge_int _ _ _), cmpR_of _ (eq_int _ _ _), cmpR_of _ (ne_int _ _ _), cmpR_of _ (eq_bool _ _ _), cmpR_of _ (ne_bool _ _ _), cmpR_of _ (is_bool _ _ _), cmpR_of _ (isNot_bool _ _ _), cmpR_of _ (is_intN _ _), cmpR_of _ (isNot_intN _ _), len_tup, len_lst, len_scr, abs_int, int_int, int_bool, min_ints, max_ints, tuple_lst, tuple_tup, list_tup, mkL_f, mkT_f, toDats_cons, toDats_nil, toDats_app, List.append_nil, Nat.reduceAdd, Nat.reduceLeDiff, decide_true, decide_false, Int.reduceEq, srcOf_tup, srcOf_lst, isaD_dat, below_dat, leave_rtS, leave_nxS, wipe_nil, wipe_cons, map_some', len_one, len_enum, len_zip, len_rng, len_vals, truthR, List.getElem?_cons_zero, List.getElem?_cons_succ, List.set_cons_zero, List.set_cons_succ, List.length_cons, List.length_nil, List.length_map, List.reverse_cons, List.reverse_nil, List.nil_append, List.cons_append, List.map_cons, List.map_nil, Nat.zero_add, Bool.not_true, Bool.not_false, idx_t0, idx_t1, idx_t2, idx_l0, seq_tup, eq_row, eq_ints, eq_nil, ne_nil, in_none_row, in_ints, toDats_dat, intsOf_int, Option.bind_some, cmpR_of _ (eq_row _ _ _), cmpR_of _ (eq_ints _ _ _), cmpR_of _ (eq_nil _ _), cmpR_of _ (ne_nil _ _), cmpR_of _ (in_none_row _ _), cmpR_of _ (in_ints _ _ _), cmpR_of _ (ne_nilnil _)])
      have hd : (List.zipWith (fun x y : Int => x + y) us zs).length ≤ 16777216 := by simp; omega
      simp (maxDischargeDepth := 3) only [xE_var, xE_lit, xE_gv, xE_bin, xE_neg, xE_not, xE_and, xE_or, xE_cmp, xE_rcmp, xE_chain, xE_ite, xE_call, xE_blt, xE_idx, xE_sl, xE_tup, xE_lst, xE_comp, xE_kset, xE_isi, xA_one, xA_cons, xO_one, xO_cons, xL_nil, xL_cons, xL_star, xT_nil, xT_one, xU_none, xU_some, xI_one, xI_enum, xI_rng1, xI_rng2, xI_zip2, xS_asg, xS_par, xS_seti, xS_expr, xS_ret, xS_retN, xS_iff, xS_for, xSs_nil, xSs_cons, bind_ok, sr_ok, ofP_some, ofO_some, getV_some, getG_some, negR_int, fitR_ok, compR_some, callR_some, boolR_some, selR_t, selR_f, forkR_t, forkR_f, optR_some, iR_int, rng1R_int, rng2R_int, zipR_some, nxR_some, setR_some, at_nx, at_rt, truth_bool, truth_list, truth_tuple, put_nm, put_tp, put_tp2, setSlots_nil, setSlots_cons, add_int, sub_int, add_tup, add_lst, mod_int, lt_int, le_int, gt_int, ge_int, eq_int, ne_int, eq_bool, ne_bool, is_bool, isNot_bool, is_intN, isNot_intN, cmpR_of _ (lt_int _ _ _), cmpR_of _ (le_int _ _ _), cmpR_of _ (gt_int _ _ _), cmpR_of _ (ge_int _ _ _), cmpR_of _ (eq_int _ _ _), cmpR_of _ (ne_int _ _ _), cmpR_of _ (eq_bool _ _ _), cmpR_of _ (ne_bool _ _ _), cmpR_of _ (is_bool _ _ _), cmpR_of _ (isNot_bool _ _ _), cmpR_of _ (is_intN _ _), cmpR_of _ (isNot_intN _ _), len_tup, len_lst, len_scr, abs_int, int_int, int_bool, min_ints, max_ints, tuple_lst, tuple_tup, list_tup, mkL_f, mkT_f, toDats_cons, toDats_nil, toDats_app, List.append_nil, Nat.reduceAdd, Nat.reduceLeDiff, decide_true, decide_false, Int.reduceEq, srcOf_tup, srcOf_lst, isaD_dat, below_dat, leave_rtS, leave_nxS, wipe_nil, wipe_cons, map_some', len_one, len_enum, len_zip, len_rng, len_vals, truthR, List.getElem?_cons_zero, List.getElem?_cons_succ, List.set_cons_zero, List.set_cons_succ, List.length_cons, List.length_nil, List.length_map, List.reverse_cons, List.reverse_nil, List.nil_append, List.cons_append, List.map_cons, List.map_nil, Nat.zero_add, Bool.not_true, Bool.not_false, idx_t0, idx_t1, idx_t2, idx_l0, seq_tup, eq_row, eq_ints, eq_nil, ne_nil, in_none_row, in_ints, toDats_dat, intsOf_int, Option.bind_some, cmpR_of _ (eq_row _ _ _), cmpR_of _ (eq_ints _ _ _), cmpR_of _ (eq_nil _ _), cmpR_of _ (ne_nil _ _), cmpR_of _ (in_none_row _ _), cmpR_of _ (in_ints _ _ _), cmpR_of _ (ne_nilnil _), c2, hd]) 2 rfl
  unfold s25_7
  simp (maxDischargeDepth := 3) only [xE_var, xE_lit, xE_gv, xE_bin, xE_neg, xE_not, xE_and, xE_or, xE_cmp, xE_rcmp, xE_chain, xE_ite, xE_call, xE_blt, xE_idx, xE_sl, xE_tup, xE_lst, xE_comp, xE_kset, xE_isi, xA_one, xA_cons, xO_one, xO_cons, xL_nil, xL_cons, xL_star, xT_nil, xT_one, xU_none, xU_some, xI_one, xI_enum, xI_rng1, xI_rng2, xI_zip2, xS_asg, xS_par, xS_seti, xS_expr, xS_ret, xS_retN, xS_iff, xS_for, xSs_nil, xSs_cons, bind_ok, sr_ok, ofP_some, ofO_some, getV_some, getG_some, negR_int, fitR_ok, compR_some, callR_some, boolR_some, selR_t, selR_f, forkR_t, forkR_f, optR_some, iR_int, rng1R_int, rng2R_int, zipR_some, nxR_some, setR_some, at_nx, at_rt, truth_bool, truth_list, truth_tuple, put_nm, put_tp, put_tp2, setSlots_nil, setSlots_cons, add_int, sub_int, add_tup, add_lst, mod_int, lt_int, le_int, gt_int, ge_int, eq_int, ne_int, eq_bool, ne_bool, is_bool, isNot_bool, is_intN, isNot_intN, cmpR_of _ (lt_int _ _ _), cmpR_of _ (le_int _ _ _), cmpR_of _ (gt_int _ _ _), cmpR_of _ (ge_int _ _ _), cmpR_of _ (eq_int _ _ _), cmpR_of _ (ne_int _ _ _), cmpR_of _ (eq_bool _ _ _), cmpR_of _ (ne_bool _ _ _), cmpR_of _ (is_bool _ _ _), cmpR_of _ (isNot_bool _ _ _), cmpR_of _ (is_intN _ _), cmpR_of _ (isNot_intN _ _), len_tup, len_lst, len_scr, abs_int, int_int, int_bool, min_ints, max_ints, tuple_lst, tuple_tup, list_tup, mkL_f, mkT_f, toDats_cons, toDats_nil, toDats_app, List.append_nil, Nat.reduceAdd, Nat.reduceLeDiff, decide_true, decide_false, Int.reduceEq, srcOf_tup, srcOf_lst, isaD_dat, below_dat, leave_rtS, leave_nxS, wipe_nil, wipe_cons, map_some', len_one, len_enum, len_zip, len_rng, len_vals, truthR, List.getElem?_cons_zero, List.getElem?_cons_succ, List.set_cons_zero, List.set_cons_succ, List.length_cons, List.length_nil, List.length_map, List.reverse_cons, List.reverse_nil, List.nil_append, List.cons_append, List.map_cons, List.map_nil, Nat.zero_add, Bool.not_true, Bool.not_false, idx_t0, idx_t1, idx_t2, idx_l0, seq_tup, eq_row, eq_ints, eq_nil, ne_nil, in_none_row, in_ints, toDats_dat, intsOf_int, Option.bind_some, cmpR_of _ (eq_row _ _ _), cmpR_of _ (eq_ints _ _ _), cmpR_of _ (eq_nil _ _), cmpR_of _ (ne_nil _ _), cmpR_of _ (in_none_row _ _), cmpR_of _ (in_ints _ _ _), cmpR_of _ (ne_nilnil _), c]
theorem st25_8 (bx : Bd 200000000 xs) (by' : Bd 200000000 ys) (bz : Bd 200000000 zs) : evS P25 GV s25_8 [a0, a1, a2, some (.dat (row ys)), a4, some (.dat (.list [row (ad xs zs), row (ad ys zs)])), a6, a7, a8, a9, a10, a11, some (.dat (row xs)), a13, a14, a15, a16, a17, a18] S = .nx [a0, a1, a2, some (.dat (row ys)), a4, some (.dat (.list [row (ad xs zs), row (ad ys zs)])), a6, a7, a8, a9, a10, a11, some (.dat (row xs)), a13, a14, a15, a16, a17, a18] S := by
  have l1 := hx.len
  have l2 := hy.len
  have l3 := hz.len
  have l4 := hx.pos
  have l5 := hx.le
  have hl : xs.length = ys.length := by omega
  have bd : ∀ us : List Int, us.length = s → Bd 200000000 us → Rw s (ad us zs) := fun us lu bu => ⟨by simp [ad]; omega, l4, l5, fun v hv => by
    obtain ⟨i, hi, e⟩ := List.mem_iff_getElem.mp hv
    simp only [ad, List.length_zipWith] at hi
    simp only [ad, List.getElem_zipWith] at e
    have b1 := bu us[i] (List.getElem_mem _)
    have b2 := bz zs[i] (List.getElem_mem _)
    omega⟩
  have f := F9_ok S (bd xs l1 bx) (bd ys l2 by')
  rw [gp_add hl (by omega) (by omega)] at f
  unfold s25_8
  simp (maxDischargeDepth := 3) only [xE_var, xE_lit, xE_gv, xE_bin, xE_neg, xE_not, xE_and, xE_or, xE_cmp, xE_rcmp, xE_chain, xE_ite, xE_call, xE_blt, xE_idx, xE_sl, xE_tup, xE_lst, xE_comp, xE_kset, xE_isi, xA_one, xA_cons, xO_one, xO_cons, xL_nil, xL_cons, xL_star, xT_nil, xT_one, xU_none, xU_some, xI_one, xI_enum, xI_rng1, xI_rng2, xI_zip2, xS_asg, xS_par, xS_seti, xS_expr, xS_ret, xS_retN, xS_iff, xS_for, xSs_nil, xSs_cons, bind_ok, sr_ok, ofP_some, ofO_some, getV_some, getG_some, negR_int, fitR_ok, compR_some, callR_some, boolR_some, selR_t, selR_f, forkR_t, forkR_f, optR_some, iR_int, rng1R_int, rng2R_int, zipR_some, nxR_some, setR_some, at_nx, at_rt, truth_bool, truth_list, truth_tuple, put_nm, put_tp, put_tp2, setSlots_nil, setSlots_cons, add_int, sub_int, add_tup, add_lst, mod_int, lt_int, le_int, gt_int, ge_int, eq_int, ne_int, eq_bool, ne_bool, is_bool, isNot_bool, is_intN, isNot_intN, cmpR_of _ (lt_int _ _ _), cmpR_of _ (le_int _ _ _), cmpR_of _ (gt_int _ _ _), cmpR_of _ (ge_int _ _ _), cmpR_of _ (eq_int _ _ _), cmpR_of _ (ne_int _ _ _), cmpR_of _ (eq_bool _ _ _), cmpR_of _ (ne_bool _ _ _), cmpR_of _ (is_bool _ _ _), cmpR_of _ (isNot_bool _ _ _), cmpR_of _ (is_intN _ _), cmpR_of _ (isNot_intN _ _), len_tup, len_lst, len_scr, abs_int, int_int, int_bool, min_ints, max_ints, tuple_lst, tuple_tup, list_tup, mkL_f, mkT_f, toDats_cons, toDats_nil, toDats_app, List.append_nil, Nat.reduceAdd, Nat.reduceLeDiff, decide_true, decide_false, Int.reduceEq, srcOf_tup, srcOf_lst, isaD_dat, below_dat, leave_rtS, leave_nxS, wipe_nil, wipe_cons, map_some', len_one, len_enum, len_zip, len_rng, len_vals, truthR, List.getElem?_cons_zero, List.getElem?_cons_succ, List.set_cons_zero, List.set_cons_succ, List.length_cons, List.length_nil, List.length_map, List.reverse_cons, List.reverse_nil, List.nil_append, List.cons_append, List.map_cons, List.map_nil, Nat.zero_add, Bool.not_true, Bool.not_false, idx_t0, idx_t1, idx_t2, idx_l0, seq_tup, eq_row, eq_ints, eq_nil, ne_nil, in_none_row, in_ints, toDats_dat, intsOf_int, Option.bind_some, cmpR_of _ (eq_row _ _ _), cmpR_of _ (eq_ints _ _ _), cmpR_of _ (eq_nil _ _), cmpR_of _ (ne_nil _ _), cmpR_of _ (in_none_row _ _), cmpR_of _ (in_ints _ _ _), cmpR_of _ (ne_nilnil _), p25_9, F9_ok S hx hy, f, idx_l1]
end
end LW
end
section
namespace LW
open MP PySem
variable (S : Store) (a0 a1 a2 a3 a4 a5 a6 a7 a8 a9 a10 a11 a12 a13 a14 a15 a16 a17 a18 : Option D)
def inner25 : CSs := (.cons (.iff (.rcmp true (.call 13 (.cons (.var 12) (.cons (.var 3) (.cons (.var 8) .nil)))) (.call 22 (.cons (.var 12) (.cons (.var 3) (.cons (.var 8) .nil))))) (.cons (.ret (.lit (.bool false))) .nil) .nil) (.cons (.asg (.nm 14) (.blt .min (.cons (.blt .max (.cons (.var 8) (.cons (.idx (.var 4) (.lit (.int 0))) .nil))) (.cons (.idx (.var 4) (.neg (.lit (.int 1)))) .nil)))) (.cons (.iff (.or (.cons (.cmp .ne (.call 24 (.cons (.var 3) (.cons (.call 22 (.cons (.var 12) (.cons (.var 3) (.cons (.var 14) .nil)))) .nil))) (.bin .sub (.var 14) (.idx (.var 4) (.lit (.int 0))))) (.cons (.cmp .ne (.call 24 (.cons (.var 12) (.cons (.call 22 (.cons (.var 12) (.cons (.var 3) (.cons (.var 14) .nil)))) .nil))) (.bin .sub (.idx (.var 4) (.neg (.lit (.int 1)))) (.var 14))) .nil))) (.cons (.ret (.lit (.bool false))) .nil) .nil) .nil)))
theorem s25_12_eq : s25_12 = .for (.nm 8) (.one (.bin .add (.sl (.var 4) .none (.some (.lit (.int 2)))) (.lst false (.cons (.bin .sub (.call 20 (.cons (.var 0) (.cons (.lit (.int 2001)) .nil))) (.lit (.int 1000))) (.cons (.lit (.int 0)) .nil))))) inner25 := rfl
theorem loopL (b : Ev → Store → SR) (E : Option D → Option D → Ev) (ls : List Int) (hls : ls.length ≤ 100) (hE : ∀ a c d, (E a c).set 8 d = E d c)
    (turn : ∀ x ∈ ls, ∀ c, ∃ c', b (E (some (.dat (.int x))) c) S = .nx (E (some (.dat (.int x))) c') S) (a c : Option D) : ∃ a' c', forLoop (.one (.vals (ls.map .int))) (.nm 8) b ls.length 0 (E a c) S = .nx (E a' c') S := by
  have key := WS_for (it := .one (.vals (ls.map .int))) (tg := .nm 8) (body := b) (N := fun ev S' => S' = S ∧ ∃ a c, ev = E a c) (R := fun _ _ => False) (fun _ ev S' => S' = S ∧ ∃ a c, ev = E a c) ls.length (by unfold loopFuel; omega)
    (fun i ev S' hi hI => by
      obtain ⟨rfl, a, c, rfl⟩ := hI
      obtain ⟨c', e⟩ := turn ls[i] (List.getElem_mem hi) c
      refine ⟨[.dat (.int ls[i])], E (some (.dat (.int ls[i]))) c, ?_, ?_, ?_⟩
      · simp [ItS.next, Src.at, Nat.le_of_lt hi, hi, nx1]
      · show some ((E a c).set 8 (some (.dat (.int ls[i])))) = _
        rw [hE]
      · rw [e]
        exact ⟨rfl, _, _, rfl⟩)
    (fun ev S' hI => ⟨by simp [ItS.next, Src.at, nx1], hI⟩) ls.length 0 (E a c) S (Nat.zero_le _) (by omega) ⟨rfl, _, _, rfl⟩
  generalize forLoop (.one (.vals (ls.map .int))) (.nm 8) b ls.length 0 (E a c) S = r at key
  cases r with
  | nx ev S' =>
    obtain ⟨rfl, a', c', rfl⟩ := key
    exact ⟨a', c', rfl⟩
  | rt _ _ => exact key.elim
  | exc _ _ _ => exact key.elim
  | fail => exact key.elim
section
variable {s : Nat} {xs ys : List Int} (hx : Rw s xs) (hy : Rw s ys)
include hx hy
theorem st25_9 : evS P25 GV s25_9 [a0, a1, a2, some (.dat (row ys)), some (.dat (.list ((sd xs ys).map .int))), a5, a6, a7, a8, a9, a10, a11, some (.dat (row xs)), a13, a14, a15, a16, a17, a18] S = .nx [a0, a1, a2, some (.dat (row ys)), some (.dat (.list ((sd xs ys).map .int))), a5, some (.dat (.list ((sd xs ys).map fun d => row (jn d 0 xs ys)))), a7, a8, a9, a10, a11, some (.dat (row xs)), a13, a14, a15, a16, a17, a18] S := by
  have l1 := hx.len
  have l2 := hy.len
  have l4 := hx.pos
  have l5 := hx.le
  have hl : xs.length = ys.length := by omega
  have h0 : 0 < xs.length := by omega
  have sl := sd_len hl
  have hf : (sd xs ys).length ≤ 16777216 := by omega
  have c := comp_1i (Φ := P25) (G := GV) (S := S) (i := 8) (ev := [a0, a1, a2, some (.dat (row ys)), some (.dat (.list ((sd xs ys).map .int))), a5, a6, a7, none, a9, a10, a11, some (.dat (row xs)), a13, a14, a15, a16, a17, a18]) (elt := .call 22 (.cons (.var 12) (.cons (.var 3) (.cons (.var 8) .nil)))) (sd xs ys) (fun d => row (jn d 0 xs ys)) (fun d _ => by simp (maxDischargeDepth := 3) only [xE_var, xE_lit, xE_gv, xE_bin, xE_neg, xE_not, xE_and, xE_or, xE_cmp, xE_rcmp, xE_chain, xE_ite, xE_call, xE_blt, xE_idx, xE_sl, xE_tup, xE_lst, xE_comp, xE_kset, xE_isi, xA_one, xA_cons, xO_one, xO_cons, xL_nil, xL_cons, xL_star, xT_nil, xT_one, xU_none, xU_some, xI_one, xI_enum, xI_rng1, xI_rng2, xI_zip2, xS_asg, xS_par, xS_seti, xS_expr, xS_ret, xS_retN, xS_iff, xS_for, xSs_nil, xSs_cons, bind_ok, sr_ok, ofP_some, ofO_some, getV_some, getG_some, negR_int, fitR_ok, compR_some, callR_some, boolR_some, selR_t, selR_f, forkR_t, forkR_f, optR_some, iR_int, rng1R_int, rng2R_int, zipR_some, nxR_some, setR_some, at_nx, at_rt, truth_bool, truth_list, truth_tuple, put_nm, put_tp, put_tp2, setSlots_nil, setSlots_cons, add_int, sub_int, add_tup, add_lst, mod_int, lt_int, le_int, gt_int, ge_int, eq_int, ne_int, eq_bool, ne_bool, is_bool, isNot_bool, is_intN, isNot_intN, cmpR_of _ (lt_int _ _ _), cmpR_of _ (le_int _ _ _), cmpR_of _ (gt_int _ _ _), cmpR_of _ (ge_int _ _ _), cmpR_of _ (eq_int _ _ _), cmpR_of _ (ne_int _ _ _), cmpR_of _ (eq_bool _ _ _), cmpR_of _ (ne_bool _ _ _), cmpR_of _ (is_bool _ _ _), cmpR_of _ (isNot_bool _ _ _), cmpR_of _ (is_intN _ _), cmpR_of _ (isNot_intN _ _), len_tup, len_lst, len_scr, abs_int, int_int, int_bool, min_ints, max_ints, tuple_lst, tuple_tup, list_tup, mkL_f, mkT_f, toDats_cons, toDats_nil, toDats_app, List.append_nil, Nat.reduceAdd, Nat.reduceLeDiff, decide_true, decide_false, Int.reduceEq, srcOf_tup, srcOf_lst, isaD_dat, below_dat, leave_rtS, leave_nxS, wipe_nil, wipe_cons, map_some', len_one, len_enum, len_zip, len_rng, len_vals, truthR, List.getElem?_cons_zero, List.getElem?_cons_succ, List.set_cons_zero, List.set_cons_succ, List.length_cons, List.length_nil, List.length_map, List.reverse_cons, List.reverse_nil, List.nil_append, List.cons_append, List.map_cons, List.map_nil, Nat.zero_add, Bool.not_true, Bool.not_false, idx_t0, idx_t1, idx_t2, idx_l0, seq_tup, eq_row, eq_ints, eq_nil, ne_nil, in_none_row, in_ints, toDats_dat, intsOf_int, Option.bind_some, cmpR_of _ (eq_row _ _ _), cmpR_of _ (eq_ints _ _ _), cmpR_of _ (eq_nil _ _), cmpR_of _ (ne_nil _ _), cmpR_of _ (in_none_row _ _), cmpR_of _ (in_ints _ _ _), cmpR_of _ (ne_nilnil _), p25_22, F22_ok S xs ys d hl (by omega)])
  unfold s25_9
  simp (maxDischargeDepth := 3) only [xE_var, xE_lit, xE_gv, xE_bin, xE_neg, xE_not, xE_and, xE_or, xE_cmp, xE_rcmp, xE_chain, xE_ite, xE_call, xE_blt, xE_idx, xE_sl, xE_tup, xE_lst, xE_comp, xE_kset, xE_isi, xA_one, xA_cons, xO_one, xO_cons, xL_nil, xL_cons, xL_star, xT_nil, xT_one, xU_none, xU_some, xI_one, xI_enum, xI_rng1, xI_rng2, xI_zip2, xS_asg, xS_par, xS_seti, xS_expr, xS_ret, xS_retN, xS_iff, xS_for, xSs_nil, xSs_cons, bind_ok, sr_ok, ofP_some, ofO_some, getV_some, getG_some, negR_int, fitR_ok, compR_some, callR_some, boolR_some, selR_t, selR_f, forkR_t, forkR_f, optR_some, iR_int, rng1R_int, rng2R_int, zipR_some, nxR_some, setR_some, at_nx, at_rt, truth_bool, truth_list, truth_tuple, put_nm, put_tp, put_tp2, setSlots_nil, setSlots_cons, add_int, sub_int, add_tup, add_lst, mod_int, lt_int, le_int, gt_int, ge_int, eq_int, ne_int, eq_bool, ne_bool, is_bool, isNot_bool, is_intN, isNot_intN, cmpR_of _ (lt_int _ _ _), cmpR_of _ (le_int _ _ _), cmpR_of _ (gt_int _ _ _), cmpR_of _ (ge_int _ _ _), cmpR_of _ (eq_int _ _ _), cmpR_of _ (ne_int _ _ _), cmpR_of _ (eq_bool _ _ _), cmpR_of _ (ne_bool _ _ _), cmpR_of _ (is_bool _ _ _), cmpR_of _ (isNot_bool _ _ _), cmpR_of _ (is_intN _ _), cmpR_of _ (isNot_intN _ _), len_tup, len_lst, len_scr, abs_int, int_int, int_bool, min_ints, max_ints, tuple_lst, tuple_tup, list_tup, mkL_f, mkT_f, toDats_cons, toDats_nil, toDats_app, List.append_nil, Nat.reduceAdd, Nat.reduceLeDiff, decide_true, decide_false, Int.reduceEq, srcOf_tup, srcOf_lst, isaD_dat, below_dat, leave_rtS, leave_nxS, wipe_nil, wipe_cons, map_some', len_one, len_enum, len_zip, len_rng, len_vals, truthR, List.getElem?_cons_zero, List.getElem?_cons_succ, List.set_cons_zero, List.set_cons_succ, List.length_cons, List.length_nil, List.length_map, List.reverse_cons, List.reverse_nil, List.nil_append, List.cons_append, List.map_cons, List.map_nil, Nat.zero_add, Bool.not_true, Bool.not_false, idx_t0, idx_t1, idx_t2, idx_l0, seq_tup, eq_row, eq_ints, eq_nil, ne_nil, in_none_row, in_ints, toDats_dat, intsOf_int, Option.bind_some, cmpR_of _ (eq_row _ _ _), cmpR_of _ (eq_ints _ _ _), cmpR_of _ (eq_nil _ _), cmpR_of _ (ne_nil _ _), cmpR_of _ (in_none_row _ _), cmpR_of _ (in_ints _ _ _), cmpR_of _ (ne_nilnil _), c, hf]
theorem st25_10 : evS P25 GV s25_10 [a0, a1, a2, a3, a4, a5, some (.dat (.list ((sd xs ys).map fun d => row (jn d 0 xs ys)))), a7, a8, a9, a10, a11, a12, a13, a14, a15, a16, a17, a18] S = .nx [a0, a1, a2, a3, a4, a5, some (.dat (.list ((sd xs ys).map fun d => row (jn d 0 xs ys)))), some (.dat (.list ((sd xs ys).map fun d => row (corner xs ys d)))), a8, a9, a10, a11, a12, a13, a14, a15, a16, a17, a18] S := by
  have l1 := hx.len
  have l2 := hy.len
  have l4 := hx.pos
  have l5 := hx.le
  have hl : xs.length = ys.length := by omega
  have h0 : 0 < xs.length := by omega
  have sl := sd_len hl
  have hf : (sd xs ys).length ≤ 16777216 := by omega
  have c := comp_map (Φ := P25) (G := GV) (S := S) (i := 15) (ev := [a0, a1, a2, a3, a4, a5, some (.dat (.list ((sd xs ys).map fun d => row (jn d 0 xs ys)))), a7, a8, a9, a10, a11, a12, a13, a14, none, a16, a17, a18]) (elt := .blt .tuple (.cons (.comp false (.bin .sub (.var 16) (.idx (.var 15) (.lit (.int 0)))) (.nm 16) (.one (.var 15)) .nil [16]) .nil)) (sd xs ys) (fun d => row (jn d 0 xs ys)) (fun d => row (corner xs ys d)) (fun d _ => by
    have hj := len_jn d 0 xs ys hl
    have h1 : (jn d 0 xs ys)[0]? = some ((jn d 0 xs ys).headD 0) := by
      cases e : jn d 0 xs ys with
      | nil => rw [e] at hj; simp at hj; omega
      | cons a r => rfl
    have ii : idxV (.dat (.tuple ((jn d 0 xs ys).map .int))) (.dat (.int 0)) S = some (.dat (.int ((jn d 0 xs ys).headD 0)), S) := idx_t S ((jn d 0 xs ys).map .int) 0 _ (by rw [List.getElem?_map, h1]; rfl)
    have c2 := comp_1ii (Φ := P25) (G := GV) (S := S) (i := 16) (ev := [a0, a1, a2, a3, a4, a5, some (.dat (.list ((sd xs ys).map fun d => row (jn d 0 xs ys)))), a7, a8, a9, a10, a11, a12, a13, a14, some (.dat (row (jn d 0 xs ys))), none, a17, a18]) (elt := .bin .sub (.var 16) (.idx (.var 15) (.lit (.int 0)))) (jn d 0 xs ys) (fun v => v - (jn d 0 xs ys).headD 0) (fun v _ => by simp (maxDischargeDepth := 3) only [xE_var, xE_lit, xE_gv, xE_bin, xE_neg, xE_not, xE_and, xE_or, xE_cmp, xE_rcmp, xE_chain, xE_ite, xE_call, xE_blt, xE_idx, xE_sl, xE_tup, xE_lst, xE_comp, xE_kset, xE_isi, xA_one, xA_cons, xO_one, xO_cons, xL_nil, xL_cons, xL_star, xT_nil, xT_one, xU_none, xU_some, xI_one, xI_enum, xI_rng1, xI_rng2, xI_zip2, xS_asg, xS_par, xS_seti, xS_expr, xS_ret, xS_retN, xS_iff, xS_for, xSs_nil, xSs_cons, bind_ok, sr_ok, ofP_some, ofO_some, getV_some, getG_some, negR_int, fitR_ok, compR_some, callR_some, boolR_some, selR_t, selR_f, forkR_t, forkR_f, optR_some, iR_int, rng1R_int, rng2R_int, zipR_some, nxR_some, setR_some, at_nx, at_rt, truth_bool, truth_list, truth_tuple, put_nm, put_tp, put_tp2, setSlots_nil, setSlots_cons, add_int, sub_int, add_tup, add_lst, mod_int, lt_int, le_int, gt_int, ge_int, eq_int, ne_int, eq_bool, ne_bool, is_bool, isNot_bool, is_intN, isNot_intN, cmpR_of _ (lt_int _ _ _), cmpR_of _ (le_int _ _ _), cmpR_of _ (gt_int _ _ _), cmpR_of _ (ge_int _ _ _), cmpR_of _ (eq_int _ _ _), cmpR_of _ (ne_int _ _ _), cmpR_of _ (eq_bool _ _ _), cmpR_of _ (ne_bool _ _ _), cmpR_of _ (is_bool _ _ _), cmpR_of _ (isNot_bool _ _ _), cmpR_of _ (is_intN _ _), cmpR_of _ (isNot_intN _ _), len_tup, len_lst, len_scr, abs_int, int_int, int_bool, min_ints, max_ints, tuple_lst, tuple_tup, list_tup, mkL_f, mkT_f, toDats_cons, toDats_nil, toDats_app, List.append_nil, Nat.reduceAdd, Nat.reduceLeDiff, decide_true, decide_false, Int.reduceEq, srcOf_tup, srcOf_lst, isaD_dat, below_dat, leave_rtS, leave_nxS, wipe_nil, wipe_cons, map_some', len_one, len_enum, len_zip, len_rng, len_vals, truthR, List.getElem?_cons_zero, List.getElem?_cons_succ, List.set_cons_zero, List.set_cons_succ, List.length_cons, List.length_nil, List.length_map, List.reverse_cons, List.reverse_nil, List.nil_append, List.cons_append, List.map_cons, List.map_nil, Nat.zero_add, Bool.not_true, Bool.not_false, idx_t0, idx_t1, idx_t2, idx_l0, seq_tup, eq_row, eq_ints, eq_nil, ne_nil, in_none_row, in_ints, toDats_dat, intsOf_int, Option.bind_some, cmpR_of _ (eq_row _ _ _), cmpR_of _ (eq_ints _ _ _), cmpR_of _ (eq_nil _ _), cmpR_of _ (ne_nil _ _), cmpR_of _ (in_none_row _ _), cmpR_of _ (in_ints _ _ _), cmpR_of _ (ne_nilnil _), ii])
    have hd : (jn d 0 xs ys).length ≤ 16777216 := by omega
    simp (maxDischargeDepth := 3) only [xE_var, xE_lit, xE_gv, xE_bin, xE_neg, xE_not, xE_and, xE_or, xE_cmp, xE_rcmp, xE_chain, xE_ite, xE_call, xE_blt, xE_idx, xE_sl, xE_tup, xE_lst, xE_comp, xE_kset, xE_isi, xA_one, xA_cons, xO_one, xO_cons, xL_nil, xL_cons, xL_star, xT_nil, xT_one, xU_none, xU_some, xI_one, xI_enum, xI_rng1, xI_rng2, xI_zip2, xS_asg, xS_par, xS_seti, xS_expr, xS_ret, xS_retN, xS_iff, xS_for, xSs_nil, xSs_cons, bind_ok, sr_ok, ofP_some, ofO_some, getV_some, getG_some, negR_int, fitR_ok, compR_some, callR_some, boolR_some, selR_t, selR_f, forkR_t, forkR_f, optR_some, iR_int, rng1R_int, rng2R_int, zipR_some, nxR_some, setR_some, at_nx, at_rt, truth_bool, truth_list, truth_tuple, put_nm, put_tp, put_tp2, setSlots_nil, setSlots_cons, add_int, sub_int, add_tup, add_lst, mod_int, lt_int, le_int, gt_int, ge_int, eq_int, ne_int, eq_bool, ne_bool, is_bool, isNot_bool, is_intN, isNot_intN, cmpR_of _ (lt_int _ _ _), cmpR_of _ (le_int _ _ _), cmpR_of _ (gt_int _ _ _), cmpR_of _ (ge_int _ _ _), cmpR_of _ (eq_int _ _ _), cmpR_of _ (ne_int _ _ _), cmpR_of _ (eq_bool _ _ _), cmpR_of _ (ne_bool _ _ _), cmpR_of _ (is_bool _ _ _), cmpR_of _ (isNot_bool _ _ _), cmpR_of _ (is_intN _ _), cmpR_of _ (isNot_intN _ _), len_tup, len_lst, len_scr, abs_int, int_int, int_bool, min_ints, max_ints, tuple_lst, tuple_tup, list_tup, mkL_f, mkT_f, toDats_cons, toDats_nil, toDats_app, List.append_nil, Nat.reduceAdd, Nat.reduceLeDiff, decide_true, decide_false, Int.reduceEq, srcOf_tup, srcOf_lst, isaD_dat, below_dat, leave_rtS, leave_nxS, wipe_nil, wipe_cons, map_some', len_one, len_enum, len_zip, len_rng, len_vals, truthR, List.getElem?_cons_zero, List.getElem?_cons_succ, List.set_cons_zero, List.set_cons_succ, List.length_cons, List.length_nil, List.length_map, List.reverse_cons, List.reverse_nil, List.nil_append, List.cons_append, List.map_cons, List.map_nil, Nat.zero_add, Bool.not_true, Bool.not_false, idx_t0, idx_t1, idx_t2, idx_l0, seq_tup, eq_row, eq_ints, eq_nil, ne_nil, in_none_row, in_ints, toDats_dat, intsOf_int, Option.bind_some, cmpR_of _ (eq_row _ _ _), cmpR_of _ (eq_ints _ _ _), cmpR_of _ (eq_nil _ _), cmpR_of _ (ne_nil _ _), cmpR_of _ (in_none_row _ _), cmpR_of _ (in_ints _ _ _), cmpR_of _ (ne_nilnil _), c2, hd]
    rfl) _ rfl
  unfold s25_10
  simp (maxDischargeDepth := 3) only [xE_var, xE_lit, xE_gv, xE_bin, xE_neg, xE_not, xE_and, xE_or, xE_cmp, xE_rcmp, xE_chain, xE_ite, xE_call, xE_blt, xE_idx, xE_sl, xE_tup, xE_lst, xE_comp, xE_kset, xE_isi, xA_one, xA_cons, xO_one, xO_cons, xL_nil, xL_cons, xL_star, xT_nil, xT_one, xU_none, xU_some, xI_one, xI_enum, xI_rng1, xI_rng2, xI_zip2, xS_asg, xS_par, xS_seti, xS_expr, xS_ret, xS_retN, xS_iff, xS_for, xSs_nil, xSs_cons, bind_ok, sr_ok, ofP_some, ofO_some, getV_some, getG_some, negR_int, fitR_ok, compR_some, callR_some, boolR_some, selR_t, selR_f, forkR_t, forkR_f, optR_some, iR_int, rng1R_int, rng2R_int, zipR_some, nxR_some, setR_some, at_nx, at_rt, truth_bool, truth_list, truth_tuple, put_nm, put_tp, put_tp2, setSlots_nil, setSlots_cons, add_int, sub_int, add_tup, add_lst, mod_int, lt_int, le_int, gt_int, ge_int, eq_int, ne_int, eq_bool, ne_bool, is_bool, isNot_bool, is_intN, isNot_intN, cmpR_of _ (lt_int _ _ _), cmpR_of _ (le_int _ _ _), cmpR_of _ (gt_int _ _ _), cmpR_of _ (ge_int _ _ _), cmpR_of _ (eq_int _ _ _), cmpR_of _ (ne_int _ _ _), cmpR_of _ (eq_bool _ _ _), cmpR_of _ (ne_bool _ _ _), cmpR_of _ (is_bool _ _ _), cmpR_of _ (isNot_bool _ _ _), cmpR_of _ (is_intN _ _), cmpR_of _ (isNot_intN _ _), len_tup, len_lst, len_scr, abs_int, int_int, int_bool, min_ints, max_ints, tuple_lst, tuple_tup, list_tup, mkL_f, mkT_f, toDats_cons, toDats_nil, toDats_app, List.append_nil, Nat.reduceAdd, Nat.reduceLeDiff, decide_true, decide_false, Int.reduceEq, srcOf_tup, srcOf_lst, isaD_dat, below_dat, leave_rtS, leave_nxS, wipe_nil, wipe_cons, map_some', len_one, len_enum, len_zip, len_rng, len_vals, truthR, List.getElem?_cons_zero, List.getElem?_cons_succ, List.set_cons_zero, List.set_cons_succ, List.length_cons, List.length_nil, List.length_map, List.reverse_cons, List.reverse_nil, List.nil_append, List.cons_append, List.map_cons, List.map_nil, Nat.zero_add, Bool.not_true, Bool.not_false, idx_t0, idx_t1, idx_t2, idx_l0, seq_tup, eq_row, eq_ints, eq_nil, ne_nil, in_none_row, in_ints, toDats_dat, intsOf_int, Option.bind_some, cmpR_of _ (eq_row _ _ _), cmpR_of _ (eq_ints _ _ _), cmpR_of _ (eq_nil _ _), cmpR_of _ (ne_nil _ _), cmpR_of _ (in_none_row _ _), cmpR_of _ (in_ints _ _ _), cmpR_of _ (ne_nilnil _), c, hf]
theorem st25_11 (bx : Bd 100000098 xs) (by' : Bd 100000098 ys) : evS P25 GV s25_11 [a0, a1, a2, some (.dat (row ys)), some (.dat (.list ((sd xs ys).map .int))), a5, a6, some (.dat (.list ((sd xs ys).map fun d => row (corner xs ys d)))), a8, a9, a10, a11, some (.dat (row xs)), a13, a14, a15, a16, a17, a18] S = .nx [a0, a1, a2, some (.dat (row ys)), some (.dat (.list ((sd xs ys).map .int))), a5, a6, some (.dat (.list ((sd xs ys).map fun d => row (corner xs ys d)))), a8, a9, a10, a11, some (.dat (row xs)), a13, a14, a15, a16, a17, a18] S := by
  have l1 := hx.len
  have l2 := hy.len
  have l4 := hx.pos
  have l5 := hx.le
  have hl : xs.length = ys.length := by omega
  have h0 : 0 < xs.length := by omega
  have sl := sd_len hl
  have hf : (sd xs ys).length ≤ 16777216 := by omega
  have r := rep_tup S ((sd xs ys).map fun d => row (corner xs ys d)) (fun p hp => by
    obtain ⟨d, hd, rfl⟩ := List.mem_map.mp hp
    have hj := len_jn d 0 xs ys hl
    exact simple_row _ ((corner_bd 100000098 hl bx by' (by decide) d ((mem_sd xs ys d).mp hd)).mono (by decide)) (by simp [corner, hj]; omega)) (by simp; omega)
  have rc := rc_same S _ (can_of_rep r)
  have q := sset_len S ((sd xs ys).map (corner xs ys)) (by simp; omega)
  rw [corners_len hl h0, List.map_map] at q
  have q' : ssetV .len (.dat (.list ((sd xs ys).map fun d => row (corner xs ys d)))) S = some (.dat (.int ((sd xs ys).length : Nat)), S) := q
  unfold s25_11
  simp (maxDischargeDepth := 3) only [xE_var, xE_lit, xE_gv, xE_bin, xE_neg, xE_not, xE_and, xE_or, xE_cmp, xE_rcmp, xE_chain, xE_ite, xE_call, xE_blt, xE_idx, xE_sl, xE_tup, xE_lst, xE_comp, xE_kset, xE_isi, xA_one, xA_cons, xO_one, xO_cons, xL_nil, xL_cons, xL_star, xT_nil, xT_one, xU_none, xU_some, xI_one, xI_enum, xI_rng1, xI_rng2, xI_zip2, xS_asg, xS_par, xS_seti, xS_expr, xS_ret, xS_retN, xS_iff, xS_for, xSs_nil, xSs_cons, bind_ok, sr_ok, ofP_some, ofO_some, getV_some, getG_some, negR_int, fitR_ok, compR_some, callR_some, boolR_some, selR_t, selR_f, forkR_t, forkR_f, optR_some, iR_int, rng1R_int, rng2R_int, zipR_some, nxR_some, setR_some, at_nx, at_rt, truth_bool, truth_list, truth_tuple, put_nm, put_tp, put_tp2, setSlots_nil, setSlots_cons, add_int, sub_int, add_tup, add_lst, mod_int, lt_int, le_int, gt_int, ge_int, eq_int, ne_int, eq_bool, ne_bool, is_bool, isNot_bool, is_intN, isNot_intN, cmpR_of _ (lt_int _ _ _), cmpR_of _ (le_int _ _ _), cmpR_of _ (gt_int _ _ _), cmpR_of _ (ge_int _ _ _), cmpR_of _ (eq_int _ _ _), cmpR_of _ (ne_int _ _ _), cmpR_of _ (eq_bool _ _ _), cmpR_of _ (ne_bool _ _ _), cmpR_of _ (is_bool _ _ _), cmpR_of _ (isNot_bool _ _ _), cmpR_of _ (is_intN _ _), cmpR_of _ (isNot_intN _ _), len_tup, len_lst, len_scr, abs_int, int_int, int_bool, min_ints, max_ints, tuple_lst, tuple_tup, list_tup, mkL_f, mkT_f, toDats_cons, toDats_nil, toDats_app, List.append_nil, Nat.reduceAdd, Nat.reduceLeDiff, decide_true, decide_false, Int.reduceEq, srcOf_tup, srcOf_lst, isaD_dat, below_dat, leave_rtS, leave_nxS, wipe_nil, wipe_cons, map_some', len_one, len_enum, len_zip, len_rng, len_vals, truthR, List.getElem?_cons_zero, List.getElem?_cons_succ, List.set_cons_zero, List.set_cons_succ, List.length_cons, List.length_nil, List.length_map, List.reverse_cons, List.reverse_nil, List.nil_append, List.cons_append, List.map_cons, List.map_nil, Nat.zero_add, Bool.not_true, Bool.not_false, idx_t0, idx_t1, idx_t2, idx_l0, seq_tup, eq_row, eq_ints, eq_nil, ne_nil, in_none_row, in_ints, toDats_dat, intsOf_int, Option.bind_some, cmpR_of _ (eq_row _ _ _), cmpR_of _ (eq_ints _ _ _), cmpR_of _ (eq_nil _ _), cmpR_of _ (ne_nil _ _), cmpR_of _ (in_none_row _ _), cmpR_of _ (in_ints _ _ _), cmpR_of _ (ne_nilnil _), p25_16, F16_ok S hx hy, r, rc, xE_sset, q']
theorem turn25 (bx : Bd 100000098 xs) (by' : Bd 100000098 ys) (x : Int) (hx1 : -1000000000 ≤ x) (hx2 : x ≤ 1000000000) : ∃ t : Int, bodyS P25 GV inner25 [a0, a1, a2, some (.dat (row ys)), some (.dat (.list ((sd xs ys).map .int))), a5, a6, a7, some (.dat (.int x)), a9, a10, a11, some (.dat (row xs)), a13, a14, a15, a16, a17, a18] S = .nx [a0, a1, a2, some (.dat (row ys)), some (.dat (.list ((sd xs ys).map .int))), a5, a6, a7, some (.dat (.int x)), a9, a10, a11, some (.dat (row xs)), a13, some (.dat (.int t)), a15, a16, a17, a18] S := by
  have l1 := hx.len
  have l2 := hy.len
  have l4 := hx.pos
  have l5 := hx.le
  have hl : xs.length = ys.length := by omega
  have h0 : 0 < xs.length := by omega
  have sl := sd_len hl
  have hf : (sd xs ys).length ≤ 16777216 := by omega
  have e1 := idx_end S (sd xs ys) _ (sd_ne hl h0) (sd_last hl h0)
  have e2 := idx_zero S (sd xs ys) _ (sd_first hl h0)
  have hle := mn_le_mx hl h0
  have bj := Bd_jn (c := 100000098) (d := 1000000000) x 0 bx by' hx1 hx2 (by decide) (by decide) hl
  have hj := len_jn x 0 xs ys hl
  have r := rep_tup S ((jn x 0 xs ys).map .int) (fun p hp => by
    obtain ⟨v, hv, rfl⟩ := List.mem_map.mp hp
    have := bj v hv
    exact simple_int v (by omega) (by omega)) (by simp; omega)
  have rc := rc_same S _ (can_of_rep r)
  generalize hu : (if mn (df xs ys) > x then mn (df xs ys) else x) = u
  generalize ht : (if mx (df xs ys) < u then mx (df xs ys) else u) = t
  have u1 : mn (df xs ys) ≤ u := by rw [← hu]; split <;> omega
  have t1 : mn (df xs ys) ≤ t := by rw [← ht]; split <;> omega
  have t2 : t ≤ mx (df xs ys) := by rw [← ht]; split <;> omega
  have hjt := len_jn t 0 xs ys hl
  have g1' := F24_ok S ys (jn t 0 xs ys) (by omega) (by omega) (by omega)
  have g2' := F24_ok S xs (jn t 0 xs ys) (by omega) (by omega) (by omega)
  rw [gp_join_second hl h0 t t1 t2] at g1'
  rw [gp_join_first hl h0 t t1 t2] at g2'
  refine ⟨t, ?_⟩
  unfold bodyS inner25
  simp (maxDischargeDepth := 3) only [xE_var, xE_lit, xE_gv, xE_bin, xE_neg, xE_not, xE_and, xE_or, xE_cmp, xE_rcmp, xE_chain, xE_ite, xE_call, xE_blt, xE_idx, xE_sl, xE_tup, xE_lst, xE_comp, xE_kset, xE_isi, xA_one, xA_cons, xO_one, xO_cons, xL_nil, xL_cons, xL_star, xT_nil, xT_one, xU_none, xU_some, xI_one, xI_enum, xI_rng1, xI_rng2, xI_zip2, xS_asg, xS_par, xS_seti, xS_expr, xS_ret, xS_retN, xS_iff, xS_for, xSs_nil, xSs_cons, bind_ok, sr_ok, ofP_some, ofO_some, getV_some, getG_some, negR_int, fitR_ok, compR_some, callR_some, boolR_some, selR_t, selR_f, forkR_t, forkR_f, optR_some, iR_int, rng1R_int, rng2R_int, zipR_some, nxR_some, setR_some, at_nx, at_rt, truth_bool, truth_list, truth_tuple, put_nm, put_tp, put_tp2, setSlots_nil, setSlots_cons, add_int, sub_int, add_tup, add_lst, mod_int, lt_int, le_int, gt_int, ge_int, eq_int, ne_int, eq_bool, ne_bool, is_bool, isNot_bool, is_intN, isNot_intN, cmpR_of _ (lt_int _ _ _), cmpR_of _ (le_int _ _ _), cmpR_of _ (gt_int _ _ _), cmpR_of _ (ge_int _ _ _), cmpR_of _ (eq_int _ _ _), cmpR_of _ (ne_int _ _ _), cmpR_of _ (eq_bool _ _ _), cmpR_of _ (ne_bool _ _ _), cmpR_of _ (is_bool _ _ _), cmpR_of _ (isNot_bool _ _ _), cmpR_of _ (is_intN _ _), cmpR_of _ (isNot_intN _ _), len_tup, len_lst, len_scr, abs_int, int_int, int_bool, min_ints, max_ints, tuple_lst, tuple_tup, list_tup, mkL_f, mkT_f, toDats_cons, toDats_nil, toDats_app, List.append_nil, Nat.reduceAdd, Nat.reduceLeDiff, decide_true, decide_false, Int.reduceEq, srcOf_tup, srcOf_lst, isaD_dat, below_dat, leave_rtS, leave_nxS, wipe_nil, wipe_cons, map_some', len_one, len_enum, len_zip, len_rng, len_vals, truthR, List.getElem?_cons_zero, List.getElem?_cons_succ, List.set_cons_zero, List.set_cons_succ, List.length_cons, List.length_nil, List.length_map, List.reverse_cons, List.reverse_nil, List.nil_append, List.cons_append, List.map_cons, List.map_nil, Nat.zero_add, Bool.not_true, Bool.not_false, idx_t0, idx_t1, idx_t2, idx_l0, seq_tup, eq_row, eq_ints, eq_nil, ne_nil, in_none_row, in_ints, toDats_dat, intsOf_int, Option.bind_some, cmpR_of _ (eq_row _ _ _), cmpR_of _ (eq_ints _ _ _), cmpR_of _ (eq_nil _ _), cmpR_of _ (ne_nil _ _), cmpR_of _ (in_none_row _ _), cmpR_of _ (in_ints _ _ _), cmpR_of _ (ne_nilnil _), p25_13, p25_22, p25_24, F13_ok S hx hy x hx1 hx2, F22_ok S xs ys x hl (by omega), r, rc, e1, e2, hu, ht, F22_ok S xs ys t hl (by omega), g1', g2']
theorem st25_12 (n k : Nat) (hj : Jar n k S) (hk : k + 100 ≤ 1000000) (bx : Bd 100000098 xs) (by' : Bd 100000098 ys) : ∃ (u v : Option D) (S1 : Store), evS P25 GV s25_12 [some (.ref n), a1, a2, some (.dat (row ys)), some (.dat (.list ((sd xs ys).map .int))), a5, a6, a7, a8, a9, a10, a11, some (.dat (row xs)), a13, a14, a15, a16, a17, a18] S = .nx [some (.ref n), a1, a2, some (.dat (row ys)), some (.dat (.list ((sd xs ys).map .int))), a5, a6, a7, u, a9, a10, a11, some (.dat (row xs)), a13, v, a15, a16, a17, a18] S1 ∧ Jar n (k + 1) S1 ∧ S1.length = S.length := by
  have l1 := hx.len
  have l2 := hy.len
  have l4 := hx.pos
  have l5 := hx.le
  have hl : xs.length = ys.length := by omega
  have h0 : 0 < xs.length := by omega
  have sl := sd_len hl
  have hf : (sd xs ys).length ≤ 16777216 := by omega
  obtain ⟨w, S1, f1, f2, f3, f4, f5⟩ := F20_ok S n k 2001 hj (by omega) (by decide) (by decide)
  have q : binop .add (.dat (.list (((sd xs ys).take 2).map .int))) (.dat (.list [.int (w - 1000), .int 0])) S1 = some (.dat (.list (((sd xs ys).take 2 ++ [w - 1000, 0]).map .int)), S1) := by
    rw [add_lst _ _ _ (by simp; omega), List.map_append]
    rfl
  have dbd : ∀ v ∈ df xs ys, -200000196 ≤ v ∧ v ≤ 200000196 := fun v hv => by
    obtain ⟨i, h1, h2, e⟩ := (mem_df xs ys v).mp hv
    have b1 := bx _ (List.getElem_mem h1)
    have b2 := by' _ (List.getElem_mem h2)
    omega
  obtain ⟨u, v, hloop⟩ := loopL S1 (bodyS P25 GV inner25) (fun a c => [some (.ref n), a1, a2, some (.dat (row ys)), some (.dat (.list ((sd xs ys).map .int))), a5, a6, a7, a, a9, a10, a11, some (.dat (row xs)), a13, c, a15, a16, a17, a18]) ((sd xs ys).take 2 ++ [w - 1000, 0]) (by simp; omega) (fun a c d => rfl) (fun x hx' c => by
    have hb : -1000000000 ≤ x ∧ x ≤ 1000000000 := by
      rcases List.mem_append.mp hx' with h | h
      · have := dbd x ((mem_sd xs ys x).mp (List.mem_of_mem_take h))
        omega
      · simp only [List.mem_cons, List.not_mem_nil, or_false] at h
        omega
    obtain ⟨t, e⟩ := turn25 S1 (some (.ref n)) a1 a2 a5 a6 a7 a9 a10 a11 a13 c a15 a16 a17 a18 hx hy bx by' x hb.1 hb.2
    exact ⟨_, e⟩) a8 a14
  refine ⟨u, v, S1, ?_, f4, f5⟩
  generalize hls : (sd xs ys).take 2 ++ [w - 1000, 0] = ls at q hloop
  have eI : evI P25 GV (.one (.bin .add (.sl (.var 4) .none (.some (.lit (.int 2)))) (.lst false (.cons (.bin .sub (.call 20 (.cons (.var 0) (.cons (.lit (.int 2001)) .nil))) (.lit (.int 1000))) (.cons (.lit (.int 0)) .nil))))) [some (.ref n), a1, a2, some (.dat (row ys)), some (.dat (.list ((sd xs ys).map .int))), a5, a6, a7, a8, a9, a10, a11, some (.dat (row xs)), a13, a14, a15, a16, a17, a18] S = .ok (.one (.vals (ls.map .int))) S1 := by
    simp (maxDischargeDepth := 3) only [xE_var, xE_lit, xE_gv, xE_bin, xE_neg, xE_not, xE_and, xE_or, xE_cmp, xE_rcmp, xE_chain, xE_ite, xE_call, xE_blt, xE_idx, xE_sl, xE_tup, xE_lst, xE_comp, xE_kset, xE_isi, xA_one, xA_cons, xO_one, xO_cons, xL_nil, xL_cons, xL_star, xT_nil, xT_one, xU_none, xU_some, xI_one, xI_enum, xI_rng1, xI_rng2, xI_zip2, xS_asg, xS_par, xS_seti, xS_expr, xS_ret, xS_retN, xS_iff, xS_for, xSs_nil, xSs_cons, bind_ok, sr_ok, ofP_some, ofO_some, getV_some, getG_some, negR_int, fitR_ok, compR_some, callR_some, boolR_some, selR_t, selR_f, forkR_t, forkR_f, optR_some, iR_int, rng1R_int, rng2R_int, zipR_some, nxR_some, setR_some, at_nx, at_rt, truth_bool, truth_list, truth_tuple, put_nm, put_tp, put_tp2, setSlots_nil, setSlots_cons, add_int, sub_int, add_tup, add_lst, mod_int, lt_int, le_int, gt_int, ge_int, eq_int, ne_int, eq_bool, ne_bool, is_bool, isNot_bool, is_intN, isNot_intN, cmpR_of _ (lt_int _ _ _), cmpR_of _ (le_int _ _ _), cmpR_of _ (gt_int _ _ _), cmpR_of _ (ge_int _ _ _), cmpR_of _ (eq_int _ _ _), cmpR_of _ (ne_int _ _ _), cmpR_of _ (eq_bool _ _ _), cmpR_of _ (ne_bool _ _ _), cmpR_of _ (is_bool _ _ _), cmpR_of _ (isNot_bool _ _ _), cmpR_of _ (is_intN _ _), cmpR_of _ (isNot_intN _ _), len_tup, len_lst, len_scr, abs_int, int_int, int_bool, min_ints, max_ints, tuple_lst, tuple_tup, list_tup, mkL_f, mkT_f, toDats_cons, toDats_nil, toDats_app, List.append_nil, Nat.reduceAdd, Nat.reduceLeDiff, decide_true, decide_false, Int.reduceEq, srcOf_tup, srcOf_lst, isaD_dat, below_dat, leave_rtS, leave_nxS, wipe_nil, wipe_cons, map_some', len_one, len_enum, len_zip, len_rng, len_vals, truthR, List.getElem?_cons_zero, List.getElem?_cons_succ, List.set_cons_zero, List.set_cons_succ, List.length_cons, List.length_nil, List.length_map, List.reverse_cons, List.reverse_nil, List.nil_append, List.cons_append, List.map_cons, List.map_nil, Nat.zero_add, Bool.not_true, Bool.not_false, idx_t0, idx_t1, idx_t2, idx_l0, seq_tup, eq_row, eq_ints, eq_nil, ne_nil, in_none_row, in_ints, toDats_dat, intsOf_int, Option.bind_some, cmpR_of _ (eq_row _ _ _), cmpR_of _ (eq_ints _ _ _), cmpR_of _ (eq_nil _ _), cmpR_of _ (ne_nil _ _), cmpR_of _ (in_none_row _ _), cmpR_of _ (in_ints _ _ _), cmpR_of _ (ne_nilnil _), p25_20, f1, sl_list2, q]
  rw [s25_12_eq, xS_for, eI, sr_ok, len_one, len_vals, List.length_map]
  exact hloop
theorem st25_13 : evS P25 GV s25_13 [a0, a1, a2, some (.dat (row ys)), a4, a5, a6, some (.dat (.list ((sd xs ys).map fun d => row (corner xs ys d)))), a8, a9, a10, a11, some (.dat (row xs)), a13, a14, a15, a16, a17, a18] S = .nx [a0, a1, a2, some (.dat (row ys)), a4, a5, a6, some (.dat (.list ((sd xs ys).map fun d => row (corner xs ys d)))), a8, some (.dat (.list ((scs xs ys).map .int))), a10, a11, some (.dat (row xs)), a13, a14, a15, a16, a17, a18] S := by
  have l1 := hx.len
  have l2 := hy.len
  have l4 := hx.pos
  have l5 := hx.le
  have hl : xs.length = ys.length := by omega
  have h0 : 0 < xs.length := by omega
  have sl := sd_len hl
  have hf : (sd xs ys).length ≤ 16777216 := by omega
  have c := comp_map (Φ := P25) (G := GV) (S := S) (i := 15) (ev := [a0, a1, a2, some (.dat (row ys)), a4, a5, a6, some (.dat (.list ((sd xs ys).map fun d => row (corner xs ys d)))), a8, a9, a10, a11, some (.dat (row xs)), a13, a14, none, a16, a17, a18]) (elt := .blt .min (.cons (.call 24 (.cons (.var 12) (.cons (.var 15) .nil))) (.cons (.call 24 (.cons (.var 3) (.cons (.var 15) .nil))) .nil))) (sd xs ys) (fun d => row (corner xs ys d)) (fun d => .int (score xs ys d)) (fun d _ => by
    have hj := len_jn d 0 xs ys hl
    have hc : (corner xs ys d).length = xs.length := by simp [corner, hj]
    simp (maxDischargeDepth := 3) only [xE_var, xE_lit, xE_gv, xE_bin, xE_neg, xE_not, xE_and, xE_or, xE_cmp, xE_rcmp, xE_chain, xE_ite, xE_call, xE_blt, xE_idx, xE_sl, xE_tup, xE_lst, xE_comp, xE_kset, xE_isi, xA_one, xA_cons, xO_one, xO_cons, xL_nil, xL_cons, xL_star, xT_nil, xT_one, xU_none, xU_some, xI_one, xI_enum, xI_rng1, xI_rng2, xI_zip2, xS_asg, xS_par, xS_seti, xS_expr, xS_ret, xS_retN, xS_iff, xS_for, xSs_nil, xSs_cons, bind_ok, sr_ok, ofP_some, ofO_some, getV_some, getG_some, negR_int, fitR_ok, compR_some, callR_some, boolR_some, selR_t, selR_f, forkR_t, forkR_f, optR_some, iR_int, rng1R_int, rng2R_int, zipR_some, nxR_some, setR_some, at_nx, at_rt, truth_bool, truth_list, truth_tuple, put_nm, put_tp, put_tp2, setSlots_nil, setSlots_cons, add_int, sub_int, add_tup, add_lst, mod_int, lt_int, le_int, gt_int, ge_int, eq_int, ne_int, eq_bool, ne_bool, is_bool, isNot_bool, is_intN, isNot_intN, cmpR_of _ (lt_int _ _ _), cmpR_of _ (le_int _ _ _), cmpR_of _ (gt_int _ _ _), cmpR_of _ (ge_int _ _ _), cmpR_of _ (eq_int _ _ _), cmpR_of _ (ne_int _ _ _), cmpR_of _ (eq_bool _ _ _), cmpR_of _ (ne_bool _ _ _), cmpR_of _ (is_bool _ _ _), cmpR_of _ (isNot_bool _ _ _), cmpR_of _ (is_intN _ _), cmpR_of _ (isNot_intN _ _), len_tup, len_lst, len_scr, abs_int, int_int, int_bool, min_ints, max_ints, tuple_lst, tuple_tup, list_tup, mkL_f, mkT_f, toDats_cons, toDats_nil, toDats_app, List.append_nil, Nat.reduceAdd, Nat.reduceLeDiff, decide_true, decide_false, Int.reduceEq, srcOf_tup, srcOf_lst, isaD_dat, below_dat, leave_rtS, leave_nxS, wipe_nil, wipe_cons, map_some', len_one, len_enum, len_zip, len_rng, len_vals, truthR, List.getElem?_cons_zero, List.getElem?_cons_succ, List.set_cons_zero, List.set_cons_succ, List.length_cons, List.length_nil, List.length_map, List.reverse_cons, List.reverse_nil, List.nil_append, List.cons_append, List.map_cons, List.map_nil, Nat.zero_add, Bool.not_true, Bool.not_false, idx_t0, idx_t1, idx_t2, idx_l0, seq_tup, eq_row, eq_ints, eq_nil, ne_nil, in_none_row, in_ints, toDats_dat, intsOf_int, Option.bind_some, cmpR_of _ (eq_row _ _ _), cmpR_of _ (eq_ints _ _ _), cmpR_of _ (eq_nil _ _), cmpR_of _ (ne_nil _ _), cmpR_of _ (in_none_row _ _), cmpR_of _ (in_ints _ _ _), cmpR_of _ (ne_nilnil _), p25_24, F24_ok S xs (corner xs ys d) (by omega) h0 (by omega), F24_ok S ys (corner xs ys d) (by omega) (by omega) (by omega)]
    rfl) _ rfl
  have e : (sd xs ys).map (fun d => PyData.int (score xs ys d)) = (scs xs ys).map .int := by
    rw [List.map_map]
    rfl
  rw [e] at c
  unfold s25_13
  simp (maxDischargeDepth := 3) only [xE_var, xE_lit, xE_gv, xE_bin, xE_neg, xE_not, xE_and, xE_or, xE_cmp, xE_rcmp, xE_chain, xE_ite, xE_call, xE_blt, xE_idx, xE_sl, xE_tup, xE_lst, xE_comp, xE_kset, xE_isi, xA_one, xA_cons, xO_one, xO_cons, xL_nil, xL_cons, xL_star, xT_nil, xT_one, xU_none, xU_some, xI_one, xI_enum, xI_rng1, xI_rng2, xI_zip2, xS_asg, xS_par, xS_seti, xS_expr, xS_ret, xS_retN, xS_iff, xS_for, xSs_nil, xSs_cons, bind_ok, sr_ok, ofP_some, ofO_some, getV_some, getG_some, negR_int, fitR_ok, compR_some, callR_some, boolR_some, selR_t, selR_f, forkR_t, forkR_f, optR_some, iR_int, rng1R_int, rng2R_int, zipR_some, nxR_some, setR_some, at_nx, at_rt, truth_bool, truth_list, truth_tuple, put_nm, put_tp, put_tp2, setSlots_nil, setSlots_cons, add_int, sub_int, add_tup, add_lst, mod_int, lt_int, le_int, gt_int, ge_int, eq_int, ne_int, eq_bool, ne_bool, is_bool, isNot_bool, is_intN, isNot_intN, cmpR_of _ (lt_int _ _ _), cmpR_of _ (le_int _ _ _), cmpR_of _ (gt_int _ _ _), cmpR_of _ (ge_int _ _ _), cmpR_of _ (eq_int _ _ _), cmpR_of _ (ne_int _ _ _), cmpR_of _ (eq_bool _ _ _), cmpR_of _ (ne_bool _ _ _), cmpR_of _ (is_bool _ _ _), cmpR_of _ (isNot_bool _ _ _), cmpR_of _ (is_intN _ _), cmpR_of _ (isNot_intN _ _), len_tup, len_lst, len_scr, abs_int, int_int, int_bool, min_ints, max_ints, tuple_lst, tuple_tup, list_tup, mkL_f, mkT_f, toDats_cons, toDats_nil, toDats_app, List.append_nil, Nat.reduceAdd, Nat.reduceLeDiff, decide_true, decide_false, Int.reduceEq, srcOf_tup, srcOf_lst, isaD_dat, below_dat, leave_rtS, leave_nxS, wipe_nil, wipe_cons, map_some', len_one, len_enum, len_zip, len_rng, len_vals, truthR, List.getElem?_cons_zero, List.getElem?_cons_succ, List.set_cons_zero, List.set_cons_succ, List.length_cons, List.length_nil, List.length_map, List.reverse_cons, List.reverse_nil, List.nil_append, List.cons_append, List.map_cons, List.map_nil, Nat.zero_add, Bool.not_true, Bool.not_false, idx_t0, idx_t1, idx_t2, idx_l0, seq_tup, eq_row, eq_ints, eq_nil, ne_nil, in_none_row, in_ints, toDats_dat, intsOf_int, Option.bind_some, cmpR_of _ (eq_row _ _ _), cmpR_of _ (eq_ints _ _ _), cmpR_of _ (eq_nil _ _), cmpR_of _ (ne_nil _ _), cmpR_of _ (in_none_row _ _), cmpR_of _ (in_ints _ _ _), cmpR_of _ (ne_nilnil _), c, hf]
theorem st25_14 (bx : Bd 100000098 xs) (by' : Bd 100000098 ys) : evS P25 GV s25_14 [a0, a1, a2, some (.dat (row ys)), a4, a5, a6, some (.dat (.list ((sd xs ys).map fun d => row (corner xs ys d)))), a8, some (.dat (.list ((scs xs ys).map .int))), a10, a11, some (.dat (row xs)), a13, a14, a15, a16, a17, a18] S = .nx [a0, a1, a2, some (.dat (row ys)), a4, a5, a6, some (.dat (.list ((sd xs ys).map fun d => row (corner xs ys d)))), a8, some (.dat (.list ((scs xs ys).map .int))), a10, a11, some (.dat (row xs)), a13, a14, a15, a16, a17, a18] S := by
  have l1 := hx.len
  have l2 := hy.len
  have l4 := hx.pos
  have l5 := hx.le
  have hl : xs.length = ys.length := by omega
  have h0 : 0 < xs.length := by omega
  have sl := sd_len hl
  have hf : (sd xs ys).length ≤ 16777216 := by omega
  have hmf := (mid_find hl h0).2
  have hmem : (sd xs ys).getD (midAt xs ys) 0 ∈ df xs ys := by
    rw [List.getD_eq_getElem?_getD, List.getElem?_eq_getElem hmf]
    exact (mem_sd xs ys _).mp (List.getElem_mem hmf)
  have hj := len_jn ((sd xs ys).getD (midAt xs ys) 0) 0 xs ys hl
  have hml : (mid xs ys).length = xs.length := by simp only [mid, corner, List.length_map, hj]
  have bm := corner_bd 100000098 hl bx by' (by decide) _ hmem
  have r := rep_tup S ((mid xs ys).map .int) (fun p hp => by
    obtain ⟨v, hv, rfl⟩ := List.mem_map.mp hp
    have := bm v hv
    exact simple_int v (by omega) (by omega)) (by simp; omega)
  have rc := rc_same S _ (can_of_rep r)
  have ix := index_ok S hl h0
  have im := idx_mid S hl h0
  generalize ((midAt xs ys : Nat) : Int) = mi at ix im
  unfold s25_14
  simp (maxDischargeDepth := 3) only [xE_var, xE_lit, xE_gv, xE_bin, xE_neg, xE_not, xE_and, xE_or, xE_cmp, xE_rcmp, xE_chain, xE_ite, xE_call, xE_blt, xE_idx, xE_sl, xE_tup, xE_lst, xE_comp, xE_kset, xE_isi, xA_one, xA_cons, xO_one, xO_cons, xL_nil, xL_cons, xL_star, xT_nil, xT_one, xU_none, xU_some, xI_one, xI_enum, xI_rng1, xI_rng2, xI_zip2, xS_asg, xS_par, xS_seti, xS_expr, xS_ret, xS_retN, xS_iff, xS_for, xSs_nil, xSs_cons, bind_ok, sr_ok, ofP_some, ofO_some, getV_some, getG_some, negR_int, fitR_ok, compR_some, callR_some, boolR_some, selR_t, selR_f, forkR_t, forkR_f, optR_some, iR_int, rng1R_int, rng2R_int, zipR_some, nxR_some, setR_some, at_nx, at_rt, truth_bool, truth_list, truth_tuple, put_nm, put_tp, put_tp2, setSlots_nil, setSlots_cons, add_int, sub_int, add_tup, add_lst, mod_int, lt_int, le_int, gt_int, ge_int, eq_int, ne_int, eq_bool, ne_bool, is_bool, isNot_bool, is_intN, isNot_intN, cmpR_of _ (lt_int _ _ _), cmpR_of _ (le_int _ _ _), cmpR_of _ (gt_int _ _ _), cmpR_of _ (ge_int _ _ _), cmpR_of _ (eq_int _ _ _), cmpR_of _ (ne_int _ _ _), cmpR_of _ (eq_bool _ _ _), cmpR_of _ (ne_bool _ _ _), cmpR_of _ (is_bool _ _ _), cmpR_of _ (isNot_bool _ _ _), cmpR_of _ (is_intN _ _), cmpR_of _ (isNot_intN _ _), len_tup, len_lst, len_scr, abs_int, int_int, int_bool, min_ints, max_ints, tuple_lst, tuple_tup, list_tup, mkL_f, mkT_f, toDats_cons, toDats_nil, toDats_app, List.append_nil, Nat.reduceAdd, Nat.reduceLeDiff, decide_true, decide_false, Int.reduceEq, srcOf_tup, srcOf_lst, isaD_dat, below_dat, leave_rtS, leave_nxS, wipe_nil, wipe_cons, map_some', len_one, len_enum, len_zip, len_rng, len_vals, truthR, List.getElem?_cons_zero, List.getElem?_cons_succ, List.set_cons_zero, List.set_cons_succ, List.length_cons, List.length_nil, List.length_map, List.reverse_cons, List.reverse_nil, List.nil_append, List.cons_append, List.map_cons, List.map_nil, Nat.zero_add, Bool.not_true, Bool.not_false, idx_t0, idx_t1, idx_t2, idx_l0, seq_tup, eq_row, eq_ints, eq_nil, ne_nil, in_none_row, in_ints, toDats_dat, intsOf_int, Option.bind_some, cmpR_of _ (eq_row _ _ _), cmpR_of _ (eq_ints _ _ _), cmpR_of _ (eq_nil _ _), cmpR_of _ (ne_nil _ _), cmpR_of _ (in_none_row _ _), cmpR_of _ (in_ints _ _ _), cmpR_of _ (ne_nilnil _), p25_19, F19_ok S hx hy, xE_meth, getL_dat, max_sc S hl h0, ix, im, r, rc]
theorem st25_15 : evS P25 GV s25_15 [a0, a1, a2, some (.dat (row ys)), a4, a5, a6, a7, a8, a9, a10, a11, some (.dat (row xs)), a13, a14, a15, a16, a17, a18] S = .nx [a0, a1, a2, some (.dat (row ys)), a4, a5, a6, a7, a8, a9, some (.dat (row (lss xs ys))), a11, some (.dat (row xs)), a13, a14, a15, a16, a17, a18] S := by
  have l1 := hx.len
  have l2 := hy.len
  have l4 := hx.pos
  have l5 := hx.le
  have hl : xs.length = ys.length := by omega
  have h0 : 0 < xs.length := by omega
  have sl := sd_len hl
  have hf : (sd xs ys).length ≤ 16777216 := by omega
  have c := comp_zi (Φ := P25) (G := GV) (S := S) (i := 17) (j := 18) (ev := [a0, a1, a2, some (.dat (row ys)), a4, a5, a6, a7, a8, a9, a10, a11, some (.dat (row xs)), a13, a14, a15, a16, none, none]) (elt := .blt .min (.cons (.var 17) (.cons (.var 18) .nil))) xs ys hl (fun x y => if y < x then y else x) (fun x y => by simp (maxDischargeDepth := 3) only [xE_var, xE_lit, xE_gv, xE_bin, xE_neg, xE_not, xE_and, xE_or, xE_cmp, xE_rcmp, xE_chain, xE_ite, xE_call, xE_blt, xE_idx, xE_sl, xE_tup, xE_lst, xE_comp, xE_kset, xE_isi, xA_one, xA_cons, xO_one, xO_cons, xL_nil, xL_cons, xL_star, xT_nil, xT_one, xU_none, xU_some, xI_one, xI_enum, xI_rng1, xI_rng2, xI_zip2, xS_asg, xS_par, xS_seti, xS_expr, xS_ret, xS_retN, xS_iff, xS_for, xSs_nil, xSs_cons, bind_ok, sr_ok, ofP_some, ofO_some, getV_some, getG_some, negR_int, fitR_ok, compR_some, callR_some, boolR_some, selR_t, selR_f, forkR_t, forkR_f, optR_some, iR_int, rng1R_int, rng2R_int, zipR_some, nxR_some, setR_some, at_nx, at_rt, truth_bool, truth_list, truth_tuple, put_nm, put_tp, put_tp2, setSlots_nil, setSlots_cons, add_int, sub_int, add_tup, add_lst, mod_int, lt_int, le_int, gt_int, ge_int, eq_int, ne_int, eq_bool, ne_bool, is_bool, isNot_bool, is_intN, isNot_intN, cmpR_of _ (lt_int _ _ _), cmpR_of _ (le_int _ _ _), cmpR_of _ (gt_int _ _ _), cmpR_of _ (ge_int _ _ _), cmpR_of _ (eq_int _ _ _), cmpR_of _ (ne_int _ _ _), cmpR_of _ (eq_bool _ _ _), cmpR_of _ (ne_bool _ _ _), cmpR_of _ (is_bool _ _ _), cmpR_of _ (isNot_bool _ _ _), cmpR_of _ (is_intN _ _), cmpR_of _ (isNot_intN _ _), len_tup, len_lst, len_scr, abs_int, int_int, int_bool, min_ints, max_ints, tuple_lst, tuple_tup, list_tup, mkL_f, mkT_f, toDats_cons, toDats_nil, toDats_app, List.append_nil, Nat.reduceAdd, Nat.reduceLeDiff, decide_true, decide_false, Int.reduceEq, srcOf_tup, srcOf_lst, isaD_dat, below_dat, leave_rtS, leave_nxS, wipe_nil, wipe_cons, map_some', len_one, len_enum, len_zip, len_rng, len_vals, truthR, List.getElem?_cons_zero, List.getElem?_cons_succ, List.set_cons_zero, List.set_cons_succ, List.length_cons, List.length_nil, List.length_map, List.reverse_cons, List.reverse_nil, List.nil_append, List.cons_append, List.map_cons, List.map_nil, Nat.zero_add, Bool.not_true, Bool.not_false, idx_t0, idx_t1, idx_t2, idx_l0, seq_tup, eq_row, eq_ints, eq_nil, ne_nil, in_none_row, in_ints, toDats_dat, intsOf_int, Option.bind_some, cmpR_of _ (eq_row _ _ _), cmpR_of _ (eq_ints _ _ _), cmpR_of _ (eq_nil _ _), cmpR_of _ (ne_nil _ _), cmpR_of _ (in_none_row _ _), cmpR_of _ (in_ints _ _ _), cmpR_of _ (ne_nilnil _)])
  have hd : (List.zipWith (fun x y : Int => if y < x then y else x) xs ys).length ≤ 16777216 := by simp; omega
  unfold s25_15
  simp (maxDischargeDepth := 3) only [xE_var, xE_lit, xE_gv, xE_bin, xE_neg, xE_not, xE_and, xE_or, xE_cmp, xE_rcmp, xE_chain, xE_ite, xE_call, xE_blt, xE_idx, xE_sl, xE_tup, xE_lst, xE_comp, xE_kset, xE_isi, xA_one, xA_cons, xO_one, xO_cons, xL_nil, xL_cons, xL_star, xT_nil, xT_one, xU_none, xU_some, xI_one, xI_enum, xI_rng1, xI_rng2, xI_zip2, xS_asg, xS_par, xS_seti, xS_expr, xS_ret, xS_retN, xS_iff, xS_for, xSs_nil, xSs_cons, bind_ok, sr_ok, ofP_some, ofO_some, getV_some, getG_some, negR_int, fitR_ok, compR_some, callR_some, boolR_some, selR_t, selR_f, forkR_t, forkR_f, optR_some, iR_int, rng1R_int, rng2R_int, zipR_some, nxR_some, setR_some, at_nx, at_rt, truth_bool, truth_list, truth_tuple, put_nm, put_tp, put_tp2, setSlots_nil, setSlots_cons, add_int, sub_int, add_tup, add_lst, mod_int, lt_int, le_int, gt_int, ge_int, eq_int, ne_int, eq_bool, ne_bool, is_bool, isNot_bool, is_intN, isNot_intN, cmpR_of _ (lt_int _ _ _), cmpR_of _ (le_int _ _ _), cmpR_of _ (gt_int _ _ _), cmpR_of _ (ge_int _ _ _), cmpR_of _ (eq_int _ _ _), cmpR_of _ (ne_int _ _ _), cmpR_of _ (eq_bool _ _ _), cmpR_of _ (ne_bool _ _ _), cmpR_of _ (is_bool _ _ _), cmpR_of _ (isNot_bool _ _ _), cmpR_of _ (is_intN _ _), cmpR_of _ (isNot_intN _ _), len_tup, len_lst, len_scr, abs_int, int_int, int_bool, min_ints, max_ints, tuple_lst, tuple_tup, list_tup, mkL_f, mkT_f, toDats_cons, toDats_nil, toDats_app, List.append_nil, Nat.reduceAdd, Nat.reduceLeDiff, decide_true, decide_false, Int.reduceEq, srcOf_tup, srcOf_lst, isaD_dat, below_dat, leave_rtS, leave_nxS, wipe_nil, wipe_cons, map_some', len_one, len_enum, len_zip, len_rng, len_vals, truthR, List.getElem?_cons_zero, List.getElem?_cons_succ, List.set_cons_zero, List.set_cons_succ, List.length_cons, List.length_nil, List.length_map, List.reverse_cons, List.reverse_nil, List.nil_append, List.cons_append, List.map_cons, List.map_nil, Nat.zero_add, Bool.not_true, Bool.not_false, idx_t0, idx_t1, idx_t2, idx_l0, seq_tup, eq_row, eq_ints, eq_nil, ne_nil, in_none_row, in_ints, toDats_dat, intsOf_int, Option.bind_some, cmpR_of _ (eq_row _ _ _), cmpR_of _ (eq_ints _ _ _), cmpR_of _ (eq_nil _ _), cmpR_of _ (ne_nil _ _), cmpR_of _ (in_none_row _ _), cmpR_of _ (in_ints _ _ _), cmpR_of _ (ne_nilnil _), c, hd]
  rfl
theorem st25_16 : evS P25 GV s25_16 [a0, a1, a2, some (.dat (row ys)), a4, a5, a6, a7, a8, a9, a10, a11, some (.dat (row xs)), a13, a14, a15, a16, a17, a18] S = .nx [a0, a1, a2, some (.dat (row ys)), a4, a5, a6, a7, a8, a9, a10, some (.dat (row (jn 0 0 xs ys))), some (.dat (row xs)), a13, a14, a15, a16, a17, a18] S := by
  have l1 := hx.len
  have l2 := hy.len
  have l4 := hx.pos
  have l5 := hx.le
  have hl : xs.length = ys.length := by omega
  have h0 : 0 < xs.length := by omega
  have sl := sd_len hl
  have hf : (sd xs ys).length ≤ 16777216 := by omega
  unfold s25_16
  simp (maxDischargeDepth := 3) only [xE_var, xE_lit, xE_gv, xE_bin, xE_neg, xE_not, xE_and, xE_or, xE_cmp, xE_rcmp, xE_chain, xE_ite, xE_call, xE_blt, xE_idx, xE_sl, xE_tup, xE_lst, xE_comp, xE_kset, xE_isi, xA_one, xA_cons, xO_one, xO_cons, xL_nil, xL_cons, xL_star, xT_nil, xT_one, xU_none, xU_some, xI_one, xI_enum, xI_rng1, xI_rng2, xI_zip2, xS_asg, xS_par, xS_seti, xS_expr, xS_ret, xS_retN, xS_iff, xS_for, xSs_nil, xSs_cons, bind_ok, sr_ok, ofP_some, ofO_some, getV_some, getG_some, negR_int, fitR_ok, compR_some, callR_some, boolR_some, selR_t, selR_f, forkR_t, forkR_f, optR_some, iR_int, rng1R_int, rng2R_int, zipR_some, nxR_some, setR_some, at_nx, at_rt, truth_bool, truth_list, truth_tuple, put_nm, put_tp, put_tp2, setSlots_nil, setSlots_cons, add_int, sub_int, add_tup, add_lst, mod_int, lt_int, le_int, gt_int, ge_int, eq_int, ne_int, eq_bool, ne_bool, is_bool, isNot_bool, is_intN, isNot_intN, cmpR_of _ (lt_int _ _ _), cmpR_of _ (le_int _ _ _), cmpR_of _ (gt_int _ _ _), cmpR_of _ (ge_int _ _ _), cmpR_of _ (eq_int _ _ _), cmpR_of _ (ne_int _ _ _), cmpR_of _ (eq_bool _ _ _), cmpR_of _ (ne_bool _ _ _), cmpR_of _ (is_bool _ _ _), cmpR_of _ (isNot_bool _ _ _), cmpR_of _ (is_intN _ _), cmpR_of _ (isNot_intN _ _), len_tup, len_lst, len_scr, abs_int, int_int, int_bool, min_ints, max_ints, tuple_lst, tuple_tup, list_tup, mkL_f, mkT_f, toDats_cons, toDats_nil, toDats_app, List.append_nil, Nat.reduceAdd, Nat.reduceLeDiff, decide_true, decide_false, Int.reduceEq, srcOf_tup, srcOf_lst, isaD_dat, below_dat, leave_rtS, leave_nxS, wipe_nil, wipe_cons, map_some', len_one, len_enum, len_zip, len_rng, len_vals, truthR, List.getElem?_cons_zero, List.getElem?_cons_succ, List.set_cons_zero, List.set_cons_succ, List.length_cons, List.length_nil, List.length_map, List.reverse_cons, List.reverse_nil, List.nil_append, List.cons_append, List.map_cons, List.map_nil, Nat.zero_add, Bool.not_true, Bool.not_false, idx_t0, idx_t1, idx_t2, idx_l0, seq_tup, eq_row, eq_ints, eq_nil, ne_nil, in_none_row, in_ints, toDats_dat, intsOf_int, Option.bind_some, cmpR_of _ (eq_row _ _ _), cmpR_of _ (eq_ints _ _ _), cmpR_of _ (eq_nil _ _), cmpR_of _ (ne_nil _ _), cmpR_of _ (in_none_row _ _), cmpR_of _ (in_ints _ _ _), cmpR_of _ (ne_nilnil _), p25_22, F22_ok S xs ys 0 hl (by omega)]
theorem st25_17 : evS P25 GV s25_17 [a0, a1, a2, some (.dat (row ys)), a4, a5, a6, a7, a8, a9, some (.dat (row (lss xs ys))), some (.dat (row (jn 0 0 xs ys))), some (.dat (row xs)), a13, a14, a15, a16, a17, a18] S = .nx [a0, a1, a2, some (.dat (row ys)), a4, a5, a6, a7, a8, a9, some (.dat (row (lss xs ys))), some (.dat (row (jn 0 0 xs ys))), some (.dat (row xs)), a13, a14, a15, a16, a17, a18] S := by
  have l1 := hx.len
  have l2 := hy.len
  have l4 := hx.pos
  have l5 := hx.le
  have hl : xs.length = ys.length := by omega
  have h0 : 0 < xs.length := by omega
  have sl := sd_len hl
  have hf : (sd xs ys).length ≤ 16777216 := by omega
  have c1 := comp_zi (Φ := P25) (G := GV) (S := S) (i := 17) (j := 18) (ev := [a0, a1, a2, some (.dat (row ys)), a4, a5, a6, a7, a8, a9, some (.dat (row (lss xs ys))), some (.dat (row (jn 0 0 xs ys))), some (.dat (row xs)), a13, a14, a15, a16, none, none]) (elt := .bin .add (.var 17) (.var 18)) xs ys hl (fun x y => x + y) (fun x y => by simp (maxDischargeDepth := 3) only [xE_var, xE_lit, xE_gv, xE_bin, xE_neg, xE_not, xE_and, xE_or, xE_cmp, xE_rcmp, xE_chain, xE_ite, xE_call, xE_blt, xE_idx, xE_sl, xE_tup, xE_lst, xE_comp, xE_kset, xE_isi, xA_one, xA_cons, xO_one, xO_cons, xL_nil, xL_cons, xL_star, xT_nil, xT_one, xU_none, xU_some, xI_one, xI_enum, xI_rng1, xI_rng2, xI_zip2, xS_asg, xS_par, xS_seti, xS_expr, xS_ret, xS_retN, xS_iff, xS_for, xSs_nil, xSs_cons, bind_ok, sr_ok, ofP_some, ofO_some, getV_some, getG_some, negR_int, fitR_ok, compR_some, callR_some, boolR_some, selR_t, selR_f, forkR_t, forkR_f, optR_some, iR_int, rng1R_int, rng2R_int, zipR_some, nxR_some, setR_some, at_nx, at_rt, truth_bool, truth_list, truth_tuple, put_nm, put_tp, put_tp2, setSlots_nil, setSlots_cons, add_int, sub_int, add_tup, add_lst, mod_int, lt_int, le_int, gt_int, ge_int, eq_int, ne_int, eq_bool, ne_bool, is_bool, isNot_bool, is_intN, isNot_intN, cmpR_of _ (lt_int _ _ _), cmpR_of _ (le_int _ _ _), cmpR_of _ (gt_int _ _ _), cmpR_of _ (ge_int _ _ _), cmpR_of _ (eq_int _ _ _), cmpR_of _ (ne_int _ _ _), cmpR_of _ (eq_bool _ _ _), cmpR_of _ (ne_bool _ _ _), cmpR_of _ (is_bool _ _ _), cmpR_of _ (isNot_bool _ _ _), cmpR_of _ (is_intN _ _), cmpR_of _ (isNot_intN _ _), len_tup, len_lst, len_scr, abs_int, int_int, int_bool, min_ints, max_ints, tuple_lst, tuple_tup, list_tup, mkL_f, mkT_f, toDats_cons, toDats_nil, toDats_app, List.append_nil, Nat.reduceAdd, Nat.reduceLeDiff, decide_true, decide_false, Int.reduceEq, srcOf_tup, srcOf_lst, isaD_dat, below_dat, leave_rtS, leave_nxS, wipe_nil, wipe_cons, map_some', len_one, len_enum, len_zip, len_rng, len_vals, truthR, List.getElem?_cons_zero, List.getElem?_cons_succ, List.set_cons_zero, List.set_cons_succ, List.length_cons, List.length_nil, List.length_map, List.reverse_cons, List.reverse_nil, List.nil_append, List.cons_append, List.map_cons, List.map_nil, Nat.zero_add, Bool.not_true, Bool.not_false, idx_t0, idx_t1, idx_t2, idx_l0, seq_tup, eq_row, eq_ints, eq_nil, ne_nil, in_none_row, in_ints, toDats_dat, intsOf_int, Option.bind_some, cmpR_of _ (eq_row _ _ _), cmpR_of _ (eq_ints _ _ _), cmpR_of _ (eq_nil _ _), cmpR_of _ (ne_nil _ _), cmpR_of _ (in_none_row _ _), cmpR_of _ (in_ints _ _ _), cmpR_of _ (ne_nilnil _)])
  have c2 := comp_zi (Φ := P25) (G := GV) (S := S) (i := 17) (j := 18) (ev := [a0, a1, a2, some (.dat (row ys)), a4, a5, a6, a7, a8, a9, some (.dat (row (lss xs ys))), some (.dat (row (jn 0 0 xs ys))), some (.dat (row xs)), a13, a14, a15, a16, none, none]) (elt := .bin .add (.var 17) (.var 18)) (lss xs ys) (jn 0 0 xs ys) (by rw [len_lss hl, len_jn 0 0 xs ys hl]) (fun x y => x + y) (fun x y => by simp (maxDischargeDepth := 3) only [xE_var, xE_lit, xE_gv, xE_bin, xE_neg, xE_not, xE_and, xE_or, xE_cmp, xE_rcmp, xE_chain, xE_ite, xE_call, xE_blt, xE_idx, xE_sl, xE_tup, xE_lst, xE_comp, xE_kset, xE_isi, xA_one, xA_cons, xO_one, xO_cons, xL_nil, xL_cons, xL_star, xT_nil, xT_one, xU_none, xU_some, xI_one, xI_enum, xI_rng1, xI_rng2, xI_zip2, xS_asg, xS_par, xS_seti, xS_expr, xS_ret, xS_retN, xS_iff, xS_for, xSs_nil, xSs_cons, bind_ok, sr_ok, ofP_some, ofO_some, getV_some, getG_some, negR_int, fitR_ok, compR_some, callR_some, boolR_some, selR_t, selR_f, forkR_t, forkR_f, optR_some, iR_int, rng1R_int, rng2R_int, zipR_some, nxR_some, setR_some, at_nx, at_rt, truth_bool, truth_list, truth_tuple, put_nm, put_tp, put_tp2, setSlots_nil, setSlots_cons, add_int, sub_int, add_tup, add_lst, mod_int, lt_int, le_int, gt_int, ge_int, eq_int, ne_int, eq_bool, ne_bool, is_bool, isNot_bool, is_intN, isNot_intN, cmpR_of _ (lt_int _ _ _), cmpR_of _ (le_int _ _ _), cmpR_of _ (gt_int _ _ _), cmpR_of _ (ge_int _ _ _), cmpR_of _ (eq_int _ _ _), cmpR_of _ (ne_int _ _ _), cmpR_of _ (eq_bool _ _ _), cmpR_of _ (ne_bool _ _ _), cmpR_of _ (is_bool _ _ _), cmpR_of _ (isNot_bool _ _ _), cmpR_of _ (is_intN _ _), cmpR_of _ (isNot_intN _ _), len_tup, len_lst, len_scr, abs_int, int_int, int_bool, min_ints, max_ints, tuple_lst, tuple_tup, list_tup, mkL_f, mkT_f, toDats_cons, toDats_nil, toDats_app, List.append_nil, Nat.reduceAdd, Nat.reduceLeDiff, decide_true, decide_false, Int.reduceEq, srcOf_tup, srcOf_lst, isaD_dat, below_dat, leave_rtS, leave_nxS, wipe_nil, wipe_cons, map_some', len_one, len_enum, len_zip, len_rng, len_vals, truthR, List.getElem?_cons_zero, List.getElem?_cons_succ, List.set_cons_zero, List.set_cons_succ, List.length_cons, List.length_nil, List.length_map, List.reverse_cons, List.reverse_nil, List.nil_append, List.cons_append, List.map_cons, List.map_nil, Nat.zero_add, Bool.not_true, Bool.not_false, idx_t0, idx_t1, idx_t2, idx_l0, seq_tup, eq_row, eq_ints, eq_nil, ne_nil, in_none_row, in_ints, toDats_dat, intsOf_int, Option.bind_some, cmpR_of _ (eq_row _ _ _), cmpR_of _ (eq_ints _ _ _), cmpR_of _ (eq_nil _ _), cmpR_of _ (ne_nil _ _), cmpR_of _ (in_none_row _ _), cmpR_of _ (in_ints _ _ _), cmpR_of _ (ne_nilnil _)])
  rw [sums xs ys hl] at c2
  have hd : (List.zipWith (fun x y : Int => x + y) xs ys).length ≤ 16777216 := by simp; omega
  unfold s25_17
  simp (maxDischargeDepth := 3) only [xE_var, xE_lit, xE_gv, xE_bin, xE_neg, xE_not, xE_and, xE_or, xE_cmp, xE_rcmp, xE_chain, xE_ite, xE_call, xE_blt, xE_idx, xE_sl, xE_tup, xE_lst, xE_comp, xE_kset, xE_isi, xA_one, xA_cons, xO_one, xO_cons, xL_nil, xL_cons, xL_star, xT_nil, xT_one, xU_none, xU_some, xI_one, xI_enum, xI_rng1, xI_rng2, xI_zip2, xS_asg, xS_par, xS_seti, xS_expr, xS_ret, xS_retN, xS_iff, xS_for, xSs_nil, xSs_cons, bind_ok, sr_ok, ofP_some, ofO_some, getV_some, getG_some, negR_int, fitR_ok, compR_some, callR_some, boolR_some, selR_t, selR_f, forkR_t, forkR_f, optR_some, iR_int, rng1R_int, rng2R_int, zipR_some, nxR_some, setR_some, at_nx, at_rt, truth_bool, truth_list, truth_tuple, put_nm, put_tp, put_tp2, setSlots_nil, setSlots_cons, add_int, sub_int, add_tup, add_lst, mod_int, lt_int, le_int, gt_int, ge_int, eq_int, ne_int, eq_bool, ne_bool, is_bool, isNot_bool, is_intN, isNot_intN, cmpR_of _ (lt_int _ _ _), cmpR_of _ (le_int _ _ _), cmpR_of _ (gt_int _ _ _), cmpR_of _ (ge_int _ _ _), cmpR_of _ (eq_int _ _ _), cmpR_of _ (ne_int _ _ _), cmpR_of _ (eq_bool _ _ _), cmpR_of _ (ne_bool _ _ _), cmpR_of _ (is_bool _ _ _), cmpR_of _ (isNot_bool _ _ _), cmpR_of _ (is_intN _ _), cmpR_of _ (isNot_intN _ _), len_tup, len_lst, len_scr, abs_int, int_int, int_bool, min_ints, max_ints, tuple_lst, tuple_tup, list_tup, mkL_f, mkT_f, toDats_cons, toDats_nil, toDats_app, List.append_nil, Nat.reduceAdd, Nat.reduceLeDiff, decide_true, decide_false, Int.reduceEq, srcOf_tup, srcOf_lst, isaD_dat, below_dat, leave_rtS, leave_nxS, wipe_nil, wipe_cons, map_some', len_one, len_enum, len_zip, len_rng, len_vals, truthR, List.getElem?_cons_zero, List.getElem?_cons_succ, List.set_cons_zero, List.set_cons_succ, List.length_cons, List.length_nil, List.length_map, List.reverse_cons, List.reverse_nil, List.nil_append, List.cons_append, List.map_cons, List.map_nil, Nat.zero_add, Bool.not_true, Bool.not_false, idx_t0, idx_t1, idx_t2, idx_l0, seq_tup, eq_row, eq_ints, eq_nil, ne_nil, in_none_row, in_ints, toDats_dat, intsOf_int, Option.bind_some, cmpR_of _ (eq_row _ _ _), cmpR_of _ (eq_ints _ _ _), cmpR_of _ (eq_nil _ _), cmpR_of _ (ne_nil _ _), cmpR_of _ (in_none_row _ _), cmpR_of _ (in_ints _ _ _), cmpR_of _ (ne_nilnil _), c1, c2, hd, cmpR_of _ (ne_ints _ _ _)]
theorem st25_18 (bx : Bd 100000098 xs) (by' : Bd 100000098 ys) : evS P25 GV s25_18 [a0, a1, a2, some (.dat (row ys)), a4, a5, a6, a7, a8, a9, some (.dat (row (lss xs ys))), a11, some (.dat (row xs)), a13, a14, a15, a16, a17, a18] S = .rt (.dat (.bool true)) S := by
  have l1 := hx.len
  have l2 := hy.len
  have l4 := hx.pos
  have l5 := hx.le
  have hl : xs.length = ys.length := by omega
  have h0 : 0 < xs.length := by omega
  have sl := sd_len hl
  have hf : (sd xs ys).length ≤ 16777216 := by omega
  have hll := len_lss (xs := xs) (ys := ys) hl
  have bl : Bd 100000098 (lss xs ys) := fun v hv => by
    obtain ⟨i, hi, e⟩ := List.mem_iff_getElem.mp hv
    have h1 : i < xs.length := by omega
    have h2 : i < ys.length := by omega
    have b1 := bx xs[i] (List.getElem_mem h1)
    have b2 := by' ys[i] (List.getElem_mem h2)
    simp only [lss, List.getElem_zipWith] at e
    rw [← e]
    split <;> omega
  have hlow : Rw s (lss xs ys) := ⟨by omega, l4, l5, bl.mono (by decide)⟩
  have r := rep_tup S ((lss xs ys).map .int) (fun p hp => by
    obtain ⟨v, hv, rfl⟩ := List.mem_map.mp hp
    have := bl v hv
    exact simple_int v (by omega) (by omega)) (by simp; omega)
  have rc := rc_same' S _ (can_of_rep r)
  have a := lss_first hl h0
  have b := lss_second hl h0
  have d : decide ((if gp (lss xs ys) ys > gp (lss xs ys) xs then gp (lss xs ys) ys else gp (lss xs ys) xs) ≤ gp xs ys) = true := decide_eq_true (by split <;> omega)
  unfold s25_18
  simp (maxDischargeDepth := 3) only [xE_var, xE_lit, xE_gv, xE_bin, xE_neg, xE_not, xE_and, xE_or, xE_cmp, xE_rcmp, xE_chain, xE_ite, xE_call, xE_blt, xE_idx, xE_sl, xE_tup, xE_lst, xE_comp, xE_kset, xE_isi, xA_one, xA_cons, xO_one, xO_cons, xL_nil, xL_cons, xL_star, xT_nil, xT_one, xU_none, xU_some, xI_one, xI_enum, xI_rng1, xI_rng2, xI_zip2, xS_asg, xS_par, xS_seti, xS_expr, xS_ret, xS_retN, xS_iff, xS_for, xSs_nil, xSs_cons, bind_ok, sr_ok, ofP_some, ofO_some, getV_some, getG_some, negR_int, fitR_ok, compR_some, callR_some, boolR_some, selR_t, selR_f, forkR_t, forkR_f, optR_some, iR_int, rng1R_int, rng2R_int, zipR_some, nxR_some, setR_some, at_nx, at_rt, truth_bool, truth_list, truth_tuple, put_nm, put_tp, put_tp2, setSlots_nil, setSlots_cons, add_int, sub_int, add_tup, add_lst, mod_int, lt_int, le_int, gt_int, ge_int, eq_int, ne_int, eq_bool, ne_bool, is_bool, isNot_bool, is_intN, isNot_intN, cmpR_of _ (lt_int _ _ _), cmpR_of _ (le_int _ _ _), cmpR_of _ (gt_int _ _ _), cmpR_of _ (ge_int _ _ _), cmpR_of _ (eq_int _ _ _), cmpR_of _ (ne_int _ _ _), cmpR_of _ (eq_bool _ _ _), cmpR_of _ (ne_bool _ _ _), cmpR_of _ (is_bool _ _ _), cmpR_of _ (isNot_bool _ _ _), cmpR_of _ (is_intN _ _), cmpR_of _ (isNot_intN _ _), len_tup, len_lst, len_scr, abs_int, int_int, int_bool, min_ints, max_ints, tuple_lst, tuple_tup, list_tup, mkL_f, mkT_f, toDats_cons, toDats_nil, toDats_app, List.append_nil, Nat.reduceAdd, Nat.reduceLeDiff, decide_true, decide_false, Int.reduceEq, srcOf_tup, srcOf_lst, isaD_dat, below_dat, leave_rtS, leave_nxS, wipe_nil, wipe_cons, map_some', len_one, len_enum, len_zip, len_rng, len_vals, truthR, List.getElem?_cons_zero, List.getElem?_cons_succ, List.set_cons_zero, List.set_cons_succ, List.length_cons, List.length_nil, List.length_map, List.reverse_cons, List.reverse_nil, List.nil_append, List.cons_append, List.map_cons, List.map_nil, Nat.zero_add, Bool.not_true, Bool.not_false, idx_t0, idx_t1, idx_t2, idx_l0, seq_tup, eq_row, eq_ints, eq_nil, ne_nil, in_none_row, in_ints, toDats_dat, intsOf_int, Option.bind_some, cmpR_of _ (eq_row _ _ _), cmpR_of _ (eq_ints _ _ _), cmpR_of _ (eq_nil _ _), cmpR_of _ (ne_nil _ _), cmpR_of _ (in_none_row _ _), cmpR_of _ (in_ints _ _ _), cmpR_of _ (ne_nilnil _), p25_17, p25_9, F17_ok S hx hy, r, rc, F9_ok S hlow hx, F9_ok S hlow hy, F9_ok S hx hy, d]
end
end LW
end
section
namespace LW
open MP PySem
theorem F25_ok (S : Store) (n k : Nat) (hj : Jar n k S) (hk : k + 200 ≤ 1000000) : ∃ S', F25 [.ref n] S = .ok (.dat (.bool true)) S' ∧ Jar n (k + 40) S' ∧ S'.length = S.length := by
  obtain ⟨s, t, S0, e0, ht, hs1, hs5, j0, l0⟩ := st25_0 S none none none none none none none none none none none none none none none none none none n k hj (by omega)
  obtain ⟨xs, zs, S1, e1, hx1, hz1, bx, bz, j1, l1⟩ := st25_1 S0 none none none none none none none none none none none none none none none none none n (k + 1) s t j0 (by omega) ht hs1 hs5
  obtain ⟨g, S2, e2, g1, g2, j2, l2⟩ := st25_2 S1 (some (.dat (.int t))) none none none none none none none none none none (some (.dat (row xs))) (some (.dat (row zs))) none none none none none n (k + 13) j1 (by omega)
  obtain ⟨ys, S3, e3, hy1, by', j3, l3⟩ := st25_3 S2 none none none none none none none none none (some (.dat (row zs))) none none none none none n (k + 14) s t g xs j2 (by omega) ht hs1 hs5 hx1 bx g1 g2
  have bx9 : Bd 100000098 xs := bx.mono (by decide)
  have hx : Rw s xs := ⟨hx1, hs1, hs5, bx.mono (by decide)⟩
  have hy : Rw s ys := ⟨hy1, hs1, hs5, by'.mono (by decide)⟩
  have hz : Rw s zs := ⟨hz1, hs1, hs5, bz.mono (by decide)⟩
  have cx : Bd 200000000 xs := bx.mono (by decide)
  have cy : Bd 200000000 ys := by'.mono (by decide)
  have cz : Bd 200000000 zs := bz.mono (by decide)
  have e4 := st25_4 S3 (some (.ref n)) (some (.dat (.int t))) (some (.dat (.int g))) none none none none none none none none (some (.dat (row zs))) none none none none none hx hy
  have e5 := st25_5 S3 (some (.ref n)) (some (.dat (.int t))) (some (.dat (.int g))) none none none none none none none (some (.dat (row zs))) none none none none none hx hy cx cy
  have e6 := st25_6 S3 (some (.ref n)) (some (.dat (.int t))) (some (.dat (.int g))) (some (.dat (.list ((sd xs ys).map .int)))) none none none none none none none none none none none none hx hy hz cx
  have e7 := st25_7 S3 (some (.ref n)) (some (.dat (.int t))) (some (.dat (.int g))) (some (.dat (.list ((sd xs ys).map .int)))) none none none none none none none none none none none none hx hy hz
  have e8 := st25_8 S3 (some (.ref n)) (some (.dat (.int t))) (some (.dat (.int g))) (some (.dat (.list ((sd xs ys).map .int)))) none none none none none none (some (.dat (row zs))) none none none none none hx hy hz cx cy cz
  have e9 := st25_9 S3 (some (.ref n)) (some (.dat (.int t))) (some (.dat (.int g))) (some (.dat (.list [row (ad xs zs), row (ad ys zs)]))) none none none none none none (some (.dat (row zs))) none none none none none hx hy
  have e10 := st25_10 S3 (some (.ref n)) (some (.dat (.int t))) (some (.dat (.int g))) (some (.dat (row ys))) (some (.dat (.list ((sd xs ys).map .int)))) (some (.dat (.list [row (ad xs zs), row (ad ys zs)]))) none none none none none (some (.dat (row xs))) (some (.dat (row zs))) none none none none none hx hy
  have e11 := st25_11 S3 (some (.ref n)) (some (.dat (.int t))) (some (.dat (.int g))) (some (.dat (.list [row (ad xs zs), row (ad ys zs)]))) (some (.dat (.list ((sd xs ys).map fun d => row (jn d 0 xs ys))))) none none none none (some (.dat (row zs))) none none none none none hx hy bx9 by'
  obtain ⟨u8, u14, S4, e12, j4, l4⟩ := st25_12 S3 (some (.dat (.int t))) (some (.dat (.int g))) (some (.dat (.list [row (ad xs zs), row (ad ys zs)]))) (some (.dat (.list ((sd xs ys).map fun d => row (jn d 0 xs ys))))) (some (.dat (.list ((sd xs ys).map fun d => row (corner xs ys d))))) none none none none (some (.dat (row zs))) none none none none none hx hy n (k + 21) j3 (by omega) bx9 by'
  have e13 := st25_13 S4 (some (.ref n)) (some (.dat (.int t))) (some (.dat (.int g))) (some (.dat (.list ((sd xs ys).map .int)))) (some (.dat (.list [row (ad xs zs), row (ad ys zs)]))) (some (.dat (.list ((sd xs ys).map fun d => row (jn d 0 xs ys))))) u8 none none none (some (.dat (row zs))) u14 none none none none hx hy
  have e14 := st25_14 S4 (some (.ref n)) (some (.dat (.int t))) (some (.dat (.int g))) (some (.dat (.list ((sd xs ys).map .int)))) (some (.dat (.list [row (ad xs zs), row (ad ys zs)]))) (some (.dat (.list ((sd xs ys).map fun d => row (jn d 0 xs ys))))) u8 none none (some (.dat (row zs))) u14 none none none none hx hy bx9 by'
  have e15 := st25_15 S4 (some (.ref n)) (some (.dat (.int t))) (some (.dat (.int g))) (some (.dat (.list ((sd xs ys).map .int)))) (some (.dat (.list [row (ad xs zs), row (ad ys zs)]))) (some (.dat (.list ((sd xs ys).map fun d => row (jn d 0 xs ys))))) (some (.dat (.list ((sd xs ys).map fun d => row (corner xs ys d))))) u8 (some (.dat (.list ((scs xs ys).map .int)))) none none (some (.dat (row zs))) u14 none none none none hx hy
  have e16 := st25_16 S4 (some (.ref n)) (some (.dat (.int t))) (some (.dat (.int g))) (some (.dat (.list ((sd xs ys).map .int)))) (some (.dat (.list [row (ad xs zs), row (ad ys zs)]))) (some (.dat (.list ((sd xs ys).map fun d => row (jn d 0 xs ys))))) (some (.dat (.list ((sd xs ys).map fun d => row (corner xs ys d))))) u8 (some (.dat (.list ((scs xs ys).map .int)))) (some (.dat (row (lss xs ys)))) none (some (.dat (row zs))) u14 none none none none hx hy
  have e17 := st25_17 S4 (some (.ref n)) (some (.dat (.int t))) (some (.dat (.int g))) (some (.dat (.list ((sd xs ys).map .int)))) (some (.dat (.list [row (ad xs zs), row (ad ys zs)]))) (some (.dat (.list ((sd xs ys).map fun d => row (jn d 0 xs ys))))) (some (.dat (.list ((sd xs ys).map fun d => row (corner xs ys d))))) u8 (some (.dat (.list ((scs xs ys).map .int)))) (some (.dat (row zs))) u14 none none none none hx hy
  have e18 := st25_18 S4 (some (.ref n)) (some (.dat (.int t))) (some (.dat (.int g))) (some (.dat (.list ((sd xs ys).map .int)))) (some (.dat (.list [row (ad xs zs), row (ad ys zs)]))) (some (.dat (.list ((sd xs ys).map fun d => row (jn d 0 xs ys))))) (some (.dat (.list ((sd xs ys).map fun d => row (corner xs ys d))))) u8 (some (.dat (.list ((scs xs ys).map .int)))) (some (.dat (row (jn 0 0 xs ys)))) (some (.dat (row zs))) u14 none none none none hx hy bx9 by'
  have hS : S4.length = S.length := by omega
  refine ⟨S4, ?_, j4.mono (by omega), hS⟩
  rw [in25, b25_eq, xSs_cons, e0, at_nx, xSs_cons, e1, at_nx, xSs_cons, e2, at_nx, xSs_cons, e3, at_nx, xSs_cons, e4, at_nx, xSs_cons, e5, at_nx, xSs_cons, e6, at_nx, xSs_cons, e7, at_nx, xSs_cons, e8, at_nx, xSs_cons, e9, at_nx, xSs_cons, e10, at_nx, xSs_cons, e11, at_nx, xSs_cons, e12, at_nx, xSs_cons, e13, at_nx, xSs_cons, e14, at_nx, xSs_cons, e15, at_nx, xSs_cons, e16, at_nx, xSs_cons, e17, at_nx, xSs_cons, e18, at_rt]
  exact leave_to S.length _ S4 hS
end LW
end
section
namespace LW
open MP PySem
theorem in26 (S : Store) (a : D) : F26 [a] S = leave S.length (evSs P26 GV b_d26 [some a, none, none, none, none, none, none] S) := rfl
theorem p26_0 : P26[0]? = some F0 := rfl
theorem p26_25 : P26[25]? = some F25 := rfl
def inner26 : CSs := .cons (.iff (.not (.call 25 (.cons (.var 3) .nil))) (.cons (.ret (.lit (.bool false))) .nil) .nil) .nil
def body26 : CSs := .cons (.asg (.nm 3) (.call 0 (.cons (.var 0) (.cons (.var 1) .nil)))) (.cons (.for (.nm 4) (.rng1 (.lit (.int 8))) inner26) .nil)
theorem s26_0_eq : s26_0 = .for (.nm 1) (.rng1 (.blt .max (.cons (.lit (.int 1)) (.cons (.blt .min (.cons (.lit (.int 2)) (.cons (.blt .len (.cons (.var 0) .nil)) .nil))) .nil)))) body26 := rfl
theorem turn26 (S : Store) (n k : Nat) (a0 a1 a2 a4 a5 a6 : Option D) (hj : Jar n k S) (hk : k + 200 ≤ 1000000) : ∃ S', bodyS P26 GV inner26 [a0, a1, a2, some (.ref n), a4, a5, a6] S = .nx [a0, a1, a2, some (.ref n), a4, a5, a6] S' ∧ Jar n (k + 40) S' := by
  obtain ⟨S', e, j, _⟩ := F25_ok S n k hj hk
  refine ⟨S', ?_, j⟩
  unfold bodyS inner26
  simp (maxDischargeDepth := 3) only [xE_var, xE_lit, xE_gv, xE_bin, xE_neg, xE_not, xE_and, xE_or, xE_cmp, xE_rcmp, xE_chain, xE_ite, xE_call, xE_blt, xE_idx, xE_sl, xE_tup, xE_lst, xE_comp, xE_kset, xE_isi, xA_one, xA_cons, xO_one, xO_cons, xL_nil, xL_cons, xL_star, xT_nil, xT_one, xU_none, xU_some, xI_one, xI_enum, xI_rng1, xI_rng2, xI_zip2, xS_asg, xS_par, xS_seti, xS_expr, xS_ret, xS_retN, xS_iff, xS_for, xSs_nil, xSs_cons, bind_ok, sr_ok, ofP_some, ofO_some, getV_some, getG_some, negR_int, fitR_ok, compR_some, callR_some, boolR_some, selR_t, selR_f, forkR_t, forkR_f, optR_some, iR_int, rng1R_int, rng2R_int, zipR_some, nxR_some, setR_some, at_nx, at_rt, truth_bool, truth_list, truth_tuple, put_nm, put_tp, put_tp2, setSlots_nil, setSlots_cons, add_int, sub_int, add_tup, add_lst, mod_int, lt_int, le_int, gt_int, ge_int, eq_int, ne_int, eq_bool, ne_bool, is_bool, isNot_bool, is_intN, isNot_intN, cmpR_of _ (lt_int _ _ _), cmpR_of _ (le_int _ _ _), cmpR_of _ (gt_int _ _ _), cmpR_of _ (ge_int _ _ _), cmpR_of _ (eq_int _ _ _), cmpR_of _ (ne_int _ _ _), cmpR_of _ (eq_bool _ _ _), cmpR_of _ (ne_bool _ _ _), cmpR_of _ (is_bool _ _ _), cmpR_of _ (isNot_bool _ _ _), cmpR_of _ (is_intN _ _), cmpR_of _ (isNot_intN _ _), len_tup, len_lst, len_scr, abs_int, int_int, int_bool, min_ints, max_ints, tuple_lst, tuple_tup, list_tup, mkL_f, mkT_f, toDats_cons, toDats_nil, toDats_app, List.append_nil, Nat.reduceAdd, Nat.reduceLeDiff, decide_true, decide_false, Int.reduceEq, srcOf_tup, srcOf_lst, isaD_dat, below_dat, leave_rtS, leave_nxS, wipe_nil, wipe_cons, map_some', len_one, len_enum, len_zip, len_rng, len_vals, truthR, List.getElem?_cons_zero, List.getElem?_cons_succ, List.set_cons_zero, List.set_cons_succ, List.length_cons, List.length_nil, List.length_map, List.reverse_cons, List.reverse_nil, List.nil_append, List.cons_append, List.map_cons, List.map_nil, Nat.zero_add, Bool.not_true, Bool.not_false, idx_t0, idx_t1, idx_t2, idx_l0, seq_tup, eq_row, eq_ints, eq_nil, ne_nil, in_none_row, in_ints, toDats_dat, intsOf_int, Option.bind_some, cmpR_of _ (eq_row _ _ _), cmpR_of _ (eq_ints _ _ _), cmpR_of _ (eq_nil _ _), cmpR_of _ (ne_nil _ _), cmpR_of _ (in_none_row _ _), cmpR_of _ (in_ints _ _ _), cmpR_of _ (ne_nilnil _), p26_25, e]
theorem loopG (b : Ev → Store → SR) (S : Store) (n m : Nat) (hm : m ≤ 8) (a0 a1 a2 a4 a5 a6 : Option D) (hj : Jar n 0 S) (R : D → Store → Prop)
    (turn : ∀ (S : Store) (k : Nat) (a4 : Option D), Jar n k S → k + 200 ≤ 1000000 → ∃ S', b [a0, a1, a2, some (.ref n), a4, a5, a6] S = .nx [a0, a1, a2, some (.ref n), a4, a5, a6] S' ∧ Jar n (k + 40) S') :
    WS (forLoop (.rng 0 m) (.nm 4) b m 0 [a0, a1, a2, some (.ref n), a4, a5, a6] S) (fun ev S' => ∃ b, ev = [a0, a1, a2, some (.ref n), b, a5, a6]) R := by
  refine WS_for (it := .rng 0 m) (tg := .nm 4) (fun i ev S' => Jar n (40 * i) S' ∧ ∃ b, ev = [a0, a1, a2, some (.ref n), b, a5, a6]) m (by unfold loopFuel; omega) (fun i ev S hi hI => ?_) (fun ev S hI => ⟨by simp [ItS.next, Nat.blt], hI.2⟩) m 0 _ S (by omega) (by omega) ⟨hj, _, rfl⟩
  obtain ⟨j, b, rfl⟩ := hI
  refine ⟨[.dat (.int (0 + (i : Nat)))], [a0, a1, a2, some (.ref n), some (.dat (.int (0 + (i : Nat)))), a5, a6], by simp only [ItS.next, Nat.blt_eq.mpr hi, if_true], rfl, ?_⟩
  obtain ⟨S', e, j'⟩ := turn S (40 * i) (some (.dat (.int (0 + (i : Nat))))) j (by omega)
  rw [e]
  exact ⟨j'.mono (by omega), _, rfl⟩
theorem outer26 (S : Store) (ns : List Int) (t : Int) (h0 : 0 ≤ t) (h1 : t ≤ 1) (a2 a3 a4 a5 a6 : Option D) (R : D → Store → Prop) :
    WS (bodyS P26 GV body26 [some (.scr ns), some (.dat (.int t)), a2, a3, a4, a5, a6] S) (fun ev S' => ∃ b c, ev = [some (.scr ns), some (.dat (.int t)), a2, b, c, a5, a6]) R := by
  obtain ⟨S', e, j, _⟩ := F0_ok S ns t h0 h1
  have e2 : evS P26 GV (.asg (.nm 3) (.call 0 (.cons (.var 0) (.cons (.var 1) .nil)))) [some (.scr ns), some (.dat (.int t)), a2, a3, a4, a5, a6] S = .nx [some (.scr ns), some (.dat (.int t)), a2, some (.ref S.length), a4, a5, a6] S' := by
    simp (maxDischargeDepth := 3) only [xE_var, xE_lit, xE_gv, xE_bin, xE_neg, xE_not, xE_and, xE_or, xE_cmp, xE_rcmp, xE_chain, xE_ite, xE_call, xE_blt, xE_idx, xE_sl, xE_tup, xE_lst, xE_comp, xE_kset, xE_isi, xA_one, xA_cons, xO_one, xO_cons, xL_nil, xL_cons, xL_star, xT_nil, xT_one, xU_none, xU_some, xI_one, xI_enum, xI_rng1, xI_rng2, xI_zip2, xS_asg, xS_par, xS_seti, xS_expr, xS_ret, xS_retN, xS_iff, xS_for, xSs_nil, xSs_cons, bind_ok, sr_ok, ofP_some, ofO_some, getV_some, getG_some, negR_int, fitR_ok, compR_some, callR_some, boolR_some, selR_t, selR_f, forkR_t, forkR_f, optR_some, iR_int, rng1R_int, rng2R_int, zipR_some, nxR_some, setR_some, at_nx, at_rt, truth_bool, truth_list, truth_tuple, put_nm, put_tp, put_tp2, setSlots_nil, setSlots_cons, add_int, sub_int, add_tup, add_lst, mod_int, lt_int, le_int, gt_int, ge_int, eq_int, ne_int, eq_bool, ne_bool, is_bool, isNot_bool, is_intN, isNot_intN, cmpR_of _ (lt_int _ _ _), cmpR_of _ (le_int _ _ _), cmpR_of _ (gt_int _ _ _), cmpR_of _ (ge_int _ _ _), cmpR_of _ (eq_int _ _ _), cmpR_of _ (ne_int _ _ _), cmpR_of _ (eq_bool _ _ _), cmpR_of _ (ne_bool _ _ _), cmpR_of _ (is_bool _ _ _), cmpR_of _ (isNot_bool _ _ _), cmpR_of _ (is_intN _ _), cmpR_of _ (isNot_intN _ _), len_tup, len_lst, len_scr, abs_int, int_int, int_bool, min_ints, max_ints, tuple_lst, tuple_tup, list_tup, mkL_f, mkT_f, toDats_cons, toDats_nil, toDats_app, List.append_nil, Nat.reduceAdd, Nat.reduceLeDiff, decide_true, decide_false, Int.reduceEq, srcOf_tup, srcOf_lst, isaD_dat, below_dat, leave_rtS, leave_nxS, wipe_nil, wipe_cons, map_some', len_one, len_enum, len_zip, len_rng, len_vals, truthR, List.getElem?_cons_zero, List.getElem?_cons_succ, List.set_cons_zero, List.set_cons_succ, List.length_cons, List.length_nil, List.length_map, List.reverse_cons, List.reverse_nil, List.nil_append, List.cons_append, List.map_cons, List.map_nil, Nat.zero_add, Bool.not_true, Bool.not_false, idx_t0, idx_t1, idx_t2, idx_l0, seq_tup, eq_row, eq_ints, eq_nil, ne_nil, in_none_row, in_ints, toDats_dat, intsOf_int, Option.bind_some, cmpR_of _ (eq_row _ _ _), cmpR_of _ (eq_ints _ _ _), cmpR_of _ (eq_nil _ _), cmpR_of _ (ne_nil _ _), cmpR_of _ (in_none_row _ _), cmpR_of _ (in_ints _ _ _), cmpR_of _ (ne_nilnil _), p26_0, e]
  have hm : ∃ m : Nat, m ≤ 8 ∧ evI P26 GV (.rng1 (.lit (.int 8))) [some (.scr ns), some (.dat (.int t)), a2, some (.ref S.length), a4, a5, a6] S' = .ok (.rng 0 m) S' := by
    refine ⟨(8 : Int).toNat, by decide, ?_⟩
    have r := rng1R_int S' 8 (by decide) (by decide)
    simp (maxDischargeDepth := 3) only [xE_var, xE_lit, xE_gv, xE_bin, xE_neg, xE_not, xE_and, xE_or, xE_cmp, xE_rcmp, xE_chain, xE_ite, xE_call, xE_blt, xE_idx, xE_sl, xE_tup, xE_lst, xE_comp, xE_kset, xE_isi, xA_one, xA_cons, xO_one, xO_cons, xL_nil, xL_cons, xL_star, xT_nil, xT_one, xU_none, xU_some, xI_one, xI_enum, xI_rng1, xI_rng2, xI_zip2, xS_asg, xS_par, xS_seti, xS_expr, xS_ret, xS_retN, xS_iff, xS_for, xSs_nil, xSs_cons, bind_ok, sr_ok, ofP_some, ofO_some, getV_some, getG_some, negR_int, fitR_ok, compR_some, callR_some, boolR_some, selR_t, selR_f, forkR_t, forkR_f, optR_some, iR_int, rng1R_int, rng2R_int, zipR_some, nxR_some, setR_some, at_nx, at_rt, truth_bool, truth_list, truth_tuple, put_nm, put_tp, put_tp2, setSlots_nil, setSlots_cons, add_int, sub_int, add_tup, add_lst, mod_int, lt_int, le_int, gt_int, ge_int, eq_int, ne_int, eq_bool, ne_bool, is_bool, isNot_bool, is_intN, isNot_intN, cmpR_of _ (lt_int _ _ _), cmpR_of _ (le_int _ _ _), cmpR_of _ (gt_int _ _ _), cmpR_of _ (ge_int _ _ _), cmpR_of _ (eq_int _ _ _), cmpR_of _ (ne_int _ _ _), cmpR_of _ (eq_bool _ _ _), cmpR_of _ (ne_bool _ _ _), cmpR_of _ (is_bool _ _ _), cmpR_of _ (isNot_bool _ _ _), cmpR_of _ (is_intN _ _), cmpR_of _ (isNot_intN _ _), len_tup, len_lst, len_scr, abs_int, int_int, int_bool, min_ints, max_ints, tuple_lst, tuple_tup, list_tup, mkL_f, mkT_f, toDats_cons, toDats_nil, toDats_app, List.append_nil, Nat.reduceAdd, Nat.reduceLeDiff, decide_true, decide_false, Int.reduceEq, srcOf_tup, srcOf_lst, isaD_dat, below_dat, leave_rtS, leave_nxS, wipe_nil, wipe_cons, map_some', len_one, len_enum, len_zip, len_rng, len_vals, truthR, List.getElem?_cons_zero, List.getElem?_cons_succ, List.set_cons_zero, List.set_cons_succ, List.length_cons, List.length_nil, List.length_map, List.reverse_cons, List.reverse_nil, List.nil_append, List.cons_append, List.map_cons, List.map_nil, Nat.zero_add, Bool.not_true, Bool.not_false, idx_t0, idx_t1, idx_t2, idx_l0, seq_tup, eq_row, eq_ints, eq_nil, ne_nil, in_none_row, in_ints, toDats_dat, intsOf_int, Option.bind_some, cmpR_of _ (eq_row _ _ _), cmpR_of _ (eq_ints _ _ _), cmpR_of _ (eq_nil _ _), cmpR_of _ (ne_nil _ _), cmpR_of _ (in_none_row _ _), cmpR_of _ (in_ints _ _ _), cmpR_of _ (ne_nilnil _), r]
  obtain ⟨m, hm, e3⟩ := hm
  show WS (evSs P26 GV body26 _ S) _ R
  unfold body26
  rw [WS_cons, e2, WS_nx, WS_cons, xS_for, WS_sr, e3, W_ok]
  refine WS_mono (loopG (bodyS P26 GV inner26) S' S.length m hm _ _ _ _ _ _ j R (fun S k a4 hj hk => turn26 S _ k _ _ _ a4 _ _ hj hk)) (fun ev S2 h => ?_) (fun _ _ h => h)
  obtain ⟨b, rfl⟩ := h
  exact ⟨_, _, rfl⟩
theorem loopH (bd : Ev → Store → SR) (S : Store) (ns : List Int) (m : Nat) (hm : m ≤ 2) (R : D → Store → Prop)
    (turn : ∀ (S : Store) (t : Int) (b c : Option D), 0 ≤ t → t ≤ 1 → WS (bd [some (.scr ns), some (.dat (.int t)), none, b, c, none, none] S) (fun ev S' => ∃ b c, ev = [some (.scr ns), some (.dat (.int t)), none, b, c, none, none]) R) :
    WS (forLoop (.rng 0 m) (.nm 1) bd m 0 [some (.scr ns), none, none, none, none, none, none] S) (fun ev S' => ∃ a b c, ev = [some (.scr ns), a, none, b, c, none, none]) R := by
  refine WS_for (it := .rng 0 m) (tg := .nm 1) (fun i ev S' => ∃ a b c, ev = [some (.scr ns), a, none, b, c, none, none]) m (by unfold loopFuel; omega) (fun i ev S hi hI => ?_) (fun ev S hI => ⟨by simp [ItS.next, Nat.blt], hI⟩) m 0 _ S (by omega) (by omega) ⟨_, _, _, rfl⟩
  obtain ⟨a, b, c, rfl⟩ := hI
  refine ⟨[.dat (.int (0 + (i : Nat)))], [some (.scr ns), some (.dat (.int (0 + (i : Nat)))), none, b, c, none, none], by simp only [ItS.next, Nat.blt_eq.mpr hi, if_true], rfl, ?_⟩
  refine WS_mono (turn S (0 + (i : Nat)) b c (by omega) (by omega)) (fun ev S2 h => ?_) (fun _ _ h => h)
  obtain ⟨b', c', rfl⟩ := h
  exact ⟨_, _, _, rfl⟩
theorem all26 (S : Store) (ns : List Int) (R : D → Store → Prop) : WS (evS P26 GV s26_0 [some (.scr ns), none, none, none, none, none, none] S) (fun ev S' => ∃ a b c, ev = [some (.scr ns), a, none, b, c, none, none]) R := by
  have hm : ∃ m : Nat, m ≤ 2 ∧ evI P26 GV (.rng1 (.blt .max (.cons (.lit (.int 1)) (.cons (.blt .min (.cons (.lit (.int 2)) (.cons (.blt .len (.cons (.var 0) .nil)) .nil))) .nil)))) [some (.scr ns), none, none, none, none, none, none] S = .ok (.rng 0 m) S := by
    generalize hc : (if ((ns.length : Nat) : Int) < 2 then ((ns.length : Nat) : Int) else 2) = c
    generalize hd : (if c > 1 then c else 1) = d
    have c2 : c ≤ 2 := by rw [← hc]; split <;> omega
    have d2 : d ≤ 2 := by rw [← hd]; split <;> omega
    have d1 : 1 ≤ d := by rw [← hd]; split <;> omega
    refine ⟨d.toNat, by omega, ?_⟩
    have r := rng1R_int S d (by omega) (by omega)
    simp (maxDischargeDepth := 3) only [xE_var, xE_lit, xE_gv, xE_bin, xE_neg, xE_not, xE_and, xE_or, xE_cmp, xE_rcmp, xE_chain, xE_ite, xE_call, xE_blt, xE_idx, xE_sl, xE_tup, xE_lst, xE_comp, xE_kset, xE_isi, xA_one, xA_cons, xO_one, xO_cons, xL_nil, xL_cons, xL_star, xT_nil, xT_one, xU_none, xU_some, xI_one, xI_enum, xI_rng1, xI_rng2, xI_zip2, xS_asg, xS_par, xS_seti, xS_expr, xS_ret, xS_retN, xS_iff, xS_for, xSs_nil, xSs_cons, bind_ok, sr_ok, ofP_some, ofO_some, getV_some, getG_some, negR_int, fitR_ok, compR_some, callR_some, boolR_some, selR_t, selR_f, forkR_t, forkR_f, optR_some, iR_int, rng1R_int, rng2R_int, zipR_some, nxR_some, setR_some, at_nx, at_rt, truth_bool, truth_list, truth_tuple, put_nm, put_tp, put_tp2, setSlots_nil, setSlots_cons, add_int, sub_int, add_tup, add_lst, mod_int, lt_int, le_int, gt_int, ge_int, eq_int, ne_int, eq_bool, ne_bool, is_bool, isNot_bool, is_intN, isNot_intN, cmpR_of _ (lt_int _ _ _), cmpR_of _ (le_int _ _ _), cmpR_of _ (gt_int _ _ _), cmpR_of _ (ge_int _ _ _), cmpR_of _ (eq_int _ _ _), cmpR_of _ (ne_int _ _ _), cmpR_of _ (eq_bool _ _ _), cmpR_of _ (ne_bool _ _ _), cmpR_of _ (is_bool _ _ _), cmpR_of _ (isNot_bool _ _ _), cmpR_of _ (is_intN _ _), cmpR_of _ (isNot_intN _ _), len_tup, len_lst, len_scr, abs_int, int_int, int_bool, min_ints, max_ints, tuple_lst, tuple_tup, list_tup, mkL_f, mkT_f, toDats_cons, toDats_nil, toDats_app, List.append_nil, Nat.reduceAdd, Nat.reduceLeDiff, decide_true, decide_false, Int.reduceEq, srcOf_tup, srcOf_lst, isaD_dat, below_dat, leave_rtS, leave_nxS, wipe_nil, wipe_cons, map_some', len_one, len_enum, len_zip, len_rng, len_vals, truthR, List.getElem?_cons_zero, List.getElem?_cons_succ, List.set_cons_zero, List.set_cons_succ, List.length_cons, List.length_nil, List.length_map, List.reverse_cons, List.reverse_nil, List.nil_append, List.cons_append, List.map_cons, List.map_nil, Nat.zero_add, Bool.not_true, Bool.not_false, idx_t0, idx_t1, idx_t2, idx_l0, seq_tup, eq_row, eq_ints, eq_nil, ne_nil, in_none_row, in_ints, toDats_dat, intsOf_int, Option.bind_some, cmpR_of _ (eq_row _ _ _), cmpR_of _ (eq_ints _ _ _), cmpR_of _ (eq_nil _ _), cmpR_of _ (ne_nil _ _), cmpR_of _ (in_none_row _ _), cmpR_of _ (in_ints _ _ _), cmpR_of _ (ne_nilnil _), hc, hd, r]
  obtain ⟨m, hm, e⟩ := hm
  rw [s26_0_eq, xS_for, e, WS_sr, W_ok]
  exact loopH (bodyS P26 GV body26) S ns m hm R (fun S t b c h0 h1 => outer26 S ns t h0 h1 none b c none none R)
end LW
end
section
namespace LW
open MP PySem
theorem p26_9 : P26[9]? = some F9 := rfl
theorem p26_10 : P26[10]? = some F10 := rfl
theorem p26_11 : P26[11]? = some F11 := rfl
theorem p26_13 : P26[13]? = some F13 := rfl
theorem p26_16 : P26[16]? = some F16 := rfl
theorem p26_17 : P26[17]? = some F17 := rfl
theorem p26_19 : P26[19]? = some F19 := rfl
theorem rwOf (us : List Int) (n : Nat) (h : us.length = n) (h1 : 0 < n) (h5 : n ≤ 5) (hb : ∀ x ∈ us, -10 ≤ x ∧ x ≤ 10) : Rw n us := ⟨h, h1, h5, fun x hx => by
  have := hb x hx
  omega⟩
theorem r000 : Rw 3 [0, 0, 0] := rwOf _ 3 rfl (by decide) (by decide) (by decide)
theorem r025 : Rw 3 [0, 2, 5] := rwOf _ 3 rfl (by decide) (by decide) (by decide)
theorem r333 : Rw 3 [3, 3, 3] := rwOf _ 3 rfl (by decide) (by decide) (by decide)
theorem r4 : Rw 1 [4] := rwOf _ 1 rfl (by decide) (by decide) (by decide)
theorem r9 : Rw 1 [9] := rwOf _ 1 rfl (by decide) (by decide) (by decide)
theorem f1 (S : Store) : F9 [.dat (.tuple [.int 0, .int 0, .int 0]), .dat (.tuple [.int 0, .int 2, .int 5])] S = .ok (.dat (.int 5)) S := by
  have h := F9_ok S r000 r025
  have e : gp [0, 0, 0] [0, 2, 5] = 5 := by decide
  rw [e] at h
  exact h
theorem f2 (S : Store) : F10 [.dat (.tuple [.int 0, .int 0, .int 0]), .dat (.tuple [.int 3, .int 3, .int 3])] S = .ok (.dat (.bool true)) S := by
  have h := F10_ok S r000 r333
  have e : decide (gp [0, 0, 0] [3, 3, 3] = 0) = true := by decide
  rw [e] at h
  exact h
theorem f3 (S : Store) : F11 [.dat (.tuple [.int 0, .int 0, .int 0]), .dat (.tuple [.int 0, .int 2, .int 5])] S = .ok (.dat (.tuple [.int 0, .int 2, .int 5])) S := by
  have h := F11_ok S r000 r025
  have e : sd [0, 0, 0] [0, 2, 5] = [0, 2, 5] := by decide
  rw [e] at h
  exact h
theorem f4 (S : Store) : F13 [.dat (.tuple [.int 0, .int 0, .int 0]), .dat (.tuple [.int 0, .int 2, .int 5]), .dat (.int 3)] S = .ok (.dat (.tuple [.int 3, .int 3, .int 5])) S := by
  have h := F13_ok S r000 r025 3 (by decide) (by decide)
  have e : jn 3 0 [0, 0, 0] [0, 2, 5] = [3, 3, 5] := by decide
  rw [e] at h
  exact h
theorem f5 (S : Store) : F16 [.dat (.tuple [.int 0, .int 0, .int 0]), .dat (.tuple [.int 0, .int 2, .int 5])] S = .ok (.dat (.tuple [.tuple [.int 0, .int 2, .int 5], .tuple [.int 0, .int 0, .int 3], .tuple [.int 0, .int 0, .int 0]])) S := by
  have h := F16_ok S r000 r025
  have e : sortI (dedI (df [0, 0, 0] [0, 2, 5])) = [0, 2, 5] := by decide
  have e1 : corner [0, 0, 0] [0, 2, 5] 0 = [0, 2, 5] := by decide
  have e2 : corner [0, 0, 0] [0, 2, 5] 2 = [0, 0, 3] := by decide
  have e3 : corner [0, 0, 0] [0, 2, 5] 5 = [0, 0, 0] := by decide
  rw [e, List.map_cons, List.map_cons, List.map_cons, List.map_nil, e1, e2, e3] at h
  exact h
theorem f6 (S : Store) : F17 [.dat (.tuple [.int 0, .int 0, .int 0]), .dat (.tuple [.int 0, .int 2, .int 5])] S = .ok (.dat (.tuple [.int 0, .int 0, .int 0])) S := by
  have h := F17_ok S r000 r025
  have e : lss [0, 0, 0] [0, 2, 5] = [0, 0, 0] := by decide
  rw [e] at h
  exact h
theorem f7 (S : Store) : F19 [.dat (.tuple [.int 0, .int 0, .int 0]), .dat (.tuple [.int 0, .int 2, .int 5])] S = .ok (.dat (.tuple [.int 0, .int 0, .int 3])) S := by
  have h := F19_ok S r000 r025
  have e : mid [0, 0, 0] [0, 2, 5] = [0, 0, 3] := by decide +kernel
  rw [e] at h
  exact h
theorem f8 (S : Store) : F16 [.dat (.tuple [.int 4]), .dat (.tuple [.int 9])] S = .ok (.dat (.tuple [.tuple [.int 0]])) S := by
  have h := F16_ok S r4 r9
  have e : sortI (dedI (df [4] [9])) = [5] := by decide
  have e1 : corner [4] [9] 5 = [0] := by decide
  rw [e, List.map_cons, List.map_nil, e1] at h
  exact h
def last : PyData := .list [.int 5, .bool true, .tuple [.int 0, .int 2, .int 5], .tuple [.int 3, .int 3, .int 5], .tuple [.tuple [.int 0, .int 2, .int 5], .tuple [.int 0, .int 0, .int 3], .tuple [.int 0, .int 0, .int 0]], .tuple [.int 0, .int 0, .int 0], .tuple [.int 0, .int 0, .int 3], .tuple [.tuple [.int 0]]]
theorem rep_last (S : Store) : reprP S (.dat (.list [.int 5, .bool true, .tuple [.int 0, .int 2, .int 5], .tuple [.int 3, .int 3, .int 5], .tuple [.tuple [.int 0, .int 2, .int 5], .tuple [.int 0, .int 0, .int 3], .tuple [.int 0, .int 0, .int 0]], .tuple [.int 0, .int 0, .int 0], .tuple [.int 0, .int 0, .int 3], .tuple [.tuple [.int 0]]])) = some last := by
  have h : reprOk last = true := by decide +kernel
  show (if reprOk last = true then some last else none) = some last
  rw [h]
  rfl
theorem F26_ok (ns : List Int) : ∃ S, F26 [.scr ns] [] = .ok (.dat (.bool true)) S := by
  have key : WS (evSs P26 GV b_d26 [some (.scr ns), none, none, none, none, none, none] []) (fun _ _ => False) (fun d _ => d = .dat (.bool true)) := by
    rw [b26_eq, WS_cons]
    refine WS_mono (all26 [] ns _) (fun ev S h => ?_) (fun _ _ h => h)
    obtain ⟨a, b, c, rfl⟩ := h
    have e1 : evS P26 GV s26_1 [some (.scr ns), a, none, b, c, none, none] S = .nx [some (.scr ns), a, none, b, c, some (.dat (.tuple [.int 0, .int 0, .int 0])), some (.dat (.tuple [.int 0, .int 2, .int 5]))] S := by
      unfold s26_1
      simp (maxDischargeDepth := 3) only [xE_var, xE_lit, xE_gv, xE_bin, xE_neg, xE_not, xE_and, xE_or, xE_cmp, xE_rcmp, xE_chain, xE_ite, xE_call, xE_blt, xE_idx, xE_sl, xE_tup, xE_lst, xE_comp, xE_kset, xE_isi, xA_one, xA_cons, xO_one, xO_cons, xL_nil, xL_cons, xL_star, xT_nil, xT_one, xU_none, xU_some, xI_one, xI_enum, xI_rng1, xI_rng2, xI_zip2, xS_asg, xS_par, xS_seti, xS_expr, xS_ret, xS_retN, xS_iff, xS_for, xSs_nil, xSs_cons, bind_ok, sr_ok, ofP_some, ofO_some, getV_some, getG_some, negR_int, fitR_ok, compR_some, callR_some, boolR_some, selR_t, selR_f, forkR_t, forkR_f, optR_some, iR_int, rng1R_int, rng2R_int, zipR_some, nxR_some, setR_some, at_nx, at_rt, truth_bool, truth_list, truth_tuple, put_nm, put_tp, put_tp2, setSlots_nil, setSlots_cons, add_int, sub_int, add_tup, add_lst, mod_int, lt_int, le_int, gt_int, ge_int, eq_int, ne_int, eq_bool, ne_bool, is_bool, isNot_bool, is_intN, isNot_intN, cmpR_of _ (lt_int _ _ _), cmpR_of _ (le_int _ _ _), cmpR_of _ (gt_int _ _ _), cmpR_of _ (ge_int _ _ _), cmpR_of _ (eq_int _ _ _), cmpR_of _ (ne_int _ _ _), cmpR_of _ (eq_bool _ _ _), cmpR_of _ (ne_bool _ _ _), cmpR_of _ (is_bool _ _ _), cmpR_of _ (isNot_bool _ _ _), cmpR_of _ (is_intN _ _), cmpR_of _ (isNot_intN _ _), len_tup, len_lst, len_scr, abs_int, int_int, int_bool, min_ints, max_ints, tuple_lst, tuple_tup, list_tup, mkL_f, mkT_f, toDats_cons, toDats_nil, toDats_app, List.append_nil, Nat.reduceAdd, Nat.reduceLeDiff, decide_true, decide_false, Int.reduceEq, srcOf_tup, srcOf_lst, isaD_dat, below_dat, leave_rtS, leave_nxS, wipe_nil, wipe_cons, map_some', len_one, len_enum, len_zip, len_rng, len_vals, truthR, List.getElem?_cons_zero, List.getElem?_cons_succ, List.set_cons_zero, List.set_cons_succ, List.length_cons, List.length_nil, List.length_map, List.reverse_cons, List.reverse_nil, List.nil_append, List.cons_append, List.map_cons, List.map_nil, Nat.zero_add, Bool.not_true, Bool.not_false, idx_t0, idx_t1, idx_t2, idx_l0, seq_tup, eq_row, eq_ints, eq_nil, ne_nil, in_none_row, in_ints, toDats_dat, intsOf_int, Option.bind_some, cmpR_of _ (eq_row _ _ _), cmpR_of _ (eq_ints _ _ _), cmpR_of _ (eq_nil _ _), cmpR_of _ (ne_nil _ _), cmpR_of _ (in_none_row _ _), cmpR_of _ (in_ints _ _ _), cmpR_of _ (ne_nilnil _)]
    have e2 : evS P26 GV s26_2 [some (.scr ns), a, none, b, c, some (.dat (.tuple [.int 0, .int 0, .int 0])), some (.dat (.tuple [.int 0, .int 2, .int 5]))] S = .nx [some (.scr ns), a, some (.dat last), b, c, some (.dat (.tuple [.int 0, .int 0, .int 0])), some (.dat (.tuple [.int 0, .int 2, .int 5]))] S := by
      unfold s26_2
      simp (maxDischargeDepth := 3) only [xE_var, xE_lit, xE_gv, xE_bin, xE_neg, xE_not, xE_and, xE_or, xE_cmp, xE_rcmp, xE_chain, xE_ite, xE_call, xE_blt, xE_idx, xE_sl, xE_tup, xE_lst, xE_comp, xE_kset, xE_isi, xA_one, xA_cons, xO_one, xO_cons, xL_nil, xL_cons, xL_star, xT_nil, xT_one, xU_none, xU_some, xI_one, xI_enum, xI_rng1, xI_rng2, xI_zip2, xS_asg, xS_par, xS_seti, xS_expr, xS_ret, xS_retN, xS_iff, xS_for, xSs_nil, xSs_cons, bind_ok, sr_ok, ofP_some, ofO_some, getV_some, getG_some, negR_int, fitR_ok, compR_some, callR_some, boolR_some, selR_t, selR_f, forkR_t, forkR_f, optR_some, iR_int, rng1R_int, rng2R_int, zipR_some, nxR_some, setR_some, at_nx, at_rt, truth_bool, truth_list, truth_tuple, put_nm, put_tp, put_tp2, setSlots_nil, setSlots_cons, add_int, sub_int, add_tup, add_lst, mod_int, lt_int, le_int, gt_int, ge_int, eq_int, ne_int, eq_bool, ne_bool, is_bool, isNot_bool, is_intN, isNot_intN, cmpR_of _ (lt_int _ _ _), cmpR_of _ (le_int _ _ _), cmpR_of _ (gt_int _ _ _), cmpR_of _ (ge_int _ _ _), cmpR_of _ (eq_int _ _ _), cmpR_of _ (ne_int _ _ _), cmpR_of _ (eq_bool _ _ _), cmpR_of _ (ne_bool _ _ _), cmpR_of _ (is_bool _ _ _), cmpR_of _ (isNot_bool _ _ _), cmpR_of _ (is_intN _ _), cmpR_of _ (isNot_intN _ _), len_tup, len_lst, len_scr, abs_int, int_int, int_bool, min_ints, max_ints, tuple_lst, tuple_tup, list_tup, mkL_f, mkT_f, toDats_cons, toDats_nil, toDats_app, List.append_nil, Nat.reduceAdd, Nat.reduceLeDiff, decide_true, decide_false, Int.reduceEq, srcOf_tup, srcOf_lst, isaD_dat, below_dat, leave_rtS, leave_nxS, wipe_nil, wipe_cons, map_some', len_one, len_enum, len_zip, len_rng, len_vals, truthR, List.getElem?_cons_zero, List.getElem?_cons_succ, List.set_cons_zero, List.set_cons_succ, List.length_cons, List.length_nil, List.length_map, List.reverse_cons, List.reverse_nil, List.nil_append, List.cons_append, List.map_cons, List.map_nil, Nat.zero_add, Bool.not_true, Bool.not_false, idx_t0, idx_t1, idx_t2, idx_l0, seq_tup, eq_row, eq_ints, eq_nil, ne_nil, in_none_row, in_ints, toDats_dat, intsOf_int, Option.bind_some, cmpR_of _ (eq_row _ _ _), cmpR_of _ (eq_ints _ _ _), cmpR_of _ (eq_nil _ _), cmpR_of _ (ne_nil _ _), cmpR_of _ (in_none_row _ _), cmpR_of _ (in_ints _ _ _), cmpR_of _ (ne_nilnil _), p26_9, p26_10, p26_11, p26_13, p26_16, p26_17, p26_19, f1, f2, f3, f4, f5, f6, f7, f8]
      rfl
    have e3 : evS P26 GV s26_3 [some (.scr ns), a, some (.dat last), b, c, some (.dat (.tuple [.int 0, .int 0, .int 0])), some (.dat (.tuple [.int 0, .int 2, .int 5]))] S = .rt (.dat (.bool true)) S := by
      have rl : reprP S (.dat last) = some last := rep_last S
      have rc := rc_same' S last (can_of_rep rl)
      unfold s26_3
      simp (maxDischargeDepth := 3) only [xE_var, xE_lit, xE_gv, xE_bin, xE_neg, xE_not, xE_and, xE_or, xE_cmp, xE_rcmp, xE_chain, xE_ite, xE_call, xE_blt, xE_idx, xE_sl, xE_tup, xE_lst, xE_comp, xE_kset, xE_isi, xA_one, xA_cons, xO_one, xO_cons, xL_nil, xL_cons, xL_star, xT_nil, xT_one, xU_none, xU_some, xI_one, xI_enum, xI_rng1, xI_rng2, xI_zip2, xS_asg, xS_par, xS_seti, xS_expr, xS_ret, xS_retN, xS_iff, xS_for, xSs_nil, xSs_cons, bind_ok, sr_ok, ofP_some, ofO_some, getV_some, getG_some, negR_int, fitR_ok, compR_some, callR_some, boolR_some, selR_t, selR_f, forkR_t, forkR_f, optR_some, iR_int, rng1R_int, rng2R_int, zipR_some, nxR_some, setR_some, at_nx, at_rt, truth_bool, truth_list, truth_tuple, put_nm, put_tp, put_tp2, setSlots_nil, setSlots_cons, add_int, sub_int, add_tup, add_lst, mod_int, lt_int, le_int, gt_int, ge_int, eq_int, ne_int, eq_bool, ne_bool, is_bool, isNot_bool, is_intN, isNot_intN, cmpR_of _ (lt_int _ _ _), cmpR_of _ (le_int _ _ _), cmpR_of _ (gt_int _ _ _), cmpR_of _ (ge_int _ _ _), cmpR_of _ (eq_int _ _ _), cmpR_of _ (ne_int _ _ _), cmpR_of _ (eq_bool _ _ _), cmpR_of _ (ne_bool _ _ _), cmpR_of _ (is_bool _ _ _), cmpR_of _ (isNot_bool _ _ _), cmpR_of _ (is_intN _ _), cmpR_of _ (isNot_intN _ _), len_tup, len_lst, len_scr, abs_int, int_int, int_bool, min_ints, max_ints, tuple_lst, tuple_tup, list_tup, mkL_f, mkT_f, toDats_cons, toDats_nil, toDats_app, List.append_nil, Nat.reduceAdd, Nat.reduceLeDiff, decide_true, decide_false, Int.reduceEq, srcOf_tup, srcOf_lst, isaD_dat, below_dat, leave_rtS, leave_nxS, wipe_nil, wipe_cons, map_some', len_one, len_enum, len_zip, len_rng, len_vals, truthR, List.getElem?_cons_zero, List.getElem?_cons_succ, List.set_cons_zero, List.set_cons_succ, List.length_cons, List.length_nil, List.length_map, List.reverse_cons, List.reverse_nil, List.nil_append, List.cons_append, List.map_cons, List.map_nil, Nat.zero_add, Bool.not_true, Bool.not_false, idx_t0, idx_t1, idx_t2, idx_l0, seq_tup, eq_row, eq_ints, eq_nil, ne_nil, in_none_row, in_ints, toDats_dat, intsOf_int, Option.bind_some, cmpR_of _ (eq_row _ _ _), cmpR_of _ (eq_ints _ _ _), cmpR_of _ (eq_nil _ _), cmpR_of _ (ne_nil _ _), cmpR_of _ (in_none_row _ _), cmpR_of _ (in_ints _ _ _), cmpR_of _ (ne_nilnil _), rl, rep_last, rc]
    rw [xSs_cons, e1, at_nx, xSs_cons, e2, at_nx, xSs_cons, e3, at_rt]
    rfl
  rw [in26]
  generalize evSs P26 GV b_d26 [some (.scr ns), none, none, none, none, none, none] [] = r at key
  cases r with
  | rt d S =>
    have hd : d = .dat (.bool true) := key
    rw [hd]
    exact ⟨_, leave_rt S _ _⟩
  | nx _ _ => exact key.elim
  | exc _ _ _ => exact key.elim
  | fail => exact key.elim
end LW
end
section
namespace LW
open MP PySem PySem.Spec PyProof.Rows L2
def top (i : Nat) : Stmt := PySem.Challenge.pw_mostsums_k63_whole_gaps_and_corners.main.body.getD i (.Pass ⟨0, 0, 0, 0⟩)

/-- _law_bag -/
def d0 : DI := ⟨"_law_bag", "_law_bag", top 30, ["script", "spot", "cell", "great"], ["script", "spot"], none, ⟨2, false, 4, b_d0⟩⟩

/-- is_int -/
def d1 : DI := ⟨"is_int", "is_int", top 9, ["value"], ["value"], none, ⟨1, false, 1, b_d1⟩⟩

/-- is_whole -/
def d2 : DI := ⟨"is_whole", "is_whole", top 10, ["value"], ["value"], none, ⟨1, false, 1, b_d2⟩⟩

/-- is_within -/
def d3 : DI := ⟨"is_within", "is_within", top 11, ["value", "low", "high"], ["value", "low", "high"], none, ⟨3, false, 3, b_d3⟩⟩

/-- is_row_of -/
def d4 : DI := ⟨"is_row_of", "is_row_of", top 12, ["size", "value", "one"], ["size", "value"], none, ⟨2, false, 3, b_d4⟩⟩

/-- require_some_row -/
def d5 : DI := ⟨"require_some_row", "require_some_row", top 13, ["row"], ["row"], none, ⟨1, false, 1, b_d5⟩⟩

/-- require_full -/
def d6 : DI := ⟨"require_full", "require_full", top 21, ["rows", "row"], [], some "rows", ⟨0, true, 2, b_d6⟩⟩

/-- differences_in -/
def d7 : DI := ⟨"differences_in", "differences_in", top 15, ["row", "other", "one", "far"], ["row", "other"], none, ⟨2, false, 4, b_d7⟩⟩

/-- gap_in -/
def d8 : DI := ⟨"gap_in", "gap_in", top 16, ["row", "other", "found"], ["row", "other"], none, ⟨2, false, 3, b_d8⟩⟩

/-- gap -/
def d9 : DI := ⟨"gap", "gap", top 22, ["row", "other"], ["row", "other"], none, ⟨2, false, 2, b_d9⟩⟩

/-- are_shifts -/
def d10 : DI := ⟨"are_shifts", "are_shifts", top 23, ["row", "other"], ["row", "other"], none, ⟨2, false, 2, b_d10⟩⟩

/-- differences -/
def d11 : DI := ⟨"differences", "differences", top 24, ["row", "other"], ["row", "other"], none, ⟨2, false, 2, b_d11⟩⟩

/-- joined_in -/
def d12 : DI := ⟨"joined_in", "joined_in", top 17, ["row", "other", "number", "one", "far"], ["row", "other", "number"], none, ⟨3, false, 5, b_d12⟩⟩

/-- joined_at -/
def d13 : DI := ⟨"joined_at", "joined_at", top 25, ["row", "other", "number"], ["row", "other", "number"], none, ⟨3, false, 3, b_d13⟩⟩

/-- levelled_in -/
def d14 : DI := ⟨"levelled_in", "levelled_in", top 18, ["row", "one"], ["row"], none, ⟨1, false, 2, b_d14⟩⟩

/-- corners_in -/
def d15 : DI := ⟨"corners_in", "corners_in", top 19, ["row", "other", "number"], ["row", "other"], none, ⟨2, false, 3, b_d15⟩⟩

/-- corners -/
def d16 : DI := ⟨"corners", "corners", top 26, ["row", "other"], ["row", "other"], none, ⟨2, false, 2, b_d16⟩⟩

/-- lesser -/
def d17 : DI := ⟨"lesser", "lesser", top 27, ["row", "other", "one", "far"], ["row", "other"], none, ⟨2, false, 4, b_d17⟩⟩

/-- middle_in -/
def d18 : DI := ⟨"middle_in", "middle_in", top 20, ["row", "other", "found", "least", "one"], ["row", "other"], none, ⟨2, false, 5, b_d18⟩⟩

/-- middle -/
def d19 : DI := ⟨"middle", "middle", top 28, ["row", "other"], ["row", "other"], none, ⟨2, false, 2, b_d19⟩⟩

/-- _law_draw -/
def d20 : DI := ⟨"_law_draw", "_law_draw", top 31, ["bag", "total", "one", "two", "found"], ["bag", "total"], none, ⟨2, false, 5, b_d20⟩⟩

/-- _law_one_of -/
def d21 : DI := ⟨"_law_one_of", "_law_one_of", top 32, ["bag", "items"], ["bag", "items"], none, ⟨2, false, 2, b_d21⟩⟩

/-- _law_join -/
def d22 : DI := ⟨"_law_join", "_law_join", top 35, ["one", "other", "number", "here", "far"], ["one", "other", "number"], none, ⟨3, false, 5, b_d22⟩⟩

/-- _law_row -/
def d23 : DI := ⟨"_law_row", "_law_row", top 33, ["bag", "size", "most", "place"], ["bag", "size"], none, ⟨2, false, 4, b_d23⟩⟩

/-- _law_gap -/
def d24 : DI := ⟨"_law_gap", "_law_gap", top 34, ["one", "other", "less", "here", "far"], ["one", "other"], none, ⟨2, false, 5, b_d24⟩⟩

/-- _law_right -/
def d25 : DI := ⟨"_law_right", "_law_right", top 36, ["bag", "size", "step", "other", "less", "both", "rows", "level", "number", "scores", "low", "high", "one", "third", "inner", "row", "value", "here", "far"], ["bag"], none, ⟨1, false, 19, b_d25⟩⟩

/-- law -/
def d26 : DI := ⟨"law", "law", top 37, ["script", "at", "told", "bag", "turn", "one", "other"], ["script"], none, ⟨1, false, 7, b_d26⟩⟩
def DL : List DI := [d0, d1, d2, d3, d4, d5, d6, d7, d8, d9, d10, d11, d12, d13, d14, d15, d16, d17, d18, d19, d20, d21, d22, d23, d24, d25, d26]
def CT : List (PySem.Str × PyData) := [("GREAT", .int 1000000000000000000000000000000000000000000000000000000000000), ("MOST_VALUE", .int 1000000000), ("MOST_PLACES", .int 5)]
theorem bd0 : BindP d0 := fun _ _ _ _ _ _ us hl => match us, hl with | [_, _], _ => rfl
theorem bd1 : BindP d1 := fun _ _ _ _ _ _ us hl => match us, hl with | [_], _ => rfl
theorem bd2 : BindP d2 := fun _ _ _ _ _ _ us hl => match us, hl with | [_], _ => rfl
theorem bd3 : BindP d3 := fun _ _ _ _ _ _ us hl => match us, hl with | [_, _, _], _ => rfl
theorem bd4 : BindP d4 := fun _ _ _ _ _ _ us hl => match us, hl with | [_, _], _ => rfl
theorem bd5 : BindP d5 := fun _ _ _ _ _ _ us hl => match us, hl with | [_], _ => rfl
theorem bd6 : BindP d6 := fun _ _ _ _ _ _ us rest hl => match us, hl with | [], _ => by cases rest <;> rfl
theorem bd7 : BindP d7 := fun _ _ _ _ _ _ us hl => match us, hl with | [_, _], _ => rfl
theorem bd8 : BindP d8 := fun _ _ _ _ _ _ us hl => match us, hl with | [_, _], _ => rfl
theorem bd9 : BindP d9 := fun _ _ _ _ _ _ us hl => match us, hl with | [_, _], _ => rfl
theorem bd10 : BindP d10 := fun _ _ _ _ _ _ us hl => match us, hl with | [_, _], _ => rfl
theorem bd11 : BindP d11 := fun _ _ _ _ _ _ us hl => match us, hl with | [_, _], _ => rfl
theorem bd12 : BindP d12 := fun _ _ _ _ _ _ us hl => match us, hl with | [_, _, _], _ => rfl
theorem bd13 : BindP d13 := fun _ _ _ _ _ _ us hl => match us, hl with | [_, _, _], _ => rfl
theorem bd14 : BindP d14 := fun _ _ _ _ _ _ us hl => match us, hl with | [_], _ => rfl
theorem bd15 : BindP d15 := fun _ _ _ _ _ _ us hl => match us, hl with | [_, _], _ => rfl
theorem bd16 : BindP d16 := fun _ _ _ _ _ _ us hl => match us, hl with | [_, _], _ => rfl
theorem bd17 : BindP d17 := fun _ _ _ _ _ _ us hl => match us, hl with | [_, _], _ => rfl
theorem bd18 : BindP d18 := fun _ _ _ _ _ _ us hl => match us, hl with | [_, _], _ => rfl
theorem bd19 : BindP d19 := fun _ _ _ _ _ _ us hl => match us, hl with | [_, _], _ => rfl
theorem bd20 : BindP d20 := fun _ _ _ _ _ _ us hl => match us, hl with | [_, _], _ => rfl
theorem bd21 : BindP d21 := fun _ _ _ _ _ _ us hl => match us, hl with | [_, _], _ => rfl
theorem bd22 : BindP d22 := fun _ _ _ _ _ _ us hl => match us, hl with | [_, _, _], _ => rfl
theorem bd23 : BindP d23 := fun _ _ _ _ _ _ us hl => match us, hl with | [_, _], _ => rfl
theorem bd24 : BindP d24 := fun _ _ _ _ _ _ us hl => match us, hl with | [_, _], _ => rfl
theorem bd25 : BindP d25 := fun _ _ _ _ _ _ us hl => match us, hl with | [_], _ => rfl
theorem bd26 : BindP d26 := fun _ _ _ _ _ _ us hl => match us, hl with | [_], _ => rfl
theorem bdAll : ∀ x ∈ DL, BindP x := by
  intro x hx
  simp only [DL, List.mem_cons, List.not_mem_nil, or_false] at hx
  rcases hx with rfl | rfl | rfl | rfl | rfl | rfl | rfl | rfl | rfl | rfl | rfl | rfl | rfl | rfl | rfl | rfl | rfl | rfl | rfl | rfl | rfl | rfl | rfl | rfl | rfl | rfl | rfl
  · exact bd0
  · exact bd1
  · exact bd2
  · exact bd3
  · exact bd4
  · exact bd5
  · exact bd6
  · exact bd7
  · exact bd8
  · exact bd9
  · exact bd10
  · exact bd11
  · exact bd12
  · exact bd13
  · exact bd14
  · exact bd15
  · exact bd16
  · exact bd17
  · exact bd18
  · exact bd19
  · exact bd20
  · exact bd21
  · exact bd22
  · exact bd23
  · exact bd24
  · exact bd25
  · exact bd26
end LW
namespace LW
open MP PySem PySem.Spec PyProof.Rows L2
abbrev R : PySem.W.OpenRow := PySem.W.OpenLaw.row PySem.Challenge.rw_mostsums_k63_whole_gaps_and_corners
abbrev hk : PySem.W.Hook := He.hookD 4 (faL DL CT) (fnL DL)
def ob (s : PySem.W.SharedT) : He.AlD := He.obsDG 4 (faL DL CT) (fnL DL) (HandSHeadRun.getT s)
theorem ob_eq (s : PySem.W.SharedT) : ob s = hk.obs s.abs := He.obsDG_eq (HandSHeadRun.getT_eq s)
def loose : List PySem.Str := [("SumError" : PySem.Str), ("InvalidRow" : PySem.Str), ("InvalidOperation" : PySem.Str), ("InvalidNumber" : PySem.Str), ("MOST_PLACES" : PySem.Str), ("MOST_VALUE" : PySem.Str), ("GREAT" : PySem.Str), ("is_int" : PySem.Str), ("is_whole" : PySem.Str), ("is_within" : PySem.Str), ("is_row_of" : PySem.Str), ("require_some_row" : PySem.Str), ("differences_in" : PySem.Str), ("gap_in" : PySem.Str), ("joined_in" : PySem.Str), ("levelled_in" : PySem.Str), ("corners_in" : PySem.Str), ("middle_in" : PySem.Str), ("require_full" : PySem.Str), ("gap" : PySem.Str), ("are_shifts" : PySem.Str), ("differences" : PySem.Str), ("joined_at" : PySem.Str), ("corners" : PySem.Str), ("lesser" : PySem.Str), ("middle" : PySem.Str), ("_law_bag" : PySem.Str), ("_law_draw" : PySem.Str), ("_law_one_of" : PySem.Str), ("_law_row" : PySem.Str), ("_law_gap" : PySem.Str), ("_law_join" : PySem.Str), ("_law_right" : PySem.Str)]
theorem run (w : World) : HandSHeadRun.RunEq R (PySem.W.view R.prog [37]) hk ob 2000 loose w := by
  intro os
  kernel_rfl
theorem ckA : ckAll (tbOf DL CT) 0 DL = true := by decide +kernel
theorem ckC : CT.all (fun x => cstOk x.2) = true := by decide +kernel
def Φ : List Fn := fnsOf (CT.map (·.2)) (DL.map (·.d)) []
def lawFn : Fn := Φ.getD 26 (fun _ _ => .fail)
theorem fnsOf_app (G : List PyData) (b : List Def) : ∀ (a : List Def) (Φ : List Fn), fnsOf G (a ++ b) Φ = fnsOf G b (fnsOf G a Φ)
  | [], _ => rfl
  | d :: r, Φ => fnsOf_app G b r (Φ ++ [mkFn Φ G d])
theorem fnsOf_len (G : List PyData) : ∀ (a : List Def) (Φ : List Fn), (fnsOf G a Φ).length = Φ.length + a.length
  | [], _ => rfl
  | d :: r, Φ => by
    show (fnsOf G r (Φ ++ [mkFn Φ G d])).length = _
    rw [fnsOf_len G r]
    simp
    omega
theorem last_fn (G : List PyData) (a : List Def) (d : Def) (z : Fn) (n : Nat) (h : a.length = n) : (fnsOf G (a ++ [d]) []).getD n z = mkFn (fnsOf G a []) G d := by
  have e : fnsOf G (a ++ [d]) [] = fnsOf G a [] ++ [mkFn (fnsOf G a []) G d] := fnsOf_app G [d] a []
  have hl : (fnsOf G a []).length = n := by rw [fnsOf_len, h]; simp
  rw [e, List.getD_eq_getElem?_getD, List.getElem?_append_right (by omega), hl, Nat.sub_self]
  rfl
theorem ct_eq : CT.map (·.2) = GV := rfl
theorem dl_eq : DL.map (·.d) = DS := rfl
theorem ds_eq : DS = DS.dropLast ++ [D26] := rfl
theorem lawFn_eq : lawFn = F26 := by
  unfold lawFn Φ
  rw [ct_eq, dl_eq, ds_eq, last_fn GV DS.dropLast D26 _ 26 rfl]
  rfl
theorem final : ∀ ns : List Int, ns.length ≤ 63 → (∀ z ∈ ns, Builtin.Int.intBits z ≤ 1048576) → ∃ S, LW.lawFn [.scr ns] [] = .ok (.dat (.bool true)) S := fun ns _ _ => by
  rw [lawFn_eq]
  exact F26_ok ns

end LW
open PySem PySem.W PySem.Calls PyProof.Rows
theorem PySem.Challenge.cw_mostsums_k63_whole_gaps_and_corners_of (ev : ∀ ns : List Int, ns.length ≤ 63 → (∀ z ∈ ns, Builtin.Int.intBits z ≤ 1048576) → ∃ S, LW.lawFn [.scr ns] [] = .ok (.dat (.bool true)) S) : PySem.Challenge.rw_mostsums_k63_whole_gaps_and_corners.Holds := by
  w_on; o_law
  refine HandSHeadRun.head_any (r := OpenLaw.row PySem.Challenge.rw_mostsums_k63_whole_gaps_and_corners) (q := view (OpenLaw.row PySem.Challenge.rw_mostsums_k63_whole_gaps_and_corners).prog [37]) (H := LW.hk) (ob := LW.ob) (M := 2000) (loose := LW.loose) (d := HandSHeadRun.topDef (OpenLaw.row PySem.Challenge.rw_mostsums_k63_whole_gaps_and_corners).prog 37) (kwd := []) LW.ob_eq
    (by kernel_rfl) (fun s => by kernel_rfl) LW.run (by kernel_rfl) (by kernel_rfl) (by kernel_rfl) (by rfl) (by first | assumption | decide +kernel) (by decide +kernel) ⟨rfl, rfl, rfl, rfl, rfl, by decide +kernel⟩ ?hw ?hc
  case hw => w_witness2
  case hc =>
    exact MP.mp_walk (l := PySem.Challenge.rw_mostsums_k63_whole_gaps_and_corners) (n := 63) (i := 26) (fn := LW.lawFn) rfl (by decide) (by kernel_rfl) ⟨rfl, by decide, by decide⟩ LW.ckC LW.ckA LW.bdAll (by decide +kernel) (by rfl) ev


theorem PySem.Challenge.cw_mostsums_k63_whole_gaps_and_corners_holds : PySem.Challenge.rw_mostsums_k63_whole_gaps_and_corners.Holds := by
  exact PySem.Challenge.cw_mostsums_k63_whole_gaps_and_corners_of LW.final
end
