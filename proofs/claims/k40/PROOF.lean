import PyProof.Rows.All
import Wide.All
import OpenK.AllK
import Wide.FinOn
import HandS.ForMost
import HandS.TupAny
import HandS.Exc
import HandS.ExcOwn
import HandS.WordsExc
import HandS.ListItems
import HandS.IsInst
import HandS.Deep
import PySem.Challenge.RW_wordsbeside_k40_sentences_that_part_fini
set_option Elab.async false
set_option linter.all false
set_option maxRecDepth 100000
/-! Vm1: a small machine of our own: values, a store of cells, compiled code, its evaluator. No model of Python in sight. -/
namespace Vm

inductive PV where
  | non
  | bl (b : Bool)
  | int (i : Int)
  | str (l : List Nat)
  | tup (xs : List PV)
  /-- the thing at a place of the store -/
  | loc (n : Nat)
  /-- a list just made, at no place yet -/
  | tl (xs : List PV)
  /-- a list that is read alone -/
  | fl (xs : List PV)
  deriving Inhabited

inductive Cell where
  | lst (xs : List PV)
  /-- a dict; lk: gone through just now -/
  | dic (lk : Bool) (kvs : List (PV × PV))
  | obj (c : Nat) (fs : List (Nat × PV))
  /-- nothing may look at it -/
  | dead
  deriving Inhabited

abbrev Store := List Cell
abbrev Env := List (Option PV)

inductive Res (α : Type) where
  | ok (a : α) (st : Store)
  /-- an exception: its class, its fields -/
  | exc (c : Nat) (fs : List (Nat × PV)) (st : Store)
  | bad
  deriving Inhabited

@[inline] def Res.bind {α β : Type} (r : Res α) (f : α → Store → Res β) : Res β :=
  match r with
  | .ok a st => f a st
  | .exc c fs st => .exc c fs st
  | .bad => .bad
@[simp] theorem Res.bind_ok {α β : Type} (a : α) (st : Store) (f : α → Store → Res β) : (Res.ok a st).bind f = f a st := rfl
@[simp] theorem Res.bind_exc {α β : Type} (c : Nat) (fs : List (Nat × PV)) (st : Store) (f : α → Store → Res β) : (Res.exc c fs st).bind f = .exc c fs st := rfl
@[simp] theorem Res.bind_bad {α β : Type} (f : α → Store → Res β) : (Res.bad : Res α).bind f = .bad := rfl
def Res.of {α : Type} (o : Option α) (st : Store) : Res α := match o with
  | some a => .ok a st
  | none => .bad
def guardR {α : Type} (c : Bool) (r : Res α) : Res α := if c then r else .bad

/-- the greatest length of lists and texts that we serve -/
def SZ : Nat := 1000000

/-! ### operations by values -/
inductive BOp where | add | sub | mul | fdiv | mod | pow
inductive COp where | eq | ne | lt | le | gt | ge | is | isnot | isin | notin

/-- a list's items, of a temporary list too -/
def lv (st : Store) : PV → Option (List PV)
  | .loc n => match st[n]? with
    | some (.lst xs) => some xs
    | _ => none
  | .tl xs => some xs
  | .fl xs => some xs
  | _ => none
/-- of a list that may be changed, or is new -/
def lw (st : Store) : PV → Option (List PV)
  | .loc n => match st[n]? with
    | some (.lst xs) => some xs
    | _ => none
  | .tl xs => some xs
  | _ => none
/-- a dict's pairs -/
def dv (st : Store) : PV → Option (List (PV × PV))
  | .loc n => match st[n]? with
    | some (.dic _ kvs) => some kvs
    | _ => none
  | _ => none
/-- .. of a dict that is not gone through -/
def dm (st : Store) : PV → Option (List (PV × PV))
  | .loc n => match st[n]? with
    | some (.dic false kvs) => some kvs
    | _ => none
  | _ => none
/-- the items of a list that is there to be changed -/
def lm (st : Store) : PV → Option (Nat × List PV)
  | .loc n => match st[n]? with
    | some (.lst xs) => some (n, xs)
    | _ => none
  | _ => none
/-- a list's or a tuple's items -/
def sv (st : Store) : PV → Option (List PV)
  | .tup xs => some xs
  | v => lv st v
/-- a temporary list finds its place -/
def fixv (v : PV) (st : Store) : PV × Store := match v with
  | .tl xs => (.loc st.length, st ++ [.lst xs])
  | v => (v, st)
def fixR (r : Res PV) : Res PV := r.bind fun v st => .ok (fixv v st).1 (fixv v st).2

def BIG : Nat := 18446744073709551616
def guardO {α : Type} (c : Bool) (a : α) : Option α := if c then some a else none
def catL (a b : Option (List PV)) : Option PV := match a, b with
  | some xs, some ys => guardO (decide (xs.length + ys.length ≤ SZ)) (.tl (xs ++ ys))
  | _, _ => none
def repL (a : Option (List PV)) (k : Int) : Option PV := match a with
  | some xs => guardO (decide (0 ≤ k) && decide (k ≤ 1000000) && decide (xs.length * k.toNat ≤ SZ)) (.tl (List.replicate k.toNat xs).flatten)
  | none => none
def binop (o : BOp) (a b : PV) (st : Store) : Option PV := match o with
  | .add => (match a, b with
    | .int i, .int j => some (.int (i + j))
    | .str x, .str y => guardO (decide (x.length + y.length ≤ SZ)) (.str (x ++ y))
    | .tup x, .tup y => guardO (decide (x.length + y.length ≤ SZ)) (.tup (x ++ y))
    | x, y => catL (lw st x) (lw st y))
  | .sub => (match a, b with
    | .int i, .int j => some (.int (i - j))
    | _, _ => none)
  | .mul => (match a, b with
    | .int i, .int j => guardO (decide (i.natAbs < BIG) || decide (j.natAbs < BIG)) (.int (i * j))
    | x, .int k => repL (lw st x) k
    | _, _ => none)
  | .fdiv => (match a, b with
    | .int i, .int j => guardO (decide (0 < j) && decide (j < 1073741824)) (.int (i / j))
    | _, _ => none)
  | .mod => (match a, b with
    | .int i, .int j => guardO (decide (0 < j)) (.int (i % j))
    | _, _ => none)
  | .pow => (match a, b with
    | .int i, .int j => guardO (decide (0 ≤ j) && decide (j ≤ 1000000) && decide (i.natAbs < BIG)) (.int (i ^ j.toNat))
    | _, _ => none)

/-- == of flat values -/
def eqS : PV → PV → Option Bool
  | .non, .non => some true
  | .int i, .int j => some (i == j)
  | .bl i, .bl j => some (i == j)
  | .str i, .str j => some (i == j)
  | .non, .int _ => some false | .int _, .non => some false
  | .non, .bl _ => some false | .bl _, .non => some false
  | .non, .str _ => some false | .str _, .non => some false
  | .int _, .str _ => some false | .str _, .int _ => some false
  | .bl _, .str _ => some false | .str _, .bl _ => some false
  | _, _ => none
def flat : PV → Bool
  | .non => true | .bl _ => true | .int _ => true | .str _ => true
  | _ => false
/-- == of flat values, as a list's search asks it -/
def eqF : PV → PV → Bool
  | .non, .non => true
  | .bl a, .bl b => a == b
  | .bl a, .int b => (if a then 1 else 0) == b
  | .int a, .bl b => a == (if b then 1 else 0)
  | .int a, .int b => a == b
  | .str a, .str b => a == b
  | _, _ => false
def mapO (f : PV → Option PV) : List PV → Option (List PV)
  | [] => some []
  | x :: xs => match f x, mapO f xs with
    | some y, some ys => some (y :: ys)
    | _, _ => none
/-- a thing as data: its lists read out; n: the depth -/
def dataOf (st : Store) : Nat → PV → Option PV
  | 0, _ => none
  | n + 1, x => match x with
    | .non => some .non
    | .bl b => some (.bl b)
    | .int i => some (.int i)
    | .str l => if l.all (fun c => decide (c < 1114112)) then some (.str l) else none
    | .tup xs => (mapO (dataOf st n) xs).map .tup
    | x => ((lv st x).bind (mapO (dataOf st n))).map .fl
def eqDL (f : PV → PV → Bool) : List PV → List PV → Bool
  | [], [] => true
  | x :: xs, y :: ys => f x y && eqDL f xs ys
  | _, _ => false
/-- == of data -/
def eqD : Nat → PV → PV → Bool
  | 0, _, _ => false
  | n + 1, x, y => match x, y with
    | .tup xs, .tup ys => eqDL (eqD n) xs ys
    | .fl xs, .fl ys => eqDL (eqD n) xs ys
    | x, y => eqF x y
def eqW (a b : PV) (st : Store) : Option Bool := match eqS a b with
  | some r => some r
  | none => match dataOf st 60 a, dataOf st 60 b with
    | some x, some y => some (eqD 60 x y)
    | _, _ => none
/-- x in a dict: keys are flat, no bool among them -/
def keyOk : PV → Bool
  | .int _ => true | .str _ => true
  | _ => false
def dget (kvs : List (PV × PV)) (k : PV) : Option PV := (kvs.find? fun p => eqF p.1 k).map (·.2)
def dput (kvs : List (PV × PV)) (k v : PV) : List (PV × PV) :=
  if kvs.any fun p => eqF p.1 k then kvs.map fun p => if eqF p.1 k then (p.1, v) else p else kvs ++ [(k, v)]

def isinL (x : PV) (xs : List PV) : Option Bool := if flat x && xs.all flat then some (xs.any fun z => eqF z x) else none
def isinV (x y : PV) (st : Store) : Option Bool := match y with
  | .str l => match x with
    | .str [c] => some (l.contains c)
    | _ => none
  | y => match dv st y with
    | some kvs => if keyOk x then some (kvs.any fun p => eqF p.1 x) else none
    | none => (sv st y).bind (isinL x)
def isNone : PV → Bool
  | .non => true
  | _ => false
def cmpV (o : COp) (a b : PV) (st : Store) : Option Bool := match o with
  | .lt => (match a, b with
    | .int i, .int j => some (decide (i < j))
    | _, _ => none)
  | .le => (match a, b with
    | .int i, .int j => some (decide (i ≤ j))
    | _, _ => none)
  | .gt => (match a, b with
    | .int i, .int j => some (decide (j < i))
    | _, _ => none)
  | .ge => (match a, b with
    | .int i, .int j => some (decide (j ≤ i))
    | _, _ => none)
  | .eq => eqW a b st
  | .ne => (eqW a b st).map (!·)
  | .is => if isNone b then some (isNone a) else none
  | .isnot => if isNone b then some (!isNone a) else none
  | .isin => isinV a b st
  | .notin => (isinV a b st).map (!·)

/-- an index of a sequence of n items -/
def ixOf (n : Nat) (i : Int) : Option Nat :=
  if 0 ≤ i then (if i < n then some i.toNat else none) else (if -i ≤ n then some (n - (-i).toNat) else none)
def itemAt {α : Type} (xs : List α) (i : Int) : Option α := (ixOf xs.length i).bind fun j => xs[j]?
def indexG (a b : PV) (st : Store) : Option PV := match dv st a with
  | some kvs => if keyOk b then dget kvs b else none
  | none => match b with
    | .int i => (sv st a).bind fun xs => itemAt xs i
    | _ => none
def indexS (l : List Nat) (b : PV) : Option PV := match b with
  | .int i => if l.length ≤ SZ then (itemAt l i).map fun c => .str [c] else none
  | _ => none
def indexV (a b : PV) (st : Store) : Option PV := match a with
  | .str l => indexS l b
  | a => indexG a b st
/-- a slice's bound -/
def slIx (n d : Nat) : Option Int → Nat
  | none => d
  | some i => if 0 ≤ i then min i.toNat n else n - min (-i).toNat n
def cut {α : Type} (xs : List α) (lo hi : Option Int) : List α := (xs.drop (slIx xs.length 0 lo)).take (slIx xs.length xs.length hi - slIx xs.length 0 lo)
def sliceG (a : PV) (l h : Option Int) (st : Store) : Option PV := match a with
  | .str x => if x.length ≤ SZ then some (.str (cut x l h)) else none
  | .tup xs => some (.tup (cut xs l h))
  | v => (lv st v).map fun xs => .tl (cut xs l h)
/-! ### built-in functions -/
inductive Blt where | len | abs | int | str | tuple | list | sum | max | min | dict
def digitsN : Nat → Nat → List Nat
  | 0, _ => []
  | f + 1, n => if n < 10 then [48 + n] else digitsN f (n / 10) ++ [48 + n % 10]
/-- the signs of a number below ten thousand millions -/
def numStr (i : Int) : Option (List Nat) := if 0 ≤ i ∧ i < 10000000000 then some (digitsN 11 i.toNat) else none
def intsOf : List PV → Option (List Int)
  | [] => some []
  | .int i :: r => (intsOf r).map (i :: ·)
  | _ :: _ => none
def pairsOf : List PV → Option (List (PV × PV))
  | [] => some []
  | .tup [k, v] :: r => if keyOk k then (pairsOf r).map ((k, v) :: ·) else none
  | _ :: _ => none
def lenV (v : PV) (st : Store) : Option Int := match v with
  | .str l => if l.length ≤ SZ then some (l.length : Int) else none
  | v => match dv st v with
    | some kvs => some kvs.length
    | none => (sv st v).map fun xs => xs.length
/-- of one argument -/
def blt1 (f : Blt) (v : PV) (st : Store) : Option PV := match f with
  | .len => (lenV v st).map .int
  | .abs => (match v with
    | .int i => some (.int (if i < 0 then -i else i))
    | _ => none)
  | .int => (match v with
    | .int i => some (.int i)
    | .bl b => some (.int (if b then 1 else 0))
    | _ => none)
  | .str => (match v with
    | .int i => (numStr i).map .str
    | _ => none)
  | .tuple => (sv st v).map .tup
  | .list => (sv st v).map .tl
  | .sum => (((lv st v).bind intsOf).map List.sum).map .int
  | _ => none
def blt2 (f : Blt) (v w : PV) : Option PV := match f, v, w with
  | .max, .int i, .int j => some (.int (if j > i then j else i))
  | .min, .int i, .int j => some (.int (if j < i then j else i))
  | _, _, _ => none

/-! ### methods of built-in types -/
inductive Mth where | append | pop | reverse | join | items | get | index
/-- without arguments -/
def mth0 (m : Mth) (o : PV) (st : Store) : Option (PV × Store) := match m with
  | .pop => (match lm st o with
    | some (n, xs) => (xs[xs.length - 1]?).map fun y => (y, st.set n (.lst xs.dropLast))
    | none => none)
  | .reverse => (match lm st o with
    | some (n, xs) => some (.non, st.set n (.lst xs.reverse))
    | none => none)
  | _ => none
/-- the receiver is of the method's type -/
def mOk (m : Mth) (o : PV) (st : Store) : Bool := match m with
  | .append => (lm st o).isSome
  | _ => false
def mth1 (m : Mth) (o x : PV) (st : Store) : Option (PV × Store) := match m with
  | .append => (match lm st o with
    | some (n, xs) => guardO (decide (xs.length < SZ)) (.non, st.set n (.lst (xs ++ [x])))
    | none => none)
  | _ => none

def mthR (o : Option (PV × Store)) : Res PV := match o with
  | some (v, st) => .ok v st
  | none => .bad
def dict1R (o : Option (List (PV × PV))) (st : Store) : Res PV := match o with
  | some kvs => .ok (.loc st.length) (st ++ [.dic false (kvs.foldl (fun acc p => dput acc p.1 p.2) [])])
  | none => .bad
/-! ### code -/
/-- what isinstance asks for -/
inductive Ty where | int | bool | str | list | tuple
inductive Tag where | non | bl | int | str | tup | lst | dic
def tagOf (x : PV) (st : Store) : Option Tag := match x with
  | .non => some .non
  | .bl _ => some .bl
  | .int _ => some .int
  | .str _ => some .str
  | .tup _ => some .tup
  | .loc n => (match st[n]? with
    | some (.lst _) => some .lst
    | some (.dic false _) => some .dic
    | _ => none)
  | _ => none
def isTag : Ty → Tag → Bool
  | .int, .int => true | .int, .bl => true
  | .bool, .bl => true
  | .str, .str => true
  | .list, .lst => true
  | .tuple, .tup => true
  | _, _ => false
def isTy (t : Ty) (x : PV) (st : Store) : Option Bool := (tagOf x st).map (isTag t)

/-- what is gone through: a value, range(a), range(a, b) -/
inductive ItK where | seq | rng1 | rng2
inductive CE where
  | lit (v : PV)
  | var (i : Nat)
  | glob (g : Nat)
  | nil
  | cons (a as : CE)
  | tup (as : CE)
  | lst (as : CE)
  | bin (o : BOp) (a b : CE)
  | cmp (o : COp) (a b : CE)
  | cmp2 (o o' : COp) (a b c : CE)
  | and (a b : CE)
  | or (a b : CE)
  | not (a : CE)
  | neg (a : CE)
  | ite (c a b : CE)
  | ix (a b : CE)
  /-- no bound of a slice -/
  | noE
  | sl (a lo hi : CE)
  | call (f : Nat) (as : CE)
  | blt1 (f : Blt) (a : CE)
  | blt2 (f : Blt) (a b : CE)
  | mth0 (m : Mth) (o : CE)
  | mth1 (m : Mth) (o a : CE)
  | isi (a : CE) (t : Ty)
  /-- [e for slots in .. if c]; k: what is gone through, of a and b; hc: there is an if -/
  | lc (own : List Nat) (k : ItK) (a b : CE) (hc : Bool) (c e : CE)
  /-- list(d.items()) -/
  | ditems (a : CE)
  /-- dict(pairs) -/
  | dict1 (a : CE)
  /-- {} -/
  | dnew
inductive CT where
  | name (i : Nat)
  | names (is : List Nat)
  | sub (o i : CE)
inductive CS where
  | nil
  | cons (s ss : CS)
  | asg (t : CT) (e : CE)
  | par (i j : Nat) (a b : CE)
  | expr (e : CE)
  | ret (e : CE)
  | retN
  | pass
  | brk
  | cont
  | if_ (c : CE) (a b : CS)
  | while_ (c : CE) (b : CS)
  | for_ (t : CT) (k : ItK) (a b : CE) (body : CS)

/-- what is gone through -/
inductive Src where
  | vals (xs : List PV)
  | live (n : Nat)
  | rng (lo : Int) (n : Nat)
def srcOf (v : PV) (st : Store) : Option Src := match v with
  | .tup xs => some (.vals xs)
  | .tl xs => some (.vals xs)
  | .fl xs => some (.vals xs)
  | .str l => some (.vals (l.map fun c => .str [c]))
  | .loc n => (match st[n]? with
    | some (.lst _) => some (.live n)
    | _ => none)
  | _ => none
def R62 : Int := 4611686018427387904
def rng1Of (v : PV) : Option Src := match v with
  | .int j => if -R62 ≤ j ∧ j < R62 then some (.rng 0 j.toNat) else none
  | _ => none
def rng2Of (v w : PV) : Option Src := match v, w with
  | .int i, .int j => if (-R62 ≤ i ∧ i < R62) ∧ (-R62 ≤ j ∧ j < R62) then some (.rng i (j - i).toNat) else none
  | _, _ => none

section
variable (call : Nat → List PV → Store → Res PV) (G : Nat → Option PV) (N : Nat)

def unpackE : List Nat → List PV → Env → Option Env
  | [], [], ev => some ev
  | i :: is, v :: vs, ev => unpackE is vs (ev.set i (some v))
  | _, _, _ => none
/-- a comprehension's target -/
def bindTup (is : List Nat) (v : PV) (ev : Env) : Option Env := match v with
  | .tup vs => unpackE is vs ev
  | _ => none
def bindOwn (own : List Nat) (v : PV) (ev : Env) : Option Env := match own with
  | [i] => some (ev.set i (some v))
  | is => bindTup is v ev
/-- the slots of a comprehension's own names forgotten -/
def wipeE (ev : Env) : List Nat → Env
  | [] => ev
  | v :: vs => (wipeE ev vs).set v none

/-- a comprehension's turns over given items: f makes none (left out) or some item -/
def lcGo (f : PV → Store → Res (Option PV)) : List PV → List PV → Store → Res (List PV)
  | [], acc, st => .ok acc st
  | x :: xs, acc, st => (f x st).bind fun r st1 => match r with
    | some y => guardR (decide (acc.length < SZ)) (lcGo f xs (acc ++ [y]) st1)
    | none => lcGo f xs acc st1
def lcLive (f : PV → Store → Res (Option PV)) (n : Nat) : Nat → Nat → List PV → Store → Res (List PV)
  | 0, _, _, _ => .bad
  | fu + 1, i, acc, st => match lv st (.loc n) with
    | some xs => (match xs[i]? with
      | none => .ok acc st
      | some x => (f x st).bind fun r st1 => match r with
        | some y => guardR (decide (acc.length < SZ)) (lcLive f n fu (i + 1) (acc ++ [y]) st1)
        | none => lcLive f n fu (i + 1) acc st1)
    | none => .bad
def lcRng (f : PV → Store → Res (Option PV)) : Nat → Int → List PV → Store → Res (List PV)
  | 0, _, acc, st => .ok acc st
  | n + 1, i, acc, st => (f (.int i) st).bind fun r st1 => match r with
    | some y => guardR (decide (acc.length < SZ)) (lcRng f n (i + 1) (acc ++ [y]) st1)
    | none => lcRng f n (i + 1) acc st1
def lcSrc (f : PV → Store → Res (Option PV)) (s : Src) (st : Store) : Res (List PV) := match s with
  | .vals xs => lcGo f xs [] st
  | .live n => lcLive f n N 0 [] st
  | .rng lo n => lcRng f n lo [] st

/-- no exception leaves it -/
def noExc {α : Type} (r : Res α) : Res α := match r with
  | .exc _ _ _ => .bad
  | r => r
def tupOf : PV → List PV
  | .tup xs => xs
  | _ => []
def truth (r : Res PV) : Res Bool := r.bind fun v st => match v with
  | .bl b => .ok b st
  | _ => .bad

/-- what a comprehension does with an item -/
def itemM (is : List Nat) (ev : Env) (mc me : Env → Store → Res PV) (x : PV) (st2 : Store) : Res (Option PV) := match bindOwn is x (wipeE ev is) with
  | none => .bad
  | some ev2 => noExc ((truth (mc ev2 st2)).bind fun r st3 => if r then (fixR (me ev2 st3)).bind fun y st4 => .ok (some y) st4 else .ok none st3)
def lcM (is : List Nat) (mi : Env → Store → Res Src) (mc me : Env → Store → Res PV) : Env → Store → Res PV := fun ev st => (mi ev st).bind fun s st1 => (lcSrc N (itemM is ev mc me) s st1).bind fun xs st2 => .ok (.tl xs) st2
def iterM (k : ItK) (fa fb : Env → Store → Res PV) : Env → Store → Res Src := fun ev st => match k with
  | .seq => (fa ev st).bind fun v st1 => Res.of (srcOf v st1) st1
  | .rng1 => (fa ev st).bind fun v st1 => Res.of (rng1Of v) st1
  | .rng2 => (fa ev st).bind fun v st1 => (fb ev st1).bind fun w st2 => Res.of (rng2Of v w) st2
def condM (hc : Bool) (f : Env → Store → Res PV) : Env → Store → Res PV := fun ev st => if hc then f ev st else .ok (.bl true) st
def isNo : CE → Bool
  | .noE => true
  | _ => false
def partR (no : Bool) (r : Res PV) : Res (Option Int) := r.bind fun v st => if no then .ok none st else match v with
  | .int i => .ok (some i) st
  | _ => .bad
/-- an expression; an argument list gives a tuple; a thing gone through (seq, rng) is met in evI alone -/
def evE : CE → Env → Store → Res PV
  | .lit v, _, st => .ok v st
  | .var i, ev, st => match ev[i]? with
    | some (some v) => .ok v st
    | _ => .bad
  | .glob g, _, st => Res.of (G g) st
  | .nil, _, st => .ok (.tup []) st
  | .cons a as, ev, st => (fixR (evE a ev st)).bind fun x st1 => (evE as ev st1).bind fun xs st2 => .ok (.tup (x :: tupOf xs)) st2
  | .tup as, ev, st => (evE as ev st).bind fun v st1 => guardR (decide ((tupOf v).length ≤ SZ)) (.ok (.tup (tupOf v)) st1)
  | .lst as, ev, st => (evE as ev st).bind fun v st1 => guardR (decide ((tupOf v).length ≤ SZ)) (.ok (.tl (tupOf v)) st1)
  | .bin o a b, ev, st => (evE a ev st).bind fun x st1 => (evE b ev st1).bind fun y st2 => Res.of (binop o x y st2) st2
  | .cmp o a b, ev, st => (evE a ev st).bind fun x st1 => (evE b ev st1).bind fun y st2 => Res.of ((cmpV o x y st2).map .bl) st2
  | .cmp2 o o' a b c, ev, st => (evE a ev st).bind fun x st1 => (evE b ev st1).bind fun y st2 => (Res.of (cmpV o x y st2) st2).bind fun r st3 =>
      if r then (evE c ev st3).bind fun z st4 => Res.of ((cmpV o' y z st4).map .bl) st4 else .ok (.bl false) st3
  | .and a b, ev, st => (truth (evE a ev st)).bind fun r st1 => if r then (truth (evE b ev st1)).bind fun r st2 => .ok (.bl r) st2 else .ok (.bl false) st1
  | .or a b, ev, st => (truth (evE a ev st)).bind fun r st1 => if r then .ok (.bl true) st1 else (truth (evE b ev st1)).bind fun r st2 => .ok (.bl r) st2
  | .not a, ev, st => (truth (evE a ev st)).bind fun r st1 => .ok (.bl (!r)) st1
  | .neg a, ev, st => (evE a ev st).bind fun x st1 => match x with
    | .int i => .ok (.int (-i)) st1
    | _ => .bad
  | .ite c a b, ev, st => (truth (evE c ev st)).bind fun r st1 => if r then evE a ev st1 else evE b ev st1
  | .ix a b, ev, st => (evE a ev st).bind fun x st1 => (evE b ev st1).bind fun y st2 => Res.of (indexV x y st2) st2
  | .noE, _, st => .ok .non st
  | .sl a lo hi, ev, st => (evE a ev st).bind fun x st1 => (partR (isNo lo) (evE lo ev st1)).bind fun l st2 => (partR (isNo hi) (evE hi ev st2)).bind fun h st3 => Res.of (sliceG x l h st3) st3
  | .call f as, ev, st => (evE as ev st).bind fun v st1 => call f (tupOf v) st1
  | .blt1 f a, ev, st => (evE a ev st).bind fun x st1 => Res.of (blt1 f x st1) st1
  | .blt2 f a b, ev, st => (evE a ev st).bind fun x st1 => (evE b ev st1).bind fun y st2 => Res.of (blt2 f x y) st2
  | .mth0 m o, ev, st => (evE o ev st).bind fun x st1 => mthR (mth0 m x st1)
  | .mth1 m o a, ev, st => (evE o ev st).bind fun x st1 => guardR (mOk m x st1) <| (fixR (evE a ev st1)).bind fun y st2 => mthR (mth1 m x y st2)
  | .isi a t, ev, st => (evE a ev st).bind fun x st1 => Res.of ((isTy t x st1).map .bl) st1
  | .lc own k a b hc c e, ev, st => lcM N own (iterM k (fun ev st => evE a ev st) (fun ev st => evE b ev st)) (condM hc fun ev st => evE c ev st) (fun ev st => evE e ev st) ev st
  | .ditems a, ev, st => (evE a ev st).bind fun x st1 => Res.of ((dm st1 x).map fun kvs => .tl (kvs.map fun p => .tup [p.1, p.2])) st1
  | .dict1 a, ev, st => (evE a ev st).bind fun x st1 => dict1R ((lv st1 x).bind pairsOf) st1
  | .dnew, _, st => .ok (.loc st.length) (st ++ [.dic false []])

inductive Flow where
  | nx (ev : Env) | rt (v : PV) | bk (ev : Env) | ct (ev : Env)
  deriving Inhabited

def setSub (o i v : PV) (st : Store) : Option Store := match o with
  | .loc n => (match st[n]?, i with
    | some (.lst xs), .int k => (match ixOf xs.length k with
      | some j => some (st.set n (.lst (xs.set j v)))
      | none => none)
    | some (.dic false kvs), k => if keyOk k && decide (kvs.length < SZ) then some (st.set n (.dic false (dput kvs k v))) else none
    | _, _ => none)
  | _ => none
/-- a target takes a value -/
def evT (t : CT) (v : PV) (ev : Env) (st : Store) : Res Env := match t with
  | .name i => .ok (ev.set i (some v)) st
  | .names is => (match v with
    | .tup vs => Res.of (unpackE is vs ev) st
    | _ => .bad)
  | .sub o i => (evE call G N o ev st).bind fun x st1 => (evE call G N i ev st1).bind fun k st2 => match setSub x k v st2 with
    | some st3 => .ok ev st3
    | none => .bad

def whl (c : Env → Store → Res Bool) (b : Env → Store → Res Flow) : Nat → Env → Store → Res Flow
  | 0, _, _ => .bad
  | n + 1, ev, st => (c ev st).bind fun r st1 => if r then (b ev st1).bind fun f st2 => match f with
    | .nx ev2 => whl c b n ev2 st2
    | .ct ev2 => whl c b n ev2 st2
    | .bk ev2 => .ok (.nx ev2) st2
    | .rt v => .ok (.rt v) st2
    else .ok (.nx ev) st1
/-- b: the target's assignment and the body -/
def forGo (b : PV → Env → Store → Res Flow) : List PV → Env → Store → Res Flow
  | [], ev, st => .ok (.nx ev) st
  | x :: xs, ev, st => (b x ev st).bind fun f st2 => match f with
    | .nx ev2 => forGo b xs ev2 st2
    | .ct ev2 => forGo b xs ev2 st2
    | .bk ev2 => .ok (.nx ev2) st2
    | .rt v => .ok (.rt v) st2
def forLive (b : PV → Env → Store → Res Flow) (n : Nat) : Nat → Nat → Env → Store → Res Flow
  | 0, _, _, _ => .bad
  | fu + 1, i, ev, st => match lv st (.loc n) with
    | some xs => (match xs[i]? with
      | none => .ok (.nx ev) st
      | some x => (b x ev st).bind fun f st2 => match f with
        | .nx ev2 => forLive b n fu (i + 1) ev2 st2
        | .ct ev2 => forLive b n fu (i + 1) ev2 st2
        | .bk ev2 => .ok (.nx ev2) st2
        | .rt v => .ok (.rt v) st2)
    | none => .bad
def forRng (b : PV → Env → Store → Res Flow) : Nat → Int → Env → Store → Res Flow
  | 0, _, ev, st => .ok (.nx ev) st
  | n + 1, i, ev, st => (b (.int i) ev st).bind fun f st2 => match f with
    | .nx ev2 => forRng b n (i + 1) ev2 st2
    | .ct ev2 => forRng b n (i + 1) ev2 st2
    | .bk ev2 => .ok (.nx ev2) st2
    | .rt v => .ok (.rt v) st2
def forSrc (b : PV → Env → Store → Res Flow) (s : Src) (ev : Env) (st : Store) : Res Flow := match s with
  | .vals xs => forGo b xs ev st
  | .live n => forLive b n N 0 ev st
  | .rng lo n => forRng b n lo ev st

def forM (mi : Env → Store → Res Src) (f : PV → Env → Store → Res Flow) : Env → Store → Res Flow := fun ev st => (mi ev st).bind fun s st1 => forSrc N f s ev st1
def turnM (mt : PV → Env → Store → Res Env) (nb : Env → Store → Res Flow) : PV → Env → Store → Res Flow := fun x ev st => (mt x ev st).bind fun ev2 st2 => nb ev2 st2
def evS : CS → Env → Store → Res Flow
  | .nil, ev, st => .ok (.nx ev) st
  | .cons s ss, ev, st => (evS s ev st).bind fun f st1 => match f with
    | .nx ev1 => evS ss ev1 st1
    | f => .ok f st1
  | .asg t e, ev, st => (fixR (evE call G N e ev st)).bind fun v st1 => (evT call G N t v ev st1).bind fun ev2 st2 => .ok (.nx ev2) st2
  | .par i j a b, ev, st => (fixR (evE call G N a ev st)).bind fun v st1 => (fixR (evE call G N b ev st1)).bind fun w st2 => .ok (.nx ((ev.set i (some v)).set j (some w))) st2
  | .expr e, ev, st => (evE call G N e ev st).bind fun _ st1 => .ok (.nx ev) st1
  | .ret e, ev, st => (fixR (evE call G N e ev st)).bind fun v st1 => .ok (.rt v) st1
  | .retN, _, st => .ok (.rt .non) st
  | .pass, ev, st => .ok (.nx ev) st
  | .brk, ev, st => .ok (.bk ev) st
  | .cont, ev, st => .ok (.ct ev) st
  | .if_ c a b, ev, st => (truth (evE call G N c ev st)).bind fun r st1 => if r then evS a ev st1 else evS b ev st1
  | .while_ c b, ev, st => whl (fun ev st => truth (evE call G N c ev st)) (fun ev st => evS b ev st) N ev st
  | .for_ t k a b body, ev, st => forM N (iterM k (fun ev st => evE call G N a ev st) (fun ev st => evE call G N b ev st)) (turnM (fun x ev st => evT call G N t x ev st) (fun ev st => evS body ev st)) ev st
end

structure Fn where
  np : Nat
  ns : Nat
  body : CS
def start (n : Nat) (vs : List PV) : Env := vs.map some ++ List.replicate (n - vs.length) none
def run (T : Nat → Option Fn) (G : Nat → Option PV) (N : Nat) : Nat → Nat → List PV → Store → Res PV
  | 0, _, _, _ => .bad
  | d + 1, f, vs, st => match T f with
    | none => .bad
    | some c => if vs.length = c.np then (evS (run T G N d) G N c.body (start c.ns vs) st).bind fun fl st1 => match fl with
      | .nx _ => .ok .non st1
      | .rt v => .ok v st1
      | _ => .bad
      else .bad
end Vm

set_option maxHeartbeats 4000000
/-! Vm2: how the small machine's values and store lie in the abstract heap of the hand layer. -/
namespace Vm
open PySem L2

/-! ### values -/
/-- a list that is read alone: frozen, or the written part's -/
def SqF (K : PySem.W.Frag) (H : Hp) (a : Addr) (xs : List V) : Prop :=
  (∃ o, H a = some (.frz o (.lst xs))) ∨
    ∃ (o : Obj) (its : Array Value) (n : Nat), K.lookup a = some o ∧ o.cls = .type "list" ∧ o.dict = none ∧ o.data = .seq its n ∧ its.size ≤ sizeLine ∧ Vals xs its.toList
theorem SqF.sq {K : PySem.W.Frag} {H : Hp} {a : Addr} {xs : List V} (h : SqF K H a xs) : SqL K H a xs := by
  rcases h with ⟨o, h⟩ | h
  · exact .inl (.inr ⟨o, h⟩)
  · exact .inr h
theorem SqF.of_only {K : PySem.W.Frag} {H : Hp} {a : Addr} {xs : List V} (hO : Only H) (h : SqL K H a xs) : SqF K H a xs := by
  rcases h with (h | h) | h
  · rcases hO a with q | ⟨o, ys, q⟩ <;> (rw [h] at q; cases q)
  · exact .inl h
  · exact .inr h
mutual
inductive Rep (K : PySem.W.Frag) (ρ : List Addr) (H : Hp) : PV → V → Prop
  | non : Rep K ρ H .non .non
  | bl (b : Bool) : Rep K ρ H (.bl b) (.bl b)
  | int (i : Int) : Rep K ρ H (.int i) (.int i)
  | str (l : List Nat) : Rep K ρ H (.str l) (.str ⟨l.toArray⟩)
  | loc {n : Nat} {a : Addr} : ρ[n]? = some a → Rep K ρ H (.loc n) (.ref a)
  | tup {a : Addr} {vs : List V} {xs : List PV} : SqT K H a vs → RepL K ρ H xs vs → Rep K ρ H (.tup xs) (.ref a)
  | fl {a : Addr} {vs : List V} {xs : List PV} : SqF K H a vs → RepL K ρ H xs vs → Rep K ρ H (.fl xs) (.ref a)
inductive RepL (K : PySem.W.Frag) (ρ : List Addr) (H : Hp) : List PV → List V → Prop
  | nil : RepL K ρ H [] []
  | cons {x : PV} {v : V} {xs : List PV} {vs : List V} : Rep K ρ H x v → RepL K ρ H xs vs → RepL K ρ H (x :: xs) (v :: vs)
end

/-- more places, tuples and frozen lists as they stood -/
structure Kp (K : PySem.W.Frag) (ρ : List Addr) (H : Hp) (ρ' : List Addr) (H' : Hp) : Prop where
  pre : ∃ m, ρ' = ρ ++ m
  tups : ∀ a xs, SqT K H a xs → SqT K H' a xs
  frzs : ∀ a xs, SqF K H a xs → SqF K H' a xs
/-- from (ρ, H) to (ρ', H'): more places, tuples as they stood, what stands at no place as it stood, nothing gone -/
structure Grow (K : PySem.W.Frag) (ρ : List Addr) (H : Hp) (ρ' : List Addr) (H' : Hp) : Prop where
  pre : ∃ m, ρ' = ρ ++ m
  tups : ∀ a xs, SqT K H a xs → SqT K H' a xs
  frzs : ∀ a xs, SqF K H a xs → SqF K H' a xs
  outs : ∀ a o, H a = some o → a ∉ ρ → H' a = some o ∧ a ∉ ρ'
  back : ∀ a, H' a = none → H a = none

section
variable {K : PySem.W.Frag} {ρ ρ' ρ'' : List Addr} {H H' H'' : Hp}
theorem Grow.refl : Grow K ρ H ρ H := ⟨⟨[], by simp⟩, fun _ _ h => h, fun _ _ h => h, fun _ _ h n => ⟨h, n⟩, fun _ h => h⟩
theorem Grow.trans (a : Grow K ρ H ρ' H') (b : Grow K ρ' H' ρ'' H'') : Grow K ρ H ρ'' H'' := by
  obtain ⟨m, e⟩ := a.pre
  obtain ⟨m', e'⟩ := b.pre
  refine ⟨⟨m ++ m', by rw [e', e, List.append_assoc]⟩, fun c xs h => b.tups _ _ (a.tups _ _ h), fun c xs h => b.frzs _ _ (a.frzs _ _ h), fun c o h n => ?_, fun c h => a.back _ (b.back _ h)⟩
  obtain ⟨h1, n1⟩ := a.outs c o h n
  exact b.outs c o h1 n1
theorem Grow.kp (g : Grow K ρ H ρ' H') : Kp K ρ H ρ' H' := ⟨g.pre, g.tups, g.frzs⟩
theorem Kp.at_ (g : Kp K ρ H ρ' H') {n : Nat} {a : Addr} (h : ρ[n]? = some a) : ρ'[n]? = some a := by
  obtain ⟨m, e⟩ := g.pre
  obtain ⟨hl, _⟩ := List.getElem?_eq_some_iff.mp h
  rw [e, List.getElem?_append_left hl]
  exact h
mutual
theorem Rep.kp (g : Kp K ρ H ρ' H') : ∀ {x : PV} {v : V}, Rep K ρ H x v → Rep K ρ' H' x v
  | _, _, .non => .non
  | _, _, .bl b => .bl b
  | _, _, .int i => .int i
  | _, _, .str l => .str l
  | _, _, .loc h => .loc (g.at_ h)
  | _, _, .tup h t => .tup (g.tups _ _ h) (RepL.kp g t)
  | _, _, .fl h t => .fl (g.frzs _ _ h) (RepL.kp g t)
theorem RepL.kp (g : Kp K ρ H ρ' H') : ∀ {xs : List PV} {vs : List V}, RepL K ρ H xs vs → RepL K ρ' H' xs vs
  | _, _, .nil => .nil
  | _, _, .cons h t => .cons (Rep.kp g h) (RepL.kp g t)
end
theorem Rep.mono (g : Grow K ρ H ρ' H') {x : PV} {v : V} (h : Rep K ρ H x v) : Rep K ρ' H' x v := h.kp g.kp
theorem RepL.mono (g : Grow K ρ H ρ' H') {xs : List PV} {vs : List V} (h : RepL K ρ H xs vs) : RepL K ρ' H' xs vs := h.kp g.kp
theorem RepL.length : ∀ {xs : List PV} {vs : List V}, RepL K ρ H xs vs → xs.length = vs.length
  | _, _, .nil => rfl
  | _, _, .cons _ t => by simp [RepL.length t]
theorem RepL.get : ∀ {xs : List PV} {vs : List V} {i : Nat} {x : PV}, RepL K ρ H xs vs → xs[i]? = some x → ∃ v, vs[i]? = some v ∧ Rep K ρ H x v
  | _, _, _, _, .nil, e => by simp at e
  | _, _, 0, _, .cons r _, e => by simp at e; subst e; exact ⟨_, rfl, r⟩
  | _, _, i + 1, x, .cons _ t, e => by
    obtain ⟨v, h1, h2⟩ := RepL.get (i := i) (x := x) t (by simpa using e)
    exact ⟨v, by simpa using h1, h2⟩
theorem RepL.get' : ∀ {xs : List PV} {vs : List V} {i : Nat} {v : V}, RepL K ρ H xs vs → vs[i]? = some v → ∃ x, xs[i]? = some x ∧ Rep K ρ H x v
  | _, _, _, _, .nil, e => by simp at e
  | _, _, 0, _, .cons r _, e => by simp at e; subst e; exact ⟨_, rfl, r⟩
  | _, _, i + 1, x, .cons _ t, e => by
    obtain ⟨v, h1, h2⟩ := RepL.get' (i := i) (v := x) t (by simpa using e)
    exact ⟨v, by simpa using h1, h2⟩
theorem RepL.append : ∀ {xs ys : List PV} {vs ws : List V}, RepL K ρ H xs vs → RepL K ρ H ys ws → RepL K ρ H (xs ++ ys) (vs ++ ws)
  | _, _, _, _, .nil, s => s
  | _, _, _, _, .cons r t, s => .cons r (RepL.append t s)
theorem RepL.snoc {xs : List PV} {vs : List V} {x : PV} {v : V} (h : RepL K ρ H xs vs) (r : Rep K ρ H x v) : RepL K ρ H (xs ++ [x]) (vs ++ [v]) := h.append (.cons r .nil)
theorem RepL.reverse : ∀ {xs : List PV} {vs : List V}, RepL K ρ H xs vs → RepL K ρ H xs.reverse vs.reverse
  | _, _, .nil => .nil
  | _, _, .cons r t => by simpa using (RepL.reverse t).append (.cons r .nil)
theorem RepL.dropLast : ∀ {xs : List PV} {vs : List V}, RepL K ρ H xs vs → RepL K ρ H xs.dropLast vs.dropLast
  | _, _, .nil => .nil
  | _, _, .cons _ .nil => .nil
  | _, _, .cons r (.cons r2 t) => .cons r (RepL.dropLast (.cons r2 t))
theorem RepL.take : ∀ {xs : List PV} {vs : List V} (n : Nat), RepL K ρ H xs vs → RepL K ρ H (xs.take n) (vs.take n)
  | _, _, 0, _ => .nil
  | _, _, _ + 1, .nil => .nil
  | _, _, n + 1, .cons r t => .cons r (RepL.take n t)
theorem RepL.drop : ∀ {xs : List PV} {vs : List V} (n : Nat), RepL K ρ H xs vs → RepL K ρ H (xs.drop n) (vs.drop n)
  | _, _, 0, r => r
  | _, _, _ + 1, .nil => .nil
  | _, _, n + 1, .cons _ t => RepL.drop n t
theorem RepL.set {x : PV} {v : V} (r : Rep K ρ H x v) : ∀ {xs : List PV} {vs : List V} (i : Nat), RepL K ρ H xs vs → RepL K ρ H (xs.set i x) (vs.set i v)
  | _, _, _, .nil => .nil
  | _, _, 0, .cons _ t => .cons r t
  | _, _, i + 1, .cons q t => .cons q (RepL.set r i t)
theorem RepL.rep {xs : List PV} {vs : List V} (h : RepL K ρ H xs vs) : ∀ n : Nat, RepL K ρ H (List.replicate n xs).flatten (List.replicate n vs).flatten
  | 0 => .nil
  | n + 1 => by
    rw [List.replicate_succ, List.replicate_succ, List.flatten_cons, List.flatten_cons]
    exact h.append (RepL.rep h n)

/-! ### the frame -/
inductive RepE (K : PySem.W.Frag) (ρ : List Addr) (H : Hp) : Env → L2.St → Prop
  | nil : RepE K ρ H [] []
  | none {ev : Env} {σ : L2.St} {o : Option V} : RepE K ρ H ev σ → RepE K ρ H (none :: ev) (o :: σ)
  | some {x : PV} {v : V} {ev : Env} {σ : L2.St} : Rep K ρ H x v → RepE K ρ H ev σ → RepE K ρ H (some x :: ev) (some v :: σ)
theorem RepE.kp (g : Kp K ρ H ρ' H') : ∀ {ev : Env} {σ : L2.St}, RepE K ρ H ev σ → RepE K ρ' H' ev σ
  | _, _, .nil => .nil
  | _, _, .none t => .none (RepE.kp g t)
  | _, _, .some r t => .some (r.kp g) (RepE.kp g t)
theorem RepE.mono (g : Grow K ρ H ρ' H') {ev : Env} {σ : L2.St} (h : RepE K ρ H ev σ) : RepE K ρ' H' ev σ := h.kp g.kp
theorem RepE.get : ∀ {ev : Env} {σ : L2.St} {i : Nat} {x : PV}, RepE K ρ H ev σ → ev[i]? = Option.some (Option.some x) → ∃ v, σ[i]? = Option.some (Option.some v) ∧ Rep K ρ H x v
  | _, _, _, _, .nil, e => by simp at e
  | _, _, 0, _, .none _, e => by simp at e
  | _, _, 0, _, .some r _, e => by simp at e; subst e; exact ⟨_, rfl, r⟩
  | _, _, i + 1, x, .none t, e => by
    obtain ⟨v, h1, h2⟩ := RepE.get (i := i) (x := x) t (by simpa using e)
    exact ⟨v, by simpa using h1, h2⟩
  | _, _, i + 1, x, .some _ t, e => by
    obtain ⟨v, h1, h2⟩ := RepE.get (i := i) (x := x) t (by simpa using e)
    exact ⟨v, by simpa using h1, h2⟩
theorem RepE.set {x : PV} {v : V} (r : Rep K ρ H x v) : ∀ {ev : Env} {σ : L2.St} (i : Nat), RepE K ρ H ev σ → RepE K ρ H (ev.set i (Option.some x)) (σ.set i (Option.some v))
  | _, _, _, .nil => .nil
  | _, _, 0, .none t => .some r t
  | _, _, 0, .some _ t => .some r t
  | _, _, i + 1, .none t => .none (RepE.set r i t)
  | _, _, i + 1, .some q t => .some q (RepE.set r i t)
theorem RepE.unset {o : Option V} : ∀ {ev : Env} {σ : L2.St} (i : Nat), RepE K ρ H ev σ → RepE K ρ H (ev.set i Option.none) (σ.set i o)
  | _, _, _, .nil => .nil
  | _, _, 0, .none t => .none t
  | _, _, 0, .some _ t => .none t
  | _, _, i + 1, .none t => .none (RepE.unset i t)
  | _, _, i + 1, .some q t => .some q (RepE.unset i t)
theorem RepE.wipe {ev : Env} {σ : L2.St} (h : RepE K ρ H ev σ) : ∀ own : List Nat, RepE K ρ H (wipeE ev own) (L2.wipe σ own)
  | [] => h
  | v :: vs => (RepE.wipe h vs).unset v
theorem RepE.blank : ∀ n : Nat, RepE K ρ H (List.replicate n Option.none) (List.replicate n Option.none)
  | 0 => .nil
  | n + 1 => .none (RepE.blank n)
theorem RepE.start : ∀ {xs : List PV} {vs : List V} (n : Nat), RepL K ρ H xs vs → RepE K ρ H (xs.map Option.some ++ List.replicate n Option.none) (vs.map Option.some ++ List.replicate n Option.none)
  | _, _, n, .nil => RepE.blank n
  | _, _, n, .cons r t => .some r (RepE.start n t)

/-! ### the store -/
def keyV : PV → Option Key
  | .int i => some (.inl i)
  | .str l => some (.inr ⟨l.toArray⟩)
  | _ => none
inductive RepD (K : PySem.W.Frag) (ρ : List Addr) (H : Hp) : List (PV × PV) → List (Key × V) → Prop
  | nil : RepD K ρ H [] []
  | cons {p : PV × PV} {k : Key} {v : V} {ps : List (PV × PV)} {qs : List (Key × V)} : keyV p.1 = some k → Rep K ρ H p.2 v → RepD K ρ H ps qs → RepD K ρ H (p :: ps) ((k, v) :: qs)
theorem RepD.kp (g : Kp K ρ H ρ' H') : ∀ {ps : List (PV × PV)} {qs : List (Key × V)}, RepD K ρ H ps qs → RepD K ρ' H' ps qs
  | _, _, .nil => .nil
  | _, _, .cons e r t => .cons e (r.kp g) (RepD.kp g t)
theorem RepD.mono (g : Grow K ρ H ρ' H') {ps : List (PV × PV)} {qs : List (Key × V)} (h : RepD K ρ H ps qs) : RepD K ρ' H' ps qs := h.kp g.kp
theorem RepD.length : ∀ {ps : List (PV × PV)} {qs : List (Key × V)}, RepD K ρ H ps qs → ps.length = qs.length
  | _, _, .nil => rfl
  | _, _, .cons _ _ t => by simp [RepD.length t]
theorem RepD.append : ∀ {ps qs : List (PV × PV)} {xs ys : List (Key × V)}, RepD K ρ H ps xs → RepD K ρ H qs ys → RepD K ρ H (ps ++ qs) (xs ++ ys)
  | _, _, _, _, .nil, s => s
  | _, _, _, _, .cons e r t, s => .cons e r (RepD.append t s)

def CellOk (K : PySem.W.Frag) (ρ : List Addr) (H : Hp) (a : Addr) : Cell → Prop
  | .lst xs => ∃ vs, H a = some (.lst vs) ∧ RepL K ρ H xs vs
  | .dic false kvs => ∃ qs, H a = some (.dK qs) ∧ RepD K ρ H kvs qs
  | .dic true kvs => ∃ o qs, H a = some (.frz o (.dK qs)) ∧ RepD K ρ H kvs qs
  | .obj _ _ => False
  | .dead => False
structure OkS (K : PySem.W.Frag) (ρ : List Addr) (st : Store) (H : Hp) : Prop where
  len : ρ.length = st.length
  nd : ρ.Nodup
  cell : ∀ (i : Nat) (a : Addr) (c : Cell), ρ[i]? = some a → st[i]? = some c → CellOk K ρ H a c
theorem CellOk.some {a : Addr} {c : Cell} (h : CellOk K ρ H a c) : ∃ o, H a = some o := by
  cases c with
  | lst xs => obtain ⟨vs, e, _⟩ := h; exact ⟨_, e⟩
  | dic lk kvs =>
    cases lk with
    | false => obtain ⟨qs, e, _⟩ := h; exact ⟨_, e⟩
    | true => obtain ⟨o, qs, e, _⟩ := h; exact ⟨_, e⟩
  | obj c fs => exact h.elim
  | dead => exact h.elim
/-- a place's address: what stands there -/
theorem OkS.mem {st : Store} (ok : OkS K ρ st H) {a : Addr} (h : a ∈ ρ) : ∃ (i : Nat) (c : Cell), ρ[i]? = some a ∧ st[i]? = some c ∧ CellOk K ρ H a c := by
  obtain ⟨i, hi⟩ := List.mem_iff_getElem?.mp h
  obtain ⟨hl, _⟩ := List.getElem?_eq_some_iff.mp hi
  have hl' : i < st.length := by rw [← ok.len]; exact hl
  exact ⟨i, st[i], hi, List.getElem?_eq_getElem hl', ok.cell i a _ hi (List.getElem?_eq_getElem hl')⟩
theorem OkS.notfree {st : Store} (ok : OkS K ρ st H) {p : Addr} (h : H p = none) : p ∉ ρ := fun hm => by
  obtain ⟨i, c, _, _, q⟩ := ok.mem hm
  obtain ⟨o, e⟩ := q.some
  rw [h] at e
  cases e
/-- no tuple stands at a place -/
theorem CellOk.notup {a : Addr} {c : Cell} (h : CellOk K ρ H a c) : ∀ xs, ¬ Rd H a (.tup xs) := fun xs r => by
  cases c with
  | lst ys =>
    obtain ⟨vs, e, _⟩ := h
    rcases r with r | ⟨o, r⟩ <;> (rw [e] at r; cases r)
  | dic lk kvs =>
    cases lk with
    | false =>
      obtain ⟨qs, e, _⟩ := h
      rcases r with r | ⟨o, r⟩ <;> (rw [e] at r; cases r)
    | true =>
      obtain ⟨o, qs, e, _⟩ := h
      rcases r with r | ⟨o, r⟩ <;> (rw [e] at r; cases r)
  | obj c fs => exact h.elim
  | dead => exact h.elim
theorem CellOk.nofrz {a : Addr} {c : Cell} (h : CellOk K ρ H a c) : ∀ o xs, H a ≠ Option.some (.frz o (.lst xs)) := fun o' xs r => by
  cases c with
  | lst ys => obtain ⟨vs, e, _⟩ := h; rw [e] at r; cases r
  | dic lk kvs =>
    cases lk with
    | false => obtain ⟨qs, e, _⟩ := h; rw [e] at r; cases r
    | true => obtain ⟨o, qs, e, _⟩ := h; rw [e] at r; cases r
  | obj c fs => exact h.elim
  | dead => exact h.elim

/-! ### steps of the store -/
theorem CellOk.kp (g : Kp K ρ H ρ' H') {a : Addr} {c : Cell} (e : H' a = H a) (h : CellOk K ρ H a c) : CellOk K ρ' H' a c := by
  cases c with
  | lst xs => obtain ⟨vs, q, r⟩ := h; exact ⟨vs, by rw [e]; exact q, r.kp g⟩
  | dic lk kvs =>
    cases lk with
    | false => obtain ⟨qs, q, r⟩ := h; exact ⟨qs, by rw [e]; exact q, r.kp g⟩
    | true => obtain ⟨o, qs, q, r⟩ := h; exact ⟨o, qs, by rw [e]; exact q, r.kp g⟩
  | obj c fs => exact h.elim
  | dead => exact h.elim
theorem CellOk.mono (g : Grow K ρ H ρ' H') {a : Addr} {c : Cell} (e : H' a = H a) (h : CellOk K ρ H a c) : CellOk K ρ' H' a c := h.kp g.kp e
/-- a new object that takes no place -/
theorem Grow.new {st : Store} (ok : OkS K ρ st H) {p : Addr} {o : HO} (h : H p = none) : Grow K ρ H ρ (upd H p o) := by
  refine ⟨⟨[], by simp⟩, fun a xs q => ?_, fun a xs q => ?_, fun a u q n => ⟨?_, n⟩, fun a q => ?_⟩
  · rcases q with (q | ⟨o', q⟩) | q
    · exact .inl (.inl (by rw [upd_ne (ne_of_none q h)]; exact q))
    · exact .inl (.inr ⟨o', by rw [upd_ne (ne_of_none q h)]; exact q⟩)
    · exact .inr q
  · rcases q with ⟨o', q⟩ | q
    · exact .inl ⟨o', by rw [upd_ne (ne_of_none q h)]; exact q⟩
    · exact .inr q
  · rw [upd_ne (ne_of_none q h)]; exact q
  · by_cases e : a = p
    · rw [e]; exact h
    · rw [upd_ne e] at q; exact q
theorem OkS.grow {st : Store} (ok : OkS K ρ st H) (g : Grow K ρ H ρ H') (e : ∀ a ∈ ρ, H' a = H a) : OkS K ρ st H' :=
  ⟨ok.len, ok.nd, fun i a c h1 h2 => (ok.cell i a c h1 h2).mono g (e a (List.mem_iff_getElem?.mpr ⟨i, h1⟩))⟩
theorem OkS.new {st : Store} (ok : OkS K ρ st H) {p : Addr} {o : HO} (h : H p = none) : OkS K ρ st (upd H p o) :=
  ok.grow (Grow.new ok h) fun a ha => upd_ne fun z => ok.notfree h (z ▸ ha)
/-- what stands at no place takes the next place -/
theorem Grow.place {st : Store} {p : Addr} {H0 : Hp} (g : Grow K ρ H0 ρ' H) (h0 : H0 p = none) : Grow K ρ H0 (ρ' ++ [p]) H := by
  obtain ⟨m, e⟩ := g.pre
  refine ⟨⟨m ++ [p], by rw [e, List.append_assoc]⟩, g.tups, g.frzs, fun a o q n => ?_, g.back⟩
  obtain ⟨q1, n1⟩ := g.outs a o q n
  refine ⟨q1, fun z => ?_⟩
  rcases List.mem_append.mp z with z | z
  · exact n1 z
  · rw [List.mem_singleton.mp z, h0] at q
    cases q
theorem Grow.wide (m : List Addr) : (∀ a o, H a = some o → a ∉ ρ → a ∉ m) → Grow K ρ H (ρ ++ m) H := fun h =>
  ⟨⟨m, rfl⟩, fun _ _ q => q, fun _ _ q => q, fun a o q n => ⟨q, fun z => (List.mem_append.mp z).elim n (h a o q n)⟩, fun _ q => q⟩
mutual
theorem Rep.wide (m : List Addr) : ∀ {x : PV} {v : V}, Rep K ρ H x v → Rep K (ρ ++ m) H x v
  | _, _, .non => .non
  | _, _, .bl b => .bl b
  | _, _, .int i => .int i
  | _, _, .str l => .str l
  | _, _, .loc h => .loc (by
    obtain ⟨hl, _⟩ := List.getElem?_eq_some_iff.mp h
    rw [List.getElem?_append_left hl]
    exact h)
  | _, _, .tup h t => .tup h (RepL.wide m t)
  | _, _, .fl h t => .fl h (RepL.wide m t)
theorem RepL.wide (m : List Addr) : ∀ {xs : List PV} {vs : List V}, RepL K ρ H xs vs → RepL K (ρ ++ m) H xs vs
  | _, _, .nil => .nil
  | _, _, .cons h t => .cons (Rep.wide m h) (RepL.wide m t)
end
theorem RepD.wide (m : List Addr) : ∀ {ps : List (PV × PV)} {qs : List (Key × V)}, RepD K ρ H ps qs → RepD K (ρ ++ m) H ps qs
  | _, _, .nil => .nil
  | _, _, .cons e r t => .cons e (r.wide m) (RepD.wide m t)
theorem CellOk.wide (m : List Addr) {a : Addr} {c : Cell} (h : CellOk K ρ H a c) : CellOk K (ρ ++ m) H a c := by
  cases c with
  | lst xs => obtain ⟨vs, q, r⟩ := h; exact ⟨vs, q, r.wide m⟩
  | dic lk kvs =>
    cases lk with
    | false => obtain ⟨qs, q, r⟩ := h; exact ⟨qs, q, r.wide m⟩
    | true => obtain ⟨o, qs, q, r⟩ := h; exact ⟨o, qs, q, r.wide m⟩
  | obj c fs => exact h.elim
  | dead => exact h.elim
theorem OkS.place {st : Store} (ok : OkS K ρ st H) {p : Addr} (hp : p ∉ ρ) {c : Cell} (h : CellOk K ρ H p c) : OkS K (ρ ++ [p]) (st ++ [c]) H := by
  refine ⟨by simp [ok.len], ?_, fun i a d h1 h2 => ?_⟩
  · rw [List.nodup_append]
    refine ⟨ok.nd, by simp, fun x hx y hy => ?_⟩
    rw [List.mem_singleton.mp hy]
    intro z
    exact hp (z ▸ hx)
  · by_cases hi : i < ρ.length
    · rw [List.getElem?_append_left hi] at h1
      rw [List.getElem?_append_left (by rw [← ok.len]; exact hi)] at h2
      exact (ok.cell i a d h1 h2).wide [p]
    · have e : i = ρ.length := by
        have := (List.getElem?_eq_some_iff.mp h1).1
        simp at this
        omega
      subst e
      rw [List.getElem?_append_right (Nat.le_refl _)] at h1
      rw [ok.len, List.getElem?_append_right (Nat.le_refl _)] at h2
      simp at h1 h2
      subst h1
      subst h2
      exact h.wide [p]
theorem nodup_inj : ∀ {l : List Addr}, l.Nodup → ∀ {i j : Nat} {a : Addr}, l[i]? = some a → l[j]? = some a → i = j
  | [], _, i, _, _, h, _ => by simp at h
  | x :: l, nd, 0, 0, _, _, _ => rfl
  | x :: l, nd, 0, j + 1, a, h, h' => by
    simp at h h'
    subst h
    exact absurd (List.mem_iff_getElem?.mpr ⟨j, h'⟩) (List.nodup_cons.mp nd).1
  | x :: l, nd, i + 1, 0, a, h, h' => by
    simp at h h'
    subst h'
    exact absurd (List.mem_iff_getElem?.mpr ⟨i, h⟩) (List.nodup_cons.mp nd).1
  | x :: l, nd, i + 1, j + 1, a, h, h' => by
    simp at h h'
    rw [nodup_inj (List.nodup_cons.mp nd).2 h h']
/-- a place's content is changed (no tuple, no frozen list stands at a place) -/
theorem Grow.write {st : Store} (ok : OkS K ρ st H) {n : Nat} {a : Addr} {o : HO} (h : ρ[n]? = some a) : Grow K ρ H ρ (upd H a o) := by
  obtain ⟨i, c, _, _, q⟩ := ok.mem (List.mem_iff_getElem?.mpr ⟨n, h⟩)
  refine ⟨⟨[], by simp⟩, fun b xs r => ?_, fun b xs r => ?_, fun b u r m => ⟨?_, m⟩, fun b r => ?_⟩
  · rcases r with r | r
    · refine .inl ?_
      have hb : b ≠ a := fun z => q.notup xs (z ▸ r)
      rcases r with r | ⟨o', r⟩
      · exact .inl (by rw [upd_ne hb]; exact r)
      · exact .inr ⟨o', by rw [upd_ne hb]; exact r⟩
    · exact .inr r
  · rcases r with ⟨o', r⟩ | r
    · have hb : b ≠ a := fun z => q.nofrz o' xs (z ▸ r)
      exact .inl ⟨o', by rw [upd_ne hb]; exact r⟩
    · exact .inr r
  · rw [upd_ne (fun z : b = a => m (by rw [z]; exact List.mem_iff_getElem?.mpr ⟨n, h⟩))]
    exact r
  · by_cases e : b = a
    · subst e
      rw [upd_same] at r
      cases r
    · rw [upd_ne e] at r
      exact r
theorem OkS.write {st : Store} (ok : OkS K ρ st H) {n : Nat} {a : Addr} {o : HO} {c : Cell} (h : ρ[n]? = some a) (hc : CellOk K ρ (upd H a o) a c) : OkS K ρ (st.set n c) (upd H a o) := by
  refine ⟨by rw [List.length_set]; exact ok.len, ok.nd, fun i b d h1 h2 => ?_⟩
  by_cases e : n = i
  · subst e
    rw [h] at h1
    cases h1
    have hl : n < st.length := by rw [← ok.len]; exact (List.getElem?_eq_some_iff.mp h).1
    rw [List.getElem?_set_self hl] at h2
    cases h2
    exact hc
  · rw [List.getElem?_set_ne e] at h2
    have hb : b ≠ a := fun z => by
      subst z
      exact e (nodup_inj ok.nd h h1)
    exact (ok.cell i b d h1 h2).mono (Grow.write ok h) (upd_ne hb)

/-- a list that takes no place is changed: from before it was made -/
theorem Grow.off {D : Addr} {vs : List V} {o : HO} {ρ0 : List Addr} {H0 : Hp} (g : Grow K ρ0 H0 ρ H) (h0 : H0 D = none) (hD : H D = some (.lst vs)) : Grow K ρ0 H0 ρ (upd H D o) := by
  refine ⟨g.pre, fun a xs q => ?_, fun a xs q => ?_, fun a u q n => ?_, fun a q => ?_⟩
  · rcases g.tups a xs q with r | r
    · have ha : a ≠ D := fun z => by
        rw [z] at r
        rcases r with r | ⟨o', r⟩ <;> (rw [hD] at r; cases r)
      refine .inl ?_
      rcases r with r | ⟨o', r⟩
      · exact .inl (by rw [upd_ne ha]; exact r)
      · exact .inr ⟨o', by rw [upd_ne ha]; exact r⟩
    · exact .inr r
  · rcases g.frzs a xs q with ⟨o', r⟩ | r
    · have ha : a ≠ D := fun z => by
        rw [z, hD] at r
        cases r
      exact .inl ⟨o', by rw [upd_ne ha]; exact r⟩
    · exact .inr r
  · obtain ⟨q1, n1⟩ := g.outs a u q n
    refine ⟨?_, n1⟩
    rw [upd_ne (ne_of_none q h0)]
    exact q1
  · by_cases e : a = D
    · rw [e]
      exact h0
    · rw [upd_ne e] at q
      exact g.back a q
theorem Kp.off {D : Addr} {vs : List V} {o : HO} (hD : H D = some (.lst vs)) : Kp K ρ H ρ (upd H D o) := by
  refine ⟨⟨[], by simp⟩, fun a xs q => ?_, fun a xs q => ?_⟩
  · rcases q with r | r
    · have ha : a ≠ D := fun z => by
        rw [z] at r
        rcases r with r | ⟨o', r⟩ <;> (rw [hD] at r; cases r)
      refine .inl ?_
      rcases r with r | ⟨o', r⟩
      · exact .inl (by rw [upd_ne ha]; exact r)
      · exact .inr ⟨o', by rw [upd_ne ha]; exact r⟩
    · exact .inr r
  · rcases q with ⟨o', r⟩ | r
    · have ha : a ≠ D := fun z => by
        rw [z, hD] at r
        cases r
      exact .inl ⟨o', by rw [upd_ne ha]; exact r⟩
    · exact .inr r
theorem OkS.off {st : Store} (ok : OkS K ρ st H) {D : Addr} {vs : List V} {o : HO} (hD : H D = some (.lst vs)) (hn : D ∉ ρ) : OkS K ρ st (upd H D o) :=
  ⟨ok.len, ok.nd, fun i a c h1 h2 => (ok.cell i a c h1 h2).kp (Kp.off hD) (upd_ne fun z => hn (z ▸ List.mem_iff_getElem?.mpr ⟨i, h1⟩))⟩

/-! ### results -/
/-- a value, a temporary list among them -/
def RepX (K : PySem.W.Frag) (ρ : List Addr) (H : Hp) (x : PV) (v : V) : Prop := match x with
  | .tl xs => ∃ a vs, v = .ref a ∧ H a = some (.lst vs) ∧ a ∉ ρ ∧ RepL K ρ H xs vs
  | x => Rep K ρ H x v
/-- .. that is new since H0 -/
def RepR (K : PySem.W.Frag) (H0 : Hp) (ρ : List Addr) (H : Hp) (x : PV) (v : V) : Prop := RepX K ρ H x v ∧ ∀ xs, x = .tl xs → ∃ a, v = .ref a ∧ H0 a = none
theorem Rep.x {x : PV} {v : V} (h : Rep K ρ H x v) : RepX K ρ H x v := by
  cases h with
  | non => exact .non
  | bl b => exact .bl b
  | int i => exact .int i
  | str l => exact .str l
  | loc h => exact .loc h
  | tup h t => exact .tup h t
  | fl h t => exact .fl h t
theorem Rep.r {H0 : Hp} {x : PV} {v : V} (h : Rep K ρ H x v) : RepR K H0 ρ H x v := ⟨h.x, fun xs e => by subst e; cases h⟩
theorem RepX.mono (g : Grow K ρ H ρ' H') {x : PV} {v : V} (h : RepX K ρ H x v) : RepX K ρ' H' x v := by
  cases x with
  | tl xs =>
    obtain ⟨a, vs, e, q, n, r⟩ := h
    obtain ⟨q', n'⟩ := g.outs a _ q n
    exact ⟨a, vs, e, q', n', r.mono g⟩
  | non => exact Rep.mono g h
  | bl b => exact Rep.mono g h
  | int i => exact Rep.mono g h
  | str l => exact Rep.mono g h
  | loc n => exact Rep.mono g h
  | tup xs => exact Rep.mono g h
  | fl xs => exact Rep.mono g h
theorem RepR.mono {H0 : Hp} (g : Grow K ρ H ρ' H') {x : PV} {v : V} (h : RepR K H0 ρ H x v) : RepR K H0 ρ' H' x v := ⟨h.1.mono g, h.2⟩
theorem RepR.back {H0 H1 : Hp} (g : ∀ a, H1 a = none → H0 a = none) {x : PV} {v : V} (h : RepR K H1 ρ H x v) : RepR K H0 ρ H x v :=
  ⟨h.1, fun xs e => by obtain ⟨a, e1, e2⟩ := h.2 xs e; exact ⟨a, e1, g a e2⟩⟩
end
end Vm

set_option maxHeartbeats 4000000
/-! Vm3: the weakest readings, and what it is for an expression to be simulated. -/
namespace Vm
open PySem L2

/-! ### the weakest readings -/
section
variable (X : Cx)
def wE (e : Expr) : TE := fun σ H Q => ∀ pins s, Inv X pins σ H s → wpAny (model X.prog X.w) X.A (eval e X.env) (EP X pins σ Q) X.xe s
def wT (e : Expr) : TT := fun σ H Q => ∀ pins s, Inv X pins σ H s → wpAny (model X.prog X.w) X.A (isTrue e X.env (eval e X.env)) (TP X pins σ Q) X.xe s
def wW (e : Expr) : TT := fun σ H Q => ∀ (whole : Sem Value) pins s, Inv X pins σ H s → wpAny (model X.prog X.w) X.A (isTrue e X.env whole) (TP X pins σ Q) X.xe s
def wA (es : List Expr) : TA := fun σ H Q => ∀ (pos : Pos) pins s, Inv X pins σ H s → wpAny (model X.prog X.w) X.A (spliced (backTo pos (starEach es X.env))) (AP X pins σ Q) X.xe s
def wS (st : Stmt) : TS := fun D σ H => ∀ pins s, Inv X pins σ H s → wpAny (model X.prog X.w) X.A (exec st X.env) (SP X pins D) X.xe s
def wSs (st : List Stmt) : TS := fun D σ H => ∀ pins s, Inv X pins σ H s → wpAny (model X.prog X.w) X.A (execs st X.env) (SP X pins D) X.xe s
def wO (f : Value → Value → Sem Value) : R2 := fun x y H Q => ∀ pins s σ v u, Inv X pins σ H s → RelV x v → RelV y u → wpAny (model X.prog X.w) X.A (f v u) (EP X pins σ Q) X.xe s
def wC (f : Value) : List V → Hp → VK → Prop := fun xs H Q => ∀ pins s σ us, Inv X pins σ H s → Vals xs us → wpAny (model X.prog X.w) X.A (call f us) (EP X pins σ Q) X.xe s
end
section
variable {X : Cx}
theorem pe_w {e : Expr} : PE X e (wE X e) := ⟨fun pins s σ H Q I h => h pins s I⟩
theorem pt_w {e : Expr} : PT X e (wT X e) := ⟨fun pins s σ H Q I h => h pins s I⟩
theorem pw_w {e : Expr} : PW X e (wW X e) := ⟨fun wh pins s σ H Q I h => h wh pins s I⟩
theorem pa_w {es : List Expr} : PA X es (wA X es) := ⟨fun pos pins s σ H Q I h => h pos pins s I⟩
theorem ps_w {st : Stmt} : PS X st (wS X st) := ⟨fun pins s σ H D I h => h pins s I⟩
theorem pss_w {st : List Stmt} : PSs X st (wSs X st) := ⟨fun pins s σ H D I h => h pins s I⟩
theorem or_w {f : Value → Value → Sem Value} : OpR X f (wO X f) := fun pins s σ H x y v u Q I rx ry h => h pins s σ v u I rx ry
theorem cr_w {f : Value} : CallR X f (wC X f) := fun pins s σ H xs us Q I r h => h pins s σ us I r
theorem wE_of {e : Expr} {t : TE} (h : PE X e t) {σ : L2.St} {H : Hp} {Q : VK} (q : t σ H Q) : wE X e σ H Q := fun pins s I => h.run pins s σ H Q I q
theorem wT_of {e : Expr} {t : TT} (h : PT X e t) {σ : L2.St} {H : Hp} {Q : Bool → Hp → Prop} (q : t σ H Q) : wT X e σ H Q := fun pins s I => h.run pins s σ H Q I q
theorem wW_of {e : Expr} {t : TT} (h : PW X e t) {σ : L2.St} {H : Hp} {Q : Bool → Hp → Prop} (q : t σ H Q) : wW X e σ H Q := fun wh pins s I => h.run wh pins s σ H Q I q
theorem wA_of {es : List Expr} {t : TA} (h : PA X es t) {σ : L2.St} {H : Hp} {Q : List V → Hp → Prop} (q : t σ H Q) : wA X es σ H Q := fun pos pins s I => h.run pos pins s σ H Q I q
theorem wS_of {st : Stmt} {t : TS} (h : PS X st t) {σ : L2.St} {H : Hp} {D : Ends} (q : t D σ H) : wS X st D σ H := fun pins s I => h.run pins s σ H D I q
theorem wSs_of {st : List Stmt} {t : TS} (h : PSs X st t) {σ : L2.St} {H : Hp} {D : Ends} (q : t D σ H) : wSs X st D σ H := fun pins s I => h.run pins s σ H D I q
theorem wO_of {f : Value → Value → Sem Value} {r : R2} (h : OpR X f r) {x y : V} {H : Hp} {Q : VK} (q : r x y H Q) : wO X f x y H Q := fun pins s σ v u I rx ry => h pins s σ H x y v u Q I rx ry q
theorem wC_of {f : Value} {r : List V → Hp → VK → Prop} (h : CallR X f r) {xs : List V} {H : Hp} {Q : VK} (q : r xs H Q) : wC X f xs H Q := fun pins s σ us I rx => h pins s σ H xs us Q I rx q
end

/-! ### the tables: classes of errors by number -/
/-- classes: the k-th own class stands at cl k; fields: the k-th name is fn k -/
structure Tb where
  cl : Nat → Addr
  fn : Nat → Str
/-- an exception's fields: none, or its own dict -/
inductive RepFs (T : Tb) (K : PySem.W.Frag) (ρ : List Addr) (H : Hp) : List (Nat × PV) → List (Str × V) → Prop
  | nil : RepFs T K ρ H [] []
  | cons {f : Nat} {x : PV} {v : V} {fs : List (Nat × PV)} {gs : List (Str × V)} : Rep K ρ H x v → RepFs T K ρ H fs gs → RepFs T K ρ H ((f, x) :: fs) ((T.fn f, v) :: gs)
theorem RepFs.mono {T : Tb} {K : PySem.W.Frag} {ρ ρ' : List Addr} {H H' : Hp} (g : Grow K ρ H ρ' H') : ∀ {fs : List (Nat × PV)} {gs : List (Str × V)}, RepFs T K ρ H fs gs → RepFs T K ρ' H' fs gs
  | _, _, .nil => .nil
  | _, _, .cons r t => .cons (r.mono g) (RepFs.mono g t)
def RepXd (T : Tb) (K : PySem.W.Frag) (H0 : Hp) (ρ : List Addr) (H : Hp) (fs : List (Nat × PV)) : Option Addr → Prop
  | none => fs = []
  | some d => ∃ gs, H d = some (.xd gs) ∧ RepFs T K ρ H fs gs ∧ d ∉ ρ ∧ H0 d = none

def Aft {α : Type} (r : Res α) (P : α → Store → Prop) (E : Nat → List (Nat × PV) → Store → Prop) : Prop := match r with
  | .ok a st => P a st
  | .exc c fs st => E c fs st
  | .bad => False
theorem Aft.imp {α : Type} {r : Res α} {P P' : α → Store → Prop} {E E' : Nat → List (Nat × PV) → Store → Prop} (h : Aft r P E) (hP : ∀ a st, P a st → P' a st) (hE : ∀ c fs st, E c fs st → E' c fs st) : Aft r P' E' := by
  cases r with
  | ok a st => exact hP _ _ h
  | exc c fs st => exact hE _ _ _ h
  | bad => exact h
theorem Aft.bind {α β : Type} {r : Res α} {f : α → Store → Res β} {P : β → Store → Prop} {E : Nat → List (Nat × PV) → Store → Prop} (h : Aft (r.bind f) P E) : Aft r (fun a st => Aft (f a st) P E) E := by
  cases r with
  | ok a st => exact h
  | exc c fs st => exact h
  | bad => exact h
theorem Aft.guard {α : Type} {c : Bool} {r : Res α} {P : α → Store → Prop} {E : Nat → List (Nat × PV) → Store → Prop} (h : Aft (guardR c r) P E) : c = true ∧ Aft r P E := by
  unfold guardR at h
  cases c with
  | true => exact ⟨rfl, h⟩
  | false => exact h.elim
theorem Aft.of {α : Type} {o : Option α} {st : Store} {P : α → Store → Prop} {E : Nat → List (Nat × PV) → Store → Prop} (h : Aft (Res.of o st) P E) : ∃ a, o = some a ∧ P a st := by
  cases o with
  | some a => exact ⟨a, rfl, h⟩
  | none => exact h.elim

section
variable (T : Tb) (X : Cx) (W : WX)
/-- what is wanted behind: of a value; of an exception -/
def WantV (ρ : List Addr) (H : Hp) (Q : VK) : PV → Store → Prop := fun x st' => ∀ ρ' H' v, Grow X.K ρ H ρ' H' → OkS X.K ρ' st' H' → RepR X.K H ρ' H' x v → Q v H'
def WantX (ρ : List Addr) (H : Hp) (σ : L2.St) : Nat → List (Nat × PV) → Store → Prop := fun c fs st' => ∀ ρ' H' d, Grow X.K ρ H ρ' H' → OkS X.K ρ' st' H' → RepXd T X.K H ρ' H' fs d → W (.ref (T.cl c)) d σ H'
def WantB (ρ : List Addr) (H : Hp) (Q : Bool → Hp → Prop) : Bool → Store → Prop := fun b st' => ∀ ρ' H', Grow X.K ρ H ρ' H' → OkS X.K ρ' st' H' → Q b H'
def WantL (ρ : List Addr) (H : Hp) (Q : List V → Hp → Prop) : PV → Store → Prop := fun x st' => ∀ ρ' H' vs, Grow X.K ρ H ρ' H' → OkS X.K ρ' st' H' → RepL X.K ρ' H' (tupOf x) vs → Q vs H'

def SimE (e : Expr) (m : Env → Store → Res PV) : Prop := ∀ ρ st H σ ev Q, OkS X.K ρ st H → RepE X.K ρ H ev σ → Aft (m ev st) (WantV X ρ H Q) (WantX T X W ρ H σ) → wE X e σ H Q
def SimT (e : Expr) (m : Env → Store → Res Bool) : Prop := ∀ ρ st H σ ev Q, OkS X.K ρ st H → RepE X.K ρ H ev σ → Aft (m ev st) (WantB X ρ H Q) (WantX T X W ρ H σ) → wT X e σ H Q
def SimW (e : Expr) (m : Env → Store → Res Bool) : Prop := ∀ ρ st H σ ev Q, OkS X.K ρ st H → RepE X.K ρ H ev σ → Aft (m ev st) (WantB X ρ H Q) (WantX T X W ρ H σ) → wW X e σ H Q
def SimA (es : List Expr) (m : Env → Store → Res PV) : Prop := ∀ ρ st H σ ev Q, OkS X.K ρ st H → RepE X.K ρ H ev σ → Aft (m ev st) (WantL X ρ H Q) (WantX T X W ρ H σ) → wA X es σ H Q
/-- operations by values raise nothing -/
def SimO (f : Value → Value → Sem Value) (g : PV → PV → Store → Option PV) : Prop := ∀ ρ st H x y vx vy Q z, OkS X.K ρ st H → RepX X.K ρ H x vx → RepX X.K ρ H y vy → g x y st = some z → WantV X ρ H Q z st → wO X f vx vy H Q
/-- a built-in function of one argument, of two -/
def SimC1 (f : Value) (g : PV → Store → Option PV) : Prop := ∀ ρ st H x v Q z, OkS X.K ρ st H → RepX X.K ρ H x v → g x st = some z → WantV X ρ H Q z st → wC X f [v] H Q
def SimC2 (f : Value) (g : PV → PV → Option PV) : Prop := ∀ ρ st H x y v w Q z, OkS X.K ρ st H → RepX X.K ρ H x v → RepX X.K ρ H y w → g x y = some z → WantV X ρ H Q z st → wC X f [v, w] H Q
end

section
variable {T : Tb} {X : Cx} {W : WX}
theorem WantV.from {ρ ρ1 : List Addr} {H H1 : Hp} {Q : VK} {x : PV} {st : Store} (g : Grow X.K ρ H ρ1 H1) (h : WantV X ρ H Q x st) : WantV X ρ1 H1 Q x st := fun ρ' H' v g' ok r => h ρ' H' v (g.trans g') ok (r.back g.back)
theorem WantB.from {ρ ρ1 : List Addr} {H H1 : Hp} {Q : Bool → Hp → Prop} {x : Bool} {st : Store} (g : Grow X.K ρ H ρ1 H1) (h : WantB X ρ H Q x st) : WantB X ρ1 H1 Q x st := fun ρ' H' g' ok => h ρ' H' (g.trans g') ok
theorem WantL.from {ρ ρ1 : List Addr} {H H1 : Hp} {Q : List V → Hp → Prop} {x : PV} {st : Store} (g : Grow X.K ρ H ρ1 H1) (h : WantL X ρ H Q x st) : WantL X ρ1 H1 Q x st := fun ρ' H' vs g' ok r => h ρ' H' vs (g.trans g') ok r
theorem WantX.from {ρ ρ1 : List Addr} {H H1 : Hp} {σ : L2.St} {c : Nat} {fs : List (Nat × PV)} {st : Store} (g : Grow X.K ρ H ρ1 H1) (h : WantX T X W ρ H σ c fs st) : WantX T X W ρ1 H1 σ c fs st := fun ρ' H' d g' ok r =>
  h ρ' H' d (g.trans g') ok (by
    cases d with
    | none => exact r
    | some d => obtain ⟨gs, h1, h2, h3, h4⟩ := r; exact ⟨gs, h1, h2, h3, g.back _ h4⟩)
theorem aftV {ρ ρ1 : List Addr} {H H1 : Hp} {Q : VK} {σ : L2.St} {r : Res PV} (g : Grow X.K ρ H ρ1 H1) (h : Aft r (WantV X ρ H Q) (WantX T X W ρ H σ)) : Aft r (WantV X ρ1 H1 Q) (WantX T X W ρ1 H1 σ) :=
  h.imp (fun _ _ => WantV.from g) fun _ _ _ => WantX.from g
theorem aftB {ρ ρ1 : List Addr} {H H1 : Hp} {Q : Bool → Hp → Prop} {σ : L2.St} {r : Res Bool} (g : Grow X.K ρ H ρ1 H1) (h : Aft r (WantB X ρ H Q) (WantX T X W ρ H σ)) : Aft r (WantB X ρ1 H1 Q) (WantX T X W ρ1 H1 σ) :=
  h.imp (fun _ _ => WantB.from g) fun _ _ _ => WantX.from g
theorem aftL {ρ ρ1 : List Addr} {H H1 : Hp} {Q : List V → Hp → Prop} {σ : L2.St} {r : Res PV} (g : Grow X.K ρ H ρ1 H1) (h : Aft r (WantL X ρ H Q) (WantX T X W ρ H σ)) : Aft r (WantL X ρ1 H1 Q) (WantX T X W ρ1 H1 σ) :=
  h.imp (fun _ _ => WantL.from g) fun _ _ _ => WantX.from g
/-! ### a temporary list finds its place -/
theorem fix_ok {ρ0 ρ : List Addr} {H0 H : Hp} {st : Store} {x : PV} {v : V} (g : Grow X.K ρ0 H0 ρ H) (ok : OkS X.K ρ st H) (r : RepR X.K H0 ρ H x v) :
    ∃ ρ', Grow X.K ρ0 H0 ρ' H ∧ OkS X.K ρ' (fixv x st).2 H ∧ Rep X.K ρ' H (fixv x st).1 v := by
  cases x with
  | tl xs =>
    obtain ⟨⟨a, vs, rfl, ha, hn, hr⟩, hf⟩ := r
    obtain ⟨a', e, h0⟩ := hf xs rfl
    cases e
    refine ⟨ρ ++ [a], g.place (st := st) h0, ok.place (c := .lst xs) hn ⟨vs, ha, hr⟩, .loc ?_⟩
    rw [← ok.len, List.getElem?_append_right (Nat.le_refl _), Nat.sub_self]
    rfl
  | non => exact ⟨ρ, g, ok, r.1⟩
  | bl b => exact ⟨ρ, g, ok, r.1⟩
  | int i => exact ⟨ρ, g, ok, r.1⟩
  | str l => exact ⟨ρ, g, ok, r.1⟩
  | loc n => exact ⟨ρ, g, ok, r.1⟩
  | tup xs => exact ⟨ρ, g, ok, r.1⟩
  | fl xs => exact ⟨ρ, g, ok, r.1⟩
/-- a value that is placed at once -/
def WantF (X : Cx) (ρ : List Addr) (H : Hp) (Q : VK) : PV → Store → Prop := fun x st' => ∀ ρ' H' v, Grow X.K ρ H ρ' H' → OkS X.K ρ' st' H' → Rep X.K ρ' H' x v → Q v H'
theorem aft_fix {ρ : List Addr} {H : Hp} {Q : VK} {E : Nat → List (Nat × PV) → Store → Prop} {r : Res PV} (h : Aft (fixR r) (WantF X ρ H Q) E) : Aft r (WantV X ρ H Q) E := by
  cases r with
  | ok x st =>
    intro ρ' H' v g ok rr
    obtain ⟨ρ2, g2, ok2, r2⟩ := fix_ok g ok rr
    exact h ρ2 H' v g2 ok2 r2
  | exc c fs st => exact h
  | bad => exact h
theorem aft_fixB {β : Type} {ρ : List Addr} {H : Hp} {Q : VK} {P : β → Store → Prop} {E : Nat → List (Nat × PV) → Store → Prop} {r : Res PV} {f : PV → Store → Res β} (h : Aft ((fixR r).bind f) P E)
    (k : ∀ x st, Aft (f x st) P E → WantF X ρ H Q x st) : Aft r (WantV X ρ H Q) E := by
  refine aft_fix ?_
  exact (Aft.bind h).imp k fun _ _ _ z => z

/-! ### expressions -/
section
variable {e a b c : Expr} {es : List Expr} {m ma mb mc : Env → Store → Res PV} {pos : Pos}
theorem sim_lit {x : PV} {v : V} (hr : ∀ ρ H, Rep X.K ρ H x v) (h : PE X e (tC v)) : SimE T X W e (fun _ st => .ok x st) := fun ρ st H σ ev Q ok re q => wE_of h (q ρ H v .refl ok (hr ρ H).r)
theorem sim_var {i : Nat} (h : PE X e (tVar i)) : SimE T X W e (fun ev st => match ev[i]? with
    | some (some v) => .ok v st
    | _ => .bad) := fun ρ st H σ ev Q ok re q => by
  dsimp only at q
  cases hx : ev[i]? with
  | none => rw [hx] at q; exact q.elim
  | some o =>
    cases o with
    | none => rw [hx] at q; exact q.elim
    | some x =>
      rw [hx] at q
      obtain ⟨v, h1, h2⟩ := re.get hx
      exact wE_of h ⟨v, h1, q ρ H v .refl ok h2.r⟩
theorem sim_nil : SimA T X W [] (fun _ st => .ok (.tup []) st) := fun ρ st H σ ev Q ok re q => wA_of pa_nil (q ρ H [] .refl ok .nil)
theorem sim_cons (hs : starEach (e :: es) X.env = (false, eval e X.env) :: starEach es X.env) (ha : SimE T X W e ma) (hb : SimA T X W es mb) :
    SimA T X W (e :: es) (fun ev st => (fixR (ma ev st)).bind fun x st1 => (mb ev st1).bind fun xs st2 => .ok (.tup (x :: tupOf xs)) st2) := fun ρ st H σ ev Q ok re q => by
  refine wA_of (pa_cons pe_w pa_w hs) ?_
  refine ha ρ st H σ ev _ ok re (aft_fixB (X := X) q fun x st1 q1 ρ1 H1 v g1 ok1 r1 => ?_)
  refine hb ρ1 st1 H1 σ ev _ ok1 (re.mono g1) ((Aft.bind q1).imp (fun xs st2 q2 ρ2 H2 vs g2 ok2 r2 => ?_) fun _ _ _ => WantX.from g1)
  exact q2 ρ2 H2 (v :: vs) (g1.trans g2) ok2 (.cons (r1.mono g2) r2)
theorem sim_tup {k : Nat} (h : SimA T X W es m) : SimE T X W (.Tuple es k pos) (fun ev st => (m ev st).bind fun v st1 => guardR (decide ((tupOf v).length ≤ SZ)) (.ok (.tup (tupOf v)) st1)) := fun ρ st H σ ev Q ok re q => by
  refine wE_of (pe_tup pa_w) ?_
  refine h ρ st H σ ev _ ok re ((Aft.bind q).imp (fun x st1 q1 ρ1 H1 vs g1 ok1 r1 => ?_) fun _ _ _ z => z)
  obtain ⟨hz, q1⟩ := q1.guard
  refine ⟨by rw [← r1.length]; exact Nat.le_trans (of_decide_eq_true hz) (by decide), fun p hp => ?_⟩
  have g2 := Grow.new (K := X.K) (o := HO.tup vs) ok1 hp
  refine q1 ρ1 _ _ (g1.trans g2) (ok1.new hp) (Rep.r (.tup (.inl (.inl upd_same)) (r1.mono g2)))
theorem sim_lst (h : SimA T X W es m) : SimE T X W (.List es pos) (fun ev st => (m ev st).bind fun v st1 => guardR (decide ((tupOf v).length ≤ SZ)) (.ok (.tl (tupOf v)) st1)) := fun ρ st H σ ev Q ok re q => by
  refine wE_of (pe_lst pa_w) ?_
  refine h ρ st H σ ev _ ok re ((Aft.bind q).imp (fun x st1 q1 ρ1 H1 vs g1 ok1 r1 => ?_) fun _ _ _ z => z)
  obtain ⟨hz, q1⟩ := q1.guard
  refine ⟨by rw [← r1.length]; exact Nat.le_trans (of_decide_eq_true hz) (by decide), fun p hp => ?_⟩
  have g2 := Grow.new (K := X.K) (o := HO.lst vs) ok1 hp
  exact q1 ρ1 _ _ (g1.trans g2) (ok1.new hp) ⟨⟨p, vs, rfl, upd_same, ok1.notfree hp, r1.mono g2⟩, fun _ _ => ⟨p, rfl, g1.back _ hp⟩⟩
/-- two expressions, then an operation -/
theorem two {f : Value → Value → Sem Value} {g : PV → PV → Store → Option PV} (ha : SimE T X W a ma) (hb : SimE T X W b mb) (ho : SimO X f g) {ρ : List Addr} {st : Store} {H : Hp} {σ : L2.St} {ev : Env} {Q : VK}
    (ok : OkS X.K ρ st H) (re : RepE X.K ρ H ev σ)
    (q : Aft ((ma ev st).bind fun x st1 => (mb ev st1).bind fun y st2 => Res.of (g x y st2) st2) (WantV X ρ H Q) (WantX T X W ρ H σ)) : tOp (wO X f) (wE X a) (wE X b) σ H Q := by
  refine ha ρ st H σ ev _ ok re ((Aft.bind q).imp (fun x st1 q1 ρ1 H1 vx g1 ok1 r1 => ?_) fun _ _ _ z => z)
  refine hb ρ1 st1 H1 σ ev _ ok1 (re.mono g1) ((Aft.bind q1).imp (fun y st2 q2 ρ2 H2 vy g2 ok2 r2 => ?_) fun _ _ _ => WantX.from g1)
  obtain ⟨z, hz, q3⟩ := q2.of
  exact ho ρ2 st2 H2 x y vx vy Q z ok2 (r1.mono g2).1 r2.1 hz (WantV.from (g1.trans g2) q3)
theorem sim_bin {op : Operator} {g : PV → PV → Store → Option PV} (ho : SimO X (binaryOp op) g) (ha : SimE T X W a ma) (hb : SimE T X W b mb) :
    SimE T X W (.BinOp a op b pos) (fun ev st => (ma ev st).bind fun x st1 => (mb ev st1).bind fun y st2 => Res.of (g x y st2) st2) := fun ρ st H σ ev Q ok re q =>
  wE_of (pe_op or_w pe_w pe_w) (two ha hb ho ok re q)
theorem sim_cmp {op : CmpOp} {g : PV → PV → Store → Option PV} (ho : SimO X (compareOp op) g) (hm : behindInMarks op b = false) (ha : SimE T X W a ma) (hb : SimE T X W b mb) :
    SimE T X W (.Compare a [op] [b] pos) (fun ev st => (ma ev st).bind fun x st1 => (mb ev st1).bind fun y st2 => Res.of (g x y st2) st2) := fun ρ st H σ ev Q ok re q =>
  wE_of (pe_cmpR or_w pe_w pe_w hm) (two ha hb ho ok re q)
theorem sim_ix (hs : PlainIx b) (hi : ∀ ρ st H x y vx vy Q z, OkS X.K ρ st H → RepX X.K ρ H x vx → RepX X.K ρ H y vy → indexV x y st = some z → WantV X ρ H Q z st → ∃ r, IxR X r ∧ r vx vy H Q) (ha : SimE T X W a ma) (hb : SimE T X W b mb) :
    SimE T X W (.Subscript a b pos) (fun ev st => (ma ev st).bind fun x st1 => (mb ev st1).bind fun y st2 => Res.of (indexV x y st2) st2) := fun ρ st H σ ev Q ok re q => by
  have hr : IxR X (fun x y H Q => ∃ r, IxR X r ∧ r x y H Q) := fun value slice pins s σ H x y v u Q I rx ry ⟨r, h, q⟩ hs => h value slice pins s σ H x y v u Q I rx ry q hs
  refine wE_of (pe_ix hr pe_w pe_w hs) ?_
  refine ha ρ st H σ ev _ ok re ((Aft.bind q).imp (fun x st1 q1 ρ1 H1 vx g1 ok1 r1 => ?_) fun _ _ _ z => z)
  refine hb ρ1 st1 H1 σ ev _ ok1 (re.mono g1) ((Aft.bind q1).imp (fun y st2 q2 ρ2 H2 vy g2 ok2 r2 => ?_) fun _ _ _ => WantX.from g1)
  obtain ⟨z, hz, q3⟩ := q2.of
  exact hi ρ2 st2 H2 x y vx vy Q z ok2 (r1.mono g2).1 r2.1 hz (WantV.from (g1.trans g2) q3)
end
end
end Vm

set_option maxHeartbeats 4000000
/-! Vm4: operations by values. -/
namespace Vm
open PySem L2

section
variable {K : PySem.W.Frag} {ρ : List Addr} {H : Hp} {st : Store} {x y : PV} {v w : V}
theorem RepX.cases_int {i : Int} (h : RepX K ρ H (.int i) v) : v = .int i := by cases (show Rep K ρ H (.int i) v from h); rfl
theorem RepX.cases_bl {i : Bool} (h : RepX K ρ H (.bl i) v) : v = .bl i := by cases (show Rep K ρ H (.bl i) v from h); rfl
theorem RepX.cases_str {l : List Nat} (h : RepX K ρ H (.str l) v) : v = .str ⟨l.toArray⟩ := by cases (show Rep K ρ H (.str l) v from h); rfl
theorem RepX.cases_non (h : RepX K ρ H .non v) : v = .non := by cases (show Rep K ρ H .non v from h); rfl
theorem RepX.cases_tup {xs : List PV} (h : RepX K ρ H (.tup xs) v) : ∃ a vs, v = .ref a ∧ SqT K H a vs ∧ RepL K ρ H xs vs := by
  cases (show Rep K ρ H (.tup xs) v from h) with
  | tup h1 h2 => exact ⟨_, _, rfl, h1, h2⟩
theorem RepX.cases_loc {n : Nat} (h : RepX K ρ H (.loc n) v) : ∃ a, v = .ref a ∧ ρ[n]? = some a := by
  cases (show Rep K ρ H (.loc n) v from h) with
  | loc h1 => exact ⟨_, rfl, h1⟩
theorem RepX.cases_fl {xs : List PV} (h : RepX K ρ H (.fl xs) v) : ∃ a vs, v = .ref a ∧ SqF K H a vs ∧ RepL K ρ H xs vs := by
  cases (show Rep K ρ H (.fl xs) v from h) with
  | fl h1 h2 => exact ⟨_, _, rfl, h1, h2⟩

theorem lw_ok {xs : List PV} (ok : OkS K ρ st H) (r : RepX K ρ H x v) (h : lw st x = some xs) : ∃ a vs, v = .ref a ∧ H a = some (.lst vs) ∧ RepL K ρ H xs vs := by
  cases x with
  | loc n =>
    obtain ⟨a, rfl, ha⟩ := r.cases_loc
    dsimp only [lw] at h
    split at h
    · rename_i ys e
      cases h
      obtain ⟨vs, h1, h2⟩ := ok.cell n a _ ha e
      exact ⟨a, vs, rfl, h1, h2⟩
    · cases h
  | tl ys =>
    cases h
    obtain ⟨a, vs, h1, h2, _, h3⟩ := r
    exact ⟨a, vs, h1, h2, h3⟩
  | non => cases h
  | bl b => cases h
  | int i => cases h
  | str l => cases h
  | tup xs => cases h
  | fl xs => cases h
theorem lv_ok {xs : List PV} (ok : OkS K ρ st H) (r : RepX K ρ H x v) (h : lv st x = some xs) : ∃ a vs, v = .ref a ∧ SqL K H a vs ∧ RepL K ρ H xs vs := by
  cases x with
  | loc n =>
    obtain ⟨a, vs, h1, h2, h3⟩ := lw_ok ok r (xs := xs) h
    exact ⟨a, vs, h1, SqL.of h2, h3⟩
  | tl ys =>
    obtain ⟨a, vs, h1, h2, h3⟩ := lw_ok ok r (xs := xs) h
    exact ⟨a, vs, h1, SqL.of h2, h3⟩
  | fl ys =>
    cases h
    obtain ⟨a, vs, h1, h2, h3⟩ := r.cases_fl
    exact ⟨a, vs, h1, h2.sq, h3⟩
  | non => cases h
  | bl b => cases h
  | int i => cases h
  | str l => cases h
  | tup xs => cases h
theorem sv_ok {xs : List PV} (ok : OkS K ρ st H) (r : RepX K ρ H x v) (h : sv st x = some xs) : ∃ a vs, v = .ref a ∧ (SqL K H a vs ∨ SqT K H a vs) ∧ RepL K ρ H xs vs := by
  cases x with
  | tup ys =>
    cases h
    obtain ⟨a, vs, h1, h2, h3⟩ := r.cases_tup
    exact ⟨a, vs, h1, .inr h2, h3⟩
  | loc n => obtain ⟨a, vs, h1, h2, h3⟩ := lv_ok ok r (xs := xs) h; exact ⟨a, vs, h1, .inl h2, h3⟩
  | tl ys => obtain ⟨a, vs, h1, h2, h3⟩ := lv_ok ok r (xs := xs) h; exact ⟨a, vs, h1, .inl h2, h3⟩
  | fl ys => obtain ⟨a, vs, h1, h2, h3⟩ := lv_ok ok r (xs := xs) h; exact ⟨a, vs, h1, .inl h2, h3⟩
  | non => cases h
  | bl b => cases h
  | int i => cases h
  | str l => cases h
theorem dv_ok {kvs : List (PV × PV)} (ok : OkS K ρ st H) (r : RepX K ρ H x v) (h : dv st x = some kvs) : ∃ a qs, v = .ref a ∧ Rd H a (.dK qs) ∧ RepD K ρ H kvs qs := by
  cases x with
  | loc n =>
    obtain ⟨a, rfl, ha⟩ := r.cases_loc
    dsimp only [dv] at h
    split at h
    · rename_i lk ys e
      cases h
      cases lk with
      | false =>
        obtain ⟨qs, h1, h2⟩ := ok.cell n a _ ha e
        exact ⟨a, qs, rfl, .inl h1, h2⟩
      | true =>
        obtain ⟨o, qs, h1, h2⟩ := ok.cell n a _ ha e
        exact ⟨a, qs, rfl, .inr ⟨o, h1⟩, h2⟩
    · cases h
  | non => cases h
  | bl b => cases h
  | int i => cases h
  | str l => cases h
  | tup xs => cases h
  | tl xs => cases h
  | fl xs => cases h
theorem dm_ok {kvs : List (PV × PV)} (ok : OkS K ρ st H) (r : RepX K ρ H x v) (h : dm st x = some kvs) : ∃ a qs, v = .ref a ∧ H a = some (.dK qs) ∧ RepD K ρ H kvs qs := by
  cases x with
  | loc n =>
    obtain ⟨a, rfl, ha⟩ := r.cases_loc
    dsimp only [dm] at h
    split at h
    · rename_i ys e
      cases h
      obtain ⟨qs, h1, h2⟩ := ok.cell n a _ ha e
      exact ⟨a, qs, rfl, h1, h2⟩
    · cases h
  | non => cases h
  | bl b => cases h
  | int i => cases h
  | str l => cases h
  | tup xs => cases h
  | tl xs => cases h
  | fl xs => cases h
theorem lm_ok {n : Nat} {xs : List PV} (ok : OkS K ρ st H) (r : RepX K ρ H x v) (h : lm st x = some (n, xs)) : ∃ a vs, v = .ref a ∧ ρ[n]? = some a ∧ H a = some (.lst vs) ∧ RepL K ρ H xs vs := by
  cases x with
  | loc m =>
    obtain ⟨a, rfl, ha⟩ := r.cases_loc
    dsimp only [lm] at h
    split at h
    · rename_i ys e
      cases h
      obtain ⟨vs, h1, h2⟩ := ok.cell _ a _ ha e
      exact ⟨a, vs, rfl, ha, h1, h2⟩
    · cases h
  | non => cases h
  | bl b => cases h
  | int i => cases h
  | str l => cases h
  | tup xs => cases h
  | tl xs => cases h
  | fl xs => cases h
theorem SZ_le {n : Nat} (h : n ≤ SZ) : n ≤ sizeLine := Nat.le_trans h (by decide)
theorem SZ_lt {n : Nat} (h : n < SZ) : n < sizeLine := Nat.lt_of_lt_of_le h (by decide)
theorem guardO_some {α : Type} {c : Bool} {a b : α} (h : guardO c a = some b) : c = true ∧ a = b := by
  unfold guardO at h
  split at h
  · rename_i hc
    cases h
    exact ⟨hc, rfl⟩
  · cases h
end

section
variable {X : Cx}
/-- a plain value comes out -/
theorem WantV.val {ρ : List Addr} {H : Hp} {Q : VK} {x : PV} {st : Store} {v : V} (h : WantV X ρ H Q x st) (ok : OkS X.K ρ st H) (r : Rep X.K ρ H x v) : Q v H := h ρ H v .refl ok r.r
/-- a new list comes out -/
theorem WantV.new {ρ : List Addr} {H : Hp} {Q : VK} {xs : List PV} {st : Store} {vs : List V} (h : WantV X ρ H Q (.tl xs) st) (ok : OkS X.K ρ st H) (r : RepL X.K ρ H xs vs) : ∀ p, H p = none → Q (.ref p) (upd H p (.lst vs)) := fun p hp => by
  have g := Grow.new (K := X.K) (o := HO.lst vs) ok hp
  exact h ρ _ _ g (ok.new hp) ⟨⟨p, vs, rfl, upd_same, ok.notfree hp, r.mono g⟩, fun _ _ => ⟨p, rfl, hp⟩⟩
/-- a new tuple comes out -/
theorem WantV.newT {ρ : List Addr} {H : Hp} {Q : VK} {xs : List PV} {st : Store} {vs : List V} (h : WantV X ρ H Q (.tup xs) st) (ok : OkS X.K ρ st H) (r : RepL X.K ρ H xs vs) : ∀ p, H p = none → Q (.ref p) (upd H p (.tup vs)) := fun p hp => by
  have g := Grow.new (K := X.K) (o := HO.tup vs) ok hp
  exact h ρ _ _ g (ok.new hp) (Rep.r (.tup (.inl (.inl upd_same)) (r.mono g)))

theorem catL_ok {a b : Option (List PV)} {z : PV} (h : catL a b = some z) : ∃ xs ys, a = some xs ∧ b = some ys ∧ xs.length + ys.length ≤ SZ ∧ z = .tl (xs ++ ys) := by
  unfold catL at h
  split at h
  · obtain ⟨h1, h2⟩ := guardO_some h
    exact ⟨_, _, rfl, rfl, of_decide_eq_true h1, h2.symm⟩
  · cases h
theorem repL_ok {a : Option (List PV)} {k : Int} {z : PV} (h : repL a k = some z) : ∃ xs, a = some xs ∧ 0 ≤ k ∧ k ≤ 1000000 ∧ xs.length * k.toNat ≤ SZ ∧ z = .tl (List.replicate k.toNat xs).flatten := by
  unfold repL at h
  split at h
  · obtain ⟨h1, h2⟩ := guardO_some h
    simp only [Bool.and_eq_true, decide_eq_true_eq] at h1
    exact ⟨_, rfl, h1.1.1, h1.1.2, h1.2, h2.symm⟩
  · cases h
theorem cat_lists {ρ : List Addr} {st : Store} {H : Hp} {x y z : PV} {vx vy : V} {Q : VK} (ok : OkS X.K ρ st H) (rx : RepX X.K ρ H x vx) (ry : RepX X.K ρ H y vy) (h : catL (lw st x) (lw st y) = some z) (q : WantV X ρ H Q z st) : wO X (binaryOp .Add) vx vy H Q := by
  obtain ⟨xs, ys, h1, h2, h3, rfl⟩ := catL_ok h
  obtain ⟨a, vs, rfl, h4, h5⟩ := lw_ok ok rx h1
  obtain ⟨b, ws, rfl, h6, h7⟩ := lw_ok ok ry h2
  exact wO_of op_cat ⟨a, b, vs, ws, rfl, rfl, h4, h6, by rw [← h5.length, ← h7.length]; exact SZ_le h3, q.new ok (h5.append h7)⟩
theorem str_len (l : List Nat) : (⟨l.toArray⟩ : Str).length = l.length := by
  first | rfl | simp [Str.length]
theorem str_app (a b : List Nat) : (⟨a.toArray⟩ : Str) ++ ⟨b.toArray⟩ = ⟨(a ++ b).toArray⟩ := by
  show Str.mk (a.toArray ++ b.toArray) = _
  rw [List.append_toArray]
theorem simO_add : SimO X (binaryOp .Add) (binop .add) := fun ρ st H x y vx vy Q z ok rx ry h q => by
  have hl : ∀ h' : catL (lw st x) (lw st y) = some z, wO X (binaryOp .Add) vx vy H Q := fun h' => cat_lists ok rx ry h' q
  cases x with
  | int i =>
    cases y with
    | int j =>
      cases h
      rw [rx.cases_int, ry.cases_int]
      exact wO_of op_add ⟨i, j, rfl, rfl, q.val ok (.int _)⟩
    | _ => exact hl h
  | str l =>
    cases y with
    | str m =>
      obtain ⟨h1, rfl⟩ := guardO_some h
      rw [rx.cases_str, ry.cases_str]
      refine wO_of op_add_str ⟨_, _, rfl, rfl, by rw [str_len, str_len]; exact SZ_le (of_decide_eq_true h1), ?_⟩
      rw [str_app]
      exact q.val ok (.str _)
    | _ => exact hl h
  | tup xs =>
    cases y with
    | tup ys =>
      obtain ⟨h1, rfl⟩ := guardO_some h
      obtain ⟨a, vs, rfl, h2, h3⟩ := rx.cases_tup
      obtain ⟨b, ws, rfl, h4, h5⟩ := ry.cases_tup
      refine wO_of op_catA ⟨a, b, vs, ws, rfl, rfl, h2, h4, by rw [← h3.length, ← h5.length]; exact SZ_le (of_decide_eq_true h1), fun e => ?_, fun n e => ?_, fun n m => q.newT ok (h3.append h5)⟩
      · subst e
        cases h3
        exact q.val ok (.tup h4 h5)
      · subst e
        cases h5
        exact q.val ok (.tup h2 (by rw [List.append_nil]; exact h3))
    | _ => exact hl h
  | _ => exact hl h
theorem simO_sub : SimO X (binaryOp .Sub) (binop .sub) := fun ρ st H x y vx vy Q z ok rx ry h q => by
  unfold binop at h
  dsimp only at h
  split at h
  · cases h
    rw [rx.cases_int, ry.cases_int]
    exact wO_of op_sub ⟨_, _, rfl, rfl, q.val ok (.int _)⟩
  · cases h
theorem big_lt {i : Int} (h : i.natAbs < BIG) : -(2 ^ 64) < i ∧ i < 2 ^ 64 := by
  have : BIG = 2 ^ 64 := by decide
  omega
theorem simO_mul : SimO X (binaryOp .Mult) (binop .mul) := fun ρ st H x y vx vy Q z ok rx ry h q => by
  unfold binop at h
  dsimp only at h
  split at h
  · obtain ⟨h1, rfl⟩ := guardO_some h
    rw [rx.cases_int, ry.cases_int]
    refine wO_of op_mul ⟨_, _, rfl, rfl, ?_, q.val ok (.int _)⟩
    simp only [Bool.or_eq_true, decide_eq_true_eq] at h1
    exact h1.imp big_lt big_lt
  · obtain ⟨xs, h1, h2, h3, h4, rfl⟩ := repL_ok h
    rw [ry.cases_int]
    obtain ⟨a, vs, rfl, h5, h6⟩ := lw_ok ok rx h1
    exact wO_of op_rep ⟨a, _, vs, rfl, rfl, h5, by omega, by omega, by rw [← h6.length]; exact SZ_le h4, q.new ok (h6.rep _)⟩
  · cases h
theorem simO_fdiv : SimO X (binaryOp .FloorDiv) (binop .fdiv) := fun ρ st H x y vx vy Q z ok rx ry h q => by
  unfold binop at h
  dsimp only at h
  split at h
  · obtain ⟨h1, rfl⟩ := guardO_some h
    rw [rx.cases_int, ry.cases_int]
    simp only [Bool.and_eq_true, decide_eq_true_eq] at h1
    exact wO_of op_fdiv ⟨_, _, rfl, rfl, h1, q.val ok (.int _)⟩
  · cases h
theorem simO_mod : SimO X (binaryOp .Mod) (binop .mod) := fun ρ st H x y vx vy Q z ok rx ry h q => by
  unfold binop at h
  dsimp only at h
  split at h
  · obtain ⟨h1, rfl⟩ := guardO_some h
    rw [rx.cases_int, ry.cases_int]
    exact wO_of op_mod ⟨_, _, rfl, rfl, of_decide_eq_true h1, q.val ok (.int _)⟩
  · cases h
theorem simO_pow : SimO X (binaryOp .Pow) (binop .pow) := fun ρ st H x y vx vy Q z ok rx ry h q => by
  unfold binop at h
  dsimp only at h
  split at h
  · obtain ⟨h1, rfl⟩ := guardO_some h
    rw [rx.cases_int, ry.cases_int]
    simp only [Bool.and_eq_true, decide_eq_true_eq] at h1
    refine wO_of op_pow ⟨_, _, rfl, rfl, ⟨h1.1.1, h1.1.2, ?_⟩, q.val ok (.int _)⟩
    exact Nat.lt_of_lt_of_le h1.2 (by decide)
  · cases h
def bopOf : BOp → Operator
  | .add => .Add | .sub => .Sub | .mul => .Mult | .fdiv => .FloorDiv | .mod => .Mod | .pow => .Pow
theorem simO_bin : ∀ o : BOp, SimO X (binaryOp (bopOf o)) (binop o)
  | .add => simO_add | .sub => simO_sub | .mul => simO_mul | .fdiv => simO_fdiv | .mod => simO_mod | .pow => simO_pow

/-! ### comparisons -/
theorem str_eq {a b : List Nat} : ((⟨a.toArray⟩ : Str) = ⟨b.toArray⟩) ↔ a = b :=
  ⟨fun e => by have e1 := congrArg Str.cps e; exact List.toArray_inj e1, fun e => by rw [e]⟩
theorem eqS_ok {K : PySem.W.Frag} {ρ : List Addr} {H : Hp} {x y : PV} {v w : V} {b : Bool} (rx : RepX K ρ H x v) (ry : RepX K ρ H y w) (h : eqS x y = some b) : scal v w = true ∧ decide (v = w) = b := by
  unfold eqS at h
  split at h <;> first
    | (cases h; done)
    | (cases h
       first
         | (rw [rx.cases_non, ry.cases_non]; exact ⟨rfl, by simp⟩)
         | (rw [rx.cases_int, ry.cases_int]; exact ⟨rfl, by rw [Bool.eq_iff_iff]; simp⟩)
         | (rw [rx.cases_bl, ry.cases_bl]; exact ⟨rfl, by rw [Bool.eq_iff_iff]; simp⟩)
         | (rw [rx.cases_str, ry.cases_str]; exact ⟨rfl, by rw [Bool.eq_iff_iff]; simp [List.toArray_inj]⟩)
         | (rw [rx.cases_non, ry.cases_int]; exact ⟨rfl, by simp⟩)
         | (rw [rx.cases_int, ry.cases_non]; exact ⟨rfl, by simp⟩)
         | (rw [rx.cases_non, ry.cases_bl]; exact ⟨rfl, by simp⟩)
         | (rw [rx.cases_bl, ry.cases_non]; exact ⟨rfl, by simp⟩)
         | (rw [rx.cases_non, ry.cases_str]; exact ⟨rfl, by simp⟩)
         | (rw [rx.cases_str, ry.cases_non]; exact ⟨rfl, by simp⟩)
         | (rw [rx.cases_int, ry.cases_str]; exact ⟨rfl, by simp⟩)
         | (rw [rx.cases_str, ry.cases_int]; exact ⟨rfl, by simp⟩)
         | (rw [rx.cases_bl, ry.cases_str]; exact ⟨rfl, by simp⟩)
         | (rw [rx.cases_str, ry.cases_bl]; exact ⟨rfl, by simp⟩))

theorem flat_V {K : PySem.W.Frag} {ρ : List Addr} {H : Hp} {x : PV} {v : V} (r : RepX K ρ H x v) (h : flat x = true) : flatV v = true := by
  cases x with
  | non => rw [r.cases_non]; rfl
  | bl b => rw [r.cases_bl]; rfl
  | int i => rw [r.cases_int]; rfl
  | str l => rw [r.cases_str]; rfl
  | _ => cases h
theorem eqF_V {K : PySem.W.Frag} {ρ : List Addr} {H : Hp} {x y : PV} {v w : V} (rx : RepX K ρ H x v) (ry : RepX K ρ H y w) (hx : flat x = true) (hy : flat y = true) : eqV v w = eqF x y := by
  cases x with
  | non => rw [rx.cases_non]; cases y with
    | non => rw [ry.cases_non]; rfl
    | bl b => rw [ry.cases_bl]; rfl
    | int i => rw [ry.cases_int]; rfl
    | str l => rw [ry.cases_str]; rfl
    | _ => cases hy
  | bl b => rw [rx.cases_bl]; cases y with
    | non => rw [ry.cases_non]; rfl
    | bl b => rw [ry.cases_bl]; rfl
    | int i => rw [ry.cases_int]; rfl
    | str l => rw [ry.cases_str]; rfl
    | _ => cases hy
  | int i => rw [rx.cases_int]; cases y with
    | non => rw [ry.cases_non]; rfl
    | bl b => rw [ry.cases_bl]; rfl
    | int i => rw [ry.cases_int]; rfl
    | str l => rw [ry.cases_str]; rfl
    | _ => cases hy
  | str l => rw [rx.cases_str]; cases y with
    | non => rw [ry.cases_non]; rfl
    | bl b => rw [ry.cases_bl]; rfl
    | int i => rw [ry.cases_int]; rfl
    | str m =>
      rw [ry.cases_str]
      show (({ cps := l.toArray } : Str) == { cps := m.toArray }) = (l == m)
      rw [Bool.eq_iff_iff, beq_iff_eq, beq_iff_eq]
      exact str_eq
    | _ => cases hy
  | _ => cases hx
theorem flats_V {K : PySem.W.Frag} {ρ : List Addr} {H : Hp} : ∀ {xs : List PV} {vs : List V}, RepL K ρ H xs vs → xs.all flat = true → vs.all flatV = true
  | _, _, .nil, _ => rfl
  | _, _, .cons r t, h => by
    simp only [List.all_cons, Bool.and_eq_true] at h ⊢
    exact ⟨flat_V r.x h.1, flats_V t h.2⟩
theorem any_V {K : PySem.W.Frag} {ρ : List Addr} {H : Hp} {x : PV} {v : V} (rx : RepX K ρ H x v) (hx : flat x = true) : ∀ {xs : List PV} {vs : List V}, RepL K ρ H xs vs → xs.all flat = true → inV v vs = xs.any fun z => eqF z x
  | _, _, .nil, _ => rfl
  | _, _, .cons r t, h => by
    simp only [List.all_cons, Bool.and_eq_true] at h
    show (eqV _ v || inV v _) = (eqF _ x || _)
    rw [eqF_V r.x rx h.1 hx, any_V rx hx t h.2]

/-! ### dicts -/
theorem keyV_rep {K : PySem.W.Frag} {ρ : List Addr} {H : Hp} {x : PV} {v : V} {k : Key} (r : RepX K ρ H x v) (h : keyV x = some k) : v = kV k := by
  cases x with
  | int i => cases h; exact r.cases_int
  | str l => cases h; exact r.cases_str
  | _ => cases h
theorem keyOk_some {x : PV} (h : keyOk x = true) : ∃ k, keyV x = some k := by
  cases x with
  | int i => exact ⟨_, rfl⟩
  | str l => exact ⟨_, rfl⟩
  | _ => cases h
theorem keyV_ok {x : PV} {k : Key} (h : keyV x = some k) : keyOk x = true := by
  cases x with
  | int i => rfl
  | str l => rfl
  | _ => cases h
theorem keyV_eq {x y : PV} {k j : Key} (hx : keyV x = some k) (hy : keyV y = some j) : eqF x y = decide (k = j) := by
  cases x with
  | int i =>
    cases hx
    cases y with
    | int m =>
      cases hy
      show (i == m) = decide ((Sum.inl i : Key) = Sum.inl m)
      rw [Bool.eq_iff_iff]
      simp
    | str l => cases hy; rw [decide_eq_false (fun e => by cases e)]; rfl
    | _ => cases hy
  | str l =>
    cases hx
    cases y with
    | int m => cases hy; rw [decide_eq_false (fun e => by cases e)]; rfl
    | str m =>
      cases hy
      show (l == m) = decide ((Sum.inr ⟨l.toArray⟩ : Key) = Sum.inr ⟨m.toArray⟩)
      rw [Bool.eq_iff_iff]
      simp [List.toArray_inj]
    | _ => cases hy
  | _ => cases hx
theorem dget_ok {K : PySem.W.Frag} {ρ : List Addr} {H : Hp} {k : PV} {j : Key} (hk : keyV k = some j) : ∀ {kvs : List (PV × PV)} {qs : List (Key × V)}, RepD K ρ H kvs qs →
    match dget kvs k with
    | some x => ∃ v, valV qs j = some v ∧ Rep K ρ H x v
    | none => valV qs j = none
  | _, _, .nil => rfl
  | _, _, .cons (p := p) (k := kk) (v := v) (ps := ps) (qs := qs) e r t => by
    have q := keyV_eq e hk
    by_cases h : kk = j
    · rw [decide_eq_true h] at q
      have e1 : dget (p :: ps) k = some p.2 := by simp [dget, List.find?_cons, q]
      rw [e1]
      exact ⟨v, valV_pos h, r⟩
    · rw [decide_eq_false h] at q
      have e1 : dget (p :: ps) k = dget ps k := by simp [dget, List.find?_cons, q]
      rw [e1, valV_neg (p := (kk, v)) h]
      exact dget_ok hk t
theorem any_ok {K : PySem.W.Frag} {ρ : List Addr} {H : Hp} {k : PV} {j : Key} (hk : keyV k = some j) : ∀ {kvs : List (PV × PV)} {qs : List (Key × V)}, RepD K ρ H kvs qs → (kvs.any fun p => eqF p.1 k) = qs.any fun q => decide (q.1 = j)
  | _, _, .nil => rfl
  | _, _, .cons e r t => by
    rw [List.any_cons, List.any_cons, keyV_eq e hk, any_ok hk t]
theorem dput_map {K : PySem.W.Frag} {ρ : List Addr} {H : Hp} {k x : PV} {v : V} {j : Key} (hk : keyV k = some j) (rx : Rep K ρ H x v) : ∀ {kvs : List (PV × PV)} {qs : List (Key × V)}, RepD K ρ H kvs qs →
    RepD K ρ H (kvs.map fun p => if eqF p.1 k then (p.1, x) else p) (qs.map fun kv => if kv.1 = j then (kv.1, v) else kv)
  | _, _, .nil => .nil
  | _, _, .cons (p := p) (k := kk) (v := w) e r t => by
    have q := keyV_eq e hk
    rw [List.map_cons, List.map_cons]
    by_cases h : kk = j
    · rw [decide_eq_true h] at q
      rw [if_pos q, if_pos h]
      exact .cons e rx (dput_map hk rx t)
    · rw [decide_eq_false h] at q
      rw [if_neg (by rw [q]; exact Bool.false_ne_true), if_neg h]
      exact .cons e r (dput_map hk rx t)
theorem dput_ok {K : PySem.W.Frag} {ρ : List Addr} {H : Hp} {k x : PV} {v : V} {j : Key} (hk : keyV k = some j) (rx : Rep K ρ H x v) {kvs : List (PV × PV)} {qs : List (Key × V)} (h : RepD K ρ H kvs qs) : RepD K ρ H (dput kvs k x) (putK qs j v) := by
  unfold dput putK
  rw [any_ok hk h]
  by_cases c : (qs.any fun q => decide (q.1 = j)) = true
  · rw [if_pos c, if_pos c]
    exact dput_map hk rx h
  · rw [if_neg c, if_neg c]
    exact h.append (.cons hk rx .nil)

theorem or_din (hu : X.A.units + 1 < cLine) : OpR X (compareOp .In) (fun y x H Q => ∃ a o, x = .ref a ∧ DGet H a y o ∧ Q (.bl o.isSome) H) := by
  intro pins s σ H y x v u Q I ry rx ⟨a, o, e, g, q⟩
  subst e
  obtain rfl : u = Value.ref a := rx
  exact d_in hu I g ry fun s3 I3 => ⟨.bl o.isSome, H, I3, rfl, q⟩
theorem or_dnotin (hu : X.A.units + 1 < cLine) : OpR X (compareOp .NotIn) (fun y x H Q => ∃ a o, x = .ref a ∧ DGet H a y o ∧ Q (.bl (!o.isSome)) H) := by
  intro pins s σ H y x v u Q I ry rx ⟨a, o, e, g, q⟩
  subst e
  obtain rfl : u = Value.ref a := rx
  exact d_notIn hu I g ry fun s3 I3 => ⟨.bl (!o.isSome), H, I3, rfl, q⟩
theorem ir_dict (hu : X.A.units + 1 < cLine) : IxR X (fun x y H Q => ∃ a v, x = .ref a ∧ DGet H a y (some v) ∧ Q v H) := by
  intro value slice pins s σ H x y v u Q I rx ry ⟨a, w, e, g, q⟩ hs
  subst e
  obtain rfl : v = Value.ref a := rx
  exact PyProof.Rows.tail_any (dict_typeIs I g) PySem.F.slot_dict_getitem.lookup (d_getItem hu I g ry fun w' s3 I3 rw' => ⟨w, H, I3, rw', q⟩) hs

theorem dget_any {kvs : List (PV × PV)} {k : PV} : (dget kvs k).isSome = kvs.any fun p => eqF p.1 k := by
  induction kvs with
  | nil => rfl
  | cons p ps ih =>
    by_cases h : eqF p.1 k = true
    · simp [dget, List.find?_cons, h]
    · simp only [Bool.not_eq_true] at h
      have e1 : dget (p :: ps) k = dget ps k := by simp [dget, List.find?_cons, h]
      rw [e1, ih, List.any_cons, h, Bool.false_or]
/-- what isinV says, in the abstract heap: b, as the answer of in; its not of not in -/
theorem in_core (hu : X.A.units + 1 < cLine) {ρ : List Addr} {st : Store} {H : Hp} {x y : PV} {vx vy : V} {b : Bool} (ok : OkS X.K ρ st H) (rx : RepX X.K ρ H x vx) (ry : RepX X.K ρ H y vy) (h : isinV x y st = some b) (Q : VK) :
    (Q (.bl b) H → wO X (compareOp .In) vx vy H Q) ∧ (Q (.bl (!b)) H → wO X (compareOp .NotIn) vx vy H Q) := by
  have seqs : dv st y = none → (sv st y).bind (isinL x) = some b → (Q (.bl b) H → wO X (compareOp .In) vx vy H Q) ∧ (Q (.bl (!b)) H → wO X (compareOp .NotIn) vx vy H Q) := fun _ h => by
    obtain ⟨xs, h1, h2⟩ := Option.bind_eq_some_iff.mp h
    obtain ⟨a, vs, rfl, h3, h4⟩ := sv_ok ok ry h1
    unfold isinL at h2
    split at h2
    · rename_i hf
      cases h2
      simp only [Bool.and_eq_true] at hf
      have e := any_V rx hf.1 h4 hf.2
      refine ⟨fun q => wO_of op_in_seq ⟨a, vs, rfl, h3, flat_V rx hf.1, flats_V h4 hf.2, ?_⟩, fun q => wO_of op_notIn_seq ⟨a, vs, rfl, h3, flat_V rx hf.1, flats_V h4 hf.2, ?_⟩⟩
      · rw [if_neg Bool.false_ne_true, e]
        exact q
      · rw [if_pos rfl, e]
        exact q
    · cases h2
  have dicts : ∀ kvs, dv st y = some kvs → (if keyOk x then some (kvs.any fun p => eqF p.1 x) else none) = some b → (Q (.bl b) H → wO X (compareOp .In) vx vy H Q) ∧ (Q (.bl (!b)) H → wO X (compareOp .NotIn) vx vy H Q) := fun kvs hd h => by
    obtain ⟨a, qs, rfl, h3, h4⟩ := dv_ok ok ry hd
    split at h
    · rename_i hk
      cases h
      obtain ⟨j, hj⟩ := keyOk_some hk
      have e := keyV_rep rx hj
      subst e
      have g : DGet H a (kV j) (valV qs j) := .inl ⟨qs, j, h3, rfl, rfl⟩
      have ee : (valV qs j).isSome = kvs.any fun p => eqF p.1 x := by rw [any_ok hj h4, valV_any]
      refine ⟨fun q => wO_of (or_din hu) ⟨a, _, rfl, g, ?_⟩, fun q => wO_of (or_dnotin hu) ⟨a, _, rfl, g, ?_⟩⟩
      · rw [ee]
        exact q
      · rw [ee]
        exact q
    · cases h
  have both : (match dv st y with
    | some kvs => if keyOk x then some (kvs.any fun p => eqF p.1 x) else none
    | none => (sv st y).bind (isinL x)) = some b → (Q (.bl b) H → wO X (compareOp .In) vx vy H Q) ∧ (Q (.bl (!b)) H → wO X (compareOp .NotIn) vx vy H Q) := fun h => by
    cases hd : dv st y with
    | some kvs => rw [hd] at h; exact dicts kvs hd h
    | none => rw [hd] at h; exact seqs hd h
  cases y with
  | str l =>
    unfold isinV at h
    dsimp only at h
    split at h
    · rename_i c
      cases h
      rw [rx.cases_str, ry.cases_str]
      have e : decide (c ∈ (⟨l.toArray⟩ : Str).cps.toList) = l.contains c := by
        rw [Bool.eq_iff_iff]
        simp
      refine ⟨fun q => wO_of op_in_sign ⟨c, _, rfl, rfl, ?_⟩, fun q => wO_of op_notIn_sign ⟨c, _, rfl, rfl, ?_⟩⟩
      · rw [e]
        exact q
      · rw [e]
        exact q
    · cases h
  | _ => exact both h
def copOf : COp → CmpOp
  | .eq => .Eq | .ne => .NotEq | .lt => .Lt | .le => .LtE | .gt => .Gt | .ge => .GtE | .is => .Is | .isnot => .IsNot | .isin => .In | .notin => .NotIn
theorem none_V {K : PySem.W.Frag} {ρ : List Addr} {H : Hp} {x : PV} {v : V} (r : RepX K ρ H x v) : decide (v = .non) = isNone x := by
  cases x with
  | non => rw [r.cases_non]; rfl
  | bl b => rw [r.cases_bl]; rfl
  | int i => rw [r.cases_int]; rfl
  | str l => rw [r.cases_str]; rfl
  | loc n => obtain ⟨a, rfl, _⟩ := r.cases_loc; rfl
  | tup xs => obtain ⟨a, _, rfl, _⟩ := r.cases_tup; rfl
  | fl xs => obtain ⟨a, _, rfl, _⟩ := r.cases_fl; rfl
  | tl xs => obtain ⟨a, _, rfl, _⟩ := r; rfl
theorem isNone_eq {x : PV} (h : isNone x = true) : x = .non := by
  cases x with
  | non => rfl
  | _ => cases h
/-! ### == of data at any depth -/
def All2 {α β : Type} (R : α → β → Prop) : List α → List β → Prop
  | [], [] => True
  | x :: xs, y :: ys => R x y ∧ All2 R xs ys
  | _, _ => False
def Da : Nat → PV → PyData → Prop
  | 0, _, _ => False
  | n + 1, x, d => match x, d with
    | .non, .none => True
    | .bl a, .bool b => a = b
    | .int a, .int b => a = b
    | .str l, .str s => s = ⟨l.toArray⟩
    | .tup xs, .tuple ds => All2 (Da n) xs ds
    | .fl xs, .list ds => All2 (Da n) xs ds
    | _, _ => False
theorem mapO_ok {K : PySem.W.Frag} {H : Hp} {ρ : List Addr} {st : Store} {n : Nat} (ih : ∀ (x y : PV) (v : V), Rep K ρ H x v → dataOf st n x = some y → ∃ d, Dp K H v d ∧ d.canLay0 = true ∧ d.depth ≤ n ∧ Da n y d) :
    ∀ (xs ys : List PV) (vs : List V), RepL K ρ H xs vs → mapO (dataOf st n) xs = some ys → ∃ ds, DpAll K H vs ds ∧ PyData.canLayAll0 ds = true ∧ PyData.depthAll ds ≤ n ∧ All2 (Da n) ys ds := by
  intro xs
  induction xs with
  | nil =>
    intro ys vs r h
    cases r
    cases h
    exact ⟨[], .nil, rfl, Nat.zero_le _, trivial⟩
  | cons x xs ihx =>
    intro ys vs r h
    cases r with
    | cons r1 r2 =>
      unfold mapO at h
      cases h1 : dataOf st n x with
      | none => rw [h1] at h; cases h
      | some y =>
        cases h2 : mapO (dataOf st n) xs with
        | none => rw [h1, h2] at h; cases h
        | some zs =>
          rw [h1, h2] at h
          cases h
          obtain ⟨d, a1, a2, a3, a4⟩ := ih x y _ r1 h1
          obtain ⟨ds, b1, b2, b3, b4⟩ := ihx zs _ r2 h2
          refine ⟨d :: ds, .cons a1 b1, ?_, ?_, a4, b4⟩
          · show (d.canLay0 && PyData.canLayAll0 ds) = true
            rw [a2, b2]
            rfl
          · show max d.depth (PyData.depthAll ds) ≤ n
            exact Nat.max_le.mpr ⟨a3, b3⟩
theorem dataOf_ok {K : PySem.W.Frag} {H : Hp} {ρ : List Addr} {st : Store} (ok : OkS K ρ st H) : ∀ (n : Nat) (x y : PV) (v : V), RepX K ρ H x v → dataOf st n x = some y → ∃ d, Dp K H v d ∧ d.canLay0 = true ∧ d.depth ≤ n ∧ Da n y d := by
  intro n
  induction n with
  | zero => intro x y v r h; cases h
  | succ n ih =>
    intro x y v r h
    have ih' : ∀ (x y : PV) (v : V), Rep K ρ H x v → dataOf st n x = some y → ∃ d, Dp K H v d ∧ d.canLay0 = true ∧ d.depth ≤ n ∧ Da n y d := fun x y v r h => ih x y v (Rep.x r) h
    have lists : ((lv st x).bind (mapO (dataOf st n))).map PV.fl = some y → ∃ d, Dp K H v d ∧ d.canLay0 = true ∧ d.depth ≤ n + 1 ∧ Da (n + 1) y d := fun h => by
      obtain ⟨ys, h1, rfl⟩ := Option.map_eq_some_iff.mp h
      obtain ⟨xs, h2, h3⟩ := Option.bind_eq_some_iff.mp h1
      obtain ⟨a, vs, rfl, h4, h5⟩ := lv_ok ok r h2
      obtain ⟨ds, b1, b2, b3, b4⟩ := mapO_ok ih' xs ys vs h5 h3
      exact ⟨.list ds, .lst h4 b1, b2, Nat.succ_le_succ b3, b4⟩
    unfold dataOf at h
    cases x with
    | non => cases h; rw [r.cases_non]; exact ⟨.none, .non, rfl, Nat.zero_le _, trivial⟩
    | bl b => cases h; rw [r.cases_bl]; exact ⟨.bool b, .bl b, rfl, Nat.zero_le _, rfl⟩
    | int i => cases h; rw [r.cases_int]; exact ⟨.int i, .int i, rfl, Nat.zero_le _, rfl⟩
    | str l =>
      dsimp only at h
      split at h
      · rename_i hc
        cases h
        rw [r.cases_str]
        refine ⟨.str ⟨l.toArray⟩, .str _, ?_, Nat.zero_le _, rfl⟩
        show (l.toArray).all (fun c => decide (c < 1114112)) = true
        rw [List.all_toArray]
        exact hc
      · cases h
    | tup xs =>
      obtain ⟨ys, h1, rfl⟩ := Option.map_eq_some_iff.mp h
      obtain ⟨a, vs, rfl, h4, h5⟩ := r.cases_tup
      obtain ⟨ds, b1, b2, b3, b4⟩ := mapO_ok ih' xs ys vs h5 h1
      exact ⟨.tuple ds, .tup h4 b1, b2, Nat.succ_le_succ b3, b4⟩
    | loc n => exact lists h
    | tl xs => exact lists h
    | fl xs => exact lists h
theorem eqDL_ok {n : Nat} (ih : ∀ x y d e, Da n x d → Da n y e → eqD n x y = PyData.eqv d e) : ∀ (xs ys : List PV) (ds es : List PyData), All2 (Da n) xs ds → All2 (Da n) ys es → eqDL (eqD n) xs ys = PyData.eqvAll ds es
  | [], [], [], [], _, _ => rfl
  | [], y :: ys, [], e :: es, _, _ => rfl
  | x :: xs, [], d :: ds, [], _, _ => rfl
  | x :: xs, y :: ys, d :: ds, e :: es, h1, h2 => by
    show (eqD n x y && eqDL (eqD n) xs ys) = (PyData.eqv d e && PyData.eqvAll ds es)
    rw [ih x y d e h1.1 h2.1, eqDL_ok ih xs ys ds es h1.2 h2.2]
  | [], _, _ :: _, _, h, _ => h.elim
  | _ :: _, _, [], _, h, _ => h.elim
  | _, [], _, _ :: _, _, h => h.elim
  | _, _ :: _, _, [], _, h => h.elim
theorem str_beq (l m : List Nat) : (l == m) = ((⟨l.toArray⟩ : Str) == (⟨m.toArray⟩ : Str)) := by
  by_cases h : l = m
  · subst h; simp
  · have h2 : ¬ (⟨l.toArray⟩ : Str) = ⟨m.toArray⟩ := by
      intro e
      have e2 := congrArg (fun s : Str => s.cps.toList) e
      exact h (by simpa using e2)
    rw [beq_eq_false_iff_ne.mpr h, beq_eq_false_iff_ne.mpr h2]
theorem eqD_ok : ∀ (n : Nat) (x y : PV) (d e : PyData), Da n x d → Da n y e → eqD n x y = PyData.eqv d e := by
  intro n
  induction n with
  | zero => intro x y d e h; exact h.elim
  | succ n ih =>
    intro x y d e h1 h2
    cases x <;> cases d <;> first | exact h1.elim | skip
    all_goals (cases y <;> cases e <;> first | exact h2.elim | skip)
    all_goals first
      | rfl
      | (cases h1; cases h2; rfl)
      | (cases h1; rfl)
      | (cases h2; rfl)
      | exact eqDL_ok ih _ _ _ _ h1 h2
      | (cases h1; cases h2; exact str_beq _ _)
      | skip
theorem eqW_data (hu : X.A.units + 64 < cLine) {ρ : List Addr} {st : Store} {H : Hp} {x y : PV} {vx vy : V} {b : Bool} (ok : OkS X.K ρ st H) (rx : RepX X.K ρ H x vx) (ry : RepX X.K ρ H y vy) (h : eqW x y st = some b) :
    (scal vx vy = true ∧ decide (vx = vy) = b) ∨ ∃ d e, Dp X.K H vx d ∧ Dp X.K H vy e ∧ SeqAt.shaped d = true ∧ SeqAt.shaped e = true ∧ PyData.eqv d e = b := by
  unfold eqW at h
  split at h
  · rename_i r hr
    cases h
    exact .inl (eqS_ok rx ry hr)
  · split at h
    · rename_i x' y' h1 h2
      cases h
      obtain ⟨d, a1, a2, a3, a4⟩ := dataOf_ok ok 60 x x' vx rx h1
      obtain ⟨e, b1, b2, b3, b4⟩ := dataOf_ok ok 60 y y' vy ry h2
      refine .inr ⟨d, e, a1, b1, ?_, ?_, (eqD_ok 60 x' y' d e a4 b4).symm⟩
      · unfold SeqAt.shaped
        rw [a2, decide_eq_true (Nat.le_trans a3 (by decide))]
        rfl
      · unfold SeqAt.shaped
        rw [b2, decide_eq_true (Nat.le_trans b3 (by decide))]
        rfl
    · cases h
theorem cmp_core (hu : X.A.units + 64 < cLine) (o : COp) {ρ : List Addr} {st : Store} {H : Hp} {x y : PV} {vx vy : V} {b : Bool} {Q : VK} (ok : OkS X.K ρ st H) (rx : RepX X.K ρ H x vx) (ry : RepX X.K ρ H y vy) (h : cmpV o x y st = some b) (q : Q (.bl b) H) :
    wO X (compareOp (copOf o)) vx vy H Q := by
  cases o with
  | eq =>
    rcases eqW_data hu ok rx ry h with ⟨h1, h2⟩ | ⟨d, e, h1, h2, h3, h4, h5⟩
    · exact wO_of op_eq ⟨h1, by rw [h2]; exact q⟩
    · exact wO_of (op_eqD hu) ⟨d, e, h1, h2, h3, h4, by rw [h5]; exact q⟩
  | ne =>
    obtain ⟨c, h1, h2⟩ := Option.map_eq_some_iff.mp h
    rcases eqW_data hu ok rx ry h1 with ⟨h1, h3⟩ | ⟨d, e, h1, h3, h4, h5, h6⟩
    · exact wO_of op_ne ⟨h1, by rw [h3, h2]; exact q⟩
    · exact wO_of (op_neD hu) ⟨d, e, h1, h3, h4, h5, by rw [h6, h2]; exact q⟩
  | lt =>
    dsimp only [cmpV] at h
    split at h
    · cases h
      rw [rx.cases_int, ry.cases_int]
      exact wO_of op_lt ⟨_, _, rfl, rfl, q⟩
    · cases h
  | le =>
    dsimp only [cmpV] at h
    split at h
    · cases h
      rw [rx.cases_int, ry.cases_int]
      exact wO_of op_le ⟨_, _, rfl, rfl, q⟩
    · cases h
  | gt =>
    dsimp only [cmpV] at h
    split at h
    · cases h
      rw [rx.cases_int, ry.cases_int]
      exact wO_of op_gt ⟨_, _, rfl, rfl, q⟩
    · cases h
  | ge =>
    dsimp only [cmpV] at h
    split at h
    · cases h
      rw [rx.cases_int, ry.cases_int]
      exact wO_of op_ge ⟨_, _, rfl, rfl, q⟩
    · cases h
  | is =>
    dsimp only [cmpV] at h
    split at h
    · rename_i hn
      cases h
      have e := isNone_eq hn
      subst e
      exact wO_of op_isN ⟨ry.cases_non, by rw [none_V rx]; exact q⟩
    · cases h
  | isnot =>
    dsimp only [cmpV] at h
    split at h
    · rename_i hn
      cases h
      have e := isNone_eq hn
      subst e
      exact wO_of op_notN ⟨ry.cases_non, by rw [none_V rx]; exact q⟩
    · cases h
  | isin => exact (in_core (by omega) ok rx ry h Q).1 q
  | notin =>
    obtain ⟨c, h1, h2⟩ := Option.map_eq_some_iff.mp h
    refine (in_core (by omega) ok rx ry h1 Q).2 ?_
    rw [h2]
    exact q
theorem simO_cmp (hu : X.A.units + 64 < cLine) (o : COp) : SimO X (compareOp (copOf o)) (fun x y st => (cmpV o x y st).map .bl) := fun ρ st H x y vx vy Q z ok rx ry h q => by
  obtain ⟨b, h1, rfl⟩ := Option.map_eq_some_iff.mp h
  exact cmp_core hu o ok rx ry h1 (q.val ok (.bl b))

/-! ### subscripts -/
theorem ixOf_eq (n : Nat) (i : Int) : ixOf n i = ixN n i := by
  unfold ixOf ixN
  by_cases h : 0 ≤ i
  · rw [if_pos h, if_pos h]
  · rw [if_neg h, if_neg h]
    by_cases c : -i ≤ (n : Int)
    · rw [if_pos c, if_pos (by omega)]
      congr 1
      omega
    · rw [if_neg c, if_neg (by omega)]
theorem item_ok {K : PySem.W.Frag} {ρ : List Addr} {H : Hp} {xs : List PV} {vs : List V} {i : Int} {x : PV} (r : RepL K ρ H xs vs) (h : itemAt xs i = some x) : ∃ v, atI vs i = some v ∧ Rep K ρ H x v := by
  unfold itemAt at h
  obtain ⟨j, h1, h2⟩ := Option.bind_eq_some_iff.mp h
  obtain ⟨v, h3, h4⟩ := r.get h2
  rw [ixOf_eq, r.length] at h1
  exact ⟨v, by unfold atI; rw [h1]; exact h3, h4⟩
theorem ix_core (hu : X.A.units + 1 < cLine) : ∀ ρ st H x y vx vy Q z, OkS X.K ρ st H → RepX X.K ρ H x vx → RepX X.K ρ H y vy → indexV x y st = some z → WantV X ρ H Q z st → ∃ r, IxR X r ∧ r vx vy H Q := fun ρ st H x y vx vy Q z ok rx ry h q => by
  have rest : indexG x y st = some z → ∃ r, IxR X r ∧ r vx vy H Q := fun h => by
    unfold indexG at h
    cases hd : dv st x with
    | some kvs =>
      rw [hd] at h
      dsimp only at h
      split at h
      · rename_i hk
        obtain ⟨a, qs, rfl, h3, h4⟩ := dv_ok ok rx hd
        obtain ⟨j, hj⟩ := keyOk_some hk
        have e := keyV_rep ry hj
        subst e
        have g := dget_ok hj h4
        rw [h] at g
        obtain ⟨v, h5, h6⟩ := g
        exact ⟨_, ir_dict hu, a, v, rfl, .inl ⟨qs, j, h3, rfl, h5.symm⟩, q.val ok h6⟩
      · cases h
    | none =>
      rw [hd] at h
      dsimp only at h
      split at h
      · rename_i i
        obtain ⟨xs, h1, h2⟩ := Option.bind_eq_some_iff.mp h
        obtain ⟨a, vs, rfl, h3, h4⟩ := sv_ok ok rx h1
        rw [ry.cases_int]
        obtain ⟨v, h5, h6⟩ := item_ok h4 h2
        rcases h3 with h3 | h3
        · exact ⟨_, ix_list, a, vs, _, v, rfl, rfl, h3, h5, q.val ok h6⟩
        · exact ⟨_, ix_tup, a, vs, _, v, rfl, rfl, h3, h5, q.val ok h6⟩
      · cases h
  cases x with
  | str l =>
    dsimp only [indexV] at h
    unfold indexS at h
    split at h
    · rename_i i
      split at h
      · rename_i hz
        obtain ⟨c, h1, rfl⟩ := Option.map_eq_some_iff.mp h
        rw [rx.cases_str, ry.cases_int]
        refine ⟨_, ix_str, ⟨l.toArray⟩, i, c, rfl, rfl, by rw [str_len]; exact SZ_le hz, ?_, q.val ok (.str [c])⟩
        unfold itemAt at h1
        rw [ixOf_eq] at h1
        exact h1
      · cases h
    · cases h
  | _ => exact rest h

/-! ### slices -/
theorem slIx_eq (n d : Nat) (o : Option Int) : slIx n d o = HT.sIx n d o := by
  cases o with
  | none => rfl
  | some i =>
    show (if 0 ≤ i then min i.toNat n else n - min (-i).toNat n) = if i < 0 then (i + (n : Int)).toNat else min i.toNat n
    by_cases h : 0 ≤ i
    · rw [if_pos h, if_neg (by omega)]
    · rw [if_neg h, if_pos (by omega)]
      omega
theorem cut_ok {K : PySem.W.Frag} {ρ : List Addr} {H : Hp} {xs : List PV} {vs : List V} (r : RepL K ρ H xs vs) (lo hi : Option Int) : RepL K ρ H (cut xs lo hi) (cutV vs lo hi) := by
  unfold cut cutV
  rw [slIx_eq, slIx_eq, r.length]
  exact (r.drop _).take _
theorem cut_whole {α : Type} {xs : List α} {lo hi : Option Int} (h : HT.sIx xs.length 0 lo = 0 ∧ HT.sIx xs.length xs.length hi = xs.length) : cut xs lo hi = xs := by
  unfold cut
  rw [slIx_eq, slIx_eq, h.1, h.2]
  simp
theorem cutS_eq (l : List Nat) (lo hi : Option Int) : cutS ⟨l.toArray⟩ lo hi = ⟨(cut l lo hi).toArray⟩ := by
  unfold cutS cut
  rw [slIx_eq, slIx_eq]
  first
    | rfl
    | simp [Str.length]
theorem sl_core : ∀ ρ st H x vx l h Q z, OkS X.K ρ st H → RepX X.K ρ H x vx → sliceG x l h st = some z → WantV X ρ H Q z st → ∃ r, SlR X r ∧ r vx l h H Q := fun ρ st H x vx l h Q z ok rx hs q => by
  have rest : ((lv st x).map fun xs => PV.tl (cut xs l h)) = some z → ∃ r, SlR X r ∧ r vx l h H Q := fun e => by
    obtain ⟨xs, h1, rfl⟩ := Option.map_eq_some_iff.mp e
    obtain ⟨a, vs, rfl, h3, h4⟩ := lv_ok ok rx h1
    exact ⟨_, sl_list, a, vs, rfl, h3, q.new ok (cut_ok h4 l h)⟩
  cases x with
  | str m =>
    dsimp only [sliceG] at hs
    split at hs
    · rename_i hz
      cases hs
      rw [rx.cases_str]
      refine ⟨_, sl_str, ⟨m.toArray⟩, rfl, by rw [str_len]; exact SZ_le hz, ?_⟩
      rw [cutS_eq]
      exact q.val ok (.str _)
    · cases hs
  | tup xs =>
    cases hs
    obtain ⟨a, vs, rfl, h2, h3⟩ := rx.cases_tup
    refine ⟨_, sl_tupA, a, vs, rfl, h2, fun w => ?_, fun _ => q.newT ok (cut_ok h3 l h)⟩
    refine q.val ok (.tup h2 ?_)
    rw [← h3.length] at w
    rw [cut_whole w]
    exact h3
  | _ => exact rest hs
end
end Vm

set_option maxHeartbeats 4000000
/-! Vm5: further expressions, tests, calls of built-in functions and methods. -/
namespace Vm
open PySem L2

section
variable {T : Tb} {X : Cx} {W : WX} {e a b c : Expr} {es : List Expr} {m ma mb mc : Env → Store → Res PV} {pos : Pos}

theorem sim_glob {x : PV} {v : V} (hr : ∀ ρ H, Rep X.K ρ H x v) (h : PE X e (tC v)) (G : Nat → Option PV) (g : Nat) (hg : G g = some x) : SimE T X W e (fun _ st => Res.of (G g) st) := fun ρ st H σ ev Q ok re q => by
  rw [hg] at q
  exact wE_of h (q ρ H v .refl ok (hr ρ H).r)

/-! ### chains, and, or, not, if -/
theorem sim_cmp2 (hu : X.A.units + 64 < cLine) (o o' : COp) (hm : lastMarks [copOf o, copOf o'] [b, c] = false) (ha : SimE T X W a ma) (hb : SimE T X W b mb) (hc : SimE T X W c mc) {ρ : List Addr} {st : Store} {H : Hp} {σ : L2.St} {ev : Env} {Q : VK}
    (ok : OkS X.K ρ st H) (re : RepE X.K ρ H ev σ)
    (q : Aft ((ma ev st).bind fun x st1 => (mb ev st1).bind fun y st2 => (Res.of (cmpV o x y st2) st2).bind fun r st3 => if r then (mc ev st3).bind fun z st4 => Res.of ((cmpV o' y z st4).map .bl) st4 else .ok (.bl false) st3) (WantV X ρ H Q) (WantX T X W ρ H σ)) :
    tChain (wO X (compareOp (copOf o))) (wO X (compareOp (copOf o'))) (wE X a) (wE X b) (wE X c) σ H Q := by
  refine ha ρ st H σ ev _ ok re ((Aft.bind q).imp (fun x st1 q1 ρ1 H1 vx g1 ok1 r1 => ?_) fun _ _ _ z => z)
  refine hb ρ1 st1 H1 σ ev _ ok1 (re.mono g1) ((Aft.bind q1).imp (fun y st2 q2 ρ2 H2 vy g2 ok2 r2 => ?_) fun _ _ _ => WantX.from g1)
  obtain ⟨k, hk, q3⟩ := (Aft.bind q2).of
  have g12 := g1.trans g2
  refine cmp_core hu o ok2 (r1.mono g2).1 r2.1 hk ⟨k, rfl, ?_⟩
  cases k with
  | false =>
    rw [if_neg Bool.false_ne_true] at q3 ⊢
    exact q3 ρ2 H2 _ g12 ok2 (Rep.r (.bl false))
  | true =>
    rw [if_pos rfl] at q3 ⊢
    refine hc ρ2 st2 H2 σ ev _ ok2 (re.mono g12) ((Aft.bind q3).imp (fun z st4 q4 ρ4 H4 vz g4 ok4 r4 => ?_) fun _ _ _ => WantX.from g12)
    obtain ⟨w, hw, q5⟩ := q4.of
    obtain ⟨d, h1, rfl⟩ := Option.map_eq_some_iff.mp hw
    exact cmp_core hu o' ok4 (r2.mono g4).1 r4.1 h1 (q5 ρ4 H4 _ (g12.trans g4) ok4 (Rep.r (.bl d)))
theorem simE_cmp2 (hu : X.A.units + 64 < cLine) (o o' : COp) (hm : lastMarks [copOf o, copOf o'] [b, c] = false) (ha : SimE T X W a ma) (hb : SimE T X W b mb) (hc : SimE T X W c mc) :
    SimE T X W (.Compare a [copOf o, copOf o'] [b, c] pos) (fun ev st => (ma ev st).bind fun x st1 => (mb ev st1).bind fun y st2 => (Res.of (cmpV o x y st2) st2).bind fun r st3 => if r then (mc ev st3).bind fun z st4 => Res.of ((cmpV o' y z st4).map .bl) st4 else .ok (.bl false) st3) :=
  fun ρ st H σ ev Q ok re q => wE_of (pe_chain or_w or_w pe_w pe_w pe_w hm) (sim_cmp2 hu o o' hm ha hb hc ok re q)
/-- a test of a value -/
theorem aft_truth {r : Res PV} {ρ : List Addr} {H : Hp} {σ : L2.St} {Q : Bool → Hp → Prop} (h : Aft (truth r) (WantB X ρ H Q) (WantX T X W ρ H σ)) : Aft r (WantV X ρ H fun v H' => ∃ k, v = .bl k ∧ Q k H') (WantX T X W ρ H σ) :=
  (Aft.bind h).imp (fun x st q ρ' H' v g ok rr => by
    cases x with
    | bl k => exact ⟨k, rr.1.cases_bl, q ρ' H' g ok⟩
    | _ => exact q.elim) fun _ _ _ z => z
theorem simT_val (he : ∀ whole, isTrue e X.env whole = (do let v ← whole; standAt e.pos; holding [v] (truthy v))) (h : SimE T X W e m) : SimT T X W e (fun ev st => truth (m ev st)) := fun ρ st H σ ev Q ok re q =>
  wT_of (pt_val pe_w he) (h ρ st H σ ev _ ok re (aft_truth q))
theorem simT_cmp {op : CmpOp} {g : PV → PV → Store → Option PV} (ho : SimO X (compareOp op) g) (hm : behindInMarks op b = false) (ha : SimE T X W a ma) (hb : SimE T X W b mb) :
    SimT T X W (.Compare a [op] [b] pos) (fun ev st => truth ((ma ev st).bind fun x st1 => (mb ev st1).bind fun y st2 => Res.of (g x y st2) st2)) := fun ρ st H σ ev Q ok re q =>
  wT_of (pt_cmpR or_w pe_w pe_w hm) (two ha hb ho ok re (aft_truth q))
theorem simT_cmp2 (hu : X.A.units + 64 < cLine) (o o' : COp) (hm : lastMarks [copOf o, copOf o'] [b, c] = false) (ha : SimE T X W a ma) (hb : SimE T X W b mb) (hc : SimE T X W c mc) :
    SimT T X W (.Compare a [copOf o, copOf o'] [b, c] pos) (fun ev st => truth ((ma ev st).bind fun x st1 => (mb ev st1).bind fun y st2 => (Res.of (cmpV o x y st2) st2).bind fun r st3 => if r then (mc ev st3).bind fun z st4 => Res.of ((cmpV o' y z st4).map .bl) st4 else .ok (.bl false) st3)) :=
  fun ρ st H σ ev Q ok re q => wT_of (pt_chain or_w or_w pe_w pe_w pe_w hm) (sim_cmp2 hu o o' hm ha hb hc ok re (aft_truth q))
theorem truth_bl (r : Res Bool) : truth (r.bind fun k st => .ok (.bl k) st) = r := by
  cases r <;> rfl
def andM (f g : Env → Store → Res PV) : Env → Store → Res PV := fun ev st => (truth (f ev st)).bind fun r st1 => if r then (truth (g ev st1)).bind fun r st2 => .ok (.bl r) st2 else .ok (.bl false) st1
def orM (f g : Env → Store → Res PV) : Env → Store → Res PV := fun ev st => (truth (f ev st)).bind fun r st1 => if r then .ok (.bl true) st1 else (truth (g ev st1)).bind fun r st2 => .ok (.bl r) st2
theorem aft_bl {r : Res PV} {ρ : List Addr} {H : Hp} {σ : L2.St} {Q : VK} (h : Aft ((truth r).bind fun k st => .ok (.bl k) st) (WantV X ρ H Q) (WantX T X W ρ H σ)) : Aft (truth r) (WantB X ρ H fun k H' => Q (.bl k) H') (WantX T X W ρ H σ) :=
  (Aft.bind h).imp (fun k st q ρ' H' g ok => q ρ' H' _ g ok (Rep.r (.bl k))) fun _ _ _ z => z
/-- the last of a chain of and, or, as a value -/
theorem simE_one {op : BoolOp} (h : SimE T X W a ma) : SimE T X W (.BoolOp op [a] pos) ma := fun ρ st H σ ev Q ok re q => wE_of (pe_one pe_w) (h ρ st H σ ev _ ok re q)
theorem simE_and {rest : List Expr} (ha : SimE T X W a ma) (hb : SimE T X W (.BoolOp .And (b :: rest) pos) mb) : SimE T X W (.BoolOp .And (a :: b :: rest) pos) (andM ma mb) := fun ρ st H σ ev Q ok re q => by
  refine wE_of (pe_and pe_w pe_w) ?_
  refine ha ρ st H σ ev _ ok re (aft_truth ((Aft.bind q).imp (fun k st1 q1 ρ1 H1 g1 ok1 => ?_) fun _ _ _ z => z))
  cases k with
  | false => exact q1 ρ1 H1 _ g1 ok1 (Rep.r (.bl false))
  | true =>
    show wE X _ σ H1 Q
    refine hb ρ1 st1 H1 σ ev _ ok1 (re.mono g1) ?_
    refine (aft_truth (aft_bl (aftV g1 q1))).imp (fun x st2 q2 ρ2 H2 v g2 ok2 r2 => ?_) fun _ _ _ z => z
    obtain ⟨k, rfl, q3⟩ := q2 ρ2 H2 v g2 ok2 r2
    exact q3
theorem simE_or {rest : List Expr} (ha : SimE T X W a ma) (hb : SimE T X W (.BoolOp .Or (b :: rest) pos) mb) : SimE T X W (.BoolOp .Or (a :: b :: rest) pos) (orM ma mb) := fun ρ st H σ ev Q ok re q => by
  refine wE_of (pe_or pe_w pe_w) ?_
  refine ha ρ st H σ ev _ ok re (aft_truth ((Aft.bind q).imp (fun k st1 q1 ρ1 H1 g1 ok1 => ?_) fun _ _ _ z => z))
  cases k with
  | true => exact q1 ρ1 H1 _ g1 ok1 (Rep.r (.bl true))
  | false =>
    show wE X _ σ H1 Q
    refine hb ρ1 st1 H1 σ ev _ ok1 (re.mono g1) ?_
    refine (aft_truth (aft_bl (aftV g1 q1))).imp (fun x st2 q2 ρ2 H2 v g2 ok2 r2 => ?_) fun _ _ _ z => z
    obtain ⟨k, rfl, q3⟩ := q2 ρ2 H2 v g2 ok2 r2
    exact q3
theorem simW_and1 {n : Env → Store → Res Bool} (h : SimT T X W a n) : SimW T X W (.BoolOp .And [a] pos) n := fun ρ st H σ ev Q ok re q => wW_of (pw_and1 pt_w) (h ρ st H σ ev _ ok re q)
theorem simW_or1 {n : Env → Store → Res Bool} (h : SimT T X W a n) : SimW T X W (.BoolOp .Or [a] pos) n := fun ρ st H σ ev Q ok re q => wW_of (pw_or1 pt_w) (h ρ st H σ ev _ ok re q)
theorem simW_and {rest : List Expr} (ha : SimT T X W a (fun ev st => truth (ma ev st))) (hb : SimW T X W (.BoolOp .And (b :: rest) pos) (fun ev st => truth (mb ev st))) : SimW T X W (.BoolOp .And (a :: b :: rest) pos) (fun ev st => truth (andM ma mb ev st)) := fun ρ st H σ ev Q ok re q => by
  refine wW_of (pw_and pt_w pw_w) ?_
  have e : truth (andM ma mb ev st) = (truth (ma ev st)).bind fun r st1 => if r then truth (mb ev st1) else .ok false st1 := by
    unfold andM
    cases truth (ma ev st) with
    | ok r st1 =>
      cases r with
      | true => exact truth_bl _
      | false => rfl
    | exc c fs st1 => rfl
    | bad => rfl
  dsimp only at q
  rw [e] at q
  refine ha ρ st H σ ev _ ok re ((Aft.bind q).imp (fun k st1 q1 ρ1 H1 g1 ok1 => ?_) fun _ _ _ z => z)
  cases k with
  | false => exact q1 ρ1 H1 g1 ok1
  | true => exact hb ρ1 st1 H1 σ ev _ ok1 (re.mono g1) (aftB g1 q1)
theorem simW_or {rest : List Expr} (ha : SimT T X W a (fun ev st => truth (ma ev st))) (hb : SimW T X W (.BoolOp .Or (b :: rest) pos) (fun ev st => truth (mb ev st))) : SimW T X W (.BoolOp .Or (a :: b :: rest) pos) (fun ev st => truth (orM ma mb ev st)) := fun ρ st H σ ev Q ok re q => by
  refine wW_of (pw_or pt_w pw_w) ?_
  have e : truth (orM ma mb ev st) = (truth (ma ev st)).bind fun r st1 => if r then .ok true st1 else truth (mb ev st1) := by
    unfold orM
    cases truth (ma ev st) with
    | ok r st1 =>
      cases r with
      | true => rfl
      | false => exact truth_bl _
    | exc c fs st1 => rfl
    | bad => rfl
  dsimp only at q
  rw [e] at q
  refine ha ρ st H σ ev _ ok re ((Aft.bind q).imp (fun k st1 q1 ρ1 H1 g1 ok1 => ?_) fun _ _ _ z => z)
  cases k with
  | true => exact q1 ρ1 H1 g1 ok1
  | false => exact hb ρ1 st1 H1 σ ev _ ok1 (re.mono g1) (aftB g1 q1)
theorem simT_W {n : Env → Store → Res Bool} (h : SimW T X W e n) : SimT T X W e n := fun ρ st H σ ev Q ok re q => wT_of (PW.pt pw_w) (h ρ st H σ ev _ ok re q)
def notM (f : Env → Store → Res PV) : Env → Store → Res PV := fun ev st => (truth (f ev st)).bind fun r st1 => .ok (.bl (!r)) st1
theorem simE_not (ha : SimE T X W a ma) (ht : SimT T X W a (fun ev st => truth (ma ev st))) : SimE T X W (.UnaryOp .Not a pos) (notM ma) := fun ρ st H σ ev Q ok re q => by
  refine wE_of (pe_not pe_w) ?_
  refine ha ρ st H σ ev _ ok re (aft_truth ((Aft.bind q).imp (fun k st1 q1 ρ1 H1 g1 ok1 => ?_) fun _ _ _ z => z))
  exact q1 ρ1 H1 _ g1 ok1 (Rep.r (.bl (!k)))
theorem simT_not (ht : SimT T X W a (fun ev st => truth (ma ev st))) : SimT T X W (.UnaryOp .Not a pos) (fun ev st => truth (notM ma ev st)) := fun ρ st H σ ev Q ok re q => by
  refine wT_of (pt_not pt_w) ?_
  have e : truth (notM ma ev st) = (truth (ma ev st)).bind fun r st1 => .ok (!r) st1 := by
    unfold notM
    cases truth (ma ev st) <;> rfl
  dsimp only at q
  rw [e] at q
  exact ht ρ st H σ ev _ ok re ((Aft.bind q).imp (fun k st1 q1 ρ1 H1 g1 ok1 => q1 ρ1 H1 g1 ok1) fun _ _ _ z => z)
theorem sim_neg (ha : SimE T X W a ma) : SimE T X W (.UnaryOp .USub a pos) (fun ev st => (ma ev st).bind fun x st1 => match x with
    | .int i => .ok (.int (-i)) st1
    | _ => .bad) := fun ρ st H σ ev Q ok re q => by
  refine wE_of (pe_un un_neg pe_w) ?_
  refine ha ρ st H σ ev _ ok re ((Aft.bind q).imp (fun x st1 q1 ρ1 H1 vx g1 ok1 r1 => ?_) fun _ _ _ z => z)
  cases x with
  | int i => exact ⟨i, r1.1.cases_int, q1 ρ1 H1 _ g1 ok1 (Rep.r (.int (-i)))⟩
  | _ => exact q1.elim
theorem sim_ite (hc : SimT T X W c (fun ev st => truth (mc ev st))) (ha : SimE T X W a ma) (hb : SimE T X W b mb) : SimE T X W (.IfExp c a b pos) (fun ev st => (truth (mc ev st)).bind fun r st1 => if r then ma ev st1 else mb ev st1) := fun ρ st H σ ev Q ok re q => by
  refine wE_of (pe_ifExp pt_w pe_w pe_w) ?_
  refine hc ρ st H σ ev _ ok re ((Aft.bind q).imp (fun k st1 q1 ρ1 H1 g1 ok1 => ?_) fun _ _ _ z => z)
  cases k with
  | true => exact ha ρ1 st1 H1 σ ev _ ok1 (re.mono g1) (aftV g1 q1)
  | false => exact hb ρ1 st1 H1 σ ev _ ok1 (re.mono g1) (aftV g1 q1)

/-! ### slices -/
def SimP (T : Tb) (X : Cx) (W : WX) (o : Option Expr) (no : Bool) (m : Env → Store → Res PV) : Prop := match o with
  | none => no = true ∧ m = fun _ st => .ok .non st
  | some e => no = false ∧ SimE T X W e m
def wP (X : Cx) (o : Option Expr) : TO := fun σ H Q => ∀ pins s, Inv X pins σ H s → wpAny (model X.prog X.w) X.A (evalPart o X.env) (fun u s' => ∃ o H', Inv X pins σ H' s' ∧ IsPart u o ∧ Q o H') X.xe s
theorem po_w {o : Option Expr} : PO X o (wP X o) := ⟨fun pins s σ H Q I h => h pins s I⟩
theorem sim_part {o : Option Expr} {no : Bool} (h : SimP T X W o no m) {ρ : List Addr} {st : Store} {H : Hp} {σ : L2.St} {ev : Env} {Q : Option Int → Hp → Prop} (ok : OkS X.K ρ st H) (re : RepE X.K ρ H ev σ)
    (q : Aft (partR no (m ev st)) (fun i st' => ∀ ρ' H', Grow X.K ρ H ρ' H' → OkS X.K ρ' st' H' → Q i H') (WantX T X W ρ H σ)) : wP X o σ H Q := by
  cases o with
  | none =>
    obtain ⟨rfl, e⟩ : no = true ∧ m = fun _ st => .ok .non st := h
    subst e
    exact fun pins s I => po_none.run pins s σ H Q I (q ρ H .refl ok)
  | some e =>
    obtain ⟨rfl, he⟩ : no = false ∧ SimE T X W e m := h
    intro pins s I
    refine (po_some pe_w).run pins s σ H Q I ?_
    refine he ρ st H σ ev _ ok re ((Aft.bind q).imp (fun x st' q1 ρ' H' v g ok' r => ?_) fun _ _ _ z => z)
    cases x with
    | int k => exact ⟨k, r.1.cases_int, q1 ρ' H' g ok'⟩
    | _ => exact q1.elim
theorem sim_sl {lo hi : Option Expr} {nl nh : Bool} {ml mh : Env → Store → Res PV} {p2 : Pos} (ha : SimE T X W a ma) (hl : SimP T X W lo nl ml) (hh : SimP T X W hi nh mh) :
    SimE T X W (.Subscript a (.Slice lo hi none p2) pos) (fun ev st => (ma ev st).bind fun x st1 => (partR nl (ml ev st1)).bind fun l st2 => (partR nh (mh ev st2)).bind fun h st3 => Res.of (sliceG x l h st3) st3) := fun ρ st H σ ev Q ok re q => by
  have hr : SlR X (fun x lo hi H Q => ∃ r, SlR X r ∧ r x lo hi H Q) := fun pins s σ H x v vl vu lo hi sl Q I rx hs pl pu ⟨r, h, q⟩ => h pins s σ H x v vl vu lo hi sl Q I rx hs pl pu q
  refine wE_of (pe_slice hr pe_w po_w po_w) ?_
  refine ha ρ st H σ ev _ ok re ((Aft.bind q).imp (fun x st1 q1 ρ1 H1 vx g1 ok1 r1 => ?_) fun _ _ _ z => z)
  refine sim_part hl ok1 (re.mono g1) ((Aft.bind q1).imp (fun l st2 q2 ρ2 H2 g2 ok2 => ?_) fun _ _ _ => WantX.from g1)
  have g12 := g1.trans g2
  refine sim_part hh ok2 (re.mono g12) ((Aft.bind q2).imp (fun h st3 q3 ρ3 H3 g3 ok3 => ?_) fun _ _ _ => WantX.from g12)
  obtain ⟨z, hz, q4⟩ := q3.of
  exact sl_core ρ3 st3 H3 x vx l h Q z ok3 (r1.mono (g2.trans g3)).1 hz (WantV.from (g12.trans g3) q4)

/-! ### calls of built-in functions -/
def bltId : Blt → Value
  | .len => .builtin "len" | .abs => .builtin "abs" | .int => .type "int" | .str => .type "str" | .tuple => .type "tuple" | .list => .type "list"
  | .sum => .builtin "sum" | .max => .builtin "max" | .min => .builtin "min" | .dict => .type "dict"
def bltName : Blt → Str
  | .len => "len" | .abs => "abs" | .int => "int" | .str => "str" | .tuple => "tuple" | .list => "list"
  | .sum => "sum" | .max => "max" | .min => "min" | .dict => "dict"
theorem boot_blt : ∀ f : Blt, bootBuiltins (bltName f) = some (bltId f) := by
  intro f
  cases f <;> decide +kernel
theorem blt_name (f : Blt) : bltName f ≠ "__name__" ∧ (bltName f == ("__debug__" : Str)) = false := by
  cases f <;> decide
/-- a call of a built-in function or type by its name -/
theorem pe_blt {f : Blt} {r : List V → Hp → VK → Prop} {t : TA} {p : Pos} (hc : CallR X (bltId f) r) (hg : Gl X (bltName f)) (hm : X.mg (bltName f) = none) (ha : PA X (e :: es) t)
    (he : starEach (e :: es) X.env = (false, eval e X.env) :: starEach es X.env) (hpl : (backTo pos (starEach es X.env)).any (·.1) = false) : PE X (.Call (.Name (bltName f) p) (e :: es) [] pos) (tCB r t) := by
  have hv := boot_blt f
  obtain ⟨n1, n2⟩ := blt_name f
  cases f with
  | len => exact pe_callB hc hg hm hv ha n1 n2 he hpl
  | abs => exact pe_callB hc hg hm hv ha n1 n2 he hpl
  | sum => exact pe_callB hc hg hm hv ha n1 n2 he hpl
  | max => exact pe_callB hc hg hm hv ha n1 n2 he hpl
  | min => exact pe_callB hc hg hm hv ha n1 n2 he hpl
  | int => exact pe_callTy hc hg hm hv ha n1 n2 he hpl
  | str => exact pe_callTy hc hg hm hv ha n1 n2 he hpl
  | tuple => exact pe_callTy hc hg hm hv ha n1 n2 he hpl
  | list => exact pe_callTy hc hg hm hv ha n1 n2 he hpl
  | dict => exact pe_callTy hc hg hm hv ha n1 n2 he hpl
theorem star_nil {env : PySem.Env} {pos : Pos} : (backTo pos (starEach [] env)).any (·.1) = false := rfl
theorem sim_blt1 {f : Blt} {p : Pos} (hg : Gl X (bltName f)) (hm : X.mg (bltName f) = none) (hs : starEach [a] X.env = (false, eval a X.env) :: starEach [] X.env)
    (hf : SimC1 X (bltId f) (blt1 f)) (ha : SimE T X W a ma) : SimE T X W (.Call (.Name (bltName f) p) [a] [] pos) (fun ev st => (ma ev st).bind fun x st1 => Res.of (blt1 f x st1) st1) := fun ρ st H σ ev Q ok re q => by
  refine wE_of (pe_blt cr_w hg hm (pa_cons pe_w pa_nil hs) hs star_nil) ?_
  refine ha ρ st H σ ev _ ok re ((Aft.bind q).imp (fun x st1 q1 ρ1 H1 vx g1 ok1 r1 => ?_) fun _ _ _ z => z)
  obtain ⟨z, hz, q2⟩ := q1.of
  exact hf ρ1 st1 H1 x vx Q z ok1 r1.1 hz (WantV.from g1 q2)
theorem sim_blt2 {f : Blt} {p : Pos} (hg : Gl X (bltName f)) (hm : X.mg (bltName f) = none) (hs : starEach [a, b] X.env = (false, eval a X.env) :: starEach [b] X.env) (hs2 : starEach [b] X.env = (false, eval b X.env) :: starEach [] X.env)
    (hf : SimC2 X (bltId f) (blt2 f)) (ha : SimE T X W a ma) (hb : SimE T X W b mb) : SimE T X W (.Call (.Name (bltName f) p) [a, b] [] pos) (fun ev st => (ma ev st).bind fun x st1 => (mb ev st1).bind fun y st2 => Res.of (blt2 f x y) st2) := fun ρ st H σ ev Q ok re q => by
  refine wE_of (pe_blt cr_w hg hm (pa_cons pe_w (pa_cons pe_w pa_nil hs2) hs) hs (by rw [hs2]; rfl)) ?_
  refine ha ρ st H σ ev _ ok re ((Aft.bind q).imp (fun x st1 q1 ρ1 H1 vx g1 ok1 r1 => ?_) fun _ _ _ z => z)
  refine hb ρ1 st1 H1 σ ev _ ok1 (re.mono g1) ((Aft.bind q1).imp (fun y st2 q2 ρ2 H2 vy g2 ok2 r2 => ?_) fun _ _ _ => WantX.from g1)
  obtain ⟨z, hz, q3⟩ := q2.of
  exact hf ρ2 st2 H2 x y vx vy Q z ok2 (r1.mono g2).1 r2.1 hz (WantV.from (g1.trans g2) q3)

theorem intsOf_ok {K : PySem.W.Frag} {ρ : List Addr} {H : Hp} : ∀ {xs : List PV} {vs : List V} {ns : List Int}, RepL K ρ H xs vs → intsOf xs = some ns → vs = ns.map V.int
  | _, _, _, .nil, h => by cases h; rfl
  | .int i :: _, _, _, .cons r t, h => by
    obtain ⟨ms, h1, h2⟩ := Option.map_eq_some_iff.mp h
    rw [← h2, r.x.cases_int, intsOf_ok t h1]
    rfl
  | .non :: _, _, _, .cons r t, h => by cases h
  | .bl _ :: _, _, _, .cons r t, h => by cases h
  | .str _ :: _, _, _, .cons r t, h => by cases h
  | .tup _ :: _, _, _, .cons r t, h => by cases h
  | .loc _ :: _, _, _, .cons r t, h => by cases h
  | .tl _ :: _, _, _, .cons r t, h => by cases h
  | .fl _ :: _, _, _, .cons r t, h => by cases h
theorem digit_ok (n : Nat) (h : n < 10) : (Nat.digitChar n).toNat = 48 + n := by
  match n, h with
  | 0, _ => rfl
  | 1, _ => rfl
  | 2, _ => rfl
  | 3, _ => rfl
  | 4, _ => rfl
  | 5, _ => rfl
  | 6, _ => rfl
  | 7, _ => rfl
  | 8, _ => rfl
  | 9, _ => rfl
theorem digits_ok : ∀ (f n : Nat), n < 10 ^ (f + 1) → (Nat.toDigits 10 n).map Char.toNat = digitsN (f + 1) n
  | f, n, h => by
    unfold digitsN
    by_cases c : n < 10
    · rw [if_pos c, Nat.toDigits_of_lt_base c, List.map_singleton, digit_ok n c]
    · rw [if_neg c, Nat.toDigits_of_base_le (by decide) (by omega), List.map_append, List.map_singleton, digit_ok _ (Nat.mod_lt _ (by decide))]
      cases f with
      | zero => rw [Nat.zero_add, Nat.pow_one] at h; omega
      | succ f => rw [digits_ok f (n / 10) (by rw [Nat.pow_succ] at h; omega)]
theorem numStr_ok {i : Int} {l : List Nat} (h : numStr i = some l) : (Str.ofString (toString i)) = ⟨l.toArray⟩ ∧ i.natAbs.log2 < 1920 := by
  unfold numStr at h
  split at h
  · rename_i c
    cases h
    obtain ⟨n, rfl⟩ := Int.eq_ofNat_of_zero_le c.1
    have hn : n < 10 ^ (10 + 1) := by have := c.2; omega
    refine ⟨?_, ?_⟩
    · rw [Str.ofString_eq_toList, Int.toString_eq_repr, Int.repr_eq_if, if_pos c.1, Nat.toList_repr, Int.toNat_natCast, digits_ok 10 n hn]
    · rw [Int.natAbs_natCast]
      by_cases z : n = 0
      · subst z
        decide
      · have h40 : n.log2 < 40 := by
          rw [Nat.log2_lt z]
          exact Nat.lt_of_lt_of_le hn (by decide)
        omega
  · cases h
theorem simC1_len (hc : X.calm = true) : SimC1 X (.builtin "len") (blt1 .len) := fun ρ st H x v Q z ok r h q => by
  obtain ⟨n, h1, rfl⟩ := Option.map_eq_some_iff.mp h
  have rest : (match dv st x with
    | some kvs => some (kvs.length : Int)
    | none => (sv st x).map fun xs => (xs.length : Int)) = some n → wC X (.builtin "len") [v] H Q := fun h1 => by
    cases hd : dv st x with
    | some kvs =>
      rw [hd] at h1
      cases h1
      obtain ⟨a, qs, rfl, h3, h4⟩ := dv_ok ok r hd
      refine fun pins s σ us I rx => ?_
      obtain ⟨u, rfl, ru⟩ := vals1 rx
      cases ru
      exact d_len I h3 fun t s' I' => ⟨.int qs.length, H, I', ⟨t, rfl⟩, by rw [← h4.length]; exact q.val ok (.int _)⟩
    | none =>
      rw [hd] at h1
      obtain ⟨xs, h2, rfl⟩ := Option.map_eq_some_iff.mp h1
      obtain ⟨a, vs, rfl, h3, h4⟩ := sv_ok ok r h2
      exact wC_of call_len_seq ⟨a, vs, rfl, h3, by rw [← h4.length]; exact q.val ok (.int _)⟩
  cases x with
  | str l =>
    unfold lenV at h1
    dsimp only at h1
    split at h1
    · rename_i hz
      cases h1
      rw [r.cases_str]
      exact wC_of call_len_str ⟨_, rfl, by rw [str_len]; exact SZ_le hz, by rw [str_len]; exact q.val ok (.int _)⟩
    · cases h1
  | _ => exact rest h1
theorem simC1_abs : SimC1 X (.builtin "abs") (blt1 .abs) := fun ρ st H x v Q z ok r h q => by
  cases x with
  | int i =>
    cases h
    rw [r.cases_int]
    exact wC_of call_abs ⟨i, rfl, q.val ok (.int _)⟩
  | _ => cases h
theorem simC1_int : SimC1 X (.type "int") (blt1 .int) := fun ρ st H x v Q z ok r h q => by
  cases x with
  | int i =>
    cases h
    rw [r.cases_int]
    exact wC_of call_int1 (.inl ⟨i, rfl, q.val ok (.int _)⟩)
  | bl b =>
    cases h
    rw [r.cases_bl]
    exact wC_of call_int1 (.inr ⟨b, rfl, q.val ok (.int _)⟩)
  | _ => cases h
theorem simC1_str : SimC1 X (.type "str") (blt1 .str) := fun ρ st H x v Q z ok r h q => by
  cases x with
  | int i =>
    obtain ⟨l, h1, rfl⟩ := Option.map_eq_some_iff.mp h
    obtain ⟨e, hb⟩ := numStr_ok h1
    rw [r.cases_int]
    refine wC_of call_str_int ⟨i, rfl, hb, ?_⟩
    have e2 : ((toString i : String) : Str) = ⟨l.toArray⟩ := e
    rw [e2]
    exact q.val ok (.str l)
  | _ => cases h
theorem simC1_tuple : SimC1 X (.type "tuple") (blt1 .tuple) := fun ρ st H x v Q z ok r h q => by
  obtain ⟨xs, h1, rfl⟩ := Option.map_eq_some_iff.mp h
  obtain ⟨a, vs, rfl, h3, h4⟩ := sv_ok ok r h1
  refine wC_of call_tuple_of ⟨a, vs, rfl, ?_⟩
  rcases h3 with h3 | h3
  · exact .inl ⟨h3, q.newT ok h4⟩
  · exact .inr ⟨h3, q.val ok (.tup h3 h4)⟩
theorem simC1_list : SimC1 X (.type "list") (blt1 .list) := fun ρ st H x v Q z ok r h q => by
  obtain ⟨xs, h1, rfl⟩ := Option.map_eq_some_iff.mp h
  obtain ⟨a, vs, rfl, h3, h4⟩ := sv_ok ok r h1
  exact wC_of call_list_of ⟨a, vs, rfl, h3, q.new ok h4⟩
theorem simC1_sum (hc : X.calm = true) : SimC1 X (.builtin "sum") (blt1 .sum) := fun ρ st H x v Q z ok r h q => by
  obtain ⟨n, h1, rfl⟩ := Option.map_eq_some_iff.mp h
  obtain ⟨ns, h2, rfl⟩ := Option.map_eq_some_iff.mp h1
  obtain ⟨xs, h3, h4⟩ := Option.bind_eq_some_iff.mp h2
  obtain ⟨a, vs, rfl, h5, h6⟩ := lv_ok ok r h3
  have e := intsOf_ok h6 h4
  subst e
  exact wC_of (cr_sum hc) ⟨a, ns, rfl, h5, q.val ok (.int _)⟩
theorem simC1_bad {f : Value} {g : PV → Store → Option PV} (h : ∀ x st, g x st = none) : SimC1 X f g := fun ρ st H x v Q z ok r e q => by rw [h] at e; cases e
theorem simC1_all (hc : X.calm = true) : ∀ f : Blt, SimC1 X (bltId f) (blt1 f)
  | .len => simC1_len hc | .abs => simC1_abs | .int => simC1_int | .str => simC1_str | .tuple => simC1_tuple | .list => simC1_list
  | .sum => simC1_sum hc | .max => simC1_bad fun _ _ => rfl | .min => simC1_bad fun _ _ => rfl | .dict => simC1_bad fun _ _ => rfl
theorem simC2_all (hc : X.calm = true) (f : Blt) : SimC2 X (bltId f) (blt2 f) := fun ρ st H x y v w Q z ok rx ry h q => by
  cases f with
  | max =>
    unfold blt2 at h
    split at h
    · cases h
      rw [rx.cases_int, ry.cases_int]
      exact wC_of (call_max2 hc) ⟨_, _, rfl, q.val ok (.int _)⟩
    · rename_i e; cases e
    · cases h
  | min =>
    unfold blt2 at h
    split at h
    · rename_i e; cases e
    · cases h
      rw [rx.cases_int, ry.cases_int]
      exact wC_of (call_min2 hc) ⟨_, _, rfl, q.val ok (.int _)⟩
    · cases h
  | _ => cases h

/-! ### isinstance -/
def tyName : Ty → Str
  | .int => "int" | .bool => "bool" | .str => "str" | .list => "list" | .tuple => "tuple"
def tyStr : Ty → String
  | .int => "int" | .bool => "bool" | .str => "str" | .list => "list" | .tuple => "tuple"
theorem boot_ty : ∀ t : Ty, bootBuiltins (tyName t) = some (.type (tyStr t)) := by
  intro t
  cases t <;> decide +kernel
theorem ty_name (t : Ty) : tyName t ≠ "__name__" ∧ (tyName t == ("__debug__" : Str)) = false := by
  cases t <;> decide
def tagStr : Tag → String
  | .non => "NoneType" | .bl => "bool" | .int => "int" | .str => "str" | .tup => "tuple" | .lst => "list" | .dic => "dict"
theorem tyX_ok {K : PySem.W.Frag} {ρ : List Addr} {H : Hp} {st : Store} {x : PV} {v : V} {s : Tag} (ok : OkS K ρ st H) (r : RepX K ρ H x v) (h : tagOf x st = some s) : TyX K H v (.type (tagStr s)) := by
  cases x with
  | non => cases h; rw [r.cases_non]; exact .base .non
  | bl b => cases h; rw [r.cases_bl]; exact .base (.bl b)
  | int i => cases h; rw [r.cases_int]; exact .base (.int i)
  | str l => cases h; rw [r.cases_str]; exact .base (.str _)
  | tup xs =>
    cases h
    obtain ⟨a, vs, rfl, h2, _⟩ := r.cases_tup
    rcases h2 with (h2 | ⟨o, h2⟩) | ⟨o, its, n, h2, h3, _⟩
    · exact .base (.tup h2)
    · exact .fTuple h2
    · exact .kTuple h2 h3
  | loc n =>
    obtain ⟨a, rfl, ha⟩ := r.cases_loc
    dsimp only [tagOf] at h
    split at h
    · rename_i ys e
      cases h
      obtain ⟨vs, h1, h2⟩ := ok.cell _ a _ ha e
      exact .base (.lst h1)
    · rename_i ys e
      cases h
      obtain ⟨qs, h1, h2⟩ := ok.cell _ a _ ha e
      exact .base (.dK h1)
    · cases h
  | tl xs => cases h
  | fl xs => cases h
theorem kit_tag (t : Ty) (s : Tag) : kitB (tagStr s) (tyStr t) = some (isTag t s) := by
  cases t <;> cases s <;> decide +kernel
theorem isTy_tyOf {t : Ty} {x : PV} {st : Store} {b : Bool} (h : isTy t x st = some b) : ∃ s, tagOf x st = some s ∧ kitB (tagStr s) (tyStr t) = some b := by
  obtain ⟨s, h1, rfl⟩ := Option.map_eq_some_iff.mp h
  exact ⟨s, h1, kit_tag t s⟩
theorem sim_isi {t : Ty} {p p2 : Pos} (hg : Gl X "isinstance") (hm : X.mg "isinstance" = none) (hgt : Gl X (tyName t)) (hmt : X.mg (tyName t) = none)
    (hs : starEach [a, .Name (tyName t) p2] X.env = (false, eval a X.env) :: starEach [.Name (tyName t) p2] X.env) (ha : SimE T X W a ma) :
    SimE T X W (.Call (.Name "isinstance" p) [a, .Name (tyName t) p2] [] pos) (fun ev st => (ma ev st).bind fun x st1 => Res.of ((isTy t x st1).map .bl) st1) := fun ρ st H σ ev Q ok re q => by
  obtain ⟨n1, n2⟩ := ty_name t
  refine wE_of (pe_callB call_isi hg hm (by decide +kernel) (pa_cons pe_w (pa_cons (pe_bltn (v := .ty (tyStr t)) hgt hmt (boot_ty t) rfl n1 n2) pa_nil rfl) hs) (by decide) (by decide) hs rfl) ?_
  refine ha ρ st H σ ev _ ok re ((Aft.bind q).imp (fun x st1 q1 ρ1 H1 vx g1 ok1 r1 => ?_) fun _ _ _ z => z)
  obtain ⟨z, hz, q2⟩ := q1.of
  obtain ⟨b, h1, rfl⟩ := Option.map_eq_some_iff.mp hz
  obtain ⟨s, h2, h3⟩ := isTy_tyOf h1
  exact ⟨vx, .ty (tyStr t), _, _, b, rfl, .ty _, tyX_ok ok1 r1.1 h2, kit_ty h3, q2 ρ1 H1 _ g1 ok1 (Rep.r (.bl b))⟩
end
end Vm

set_option maxHeartbeats 4000000
/-! Vm6: methods of built-in types, dicts made, what is gone through, comprehensions. -/
namespace Vm
open PySem L2

section
variable {T : Tb} {X : Cx} {W : WX} {e a b c : Expr} {es : List Expr} {m ma mb mc : Env → Store → Res PV} {pos : Pos}

/-! ### methods -/
theorem aft_mthR {o : Option (PV × Store)} {P : PV → Store → Prop} {E : Nat → List (Nat × PV) → Store → Prop} (h : Aft (mthR o) P E) : ∃ v st, o = some (v, st) ∧ P v st := by
  cases o with
  | none => exact h.elim
  | some p => exact ⟨p.1, p.2, rfl, h⟩
theorem sim_pop {apos cpos : Pos} (hb : attributeBase a "pop" X.env (eval a X.env) = eval a X.env) (hl : (apos.endLine == cpos.line) = true) (ha : SimE T X W a ma) :
    SimE T X W (.Call (.Attribute a "pop" apos) [] [] cpos) (fun ev st => (ma ev st).bind fun x st1 => mthR (mth0 .pop x st1)) := fun ρ st H σ ev Q ok re q => by
  refine wE_of (pe_bm0 PySem.F.plainAttrs_list PySem.F.slot_list_pop PySem.F.type_list_pop mt_pop pe_w hb hl) ?_
  refine ha ρ st H σ ev _ ok re ((Aft.bind q).imp (fun x st1 q1 ρ1 H1 vx g1 ok1 r1 => ?_) fun _ _ _ z => z)
  obtain ⟨v, st2, h1, q2⟩ := aft_mthR q1
  dsimp only [mth0] at h1
  cases hm : lm st1 x with
  | none => rw [hm] at h1; cases h1
  | some p =>
    obtain ⟨n, xs⟩ := p
    rw [hm] at h1
    obtain ⟨y, hy, h1⟩ := Option.map_eq_some_iff.mp h1
    cases h1
    obtain ⟨d, vs, rfl, h2, h3, h4⟩ := lm_ok ok1 r1.1 hm
    obtain ⟨w, h5, h6⟩ := h4.get hy
    have gw : Grow X.K ρ1 H1 ρ1 (upd H1 d (.lst vs.dropLast)) := Grow.write ok1 h2
    refine ⟨.inl ⟨rfl, vs, SqL.of h3⟩, d, vs, w, rfl, rfl, h3, by rw [← h4.length]; exact h5, ?_⟩
    exact q2 ρ1 _ _ (g1.trans gw) (ok1.write h2 ⟨_, upd_same, h4.dropLast.mono gw⟩) (Rep.r (h6.mono gw))
theorem sim_reverse {apos cpos : Pos} (hb : attributeBase a "reverse" X.env (eval a X.env) = eval a X.env) (hl : (apos.endLine == cpos.line) = true) (ha : SimE T X W a ma) :
    SimE T X W (.Call (.Attribute a "reverse" apos) [] [] cpos) (fun ev st => (ma ev st).bind fun x st1 => mthR (mth0 .reverse x st1)) := fun ρ st H σ ev Q ok re q => by
  refine wE_of (pe_bm0 PySem.F.plainAttrs_list PySem.F.slot_list_reverse PySem.F.type_list_reverse mt_reverse pe_w hb hl) ?_
  refine ha ρ st H σ ev _ ok re ((Aft.bind q).imp (fun x st1 q1 ρ1 H1 vx g1 ok1 r1 => ?_) fun _ _ _ z => z)
  obtain ⟨v, st2, h1, q2⟩ := aft_mthR q1
  dsimp only [mth0] at h1
  cases hm : lm st1 x with
  | none => rw [hm] at h1; cases h1
  | some p =>
    obtain ⟨n, xs⟩ := p
    rw [hm] at h1
    cases h1
    obtain ⟨d, vs, rfl, h2, h3, h4⟩ := lm_ok ok1 r1.1 hm
    have gw : Grow X.K ρ1 H1 ρ1 (upd H1 d (.lst vs.reverse)) := Grow.write ok1 h2
    refine ⟨.inl ⟨rfl, vs, SqL.of h3⟩, d, vs, rfl, rfl, h3, ?_⟩
    exact q2 ρ1 _ _ (g1.trans gw) (ok1.write h2 ⟨_, upd_same, h4.reverse.mono gw⟩) (Rep.r .non)
theorem sim_append {apos cpos : Pos} (hb : attributeBase a "append" X.env (eval a X.env) = eval a X.env) (hl : (apos.endLine == cpos.line) = true)
    (hs : starEach [b] X.env = (false, eval b X.env) :: starEach [] X.env) (ha : SimE T X W a ma) (hbb : SimE T X W b mb) :
    SimE T X W (.Call (.Attribute a "append" apos) [b] [] cpos) (fun ev st => (ma ev st).bind fun x st1 => guardR (mOk .append x st1) <| (fixR (mb ev st1)).bind fun y st2 => mthR (mth1 .append x y st2)) := fun ρ st H σ ev Q ok re q => by
  refine wE_of (pe_bm PySem.F.plainAttrs_list PySem.F.slot_list_append PySem.F.type_list_append mt_append pe_w (pa_cons pe_w pa_nil hs) hb (by rw [hs]; rfl) hl hs rfl) ?_
  refine ha ρ st H σ ev _ ok re ((Aft.bind q).imp (fun x st1 q1 ρ1 H1 vx g1 ok1 r1 => ?_) fun _ _ _ z => z)
  obtain ⟨h0, q1⟩ := q1.guard
  obtain ⟨⟨n0, xs0⟩, hm0⟩ := Option.isSome_iff_exists.mp (show (lm st1 x).isSome = true from h0)
  obtain ⟨d0, vs0, rfl, _, h30, _⟩ := lm_ok ok1 r1.1 hm0
  refine ⟨.inl ⟨rfl, vs0, SqL.of h30⟩, ?_⟩
  refine hbb ρ1 st1 H1 σ ev _ ok1 (re.mono g1) ((aft_fixB (X := X) q1 (fun y st2 q2 ρ2 H2 vy g2 ok2 r2 => ?_)).imp (fun _ _ z => z) fun _ _ _ => WantX.from g1)
  obtain ⟨v, st3, h1, q3⟩ := aft_mthR q2
  dsimp only [mth1] at h1
  cases hm : lm st2 x with
  | none => rw [hm] at h1; cases h1
  | some p =>
    obtain ⟨n, xs⟩ := p
    rw [hm] at h1
    obtain ⟨hz, h1⟩ := guardO_some h1
    cases h1
    obtain ⟨d, vs, e, h2, h3, h4⟩ := lm_ok ok2 (r1.1.mono g2) hm
    cases e
    have gw : Grow X.K ρ2 H2 ρ2 (upd H2 d0 (.lst (vs ++ [vy]))) := Grow.write ok2 h2
    refine ⟨d0, vs, vy, rfl, rfl, h3, by rw [← h4.length]; exact SZ_lt (of_decide_eq_true hz), ?_⟩
    exact q3 ρ2 _ _ ((g1.trans g2).trans gw) (ok2.write h2 ⟨_, upd_same, (h4.snoc r2).mono gw⟩) (Rep.r .non)

/-! ### dicts -/
theorem sim_dnew : SimE T X W (.Dict [] [] pos) (fun _ st => .ok (.loc st.length) (st ++ [.dic false []])) := fun ρ st H σ ev Q ok re q => by
  refine wE_of pe_dnewK fun p hp => ?_
  have g := Grow.new (K := X.K) (o := HO.dK []) ok hp
  have ok1 := ok.new (o := HO.dK []) hp
  refine q (ρ ++ [p]) _ _ (g.place (st := st) hp) (ok1.place (ok.notfree hp) (c := .dic false []) ⟨[], upd_same, .nil⟩) (Rep.r (.loc ?_))
  rw [← ok.len, List.getElem?_append_right (Nat.le_refl _), Nat.sub_self]
  rfl
theorem RepD.pairs {K : PySem.W.Frag} {ρ : List Addr} {H : Hp} : ∀ {kvs : List (PV × PV)} {qs : List (Key × V)} {ts : List Addr}, RepD K ρ H kvs qs → Paired (fun (t : Addr) (q : Key × V) => H t = some (.tup [kV q.1, q.2])) ts qs → RepL K ρ H (kvs.map fun p => .tup [p.1, p.2]) (ts.map V.ref)
  | _, _, _, .nil, .nil => .nil
  | (p :: ps), _, _, .cons e r t, .cons h s => .cons (.tup (.inl (.inl h)) (.cons (by
      cases hp : p.1 with
      | int i => rw [hp] at e; cases e; exact .int i
      | str l => rw [hp] at e; cases e; exact .str l
      | _ => rw [hp] at e; cases e) (.cons r .nil))) (RepD.pairs t s)
theorem sim_ditems {p apos cpos : Pos} (hc : X.calm = true) (hg : Gl X "list") (hm : X.mg "list" = none) (hb : attributeBase a "items" X.env (eval a X.env) = eval a X.env) (hl : (apos.endLine == cpos.line) = true) (ha : SimE T X W a ma) :
    SimE T X W (.Call (.Name "list" p) [.Call (.Attribute a "items" apos) [] [] cpos] [] pos) (fun ev st => (ma ev st).bind fun x st1 => Res.of ((dm st1 x).map fun kvs => .tl (kvs.map fun p => .tup [p.1, p.2])) st1) := fun ρ st H σ ev Q ok re q => by
  refine wE_of (LiI.pe_listItems hc pe_w hg hm (by decide +kernel) hb hl rfl) ?_
  refine ha ρ st H σ ev _ ok re ((Aft.bind q).imp (fun x st1 q1 ρ1 H1 vx g1 ok1 r1 => ?_) fun _ _ _ z => z)
  obtain ⟨z, hz, q2⟩ := q1.of
  obtain ⟨kvs, h1, rfl⟩ := Option.map_eq_some_iff.mp hz
  obtain ⟨d, qs, rfl, h2, h3⟩ := dm_ok ok1 r1.1 h1
  refine ⟨d, qs, rfl, h2, fun H' p ts hk hp ht hpt hl' hT => ?_⟩
  have g2 : Grow X.K ρ1 H1 ρ1 H' := by
    refine ⟨⟨[], by simp⟩, fun a xs r => ?_, fun a xs r => ?_, fun a o r n => ⟨hk _ _ r, n⟩, fun a r => ?_⟩
    · rcases r with (r | ⟨o, r⟩) | r
      · exact .inl (.inl (hk _ _ r))
      · exact .inl (.inr ⟨o, hk _ _ r⟩)
      · exact .inr r
    · rcases r with ⟨o, r⟩ | r
      · exact .inl ⟨o, hk _ _ r⟩
      · exact .inr r
    · cases ho : H1 a with
      | none => rfl
      | some o => rw [hk _ _ ho] at r; cases r
  have ok2 : OkS X.K ρ1 st1 H' := ok1.grow g2 fun a ha => by
    obtain ⟨i, c, _, _, hcell⟩ := ok1.mem ha
    obtain ⟨o, ho⟩ := hcell.some
    rw [ho, hk _ _ ho]
  refine q2 ρ1 H' _ (g1.trans g2) ok2 ⟨⟨p, ts.map V.ref, rfl, hl', ok1.notfree hp, (h3.mono g2).pairs hT⟩, fun _ _ => ⟨p, rfl, g1.back _ hp⟩⟩
theorem pairsOf_ok {K : PySem.W.Frag} {ρ : List Addr} {H : Hp} : ∀ {xs : List PV} {vs : List V} {kvs : List (PV × PV)}, RepL K ρ H xs vs → pairsOf xs = some kvs → ∃ ps qs, vs = ps.map V.ref ∧ Paired (fun (p : Addr) (kv : Key × V) => SqT K H p [kV kv.1, kv.2]) ps qs ∧ RepD K ρ H kvs qs := by
  intro xs
  induction xs with
  | nil =>
    intro vs kvs r h
    cases r
    cases h
    exact ⟨[], [], rfl, .nil, .nil⟩
  | cons x xs ih =>
    intro vs kvs r h
    cases r with
    | cons r t =>
      unfold pairsOf at h
      split at h
      · rename_i e; cases e
      · rename_i k v rest e
        cases e
        split at h
        · rename_i hk
          obtain ⟨more, h1, rfl⟩ := Option.map_eq_some_iff.mp h
          obtain ⟨ps, qs, rfl, h2, h3⟩ := ih t h1
          obtain ⟨d, vs, rfl, h4, h5⟩ := r.x.cases_tup
          cases h5 with
          | cons ra rt =>
            cases rt with
            | cons rb rn =>
              cases rn
              obtain ⟨j, hj⟩ := keyOk_some hk
              have e := keyV_rep ra.x hj
              subst e
              exact ⟨d :: ps, (j, _) :: qs, rfl, .cons h4 h2, .cons hj rb h3⟩
        · cases h
      · cases h
theorem merge_ok {K : PySem.W.Frag} {ρ : List Addr} {H : Hp} : ∀ {kvs : List (PV × PV)} {qs : List (Key × V)} {acc : List (PV × PV)} {bs : List (Key × V)}, RepD K ρ H kvs qs → RepD K ρ H acc bs → RepD K ρ H (kvs.foldl (fun acc p => dput acc p.1 p.2) acc) (mergeK bs qs)
  | _, _, _, _, .nil, h => h
  | _, _, _, _, .cons e r t, h => by
    rw [List.foldl_cons]
    have q := merge_ok t (dput_ok e r h)
    exact q
theorem sim_dict1 {p : Pos} (hc : X.calm = true) (hg : Gl X "dict") (hm : X.mg "dict" = none) (hs : starEach [a] X.env = (false, eval a X.env) :: starEach [] X.env) (ha : SimE T X W a ma) :
    SimE T X W (.Call (.Name "dict" p) [a] [] pos) (fun ev st => (ma ev st).bind fun x st1 => dict1R ((lv st1 x).bind pairsOf) st1) := fun ρ st H σ ev Q ok re q => by
  refine wE_of (pe_callTy (call_dictP hc) hg hm (by decide +kernel) (pa_cons pe_w pa_nil hs) (by decide) (by decide) hs rfl) ?_
  refine ha ρ st H σ ev _ ok re ((Aft.bind q).imp (fun x st1 q1 ρ1 H1 vx g1 ok1 r1 => ?_) fun _ _ _ z => z)
  cases hz : (lv st1 x).bind pairsOf with
  | none => rw [hz] at q1; exact q1.elim
  | some kvs =>
    rw [hz] at q1
    obtain ⟨xs, h1, h2⟩ := Option.bind_eq_some_iff.mp hz
    obtain ⟨d, vs, rfl, h3, h4⟩ := lv_ok ok1 r1.1 h1
    obtain ⟨ps, qs, rfl, h5, h6⟩ := pairsOf_ok h4 h2
    refine ⟨d, ps, qs, rfl, h3, h5, fun p hp => ?_⟩
    have g2 := Grow.new (K := X.K) (o := HO.dK (mergeK [] qs)) ok1 hp
    have ok2 := ok1.new (o := HO.dK (mergeK [] qs)) hp
    refine q1 (ρ1 ++ [p]) _ _ ((g1.trans g2).place (st := st1) (g1.back _ hp)) (ok2.place (ok1.notfree hp) (c := .dic false _) ⟨_, upd_same, (merge_ok h6 .nil).mono g2⟩) (Rep.r (.loc ?_))
    rw [← ok1.len, List.getElem?_append_right (Nat.le_refl _), Nat.sub_self]
    rfl

/-! ### what is gone through -/
def wI (X : Cx) (tg iter : Expr) : TI := fun σ H R => ∀ pins s, Inv X pins σ H s → wpAny (model X.prog X.w) X.A (eval iter X.env) (fun v s1 => wpAny (model X.prog X.w) X.A (pyIter v) (PIE X pins σ tg R) X.xe s1) X.xe s
theorem pi_w {tg iter : Expr} : PI X tg iter (wI X tg iter) := ⟨fun pins s σ H R I h => h pins s I⟩
theorem wI_of {tg iter : Expr} {t : TI} (h : PI X tg iter t) {σ : L2.St} {H : Hp} {R : It → Hp → Prop} (q : t σ H R) : wI X tg iter σ H R := fun pins s I => h.run pins s σ H R I q
/-- the iterator J gives the items xs, one by one, whatever grows meanwhile -/
def Yields (K : PySem.W.Frag) (ρ : List Addr) (H : Hp) (J : It) (xs : List PV) : Prop := ∀ ρ' H', Grow K ρ H ρ' H' →
  (∀ (i : Nat) (x : PV), xs[i]? = some x → J.go i H' ∧ ∀ v H2, J.yld i H' v H2 → H2 = H' ∧ Rep K ρ' H' x v) ∧ ∀ i, xs.length ≤ i → J.stop i H'
def SrcJ (K : PySem.W.Frag) (ρ : List Addr) (H : Hp) : Src → It → Prop
  | .vals xs, J => Yields K ρ H J xs
  | .live n, J => ∃ a, ρ[n]? = some a ∧ J = Itl K a
  | .rng lo n, J => J = Itr lo n
def WantI (X : Cx) (ρ : List Addr) (H : Hp) (R : It → Hp → Prop) : Src → Store → Prop := fun s st' => ∀ ρ' H' J, Grow X.K ρ H ρ' H' → OkS X.K ρ' st' H' → SrcJ X.K ρ' H' s J → R J H'
def SimI (T : Tb) (X : Cx) (W : WX) (tg iter : Expr) (m : Env → Store → Res Src) : Prop := ∀ ρ st H σ ev R, OkS X.K ρ st H → RepE X.K ρ H ev σ → Aft (m ev st) (WantI X ρ H R) (WantX T X W ρ H σ) → wI X tg iter σ H R
theorem yields_list {K : PySem.W.Frag} {ρ : List Addr} {H : Hp} {d : Addr} {vs : List V} {xs : List PV} (h : ∀ ρ' H', Grow K ρ H ρ' H' → SqL K H' d vs) (r : RepL K ρ H xs vs) : Yields K ρ H (Itl K d) xs := fun ρ' H' g => by
  have hl := h ρ' H' g
  refine ⟨fun i x hx => ?_, fun i hi => ⟨vs, hl, by rw [← r.length]; exact hi⟩⟩
  obtain ⟨v, h1, h2⟩ := r.get hx
  refine ⟨⟨vs, v, hl, h1⟩, fun w H2 y => ?_⟩
  obtain ⟨e, y⟩ := y
  have e2 := y vs hl
  rw [h1] at e2
  cases e2
  exact ⟨e, h2.mono g⟩
theorem yields_tup {K : PySem.W.Frag} {ρ : List Addr} {H : Hp} {d : Addr} {vs : List V} {xs : List PV} (h : SqT K H d vs) (r : RepL K ρ H xs vs) : Yields K ρ H (Itt K d) xs := fun ρ' H' g => by
  have hl := g.tups _ _ h
  refine ⟨fun i x hx => ?_, fun i hi => ⟨vs, hl, by rw [← r.length]; exact hi⟩⟩
  obtain ⟨v, h1, h2⟩ := r.get hx
  refine ⟨⟨vs, v, hl, h1⟩, fun w H2 y => ?_⟩
  obtain ⟨e, y⟩ := y
  have e2 := y vs hl
  rw [h1] at e2
  cases e2
  exact ⟨e, h2.mono g⟩
theorem yields_str {K : PySem.W.Frag} {ρ : List Addr} {H : Hp} (l : List Nat) : Yields K ρ H (Its ⟨l.toArray⟩) (l.map fun c => .str [c]) := fun ρ' H' g => by
  refine ⟨fun i x hx => ?_, fun i hi => ?_⟩
  · rw [List.getElem?_map] at hx
    obtain ⟨c, h1, rfl⟩ := Option.map_eq_some_iff.mp hx
    have hi := (List.getElem?_eq_some_iff.mp h1).1
    refine ⟨by show i < l.toArray.size; simpa using hi, fun v H2 y => ?_⟩
    obtain ⟨e, d, h2, rfl⟩ := y
    have h3 : l[i]? = some d := by simpa using h2
    rw [h1] at h3
    cases h3
    exact ⟨e, .str [c]⟩
  · show l.toArray.size ≤ i
    simpa using hi
theorem simI_seq {tg : Expr} (ha : SimE T X W a ma) : SimI T X W tg a (fun ev st => (ma ev st).bind fun v st1 => Res.of (srcOf v st1) st1) := fun ρ st H σ ev R ok re q => by
  dsimp only at q
  cases hm : ma ev st with
  | exc c fs st1 =>
    rw [hm] at q
    refine wI_of (pi_list pe_w) ?_
    refine ha ρ st H σ ev _ ok re ?_
    rw [hm]
    exact q
  | bad => rw [hm] at q; exact q.elim
  | ok x st1 =>
    rw [hm] at q
    obtain ⟨src, hs, q2⟩ := (show Aft (Res.of (srcOf x st1) st1) (WantI X ρ H R) (WantX T X W ρ H σ) from q).of
    cases x with
    | str l =>
      cases hs
      refine wI_of (pi_str pe_w) ?_
      refine ha ρ st H σ ev _ ok re ?_
      rw [hm]
      intro ρ1 H1 vx g1 ok1 r1
      exact ⟨_, r1.1.cases_str, q2 ρ1 H1 _ g1 ok1 (yields_str l)⟩
    | tup xs =>
      cases hs
      refine wI_of (pi_tup pe_w) ?_
      refine ha ρ st H σ ev _ ok re ?_
      rw [hm]
      intro ρ1 H1 vx g1 ok1 r1
      obtain ⟨d, vs, rfl, h2, h3⟩ := r1.1.cases_tup
      exact ⟨d, rfl, ⟨vs, h2⟩, q2 ρ1 H1 _ g1 ok1 (yields_tup h2 h3)⟩
    | tl xs =>
      cases hs
      refine wI_of (pi_list pe_w) ?_
      refine ha ρ st H σ ev _ ok re ?_
      rw [hm]
      intro ρ1 H1 vx g1 ok1 r1
      obtain ⟨d, vs, rfl, h2, h3, h4⟩ := r1.1
      exact ⟨d, rfl, ⟨vs, SqL.of h2⟩, q2 ρ1 H1 _ g1 ok1 (yields_list (fun ρ' H' g => SqL.of (g.outs d _ h2 h3).1) h4)⟩
    | fl xs =>
      cases hs
      refine wI_of (pi_list pe_w) ?_
      refine ha ρ st H σ ev _ ok re ?_
      rw [hm]
      intro ρ1 H1 vx g1 ok1 r1
      obtain ⟨d, vs, rfl, h2, h3⟩ := r1.1.cases_fl
      exact ⟨d, rfl, ⟨vs, h2.sq⟩, q2 ρ1 H1 _ g1 ok1 (yields_list (fun ρ' H' g => (g.frzs d _ h2).sq) h3)⟩
    | loc n =>
      dsimp only [srcOf] at hs
      split at hs
      · rename_i ys e
        cases hs
        refine wI_of (pi_list pe_w) ?_
        refine ha ρ st H σ ev _ ok re ?_
        rw [hm]
        intro ρ1 H1 vx g1 ok1 r1
        obtain ⟨d, rfl, h2⟩ := r1.1.cases_loc
        obtain ⟨vs, h3, h4⟩ := ok1.cell _ d _ h2 e
        exact ⟨d, rfl, ⟨vs, SqL.of h3⟩, q2 ρ1 H1 _ g1 ok1 ⟨d, h2, rfl⟩⟩
      · cases hs
    | non => cases hs
    | bl k => cases hs
    | int i => cases hs
theorem simI_rng1 {tg : Expr} {p : Pos} (hg : Gl X "range") (hm : X.mg "range" = none) (hs : starEach [a] X.env = (false, eval a X.env) :: starEach [] X.env) (ha : SimE T X W a ma) :
    SimI T X W tg (.Call (.Name "range" p) [a] [] pos) (fun ev st => (ma ev st).bind fun v st1 => Res.of (rng1Of v) st1) := fun ρ st H σ ev R ok re q => by
  refine wI_of (pi_range1 hg hm (pa_cons pe_w pa_nil hs) hs) ?_
  refine ha ρ st H σ ev _ ok re ((Aft.bind q).imp (fun x st1 q1 ρ1 H1 vx g1 ok1 r1 => ?_) fun _ _ _ z => z)
  obtain ⟨src, h1, q2⟩ := q1.of
  unfold rng1Of at h1
  split at h1
  · rename_i j
    split at h1
    · rename_i hj
      cases h1
      rw [r1.1.cases_int]
      have e62 : R62 = 2 ^ 62 := by decide
      exact ⟨j, rfl, by omega, by omega, q2 ρ1 H1 _ g1 ok1 rfl⟩
    · cases h1
  · cases h1
theorem simI_rng2 {tg : Expr} {p : Pos} (hg : Gl X "range") (hm : X.mg "range" = none) (hs : starEach [a, b] X.env = (false, eval a X.env) :: starEach [b] X.env) (hs2 : starEach [b] X.env = (false, eval b X.env) :: starEach [] X.env) (ha : SimE T X W a ma) (hb : SimE T X W b mb) :
    SimI T X W tg (.Call (.Name "range" p) [a, b] [] pos) (fun ev st => (ma ev st).bind fun v st1 => (mb ev st1).bind fun w st2 => Res.of (rng2Of v w) st2) := fun ρ st H σ ev R ok re q => by
  refine wI_of (pi_range2 hg hm (pa_cons pe_w (pa_cons pe_w pa_nil hs2) hs) (by rw [hs, hs2]; rfl) hs2) ?_
  refine ha ρ st H σ ev _ ok re ((Aft.bind q).imp (fun x st1 q1 ρ1 H1 vx g1 ok1 r1 => ?_) fun _ _ _ z => z)
  refine hb ρ1 st1 H1 σ ev _ ok1 (re.mono g1) ((Aft.bind q1).imp (fun y st2 q2 ρ2 H2 vy g2 ok2 r2 => ?_) fun _ _ _ => WantX.from g1)
  obtain ⟨src, h1, q3⟩ := q2.of
  unfold rng2Of at h1
  split at h1
  · rename_i i j
    split at h1
    · rename_i hj
      cases h1
      rw [(r1.mono g2).1.cases_int, r2.1.cases_int]
      have e62 : R62 = 2 ^ 62 := by decide
      exact ⟨i, j, rfl, ⟨by omega, by omega, by omega, by omega⟩, q3 ρ2 H2 _ (g1.trans g2) ok2 rfl⟩
    · cases h1
  · cases h1

/-! ### targets: plain names, or a tuple of plain names -/
def wG (X : Cx) (tg : Expr) : TG := fun v σ H Q => ∀ pins s u, Inv X pins σ H s → RelV v u → wpAny (model X.prog X.w) X.A (assign tg X.env u) (fun _ s' => ∃ σ' H', Inv X pins σ' H' s' ∧ Q σ' H') X.xe s
theorem pg_w {tg : Expr} : PG X tg (wG X tg) := ⟨fun pins s σ H v u Q I r h => h pins s u I r⟩
theorem wG_of {tg : Expr} {t : TG} (h : PG X tg t) {v : V} {σ : L2.St} {H : Hp} {Q : L2.St → Hp → Prop} (q : t v σ H Q) : wG X tg v σ H Q := fun pins s u I r => h.run pins s σ H v u Q I r q
/-- own: the slots, in the order of the names -/
inductive Tgt (X : Cx) : Expr → List Nat → Prop
  | name {i : Nat} {x : Str} {pos : Pos} : X.N[i]? = some x → Loc X.env.scope x → (X.fn x = true ∨ X.env.scope.names.lookup x = some .local) → Tgt X (.Name x pos) [i]
inductive TgtL (X : Cx) : List Expr → List Nat → Prop
  | nil : TgtL X [] []
  | cons {e : Expr} {es : List Expr} {i : Nat} {is : List Nat} : Tgt X e [i] → TgtL X es is → TgtL X (e :: es) (i :: is)
def setAll : List Nat → List V → L2.St → L2.St
  | i :: is, v :: vs, σ => setAll is vs (σ.set i (some v))
  | _, _, σ => σ
theorem gs_ok (hN : X.N.Nodup) {ρ : List Addr} {H : Hp} : ∀ {es : List Expr} {is : List Nat}, TgtL X es is → ∃ t, PGs X es t ∧ (assignEach es X.env).length = is.length ∧ (assignEach es X.env).findIdx? (·.1) = none ∧
    ∀ (xs : List PV) (vs : List V) (ev ev2 : Env) (σ : L2.St) (Q : L2.St → Hp → Prop), RepL X.K ρ H xs vs → RepE X.K ρ H ev σ → unpackE is xs ev = some ev2 → (RepE X.K ρ H ev2 (setAll is vs σ) → Q (setAll is vs σ) H) → t vs σ H Q
  | _, _, .nil => ⟨_, pgs_nil, rfl, rfl, fun xs vs ev ev2 σ Q r re h q => by
    cases r with
    | nil => cases h; exact ⟨rfl, q re⟩
    | cons _ _ => cases h⟩
  | _, _, .cons (.name (i := i) h1 h2 h3) t => by
    obtain ⟨u, hu, hl, hf, hq⟩ := gs_ok hN t
    refine ⟨_, pgs_cons (pg_name hN h1 h2 h3) hu rfl, ?_, ?_, fun xs vs ev ev2 σ Q r re h q => ?_⟩
    · show (assignEach _ X.env).length + 1 = _
      rw [hl]
      rfl
    · show List.findIdx? (·.1) ((false, _) :: assignEach _ X.env) = none
      rw [List.findIdx?_cons, hf]
      rfl
    · cases r with
      | nil => cases h
      | cons rx rt => exact ⟨_, _, rfl, hq _ _ _ ev2 _ Q rt (re.set rx i) h q⟩
theorem unpack_len : ∀ {is : List Nat} {xs : List PV} {ev ev2 : Env}, unpackE is xs ev = some ev2 → is.length = xs.length
  | [], [], _, _, _ => rfl
  | [], _ :: _, _, _, h => by cases h
  | _ :: _, [], _, _, h => by cases h
  | i :: is, x :: xs, ev, ev2, h => by
    have q := unpack_len (is := is) (xs := xs) h
    simp [q]
/-- a target of a for or of a comprehension: a name, or a tuple of names -/
inductive TgtF (X : Cx) : Expr → List Nat → Prop
  | one {e : Expr} {i : Nat} : Tgt X e [i] → TgtF X e [i]
  | many {es : List Expr} {k : Nat} {pos : Pos} {is : List Nat} : TgtL X es is → is.length ≠ 1 → TgtF X (.Tuple es k pos) is
def slotsV (is : List Nat) (v : V) (vs : List V) : List V := match is with
  | [_] => [v]
  | _ => vs
theorem tgt_ok (hc : X.calm = true) (hN : X.N.Nodup) {tg : Expr} {is : List Nat} (h : TgtF X tg is) {ρ : List Addr} {H : Hp} {x : PV} {v : V} {ev ev2 : Env} {σ : L2.St} {Q : L2.St → Hp → Prop}
    (rx : Rep X.K ρ H x v) (re : RepE X.K ρ H ev σ) (hb : bindOwn is x ev = some ev2) (q : ∀ ws, RepE X.K ρ H ev2 (setAll is ws σ) → Q (setAll is ws σ) H) : wG X tg v σ H Q := by
  cases h with
  | one h =>
    cases h with
    | name h1 h2 h3 =>
      cases hb
      exact wG_of (pg_name hN h1 h2 h3) (q [v] (re.set rx _))
  | many h hn =>
    have hb' : bindTup is x ev = some ev2 := by
      unfold bindOwn at hb
      split at hb
      · exact absurd rfl hn
      · exact hb
    cases x with
    | tup xs =>
      obtain ⟨d, vs, rfl, h2, h3⟩ := rx.x.cases_tup
      obtain ⟨t, ht, hl, hf, hq⟩ := gs_ok (ρ := ρ) (H := H) hN h
      exact wG_of (pg_tup hc ht rfl hf) ⟨d, vs, rfl, h2, by rw [hl, unpack_len hb', h3.length], hq xs vs ev ev2 σ Q h3 re hb' (q vs)⟩
    | _ => cases hb'
theorem wipe_get (σ : L2.St) : ∀ (own : List Nat) (j : Nat), (wipe σ own)[j]? = if j ∈ own then (σ[j]?).map (fun _ => none) else σ[j]?
  | [], j => by simp [wipe]
  | v :: vs, j => by
    unfold wipe
    rw [List.getElem?_set]
    have ih := wipe_get σ vs
    by_cases h : v = j
    · subst h
      rw [if_pos rfl, wipe_length, if_pos (show v ∈ v :: vs from List.mem_cons_self)]
      by_cases hl : v < σ.length
      · rw [if_pos hl, List.getElem?_eq_getElem hl]
        rfl
      · rw [if_neg hl, List.getElem?_eq_none (by omega)]
        rfl
    · rw [if_neg h, ih j]
      have hj : j ≠ v := fun z => h z.symm
      simp [hj]
theorem wipe_ext {σ τ : L2.St} {own : List Nat} (h : ∀ j, j ∉ own → σ[j]? = τ[j]?) (hl : σ.length = τ.length) : wipe σ own = wipe τ own := by
  apply List.ext_getElem?
  intro j
  rw [wipe_get, wipe_get]
  by_cases c : j ∈ own
  · rw [if_pos c, if_pos c]
    by_cases hj : j < σ.length
    · rw [List.getElem?_eq_getElem hj, List.getElem?_eq_getElem (by omega)]
      rfl
    · rw [List.getElem?_eq_none (by omega), List.getElem?_eq_none (by omega)]
  · rw [if_neg c, if_neg c]
    exact h j c
theorem setAll_length : ∀ (is : List Nat) (vs : List V) (σ : L2.St), (setAll is vs σ).length = σ.length
  | [], _, _ => rfl
  | _ :: _, [], _ => rfl
  | i :: is, v :: vs, σ => by
    show (setAll is vs (σ.set i (some v))).length = _
    rw [setAll_length, List.length_set]
theorem setAll_get : ∀ (is : List Nat) (vs : List V) (σ : L2.St) (j : Nat), j ∉ is → (setAll is vs σ)[j]? = σ[j]?
  | [], _, _, _, _ => rfl
  | _ :: _, [], _, _, _ => rfl
  | i :: is, v :: vs, σ, j, h => by
    show (setAll is vs (σ.set i (some v)))[j]? = _
    rw [setAll_get is vs _ j fun z => h (List.mem_cons_of_mem _ z), List.getElem?_set_ne fun z => h (by rw [z]; exact List.mem_cons_self)]
theorem wipe_setAll (own : List Nat) (vs : List V) (σ : L2.St) : wipe (setAll own vs (wipe σ own)) own = wipe σ own := by
  refine wipe_ext (fun j hj => ?_) (by rw [setAll_length, wipe_length])
  rw [setAll_get own vs _ j hj, wipe_get, if_neg hj]

/-! ### comprehensions -/
abbrev W0 : WX := fun _ _ _ _ => False
/-- the block's own context, whatever it is -/
abbrev Blk (X : Cx) (scope : Scope) (P : Cx → Prop) : Prop := ∀ (s : Shared) (H : Hp) (C : Addr) (cl : List (Str × Addr)) (fp : List Addr), P (X.blk s H scope (compEnvC scope cl C X.env) fp)
/-- the turns: R is what is left to do from turn i on, μ falls -/
theorem comp_loop {ρ1 : List Addr} {H1 : Hp} {st1 : Store} {J : It} {D : Addr} {g : TG} {tt : TT} {te : TE} {σ : L2.St} {vs : List Nat} {Q : V → Hp → Prop} {P : List PV → Store → Prop} {E : Nat → List (Nat × PV) → Store → Prop}
    {f : PV → Store → Res (Option PV)} (R : Nat → List PV → Store → Res (List PV)) (μ : Nat → Nat) (ok1 : OkS X.K ρ1 st1 H1) (hD : H1 D = none)
    (unf : ∀ i acc st ρ H, Grow X.K ρ1 H1 ρ H → OkS X.K ρ st H → Aft (R i acc st) P E → (J.stop i H ∧ P acc st) ∨ (J.go i H ∧ μ (i + 1) < μ i ∧ ∀ v H', J.yld i H v H' → H' = H ∧ ∃ x, Rep X.K ρ H x v ∧
      Aft (f x st) (fun r st2 => match r with
        | some y => acc.length < SZ ∧ Aft (R (i + 1) (acc ++ [y]) st2) P E
        | none => Aft (R (i + 1) acc st2) P E) E))
    (turn : ∀ x v st ρ H (Nx : Hp → Prop) (acc : List V), Grow X.K ρ1 H1 ρ H → OkS X.K ρ st H → Rep X.K ρ H x v → H D = some (.lst acc) → D ∉ ρ →
      Aft (f x st) (fun r st2 => match r with
        | some y => acc.length < sizeLine ∧ ∀ ρ' H' w, Grow X.K ρ H ρ' H' → OkS X.K ρ' st2 H' → Rep X.K ρ' H' y w → Nx (upd H' D (.lst (acc ++ [w])))
        | none => ∀ ρ' H', Grow X.K ρ H ρ' H' → OkS X.K ρ' st2 H' → Nx H') (fun _ _ _ => False) →
      g v (wipe σ vs) H fun σ2 H2 => wipe σ2 vs = wipe σ vs ∧ tt σ2 H2 fun b H3 => if b = true then te σ2 H3 fun y H4 => ∃ acc, H4 D = some (.lst acc) ∧ acc.length < sizeLine ∧ Nx (upd H4 D (.lst (acc ++ [y]))) else Nx H3)
    (hE : ∀ c fs st, ¬ E c fs st)
    (fin : ∀ acc accV st ρ H, Grow X.K ρ1 H1 ρ H → OkS X.K ρ st H → H D = some (.lst accV) → D ∉ ρ → RepL X.K ρ H acc accV → P acc st → Q (.ref D) H)
    (start : Aft (R 0 [] st1) P E) :
    ∃ W : Nat → Nat → Hp → Prop, (∃ m, W 0 m (upd H1 D (.lst []))) ∧ ∀ i m H, W i m H →
      (J.stop i H ∧ Q (.ref D) H) ∨ (J.go i H ∧ ∃ Nx : Hp → Prop, (∀ H', Nx H' → ∃ m', m' < m ∧ W (i + 1) m' H') ∧ ∀ x H', J.yld i H x H' → g x (wipe σ vs) H' fun σ2 H2 => wipe σ2 vs = wipe σ vs ∧ tt σ2 H2 fun b H3 =>
        if b = true then te σ2 H3 fun y H4 => ∃ acc, H4 D = some (.lst acc) ∧ acc.length < sizeLine ∧ Nx (upd H4 D (.lst (acc ++ [y]))) else Nx H3) := by
  refine ⟨fun i m H => m = μ i ∧ ∃ ρ st acc accV, Grow X.K ρ1 H1 ρ H ∧ OkS X.K ρ st H ∧ H D = some (.lst accV) ∧ D ∉ ρ ∧ RepL X.K ρ H acc accV ∧ Aft (R i acc st) P E,
    ⟨μ 0, rfl, ρ1, st1, [], [], Grow.new ok1 hD, ok1.new hD, upd_same, ok1.notfree hD, .nil, start⟩, ?_⟩
  rintro i m H ⟨rfl, ρ, st, acc, accV, gr, ok, hl, hn, r, a⟩
  rcases unf i acc st ρ H gr ok a with ⟨h1, h2⟩ | ⟨h1, h2, h3⟩
  · exact .inl ⟨h1, fin acc accV st ρ H gr ok hl hn r h2⟩
  · refine .inr ⟨h1, fun H' => ∃ ρ st acc accV, Grow X.K ρ1 H1 ρ H' ∧ OkS X.K ρ st H' ∧ H' D = some (.lst accV) ∧ D ∉ ρ ∧ RepL X.K ρ H' acc accV ∧ Aft (R (i + 1) acc st) P E, fun H' hN => ⟨μ (i + 1), h2, rfl, hN⟩, fun v H' y => ?_⟩
    obtain ⟨rfl, x, rx, ax⟩ := h3 v H' y
    refine turn x v st ρ H' _ accV gr ok rx hl hn (ax.imp (fun o st2 q => ?_) fun c fs st2 z => hE c fs st2 z)
    cases o with
    | some y =>
      refine ⟨by rw [← r.length]; exact SZ_lt q.1, fun ρ' H2 w g' ok' rw' => ?_⟩
      obtain ⟨hl', hn'⟩ := g'.outs D _ hl hn
      have kp := Kp.off (K := X.K) (ρ := ρ') (o := HO.lst (accV ++ [w])) hl'
      exact ⟨ρ', st2, acc ++ [y], accV ++ [w], (gr.trans g').off hD hl', ok'.off hl' hn', upd_same, hn', ((r.mono g').snoc rw').kp kp, q.2⟩
    | none =>
      intro ρ' H2 g' ok'
      obtain ⟨hl', hn'⟩ := g'.outs D _ hl hn
      exact ⟨ρ', st2, acc, accV, gr.trans g', ok', hl', hn', r.mono g', q⟩
end
end Vm

set_option maxHeartbeats 4000000
/-! Vm7: list comprehensions. -/
namespace Vm
open PySem L2

section
variable {T : Tb} {X : Cx} {W : WX} {e a b c : Expr} {es : List Expr} {m ma mb mc me : Env → Store → Res PV} {pos : Pos}

theorem aft_noExc {α : Type} {r : Res α} {P : α → Store → Prop} {E : Nat → List (Nat × PV) → Store → Prop} (h : Aft (noExc r) P E) : Aft r P (fun _ _ _ => False) := by
  cases r with
  | ok a st => exact h
  | exc c fs st => exact h.elim
  | bad => exact h
theorem itemM_noexc {is : List Nat} {ev : Env} {x : PV} {st : Store} : ∀ c fs st2, itemM is ev mc me x st ≠ .exc c fs st2 := by
  intro c fs st2 h
  unfold itemM at h
  split at h
  · cases h
  · generalize ((truth (mc _ st)).bind _) = r at h
    cases r <;> cases h
inductive Conds (T : Tb) (X : Cx) (scope : Scope) : List Expr → (Env → Store → Res PV) → Prop
  | nil : Conds T X scope [] (fun _ st => .ok (.bl true) st)
  | one {c : Expr} {mc : Env → Store → Res PV} : (Blk X scope fun X' => SimT T X' W0 c (fun ev st => truth (mc ev st))) → Conds T X scope [c] mc
/-- the uniform weakest readings over a block -/
def bT (X : Cx) (scope : Scope) (ifs : List Expr) : TT := match ifs with
  | [c] => fun σ H Q => Blk X scope fun X' => wT X' c σ H Q
  | _ => tYes
def bE (X : Cx) (scope : Scope) (e : Expr) : TE := fun σ H Q => Blk X scope fun X' => wE X' e σ H Q
def bG (X : Cx) (scope : Scope) (tg : Expr) : TG := fun v σ H Q => Blk X scope fun X' => wG X' tg v σ H Q
theorem lc_turn (hc : X.calm = true) (hN : X.N.Nodup) {scope : Scope} {tg elt : Expr} {ifs : List Expr} {is : List Nat} (htg : Blk X scope fun X' => TgtF X' tg is) (hif : Conds T X scope ifs mc) (he : Blk X scope fun X' => SimE T X' W0 elt me)
    {ev : Env} {σ : L2.St} {ρ1 : List Addr} {H1 : Hp} (re : RepE X.K ρ1 H1 ev σ) {D : Addr}
    (x : PV) (v : V) (st : Store) (ρ : List Addr) (H : Hp) (Nx : Hp → Prop) (acc : List V) (g1 : Grow X.K ρ1 H1 ρ H) (ok : OkS X.K ρ st H) (rx : Rep X.K ρ H x v) (hD : H D = some (.lst acc)) (hn : D ∉ ρ)
    (q : Aft (itemM is ev mc me x st) (fun r st2 => match r with
        | some y => acc.length < sizeLine ∧ ∀ ρ' H' w, Grow X.K ρ H ρ' H' → OkS X.K ρ' st2 H' → Rep X.K ρ' H' y w → Nx (upd H' D (.lst (acc ++ [w])))
        | none => ∀ ρ' H', Grow X.K ρ H ρ' H' → OkS X.K ρ' st2 H' → Nx H') (fun _ _ _ => False)) :
    bG X scope tg v (wipe σ is) H fun σ2 H2 => wipe σ2 is = wipe σ is ∧ bT X scope ifs σ2 H2 fun b H3 => if b = true then bE X scope elt σ2 H3 fun y H4 => ∃ acc, H4 D = some (.lst acc) ∧ acc.length < sizeLine ∧ Nx (upd H4 D (.lst (acc ++ [y]))) else Nx H3 := by
  unfold itemM at q
  cases hb : bindOwn is x (wipeE ev is) with
  | none => rw [hb] at q; exact q.elim
  | some ev2 =>
    rw [hb] at q
    have q := aft_noExc q
    intro s H0 C cl fp
    refine tgt_ok (X := X.blk s H0 scope (compEnvC scope cl C X.env) fp) hc hN (htg s H0 C cl fp) rx ((re.mono g1).wipe is) hb fun ws re2 => ⟨wipe_setAll is ws σ, ?_⟩
    -- behind the test
    have elem : ∀ ρ2 st2 H2, Grow X.K ρ H ρ2 H2 → OkS X.K ρ2 st2 H2 → Aft ((fixR (me ev2 st2)).bind fun y st4 => .ok (some y) st4) (fun (r : Option PV) st2 => match r with
        | some y => acc.length < sizeLine ∧ ∀ ρ' H' w, Grow X.K ρ H ρ' H' → OkS X.K ρ' st2 H' → Rep X.K ρ' H' y w → Nx (upd H' D (.lst (acc ++ [w])))
        | none => ∀ ρ' H', Grow X.K ρ H ρ' H' → OkS X.K ρ' st2 H' → Nx H') (fun _ _ _ => False) →
        bE X scope elt (setAll is ws (wipe σ is)) H2 fun y H4 => ∃ acc, H4 D = some (.lst acc) ∧ acc.length < sizeLine ∧ Nx (upd H4 D (.lst (acc ++ [y]))) := fun ρ2 st2 H2 g2 ok2 q2 => by
      intro s2 H02 C2 cl2 fp2
      refine he s2 H02 C2 cl2 fp2 ρ2 st2 H2 _ ev2 _ ok2 (RepE.mono g2 re2) ((aft_fixB (X := X) (ρ := ρ2) (H := H2) q2 fun y st4 q3 ρ4 H4 w g4 ok4 r4 => ?_).imp (fun _ _ z => z) fun _ _ _ z => z.elim)
      have q3 : acc.length < sizeLine ∧ ∀ ρ' H' w, Grow X.K ρ H ρ' H' → OkS X.K ρ' st4 H' → Rep X.K ρ' H' y w → Nx (upd H' D (.lst (acc ++ [w]))) := q3
      exact ⟨acc, ((g2.trans g4).outs D _ hD hn).1, q3.1, q3.2 ρ4 H4 w (g2.trans g4) ok4 r4⟩
    cases hif with
    | nil =>
      exact iteT (B := Nx H) (elem ρ st H .refl ok q)
    | one ht =>
      intro s2 H02 C2 cl2 fp2
      refine ht s2 H02 C2 cl2 fp2 ρ st H _ ev2 _ ok re2 ((Aft.bind q).imp (fun k st2 q2 ρ2 H2 g2 ok2 => ?_) fun _ _ _ z => z.elim)
      cases k with
      | true =>
        rw [if_pos rfl]
        exact elem ρ2 st2 H2 g2 ok2 q2
      | false =>
        rw [if_neg Bool.false_ne_true]
        exact q2 ρ2 H2 g2 ok2
theorem aft_itemB {f : PV → Store → Res (Option PV)} {x : PV} {st : Store} {acc : List PV} {G : List PV → Store → Res (List PV)} {P : List PV → Store → Prop} {E : Nat → List (Nat × PV) → Store → Prop}
    (h : Aft ((f x st).bind fun r st1 => match r with
      | some y => guardR (decide (acc.length < SZ)) (G (acc ++ [y]) st1)
      | none => G acc st1) P E) : Aft (f x st) (fun r st2 => match r with
        | some y => acc.length < SZ ∧ Aft (G (acc ++ [y]) st2) P E
        | none => Aft (G acc st2) P E) E :=
  (Aft.bind h).imp (fun r st2 q => by
    cases r with
    | some y =>
      obtain ⟨h1, h2⟩ := Aft.guard q
      exact ⟨of_decide_eq_true h1, h2⟩
    | none => exact q) fun _ _ _ z => z
theorem lc_noexc {f : PV → Store → Res (Option PV)} (hf : ∀ x st c fs st2, f x st ≠ .exc c fs st2) : ∀ xs acc st c fs st2, lcGo f xs acc st ≠ .exc c fs st2
  | [], _, _, _, _, _, h => by cases h
  | x :: xs, acc, st, c, fs, st2, h => by
    unfold lcGo at h
    cases hx : f x st with
    | exc c fs st => exact hf _ _ _ _ _ hx
    | bad => rw [hx] at h; cases h
    | ok r st1 =>
      rw [hx] at h
      cases r with
      | some y =>
        dsimp only [Res.bind, guardR] at h
        split at h
        · exact lc_noexc hf xs _ _ _ _ _ h
        · cases h
      | none => exact lc_noexc hf xs _ _ _ _ _ h
theorem lcL_noexc {f : PV → Store → Res (Option PV)} (hf : ∀ x st c fs st2, f x st ≠ .exc c fs st2) (n : Nat) : ∀ fu i acc st c fs st2, lcLive f n fu i acc st ≠ .exc c fs st2
  | 0, _, _, _, _, _, _, h => by cases h
  | fu + 1, i, acc, st, c, fs, st2, h => by
    unfold lcLive at h
    split at h
    · split at h
      · cases h
      · rename_i x _
        cases hx : f x st with
        | exc c fs st => exact hf _ _ _ _ _ hx
        | bad => rw [hx] at h; cases h
        | ok r st1 =>
          rw [hx] at h
          cases r with
          | some y =>
            dsimp only [Res.bind, guardR] at h
            split at h
            · exact lcL_noexc hf n fu _ _ _ _ _ _ h
            · cases h
          | none => exact lcL_noexc hf n fu _ _ _ _ _ _ h
    · cases h
theorem lcR_noexc {f : PV → Store → Res (Option PV)} (hf : ∀ x st c fs st2, f x st ≠ .exc c fs st2) : ∀ n i acc st c fs st2, lcRng f n i acc st ≠ .exc c fs st2
  | 0, _, _, _, _, _, _, h => by cases h
  | n + 1, i, acc, st, c, fs, st2, h => by
    unfold lcRng at h
    cases hx : f (.int i) st with
    | exc c fs st => exact hf _ _ _ _ _ hx
    | bad => rw [hx] at h; cases h
    | ok r st1 =>
      rw [hx] at h
      cases r with
      | some y =>
        dsimp only [Res.bind, guardR] at h
        split at h
        · exact lcR_noexc hf n _ _ _ _ _ _ h
        · cases h
      | none => exact lcR_noexc hf n _ _ _ _ _ _ h
theorem lcS_noexc {f : PV → Store → Res (Option PV)} (hf : ∀ x st c fs st2, f x st ≠ .exc c fs st2) (N : Nat) (s : Src) (st : Store) : ∀ c fs st2, lcSrc N f s st ≠ .exc c fs st2 := fun c fs st2 h => by
  cases s with
  | vals xs => exact lc_noexc hf _ _ _ _ _ _ h
  | live n => exact lcL_noexc hf n _ _ _ _ _ _ _ h
  | rng lo n => exact lcR_noexc hf _ _ _ _ _ _ _ h
theorem aft_noE {α : Type} {r : Res α} (h : ∀ c fs st2, r ≠ .exc c fs st2) {P : α → Store → Prop} {E E' : Nat → List (Nat × PV) → Store → Prop} (a : Aft r P E) : Aft r P E' := by
  cases r with
  | ok x st => exact a
  | exc c fs st => exact absurd rfl (h c fs st)
  | bad => exact a
theorem lc_core' (N : Nat) {tg iter elt : Expr} {ifs : List Expr} {scope : Scope} {is : List Nat} {mi : Env → Store → Res Src} (hc : X.calm = true) (hN : X.N.Nodup) (hi : SimI T X W tg iter mi)
    (htg : Blk X scope fun X' => TgtF X' tg is) (hif : Conds T X scope ifs mc) (he : Blk X scope fun X' => SimE T X' W0 elt me) {ρ : List Addr} {st : Store} {H : Hp} {σ : L2.St} {ev : Env} {Q : VK} (ok : OkS X.K ρ st H) (re : RepE X.K ρ H ev σ)
    (q : Aft (lcM N is mi mc me ev st) (WantV X ρ H Q) (WantX T X W ρ H σ)) : tLc (wI X tg iter) (bG X scope tg) (bT X scope ifs) (bE X scope elt) is σ H Q := by
  refine hi ρ st H σ ev _ ok re ((Aft.bind q).imp (fun s st1 q1 ρ1 H1 J g1 ok1 hJ => ?_) fun _ _ _ z => z)
  intro D hD
  have q2 : Aft (lcSrc N (itemM is ev mc me) s st1) (fun xs st2 => WantV X ρ H Q (.tl xs) st2) (fun _ _ _ => False) := aft_noE (lcS_noexc (fun x st => itemM_noexc) N s st1) (Aft.bind q1)
  have fin : ∀ acc accV st ρ2 H2, Grow X.K ρ1 H1 ρ2 H2 → OkS X.K ρ2 st H2 → H2 D = some (.lst accV) → D ∉ ρ2 → RepL X.K ρ2 H2 acc accV → WantV X ρ H Q (.tl acc) st → Q (.ref D) H2 := fun acc accV st ρ2 H2 g2 ok2 hl hn r w =>
    w ρ2 H2 _ (g1.trans g2) ok2 ⟨⟨D, accV, rfl, hl, hn, r⟩, fun _ _ => ⟨D, rfl, g1.back _ hD⟩⟩
  have turn := fun x v st ρ2 H2 Nx acc g2 ok2 rx hl hn q => lc_turn (T := T) (mc := mc) (me := me) hc hN htg hif he (re.mono g1) (D := D) x v st ρ2 H2 Nx acc g2 ok2 rx hl hn q
  cases s with
  | vals xs =>
    refine comp_loop (P := fun xs st2 => WantV X ρ H Q (.tl xs) st2) (E := fun _ _ _ => False) (fun i acc st => lcGo (itemM is ev mc me) (xs.drop i) acc st) (fun i => xs.length - i) ok1 hD (fun i acc st ρ2 H2 g2 ok2 a => ?_) turn (fun _ _ _ z => z) fin q2
    obtain ⟨y1, y2⟩ := hJ ρ2 H2 g2
    by_cases hi : i < xs.length
    · right
      obtain ⟨h1, h2⟩ := y1 i xs[i] (List.getElem?_eq_getElem hi)
      refine ⟨h1, by omega, fun v H' y => ?_⟩
      obtain ⟨rfl, rx⟩ := h2 v H' y
      refine ⟨rfl, xs[i], rx, ?_⟩
      rw [List.drop_eq_getElem_cons hi] at a
      exact aft_itemB (G := fun acc st => lcGo (itemM is ev mc me) (xs.drop (i + 1)) acc st) a
    · left
      rw [List.drop_eq_nil_of_le (by omega)] at a
      exact ⟨y2 i (by omega), a⟩
  | live n =>
    obtain ⟨d, hd, rfl⟩ := hJ
    refine comp_loop (P := fun xs st2 => WantV X ρ H Q (.tl xs) st2) (E := fun _ _ _ => False) (fun i acc st => lcLive (itemM is ev mc me) n (N - i) i acc st) (fun i => N - i) ok1 hD (fun i acc st ρ2 H2 g2 ok2 a => ?_) turn (fun _ _ _ z => z) fin q2
    cases hf : N - i with
    | zero => rw [hf] at a; exact a.elim
    | succ k =>
      rw [hf] at a
      unfold lcLive at a
      cases hl : lv st (.loc n) with
      | none => rw [hl] at a; exact a.elim
      | some xs =>
        rw [hl] at a
        obtain ⟨d', vs, e, h3, h4⟩ := lw_ok ok2 (x := .loc n) (v := .ref d) (Rep.x (.loc (g2.kp.at_ hd))) hl
        cases e
        dsimp only at a
        cases hx : xs[i]? with
        | none =>
          rw [hx] at a
          left
          refine ⟨⟨vs, SqL.of h3, ?_⟩, a⟩
          rw [← h4.length]
          exact List.getElem?_eq_none_iff.mp hx
        | some x =>
          rw [hx] at a
          right
          obtain ⟨w, h5, h6⟩ := h4.get hx
          refine ⟨⟨vs, w, SqL.of h3, h5⟩, by omega, fun v H' y => ?_⟩
          obtain ⟨rfl, y⟩ := y
          have e2 := y vs (SqL.of h3)
          rw [h5] at e2
          cases e2
          refine ⟨rfl, x, h6, ?_⟩
          have e3 : N - (i + 1) = k := by omega
          rw [e3]
          exact aft_itemB (G := fun acc st => lcLive (itemM is ev mc me) n k (i + 1) acc st) a
  | rng lo n =>
    have eJ : J = Itr lo n := hJ
    subst eJ
    refine comp_loop (P := fun xs st2 => WantV X ρ H Q (.tl xs) st2) (E := fun _ _ _ => False) (fun i acc st => lcRng (itemM is ev mc me) (n - i) (lo + i) acc st) (fun i => n - i) ok1 hD (fun i acc st ρ2 H2 g2 ok2 a => ?_) turn (fun _ _ _ z => z) fin (by
      have e : lo + ((0 : Nat) : Int) = lo := by simp
      show Aft (lcRng (itemM is ev mc me) n (lo + ((0 : Nat) : Int)) [] st1) _ _
      rw [e]
      exact q2)
    cases hf : n - i with
    | zero =>
      rw [hf] at a
      left
      exact ⟨show n ≤ i by omega, a⟩
    | succ k =>
      rw [hf] at a
      right
      refine ⟨show i < n by omega, by omega, fun v H' y => ?_⟩
      obtain ⟨rfl, rfl⟩ := y
      refine ⟨rfl, .int (lo + i), .int _, ?_⟩
      have e3 : n - (i + 1) = k := by omega
      have e4 : lo + ((i + 1 : Nat) : Int) = lo + (i : Int) + 1 := by omega
      rw [e3, e4]
      exact aft_itemB (G := fun acc st => lcRng (itemM is ev mc me) k (lo + (i : Int) + 1) acc st) a
theorem lc_rule {tg iter elt : Expr} {ifs : List Expr} {scope : Scope} {is : List Nat} (hif : Conds T X scope ifs mc) : (∀ (s : Shared) (H : Hp) (C : Addr) (cl : List (Str × Addr)) (fp : List Addr), PG (X.blk s H scope (compEnvC scope cl C X.env) fp) tg (bG X scope tg)) ∧
    (∀ (s : Shared) (H : Hp) (C : Addr) (cl : List (Str × Addr)) (fp : List Addr), PTs (X.blk s H scope (compEnvC scope cl C X.env) fp) ifs (bT X scope ifs)) ∧
    (∀ (s : Shared) (H : Hp) (C : Addr) (cl : List (Str × Addr)) (fp : List Addr), PE (X.blk s H scope (compEnvC scope cl C X.env) fp) elt (bE X scope elt)) :=
  ⟨fun s H C cl fp => ⟨fun pins s' σ H' v u Q I r w => w s H C cl fp pins s' u I r⟩, fun s H C cl fp => by
    cases hif with
    | nil => exact pts_nil
    | one h => exact pts_one ⟨fun pins s' σ H' Q I w => w s H C cl fp pins s' I⟩, fun s H C cl fp => ⟨fun pins s' σ H' Q I w => w s H C cl fp pins s' I⟩⟩
theorem sim_lc (N : Nat) {tg iter elt : Expr} {ifs : List Expr} {scope : Scope} {own : List (Str × Nat)} {is : List Nat} {mi : Env → Store → Res Src} (hc : X.calm = true) (hN : X.N.Nodup) (hi : SimI T X W tg iter mi) (hb : BlkOk X.N X.env.scope scope own) (hown : own.map (·.2) = is)
    (hfs : ∀ x, foldedSetIterable iter X.env x = pure x)
    (htg : Blk X scope fun X' => TgtF X' tg is) (hif : Conds T X scope ifs mc) (he : Blk X scope fun X' => SimE T X' W0 elt me) : SimE T X W (.ListComp elt [⟨tg, iter, ifs, 0⟩] scope pos) (lcM N is mi mc me) := fun ρ st H σ ev Q ok re q => by
  obtain ⟨r1, r2, r3⟩ := lc_rule (T := T) (X := X) (tg := tg) (iter := iter) (elt := elt) (is := is) hif
  refine wE_of (pe_lc hc hN pi_w hb r1 r2 r3 hfs) ?_
  rw [hown]
  exact lc_core' N hc hN hi htg hif he ok re q
end
end Vm

set_option maxHeartbeats 4000000
/-! Vm8: statements. -/
namespace Vm
open PySem L2

section
variable (T : Tb) (X : Cx) (W : WX)
def WantFl (ρ : List Addr) (H : Hp) (D : Ends) : Flow → Store → Prop := fun fl st' => ∀ ρ' H', Grow X.K ρ H ρ' H' → OkS X.K ρ' st' H' → match fl with
  | .nx ev' => ∀ σ', RepE X.K ρ' H' ev' σ' → D.nx σ' H'
  | .rt v => ∀ w, Rep X.K ρ' H' v w → D.rt w H'
  | .bk ev' => ∀ σ', RepE X.K ρ' H' ev' σ' → D.bk σ' H'
  | .ct ev' => ∀ σ', RepE X.K ρ' H' ev' σ' → D.ct σ' H'
def WantXS (ρ : List Addr) (H : Hp) : Nat → List (Nat × PV) → Store → Prop := fun c fs st' => ∀ ρ' H' d σ', Grow X.K ρ H ρ' H' → OkS X.K ρ' st' H' → RepXd T X.K H ρ' H' fs d → W (.ref (T.cl c)) d σ' H'
def SimS (stm : Stmt) (m : Env → Store → Res Flow) : Prop := ∀ ρ st H σ ev D, OkS X.K ρ st H → RepE X.K ρ H ev σ → Aft (m ev st) (WantFl X ρ H D) (WantXS T X W ρ H) → wS X stm D σ H
def SimSs (sts : List Stmt) (m : Env → Store → Res Flow) : Prop := ∀ ρ st H σ ev D, OkS X.K ρ st H → RepE X.K ρ H ev σ → Aft (m ev st) (WantFl X ρ H D) (WantXS T X W ρ H) → wSs X sts D σ H
end
section
variable {T : Tb} {X : Cx} {W : WX} {e a b c o i : Expr} {es : List Expr} {m ma mb mc me : Env → Store → Res PV} {pos : Pos} {s : Stmt} {ss sa sb : List Stmt} {n na nb : Env → Store → Res Flow}
theorem WantXS.x {ρ : List Addr} {H : Hp} {σ : L2.St} {c : Nat} {fs : List (Nat × PV)} {st : Store} (h : WantXS T X W ρ H c fs st) : WantX T X W ρ H σ c fs st := fun ρ' H' d g ok r => h ρ' H' d σ g ok r
theorem WantXS.from {ρ ρ1 : List Addr} {H H1 : Hp} {c : Nat} {fs : List (Nat × PV)} {st : Store} (g : Grow X.K ρ H ρ1 H1) (h : WantXS T X W ρ H c fs st) : WantXS T X W ρ1 H1 c fs st := fun ρ' H' d σ g' ok r =>
  h ρ' H' d σ (g.trans g') ok (by
    cases d with
    | none => exact r
    | some d => obtain ⟨gs, h1, h2, h3, h4⟩ := r; exact ⟨gs, h1, h2, h3, g.back _ h4⟩)
theorem WantFl.from {ρ ρ1 : List Addr} {H H1 : Hp} {D : Ends} {fl : Flow} {st : Store} (g : Grow X.K ρ H ρ1 H1) (h : WantFl X ρ H D fl st) : WantFl X ρ1 H1 D fl st := fun ρ' H' g' ok => h ρ' H' (g.trans g') ok
theorem aftF {ρ ρ1 : List Addr} {H H1 : Hp} {D : Ends} {r : Res Flow} (g : Grow X.K ρ H ρ1 H1) (h : Aft r (WantFl X ρ H D) (WantXS T X W ρ H)) : Aft r (WantFl X ρ1 H1 D) (WantXS T X W ρ1 H1) :=
  h.imp (fun _ _ => WantFl.from g) fun _ _ _ => WantXS.from g

theorem ss_nil : SimSs T X W [] (fun ev st => .ok (.nx ev) st) := fun ρ st H σ ev D ok re q => wSs_of pss_nil (q ρ H .refl ok σ re)
def seqM (f g : Env → Store → Res Flow) : Env → Store → Res Flow := fun ev st => (f ev st).bind fun fl st1 => match fl with
  | .nx ev1 => g ev1 st1
  | fl => .ok fl st1
theorem ss_cons (h1 : SimS T X W s na) (h2 : SimSs T X W ss nb) : SimSs T X W (s :: ss) (seqM na nb) := fun ρ st H σ ev D ok re q => by
  refine wSs_of (pss_cons ps_w pss_w) ?_
  refine h1 ρ st H σ ev _ ok re ((Aft.bind q).imp (fun fl st1 q1 ρ1 H1 g1 ok1 => ?_) fun _ _ _ z => z)
  cases fl with
  | nx ev1 => exact fun σ1 re1 => h2 ρ1 st1 H1 σ1 ev1 D ok1 re1 (aftF g1 q1)
  | rt v => exact q1 ρ1 H1 g1 ok1
  | bk ev1 => exact q1 ρ1 H1 g1 ok1
  | ct ev1 => exact q1 ρ1 H1 g1 ok1
theorem s_pass : SimS T X W (.Pass pos) (fun ev st => .ok (.nx ev) st) := fun ρ st H σ ev D ok re q => wS_of ps_pass (q ρ H .refl ok σ re)
theorem s_brk : SimS T X W (.Break pos) (fun ev st => .ok (.bk ev) st) := fun ρ st H σ ev D ok re q => wS_of ps_break (q ρ H .refl ok σ re)
theorem s_cont : SimS T X W (.Continue pos) (fun ev st => .ok (.ct ev) st) := fun ρ st H σ ev D ok re q => wS_of ps_continue (q ρ H .refl ok σ re)
theorem s_retN : SimS T X W (.Return none pos) (fun ev st => .ok (.rt .non) st) := fun ρ st H σ ev D ok re q => wS_of ps_retN (q ρ H .refl ok _ .non)
theorem s_ret (h : SimE T X W e m) : SimS T X W (.Return (some e) pos) (fun ev st => (fixR (m ev st)).bind fun v st1 => .ok (.rt v) st1) := fun ρ st H σ ev D ok re q => by
  refine wS_of (ps_ret pe_w) ?_
  exact h ρ st H σ ev _ ok re ((aft_fixB (X := X) (ρ := ρ) (H := H) q fun v st1 q1 ρ1 H1 w g1 ok1 r1 => q1 ρ1 H1 g1 ok1 w r1).imp (fun _ _ z => z) fun _ _ _ z => z.x)
theorem s_expr (hs : swapsWith e none pos.line X.env = pure false) (h : SimE T X W e m) : SimS T X W (.Expr e pos) (fun ev st => (m ev st).bind fun _ st1 => .ok (.nx ev) st1) := fun ρ st H σ ev D ok re q => by
  refine wS_of (ps_expr pe_w hs) ?_
  exact h ρ st H σ ev _ ok re ((Aft.bind q).imp (fun x st1 q1 ρ1 H1 v g1 ok1 r1 => q1 ρ1 H1 g1 ok1 σ (re.mono g1)) fun _ _ _ z => z.x)
theorem s_if (hc : SimT T X W c (fun ev st => truth (mc ev st))) (ha : SimSs T X W sa na) (hb : SimSs T X W sb nb) : SimS T X W (.If c sa sb pos) (fun ev st => (truth (mc ev st)).bind fun r st1 => if r then na ev st1 else nb ev st1) := fun ρ st H σ ev D ok re q => by
  refine wS_of (ps_if pt_w pss_w pss_w) ?_
  refine hc ρ st H σ ev _ ok re ((Aft.bind q).imp (fun k st1 q1 ρ1 H1 g1 ok1 => ?_) fun _ _ _ z => z.x)
  cases k with
  | true => exact ha ρ1 st1 H1 σ ev D ok1 (re.mono g1) (aftF g1 q1)
  | false => exact hb ρ1 st1 H1 σ ev D ok1 (re.mono g1) (aftF g1 q1)

/-! ### assignments -/
/-- a target takes the value v: what the machine says of it -/
def SimG (T : Tb) (X : Cx) (W : WX) (tg : Expr) (mt : PV → Env → Store → Res Env) : Prop := ∀ ρ st H σ ev v w Q, OkS X.K ρ st H → RepE X.K ρ H ev σ → Rep X.K ρ H v w →
  Aft (mt v ev st) (fun ev2 st2 => ∀ ρ' H' σ', Grow X.K ρ H ρ' H' → OkS X.K ρ' st2 H' → RepE X.K ρ' H' ev2 σ' → Q σ' H') (WantXS T X W ρ H) → wG X tg w σ H Q
theorem g_tgt (hc : X.calm = true) (hN : X.N.Nodup) {tg : Expr} {is : List Nat} (h : TgtF X tg is) : SimG T X W tg (fun v ev st => Res.of (bindOwn is v ev) st) := fun ρ st H σ ev v w Q ok re rv q => by
  obtain ⟨ev2, h1, q1⟩ := q.of
  exact tgt_ok hc hN h rv re h1 fun ws re2 => q1 ρ H _ .refl ok re2
def wSet (X : Cx) : TSet := fun o i v H Q => ∀ pins s σ ov iv u, Inv X pins σ H s → RelV o ov → RelV i iv → RelV v u → wpAny (model X.prog X.w) X.A (setItem ov iv u) (fun _ s' => ∃ H', Inv X pins σ H' s' ∧ Q H') X.xe s
theorem pset_w : PSet X (wSet X) := fun pins s σ H o i v ov iv u Q I ro ri rv h => h pins s σ ov iv u I ro ri rv
theorem wSet_of {t : TSet} (h : PSet X t) {o i v : V} {H : Hp} {Q : Hp → Prop} (q : t o i v H Q) : wSet X o i v H Q := fun pins s σ ov iv u I ro ri rv => h pins s σ H o i v ov iv u Q I ro ri rv q
theorem set_dict (hu : X.A.units + 1 < cLine) : PSet X (fun o i v H Q => ∃ a H', o = .ref a ∧ DPut H a i v H' ∧ Q H') := fun pins s σ H o i v ov iv u Q I ro ri rv ⟨a, H', e, g, q⟩ => by
  subst e
  cases ro
  exact d_setItem hu I g ri rv fun s' I' => ⟨H', I', q⟩
theorem set_core (hu : X.A.units + 1 < cLine) {ρ : List Addr} {st st2 : Store} {H : Hp} {x k v : PV} {vx vk vv : V} {Q : Hp → Prop} (ok : OkS X.K ρ st H) (rx : RepX X.K ρ H x vx) (rk : RepX X.K ρ H k vk) (rv : Rep X.K ρ H v vv) (h : setSub x k v st = some st2)
    (q : ∀ H', Grow X.K ρ H ρ H' → OkS X.K ρ st2 H' → Q H') : wSet X vx vk vv H Q := by
  unfold setSub at h
  split at h
  · rename_i n
    obtain ⟨d, rfl, hd⟩ := rx.cases_loc
    split at h
    · rename_i xs kk e
      obtain ⟨vs, h1, h2⟩ := ok.cell _ d _ hd e
      split at h
      · rename_i j hj
        cases h
        rw [rk.cases_int]
        have gw : Grow X.K ρ H ρ (upd H d (.lst (vs.set j vv))) := Grow.write ok hd
        exact wSet_of set_list ⟨d, vs, kk, j, rfl, rfl, h1, by rw [← h2.length, ← ixOf_eq]; exact hj, q _ gw (ok.write hd ⟨_, upd_same, (h2.set rv j).mono gw⟩)⟩
      · cases h
    · rename_i kvs e
      obtain ⟨qs, h1, h2⟩ := ok.cell _ d _ hd e
      split at h
      · rename_i hk
        cases h
        simp only [Bool.and_eq_true, decide_eq_true_eq] at hk
        obtain ⟨j, hj⟩ := keyOk_some hk.1
        have ek := keyV_rep rk hj
        subst ek
        have gw : Grow X.K ρ H ρ (upd H d (.dK (putK qs j vv))) := Grow.write ok hd
        exact wSet_of (set_dict hu) ⟨d, _, rfl, DPut.k h1 (by rw [← h2.length]; exact SZ_lt hk.2), q _ gw (ok.write hd ⟨_, upd_same, (dput_ok hj rv h2).mono gw⟩)⟩
      · cases h
    · cases h
  · cases h
theorem g_sub (hu : X.A.units + 1 < cLine) (hns : ∀ v, assign (.Subscript o i pos) X.env v = (do
      let ov ← holding [v] (eval o X.env)
      let iv ← holding [v, ov] (eval i X.env)
      standAt pos
      holding [v, ov, iv] (setItem ov iv v)
      release [v, ov, iv] [])) (ha : SimE T X W o ma) (hb : SimE T X W i mb) : SimG T X W (.Subscript o i pos) (fun v ev st => (ma ev st).bind fun x st1 => (mb ev st1).bind fun k st2 => match setSub x k v st2 with
    | some st3 => .ok ev st3
    | none => .bad) := fun ρ st H σ ev v w Q ok re rv q => by
  refine wG_of (pg_sub pe_w pe_w pset_w hns) ?_
  refine ha ρ st H σ ev _ ok re ((Aft.bind q).imp (fun x st1 q1 ρ1 H1 vx g1 ok1 r1 => ?_) fun _ _ _ z => z.x)
  refine hb ρ1 st1 H1 σ ev _ ok1 (re.mono g1) ((Aft.bind q1).imp (fun k st2 q2 ρ2 H2 vk g2 ok2 r2 => ?_) fun _ _ _ z => WantX.from g1 z.x)
  cases h3 : setSub x k v st2 with
  | none => rw [h3] at q2; exact q2.elim
  | some st3 =>
    rw [h3] at q2
    have g12 := g1.trans g2
    exact set_core hu ok2 (r1.mono g2).1 r2.1 (rv.mono g12) h3 fun H' g3 ok3 => q2 ρ2 H' σ (g12.trans g3) ok3 (re.mono (g12.trans g3))
def asgM (m : Env → Store → Res PV) (mt : PV → Env → Store → Res Env) : Env → Store → Res Flow := fun ev st => (fixR (m ev st)).bind fun v st1 => (mt v ev st1).bind fun ev2 st2 => .ok (.nx ev2) st2
theorem aft_asg {mt : PV → Env → Store → Res Env} {tg : Expr} (hg : SimG T X W tg mt) {ρ : List Addr} {st : Store} {H : Hp} {σ : L2.St} {ev : Env} {D : Ends} (re : RepE X.K ρ H ev σ) (q : Aft (asgM m mt ev st) (WantFl X ρ H D) (WantXS T X W ρ H)) :
    Aft (m ev st) (WantV X ρ H fun w H1 => wG X tg w σ H1 D.nx) (WantX T X W ρ H σ) :=
  (aft_fixB (X := X) (ρ := ρ) (H := H) q fun v st1 q1 ρ1 H1 w g1 ok1 r1 =>
    hg ρ1 st1 H1 σ ev v w _ ok1 (re.mono g1) r1 ((Aft.bind q1).imp (fun ev2 st2 q2 ρ2 H2 σ2 g2 ok2 re2 => q2 ρ2 H2 (g1.trans g2) ok2 σ2 re2) fun _ _ _ => WantXS.from g1)).imp (fun _ _ z => z) fun _ _ _ z => z.x
theorem s_asg {tg : Expr} {mt : PV → Env → Store → Res Env} (hs : swapsWithSole [tg] e pos.line X.env = pure false) (hw : swappedStores [tg] e X.env = pure none) (h1 : (assignEach [tg] X.env).map (·.2) = [assign tg X.env])
    (h : SimE T X W e m) (hg : SimG T X W tg mt) : SimS T X W (.Assign [tg] e pos) (asgM m mt) := fun ρ st H σ ev D ok re q => by
  refine wS_of (ps_asg pe_w pg_w hs hw h1) ?_
  exact h ρ st H σ ev _ ok re (aft_asg hg re q)
/-- name = [..] on one line, the name a local -/
theorem s_asgLc (N : Nat) {i : Nat} {y : Str} {py : Pos} {tg iter elt : Expr} {ifs : List Expr} {scope : Scope} {own : List (Str × Nat)} {is : List Nat} {mi : Env → Store → Res Src} {spos : Pos} (hc : X.calm = true) (hN : X.N.Nodup)
    (hy : X.N[i]? = some y) (hyl : X.env.scope.names.lookup y = some .local) (hsw : swapsWith (.ListComp elt [⟨tg, iter, ifs, 0⟩] scope pos) (some (.Name y py)) spos.line X.env = pure true)
    (hi : SimI T X W tg iter mi) (hb : BlkOk X.N X.env.scope scope own) (hown : own.map (·.2) = is) (hfs : ∀ x, foldedSetIterable iter X.env x = pure x)
    (htg : Blk X scope fun X' => TgtF X' tg is) (hif : Conds T X scope ifs mc) (he : Blk X scope fun X' => SimE T X' W0 elt me) :
    SimS T X W (.Assign [.Name y py] (.ListComp elt [⟨tg, iter, ifs, 0⟩] scope pos) spos) (asgM (lcM N is mi mc me) (fun v ev st => .ok (ev.set i (some v)) st)) := fun ρ st H σ ev D ok re q => by
  obtain ⟨r1, r2, r3⟩ := lc_rule (T := T) (X := X) (tg := tg) (iter := iter) (elt := elt) (is := is) hif
  refine wS_of (ps_setLc hc hN hy hyl hsw pi_w hb r1 r2 r3 hfs) ?_
  rw [hown]
  refine lc_core' (W := W) N hc hN hi htg hif he ok re ?_
  refine (aft_fixB (X := X) (ρ := ρ) (H := H) q fun v st1 q1 ρ1 H1 w g1 ok1 rr => ?_).imp (fun _ _ z => z) fun _ _ _ z => z.x
  exact q1 ρ1 H1 g1 ok1 _ ((re.mono g1).set rr i)
theorem s_par {i j : Nat} {x y : Str} {px py pt : Pos} {kt k2 : Nat} {pt2 : Pos} (hc : X.calm = true) (hN : X.N.Nodup) (hi : X.N[i]? = some x) (hj : X.N[j]? = some y) (hij : i ≠ j)
    (hx : X.env.scope.names.lookup x = some .local) (hy : X.env.scope.names.lookup y = some .local) (hs1 : starEach [a, b] X.env = (false, eval a X.env) :: starEach [b] X.env) (hs2 : starEach [b] X.env = (false, eval b X.env) :: starEach [] X.env)
    (hw : swappedStores [.Tuple [.Name x px, .Name y py] kt pt] (.Tuple [a, b] k2 pt2) X.env = pure (some [x, y])) (ha : SimE T X W a ma) (hb : SimE T X W b mb) :
    SimS T X W (.Assign [.Tuple [.Name x px, .Name y py] kt pt] (.Tuple [a, b] k2 pt2) pos) (fun ev st => (fixR (ma ev st)).bind fun v st1 => (fixR (mb ev st1)).bind fun w st2 => .ok (.nx ((ev.set i (some v)).set j (some w))) st2) := fun ρ st H σ ev D ok re q => by
  refine wS_of (ps_par hc hN hi hj hij hx hy (pa_cons pe_w (pa_cons pe_w pa_nil hs2) hs1) hw) ?_
  refine ha ρ st H σ ev _ ok re ((aft_fixB (X := X) (ρ := ρ) (H := H) q fun v st1 q1 ρ1 H1 vv g1 ok1 r1 => ?_).imp (fun _ _ z => z) fun _ _ _ z => z.x)
  refine hb ρ1 st1 H1 σ ev _ ok1 (re.mono g1) ((aft_fixB (X := X) (ρ := ρ1) (H := H1) q1 fun w st2 q2 ρ2 H2 vw g2 ok2 r2 => ?_).imp (fun _ _ z => z) fun _ _ _ z => WantX.from g1 z.x)
  exact ⟨vv, vw, rfl, q2 ρ2 H2 (g1.trans g2) ok2 _ ((((re.mono (g1.trans g2)).set (r1.mono g2) i)).set r2 j)⟩

/-! ### loops -/
theorem s_while (N : Nat) (hp : PassesOwn (model X.prog X.w) X.A X.env X.xe) (hc : SimT T X W c (fun ev st => truth (mc ev st))) (hb : SimSs T X W ss nb) : SimS T X W (.While c ss [] pos) (fun ev st => whl (fun ev st => truth (mc ev st)) nb N ev st) := fun ρ st H σ ev D ok re q => by
  refine wS_of (ps_while hp pt_w pss_w) ?_
  refine ⟨fun m σ' H' => ∃ ρ' st' ev', Grow X.K ρ H ρ' H' ∧ OkS X.K ρ' st' H' ∧ RepE X.K ρ' H' ev' σ' ∧ Aft (whl (fun ev st => truth (mc ev st)) nb m ev' st') (WantFl X ρ H D) (WantXS T X W ρ H), ⟨N, ρ, st, ev, .refl, ok, re, q⟩, ?_⟩
  rintro m σ1 H1 ⟨ρ1, st1, ev1, g1, ok1, re1, q1⟩
  cases m with
  | zero => exact q1.elim
  | succ m =>
    unfold whl at q1
    refine hc ρ1 st1 H1 σ1 ev1 _ ok1 re1 ((Aft.bind q1).imp (fun k st2 q2 ρ2 H2 g2 ok2 => ?_) fun _ _ _ z => WantX.from g1 z.x)
    have g12 := g1.trans g2
    cases k with
    | false =>
      rw [if_neg Bool.false_ne_true] at q2
      refine iteF ?_
      exact q2 ρ2 H2 g12 ok2 σ1 (re1.mono g2)
    | true =>
      rw [if_pos rfl] at q2
      refine iteT (B := D.nx σ1 H2) ?_
      refine ⟨fun σ' H' => ∃ ρ' st' ev', Grow X.K ρ H ρ' H' ∧ OkS X.K ρ' st' H' ∧ RepE X.K ρ' H' ev' σ' ∧ Aft (whl (fun ev st => truth (mc ev st)) nb m ev' st') (WantFl X ρ H D) (WantXS T X W ρ H), fun σ' H' h => ⟨m, Nat.lt_succ_self m, h⟩, ?_⟩
      refine hb ρ2 st2 H2 σ1 ev1 _ ok2 (re1.mono g2) ((Aft.bind q2).imp (fun fl st3 q3 ρ3 H3 g3 ok3 => ?_) fun _ _ _ => WantXS.from g12)
      have g13 := g12.trans g3
      cases fl with
      | nx ev3 => exact fun σ3 re3 => ⟨ρ3, st3, ev3, g13, ok3, re3, q3⟩
      | ct ev3 => exact fun σ3 re3 => ⟨ρ3, st3, ev3, g13, ok3, re3, q3⟩
      | bk ev3 => exact fun σ3 re3 => q3 ρ3 H3 g13 ok3 σ3 re3
      | rt v => exact fun w rw' => q3 ρ3 H3 g13 ok3 w rw'
/-- the turns of a for: R is what is left to do from turn i on -/
theorem for_loop {ρ1 : List Addr} {H1 : Hp} {st1 : Store} {J : It} {tg : Expr} {σ1 : L2.St} {ev1 : Env} {D : Ends} {P : Flow → Store → Prop} {E : Nat → List (Nat × PV) → Store → Prop} {f : PV → Env → Store → Res Flow}
    (R : Nat → Env → Store → Res Flow) (μ : Nat → Nat) (ok1 : OkS X.K ρ1 st1 H1) (re1 : RepE X.K ρ1 H1 ev1 σ1)
    (unf : ∀ i ev st ρ H, Grow X.K ρ1 H1 ρ H → OkS X.K ρ st H → Aft (R i ev st) P E → (J.stop i H ∧ P (.nx ev) st) ∨ (J.go i H ∧ μ (i + 1) < μ i ∧ ∀ v H', J.yld i H v H' → H' = H ∧ ∃ x, Rep X.K ρ H x v ∧
      Aft (f x ev st) (fun fl st2 => match fl with
        | .nx ev2 => Aft (R (i + 1) ev2 st2) P E
        | .ct ev2 => Aft (R (i + 1) ev2 st2) P E
        | .bk ev2 => P (.nx ev2) st2
        | .rt v => P (.rt v) st2) E))
    (turn : ∀ x v ev st ρ H σ (D' : Ends), Grow X.K ρ1 H1 ρ H → OkS X.K ρ st H → RepE X.K ρ H ev σ → Rep X.K ρ H x v → Aft (f x ev st) (WantFl X ρ H D') (fun c fs st => E c fs st) → wG X tg v σ H fun σ2 H2 => wSs X ss D' σ2 H2)
    (fin : ∀ fl st ρ H, Grow X.K ρ1 H1 ρ H → OkS X.K ρ st H → P fl st → match fl with
      | .nx ev => ∀ σ, RepE X.K ρ H ev σ → D.nx σ H
      | .rt v => ∀ w, Rep X.K ρ H v w → D.rt w H
      | _ => True)
    (start : Aft (R 0 ev1 st1) P E) :
    ∃ Wv : Nat → Nat → L2.St → Hp → Prop, (∃ m, Wv 0 m σ1 H1) ∧ ∀ i m σ H, Wv i m σ H →
      (J.stop i H ∧ D.nx σ H) ∨ (J.go i H ∧ ∃ N : L2.St → Hp → Prop, (∀ σ' H', N σ' H' → ∃ m', m' < m ∧ Wv (i + 1) m' σ' H') ∧ ∀ x H', J.yld i H x H' → wG X tg x σ H' fun σ2 H2 => wSs X ss { D with nx := N, ct := N, bk := D.nx } σ2 H2) := by
  refine ⟨fun i m σ H => m = μ i ∧ ∃ ρ st ev, Grow X.K ρ1 H1 ρ H ∧ OkS X.K ρ st H ∧ RepE X.K ρ H ev σ ∧ Aft (R i ev st) P E, ⟨μ 0, rfl, ρ1, st1, ev1, .refl, ok1, re1, start⟩, ?_⟩
  rintro i m σ H ⟨rfl, ρ, st, ev, gr, ok, re, a⟩
  rcases unf i ev st ρ H gr ok a with ⟨h1, h2⟩ | ⟨h1, h2, h3⟩
  · exact .inl ⟨h1, fin (.nx ev) st ρ H gr ok h2 σ re⟩
  · refine .inr ⟨h1, fun σ' H' => ∃ ρ st ev, Grow X.K ρ1 H1 ρ H' ∧ OkS X.K ρ st H' ∧ RepE X.K ρ H' ev σ' ∧ Aft (R (i + 1) ev st) P E, fun σ' H' hN => ⟨μ (i + 1), h2, rfl, hN⟩, fun v H' y => ?_⟩
    obtain ⟨rfl, x, rx, ax⟩ := h3 v H' y
    refine turn x v ev st ρ H' σ _ gr ok re rx (ax.imp (fun fl st2 q ρ2 H2 g2 ok2 => ?_) fun c fs st2 z => z)
    have g12 := gr.trans g2
    cases fl with
    | nx ev2 => exact fun σ2 re2 => ⟨ρ2, st2, ev2, g12, ok2, re2, q⟩
    | ct ev2 => exact fun σ2 re2 => ⟨ρ2, st2, ev2, g12, ok2, re2, q⟩
    | bk ev2 => exact fun σ2 re2 => fin (.nx ev2) st2 ρ2 H2 g12 ok2 q σ2 re2
    | rt w => exact fun w' rw' => fin (.rt w) st2 ρ2 H2 g12 ok2 q w' rw'

theorem aft_forB {f : PV → Env → Store → Res Flow} {x : PV} {ev : Env} {st : Store} {G : Env → Store → Res Flow} {P : Flow → Store → Prop} {E : Nat → List (Nat × PV) → Store → Prop}
    (h : Aft ((f x ev st).bind fun f st2 => match f with
      | .nx ev2 => G ev2 st2
      | .ct ev2 => G ev2 st2
      | .bk ev2 => .ok (.nx ev2) st2
      | .rt v => .ok (.rt v) st2) P E) : Aft (f x ev st) (fun fl st2 => match fl with
        | .nx ev2 => Aft (G ev2 st2) P E
        | .ct ev2 => Aft (G ev2 st2) P E
        | .bk ev2 => P (.nx ev2) st2
        | .rt v => P (.rt v) st2) E :=
  (Aft.bind h).imp (fun fl st2 q => by cases fl <;> exact q) fun _ _ _ z => z
theorem s_for (N : Nat) {tg iter : Expr} {mi : Env → Store → Res Src} {mt : PV → Env → Store → Res Env} (hp : PassesOwn (model X.prog X.w) X.A X.env X.xe) (hc : X.calm = true) (hfs : ∀ x, foldedSetIterable iter X.env x = pure x)
    (hi : SimI T X W tg iter mi) (hg : SimG T X W tg mt) (hb : SimSs T X W ss nb) : SimS T X W (.For tg iter ss [] pos) (forM N mi (turnM mt nb)) := fun ρ st H σ ev D ok re q => by
  refine wS_of (ps_for hp hc pi_w pg_w pss_w hfs) ?_
  refine hi ρ st H σ ev _ ok re ((Aft.bind q).imp (fun s st1 q1 ρ1 H1 J g1 ok1 hJ => ?_) fun _ _ _ z => z.x)
  have re1 := re.mono g1
  have turn : ∀ x v ev st ρ2 H2 σ (D' : Ends), Grow X.K ρ1 H1 ρ2 H2 → OkS X.K ρ2 st H2 → RepE X.K ρ2 H2 ev σ → Rep X.K ρ2 H2 x v → Aft (turnM mt nb x ev st) (WantFl X ρ2 H2 D') (fun c fs st => WantXS T X W ρ H c fs st) → wG X tg v σ H2 fun σ3 H3 => wSs X ss D' σ3 H3 :=
    fun x v ev st ρ2 H2 σ D' g2 ok2 re2 rx a => by
      have g12 := g1.trans g2
      refine hg ρ2 st H2 σ ev x v _ ok2 re2 rx ((Aft.bind a).imp (fun ev3 st3 q3 ρ3 H3 σ3 g3 ok3 re3 => ?_) fun _ _ _ => WantXS.from g12)
      exact hb ρ3 st3 H3 σ3 ev3 D' ok3 re3 (q3.imp (fun _ _ => WantFl.from g3) fun _ _ _ => WantXS.from (g12.trans g3))
  have fin : ∀ fl st ρ2 H2, Grow X.K ρ1 H1 ρ2 H2 → OkS X.K ρ2 st H2 → WantFl X ρ H D fl st → match fl with
      | .nx ev => ∀ σ, RepE X.K ρ2 H2 ev σ → D.nx σ H2
      | .rt v => ∀ w, Rep X.K ρ2 H2 v w → D.rt w H2
      | _ => True := fun fl st ρ2 H2 g2 ok2 w => by
    have w2 := w ρ2 H2 (g1.trans g2) ok2
    cases fl with
    | nx ev => exact w2
    | rt v => exact w2
    | bk ev => trivial
    | ct ev => trivial
  have q2 : Aft (forSrc N (turnM mt nb) s ev st1) (WantFl X ρ H D) (WantXS T X W ρ H) := q1
  cases s with
  | vals xs =>
    refine for_loop (fun i ev st => forGo (turnM mt nb) (xs.drop i) ev st) (fun i => xs.length - i) ok1 re1 (fun i ev st ρ2 H2 g2 ok2 a => ?_) turn fin q2
    obtain ⟨y1, y2⟩ := hJ ρ2 H2 g2
    by_cases hi : i < xs.length
    · right
      obtain ⟨h1, h2⟩ := y1 i xs[i] (List.getElem?_eq_getElem hi)
      refine ⟨h1, by omega, fun v H' y => ?_⟩
      obtain ⟨rfl, rx⟩ := h2 v H' y
      refine ⟨rfl, xs[i], rx, ?_⟩
      rw [List.drop_eq_getElem_cons hi] at a
      exact aft_forB (G := fun ev st => forGo (turnM mt nb) (xs.drop (i + 1)) ev st) a
    · left
      rw [List.drop_eq_nil_of_le (by omega)] at a
      exact ⟨y2 i (by omega), a⟩
  | live n =>
    obtain ⟨d, hd, rfl⟩ := hJ
    refine for_loop (fun i ev st => forLive (turnM mt nb) n (N - i) i ev st) (fun i => N - i) ok1 re1 (fun i ev st ρ2 H2 g2 ok2 a => ?_) turn fin q2
    cases hf : N - i with
    | zero => rw [hf] at a; exact a.elim
    | succ k =>
      rw [hf] at a
      unfold forLive at a
      cases hl : lv st (.loc n) with
      | none => rw [hl] at a; exact a.elim
      | some xs =>
        rw [hl] at a
        obtain ⟨d', vs, e, h3, h4⟩ := lw_ok ok2 (x := .loc n) (v := .ref d) (Rep.x (.loc (g2.kp.at_ hd))) hl
        cases e
        dsimp only at a
        cases hx : xs[i]? with
        | none =>
          rw [hx] at a
          left
          refine ⟨⟨vs, SqL.of h3, ?_⟩, a⟩
          rw [← h4.length]
          exact List.getElem?_eq_none_iff.mp hx
        | some x =>
          rw [hx] at a
          right
          obtain ⟨w, h5, h6⟩ := h4.get hx
          refine ⟨⟨vs, w, SqL.of h3, h5⟩, by omega, fun v H' y => ?_⟩
          obtain ⟨rfl, y⟩ := y
          have e2 := y vs (SqL.of h3)
          rw [h5] at e2
          cases e2
          refine ⟨rfl, x, h6, ?_⟩
          have e3 : N - (i + 1) = k := by omega
          rw [e3]
          exact aft_forB (G := fun ev st => forLive (turnM mt nb) n k (i + 1) ev st) a
  | rng lo n =>
    have eJ : J = Itr lo n := hJ
    subst eJ
    refine for_loop (fun i ev st => forRng (turnM mt nb) (n - i) (lo + i) ev st) (fun i => n - i) ok1 re1 (fun i ev st ρ2 H2 g2 ok2 a => ?_) turn fin (by
      have e : lo + ((0 : Nat) : Int) = lo := by simp
      show Aft (forRng (turnM mt nb) n (lo + ((0 : Nat) : Int)) ev st1) _ _
      rw [e]
      exact q2)
    cases hf : n - i with
    | zero =>
      rw [hf] at a
      left
      exact ⟨show n ≤ i by omega, a⟩
    | succ k =>
      rw [hf] at a
      right
      refine ⟨show i < n by omega, by omega, fun v H' y => ?_⟩
      obtain ⟨rfl, rfl⟩ := y
      refine ⟨rfl, .int (lo + i), .int _, ?_⟩
      have e3 : n - (i + 1) = k := by omega
      have e4 : lo + ((i + 1 : Nat) : Int) = lo + (i : Int) + 1 := by omega
      rw [e3, e4]
      exact aft_forB (G := fun ev st => forRng (turnM mt nb) k (lo + (i : Int) + 1) ev st) a
end
end Vm

set_option maxHeartbeats 4000000
/-! Vm9: side conditions by the text alone; calls of own functions. -/
namespace Vm
open PySem L2

/-! ### side conditions by the text -/
def notStar : Expr → Bool
  | .Starred _ _ => false
  | _ => true
theorem notStar_ok {e : Expr} (h : notStar e = true) (es : List Expr) (env : PySem.Env) : starEach (e :: es) env = (false, eval e env) :: starEach es env := by
  cases e <;> first | rfl | cases h
theorem notStar_assign {e : Expr} (h : notStar e = true) (env : PySem.Env) : (assignEach [e] env).map (·.2) = [assign e env] := by
  cases e <;> first | rfl | cases h
def notSlice : Expr → Bool
  | .Slice _ _ _ _ => false
  | _ => true
theorem notSlice_ok {e : Expr} (h : notSlice e = true) : PlainIx e := by
  intro o i
  cases e <;> first | rfl | cases h
theorem notSlice_sub {i : Expr} (h : notSlice i = true) (o : Expr) (pos : Pos) (env : PySem.Env) : ∀ v, assign (.Subscript o i pos) env v = (do
      let ov ← holding [v] (eval o env)
      let iv ← holding [v, ov] (eval i env)
      standAt pos
      holding [v, ov, iv] (setItem ov iv v)
      release [v, ov, iv] []) := by
  intro v
  cases i <;> first | rfl | cases h
def plainT : Expr → Bool
  | .UnaryOp .Not _ _ => false
  | .BoolOp _ _ _ => false
  | .IfExp _ _ _ _ => false
  | .Compare _ _ _ _ => false
  | _ => true
theorem plainT_ok {e : Expr} (h : plainT e = true) (env : PySem.Env) : ∀ whole, isTrue e env whole = (do let v ← whole; standAt e.pos; holding [v] (truthy v)) := by
  intro whole
  cases e with
  | UnaryOp op a pos => cases op <;> first | rfl | cases h
  | _ => first | rfl | cases h
def notSet : Expr → Bool
  | .Set _ _ _ => false
  | _ => true
theorem notSet_ok {e : Expr} (h : notSet e = true) (env : PySem.Env) : ∀ x, foldedSetIterable e env x = pure x := by
  intro x
  cases e <;> first | rfl | cases h
theorem notSet_marks {e : Expr} (h : notSet e = true) (op : CmpOp) : behindInMarks op e = false := by
  cases e <;> first | rfl | cases h
theorem notSet_last {b c : Expr} (h : notSet c = true) (o o' : CmpOp) : lastMarks [o, o'] [b, c] = false := notSet_marks h o'
def notSup : Expr → Bool
  | .Call (.Name _ _) [] [] _ => false
  | _ => true
theorem notSup_ok {o : Expr} (h : notSup o = true) (m : Str) (env : PySem.Env) (w : Sem Value) : attributeBase o m env w = w := by
  unfold attributeBase
  split
  · cases h
  · rfl
def notComp : Expr → Bool
  | .ListComp _ _ _ _ => false
  | .SetComp _ _ _ _ => false
  | .DictComp _ _ _ _ _ => false
  | _ => true
theorem notComp_ok {e : Expr} (h : notComp e = true) (t : Option Expr) (n : Nat) (env : PySem.Env) : swapsWith e t n env = pure false := by
  cases e <;> first | rfl | cases h
theorem notComp_sole {e : Expr} (h : notComp e = true) (t : Expr) (n : Nat) (env : PySem.Env) : swapsWithSole [t] e n env = pure false := notComp_ok h (some t) n env
/-- a comprehension put at once into a name of its line -/
def swB (sc : Scope) (y : Str) (py : Pos) (pos : Pos) (scope : Scope) : Bool := sc.names.lookup y == some .local && py.line == pos.line && !(scope.names.any fun (n, k) => n == y && (k == .local || k == .cell))
theorem swB_ok {env : PySem.Env} {sc : Scope} (hs : env.scope = sc) (hk : sc.kind = .function) {y : Str} {py : Pos} {elt : Expr} {gens : List Comprehension} {scope : Scope} {pos : Pos} {n : Nat} (h : swB sc y py pos scope = true) :
    swapsWith (.ListComp elt gens scope pos) (some (.Name y py)) n env = pure true := by
  have e : env.blockKind = .function := by unfold Env.blockKind; rw [hs, hk]; rfl
  show (pure (env.blockKind == .function && env.kindOf y == some .local && py.line == pos.line && !(scope.names.any fun (n, k) => n == y && (k == .local || k == .cell))) : Sem Bool) = pure true
  unfold swB at h
  rw [e]
  unfold Env.kindOf
  rw [hs]
  have e2 : (ScopeKind.function == ScopeKind.function && sc.names.lookup y == some .local && py.line == pos.line && !(scope.names.any fun (n, k) => n == y && (k == .local || k == .cell))) = true := by
    simp only [Bool.and_eq_true] at h ⊢
    exact ⟨⟨⟨rfl, h.1.1⟩, h.1.2⟩, h.2⟩
  rw [e2]
theorem swB_no {env : PySem.Env} {sc : Scope} (hs : env.scope = sc) (hk : sc.kind = .function) {y : Str} {py : Pos} {elt : Expr} {gens : List Comprehension} {scope : Scope} {pos : Pos} {n : Nat} (h : swB sc y py pos scope = false) :
    swapsWith (.ListComp elt gens scope pos) (some (.Name y py)) n env = pure false := by
  have e : env.blockKind = .function := by unfold Env.blockKind; rw [hs, hk]; rfl
  show (pure (env.blockKind == .function && env.kindOf y == some .local && py.line == pos.line && !(scope.names.any fun (n, k) => n == y && (k == .local || k == .cell))) : Sem Bool) = pure false
  unfold swB at h
  rw [e]
  unfold Env.kindOf
  rw [hs]
  have e2 : (ScopeKind.function == ScopeKind.function && sc.names.lookup y == some .local && py.line == pos.line && !(scope.names.any fun (n, k) => n == y && (k == .local || k == .cell))) = false := by
    show (true && _ && _ && _) = false
    rw [Bool.true_and]
    exact h
  rw [e2]
def notTup : Expr → Bool
  | .Tuple _ _ _ => false
  | _ => true
def simpTgt : Expr → Bool
  | .Name _ _ => true
  | .Subscript _ _ _ => true
  | .Attribute _ _ _ => true
  | _ => false
theorem simpTgt_ok {t : Expr} (h : simpTgt t = true) (e : Expr) (env : PySem.Env) : swappedStores [t] e env = pure none := by
  unfold swappedStores
  cases t <;> first | rfl | cases h
theorem notTup_r {e : Expr} (h : notTup e = true) (t : Expr) (env : PySem.Env) : swappedStores [t] e env = pure none := by
  unfold swappedStores
  cases e <;> first | (cases t <;> rfl) | cases h
def visB (sc : Scope) (x : Str) : Bool := match sc.names.lookup x with
  | some .local => true
  | some .cell => true
  | some .free => true
  | _ => false
theorem visB_ok {sc : Scope} {x : Str} (h : visB sc x = true) : Vis sc x := by
  unfold visB at h
  split at h <;> first | exact .inl (by assumption) | exact .inr (.inl (by assumption)) | exact .inr (.inr (by assumption)) | cases h
def stoB (sc : Scope) (x : Str) : Bool := match sc.names.lookup x with
  | some .local => true
  | some .cell => true
  | _ => false
theorem stoB_ok {sc : Scope} {x : Str} (h : stoB sc x = true) : Loc sc x := by
  unfold stoB at h
  split at h <;> first | exact .inl (by assumption) | exact .inr (by assumption) | cases h
def glB (sc : Scope) (x : Str) : Bool := match sc.names.lookup x with
  | some .globalImplicit => true
  | _ => false
theorem glB_ok {sc : Scope} {x : Str} (h : glB sc x = true) : sc.names.lookup x = some .globalImplicit := by
  unfold glB at h
  split at h
  · assumption
  · cases h
def nmB (x : Str) : Bool := !(x == ("__debug__" : Str)) && !(x == ("__classdict__" : Str))
theorem nmB_ok {x : Str} (h : nmB x = true) : (x == ("__debug__" : Str)) = false ∧ (x == ("__classdict__" : Str)) = false := by
  unfold nmB at h
  simpa using h

/-! ### calls of own functions -/
def WantR (K : PySem.W.Frag) (ρ : List Addr) (H : Hp) (Q : VK) : PV → Store → Prop := fun x st' => ∀ ρ' H' v, Grow K ρ H ρ' H' → OkS K ρ' st' H' → Rep K ρ' H' x v → Q v H'
def WantRX (T : Tb) (K : PySem.W.Frag) (ρ : List Addr) (H : Hp) (E : XK) : Nat → List (Nat × PV) → Store → Prop := fun c fs st' => ∀ ρ' H' d, Grow K ρ H ρ' H' → OkS K ρ' st' H' → RepXd T K H ρ' H' fs d → E (.ref (T.cl c)) d H'
/-- a def's promise: what the machine says of it -/
def spF (T : Tb) (K : PySem.W.Frag) (np : Nat) (g : List PV → Store → Res PV) : Sp := fun vs H Q E => ∃ ρ st xs, OkS K ρ st H ∧ RepL K ρ H xs vs ∧ vs.length = np ∧ Aft (g xs st) (WantR K ρ H Q) (WantRX T K ρ H E)
section
variable {T : Tb} {X : Cx} {W : WX} {e : Expr} {es : List Expr} {m : Env → Store → Res PV} {p pos : Pos}
theorem sp_of {g : List PV → Store → Res PV} {np : Nat} {ρ : List Addr} {st : Store} {H : Hp} {σ : L2.St} {xs : List PV} {vs : List V} {Q : VK} (ok : OkS X.K ρ st H) (r : RepL X.K ρ H xs vs) (hl : vs.length = np) (q : Aft (g xs st) (WantV X ρ H Q) (WantX T X W ρ H σ)) :
    spF T X.K np g vs H Q (WE W σ) :=
  ⟨ρ, st, xs, ok, r, hl, q.imp (fun x st' w ρ' H' v g ok' r' => w ρ' H' v g ok' r'.r) fun c fs st' w ρ' H' d g ok' r' => w ρ' H' d g ok' r'⟩
theorem pe_callS0 {k : Nat} {f : Addr} {fd : FuncData} {ps : List Str} {sp : Sp} {CX : CXT} {E : L2.St → XK} {x : Str} (F : FnOk X.prog X.w X.K X.mg X.base CX k f fd ps sp) (hr : Room k X.A) (hg : L2.Gl X x) (hm : X.mg x = some (.ref f)) (hk : PySem.W.keepIn X.K (.ref f) = true) (hb : Binds X.K fd ps [])
    (hx : ∀ σ, PassesAt CX X σ (E σ)) (hdb : (x == ("__debug__" : Str)) = false) : PE X (.Call (.Name x p) [] [] pos) (tCallS sp E tNil) := by
  refine ⟨fun pins s σ H Q I h => ?_⟩
  refine wpAny_Call_Name_kw (ld_glob I hg hm ?_ hdb)
  exact PySem.W.callWith_K0 I.kIn hk (run_fnS (us := []) F hr hb (hx σ) I .nil h)
theorem sim_call0 {k : Nat} {f : Addr} {fd : FuncData} {ps : List Str} {x : Str} {g : List PV → Store → Res PV} (F : FnOk X.prog X.w X.K X.mg X.base (L2.CX X.prog X.w) k f fd ps (spF T X.K 0 g)) (hr : Room k X.A) (hg : L2.Gl X x) (hm : X.mg x = some (.ref f)) (hk : PySem.W.keepIn X.K (.ref f) = true)
    (hb : Binds X.K fd ps []) (tk : Takes X W) (hdb : (x == ("__debug__" : Str)) = false) : SimE T X W (.Call (.Name x p) [] [] pos) (fun _ st => g [] st) := fun ρ st H σ ev Q ok re q =>
  wE_of (pe_callS0 F hr hg hm hk hb (fun σ => passAt tk σ) hdb) (sp_of ok .nil rfl q)
theorem stars_ok {env : PySem.Env} {pos : Pos} : ∀ (es : List Expr), es.all notStar = true → (backTo pos (starEach es env)).any (·.1) = false := by
  intro es
  induction es with
  | nil => intro _; rfl
  | cons e es ih =>
    intro h
    simp only [List.all_cons, Bool.and_eq_true] at h
    rw [notStar_ok h.1]
    show (false || (backTo pos (starEach es env)).any (·.1)) = false
    rw [ih h.2]
    rfl
theorem sim_call {k np : Nat} {f : Addr} {fd : FuncData} {ps : List Str} {x : Str} {g : List PV → Store → Res PV} (F : FnOk X.prog X.w X.K X.mg X.base (L2.CX X.prog X.w) k f fd ps (spF T X.K np g)) (hr : Room k X.A) (hg : L2.Gl X x) (hm : X.mg x = some (.ref f)) (hk : PySem.W.keepIn X.K (.ref f) = true)
    (hb : Binds X.K fd ps []) (tk : Takes X W) (hdb : (x == ("__debug__" : Str)) = false) (hs : (e :: es).all notStar = true) (hn : (e :: es).length = np) (ha : SimA T X W (e :: es) m) (hlen : ∀ ev st v st', m ev st = .ok v st' → (tupOf v).length = (e :: es).length) :
    SimE T X W (.Call (.Name x p) (e :: es) [] pos) (fun ev st => (m ev st).bind fun v st1 => g (tupOf v) st1) := fun ρ st H σ ev Q ok re q => by
  have key : wA X (e :: es) σ H fun vs H1 => spF T X.K np g vs H1 Q (WE W σ) := by
    refine ha ρ st H σ ev _ ok re ?_
    cases hm' : m ev st with
    | bad => dsimp only at q; rw [hm'] at q; exact q.elim
    | exc c fs st1 => dsimp only at q; rw [hm'] at q; exact q
    | ok v st1 =>
      dsimp only at q
      rw [hm'] at q
      intro ρ1 H1 vs g1 ok1 r1
      refine sp_of ok1 r1 ?_ (aftV g1 q)
      rw [← r1.length, hlen ev st v st1 hm', hn]
  simp only [List.all_cons, Bool.and_eq_true] at hs
  exact wE_of (pe_callS F hr hg hm hk hb (fun σ => passAt tk σ) pa_w hdb (notStar_ok hs.1 es X.env) (stars_ok es hs.2)) key
end
end Vm

set_option maxHeartbeats 8000000
/-! Vm10: compiled code against the text: a check that is decided by computing, and what it gives. -/
namespace Vm
open PySem L2

structure Tabs where
  fn : Nat → Option Fn
  fname : Nat → Str
  gl : Nat → Option PV
  gname : Nat → Str
  free : List Str

def litOk : PV → Const → Bool
  | .non, .none => true
  | .bl b, .bool c => b == c
  | .int i, .int j => i == j
  | .str l, .str s => l == s.cps.toList
  | _, _ => false
/-- may stand as a test -/
def tOk : Expr → Bool
  | .IfExp _ _ _ _ => false
  | _ => true
def nameOf : Expr → Option Str
  | .Name x _ => some x
  | _ => none
def namesOf : List Expr → Option (List Str)
  | [] => some []
  | e :: es => match nameOf e, namesOf es with
    | some x, some xs => some (x :: xs)
    | _, _ => none
/-- a target's names with their slots -/
def ownOf : Expr → List Nat → Option (List (Str × Nat))
  | .Name x _, [i] => some [(x, i)]
  | .Tuple es _ _, is => if is.length = 1 || !(es.length == is.length) then none else (namesOf es).map fun (xs : List Str) => xs.zip is
  | _, _ => none
/-- the scope of a comprehension's block stores the name -/
def ownB (scope : Scope) (own : List (Str × Nat)) : Bool := own.all fun p => stoB scope p.1

def ok (Γ : Tabs) (N : List Str) : CE → Bool → Scope → List Expr → Bool
  | .nil => fun arg sc es => match arg, es with
    | true, es => es.isEmpty
    | _, _ => false
  | .cons a as => fun arg sc es => match arg, es with
    | true, e :: es => notStar e && ok Γ N a false sc [e] && ok Γ N as true sc es
    | _, _ => false
  | .lit v => fun arg sc es => match arg, es with
    | false, [.Constant c _ _] => litOk v c
    | _, _ => false
  | .var i => fun arg sc es => match arg, es with
    | false, [.Name x _] => decide (N[i]? = some x) && visB sc x && nmB x
    | _, _ => false
  | .glob g => fun arg sc es => match arg, es with
    | false, [.Name x _] => decide (Γ.gname g = x) && glB sc x && nmB x && (Γ.gl g).isSome
    | _, _ => false
  | .tup as => fun arg sc es => match arg, es with
    | false, [.Tuple es _ _] => ok Γ N as true sc es
    | _, _ => false
  | .lst as => fun arg sc es => match arg, es with
    | false, [.List es _] => ok Γ N as true sc es
    | _, _ => false
  | .bin o a b => fun arg sc es => match arg, es with
    | false, [.BinOp ea op eb _] => decide (bopOf o = op) && ok Γ N a false sc [ea] && ok Γ N b false sc [eb]
    | _, _ => false
  | .cmp o a b => fun arg sc es => match arg, es with
    | false, [.Compare ea [op] [eb] _] => decide (copOf o = op) && notSet eb && ok Γ N a false sc [ea] && ok Γ N b false sc [eb]
    | _, _ => false
  | .cmp2 o o' a b c => fun arg sc es => match arg, es with
    | false, [.Compare ea [op, op'] [eb, ec] _] => decide (copOf o = op) && decide (copOf o' = op') && notSet ec && ok Γ N a false sc [ea] && ok Γ N b false sc [eb] && ok Γ N c false sc [ec]
    | _, _ => false
  | .and a b => fun arg sc es => match arg, es with
    | false, [.BoolOp op (e1 :: e2 :: rest) pos] => decide (op = .And) && tOk e1 && ok Γ N a false sc [e1] && (match rest with
      | [] => tOk e2 && ok Γ N b false sc [e2]
      | _ => ok Γ N b false sc [.BoolOp op (e2 :: rest) pos])
    | _, _ => false
  | .or a b => fun arg sc es => match arg, es with
    | false, [.BoolOp op (e1 :: e2 :: rest) pos] => decide (op = .Or) && tOk e1 && ok Γ N a false sc [e1] && (match rest with
      | [] => tOk e2 && ok Γ N b false sc [e2]
      | _ => ok Γ N b false sc [.BoolOp op (e2 :: rest) pos])
    | _, _ => false
  | .not a => fun arg sc es => match arg, es with
    | false, [.UnaryOp op ea _] => decide (op = .Not) && tOk ea && ok Γ N a false sc [ea]
    | _, _ => false
  | .neg a => fun arg sc es => match arg, es with
    | false, [.UnaryOp op ea _] => decide (op = .USub) && ok Γ N a false sc [ea]
    | _, _ => false
  | .ite c a b => fun arg sc es => match arg, es with
    | false, [.IfExp ec ea eb _] => tOk ec && ok Γ N c false sc [ec] && ok Γ N a false sc [ea] && ok Γ N b false sc [eb]
    | _, _ => false
  | .ix a b => fun arg sc es => match arg, es with
    | false, [.Subscript ea eb _] => notSlice eb && ok Γ N a false sc [ea] && ok Γ N b false sc [eb]
    | _, _ => false
  | .sl a lo hi => fun arg sc es => match arg, es with
    | false, [.Subscript ea (.Slice elo ehi none _) _] => ok Γ N a false sc [ea] && (match elo with
        | none => isNo lo
        | some x => !isNo lo && ok Γ N lo false sc [x]) && (match ehi with
        | none => isNo hi
        | some x => !isNo hi && ok Γ N hi false sc [x])
    | _, _ => false
  | .call f as => fun arg sc es => match arg, es with
    | false, [.Call (.Name x _) es [] _] => decide (Γ.fname f = x) && glB sc x && nmB x && es.all notStar && ok Γ N as true sc es && (match Γ.fn f with
        | some c => decide (es.length = c.np)
        | none => false)
    | _, _ => false
  | .blt1 f a => fun arg sc es => match arg, es with
    | false, [.Call (.Name x _) [ea] [] _] => decide (bltName f = x) && glB sc x && Γ.free.contains x && notStar ea && ok Γ N a false sc [ea]
    | _, _ => false
  | .blt2 f a b => fun arg sc es => match arg, es with
    | false, [.Call (.Name x _) [ea, eb] [] _] => decide (bltName f = x) && glB sc x && Γ.free.contains x && notStar ea && notStar eb && ok Γ N a false sc [ea] && ok Γ N b false sc [eb]
    | _, _ => false
  | .mth0 m a => fun arg sc es => match arg, es with
    | false, [.Call (.Attribute ea x apos) [] [] cpos] => (match m with
        | .pop => decide (x = ("pop" : Str))
        | .reverse => decide (x = ("reverse" : Str))
        | _ => false) && notSup ea && (apos.endLine == cpos.line) && ok Γ N a false sc [ea]
    | _, _ => false
  | .mth1 m a b => fun arg sc es => match arg, es with
    | false, [.Call (.Attribute ea x apos) [eb] [] cpos] => (match m with
        | .append => decide (x = ("append" : Str))
        | _ => false) && notSup ea && notStar eb && (apos.endLine == cpos.line) && ok Γ N a false sc [ea] && ok Γ N b false sc [eb]
    | _, _ => false
  | .isi a t => fun arg sc es => match arg, es with
    | false, [.Call (.Name x _) [ea, .Name y _] [] _] => decide (x = ("isinstance" : Str)) && decide (tyName t = y) && glB sc x && glB sc y && Γ.free.contains x && Γ.free.contains y && notStar ea && ok Γ N a false sc [ea]
    | _, _ => false
  | .ditems a => fun arg sc es => match arg, es with
    | false, [.Call (.Name x _) [.Call (.Attribute ea y apos) [] [] cpos] [] _] => decide (x = ("list" : Str)) && decide (y = ("items" : Str)) && glB sc x && Γ.free.contains x && notSup ea && (apos.endLine == cpos.line) && ok Γ N a false sc [ea]
    | _, _ => false
  | .dict1 a => fun arg sc es => match arg, es with
    | false, [.Call (.Name x _) [ea] [] _] => decide (x = ("dict" : Str)) && glB sc x && Γ.free.contains x && notStar ea && ok Γ N a false sc [ea]
    | _, _ => false
  | .dnew => fun arg sc es => match arg, es with
    | false, [.Dict [] [] _] => true
    | _, _ => false
  | .lc own k a b hc c e => fun arg sc es => match arg, es with
    | false, [.ListComp elt [⟨tg, iter, ifs, 0⟩] scope _] => (match ownOf tg own with
      | some ow => blkC N sc scope ow && ownB scope ow
      | none => false) && notSet iter && (match k, iter with
        | .seq, it => ok Γ N a false sc [it]
        | .rng1, .Call (.Name x _) [ea] [] _ => decide (x = ("range" : Str)) && glB sc x && Γ.free.contains x && notStar ea && ok Γ N a false sc [ea]
        | .rng2, .Call (.Name x _) [ea, eb] [] _ => decide (x = ("range" : Str)) && glB sc x && Γ.free.contains x && notStar ea && notStar eb && ok Γ N a false sc [ea] && ok Γ N b false sc [eb]
        | _, _ => false) && (match hc, ifs with
        | false, [] => true
        | true, [ec] => tOk ec && ok Γ N c false (relS scope sc) [ec]
        | _, _ => false) && ok Γ N e false (relS scope sc) [elt]
    | _, _ => false
  | .noE => fun _ _ _ => false

/-- a context in which compiled code is run: d calls deep at most -/
structure Good (T : Tb) (Γ : Tabs) (NN : Nat) (N : List Str) (d : Nat) (sc : Scope) (X : Cx) (W : WX) : Prop where
  hN : X.N = N
  hsc : X.env.scope = sc
  nd : N.Nodup
  kind : sc.kind = .function
  calm : X.calm = true
  room : Room d X.A
  pass : PassesOwn (model X.prog X.w) X.A X.env X.xe
  takes : Takes X W
  fns : ∀ f c, Γ.fn f = some c → ∃ a fd ps, X.mg (Γ.fname f) = some (.ref a) ∧ PySem.W.keepIn X.K (.ref a) = true ∧ Binds X.K fd ps [] ∧ FnOk X.prog X.w X.K X.mg X.base (L2.CX X.prog X.w) d a fd ps (spF T X.K c.np (run Γ.fn Γ.gl NN d f))
  gls : ∀ g x, Γ.gl g = some x → ∃ v u, X.mg (Γ.gname g) = some u ∧ RelV v u ∧ ∀ ρ H, Rep X.K ρ H x v
  frees : ∀ x ∈ Γ.free, X.mg x = none
section
variable {T : Tb} {Γ : Tabs} {NN d : Nat} {N : List Str} {sc : Scope} {X : Cx} {W : WX}
theorem Good.un (g : Good T Γ NN N d sc X W) : X.A.units + 1 < cLine := hu_of g.room
theorem Good.gl (g : Good T Γ NN N d sc X W) {x : Str} (h : glB sc x = true) : L2.Gl X x := by
  show X.env.scope.names.lookup x = some .globalImplicit
  rw [g.hsc]
  exact glB_ok h
theorem Good.vis (g : Good T Γ NN N d sc X W) {x : Str} (h : visB sc x = true) : Vis X.env.scope x := by
  rw [g.hsc]
  exact visB_ok h
theorem Good.free (g : Good T Γ NN N d sc X W) {x : Str} (h : Γ.free.contains x = true) : X.mg x = none := g.frees x (by simpa using h)
theorem Good.blk (g : Good T Γ NN N d sc X W) {scope : Scope} (hk : scope.kind = .function) : Blk X scope fun X' => Good T Γ NN N d (relS scope sc) X' W0 := fun s H C cl fp =>
  { hN := g.hN
    hsc := by show relS scope X.env.scope = _; rw [g.hsc]
    nd := g.nd
    kind := hk
    calm := g.calm
    room := g.room
    pass := PassesOwn.never
    takes := takes0
    fns := g.fns
    gls := g.gls
    frees := g.frees }

/-- what is shown of compiled code -/
def SoundE (T : Tb) (X : Cx) (W : WX) (e : Expr) (m : Env → Store → Res PV) : Prop :=
  SimE T X W e m ∧ (tOk e = true → SimT T X W e fun ev st => truth (m ev st)) ∧ (∀ op es pos, e = .BoolOp op es pos → SimW T X W e fun ev st => truth (m ev st))
theorem SoundE.plain {e : Expr} {m : Env → Store → Res PV} (h : SimE T X W e m) (hp : plainT e = true) : SoundE T X W e m :=
  ⟨h, fun _ => simT_val (plainT_ok hp X.env) h, fun op es pos e' => by subst e'; cases hp⟩
/-- .. of a chain's rest -/
theorem SoundE.restA {e : Expr} {m : Env → Store → Res PV} {pos : Pos} (h : SoundE T X W e m) (ht : tOk e = true) : SimE T X W (.BoolOp .And [e] pos) m ∧ SimW T X W (.BoolOp .And [e] pos) fun ev st => truth (m ev st) := ⟨simE_one h.1, simW_and1 (h.2.1 ht)⟩
theorem SoundE.restO {e : Expr} {m : Env → Store → Res PV} {pos : Pos} (h : SoundE T X W e m) (ht : tOk e = true) : SimE T X W (.BoolOp .Or [e] pos) m ∧ SimW T X W (.BoolOp .Or [e] pos) fun ev st => truth (m ev st) := ⟨simE_one h.1, simW_or1 (h.2.1 ht)⟩
abbrev EV (Γ : Tabs) (NN d : Nat) (ce : CE) : Env → Store → Res PV := evE (run Γ.fn Γ.gl NN d) Γ.gl NN ce
theorem args_len {c : Nat → List PV → Store → Res PV} {G : Nat → Option PV} {n : Nat} : ∀ (ce : CE) (sc : Scope) (es : List Expr), ok Γ N ce true sc es = true → ∀ ev st v st', evE c G n ce ev st = .ok v st' → (tupOf v).length = es.length := by
  intro ce
  induction ce with
  | nil =>
    intro sc es h ev st v st' e
    cases e
    cases es with
    | nil => rfl
    | cons _ _ => cases h
  | cons a as ha has =>
    intro sc es h ev st v st' e
    cases es with
    | nil => cases h
    | cons x xs =>
      have h : (notStar x && ok Γ N a false sc [x] && ok Γ N as true sc xs) = true := h
      simp only [Bool.and_eq_true] at h
      unfold evE at e
      cases h1 : fixR (evE c G n a ev st) with
      | ok y st1 =>
        rw [h1] at e
        dsimp only [Res.bind] at e
        cases h2 : evE c G n as ev st1 with
        | ok ys st2 =>
          rw [h2] at e
          cases e
          show (tupOf ys).length + 1 = xs.length + 1
          rw [has sc xs h.2 ev st1 ys _ h2]
        | exc _ _ _ => rw [h2] at e; cases e
        | bad => rw [h2] at e; cases e
      | exc _ _ _ => rw [h1] at e; cases e
      | bad => rw [h1] at e; cases e
  | _ =>
    intro sc es h
    cases h

theorem relS_keep {scope sc : Scope} {x : Str} {k : NameKind} (hk : k ≠ .free) (h : scope.names.lookup x = some k) : (relS scope sc).names.lookup x = some k := by
  have key : ∀ l : List (Str × NameKind), l.lookup x = some k → (l.map fun (n, k) => if (k == .free && sc.kind == .function && sc.names.lookup n == some .cell) then (n, NameKind.cell) else (n, k)).lookup x = some k := by
    intro l
    induction l with
    | nil => intro h; cases h
    | cons p r ih =>
      obtain ⟨n, j⟩ := p
      intro h
      rw [List.lookup_cons] at h
      rw [List.map_cons]
      cases hx : x == n with
      | true =>
        rw [hx] at h
        cases h
        have e : (k == NameKind.free && sc.kind == .function && sc.names.lookup n == some .cell) = false := by
          cases k <;> first | rfl | exact absurd rfl hk
        dsimp only
        rw [if_neg (by rw [e]; exact Bool.false_ne_true), List.lookup_cons, hx]
      | false =>
        rw [hx] at h
        dsimp only
        split
        · rw [List.lookup_cons, hx]; exact ih h
        · rw [List.lookup_cons, hx]; exact ih h
  exact key scope.names h
theorem tgt_one {scope : Scope} {x : Str} {i : Nat} {pos : Pos} (hi : X.N[i]? = some x) (h : stoB scope x = true) : Blk X scope fun X' => Tgt X' (.Name x pos) [i] := fun s H C cl fp => by
  have hl := stoB_ok h
  refine .name hi ?_ ?_
  · show Loc (relS scope X.env.scope) x
    exact hl.imp (relS_keep (by decide)) (relS_keep (by decide))
  · rcases hl with hl | hl
    · exact .inr (relS_keep (by decide) hl)
    · refine .inl ?_
      show (scope.names.lookup x == some .cell) = true
      rw [hl]
      rfl
theorem namesOf_cons {e : Expr} {es : List Expr} {xs : List Str} (h : namesOf (e :: es) = some xs) : ∃ x pos ys, e = .Name x pos ∧ namesOf es = some ys ∧ xs = x :: ys := by
  unfold namesOf at h
  cases h1 : nameOf e with
  | none => rw [h1] at h; cases h
  | some x =>
    cases h2 : namesOf es with
    | none => rw [h1, h2] at h; cases h
    | some ys =>
      rw [h1, h2] at h
      cases h
      unfold nameOf at h1
      split at h1
      · cases h1
        exact ⟨_, _, ys, rfl, rfl, rfl⟩
      · cases h1
theorem tgt_list {scope : Scope} : ∀ (es : List Expr) (is : List Nat) (xs : List Str), namesOf es = some xs → es.length = is.length → (∀ p ∈ xs.zip is, X.N[p.2]? = some p.1) → (∀ p ∈ xs.zip is, stoB scope p.1 = true) → Blk X scope fun X' => TgtL X' es is
  | [], [], _, _, _, _, _ => fun _ _ _ _ _ => .nil
  | [], _ :: _, _, _, h, _, _ => by cases h
  | _ :: _, [], _, _, h, _, _ => by cases h
  | e :: es, i :: is, xs, hm, hl, hN, hs => by
    obtain ⟨x, pos, ys, rfl, hr, rfl⟩ := namesOf_cons hm
    intro s H C cl fp
    refine .cons (tgt_one (hN (x, i) List.mem_cons_self) (hs (x, i) List.mem_cons_self) s H C cl fp) ?_
    exact tgt_list es is ys hr (by simpa using hl) (fun p hp => hN p (List.mem_cons_of_mem _ hp)) (fun p hp => hs p (List.mem_cons_of_mem _ hp)) s H C cl fp
theorem zip_snd : ∀ (xs : List Str) (is : List Nat), xs.length = is.length → (xs.zip is).map (·.2) = is
  | [], [], _ => rfl
  | [], _ :: _, h => by cases h
  | _ :: _, [], h => by cases h
  | x :: xs, i :: is, h => by
    show i :: (xs.zip is).map (·.2) = i :: is
    rw [zip_snd xs is (by simpa using h)]
theorem names_len : ∀ (es : List Expr) (xs : List Str), namesOf es = some xs → xs.length = es.length
  | [], xs, h => by cases h; rfl
  | e :: es, xs, hm => by
    obtain ⟨x, pos, ys, rfl, hr, rfl⟩ := namesOf_cons hm
    show ys.length + 1 = es.length + 1
    rw [names_len es ys hr]
theorem tgt_blk {scope : Scope} {tg : Expr} {is : List Nat} {ow : List (Str × Nat)} (h : ownOf tg is = some ow) (hN : ∀ p ∈ ow, X.N[p.2]? = some p.1) (hs : ownB scope ow = true) : (Blk X scope fun X' => TgtF X' tg is) ∧ ow.map (·.2) = is := by
  have hs' : ∀ p ∈ ow, stoB scope p.1 = true := by simpa [ownB] using hs
  unfold ownOf at h
  split at h
  · cases h
    exact ⟨fun s H C cl fp => .one (tgt_one (hN _ List.mem_cons_self) (hs' _ List.mem_cons_self) s H C cl fp), rfl⟩
  · rename_i _ es k _
    split at h
    · cases h
    · rename_i hc
      obtain ⟨xs, h1, h2⟩ := Option.map_eq_some_iff.mp h
      subst h2
      simp only [Bool.or_eq_true, decide_eq_true_eq, Bool.not_eq_true', not_or] at hc
      have hl : es.length = is.length := by
        have := hc.2
        simpa using this
      refine ⟨fun s H C cl fp => .many (tgt_list es is xs h1 hl hN hs' s H C cl fp) hc.1, zip_snd xs is (by rw [names_len es xs h1, hl])⟩
  · cases h
end
end Vm

set_option maxHeartbeats 16000000
/-! Vm11: the check gives the simulation: expressions. -/
namespace Vm
open PySem L2
section
variable {T : Tb} {Γ : Tabs} {NN d : Nat} {N : List Str}
def Snd (T : Tb) (Γ : Tabs) (NN d : Nat) (N : List Str) (ce : CE) : Prop := ∀ (arg : Bool) (sc : Scope) (es : List Expr), ok Γ N ce arg sc es = true → ∀ X W, Good T Γ NN N d sc X W →
  (arg = true → SimA T X W es (EV Γ NN d ce)) ∧ (arg = false → ∀ e, es = [e] → SoundE T X W e (EV Γ NN d ce))
theorem Snd.e {ce : CE} (h : Snd T Γ NN d N ce) {sc : Scope} {e : Expr} (ho : ok Γ N ce false sc [e] = true) {X : Cx} {W : WX} (g : Good T Γ NN N d sc X W) : SoundE T X W e (EV Γ NN d ce) := (h false sc [e] ho X W g).2 rfl e rfl
theorem Snd.a {ce : CE} (h : Snd T Γ NN d N ce) {sc : Scope} {es : List Expr} (ho : ok Γ N ce true sc es = true) {X : Cx} {W : WX} (g : Good T Γ NN N d sc X W) : SimA T X W es (EV Γ NN d ce) := (h true sc es ho X W g).1 rfl
/-- of an expression alone -/
theorem Snd.mk {ce : CE} (h0 : ∀ sc es, ok Γ N ce true sc es = false) (h : ∀ sc es, ok Γ N ce false sc es = true → ∀ X W, Good T Γ NN N d sc X W → ∃ e, es = [e] ∧ SoundE T X W e (EV Γ NN d ce)) : Snd T Γ NN d N ce := fun arg sc es ho X W g => by
  cases arg with
  | true => rw [h0] at ho; cases ho
  | false =>
    refine ⟨fun z => (by cases z), fun _ e he => ?_⟩
    obtain ⟨e', h1, h2⟩ := h sc es ho X W g
    rw [he] at h1
    cases h1
    exact h2
theorem snd_nil : Snd T Γ NN d N .nil := fun arg sc es ho X W g => by
  cases arg with
  | false => cases ho
  | true =>
    cases es with
    | cons _ _ => cases ho
    | nil => exact ⟨fun _ => sim_nil, fun z => by cases z⟩
theorem snd_cons {a as : CE} (ha : Snd T Γ NN d N a) (has : Snd T Γ NN d N as) : Snd T Γ NN d N (.cons a as) := fun arg sc es ho X W g => by
  cases arg with
  | false => cases ho
  | true =>
    cases es with
    | nil => cases ho
    | cons e es =>
      have h : (notStar e && ok Γ N a false sc [e] && ok Γ N as true sc es) = true := ho
      simp only [Bool.and_eq_true] at h
      exact ⟨fun _ => sim_cons (notStar_ok h.1.1 es X.env) (ha.e h.1.2 g).1 (has.a h.2 g), fun z => by cases z⟩
theorem snd_lit (v : PV) : Snd T Γ NN d N (.lit v) := .mk (fun _ _ => rfl) fun sc es ho X W g => by
  simp only [ok] at ho
  split at ho
  · rename_i c k pos _
    refine ⟨_, rfl, SoundE.plain ?_ rfl⟩
    unfold litOk at ho
    split at ho
    · exact sim_lit (fun _ _ => .non) pe_non
    · rename_i b c
      have e : b = c := by simpa using ho
      subst e
      exact sim_lit (fun _ _ => .bl b) pe_bl
    · rename_i i j
      have e : i = j := by simpa using ho
      subst e
      exact sim_lit (fun _ _ => .int i) pe_int
    · rename_i l s
      have e : l = s.cps.toList := by simpa using ho
      subst e
      exact sim_lit (v := .str s) (fun _ _ => by
        have q := Rep.str (K := X.K) (ρ := by assumption) (H := by assumption) s.cps.toList
        rw [Array.toArray_toList] at q
        exact q) pe_str
    · cases ho
  · cases ho
theorem snd_var (i : Nat) : Snd T Γ NN d N (.var i) := .mk (fun _ _ => rfl) fun sc es ho X W g => by
  simp only [ok] at ho
  split at ho
  · rename_i x pos _
    simp only [Bool.and_eq_true, decide_eq_true_eq] at ho
    obtain ⟨n1, n2⟩ := nmB_ok ho.2
    exact ⟨_, rfl, SoundE.plain (sim_var (pe_var (by rw [g.hN]; exact ho.1.1) (g.vis ho.1.2) n1 n2)) rfl⟩
  · cases ho
theorem snd_glob (i : Nat) : Snd T Γ NN d N (.glob i) := .mk (fun _ _ => rfl) fun sc es ho X W g => by
  simp only [ok] at ho
  split at ho
  · rename_i x pos _
    simp only [Bool.and_eq_true, decide_eq_true_eq] at ho
    obtain ⟨pv, hp⟩ := Option.isSome_iff_exists.mp ho.2
    obtain ⟨v, u, h1, h2, h3⟩ := g.gls i pv hp
    have e := ho.1.1.1
    subst e
    exact ⟨_, rfl, SoundE.plain (sim_glob h3 (pe_glob (g.gl ho.1.1.2) h1 h2 (nmB_ok ho.1.2).1) Γ.gl i hp) rfl⟩
  · cases ho
theorem snd_tup {as : CE} (has : Snd T Γ NN d N as) : Snd T Γ NN d N (.tup as) := .mk (fun _ _ => rfl) fun sc es ho X W g => by
  simp only [ok] at ho
  split at ho
  · exact ⟨_, rfl, SoundE.plain (sim_tup (has.a ho g)) rfl⟩
  · cases ho
theorem snd_lst {as : CE} (has : Snd T Γ NN d N as) : Snd T Γ NN d N (.lst as) := .mk (fun _ _ => rfl) fun sc es ho X W g => by
  simp only [ok] at ho
  split at ho
  · exact ⟨_, rfl, SoundE.plain (sim_lst (has.a ho g)) rfl⟩
  · cases ho
theorem snd_bin {o : BOp} {a b : CE} (ha : Snd T Γ NN d N a) (hb : Snd T Γ NN d N b) : Snd T Γ NN d N (.bin o a b) := .mk (fun _ _ => rfl) fun sc es ho X W g => by
  simp only [ok] at ho
  split at ho
  · simp only [Bool.and_eq_true, decide_eq_true_eq] at ho
    have e := ho.1.1
    subst e
    exact ⟨_, rfl, SoundE.plain (sim_bin (simO_bin o) (ha.e ho.1.2 g).1 (hb.e ho.2 g).1) rfl⟩
  · cases ho
theorem snd_cmp {o : COp} {a b : CE} (ha : Snd T Γ NN d N a) (hb : Snd T Γ NN d N b) : Snd T Γ NN d N (.cmp o a b) := .mk (fun _ _ => rfl) fun sc es ho X W g => by
  simp only [ok] at ho
  split at ho
  · simp only [Bool.and_eq_true, decide_eq_true_eq] at ho
    have e := ho.1.1.1
    subst e
    have h1 := (ha.e ho.1.2 g).1
    have h2 := (hb.e ho.2 g).1
    exact ⟨_, rfl, sim_cmp (simO_cmp g.room.units o) (notSet_marks ho.1.1.2 _) h1 h2, fun _ => simT_cmp (simO_cmp g.room.units o) (notSet_marks ho.1.1.2 _) h1 h2, fun op es pos e => (by cases e)⟩
  · cases ho
theorem snd_cmp2 {o o' : COp} {a b c : CE} (ha : Snd T Γ NN d N a) (hb : Snd T Γ NN d N b) (hc : Snd T Γ NN d N c) : Snd T Γ NN d N (.cmp2 o o' a b c) := .mk (fun _ _ => rfl) fun sc es ho X W g => by
  simp only [ok] at ho
  split at ho
  · simp only [Bool.and_eq_true, decide_eq_true_eq] at ho
    have e := ho.1.1.1.1.1
    have e' := ho.1.1.1.1.2
    subst e e'
    have h1 := (ha.e ho.1.1.2 g).1
    have h2 := (hb.e ho.1.2 g).1
    have h3 := (hc.e ho.2 g).1
    exact ⟨_, rfl, simE_cmp2 g.room.units o o' (notSet_last ho.1.1.1.2 _ _) h1 h2 h3, fun _ => simT_cmp2 g.room.units o o' (notSet_last ho.1.1.1.2 _ _) h1 h2 h3, fun op es pos e => (by cases e)⟩
  · cases ho
theorem snd_and {a b : CE} (ha : Snd T Γ NN d N a) (hb : Snd T Γ NN d N b) : Snd T Γ NN d N (.and a b) := .mk (fun _ _ => rfl) fun sc es ho X W g => by
  simp only [ok] at ho
  split at ho
  · rename_i op e1 e2 rest pos _
    simp only [Bool.and_eq_true, decide_eq_true_eq] at ho
    have e := ho.1.1.1
    subst e
    have h1 := ha.e ho.1.2 g
    have hr : SimE T X W (.BoolOp .And (e2 :: rest) pos) (EV Γ NN d b) ∧ SimW T X W (.BoolOp .And (e2 :: rest) pos) fun ev st => truth (EV Γ NN d b ev st) := by
      have h2 := ho.2
      split at h2
      · simp only [Bool.and_eq_true] at h2
        exact (hb.e h2.2 g).restA h2.1
      · have h3 := hb.e h2 g
        exact ⟨h3.1, h3.2.2 _ _ _ rfl⟩
    have hw : SimW T X W (.BoolOp .And (e1 :: e2 :: rest) pos) fun ev st => truth (EV Γ NN d (.and a b) ev st) := simW_and (h1.2.1 ho.1.1.2) hr.2
    exact ⟨_, rfl, simE_and h1.1 hr.1, fun _ => simT_W hw, fun op es pos e => by cases e; exact hw⟩
  · cases ho
theorem snd_or {a b : CE} (ha : Snd T Γ NN d N a) (hb : Snd T Γ NN d N b) : Snd T Γ NN d N (.or a b) := .mk (fun _ _ => rfl) fun sc es ho X W g => by
  simp only [ok] at ho
  split at ho
  · rename_i op e1 e2 rest pos _
    simp only [Bool.and_eq_true, decide_eq_true_eq] at ho
    have e := ho.1.1.1
    subst e
    have h1 := ha.e ho.1.2 g
    have hr : SimE T X W (.BoolOp .Or (e2 :: rest) pos) (EV Γ NN d b) ∧ SimW T X W (.BoolOp .Or (e2 :: rest) pos) fun ev st => truth (EV Γ NN d b ev st) := by
      have h2 := ho.2
      split at h2
      · simp only [Bool.and_eq_true] at h2
        exact (hb.e h2.2 g).restO h2.1
      · have h3 := hb.e h2 g
        exact ⟨h3.1, h3.2.2 _ _ _ rfl⟩
    have hw : SimW T X W (.BoolOp .Or (e1 :: e2 :: rest) pos) fun ev st => truth (EV Γ NN d (.or a b) ev st) := simW_or (h1.2.1 ho.1.1.2) hr.2
    exact ⟨_, rfl, simE_or h1.1 hr.1, fun _ => simT_W hw, fun op es pos e => by cases e; exact hw⟩
  · cases ho
theorem snd_not {a : CE} (ha : Snd T Γ NN d N a) : Snd T Γ NN d N (.not a) := .mk (fun _ _ => rfl) fun sc es ho X W g => by
  simp only [ok] at ho
  split at ho
  · simp only [Bool.and_eq_true, decide_eq_true_eq] at ho
    have e := ho.1.1
    subst e
    have h1 := ha.e ho.2 g
    have ht := h1.2.1 ho.1.2
    exact ⟨_, rfl, simE_not h1.1 ht, fun _ => simT_not ht, fun op es pos e => (by cases e)⟩
  · cases ho
theorem snd_neg {a : CE} (ha : Snd T Γ NN d N a) : Snd T Γ NN d N (.neg a) := .mk (fun _ _ => rfl) fun sc es ho X W g => by
  simp only [ok] at ho
  split at ho
  · simp only [Bool.and_eq_true, decide_eq_true_eq] at ho
    have e := ho.1
    subst e
    exact ⟨_, rfl, SoundE.plain (sim_neg (ha.e ho.2 g).1) rfl⟩
  · cases ho
theorem snd_ite {a b c : CE} (hc : Snd T Γ NN d N c) (ha : Snd T Γ NN d N a) (hb : Snd T Γ NN d N b) : Snd T Γ NN d N (.ite c a b) := .mk (fun _ _ => rfl) fun sc es ho X W g => by
  simp only [ok] at ho
  split at ho
  · simp only [Bool.and_eq_true] at ho
    exact ⟨_, rfl, sim_ite ((hc.e ho.1.1.2 g).2.1 ho.1.1.1) (ha.e ho.1.2 g).1 (hb.e ho.2 g).1, fun z => (by cases z), fun op es pos e => (by cases e)⟩
  · cases ho
theorem snd_ix {a b : CE} (ha : Snd T Γ NN d N a) (hb : Snd T Γ NN d N b) : Snd T Γ NN d N (.ix a b) := .mk (fun _ _ => rfl) fun sc es ho X W g => by
  simp only [ok] at ho
  split at ho
  · simp only [Bool.and_eq_true] at ho
    exact ⟨_, rfl, SoundE.plain (sim_ix (notSlice_ok ho.1.1) (ix_core g.un) (ha.e ho.1.2 g).1 (hb.e ho.2 g).1) rfl⟩
  · cases ho
theorem snd_noE : Snd T Γ NN d N .noE := .mk (fun _ _ => rfl) fun sc es ho X W g => by cases ho
theorem isNo_eq {c : CE} (h : isNo c = true) : c = .noE := by
  cases c <;> first | rfl | cases h
theorem snd_part {lo : CE} {o : Option Expr} {sc : Scope} (hl : Snd T Γ NN d N lo) (h : (match o with
      | none => isNo lo
      | some x => !isNo lo && ok Γ N lo false sc [x]) = true) {X : Cx} {W : WX} (g : Good T Γ NN N d sc X W) : SimP T X W o (isNo lo) (EV Γ NN d lo) := by
  cases o with
  | none =>
    have e := isNo_eq h
    subst e
    exact ⟨rfl, rfl⟩
  | some x =>
    simp only [Bool.and_eq_true, Bool.not_eq_true'] at h
    exact ⟨h.1, (hl.e h.2 g).1⟩
theorem snd_sl {a lo hi : CE} (ha : Snd T Γ NN d N a) (hl : Snd T Γ NN d N lo) (hh : Snd T Γ NN d N hi) : Snd T Γ NN d N (.sl a lo hi) := .mk (fun _ _ => rfl) fun sc es ho X W g => by
  simp only [ok] at ho
  split at ho
  · simp only [Bool.and_eq_true] at ho
    exact ⟨_, rfl, SoundE.plain (sim_sl (ha.e ho.1.1 g).1 (snd_part hl ho.1.2 g) (snd_part hh ho.2 g)) rfl⟩
  · cases ho
theorem snd_call {f : Nat} {as : CE} (has : Snd T Γ NN d N as) : Snd T Γ NN d N (.call f as) := .mk (fun _ _ => rfl) fun sc es ho X W g => by
  simp only [ok] at ho
  split at ho
  · rename_i x p es pos _
    simp only [Bool.and_eq_true, decide_eq_true_eq] at ho
    obtain ⟨⟨⟨⟨⟨h1, h2⟩, h3⟩, h4⟩, h5⟩, h6⟩ := ho
    subst h1
    split at h6
    · rename_i c hc
      have hn : es.length = c.np := of_decide_eq_true h6
      obtain ⟨a, fd, ps, m1, m2, m3, m4⟩ := g.fns f c hc
      refine ⟨_, rfl, SoundE.plain ?_ rfl⟩
      cases es with
      | nil =>
        have e : c.np = 0 := hn.symm
        rw [e] at m4
        have q := has.a h5 g
        have e2 : EV Γ NN d (.call f as) = fun ev st => run Γ.fn Γ.gl NN d f [] st := by
          cases as with
          | nil => rfl
          | cons _ _ => cases h5
          | _ => cases h5
        rw [e2]
        exact sim_call0 m4 g.room (g.gl h2) m1 m2 m3 g.takes (nmB_ok h3).1
      | cons e es => exact sim_call m4 g.room (g.gl h2) m1 m2 m3 g.takes (nmB_ok h3).1 h4 hn (has.a h5 g) fun ev st v st' q => args_len as sc (e :: es) h5 ev st v st' q
    · cases h6
  · cases ho
theorem snd_blt1 {f : Blt} {a : CE} (ha : Snd T Γ NN d N a) : Snd T Γ NN d N (.blt1 f a) := .mk (fun _ _ => rfl) fun sc es ho X W g => by
  simp only [ok] at ho
  split at ho
  · simp only [Bool.and_eq_true, decide_eq_true_eq] at ho
    obtain ⟨⟨⟨⟨h1, h2⟩, h3⟩, h4⟩, h5⟩ := ho
    subst h1
    exact ⟨_, rfl, SoundE.plain (sim_blt1 (g.gl h2) (g.free h3) (notStar_ok h4 _ _) (simC1_all g.calm f) (ha.e h5 g).1) rfl⟩
  · cases ho
theorem snd_blt2 {f : Blt} {a b : CE} (ha : Snd T Γ NN d N a) (hb : Snd T Γ NN d N b) : Snd T Γ NN d N (.blt2 f a b) := .mk (fun _ _ => rfl) fun sc es ho X W g => by
  simp only [ok] at ho
  split at ho
  · simp only [Bool.and_eq_true, decide_eq_true_eq] at ho
    obtain ⟨⟨⟨⟨⟨⟨h1, h2⟩, h3⟩, h4⟩, h5⟩, h6⟩, h7⟩ := ho
    subst h1
    exact ⟨_, rfl, SoundE.plain (sim_blt2 (g.gl h2) (g.free h3) (notStar_ok h4 _ _) (notStar_ok h5 _ _) (simC2_all g.calm f) (ha.e h6 g).1 (hb.e h7 g).1) rfl⟩
  · cases ho
theorem snd_mth0 {m : Mth} {a : CE} (ha : Snd T Γ NN d N a) : Snd T Γ NN d N (.mth0 m a) := .mk (fun _ _ => rfl) fun sc es ho X W g => by
  simp only [ok] at ho
  split at ho
  · simp only [Bool.and_eq_true] at ho
    obtain ⟨⟨⟨h1, h2⟩, h3⟩, h4⟩ := ho
    split at h1
    · have e := of_decide_eq_true h1
      subst e
      exact ⟨_, rfl, SoundE.plain (sim_pop (notSup_ok h2 _ _ _) h3 (ha.e h4 g).1) rfl⟩
    · have e := of_decide_eq_true h1
      subst e
      exact ⟨_, rfl, SoundE.plain (sim_reverse (notSup_ok h2 _ _ _) h3 (ha.e h4 g).1) rfl⟩
    · cases h1
  · cases ho
theorem snd_mth1 {m : Mth} {a b : CE} (ha : Snd T Γ NN d N a) (hb : Snd T Γ NN d N b) : Snd T Γ NN d N (.mth1 m a b) := .mk (fun _ _ => rfl) fun sc es ho X W g => by
  simp only [ok] at ho
  split at ho
  · simp only [Bool.and_eq_true] at ho
    obtain ⟨⟨⟨⟨⟨h1, h2⟩, h3⟩, h4⟩, h5⟩, h6⟩ := ho
    split at h1
    · have e := of_decide_eq_true h1
      subst e
      exact ⟨_, rfl, SoundE.plain (sim_append (notSup_ok h2 _ _ _) h4 (notStar_ok h3 _ _) (ha.e h5 g).1 (hb.e h6 g).1) rfl⟩
    · cases h1
  · cases ho
theorem snd_isi {a : CE} {t : Ty} (ha : Snd T Γ NN d N a) : Snd T Γ NN d N (.isi a t) := .mk (fun _ _ => rfl) fun sc es ho X W g => by
  simp only [ok] at ho
  split at ho
  · simp only [Bool.and_eq_true, decide_eq_true_eq] at ho
    obtain ⟨⟨⟨⟨⟨⟨⟨h1, h2⟩, h3⟩, h4⟩, h5⟩, h6⟩, h7⟩, h8⟩ := ho
    subst h1 h2
    exact ⟨_, rfl, SoundE.plain (sim_isi (g.gl h3) (g.free h5) (g.gl h4) (g.free h6) (notStar_ok h7 _ _) (ha.e h8 g).1) rfl⟩
  · cases ho
theorem snd_ditems {a : CE} (ha : Snd T Γ NN d N a) : Snd T Γ NN d N (.ditems a) := .mk (fun _ _ => rfl) fun sc es ho X W g => by
  simp only [ok] at ho
  split at ho
  · simp only [Bool.and_eq_true, decide_eq_true_eq] at ho
    obtain ⟨⟨⟨⟨⟨⟨h1, h2⟩, h3⟩, h4⟩, h5⟩, h6⟩, h7⟩ := ho
    subst h1 h2
    exact ⟨_, rfl, SoundE.plain (sim_ditems g.calm (g.gl h3) (g.free h4) (notSup_ok h5 _ _ _) h6 (ha.e h7 g).1) rfl⟩
  · cases ho
theorem snd_dict1 {a : CE} (ha : Snd T Γ NN d N a) : Snd T Γ NN d N (.dict1 a) := .mk (fun _ _ => rfl) fun sc es ho X W g => by
  simp only [ok] at ho
  split at ho
  · simp only [Bool.and_eq_true, decide_eq_true_eq] at ho
    obtain ⟨⟨⟨⟨h1, h2⟩, h3⟩, h4⟩, h5⟩ := ho
    subst h1
    exact ⟨_, rfl, SoundE.plain (sim_dict1 g.calm (g.gl h2) (g.free h3) (notStar_ok h4 _ _) (ha.e h5 g).1) rfl⟩
  · cases ho
theorem snd_dnew : Snd T Γ NN d N .dnew := .mk (fun _ _ => rfl) fun sc es ho X W g => by
  simp only [ok] at ho
  split at ho
  · exact ⟨_, rfl, SoundE.plain sim_dnew rfl⟩
  · cases ho
/-- what is gone through -/
theorem snd_iter {k : ItK} {a b : CE} (ha : Snd T Γ NN d N a) (hb : Snd T Γ NN d N b) {iter tg : Expr} {sc : Scope} (h : (match k, iter with
        | .seq, it => ok Γ N a false sc [it]
        | .rng1, .Call (.Name x _) [ea] [] _ => decide (x = ("range" : Str)) && glB sc x && Γ.free.contains x && notStar ea && ok Γ N a false sc [ea]
        | .rng2, .Call (.Name x _) [ea, eb] [] _ => decide (x = ("range" : Str)) && glB sc x && Γ.free.contains x && notStar ea && notStar eb && ok Γ N a false sc [ea] && ok Γ N b false sc [eb]
        | _, _ => false) = true) {X : Cx} {W : WX} (g : Good T Γ NN N d sc X W) : SimI T X W tg iter (iterM k (EV Γ NN d a) (EV Γ NN d b)) := by
  split at h
  · exact simI_seq (ha.e h g).1
  · simp only [Bool.and_eq_true, decide_eq_true_eq] at h
    obtain ⟨⟨⟨⟨h1, h2⟩, h3⟩, h4⟩, h5⟩ := h
    subst h1
    exact simI_rng1 (g.gl h2) (g.free h3) (notStar_ok h4 _ _) (ha.e h5 g).1
  · simp only [Bool.and_eq_true, decide_eq_true_eq] at h
    obtain ⟨⟨⟨⟨⟨⟨h1, h2⟩, h3⟩, h4⟩, h5⟩, h6⟩, h7⟩ := h
    subst h1
    exact simI_rng2 (g.gl h2) (g.free h3) (notStar_ok h4 _ _) (notStar_ok h5 _ _) (ha.e h6 g).1 (hb.e h7 g).1
  · cases h
/-- the parts of a comprehension -/
structure LcParts (T : Tb) (Γ : Tabs) (NN d : Nat) (N : List Str) (own : List Nat) (k : ItK) (a b : CE) (hc : Bool) (c e : CE) (tg iter elt : Expr) (ifs : List Expr) (scope : Scope) (X : Cx) (W : WX) : Prop where
  it : SimI T X W tg iter (iterM k (EV Γ NN d a) (EV Γ NN d b))
  bo : ∃ ow, BlkOk X.N X.env.scope scope ow ∧ ow.map (·.2) = own
  fs : ∀ x, foldedSetIterable iter X.env x = pure x
  tg : Blk X scope fun X' => TgtF X' tg own
  ifs : Conds T X scope ifs (condM hc (EV Γ NN d c))
  el : Blk X scope fun X' => SimE T X' W0 elt (EV Γ NN d e)
theorem snd_lcParts {own : List Nat} {k : ItK} {a b c e : CE} {hc : Bool} (ha : Snd T Γ NN d N a) (hb : Snd T Γ NN d N b) (hcc : Snd T Γ NN d N c) (he : Snd T Γ NN d N e) {tg iter elt : Expr} {ifs : List Expr} {scope sc : Scope}
    (h : ((match ownOf tg own with
      | some ow => blkC N sc scope ow && ownB scope ow
      | none => false) && notSet iter && (match k, iter with
        | .seq, it => ok Γ N a false sc [it]
        | .rng1, .Call (.Name x _) [ea] [] _ => decide (x = ("range" : Str)) && glB sc x && Γ.free.contains x && notStar ea && ok Γ N a false sc [ea]
        | .rng2, .Call (.Name x _) [ea, eb] [] _ => decide (x = ("range" : Str)) && glB sc x && Γ.free.contains x && notStar ea && notStar eb && ok Γ N a false sc [ea] && ok Γ N b false sc [eb]
        | _, _ => false) && (match hc, ifs with
        | false, [] => true
        | true, [ec] => tOk ec && ok Γ N c false (relS scope sc) [ec]
        | _, _ => false) && ok Γ N e false (relS scope sc) [elt]) = true) {X : Cx} {W : WX} (g : Good T Γ NN N d sc X W) : LcParts T Γ NN d N own k a b hc c e tg iter elt ifs scope X W := by
  simp only [Bool.and_eq_true] at h
  obtain ⟨⟨⟨⟨h1, h2⟩, h3⟩, h4⟩, h5⟩ := h
  split at h1
  · rename_i ow how
    simp only [Bool.and_eq_true] at h1
    have bo : BlkOk X.N X.env.scope scope ow := by
      rw [g.hN, g.hsc]
      exact blkOk_by h1.1
    obtain ⟨t1, t2⟩ := tgt_blk (X := X) how bo.ix h1.2
    have gb := g.blk (scope := scope) bo.kind
    refine ⟨snd_iter ha hb h3 g, ⟨ow, bo, t2⟩, notSet_ok h2 X.env, t1, ?_, fun s H C cl fp => (he.e h5 (gb s H C cl fp)).1⟩
    split at h4
    · exact .nil
    · simp only [Bool.and_eq_true] at h4
      exact .one fun s H C cl fp => (hcc.e h4.2 (gb s H C cl fp)).2.1 h4.1
    · cases h4
  · cases h1
theorem snd_lc {own : List Nat} {k : ItK} {a b c e : CE} {hc : Bool} (ha : Snd T Γ NN d N a) (hb : Snd T Γ NN d N b) (hcc : Snd T Γ NN d N c) (he : Snd T Γ NN d N e) : Snd T Γ NN d N (.lc own k a b hc c e) := .mk (fun _ _ => rfl) fun sc es ho X W g => by
  simp only [ok] at ho
  split at ho
  · obtain ⟨it, ⟨ow, bo, t2⟩, fs, tg, ifs, el⟩ := snd_lcParts ha hb hcc he ho g
    exact ⟨_, rfl, SoundE.plain (sim_lc NN g.calm (by rw [g.hN]; exact g.nd) it bo t2 fs tg ifs el) rfl⟩
  · cases ho
theorem snd_all : ∀ ce : CE, Snd T Γ NN d N ce := by
  intro ce
  induction ce with
  | lit v => exact snd_lit v
  | var i => exact snd_var i
  | glob i => exact snd_glob i
  | nil => exact snd_nil
  | cons a as h1 h2 => exact snd_cons h1 h2
  | tup as h => exact snd_tup h
  | lst as h => exact snd_lst h
  | bin o a b h1 h2 => exact snd_bin h1 h2
  | cmp o a b h1 h2 => exact snd_cmp h1 h2
  | cmp2 o o' a b c h1 h2 h3 => exact snd_cmp2 h1 h2 h3
  | and a b h1 h2 => exact snd_and h1 h2
  | or a b h1 h2 => exact snd_or h1 h2
  | not a h => exact snd_not h
  | neg a h => exact snd_neg h
  | ite c a b h1 h2 h3 => exact snd_ite h1 h2 h3
  | ix a b h1 h2 => exact snd_ix h1 h2
  | noE => exact snd_noE
  | sl a lo hi h1 h2 h3 => exact snd_sl h1 h2 h3
  | call f as h => exact snd_call h
  | blt1 f a h => exact snd_blt1 h
  | blt2 f a b h1 h2 => exact snd_blt2 h1 h2
  | mth0 m o h => exact snd_mth0 h
  | mth1 m o a h1 h2 => exact snd_mth1 h1 h2
  | isi a t h => exact snd_isi h
  | ditems a h => exact snd_ditems h
  | dict1 a h => exact snd_dict1 h
  | dnew => exact snd_dnew
  | lc own k a b hc c e h1 h2 h3 h4 => exact snd_lc h1 h2 h3 h4
end
end Vm

set_option maxHeartbeats 8000000
/-! Vm12: compiled statements against the text; whole functions. -/
namespace Vm
open PySem L2

theorem stars_named {X : Cx} {N : List Str} {sc : Scope} (hs : X.env.scope = sc) (hf : X.fn = fun _ => true) {x : Str} {i : Nat} {pos : Pos} (hi : X.N[i]? = some x) (h : stoB sc x = true) : Tgt X (.Name x pos) [i] := by
  refine .name hi ?_ (.inl (by rw [hf]))
  rw [hs]
  exact stoB_ok h
def ownN (N : List Str) (sc : Scope) (ow : List (Str × Nat)) : Bool := ow.all fun p => decide (N[p.2]? = some p.1) && stoB sc p.1
theorem tgtL_own {X : Cx} {sc : Scope} (hs : X.env.scope = sc) (hf : X.fn = fun _ => true) : ∀ (es : List Expr) (is : List Nat) (xs : List Str), namesOf es = some xs → es.length = is.length → ownN X.N sc (xs.zip is) = true → TgtL X es is
  | [], [], _, _, _, _ => .nil
  | [], _ :: _, _, _, h, _ => by cases h
  | _ :: _, [], _, _, h, _ => by cases h
  | e :: es, i :: is, xs, hm, hl, ho => by
    obtain ⟨x, pos, ys, rfl, hr, rfl⟩ := namesOf_cons hm
    have ho : ((decide (X.N[i]? = some x) && stoB sc x) && ownN X.N sc (ys.zip is)) = true := ho
    simp only [Bool.and_eq_true, decide_eq_true_eq] at ho
    exact .cons (stars_named (N := X.N) hs hf ho.1.1 ho.1.2) (tgtL_own hs hf es is ys hr (by simpa using hl) ho.2)
theorem tgt_own {X : Cx} {sc : Scope} (hs : X.env.scope = sc) (hf : X.fn = fun _ => true) {tg : Expr} {is : List Nat} {ow : List (Str × Nat)} (h : ownOf tg is = some ow) (ho : ownN X.N sc ow = true) : TgtF X tg is := by
  unfold ownOf at h
  split at h
  · cases h
    simp only [ownN, List.all_cons, List.all_nil, Bool.and_true, Bool.and_eq_true, decide_eq_true_eq] at ho
    exact .one (stars_named (N := X.N) hs hf ho.1 ho.2)
  · rename_i _ es k _
    split at h
    · cases h
    · rename_i hc
      obtain ⟨xs, h1, h2⟩ := Option.map_eq_some_iff.mp h
      subst h2
      simp only [Bool.or_eq_true, decide_eq_true_eq, Bool.not_eq_true', not_or] at hc
      exact .many (tgtL_own hs hf es is xs h1 (by simpa using hc.2) ho) hc.1
  · cases h

def okT (Γ : Tabs) (N : List Str) (sc : Scope) (t : CT) (tg : Expr) : Bool := match t with
  | .name i => (match ownOf tg [i] with
    | some ow => ownN N sc ow
    | none => false)
  | .names is => !(is.length == 1) && (match ownOf tg is with
    | some ow => ownN N sc ow
    | none => false)
  | .sub o i => (match tg with
    | .Subscript eo ei _ => notSlice ei && ok Γ N o false sc [eo] && ok Γ N i false sc [ei]
    | _ => false)
def notName : Expr → Bool
  | .Name _ _ => false
  | _ => true
/-- the value goes to the target as any other -/
def plainA (sc : Scope) (tg : Expr) : Expr → Bool
  | .ListComp _ _ scope pos => match tg with
    | .Name y py => !swB sc y py pos scope
    | .Starred _ _ => false
    | _ => true
  | e => notComp e
def tupNames : Expr → Expr → Option (Str × Str)
  | .Tuple [.Name x px, .Name y py] _ _, .Tuple [a, b] _ _ => if px.line == py.line then some (x, y) else none
  | _, _ => none
def foldedB (es : List Expr) : Bool := es.all (foldedForSure 8) || es.all (constantsAlone 8)
def okS (Γ : Tabs) (N : List Str) (sc : Scope) : CS → Bool → List Stmt → Bool
  | .nil => fun l ss => match l, ss with
    | true, ss => ss.isEmpty
    | _, _ => false
  | .cons s r => fun l ss => match l, ss with
    | true, x :: xs => okS Γ N sc s false [x] && okS Γ N sc r true xs
    | _, _ => false
  | .asg t e => fun l ss => match l, ss with
    | false, [.Assign [tg] ex pos] => notStar tg && okT Γ N sc t tg && ok Γ N e false sc [ex] && (plainA sc tg ex && (simpTgt tg || notTup ex) ||
      (match t, tg, e, ex with
        | .name i, .Name y py, .lc _ _ _ _ _ _ _, .ListComp _ _ scope lpos => swB sc y py lpos scope
        | _, _, _, _ => false))
    | _, _ => false
  | .par i j a b => fun l ss => match l, ss with
    | false, [.Assign [.Tuple [.Name x px, .Name y py] _ _] (.Tuple [ea, eb] _ _) pos] => decide (N[i]? = some x) && decide (N[j]? = some y) && !(x == y) && (px.line == py.line) &&
      decide (sc.names.lookup x = some .local) && decide (sc.names.lookup y = some .local) && notStar ea && notStar eb && !([ea, eb].all (foldedForSure 8)) && !([ea, eb].all (constantsAlone 8)) && ok Γ N a false sc [ea] && ok Γ N b false sc [eb]
    | _, _ => false
  | .expr e => fun l ss => match l, ss with
    | false, [.Expr ex pos] => notComp ex && ok Γ N e false sc [ex]
    | _, _ => false
  | .ret e => fun l ss => match l, ss with
    | false, [.Return (some ex) pos] => ok Γ N e false sc [ex]
    | _, _ => false
  | .retN => fun l ss => match l, ss with
    | false, [.Return none pos] => true
    | _, _ => false
  | .pass => fun l ss => match l, ss with
    | false, [.Pass pos] => true
    | _, _ => false
  | .brk => fun l ss => match l, ss with
    | false, [.Break pos] => true
    | _, _ => false
  | .cont => fun l ss => match l, ss with
    | false, [.Continue pos] => true
    | _, _ => false
  | .if_ c a b => fun l ss => match l, ss with
    | false, [.If ec sa sb pos] => tOk ec && ok Γ N c false sc [ec] && okS Γ N sc a true sa && okS Γ N sc b true sb
    | _, _ => false
  | .while_ c b => fun l ss => match l, ss with
    | false, [.While ec sb [] pos] => tOk ec && ok Γ N c false sc [ec] && okS Γ N sc b true sb
    | _, _ => false
  | .for_ t k a b body => fun l ss => match l, ss with
    | false, [.For tg iter sb [] pos] => notSet iter && okT Γ N sc t tg && (match k, iter with
        | .seq, it => ok Γ N a false sc [it]
        | .rng1, .Call (.Name x _) [ea] [] _ => decide (x = ("range" : Str)) && glB sc x && Γ.free.contains x && notStar ea && ok Γ N a false sc [ea]
        | .rng2, .Call (.Name x _) [ea, eb] [] _ => decide (x = ("range" : Str)) && glB sc x && Γ.free.contains x && notStar ea && notStar eb && ok Γ N a false sc [ea] && ok Γ N b false sc [eb]
        | _, _ => false) && okS Γ N sc body true sb
    | _, _ => false

section
variable {T : Tb} {Γ : Tabs} {NN d : Nat} {N : List Str} {sc : Scope} {X : Cx} {W : WX}
abbrev RV (Γ : Tabs) (NN d : Nat) := run Γ.fn Γ.gl NN d
theorem okT_ok (g : Good T Γ NN N d sc X W) (hf : X.fn = fun _ => true) {t : CT} {tg : Expr} (h : okT Γ N sc t tg = true) : SimG T X W tg (fun v ev st => evT (RV Γ NN d) Γ.gl NN t v ev st) := by
  have nd : X.N.Nodup := by rw [g.hN]; exact g.nd
  cases t with
  | name i =>
    simp only [okT] at h
    split at h
    · rename_i ow how
      refine g_tgt (is := [i]) g.calm nd (tgt_own g.hsc hf how ?_)
      rw [g.hN]
      exact h
    · cases h
  | names is =>
    simp only [okT] at h
    simp only [Bool.and_eq_true, Bool.not_eq_true', beq_eq_false_iff_ne, ne_eq] at h
    obtain ⟨hl, h⟩ := h
    split at h
    · rename_i ow how
      have q := g_tgt (T := T) (W := W) g.calm nd (tgt_own g.hsc hf how (by rw [g.hN]; exact h))
      have e : (fun v ev (st : Store) => Res.of (bindOwn is v ev) st) = fun v ev st => evT (RV Γ NN d) Γ.gl NN (.names is) v ev st := by
        funext v ev st
        cases is with
        | nil => cases v <;> rfl
        | cons i is =>
          cases is with
          | nil => exact absurd rfl hl
          | cons j is => cases v <;> rfl
      rw [← e]
      exact q
    · cases h
  | sub o i =>
    simp only [okT] at h
    split at h
    · simp only [Bool.and_eq_true] at h
      obtain ⟨⟨h1, h2⟩, h3⟩ := h
      exact g_sub g.un (notSlice_sub h1 _ _ _) ((snd_all _).e h2 g).1 ((snd_all _).e h3 g).1
    · cases h

theorem plainA_ok (hs : X.env.scope = sc) (hk : sc.kind = .function) {tg e : Expr} (h : plainA sc tg e = true) (n : Nat) : swapsWithSole [tg] e n X.env = pure false := by
  unfold plainA at h
  split at h
  · split at h
    · simp only [Bool.not_eq_true'] at h
      exact swB_no (n := n) hs hk h
    · cases h
    · rename_i tg' hn _
      cases tg <;> first | rfl | exact absurd rfl (hn _ _)
  · exact notComp_sole h tg n X.env

theorem par_ok {env : PySem.Env} {x y : Str} {px py p1 p2 : Pos} {k1 k2 : Nat} {ea eb : Expr} (ek : env.blockKind = .function) (kx : env.kindOf x = some .local) (ky : env.kindOf y = some .local) (hl : px.line = py.line) (hne : ¬ x = y)
    (sa : notStar ea = true) (sb : notStar eb = true) (hf : [ea, eb].all (foldedForSure 8) = false) (hc : [ea, eb].all (constantsAlone 8) = false) :
    swappedStores [.Tuple [.Name x px, .Name y py] k1 p1] (.Tuple [ea, eb] k2 p2) env = pure (some [x, y]) := by
  have f0 : ∀ e : Expr, notStar e = true → (match e with | .Starred .. => true | _ => false) = false := by
    intro e h
    cases e <;> first | rfl | cases h
  have fa := f0 ea sa
  have fb := f0 eb sb
  have hd : ([x, y] : List Str).eraseDups.length = 2 := by
    have z : (y == x) = false := by simpa using fun e : y = x => hne e.symm
    simp [List.eraseDups_cons, z]
  have e1 : ((2 : Nat) == 2 || (2 : Nat) == 3) = true := rfl
  unfold swappedStores
  simp [ek, kx, ky, hl, hf, hc, fa, fb, hd, Expr.pos]
  intro h
  rcases h with h | h
  · exact absurd (h.symm.trans fa) (by decide)
  · exact absurd (h.symm.trans fb) (by decide)

structure SndS (T : Tb) (Γ : Tabs) (NN d : Nat) (N : List Str) (cs : CS) : Prop where
  l : ∀ {sc ss X W}, okS Γ N sc cs true ss = true → Good T Γ NN N d sc X W → X.fn = (fun _ => true) → SimSs T X W ss (evS (RV Γ NN d) Γ.gl NN cs)
  s : ∀ {sc s X W}, okS Γ N sc cs false [s] = true → Good T Γ NN N d sc X W → X.fn = (fun _ => true) → SimS T X W s (evS (RV Γ NN d) Γ.gl NN cs)
theorem SndS.one {cs : CS} (h0 : ∀ sc ss, okS Γ N sc cs true ss = false) (h : ∀ {sc s X W}, okS Γ N sc cs false [s] = true → Good T Γ NN N d sc X W → X.fn = (fun _ => true) → SimS T X W s (evS (RV Γ NN d) Γ.gl NN cs)) : SndS T Γ NN d N cs :=
  ⟨fun h' _ _ => (by rw [h0] at h'; cases h'), h⟩
theorem snds_all : ∀ cs : CS, SndS T Γ NN d N cs := by
  intro cs
  induction cs with
  | nil =>
    refine ⟨fun {sc ss X W} h g hf => ?_, fun {sc s X W} h => (by cases h)⟩
    cases ss with
    | nil => exact ss_nil
    | cons _ _ => cases h
  | cons s r hs hr =>
    refine ⟨fun {sc ss X W} h g hf => ?_, fun {sc s X W} h => (by cases h)⟩
    cases ss with
    | nil => cases h
    | cons x xs =>
      have h : (okS Γ N sc s false [x] && okS Γ N sc r true xs) = true := h
      simp only [Bool.and_eq_true] at h
      exact ss_cons (hs.s h.1 g hf) (hr.l h.2 g hf)
  | asg t e =>
    refine .one (fun _ _ => rfl) fun {sc s X W} h g hf => ?_
    simp only [okS] at h
    split at h
    · rename_i tg ex pos _ he
      cases he
      simp only [Bool.and_eq_true, Bool.or_eq_true] at h
      obtain ⟨⟨⟨h1, h2⟩, h3⟩, h4⟩ := h
      rcases h4 with h4 | h4
      · have hw : swappedStores [tg] ex X.env = pure none := by
          rcases h4.2 with z | z
          · exact simpTgt_ok z ex X.env
          · exact notTup_r z tg X.env
        exact s_asg (plainA_ok g.hsc g.kind h4.1 _) hw (notStar_assign h1 X.env) ((snd_all e).e h3 g).1 (okT_ok g hf h2)
      · split at h4
        · rename_i i y py own k ca cb hc cc ce elt gens scope lpos
          have h3 : ok Γ N (.lc own k ca cb hc cc ce) false sc [.ListComp elt gens scope lpos] = true := h3
          simp only [ok] at h3
          split at h3
          · rename_i he
            cases he
            obtain ⟨it, ⟨ow, bo, t2⟩, fs, tg, ifs, el⟩ := snd_lcParts (snd_all ca) (snd_all cb) (snd_all cc) (snd_all ce) h3 g
            have hl : sc.names.lookup y = some .local := by
              unfold swB at h4
              simp only [Bool.and_eq_true] at h4
              exact eq_of_beq h4.1.1
            have hi : X.N[i]? = some y := by
              rw [g.hN]
              simpa [okT, ownOf, ownN] using And.left (by simpa [okT, ownOf, ownN] using h2)
            exact s_asgLc NN g.calm (by rw [g.hN]; exact g.nd) hi (by rw [g.hsc]; exact hl) (swB_ok g.hsc g.kind h4) it bo t2 fs tg ifs el
          · cases h3
        · cases h4
    · cases h
  | par i j a b =>
    refine .one (fun _ _ => rfl) fun {sc s X W} h g hf => ?_
    simp only [okS] at h
    split at h
    · rename_i x px y py k1 p1 ea eb k2 p2 pos _ he
      cases he
      simp only [Bool.and_eq_true, decide_eq_true_eq, Bool.not_eq_true', beq_iff_eq, beq_eq_false_iff_ne, ne_eq] at h
      obtain ⟨⟨⟨⟨⟨⟨⟨⟨⟨⟨⟨h1, h2⟩, h3⟩, h4⟩, h5⟩, h6⟩, h7⟩, h8⟩, h9⟩, h10⟩, h11⟩, h12⟩ := h
      have ek : X.env.blockKind = .function := by unfold Env.blockKind; rw [g.hsc, g.kind]; rfl
      have kx : X.env.kindOf x = some .local := by unfold Env.kindOf; rw [g.hsc]; exact h5
      have ky : X.env.kindOf y = some .local := by unfold Env.kindOf; rw [g.hsc]; exact h6
      exact s_par g.calm (by rw [g.hN]; exact g.nd) (by rw [g.hN]; exact h1) (by rw [g.hN]; exact h2) (fun e => h3 (by rw [e] at h1; rw [h1] at h2; exact Option.some.inj h2)) (by rw [g.hsc]; exact h5) (by rw [g.hsc]; exact h6)
        (notStar_ok h7 _ _) (notStar_ok h8 _ _) (par_ok ek kx ky h4 h3 h7 h8 h9 h10) ((snd_all a).e h11 g).1 ((snd_all b).e h12 g).1
    · cases h
  | expr e =>
    refine .one (fun _ _ => rfl) fun {sc s X W} h g hf => ?_
    simp only [okS] at h
    split at h
    · rename_i ex pos _ he
      cases he
      simp only [Bool.and_eq_true] at h
      exact s_expr (notComp_ok h.1 none _ X.env) ((snd_all e).e h.2 g).1
    · cases h
  | ret e =>
    refine .one (fun _ _ => rfl) fun {sc s X W} h g hf => ?_
    simp only [okS] at h
    split at h
    · rename_i ex pos _ he
      cases he
      exact s_ret ((snd_all e).e h g).1
    · cases h
  | retN =>
    refine .one (fun _ _ => rfl) fun {sc s X W} h g hf => ?_
    simp only [okS] at h
    split at h
    · rename_i he
      cases he
      exact s_retN
    · cases h
  | pass =>
    refine .one (fun _ _ => rfl) fun {sc s X W} h g hf => ?_
    simp only [okS] at h
    split at h
    · rename_i he
      cases he
      exact s_pass
    · cases h
  | brk =>
    refine .one (fun _ _ => rfl) fun {sc s X W} h g hf => ?_
    simp only [okS] at h
    split at h
    · rename_i he
      cases he
      exact s_brk
    · cases h
  | cont =>
    refine .one (fun _ _ => rfl) fun {sc s X W} h g hf => ?_
    simp only [okS] at h
    split at h
    · rename_i he
      cases he
      exact s_cont
    · cases h
  | if_ c a b ha hb =>
    refine .one (fun _ _ => rfl) fun {sc s X W} h g hf => ?_
    simp only [okS] at h
    split at h
    · rename_i he
      cases he
      simp only [Bool.and_eq_true] at h
      obtain ⟨⟨⟨h1, h2⟩, h3⟩, h4⟩ := h
      exact s_if (((snd_all c).e h2 g).2.1 h1) (ha.l h3 g hf) (hb.l h4 g hf)
    · cases h
  | while_ c b hb =>
    refine .one (fun _ _ => rfl) fun {sc s X W} h g hf => ?_
    simp only [okS] at h
    split at h
    · rename_i he
      cases he
      simp only [Bool.and_eq_true] at h
      obtain ⟨⟨h1, h2⟩, h3⟩ := h
      exact s_while NN g.pass (((snd_all c).e h2 g).2.1 h1) (hb.l h3 g hf)
    · cases h
  | for_ t k a b body hb =>
    refine .one (fun _ _ => rfl) fun {sc s X W} h g hf => ?_
    simp only [okS] at h
    split at h
    · rename_i he
      cases he
      simp only [Bool.and_eq_true] at h
      obtain ⟨⟨⟨h1, h2⟩, h3⟩, h4⟩ := h
      exact s_for NN g.pass g.calm (notSet_ok h1 X.env) (snd_iter (snd_all a) (snd_all b) h3 g) (okT_ok g hf h2) (hb.l h4 g hf)
    · cases h
end
end Vm

set_option maxHeartbeats 8000000
/-! Vm13: whole functions: what the machine says of them is what the text does. -/
namespace Vm
open PySem L2

structure Row where
  name : Str
  st : Stmt
  ps : List Str
  N : List Str
  c : Fn
def pl (ps N : List Str) (sc : Scope) : Bool :=
  decide (sc.kind = .function) && !sc.isCoroutine && !sc.isGenerator && decide N.Nodup && decide (N.take ps.length = ps) && ps.all (fun x => stoB sc x) && sc.names.all (fun y => !decide (y.2 = .free))
theorem pl_ok {ps N : List Str} {sc : Scope} (h : pl ps N sc = true) : FnScope N ps sc := by
  unfold pl at h
  simp only [Bool.and_eq_true, Bool.not_eq_true', decide_eq_true_eq, List.all_eq_true, decide_eq_false_iff_not] at h
  obtain ⟨⟨⟨⟨⟨⟨h1, h2⟩, h3⟩, h4⟩, h5⟩, h6⟩, h7⟩ := h
  exact ⟨h1, h2, h3, h4, h5, fun x hx => stoB_ok (h6 x hx), h7⟩
def rowOk (Γ : Tabs) (r : Row) : Bool := pl r.ps r.N (defScope r.st) && decide (r.c.np = r.ps.length) && decide (r.c.ns = r.N.length) && okS Γ r.N (defScope r.st) r.c.body true (defBody r.st)
def tabs (rows : List Row) (gl : Nat → Option PV) (gname : Nat → Str) (free : List Str) : Tabs :=
  { fn := fun f => (rows[f]?).map (·.c), fname := fun f => match rows[f]? with
      | some r => r.name
      | none => "", gl := gl, gname := gname, free := free }
/-- a row of the text as it stands behind the top -/
structure RowTxt (K : PySem.W.Frag) (mg : Str → Option Value) (r : Row) (a : Addr) (fd : FuncData) : Prop where
  g : mg r.name = some (.ref a)
  F : Fun K r.name r.name r.st a fd
  b : Binds K fd r.ps []
structure GlTxt (K : PySem.W.Frag) (mg : Str → Option Value) (gl : Nat → Option PV) (gname : Nat → Str) (free : List Str) : Prop where
  gls : ∀ g x, gl g = some x → ∃ v u, mg (gname g) = some u ∧ RelV v u ∧ ∀ ρ H, Rep K ρ H x v
  frees : ∀ x ∈ free, mg x = none

theorem start_rep {K : PySem.W.Frag} {ρ : List Addr} {H : Hp} {N : List Str} {xs : List PV} {vs : List V} (r : RepL K ρ H xs vs) : RepE K ρ H (Vm.start N.length xs) (L2.start N vs) := by
  have nones : ∀ n, RepE K ρ H (List.replicate n none) (List.replicate n none) := by
    intro n
    induction n with
    | zero => exact .nil
    | succ n ih => exact .none ih
  have key : ∀ {xs : List PV} {vs : List V} (n : Nat), RepL K ρ H xs vs → RepE K ρ H (xs.map some ++ List.replicate n none) (vs.map some ++ List.replicate n none) := by
    intro xs
    induction xs with
    | nil => intro vs n r; cases r; exact nones n
    | cons x xs ih => intro vs n r; cases r with
      | cons h1 h2 => exact .some h1 (ih n h2)
  unfold Vm.start L2.start
  rw [r.length]
  exact key _ r
theorem spF_len {T : Tb} {K : PySem.W.Frag} {np : Nat} {g : List PV → Store → Res PV} : ∀ vs H Q E, spF T K np g vs H Q E → vs.length = np := fun vs H Q E ⟨_, _, _, _, _, h, _⟩ => h
section
variable {T : Tb} {P : Program} {w : World} {K : PySem.W.Frag} {mg : Str → Option Value} {base : Heap} {rows : List Row} {gl : Nat → Option PV} {gname : Nat → Str} {free : List Str} {NN : Nat}
theorem fn_zero {r : Row} {a : Addr} {fd : FuncData} {f : Nat} (hp : r.c.np = r.ps.length) {t : Nat → Option Fn} : FnOk P w K mg base (L2.CX P w) 0 a fd r.ps (spF T K r.c.np (run t gl NN 0 f)) := by
  refine ⟨fun vs H Q E h => (spF_len vs H Q E h).trans hp, fun A outer s H args us vs Q E hr e0 hb r hsp => ?_⟩
  obtain ⟨_, _, _, _, _, _, h⟩ := hsp
  exact h.elim
theorem all_ok (hr : ∀ r ∈ rows, rowOk (tabs rows gl gname free) r = true) (ht : ∀ (f : Nat) r, rows[f]? = some r → ∃ a fd, RowTxt K mg r a fd) (hg : GlTxt K mg gl gname free) :
    ∀ (d f : Nat) r, rows[f]? = some r → ∀ a fd, RowTxt K mg r a fd → FnOk P w K mg base (L2.CX P w) d a fd r.ps (spF T K r.c.np (run (tabs rows gl gname free).fn gl NN d f)) := by
  intro d
  induction d with
  | zero =>
    intro f r h a fd t
    have q := hr r (List.mem_of_getElem? h)
    simp only [rowOk, Bool.and_eq_true, decide_eq_true_eq] at q
    exact fn_zero q.1.1.2
  | succ d ih =>
    intro f r h a fd t
    have q := hr r (List.mem_of_getElem? h)
    simp only [rowOk, Bool.and_eq_true, decide_eq_true_eq] at q
    obtain ⟨⟨⟨q1, q2⟩, q3⟩, q4⟩ := q
    have sc := pl_ok q1
    have hfn : (tabs rows gl gname free).fn f = some r.c := by show (rows[f]?).map (·.c) = _; rw [h]; rfl
    refine t.F.okX sc (fun vs H Q E z => (spF_len vs H Q E z).trans q2) fun cdv A outer s H vs Q E hroom hsp => ?_
    let X := cxOf (L2.CX P w) P w K mg base r.N r.name (defScope r.st) a cdv A outer s H E
    refine ⟨wSs X (defBody r.st), pss_w, ?_⟩
    obtain ⟨ρ, st, xs, ok, rl, hl, aft⟩ := hsp
    have good : Good T (tabs rows gl gname free) NN r.N d (defScope r.st) X (fun cls d _ H => E cls d H) :=
      { hN := rfl
        hsc := rfl
        nd := sc.nd
        kind := sc.kind
        calm := rfl
        room := hroom
        pass := passes_of rfl
        takes := takes_of rfl rfl rfl rfl
        fns := fun f' c' h' => by
          obtain ⟨r', h1, h2⟩ := Option.map_eq_some_iff.mp (show (rows[f']?).map (·.c) = some c' from h')
          subst h2
          obtain ⟨a', fd', t'⟩ := ht f' r' h1
          refine ⟨a', fd', r'.ps, ?_, t'.F.kp, t'.b, ih f' r' h1 a' fd' t'⟩
          show mg (match rows[f']? with
            | some r => r.name
            | none => "") = _
          rw [h1]
          exact t'.g
        gls := hg.gls
        frees := hg.frees }
    refine (snds_all r.c.body).l q4 good rfl ρ st H _ (Vm.start r.c.ns xs) _ ok (by rw [q3]; exact start_rep rl) ?_
    have lx : xs.length = r.c.np := rl.length.trans hl
    have e : run (tabs rows gl gname free).fn gl NN (d + 1) f xs st = (evS (run (tabs rows gl gname free).fn gl NN d) gl NN r.c.body (Vm.start r.c.ns xs) st).bind fun fl st1 => match fl with
        | .nx _ => .ok .non st1
        | .rt v => .ok v st1
        | _ => .bad := by
      show (match (tabs rows gl gname free).fn f with
        | none => Res.bad
        | some c => if xs.length = c.np then (evS (run (tabs rows gl gname free).fn gl NN d) gl NN c.body (Vm.start c.ns xs) st).bind fun fl st1 => match fl with
          | .nx _ => (.ok PV.non st1 : Res PV)
          | .rt v => .ok v st1
          | _ => .bad
          else .bad) = _
      rw [hfn]
      exact if_pos lx
    rw [e] at aft
    refine (Aft.bind aft).imp (fun fl st1 q ρ' H' g ok' => ?_) fun c fs st1 z ρ' H' d' σ' g ok' r' => z ρ' H' d' g ok' r'
    cases fl with
    | nx ev => exact fun σ' re => q ρ' H' V.non g ok' Rep.non
    | rt v => exact fun w' rw' => q ρ' H' w' g ok' rw'
    | bk ev => exact q.elim
    | ct ev => exact q.elim
end
end Vm

set_option maxHeartbeats 4000000
/-! Vm14: what the machine does not look at does not matter: a cell that is dead may stand for any. -/
namespace Vm
def LeS (s s' : Store) : Prop := s.length = s'.length ∧ ∀ i : Nat, s[i]? = some Cell.dead ∨ s[i]? = s'[i]?
theorem LeS.refl (s : Store) : LeS s s := ⟨rfl, fun _ => .inr rfl⟩
theorem LeS.set {s s' : Store} (h : LeS s s') (n : Nat) (c : Cell) : LeS (s.set n c) (s'.set n c) := by
  refine ⟨by simp [h.1], fun i => ?_⟩
  rw [List.getElem?_set, List.getElem?_set]
  by_cases e : n = i
  · subst e
    rw [if_pos rfl, if_pos rfl, h.1]
    exact .inr rfl
  · rw [if_neg e, if_neg e]
    exact h.2 i
theorem LeS.app {s s' : Store} (h : LeS s s') (c : Cell) : LeS (s ++ [c]) (s' ++ [c]) := by
  refine ⟨by simp [h.1], fun i => ?_⟩
  rw [List.getElem?_append, List.getElem?_append, h.1]
  split
  · exact h.2 i
  · exact .inr rfl
inductive LeR {α : Type} : Res α → Res α → Prop
  | bad (r : Res α) : LeR .bad r
  | ok {a : α} {s s' : Store} : LeS s s' → LeR (.ok a s) (.ok a s')
  | exc {c : Nat} {fs : List (Nat × PV)} {s s' : Store} : LeS s s' → LeR (.exc c fs s) (.exc c fs s')
theorem LeR.bind {α β : Type} {r r' : Res α} {f f' : α → Store → Res β} (h : LeR r r') (hf : ∀ a s s', LeS s s' → LeR (f a s) (f' a s')) : LeR (r.bind f) (r'.bind f') := by
  cases h with
  | bad r => exact .bad _
  | ok h => exact hf _ _ _ h
  | exc h => exact .exc h
/-- slots that are empty may stand for any -/
def LeE (e e' : Env) : Prop := e.length = e'.length ∧ ∀ i : Nat, e[i]? = some none ∨ e[i]? = e'[i]?
theorem LeE.refl (e : Env) : LeE e e := ⟨rfl, fun _ => .inr rfl⟩
theorem LeE.set {e e' : Env} (h : LeE e e') (n : Nat) (c : Option PV) : LeE (e.set n c) (e'.set n c) := by
  refine ⟨by simp [h.1], fun i => ?_⟩
  rw [List.getElem?_set, List.getElem?_set]
  by_cases q : n = i
  · subst q
    rw [if_pos rfl, if_pos rfl, h.1]
    exact .inr rfl
  · rw [if_neg q, if_neg q]
    exact h.2 i
theorem LeE.wipe {e e' : Env} (h : LeE e e') : ∀ own : List Nat, LeE (wipeE e own) (wipeE e' own)
  | [] => h
  | i :: is => (LeE.wipe h is).set i none
def LeFl : Flow → Flow → Prop
  | .nx e, .nx e' => LeE e e'
  | .bk e, .bk e' => LeE e e'
  | .ct e, .ct e' => LeE e e'
  | .rt v, .rt v' => v = v'
  | _, _ => False
/-- as LeR, with unlike answers -/
inductive LeX {α : Type} (R : α → α → Prop) : Res α → Res α → Prop
  | bad (r : Res α) : LeX R .bad r
  | ok {a a' : α} {s s' : Store} : R a a' → LeS s s' → LeX R (.ok a s) (.ok a' s')
  | exc {c : Nat} {fs : List (Nat × PV)} {s s' : Store} : LeS s s' → LeX R (.exc c fs s) (.exc c fs s')
theorem LeR.bindX {α β : Type} {R : β → β → Prop} {r r' : Res α} {f f' : α → Store → Res β} (h : LeR r r') (hf : ∀ a s s', LeS s s' → LeX R (f a s) (f' a s')) : LeX R (r.bind f) (r'.bind f') := by
  cases h with
  | bad r => exact .bad _
  | ok h => exact hf _ _ _ h
  | exc h => exact .exc h
theorem LeX.bind {α β : Type} {Q : α → α → Prop} {R : β → β → Prop} {r r' : Res α} {f f' : α → Store → Res β} (h : LeX Q r r') (hf : ∀ a a' s s', Q a a' → LeS s s' → LeX R (f a s) (f' a' s')) : LeX R (r.bind f) (r'.bind f') := by
  cases h with
  | bad r => exact .bad _
  | ok h1 h => exact hf _ _ _ _ h1 h
  | exc h => exact .exc h
theorem LeX.bindR {α β : Type} {Q : α → α → Prop} {r r' : Res α} {f f' : α → Store → Res β} (h : LeX Q r r') (hf : ∀ a a' s s', Q a a' → LeS s s' → LeR (f a s) (f' a' s')) : LeR (r.bind f) (r'.bind f') := by
  cases h with
  | bad r => exact .bad _
  | ok h1 h => exact hf _ _ _ _ h1 h
  | exc h => exact .exc h
theorem le_unpack : ∀ (is : List Nat) (vs : List PV) {e e' : Env}, LeE e e' → (unpackE is vs e = none ∧ unpackE is vs e' = none) ∨ ∃ a a', unpackE is vs e = some a ∧ unpackE is vs e' = some a' ∧ LeE a a'
  | [], [], e, e', h => .inr ⟨e, e', rfl, rfl, h⟩
  | [], _ :: _, _, _, _ => .inl ⟨rfl, rfl⟩
  | _ :: _, [], _, _, _ => .inl ⟨rfl, rfl⟩
  | i :: is, v :: vs, e, e', h => le_unpack is vs (h.set i (some v))
theorem le_bindOwn (is : List Nat) (v : PV) {e e' : Env} (h : LeE e e') : (bindOwn is v e = none ∧ bindOwn is v e' = none) ∨ ∃ a a', bindOwn is v e = some a ∧ bindOwn is v e' = some a' ∧ LeE a a' := by
  have tup : (bindTup is v e = none ∧ bindTup is v e' = none) ∨ ∃ a a', bindTup is v e = some a ∧ bindTup is v e' = some a' ∧ LeE a a' := by
    cases v with
    | tup vs => exact le_unpack is vs h
    | _ => exact .inl ⟨rfl, rfl⟩
  cases is with
  | nil => exact tup
  | cons i is =>
    cases is with
    | nil => exact .inr ⟨_, _, rfl, rfl, h.set i (some v)⟩
    | cons j is => exact tup
def LeO {α : Type} (o o' : Option α) : Prop := o = none ∨ o = o'
theorem LeO.rfl {α : Type} {o : Option α} : LeO o o := .inr (Eq.refl _)
theorem LeO.map {α β : Type} {o o' : Option α} (f : α → β) (h : LeO o o') : LeO (o.map f) (o'.map f) := by
  rcases h with h | h <;> subst h
  · exact .inl (Eq.refl _)
  · exact .rfl
theorem LeO.bind {α β : Type} {o o' : Option α} {f f' : α → Option β} (h : LeO o o') (hf : ∀ a, LeO (f a) (f' a)) : LeO (o.bind f) (o'.bind f') := by
  rcases h with h | h <;> subst h
  · exact .inl (Eq.refl _)
  · cases o with
    | none => exact .rfl
    | some a => exact hf a
theorem LeO.res {α : Type} {o o' : Option α} (h : LeO o o') {s s' : Store} (hs : LeS s s') : LeR (Res.of o s) (Res.of o' s') := by
  rcases h with h | h <;> subst h
  · exact .bad _
  · cases o with
    | none => exact .bad _
    | some a => exact .ok hs
section
variable {s s' : Store} (h : LeS s s')
include h
theorem le_lv (v : PV) : LeO (lv s v) (lv s' v) := by
  cases v <;> try exact .rfl
  rename_i n
  unfold lv
  dsimp only
  rcases h.2 n with e | e
  · rw [e]; exact .inl rfl
  · rw [e]; exact .rfl
theorem le_lw (v : PV) : LeO (lw s v) (lw s' v) := by
  cases v <;> try exact .rfl
  rename_i n
  unfold lw
  dsimp only
  rcases h.2 n with e | e
  · rw [e]; exact .inl rfl
  · rw [e]; exact .rfl
theorem le_sv (v : PV) : LeO (sv s v) (sv s' v) := by
  cases v <;> first | exact .rfl | (unfold sv; exact le_lv h _)
theorem le_dm (v : PV) : LeO (dm s v) (dm s' v) := by
  cases v <;> try exact .rfl
  rename_i n
  unfold dm
  dsimp only
  rcases h.2 n with e | e
  · rw [e]; exact .inl rfl
  · rw [e]; exact .rfl
theorem le_lm (v : PV) : LeO (lm s v) (lm s' v) := by
  cases v <;> try exact .rfl
  rename_i n
  unfold lm
  dsimp only
  rcases h.2 n with e | e
  · rw [e]; exact .inl rfl
  · rw [e]; exact .rfl
theorem le_catL (x y : PV) : LeO (catL (lw s x) (lw s y)) (catL (lw s' x) (lw s' y)) := by
  rcases le_lw h x with e | e
  · rw [e]; exact .inl rfl
  · rw [e]
    rcases le_lw h y with e2 | e2
    · rw [e2]
      refine .inl ?_
      unfold catL
      cases lw s' x <;> rfl
    · rw [e2]; exact .rfl
theorem le_binop (o : BOp) (a b : PV) : LeO (binop o a b s) (binop o a b s') := by
  cases o with
  | add =>
    unfold binop
    dsimp only
    split <;> first | exact .rfl | exact le_catL h _ _
  | mul =>
    unfold binop
    dsimp only
    split
    · exact .rfl
    · rcases le_lw h a with e | e
      · rw [e]; exact .inl rfl
      · rw [e]; exact .rfl
    · exact .rfl
  | _ => exact .rfl
theorem le_dataOf : ∀ (n : Nat) (x : PV), LeO (dataOf s n x) (dataOf s' n x) := by
  intro n
  induction n with
  | zero => intro x; exact .rfl
  | succ n ih =>
    have key : ∀ xs, LeO (mapO (dataOf s n) xs) (mapO (dataOf s' n) xs) := by
      intro xs
      induction xs with
      | nil => exact .rfl
      | cons x xs ihx =>
        unfold mapO
        rcases ih x with e | e
        · rw [e]; exact .inl rfl
        · rw [e]
          rcases ihx with e2 | e2
          · rw [e2]
            refine .inl ?_
            cases dataOf s' n x <;> rfl
          · rw [e2]; exact .rfl
    intro x
    unfold dataOf
    cases x <;> first
      | exact .rfl
      | exact (key _).map _
      | exact ((le_lv h _).bind key).map _
theorem le_eqW (a b : PV) : LeO (eqW a b s) (eqW a b s') := by
  unfold eqW
  split
  · exact .rfl
  · rcases le_dataOf h 60 a with e | e
    · rw [e]; exact .inl rfl
    · rw [e]
      rcases le_dataOf h 60 b with e2 | e2
      · rw [e2]
        refine .inl ?_
        cases dataOf s' 60 a <;> rfl
      · rw [e2]; exact .rfl
theorem le_isinV (x y : PV) : LeO (isinV x y s) (isinV x y s') := by
  cases y <;> try exact .rfl
  rename_i n
  unfold isinV
  dsimp only [dv, sv, lv]
  rcases h.2 n with e | e
  · rw [e]; exact .inl rfl
  · rw [e]; exact .rfl
theorem le_cmpV (o : COp) (a b : PV) : LeO (cmpV o a b s) (cmpV o a b s') := by
  cases o with
  | eq => exact le_eqW h a b
  | ne => exact (le_eqW h a b).map _
  | isin => exact le_isinV h a b
  | notin => exact (le_isinV h a b).map _
  | _ => exact .rfl
theorem le_indexV (a b : PV) : LeO (indexV a b s) (indexV a b s') := by
  cases a <;> try exact .rfl
  rename_i n
  unfold indexV
  dsimp only [indexG, dv, sv, lv]
  rcases h.2 n with e | e
  · rw [e]; cases b <;> exact .inl rfl
  · rw [e]; exact .rfl
theorem le_sliceG (a : PV) (l u : Option Int) : LeO (sliceG a l u s) (sliceG a l u s') := by
  cases a <;> first | exact .rfl | exact (le_lv h _).map _
theorem le_blt1 (f : Blt) (v : PV) : LeO (blt1 f v s) (blt1 f v s') := by
  cases f with
  | len =>
    refine LeO.map _ ?_
    cases v <;> try exact .rfl
    rename_i n
    dsimp only [lenV, dv, sv, lv]
    rcases h.2 n with e | e
    · rw [e]; exact .inl rfl
    · rw [e]; exact .rfl
  | tuple => exact (le_sv h v).map _
  | list => exact (le_sv h v).map _
  | sum => exact LeO.map _ (LeO.bind (f := intsOf) (f' := intsOf) (le_lv h v) (fun _ => .rfl) |>.map List.sum)
  | _ => exact .rfl
theorem le_isTy (t : Ty) (x : PV) : LeO (isTy t x s) (isTy t x s') := by
  refine LeO.map _ ?_
  cases x <;> try exact .rfl
  rename_i n
  dsimp only [tagOf]
  rcases h.2 n with e | e
  · rw [e]; exact .inl rfl
  · rw [e]; exact .rfl
theorem le_srcOf (v : PV) : LeO (srcOf v s) (srcOf v s') := by
  cases v <;> try exact .rfl
  rename_i n
  dsimp only [srcOf]
  rcases h.2 n with e | e
  · rw [e]; exact .inl rfl
  · rw [e]; exact .rfl
theorem le_mth0 (m : Mth) (o : PV) : LeR (mthR (mth0 m o s)) (mthR (mth0 m o s')) := by
  have hl := le_lm h o
  cases m <;> try exact .bad _
  · dsimp only [mth0]
    rcases hl with e | e
    · rw [e]; exact .bad _
    · rw [e]
      cases lm s' o with
      | none => exact .bad _
      | some p =>
        obtain ⟨n, xs⟩ := p
        dsimp only
        cases xs[xs.length - 1]? with
        | none => exact .bad _
        | some y => exact .ok (h.set _ _)
  · dsimp only [mth0]
    rcases hl with e | e
    · rw [e]; exact .bad _
    · rw [e]
      cases lm s' o with
      | none => exact .bad _
      | some p => exact .ok (h.set _ _)
theorem le_mth1 (m : Mth) (o x : PV) : LeR (mthR (mth1 m o x s)) (mthR (mth1 m o x s')) := by
  have hl := le_lm h o
  cases m <;> try exact .bad _
  dsimp only [mth1]
  rcases hl with e | e
  · rw [e]; exact .bad _
  · rw [e]
    cases lm s' o with
    | none => exact .bad _
    | some p =>
      obtain ⟨n, xs⟩ := p
      dsimp only [guardO]
      split
      · exact .ok (h.set _ _)
      · exact .bad _
theorem le_mOk (m : Mth) (o : PV) {r r' : Res PV} (hr : LeR r r') : LeR (guardR (mOk m o s) r) (guardR (mOk m o s') r') := by
  have hl := le_lm h o
  cases m <;> try exact .bad _
  dsimp only [mOk]
  rcases hl with e | e
  · rw [e]; exact .bad _
  · rw [e]
    cases (lm s' o).isSome with
    | true => exact hr
    | false => exact .bad _
theorem le_setSub (o i v : PV) : setSub o i v s = none ∨ ∃ t t', setSub o i v s = some t ∧ setSub o i v s' = some t' ∧ LeS t t' := by
  cases o <;> try exact .inl rfl
  rename_i n
  unfold setSub
  rcases h.2 n with e | e
  · dsimp only; rw [e]; exact .inl rfl
  · dsimp only
    rw [e]
    split
    · split
      · exact .inr ⟨_, _, rfl, rfl, h.set _ _⟩
      · exact .inl rfl
    · split
      · exact .inr ⟨_, _, rfl, rfl, h.set _ _⟩
      · exact .inl rfl
    · exact .inl rfl
end
theorem LeR.fix {r r' : Res PV} (h : LeR r r') : LeR (fixR r) (fixR r') := h.bind fun v s s' hs => by
  cases v <;> try exact .ok hs
  show LeR (.ok (PV.loc s.length) (s ++ _)) (.ok (PV.loc s'.length) (s' ++ _))
  rw [hs.1]
  exact .ok (hs.app _)
theorem LeR.guard {α : Type} {c : Bool} {r r' : Res α} (h : LeR r r') : LeR (guardR c r) (guardR c r') := by
  cases c
  · exact .bad _
  · exact h
theorem LeR.truth {r r' : Res PV} (h : LeR r r') : LeR (truth r) (Vm.truth r') := h.bind fun v s s' hs => by
  cases v <;> first | exact .ok hs | exact .bad _
theorem LeR.noExc {α : Type} {r r' : Res α} (h : LeR r r') : LeR (noExc r) (Vm.noExc r') := by
  cases h with
  | bad => exact .bad _
  | ok h => exact .ok h
  | exc h => exact .bad _

section
variable {call call' : Nat → List PV → Store → Res PV} (hc : ∀ f vs s s', LeS s s' → LeR (call f vs s) (call' f vs s')) (G : Nat → Option PV) (N : Nat)
/-- goes up with the store -/
def MoF {α β : Type} (f f' : α → Store → Res β) : Prop := ∀ a s s', LeS s s' → LeR (f a s) (f' a s')
theorem mo_lcGo {f f' : PV → Store → Res (Option PV)} (hf : MoF f f') : ∀ (xs acc : List PV) (s s' : Store), LeS s s' → LeR (lcGo f xs acc s) (lcGo f' xs acc s')
  | [], acc, s, s', h => .ok h
  | x :: xs, acc, s, s', h => (hf x s s' h).bind fun r s1 s1' h1 => by
    cases r with
    | none => exact mo_lcGo hf xs acc s1 s1' h1
    | some y => exact (mo_lcGo hf xs (acc ++ [y]) s1 s1' h1).guard
theorem mo_lcLive {f f' : PV → Store → Res (Option PV)} (hf : MoF f f') (n : Nat) : ∀ (fu i : Nat) (acc : List PV) (s s' : Store), LeS s s' → LeR (lcLive f n fu i acc s) (lcLive f' n fu i acc s')
  | 0, _, _, _, _, _ => .bad _
  | fu + 1, i, acc, s, s', h => by
    unfold lcLive
    rcases le_lv h (PV.loc n) with e | e
    · rw [e]; exact .bad _
    · rw [e]
      cases lv s' (PV.loc n) with
      | none => exact .bad _
      | some xs =>
        dsimp only
        cases xs[i]? with
        | none => exact .ok h
        | some x =>
          exact (hf x s s' h).bind fun r s1 s1' h1 => by
            cases r with
            | none => exact mo_lcLive hf n fu (i + 1) acc s1 s1' h1
            | some y => exact (mo_lcLive hf n fu (i + 1) (acc ++ [y]) s1 s1' h1).guard
theorem mo_lcRng {f f' : PV → Store → Res (Option PV)} (hf : MoF f f') : ∀ (n : Nat) (i : Int) (acc : List PV) (s s' : Store), LeS s s' → LeR (lcRng f n i acc s) (lcRng f' n i acc s')
  | 0, _, _, _, _, h => .ok h
  | n + 1, i, acc, s, s', h => (hf (.int i) s s' h).bind fun r s1 s1' h1 => by
    cases r with
    | none => exact mo_lcRng hf n (i + 1) acc s1 s1' h1
    | some y => exact (mo_lcRng hf n (i + 1) (acc ++ [y]) s1 s1' h1).guard
theorem mo_lcSrc {f f' : PV → Store → Res (Option PV)} (hf : MoF f f') (x : Src) {s s' : Store} (h : LeS s s') : LeR (lcSrc N f x s) (lcSrc N f' x s') := by
  cases x with
  | vals xs => exact mo_lcGo hf xs [] s s' h
  | live n => exact mo_lcLive hf n N 0 [] s s' h
  | rng lo n => exact mo_lcRng hf n lo [] s s' h
/-- .. and with the slots -/
def MoE {β : Type} (f f' : Env → Store → Res β) : Prop := ∀ ev ev' s s', LeE ev ev' → LeS s s' → LeR (f ev s) (f' ev' s')
def MoX {β : Type} (R : β → β → Prop) (f f' : Env → Store → Res β) : Prop := ∀ ev ev' s s', LeE ev ev' → LeS s s' → LeX R (f ev s) (f' ev' s')
theorem mo_itemM {is : List Nat} {ev ev' : Env} (he : LeE ev ev') {mc mc' me me' : Env → Store → Res PV} (h1 : MoE mc mc') (h2 : MoE me me') : MoF (itemM is ev mc me) (itemM is ev' mc' me') := fun x s s' h => by
  unfold itemM
  rcases le_bindOwn is x (he.wipe is) with ⟨e1, e2⟩ | ⟨a, a', e1, e2, h3⟩
  · rw [e1]; exact .bad _
  · rw [e1, e2]
    refine LeR.noExc ((h1 a a' s s' h3 h).truth.bind fun r s1 s1' h4 => ?_)
    cases r with
    | true => exact (h2 a a' s1 s1' h3 h4).fix.bind fun y s2 s2' h4 => .ok h4
    | false => exact .ok h4
theorem mo_iterM {k : ItK} {fa fa' fb fb' : Env → Store → Res PV} (h1 : MoE fa fa') (h2 : MoE fb fb') : MoE (iterM k fa fb) (iterM k fa' fb') := fun ev ev' s s' he h => by
  cases k with
  | seq => exact (h1 ev ev' s s' he h).bind fun v s1 s1' h3 => (le_srcOf h3 v).res h3
  | rng1 => exact (h1 ev ev' s s' he h).bind fun v s1 s1' h3 => LeO.rfl.res h3
  | rng2 => exact (h1 ev ev' s s' he h).bind fun v s1 s1' h3 => (h2 ev ev' s1 s1' he h3).bind fun w s2 s2' h4 => LeO.rfl.res h4
theorem mo_condM {hcd : Bool} {f f' : Env → Store → Res PV} (h1 : MoE f f') : MoE (condM hcd f) (condM hcd f') := fun ev ev' s s' he h => by
  cases hcd
  · exact .ok h
  · exact h1 ev ev' s s' he h
theorem mo_lcM {is : List Nat} {mi mi' : Env → Store → Res Src} {mc mc' me me' : Env → Store → Res PV} (h0 : MoE mi mi') (h1 : MoE mc mc') (h2 : MoE me me') : MoE (lcM N is mi mc me) (lcM N is mi' mc' me') := fun ev ev' s s' he h =>
  (h0 ev ev' s s' he h).bind fun x s1 s1' h3 => (mo_lcSrc N (mo_itemM he h1 h2) x h3).bind fun xs s2 s2' h4 => .ok h4
include hc
theorem mo_evE : ∀ ce : CE, MoE (evE call G N ce) (evE call' G N ce) := by
  intro ce
  induction ce with
  | lit v => exact fun ev ev' s s' he h => .ok h
  | var i =>
    exact fun ev ev' s s' he h => by
      unfold evE
      rcases he.2 i with e | e
      · rw [e]; exact .bad _
      · rw [e]
        split
        · exact .ok h
        · exact .bad _
  | glob g => exact fun ev ev' s s' he h => LeO.rfl.res h
  | nil => exact fun ev ev' s s' he h => .ok h
  | cons a as h1 h2 => exact fun ev ev' s s' he h => (h1 ev ev' s s' he h).fix.bind fun x s1 s1' h3 => (h2 ev ev' s1 s1' he h3).bind fun xs s2 s2' h4 => .ok h4
  | tup as h1 => exact fun ev ev' s s' he h => (h1 ev ev' s s' he h).bind fun v s1 s1' h3 => LeR.guard (.ok h3)
  | lst as h1 => exact fun ev ev' s s' he h => (h1 ev ev' s s' he h).bind fun v s1 s1' h3 => LeR.guard (.ok h3)
  | bin o a b h1 h2 => exact fun ev ev' s s' he h => (h1 ev ev' s s' he h).bind fun x s1 s1' h3 => (h2 ev ev' s1 s1' he h3).bind fun y s2 s2' h4 => (le_binop h4 o x y).res h4
  | cmp o a b h1 h2 => exact fun ev ev' s s' he h => (h1 ev ev' s s' he h).bind fun x s1 s1' h3 => (h2 ev ev' s1 s1' he h3).bind fun y s2 s2' h4 => ((le_cmpV h4 o x y).map _).res h4
  | cmp2 o o' a b c h1 h2 h5 =>
    exact fun ev ev' s s' he h => (h1 ev ev' s s' he h).bind fun x s1 s1' h3 => (h2 ev ev' s1 s1' he h3).bind fun y s2 s2' h4 => ((le_cmpV h4 o x y).res h4).bind fun r s3 s3' h6 => by
      cases r with
      | true => exact (h5 ev ev' s3 s3' he h6).bind fun z s4 s4' h7 => ((le_cmpV h7 o' y z).map _).res h7
      | false => exact .ok h6
  | and a b h1 h2 =>
    exact fun ev ev' s s' he h => (h1 ev ev' s s' he h).truth.bind fun r s1 s1' h3 => by
      cases r with
      | true => exact (h2 ev ev' s1 s1' he h3).truth.bind fun r s2 s2' h4 => .ok h4
      | false => exact .ok h3
  | or a b h1 h2 =>
    exact fun ev ev' s s' he h => (h1 ev ev' s s' he h).truth.bind fun r s1 s1' h3 => by
      cases r with
      | true => exact .ok h3
      | false => exact (h2 ev ev' s1 s1' he h3).truth.bind fun r s2 s2' h4 => .ok h4
  | not a h1 => exact fun ev ev' s s' he h => (h1 ev ev' s s' he h).truth.bind fun r s1 s1' h3 => .ok h3
  | neg a h1 =>
    exact fun ev ev' s s' he h => (h1 ev ev' s s' he h).bind fun x s1 s1' h3 => by
      cases x <;> first | exact .ok h3 | exact .bad _
  | ite c a b h1 h2 h5 =>
    exact fun ev ev' s s' he h => (h1 ev ev' s s' he h).truth.bind fun r s1 s1' h3 => by
      cases r with
      | true => exact h2 ev ev' s1 s1' he h3
      | false => exact h5 ev ev' s1 s1' he h3
  | ix a b h1 h2 => exact fun ev ev' s s' he h => (h1 ev ev' s s' he h).bind fun x s1 s1' h3 => (h2 ev ev' s1 s1' he h3).bind fun y s2 s2' h4 => (le_indexV h4 x y).res h4
  | noE => exact fun ev ev' s s' he h => .ok h
  | sl a lo hi h1 h2 h5 =>
    have part : ∀ (no : Bool) {r r' : Res PV}, LeR r r' → LeR (partR no r) (partR no r') := fun no r r' hr => hr.bind fun v s s' hs => by
      cases no
      · cases v <;> first | exact .ok hs | exact .bad _
      · exact .ok hs
    exact fun ev ev' s s' he h => (h1 ev ev' s s' he h).bind fun x s1 s1' h3 => (part _ (h2 ev ev' s1 s1' he h3)).bind fun l s2 s2' h4 => (part _ (h5 ev ev' s2 s2' he h4)).bind fun u s3 s3' h6 => (le_sliceG h6 x l u).res h6
  | call f as h1 => exact fun ev ev' s s' he h => (h1 ev ev' s s' he h).bind fun v s1 s1' h3 => hc f _ s1 s1' h3
  | blt1 f a h1 => exact fun ev ev' s s' he h => (h1 ev ev' s s' he h).bind fun x s1 s1' h3 => (le_blt1 h3 f x).res h3
  | blt2 f a b h1 h2 => exact fun ev ev' s s' he h => (h1 ev ev' s s' he h).bind fun x s1 s1' h3 => (h2 ev ev' s1 s1' he h3).bind fun y s2 s2' h4 => LeO.rfl.res h4
  | mth0 m o h1 => exact fun ev ev' s s' he h => (h1 ev ev' s s' he h).bind fun x s1 s1' h3 => le_mth0 h3 m x
  | mth1 m o a h1 h2 => exact fun ev ev' s s' he h => (h1 ev ev' s s' he h).bind fun x s1 s1' h3 => le_mOk h3 m x ((h2 ev ev' s1 s1' he h3).fix.bind fun y s2 s2' h4 => le_mth1 h4 m x y)
  | isi a t h1 => exact fun ev ev' s s' he h => (h1 ev ev' s s' he h).bind fun x s1 s1' h3 => ((le_isTy h3 t x).map _).res h3
  | lc own k a b hcd c e h1 h2 h5 h6 => exact mo_lcM N (mo_iterM h1 h2) (mo_condM h5) h6
  | ditems a h1 => exact fun ev ev' s s' he h => (h1 ev ev' s s' he h).bind fun x s1 s1' h3 => ((le_dm h3 x).map _).res h3
  | dict1 a h1 =>
    exact fun ev ev' s s' he h => (h1 ev ev' s s' he h).bind fun x s1 s1' h3 => by
      have q : LeO ((lv s1 x).bind pairsOf) ((lv s1' x).bind pairsOf) := (le_lv h3 x).bind fun _ => .rfl
      rcases q with e | e
      · rw [e]; exact .bad _
      · rw [e]
        cases (lv s1' x).bind pairsOf with
        | none => exact .bad _
        | some kvs =>
          show LeR (.ok (PV.loc s1.length) _) (.ok (PV.loc s1'.length) _)
          rw [h3.1]
          exact .ok (h3.app _)
  | dnew =>
    exact fun ev ev' s s' he h => by
      show LeR (.ok (PV.loc s.length) _) (.ok (PV.loc s'.length) _)
      rw [h.1]
      exact .ok (h.app _)
theorem mo_evT (t : CT) (v : PV) : MoX LeE (evT call G N t v) (evT call' G N t v) := fun ev ev' s s' he h => by
  cases t with
  | name i => exact .ok (he.set i _) h
  | names is =>
    unfold evT
    cases v <;> try exact .bad _
    rename_i vs
    dsimp only
    rcases le_unpack is vs he with ⟨e1, e2⟩ | ⟨a, a', e1, e2, h3⟩
    · rw [e1]; exact .bad _
    · rw [e1, e2]; exact .ok h3 h
  | sub o i =>
    exact (mo_evE hc G N o ev ev' s s' he h).bindX fun x s1 s1' h3 => (mo_evE hc G N i ev ev' s1 s1' he h3).bindX fun k s2 s2' h4 => by
      rcases le_setSub h4 x k v with e | ⟨t, t', e1, e2, h5⟩
      · rw [e]; exact .bad _
      · rw [e1, e2]; exact .ok he h5
omit hc in
theorem mo_whl {c c' : Env → Store → Res Bool} {b b' : Env → Store → Res Flow} (h1 : MoE c c') (h2 : MoX LeFl b b') : ∀ n, MoX LeFl (whl c b n) (whl c' b' n)
  | 0 => fun _ _ _ _ _ _ => .bad _
  | n + 1 => fun ev ev' s s' he h => (h1 ev ev' s s' he h).bindX fun r s1 s1' h3 => by
    cases r with
    | false => exact .ok he h3
    | true =>
      exact (h2 ev ev' s1 s1' he h3).bind fun f f' s2 s2' hf h4 => by
        cases f <;> cases f' <;> first
          | exact hf.elim
          | exact mo_whl h1 h2 n _ _ s2 s2' hf h4
          | exact .ok hf h4
omit hc in
theorem mo_forGo {b b' : PV → Env → Store → Res Flow} (hb : ∀ x, MoX LeFl (b x) (b' x)) : ∀ xs, MoX LeFl (forGo b xs) (forGo b' xs)
  | [] => fun ev ev' s s' he h => .ok he h
  | x :: xs => fun ev ev' s s' he h => (hb x ev ev' s s' he h).bind fun f f' s2 s2' hf h4 => by
    cases f <;> cases f' <;> first
      | exact hf.elim
      | exact mo_forGo hb xs _ _ s2 s2' hf h4
      | exact .ok hf h4
omit hc in
theorem mo_forLive {b b' : PV → Env → Store → Res Flow} (hb : ∀ x, MoX LeFl (b x) (b' x)) (n : Nat) : ∀ fu i, MoX LeFl (forLive b n fu i) (forLive b' n fu i)
  | 0, _ => fun _ _ _ _ _ _ => .bad _
  | fu + 1, i => fun ev ev' s s' he h => by
    unfold forLive
    rcases le_lv h (PV.loc n) with e | e
    · rw [e]; exact .bad _
    · rw [e]
      cases lv s' (PV.loc n) with
      | none => exact .bad _
      | some xs =>
        dsimp only
        cases xs[i]? with
        | none => exact .ok he h
        | some x =>
          exact (hb x ev ev' s s' he h).bind fun f f' s2 s2' hf h4 => by
            cases f <;> cases f' <;> first
              | exact hf.elim
              | exact mo_forLive hb n fu (i + 1) _ _ s2 s2' hf h4
              | exact .ok hf h4
omit hc in
theorem mo_forRng {b b' : PV → Env → Store → Res Flow} (hb : ∀ x, MoX LeFl (b x) (b' x)) : ∀ n i, MoX LeFl (forRng b n i) (forRng b' n i)
  | 0, _ => fun ev ev' s s' he h => .ok he h
  | n + 1, i => fun ev ev' s s' he h => (hb (.int i) ev ev' s s' he h).bind fun f f' s2 s2' hf h4 => by
    cases f <;> cases f' <;> first
      | exact hf.elim
      | exact mo_forRng hb n (i + 1) _ _ s2 s2' hf h4
      | exact .ok hf h4
theorem mo_evS : ∀ cs : CS, MoX LeFl (evS call G N cs) (evS call' G N cs) := by
  intro cs
  induction cs with
  | nil => exact fun ev ev' s s' he h => .ok he h
  | cons a b h1 h2 =>
    exact fun ev ev' s s' he h => (h1 ev ev' s s' he h).bind fun f f' s1 s1' hf h3 => by
      cases f <;> cases f' <;> first
        | exact hf.elim
        | exact h2 _ _ s1 s1' hf h3
        | exact .ok hf h3
  | asg t e => exact fun ev ev' s s' he h => (mo_evE hc G N e ev ev' s s' he h).fix.bindX fun v s1 s1' h3 => (mo_evT hc G N t v ev ev' s1 s1' he h3).bind fun ev2 ev2' s2 s2' he2 h4 => .ok he2 h4
  | par i j a b => exact fun ev ev' s s' he h => (mo_evE hc G N a ev ev' s s' he h).fix.bindX fun v s1 s1' h3 => (mo_evE hc G N b ev ev' s1 s1' he h3).fix.bindX fun w s2 s2' h4 => .ok ((he.set i _).set j _) h4
  | expr e => exact fun ev ev' s s' he h => (mo_evE hc G N e ev ev' s s' he h).bindX fun _ s1 s1' h3 => .ok he h3
  | ret e => exact fun ev ev' s s' he h => (mo_evE hc G N e ev ev' s s' he h).fix.bindX fun v s1 s1' h3 => .ok rfl h3
  | retN => exact fun ev ev' s s' he h => .ok rfl h
  | pass => exact fun ev ev' s s' he h => .ok he h
  | brk => exact fun ev ev' s s' he h => .ok he h
  | cont => exact fun ev ev' s s' he h => .ok he h
  | if_ c a b h1 h2 =>
    exact fun ev ev' s s' he h => (mo_evE hc G N c ev ev' s s' he h).truth.bindX fun r s1 s1' h3 => by
      cases r with
      | true => exact h1 ev ev' s1 s1' he h3
      | false => exact h2 ev ev' s1 s1' he h3
  | while_ c b h1 => exact mo_whl (fun ev ev' s s' he h => (mo_evE hc G N c ev ev' s s' he h).truth) h1 N
  | for_ t k a b body h1 =>
    exact fun ev ev' s s' he h => (mo_iterM (mo_evE hc G N a) (mo_evE hc G N b) ev ev' s s' he h).bindX fun x s1 s1' h3 => by
      have hb : ∀ x, MoX LeFl (turnM (fun x ev st => evT call G N t x ev st) (fun ev st => evS call G N body ev st) x) (turnM (fun x ev st => evT call' G N t x ev st) (fun ev st => evS call' G N body ev st) x) :=
        fun x ev ev' s s' he h => (mo_evT hc G N t x ev ev' s s' he h).bind fun ev2 ev2' s2 s2' he2 h4 => h1 ev2 ev2' s2 s2' he2 h4
      cases x with
      | vals xs => exact mo_forGo hb xs ev ev' s1 s1' he h3
      | live n => exact mo_forLive hb n N 0 ev ev' s1 s1' he h3
      | rng lo n => exact mo_forRng hb n lo ev ev' s1 s1' he h3
end
theorem mo_run (T : Nat → Option Fn) (G : Nat → Option PV) (N : Nat) : ∀ (d f : Nat) (vs : List PV), ∀ s s', LeS s s' → LeR (run T G N d f vs s) (run T G N d f vs s') := by
  intro d
  induction d with
  | zero => intro f vs s s' h; exact .bad _
  | succ d ih =>
    intro f vs s s' h
    unfold run
    cases T f with
    | none => exact .bad _
    | some c =>
      dsimp only
      split
      · exact (mo_evS ih G N c.body (start c.ns vs) (start c.ns vs) s s' (.refl _) h).bindR fun fl fl' s1 s1' hf h1 => by
          cases fl <;> cases fl' <;> first
            | exact hf.elim
            | exact .ok h1
            | (cases hf; exact .ok h1)
            | exact .bad _
      · exact .bad _
/-- dead cells in place of those that don't matter -/
theorem LeR.of_ok {α : Type} {r r' : Res α} {a : α} (h : LeR r r') (he : ∃ st, r = .ok a st) : ∃ st, r' = .ok a st := by
  obtain ⟨st, e⟩ := he
  subst e
  cases h with
  | ok h => exact ⟨_, rfl⟩
theorem LeX.of_rt {r r' : Res Flow} {v : PV} (h : LeX LeFl r r') (he : ∃ st, r = .ok (.rt v) st) : ∃ st, r' = .ok (.rt v) st := by
  obtain ⟨st, e⟩ := he
  subst e
  cases h with
  | @ok _ a' _ s' h1 h2 =>
    cases a' <;> first
      | exact h1.elim
      | (cases h1; exact ⟨_, rfl⟩)
/-- the rest of a body, looked at where cells and slots that don't matter are dead -/
theorem rest_by {T : Nat → Option Fn} {G : Nat → Option PV} {N d : Nat} {cs : CS} {ev ev' : Env} {st st' : Store} {v : PV} (he : LeE ev ev') (hs : LeS st st') (h : ∃ s, evS (run T G N d) G N cs ev st = .ok (.rt v) s) : ∃ s, evS (run T G N d) G N cs ev' st' = .ok (.rt v) s :=
  (mo_evS (mo_run T G N d) G N cs ev ev' st st' he hs).of_rt h
end Vm

set_option maxHeartbeats 8000000
/-! Vm15: the end of a law whose text is code of the machine. -/
namespace Vm
open PySem L2
def BindsOk (r : Row) : Prop := ∀ (kV doc pm : Value) (an : Option Addr) (cdv ct : Value) (us : List Value), us.length = r.ps.length → bindArgs (PySem.W.fnOf r.name r.name (defArgs r.st) (defBody r.st) (defScope r.st) .none kV doc pm an cdv ct) ⟨us, []⟩ = pure (r.ps.zip us)
section
variable {K : PySem.W.Frag} {mg : Str → Option Value} {h : Heap}
theorem row_mk (r : Row) {f : Addr} {oc : Value} {od an : Option Addr} {osl : Array (Option Value)} {kV doc pm cdv ct : Value} (X : K.In h) (G : h.Ns mainGlobals mg) (hb : BindsOk r) (a : PySem.W.nsIn K mainGlobals r.name = some (some (.ref f)))
    (l : K.lookup f = some ⟨oc, od, .func (PySem.W.fnOf r.name r.name (defArgs r.st) (defBody r.st) (defScope r.st) .none kV doc pm an cdv ct), osl⟩) (c : PySem.W.codeIn K cdv r.name = true) (k : PySem.W.keepIn K (.ref f) = true) :
    RowTxt K mg r f (PySem.W.fnOf r.name r.name (defArgs r.st) (defBody r.st) (defScope r.st) .none kV doc pm an cdv ct) :=
  ⟨PySem.W.mg_of X G a, fun_mk l c k, (fun_mk l c k).binds hb⟩
theorem glStr (X : K.In h) (G : h.Ns mainGlobals mg) {x s : Str} {l : List Nat} {t : Tok} (a : PySem.W.nsIn K mainGlobals x = some (some (.str s t))) (e : s = ⟨l.toArray⟩) : ∃ v u, mg x = some u ∧ RelV v u ∧ ∀ ρ H, Rep K ρ H (.str l) v := by
  subst e
  exact ⟨.str ⟨l.toArray⟩, _, PySem.W.mg_of X G a, ⟨t, rfl⟩, fun _ _ => .str l⟩
end
/-- the machine's word for a law: at every script True -/
def TrueAt (r : List PV → Store → Res PV) (ns : List Int) : Prop := ∃ st', r [.fl (ns.map .int)] [] = .ok (.bl true) st'
theorem repL_ints (K : PySem.W.Frag) (ρ : List Addr) (H : Hp) : ∀ ns : List Int, RepL K ρ H (ns.map .int) (ns.map V.int)
  | [] => .nil
  | n :: ns => .cons (.int n) (repL_ints K ρ H ns)
theorem sp_law {T : Tb} {K : PySem.W.Frag} {g : List PV → Store → Res PV} {H : Hp} {a : Addr} {ns : List Int} (hO : Only H) (hS : SqL K H a (ns.map V.int)) (h : TrueAt g ns) : spF T K 1 g [.ref a] H (fun v _ => v = .bl true) fun _ _ _ => False := by
  obtain ⟨st', e⟩ := h
  refine ⟨[], [], [.fl (ns.map .int)], ⟨rfl, List.nodup_nil, fun i a c h => by simp at h⟩, .cons (.fl (SqF.of_only hO hS) (repL_ints K [] H ns)) .nil, rfl, ?_⟩
  rw [e]
  intro ρ' H' v g ok r
  cases r
  rfl
theorem cx_no {P : Program} {w : World} {H : Hp} {s : Shared} {e : Value} {s' : Shared} (h : L2.CX P w [] H s (fun _ _ _ => False) e s') : False := by
  obtain ⟨_, _, _, _, _, _, _, _, _, _, _, _, z⟩ := h
  exact z.elim
end Vm

set_option maxHeartbeats 4000000
/-! Vm16: what all laws' draws give. -/
namespace Vm
theorem intsOf_map : ∀ ns : List Int, intsOf (ns.map .int) = some ns
  | [] => rfl
  | n :: ns => by
    show (intsOf (ns.map .int)).map (n :: ·) = _
    rw [intsOf_map ns]
    rfl
def numC : CS := .cons (.asg (.name 2) (.bin .add (.bin .mul (.blt1 .sum (.var 0)) (.lit (.int 31))) (.bin .mul (.lit (.int 1000003)) (.bin .add (.var 1) (.lit (.int 1)))))) (.cons (.if_ (.cmp .lt (.var 1) (.blt1 .len (.var 0))) (.cons (.asg (.name 2) (.ix (.var 0) (.var 1))) .nil) .nil) (.cons (.ret (.blt1 .abs (.var 2))) .nil))
def drawC (q : Nat) : CS := .cons (.asg (.name 4) (.call q (.cons (.var 0) (.cons (.var 1) .nil)))) (.cons (.asg (.name 5) (.lst .nil)) (.cons (.if_ (.cmp .ge (.var 4) (.bin .pow (.lit (.int 10)) (.lit (.int 18)))) (.cons (.asg (.name 4) (.bin .sub (.var 4) (.bin .pow (.lit (.int 10)) (.lit (.int 18))))) (.cons (.for_ (.name 6) .rng1 (.var 2) .noE (.cons (.expr (.mth1 .append (.var 5) (.bin .mod (.var 4) (.var 3)))) (.cons (.asg (.name 4) (.bin .fdiv (.var 4) (.var 3))) .nil))) (.cons (.ret (.var 5)) .nil))) .nil) (.cons (.asg (.name 7) (.bin .add (.bin .mod (.var 4) (.lit (.int 2147483647))) (.lit (.int 1)))) (.cons (.for_ (.name 6) .rng1 (.var 2) .noE (.cons (.asg (.name 7) (.bin .mod (.bin .add (.bin .add (.bin .mul (.var 7) (.lit (.int 48271))) (.bin .mul (.lit (.int 11)) (.var 6))) (.lit (.int 7))) (.lit (.int 2147483647)))) (.cons (.asg (.name 8) (.bin .mod (.bin .add (.bin .add (.bin .mul (.var 7) (.var 7)) (.bin .mul (.lit (.int 69621)) (.var 6))) (.lit (.int 5))) (.lit (.int 2147483629)))) (.cons (.expr (.mth1 .append (.var 5) (.bin .mod (.bin .fdiv (.var 8) (.lit (.int 64))) (.var 3)))) .nil)))) (.cons (.ret (.var 5)) .nil)))))
/-- the script's k-th number, or one made of all -/
def rawF (ns : List Int) (k : Nat) : Int := match ns[k]? with
  | some n => n
  | none => ns.sum * 31 + 1000003 * ((k : Int) + 1)
def absF (i : Int) : Int := if i < 0 then -i else i
theorem absF_nonneg (i : Int) : 0 ≤ absF i := by unfold absF; split <;> omega
section
variable {T : Nat → Option Fn} {G : Nat → Option PV} {N : Nat}
theorem number_run {q d : Nat} (hq : T q = some ⟨2, 3, numC⟩) (ns : List Int) (k : Nat) (st : Store) : run T G N (d + 1) q [.fl (ns.map .int), .int k] st = .ok (.int (absF (rawF ns k))) st := by
  have h5 : k < ns.length → itemAt (ns.map PV.int) (k : Int) = some (.int (rawF ns k)) := fun hk => by
    unfold itemAt ixOf rawF
    rw [List.length_map, if_pos (by omega : (0 : Int) ≤ k), if_pos (by omega : (k : Int) < ns.length)]
    show (ns.map PV.int)[(k : Int).toNat]? = _
    rw [Int.toNat_natCast, List.getElem?_map, List.getElem?_eq_getElem hk]
    rfl
  have h6 : ¬ k < ns.length → rawF ns k = ns.sum * 31 + 1000003 * ((k : Int) + 1) := fun hk => by
    unfold rawF
    rw [List.getElem?_eq_none (by omega : ns.length ≤ k)]
  by_cases hk : k < ns.length
  · simp [run, hq, numC, start, evS, evE, evT, fixR, fixv, Res.of, Vm.truth, blt1, binop, lv, sv, dv, intsOf_map, lenV, cmpV, indexV, indexG, BIG, guardO, hk, h5 hk, absF]
  · simp [run, hq, numC, start, evS, evE, evT, fixR, fixv, Res.of, Vm.truth, blt1, binop, lv, sv, dv, intsOf_map, lenV, cmpV, indexV, indexG, BIG, guardO, hk, h6 hk, absF]
def drawsBig : Nat → Int → Int → List Int
  | 0, _, _ => []
  | n + 1, m, many => m % many :: drawsBig n (m / many) many
def drawsSml : Nat → Int → Int → Int → List Int
  | 0, _, _, _ => []
  | n + 1, s, i, many => (((s * 48271 + 11 * i + 7) % 2147483647 * ((s * 48271 + 11 * i + 7) % 2147483647) + 69621 * i + 5) % 2147483629) / 64 % many :: drawsSml n ((s * 48271 + 11 * i + 7) % 2147483647) (i + 1) many
def drawsF (ns : List Int) (k count : Nat) (many : Int) : List Int :=
  if absF (rawF ns k) ≥ 1000000000000000000 then drawsBig count (absF (rawF ns k) - 1000000000000000000) many else drawsSml count (absF (rawF ns k) % 2147483647 + 1) 0 many
theorem drawsBig_len : ∀ n m many, (drawsBig n m many).length = n
  | 0, _, _ => rfl
  | n + 1, m, many => congrArg (· + 1) (drawsBig_len n _ many)
theorem drawsSml_len : ∀ n s i many, (drawsSml n s i many).length = n
  | 0, _, _, _ => rfl
  | n + 1, s, i, many => congrArg (· + 1) (drawsSml_len n _ _ many)
theorem drawsF_len (ns : List Int) (k n : Nat) (many : Int) : (drawsF ns k n many).length = n := by
  unfold drawsF
  split
  · exact drawsBig_len _ _ _
  · exact drawsSml_len _ _ _ _
theorem drawsBig_in {many : Int} (hm : 0 < many) : ∀ n m, ∀ x ∈ drawsBig n m many, 0 ≤ x ∧ x < many
  | 0, _, x, h => by cases h
  | n + 1, m, x, h => by
    rcases List.mem_cons.mp h with rfl | h
    · exact ⟨Int.emod_nonneg _ (by omega), Int.emod_lt_of_pos _ hm⟩
    · exact drawsBig_in hm n _ x h
theorem drawsSml_in {many : Int} (hm : 0 < many) : ∀ n s i, ∀ x ∈ drawsSml n s i many, 0 ≤ x ∧ x < many
  | 0, _, _, x, h => by cases h
  | n + 1, s, i, x, h => by
    rcases List.mem_cons.mp h with rfl | h
    · exact ⟨Int.emod_nonneg _ (by omega), Int.emod_lt_of_pos _ hm⟩
    · exact drawsSml_in hm n _ _ x h
theorem drawsF_in {many : Int} (hm : 0 < many) (ns : List Int) (k n : Nat) : ∀ x ∈ drawsF ns k n many, 0 ≤ x ∧ x < many := by
  unfold drawsF
  split
  · exact drawsBig_in hm _ _
  · exact drawsSml_in hm _ _ _
theorem set_last (st : Store) (a c : Cell) : (st ++ [a]).set st.length c = st ++ [c] := by
  rw [List.set_append_right _ _ (Nat.le_refl _)]
  simp
theorem get_last (st : Store) (a : Cell) : (st ++ [a])[st.length]? = some a := by
  simp
/-- a turn puts one more into the list found -/
theorem big_loop {c : Nat → List PV → Store → Res PV} (v0 v1 v2 : PV) {many : Int} (hm : 0 < many) (hM : many < 1073741824) (st : Store) : ∀ (n : Nat) (i m : Int) (acc : List PV) (a6 a7 a8 : Option PV), acc.length + n ≤ SZ →
    ∃ ev, forRng (turnM (fun x ev st => evT c G N (.name 6) x ev st) (fun ev st => evS c G N (.cons (.expr (.mth1 .append (.var 5) (.bin .mod (.var 4) (.var 3)))) (.cons (.asg (.name 4) (.bin .fdiv (.var 4) (.var 3))) .nil)) ev st)) n i
      [some v0, some v1, some v2, some (.int many), some (.int m), some (.loc st.length), a6, a7, a8] (st ++ [.lst acc]) = .ok (.nx ev) (st ++ [.lst (acc ++ (drawsBig n m many).map .int)]) ∧ ev[5]? = some (some (.loc st.length)) := by
  intro n
  induction n with
  | zero =>
    intro i m acc a6 a7 a8 _
    simp only [drawsBig, List.map_nil, List.append_nil]
    exact ⟨_, rfl, rfl⟩
  | succ n ih =>
    intro i m acc a6 a7 a8 h
    obtain ⟨ev, h1, h2⟩ := ih (i + 1) (m / many) (acc ++ [.int (m % many)]) (some (.int i)) a7 a8 (by simp; omega)
    have hl : acc.length < SZ := by omega
    refine ⟨ev, ?_, h2⟩
    have e : (acc ++ [PV.int (m % many)]) ++ (drawsBig n (m / many) many).map PV.int = acc ++ (drawsBig (n + 1) m many).map PV.int := by simp [drawsBig]
    rw [← e, ← h1]
    simp [forRng, turnM, evT, evS, evE, Res.of, binop, guardO, guardR, mOk, lm, mth1, mthR, fixR, fixv, hm, hM, hl, set_last]
theorem sml_loop {c : Nat → List PV → Store → Res PV} (v0 v1 v2 v4 : PV) {many : Int} (hm : 0 < many) (st : Store) : ∀ (n : Nat) (i s : Int) (acc : List PV) (a6 a8 : Option PV), acc.length + n ≤ SZ →
    ∃ ev, forRng (turnM (fun x ev st => evT c G N (.name 6) x ev st) (fun ev st => evS c G N (.cons (.asg (.name 7) (.bin .mod (.bin .add (.bin .add (.bin .mul (.var 7) (.lit (.int 48271))) (.bin .mul (.lit (.int 11)) (.var 6))) (.lit (.int 7))) (.lit (.int 2147483647)))) (.cons (.asg (.name 8) (.bin .mod (.bin .add (.bin .add (.bin .mul (.var 7) (.var 7)) (.bin .mul (.lit (.int 69621)) (.var 6))) (.lit (.int 5))) (.lit (.int 2147483629)))) (.cons (.expr (.mth1 .append (.var 5) (.bin .mod (.bin .fdiv (.var 8) (.lit (.int 64))) (.var 3)))) .nil))) ev st)) n i
      [some v0, some v1, some v2, some (.int many), some v4, some (.loc st.length), a6, some (.int s), a8] (st ++ [.lst acc]) = .ok (.nx ev) (st ++ [.lst (acc ++ (drawsSml n s i many).map .int)]) ∧ ev[5]? = some (some (.loc st.length)) := by
  intro n
  induction n with
  | zero =>
    intro i s acc a6 a8 _
    simp only [drawsSml, List.map_nil, List.append_nil]
    exact ⟨_, rfl, rfl⟩
  | succ n ih =>
    intro i s acc a6 a8 h
    obtain ⟨ev, h1, h2⟩ := ih (i + 1) ((s * 48271 + 11 * i + 7) % 2147483647) (acc ++ [.int ((((s * 48271 + 11 * i + 7) % 2147483647 * ((s * 48271 + 11 * i + 7) % 2147483647) + 69621 * i + 5) % 2147483629) / 64 % many)]) (some (.int i)) (some (.int (((s * 48271 + 11 * i + 7) % 2147483647 * ((s * 48271 + 11 * i + 7) % 2147483647) + 69621 * i + 5) % 2147483629))) (by simp; omega)
    have hl : acc.length < SZ := by omega
    have hs : ((s * 48271 + 11 * i + 7) % 2147483647).natAbs < 18446744073709551616 := by omega
    refine ⟨ev, ?_, h2⟩
    have e : (acc ++ [.int ((((s * 48271 + 11 * i + 7) % 2147483647 * ((s * 48271 + 11 * i + 7) % 2147483647) + 69621 * i + 5) % 2147483629) / 64 % many)]) ++ (drawsSml n ((s * 48271 + 11 * i + 7) % 2147483647) (i + 1) many).map PV.int = acc ++ (drawsSml (n + 1) s i many).map PV.int := by simp [drawsSml]
    rw [← e, ← h1]
    simp [forRng, turnM, evT, evS, evE, Res.of, binop, guardO, guardR, mOk, lm, mth1, mthR, fixR, fixv, hm, hl, set_last, BIG, hs]
theorem pow_run (st : Store) : binop .pow (.int 10) (.int 18) st = some (.int 1000000000000000000) := by
  have e : (10 : Int) ^ (18 : Int).toNat = 1000000000000000000 := by decide +kernel
  show guardO _ (PV.int ((10 : Int) ^ (18 : Int).toNat)) = _
  rw [e]
  rfl
theorem rng_run {n : Nat} (hn : n ≤ SZ) : rng1Of (.int n) = some (.rng 0 n) := by
  have h1 : -R62 ≤ (n : Int) ∧ (n : Int) < R62 := by
    have e : R62 = 4611686018427387904 := rfl
    have e2 : SZ = 1000000 := rfl
    omega
  unfold rng1Of
  dsimp only
  rw [if_pos h1, Int.toNat_natCast]
section
variable {c : Nat → List PV → Store → Res PV} {ev ev1 : Env} {st st1 : Store} {s ss a b : CS} {e : CE} {v : PV}
theorem cons_nx (h : evS c G N s ev st = .ok (.nx ev1) st1) : evS c G N (.cons s ss) ev st = evS c G N ss ev1 st1 := by
  show (evS c G N s ev st).bind _ = _
  rw [h]
  rfl
theorem cons_rt (h : evS c G N s ev st = .ok (.rt v) st1) : evS c G N (.cons s ss) ev st = .ok (.rt v) st1 := by
  show (evS c G N s ev st).bind _ = _
  rw [h]
  rfl
theorem asg_nm {i : Nat} (h : evE c G N e ev st = .ok v st1) : evS c G N (.asg (.name i) e) ev st = .ok (.nx (ev.set i (some (fixv v st1).1))) (fixv v st1).2 := by
  show (fixR (evE c G N e ev st)).bind _ = _
  rw [h]
  rfl
theorem if_t (h : evE c G N e ev st = .ok (.bl true) st1) : evS c G N (.if_ e a b) ev st = evS c G N a ev st1 := by
  show (truth (evE c G N e ev st)).bind _ = _
  rw [h]
  rfl
theorem if_f (h : evE c G N e ev st = .ok (.bl false) st1) : evS c G N (.if_ e a b) ev st = evS c G N b ev st1 := by
  show (truth (evE c G N e ev st)).bind _ = _
  rw [h]
  rfl
theorem ret_v (h : evE c G N e ev st = .ok v st1) : evS c G N (.ret e) ev st = .ok (.rt (fixv v st1).1) (fixv v st1).2 := by
  show (fixR (evE c G N e ev st)).bind _ = _
  rw [h]
  rfl
theorem var_v {i : Nat} (h : ev[i]? = some (some v)) : evE c G N (.var i) ev st = .ok v st := by
  show (match ev[i]? with
    | some (some v) => Res.ok v st
    | _ => .bad) = _
  rw [h]
theorem of_bind {α β : Type} {r : Res α} {x : α} {f : α → Store → Res β} (h : r = .ok x st) : r.bind f = f x st := by
  rw [h]
  rfl
theorem of_some {α : Type} {o : Option α} {x : α} (h : o = some x) : Res.of o st = .ok x st := by
  rw [h]
  rfl
theorem for_1 {n : Nat} {body : CS} {t : CT} {r : Res Flow} (h : evE c G N e ev st = .ok (.int n) st) (hn : n ≤ SZ) (hr : forRng (turnM (fun x ev st => evT c G N t x ev st) (fun ev st => evS c G N body ev st)) n 0 ev st = r) : evS c G N (.for_ t .rng1 e .noE body) ev st = r := by
  have e1 : (evE c G N e ev st).bind (fun v st1 => Res.of (rng1Of v) st1) = .ok (.rng 0 n) st := (of_bind h).trans (of_some (rng_run hn))
  unfold evS forM iterM
  dsimp only
  rw [of_bind e1]
  exact hr
theorem run_rt {d f : Nat} {fn : Fn} {vs : List PV} (hf : T f = some fn) (hl : vs.length = fn.np) (h : evS (run T G N d) G N fn.body (start fn.ns vs) st = .ok (.rt v) st1) : run T G N (d + 1) f vs st = .ok v st1 := by
  rw [run, hf]
  dsimp only
  rw [if_pos hl, h]
  rfl
end
theorem draws_run {q q2 d : Nat} (hq : T q = some ⟨2, 3, numC⟩) (hq2 : T q2 = some ⟨4, 9, drawC q⟩) (ns : List Int) (k n : Nat) (many : Int) (hn : n ≤ SZ) (hm : 0 < many) (hM : many < 1073741824) (st : Store) :
    run T G N (d + 2) q2 [.fl (ns.map .int), .int k, .int n, .int many] st = .ok (.loc st.length) (st ++ [.lst ((drawsF ns k n many).map .int)]) := by
  have num := number_run (T := T) (G := G) (N := N) (d := d) hq ns k st
  have hcall : ∀ a4 a5 a6 a7 a8, evE (run T G N (d + 1)) G N (.call q (.cons (.var 0) (.cons (.var 1) .nil))) [some (.fl (ns.map .int)), some (.int k), some (.int n), some (.int many), a4, a5, a6, a7, a8] st = .ok (.int (absF (rawF ns k))) st := fun _ _ _ _ _ => num
  have hge : ∀ a5 a6 a7 a8 st, evE (run T G N (d + 1)) G N (.cmp .ge (.var 4) (.bin .pow (.lit (.int 10)) (.lit (.int 18)))) [some (.fl (ns.map .int)), some (.int k), some (.int n), some (.int many), some (.int (absF (rawF ns k))), a5, a6, a7, a8] st = .ok (.bl (decide (1000000000000000000 ≤ absF (rawF ns k)))) st := by
    intro _ _ _ _ st
    simp only [evE, Res.bind_ok, pow_run, List.getElem?_cons_zero, List.getElem?_cons_succ, Res.of, cmpV, Option.map_some]
  have hsub : ∀ a5 a6 a7 a8 st, evE (run T G N (d + 1)) G N (.bin .sub (.var 4) (.bin .pow (.lit (.int 10)) (.lit (.int 18)))) [some (.fl (ns.map .int)), some (.int k), some (.int n), some (.int many), some (.int (absF (rawF ns k))), a5, a6, a7, a8] st = .ok (.int (absF (rawF ns k) - 1000000000000000000)) st := by
    intro _ _ _ _ st
    show (Res.of (binop .pow (.int 10) (.int 18) st) st).bind (fun y st2 => Res.of (binop .sub (.int (absF (rawF ns k))) y st2) st2) = _
    rw [pow_run]
    rfl
  refine run_rt hq2 rfl ?_
  show evS _ G N (drawC q) [some (.fl (ns.map .int)), some (.int k), some (.int n), some (.int many), none, none, none, none, none] st = _
  unfold drawC
  rw [cons_nx (asg_nm (hcall _ _ _ _ _))]
  rw [cons_nx (asg_nm (v := .tl []) (st1 := st) rfl)]
  by_cases hb : 1000000000000000000 ≤ absF (rawF ns k)
  · obtain ⟨ev, h1, h2⟩ := big_loop (G := G) (N := N) (c := run T G N (d + 1)) (.fl (ns.map .int)) (.int k) (.int n) hm hM st n 0 (absF (rawF ns k) - 1000000000000000000) [] none none none (by simpa using hn)
    have e : drawsF ns k n many = drawsBig n (absF (rawF ns k) - 1000000000000000000) many := if_pos hb
    rw [e]
    refine cons_rt ((if_t ((hge _ _ _ _ _).trans (by rw [decide_eq_true hb]))).trans ?_)
    rw [cons_nx (asg_nm (hsub _ _ _ _ _))]
    refine (cons_nx (for_1 (n := n) (var_v rfl) hn h1)).trans ?_
    exact cons_rt (ret_v (var_v h2))
  · obtain ⟨ev, h1, h2⟩ := sml_loop (G := G) (N := N) (c := run T G N (d + 1)) (.fl (ns.map .int)) (.int k) (.int n) (.int (absF (rawF ns k))) hm st n 0 (absF (rawF ns k) % 2147483647 + 1) [] none none (by simpa using hn)
    have e : drawsF ns k n many = drawsSml n (absF (rawF ns k) % 2147483647 + 1) 0 many := if_neg hb
    rw [e]
    refine (cons_nx (ev1 := [some (.fl (ns.map .int)), some (.int k), some (.int n), some (.int many), some (.int (absF (rawF ns k))), some (.loc st.length), none, none, none]) (st1 := st ++ [.lst []]) ((if_f ((hge _ _ _ _ _).trans (by rw [decide_eq_false hb]; rfl))).trans rfl)).trans ?_
    have hst : ∀ st' : Store, evE (run T G N (d + 1)) G N (.bin .add (.bin .mod (.var 4) (.lit (.int 2147483647))) (.lit (.int 1))) [some (.fl (ns.map .int)), some (.int k), some (.int n), some (.int many), some (.int (absF (rawF ns k))), some (.loc st.length), none, none, none] st' = .ok (.int (absF (rawF ns k) % 2147483647 + 1)) st' := fun st' => by
      simp [evE, binop, guardO, Res.of]
    refine (cons_nx (asg_nm (hst _))).trans ?_
    refine (cons_nx (for_1 (n := n) (var_v rfl) hn h1)).trans ?_
    exact cons_rt (ret_v (var_v h2))
end
end Vm

set_option maxHeartbeats 8000000
namespace K40
open Vm PySem L2
def topS (i : Nat) : Stmt := PySem.Challenge.pw_wordsbeside_k40_sentences_that_part_fini.main.body.getD i (.Pass ⟨0, 0, 0, 0⟩)
/-- below -/
def r0 : Row := { name := "below", st := topS 2, ps := ["first", "second"], N := ["first", "second"], c := { np := 2, ns := 2, body := (.cons (.ret (.tup (.cons (.lit (.str [116, 105, 101])) (.cons (.glob 0) (.cons (.tup (.cons (.var 0) (.cons (.var 1) .nil))) .nil))))) .nil) } }
/-- between -/
def r1 : Row := { name := "between", st := topS 3, ps := ["first", "middle", "second"], N := ["first", "middle", "second", "up"], c := { np := 3, ns := 4, body := (.cons (.asg (.name 3) (.tup (.cons (.lit (.str [97, 110, 100])) (.cons (.call 0 (.cons (.var 0) (.cons (.var 1) .nil))) (.cons (.call 0 (.cons (.var 1) (.cons (.var 2) .nil))) .nil))))) (.cons (.ret (.tup (.cons (.lit (.str [111, 114])) (.cons (.var 3) (.cons (.tup (.cons (.lit (.str [97, 110, 100])) (.cons (.call 0 (.cons (.var 2) (.cons (.var 1) .nil))) (.cons (.call 0 (.cons (.var 1) (.cons (.var 0) .nil))) .nil)))) .nil))))) .nil)) } }
/-- one_at -/
def r2 : Row := { name := "one_at", st := topS 4, ps := ["depth", "first", "second"], N := ["depth", "first", "second", "word"], c := { np := 3, ns := 4, body := (.cons (.if_ (.cmp .eq (.var 0) (.lit (.int 0))) (.cons (.ret (.tup (.cons (.lit (.str [115, 97, 109, 101])) (.cons (.var 1) (.cons (.var 2) .nil))))) .nil) .nil) (.cons (.asg (.name 3) (.bin .add (.lit (.str [122])) (.blt1 .str (.var 0)))) (.cons (.ret (.tup (.cons (.lit (.str [110, 111, 116])) (.cons (.tup (.cons (.lit (.str [101, 110, 100, 108, 101, 115, 115])) (.cons (.var 3) (.cons (.tup (.cons (.lit (.str [97, 110, 100])) (.cons (.call 3 (.cons (.bin .sub (.var 0) (.lit (.int 1))) (.cons (.var 3) .nil))) (.cons (.call 1 (.cons (.var 1) (.cons (.var 3) (.cons (.var 2) .nil)))) .nil)))) .nil)))) .nil)))) .nil))) } }
/-- first_at -/
def r3 : Row := { name := "first_at", st := topS 5, ps := ["depth", "word"], N := ["depth", "word", "lower"], c := { np := 2, ns := 3, body := (.cons (.if_ (.cmp .eq (.var 0) (.lit (.int 0))) (.cons (.ret (.tup (.cons (.lit (.str [115, 97, 109, 101])) (.cons (.var 1) (.cons (.var 1) .nil))))) .nil) .nil) (.cons (.asg (.name 2) (.bin .add (.lit (.str [117])) (.blt1 .str (.var 0)))) (.cons (.ret (.tup (.cons (.lit (.str [110, 111, 116])) (.cons (.tup (.cons (.lit (.str [115, 111, 109, 101])) (.cons (.var 2) (.cons (.tup (.cons (.lit (.str [97, 110, 100])) (.cons (.call 0 (.cons (.var 2) (.cons (.var 1) .nil))) (.cons (.call 2 (.cons (.var 0) (.cons (.var 2) (.cons (.var 1) .nil)))) .nil)))) .nil)))) .nil)))) .nil))) } }
/-- last_at -/
def r4 : Row := { name := "last_at", st := topS 6, ps := ["depth", "word"], N := ["depth", "word", "upper", "above"], c := { np := 2, ns := 4, body := (.cons (.asg (.name 2) (.bin .add (.lit (.str [118])) (.blt1 .str (.var 0)))) (.cons (.asg (.name 3) (.tup (.cons (.lit (.str [111, 114])) (.cons (.tup (.cons (.lit (.str [115, 97, 109, 101])) (.cons (.var 1) (.cons (.var 2) .nil)))) (.cons (.call 0 (.cons (.var 1) (.cons (.var 2) .nil))) .nil))))) (.cons (.ret (.tup (.cons (.lit (.str [110, 111, 116])) (.cons (.tup (.cons (.lit (.str [101, 110, 100, 108, 101, 115, 115])) (.cons (.var 2) (.cons (.tup (.cons (.lit (.str [97, 110, 100])) (.cons (.call 3 (.cons (.var 0) (.cons (.var 2) .nil))) (.cons (.var 3) .nil)))) .nil)))) .nil)))) .nil))) } }
/-- full_at -/
def r5 : Row := { name := "full_at", st := topS 7, ps := ["depth", "word"], N := ["depth", "word", "inner"], c := { np := 2, ns := 3, body := (.cons (.if_ (.cmp .eq (.var 0) (.lit (.int 0))) (.cons (.ret (.tup (.cons (.lit (.str [115, 97, 109, 101])) (.cons (.var 1) (.cons (.var 1) .nil))))) .nil) .nil) (.cons (.asg (.name 2) (.bin .add (.lit (.str [119])) (.blt1 .str (.var 0)))) (.cons (.ret (.tup (.cons (.lit (.str [101, 110, 100, 108, 101, 115, 115])) (.cons (.var 2) (.cons (.tup (.cons (.lit (.str [97, 110, 100])) (.cons (.call 3 (.cons (.bin .sub (.var 0) (.lit (.int 1))) (.cons (.var 2) .nil))) (.cons (.call 2 (.cons (.var 0) (.cons (.var 1) (.cons (.var 2) .nil)))) .nil)))) .nil))))) .nil))) } }
/-- counted_at -/
def r6 : Row := { name := "counted_at", st := topS 8, ps := ["depth", "word"], N := ["depth", "word"], c := { np := 2, ns := 2, body := (.cons (.ret (.tup (.cons (.lit (.str [97, 110, 100])) (.cons (.tup (.cons (.lit (.str [97, 110, 100])) (.cons (.call 3 (.cons (.var 0) (.cons (.var 1) .nil))) (.cons (.call 4 (.cons (.var 0) (.cons (.var 1) .nil))) .nil)))) (.cons (.call 5 (.cons (.var 0) (.cons (.var 1) .nil))) .nil))))) .nil) } }
/-- at_least -/
def r7 : Row := { name := "at_least", st := topS 9, ps := ["depth", "count"], N := ["depth", "count", "found", "number", "word", "lower"], c := { np := 2, ns := 6, body := (.cons (.asg (.name 2) (.call 6 (.cons (.var 0) (.cons (.lit (.str [121, 49])) .nil)))) (.cons (.for_ (.name 3) .rng2 (.lit (.int 2)) (.bin .add (.var 1) (.lit (.int 1))) (.cons (.asg (.name 4) (.bin .add (.lit (.str [121])) (.blt1 .str (.var 3)))) (.cons (.asg (.name 5) (.bin .add (.lit (.str [121])) (.blt1 .str (.bin .sub (.var 3) (.lit (.int 1)))))) (.cons (.asg (.name 2) (.tup (.cons (.lit (.str [97, 110, 100])) (.cons (.call 6 (.cons (.var 0) (.cons (.var 4) .nil))) (.cons (.tup (.cons (.lit (.str [115, 111, 109, 101])) (.cons (.var 5) (.cons (.tup (.cons (.lit (.str [97, 110, 100])) (.cons (.call 0 (.cons (.var 4) (.cons (.var 5) .nil))) (.cons (.var 2) .nil)))) .nil)))) .nil))))) .nil)))) (.cons (.ret (.tup (.cons (.lit (.str [115, 111, 109, 101])) (.cons (.bin .add (.lit (.str [121])) (.blt1 .str (.var 1))) (.cons (.var 2) .nil))))) .nil))) } }
/-- parting_sentence -/
def r8 : Row := { name := "parting_sentence", st := topS 10, ps := ["first", "second"], N := ["first", "second", "top", "one", "other", "depth"], c := { np := 2, ns := 6, body := (.cons (.asg (.name 2) (.blt2 .max (.blt1 .len (.var 0)) (.blt1 .len (.var 1)))) (.cons (.asg (.name 3) (.bin .add (.blt1 .list (.var 0)) (.bin .mul (.lst (.cons (.lit (.int 0)) .nil)) (.bin .sub (.var 2) (.blt1 .len (.var 0)))))) (.cons (.asg (.name 4) (.bin .add (.blt1 .list (.var 1)) (.bin .mul (.lst (.cons (.lit (.int 0)) .nil)) (.bin .sub (.var 2) (.blt1 .len (.var 1)))))) (.cons (.for_ (.name 5) .rng1 (.var 2) .noE (.cons (.if_ (.cmp .gt (.ix (.var 3) (.var 5)) (.ix (.var 4) (.var 5))) (.cons (.ret (.call 7 (.cons (.var 5) (.cons (.ix (.var 3) (.var 5)) .nil)))) .nil) .nil) (.cons (.if_ (.cmp .lt (.ix (.var 3) (.var 5)) (.ix (.var 4) (.var 5))) (.cons (.ret (.tup (.cons (.lit (.str [110, 111, 116])) (.cons (.call 7 (.cons (.var 5) (.cons (.ix (.var 4) (.var 5)) .nil))) .nil)))) .nil) .nil) .nil))) (.cons (.ret (.lit .non)) .nil))))) } }
/-- _law_is_int -/
def r9 : Row := { name := "_law_is_int", st := topS 12, ps := ["x"], N := ["x"], c := { np := 1, ns := 1, body := (.cons (.ret (.and (.isi (.var 0) .int) (.not (.isi (.var 0) .bool)))) .nil) } }
/-- _law_same -/
def r10 : Row := { name := "_law_same", st := topS 13, ps := ["tells", "due"], N := ["tells", "due", "k"], c := { np := 2, ns := 3, body := (.cons (.if_ (.or (.isi (.var 1) .bool) (.isi (.var 0) .bool)) (.cons (.ret (.and (.isi (.var 1) .bool) (.and (.isi (.var 0) .bool) (.cmp .eq (.var 0) (.var 1))))) .nil) .nil) (.cons (.if_ (.or (.cmp .is (.var 1) (.lit .non)) (.isi (.var 1) .int)) (.cons (.ret (.and (.cmp .eq (.var 0) (.var 1)) (.or (.cmp .is (.var 1) (.lit .non)) (.isi (.var 0) .int)))) .nil) .nil) (.cons (.if_ (.isi (.var 1) .str) (.cons (.ret (.and (.isi (.var 0) .str) (.cmp .eq (.var 0) (.var 1)))) .nil) .nil) (.cons (.if_ (.or (.cmp .ne (.isi (.var 1) .list) (.isi (.var 0) .list)) (.cmp .ne (.isi (.var 1) .tuple) (.isi (.var 0) .tuple))) (.cons (.ret (.lit (.bl false))) .nil) .nil) (.cons (.if_ (.cmp .ne (.blt1 .len (.var 0)) (.blt1 .len (.var 1))) (.cons (.ret (.lit (.bl false))) .nil) .nil) (.cons (.for_ (.name 2) .rng1 (.blt1 .len (.var 1)) .noE (.cons (.if_ (.not (.call 10 (.cons (.ix (.var 0) (.var 2)) (.cons (.ix (.var 1) (.var 2)) .nil)))) (.cons (.ret (.lit (.bl false))) .nil) .nil) .nil)) (.cons (.ret (.lit (.bl true))) .nil))))))) } }
/-- _law_number -/
def r11 : Row := { name := "_law_number", st := topS 14, ps := ["script", "k"], N := ["script", "k", "number"], c := { np := 2, ns := 3, body := (.cons (.asg (.name 2) (.bin .add (.bin .mul (.blt1 .sum (.var 0)) (.lit (.int 31))) (.bin .mul (.lit (.int 1000003)) (.bin .add (.var 1) (.lit (.int 1)))))) (.cons (.if_ (.cmp .lt (.var 1) (.blt1 .len (.var 0))) (.cons (.asg (.name 2) (.ix (.var 0) (.var 1))) .nil) .nil) (.cons (.ret (.blt1 .abs (.var 2))) .nil))) } }
/-- _law_draws -/
def r12 : Row := { name := "_law_draws", st := topS 15, ps := ["script", "k", "count", "many"], N := ["script", "k", "count", "many", "number", "found", "at", "state", "another"], c := { np := 4, ns := 9, body := (.cons (.asg (.name 4) (.call 11 (.cons (.var 0) (.cons (.var 1) .nil)))) (.cons (.asg (.name 5) (.lst .nil)) (.cons (.if_ (.cmp .ge (.var 4) (.bin .pow (.lit (.int 10)) (.lit (.int 18)))) (.cons (.asg (.name 4) (.bin .sub (.var 4) (.bin .pow (.lit (.int 10)) (.lit (.int 18))))) (.cons (.for_ (.name 6) .rng1 (.var 2) .noE (.cons (.expr (.mth1 .append (.var 5) (.bin .mod (.var 4) (.var 3)))) (.cons (.asg (.name 4) (.bin .fdiv (.var 4) (.var 3))) .nil))) (.cons (.ret (.var 5)) .nil))) .nil) (.cons (.asg (.name 7) (.bin .add (.bin .mod (.var 4) (.lit (.int 2147483647))) (.lit (.int 1)))) (.cons (.for_ (.name 6) .rng1 (.var 2) .noE (.cons (.asg (.name 7) (.bin .mod (.bin .add (.bin .add (.bin .mul (.var 7) (.lit (.int 48271))) (.bin .mul (.lit (.int 11)) (.var 6))) (.lit (.int 7))) (.lit (.int 2147483647)))) (.cons (.asg (.name 8) (.bin .mod (.bin .add (.bin .add (.bin .mul (.var 7) (.var 7)) (.bin .mul (.lit (.int 69621)) (.var 6))) (.lit (.int 5))) (.lit (.int 2147483629)))) (.cons (.expr (.mth1 .append (.var 5) (.bin .mod (.bin .fdiv (.var 8) (.lit (.int 64))) (.var 3)))) .nil)))) (.cons (.ret (.var 5)) .nil)))))) } }
/-- _law_words_of -/
def r13 : Row := { name := "_law_words_of", st := topS 16, ps := ["formula", "names"], N := ["formula", "names", "head", "one", "part"], c := { np := 2, ns := 5, body := (.cons (.asg (.name 2) (.ix (.var 0) (.lit (.int 0)))) (.cons (.if_ (.cmp .eq (.var 2) (.lit (.str [116, 105, 101]))) (.cons (.ret (.and (.cmp .eq (.blt1 .len (.var 0)) (.lit (.int 3))) (.and (.cmp .eq (.ix (.var 0) (.lit (.int 1))) (.lit (.str [108, 101, 115, 115]))) (.and (.cmp .eq (.blt1 .len (.ix (.var 0) (.lit (.int 2)))) (.lit (.int 2))) (.cmp .eq (.blt1 .len (.lc [3] .seq (.ix (.var 0) (.lit (.int 2))) .noE true (.cmp .notin (.var 3) (.var 1)) (.var 3))) (.lit (.int 0))))))) .nil) .nil) (.cons (.if_ (.cmp .eq (.var 2) (.lit (.str [115, 97, 109, 101]))) (.cons (.ret (.and (.cmp .eq (.blt1 .len (.var 0)) (.lit (.int 3))) (.and (.cmp .isin (.ix (.var 0) (.lit (.int 1))) (.var 1)) (.cmp .isin (.ix (.var 0) (.lit (.int 2))) (.var 1))))) .nil) .nil) (.cons (.if_ (.cmp .isin (.var 2) (.tup (.cons (.lit (.str [110, 111, 116])) (.cons (.lit (.str [97, 110, 100])) (.cons (.lit (.str [111, 114])) .nil))))) (.cons (.ret (.and (.cmp .eq (.blt1 .len (.var 0)) (.ite (.cmp .eq (.var 2) (.lit (.str [110, 111, 116]))) (.lit (.int 2)) (.lit (.int 3)))) (.cmp .notin (.lit (.bl false)) (.lc [4] .seq (.sl (.var 0) (.lit (.int 1)) .noE) .noE false .noE (.call 13 (.cons (.var 4) (.cons (.var 1) .nil))))))) .nil) .nil) (.cons (.if_ (.cmp .isin (.var 2) (.tup (.cons (.lit (.str [115, 111, 109, 101])) (.cons (.lit (.str [97, 108, 108])) (.cons (.lit (.str [101, 110, 100, 108, 101, 115, 115])) .nil))))) (.cons (.ret (.and (.cmp .eq (.blt1 .len (.var 0)) (.lit (.int 3))) (.and (.isi (.ix (.var 0) (.lit (.int 1))) .str) (.call 13 (.cons (.ix (.var 0) (.lit (.int 2))) (.cons (.bin .add (.var 1) (.lst (.cons (.ix (.var 0) (.lit (.int 1))) .nil))) .nil)))))) .nil) .nil) (.cons (.ret (.and (.cmp .eq (.var 2) (.lit (.str [114, 101, 115, 116]))) (.and (.cmp .eq (.blt1 .len (.var 0)) (.lit (.int 5))) (.and (.call 9 (.cons (.ix (.var 0) (.lit (.int 2))) .nil)) (.and (.cmp .gt (.ix (.var 0) (.lit (.int 2))) (.lit (.int 1))) (.and (.isi (.ix (.var 0) (.lit (.int 3))) .str) (.call 13 (.cons (.ix (.var 0) (.lit (.int 4))) (.cons (.bin .add (.var 1) (.lst (.cons (.ix (.var 0) (.lit (.int 3))) .nil))) .nil))))))))) .nil)))))) } }
/-- _law_is_so -/
def r14 : Row := { name := "_law_is_so", st := topS 17, ps := ["count", "formula", "known"], N := ["count", "formula", "known", "head", "word", "total", "number", "inner"], c := { np := 3, ns := 8, body := (.cons (.asg (.name 3) (.ix (.var 1) (.lit (.int 0)))) (.cons (.if_ (.cmp .eq (.var 3) (.lit (.str [116, 105, 101]))) (.cons (.ret (.cmp .lt (.ix (.var 2) (.ix (.ix (.var 1) (.lit (.int 2))) (.lit (.int 0)))) (.ix (.var 2) (.ix (.ix (.var 1) (.lit (.int 2))) (.lit (.int 1)))))) .nil) .nil) (.cons (.if_ (.cmp .eq (.var 3) (.lit (.str [115, 97, 109, 101]))) (.cons (.ret (.cmp .eq (.ix (.var 2) (.ix (.var 1) (.lit (.int 1)))) (.ix (.var 2) (.ix (.var 1) (.lit (.int 2)))))) .nil) .nil) (.cons (.if_ (.cmp .eq (.var 3) (.lit (.str [110, 111, 116]))) (.cons (.ret (.not (.call 14 (.cons (.var 0) (.cons (.ix (.var 1) (.lit (.int 1))) (.cons (.var 2) .nil)))))) .nil) .nil) (.cons (.if_ (.cmp .eq (.var 3) (.lit (.str [97, 110, 100]))) (.cons (.ret (.and (.call 14 (.cons (.var 0) (.cons (.ix (.var 1) (.lit (.int 1))) (.cons (.var 2) .nil)))) (.call 14 (.cons (.var 0) (.cons (.ix (.var 1) (.lit (.int 2))) (.cons (.var 2) .nil)))))) .nil) .nil) (.cons (.if_ (.cmp .eq (.var 3) (.lit (.str [111, 114]))) (.cons (.ret (.or (.call 14 (.cons (.var 0) (.cons (.ix (.var 1) (.lit (.int 1))) (.cons (.var 2) .nil)))) (.call 14 (.cons (.var 0) (.cons (.ix (.var 1) (.lit (.int 2))) (.cons (.var 2) .nil)))))) .nil) .nil) (.cons (.if_ (.cmp .eq (.var 3) (.lit (.str [101, 110, 100, 108, 101, 115, 115]))) (.cons (.ret (.lit (.bl false))) .nil) .nil) (.cons (.par 4 5 (.ix (.var 1) (.neg (.lit (.int 2)))) (.lit (.int 0))) (.cons (.for_ (.name 6) .rng1 (.var 0) .noE (.cons (.asg (.name 7) (.dict1 (.ditems (.var 2)))) (.cons (.asg (.sub (.var 7) (.var 4)) (.var 6)) (.cons (.if_ (.call 14 (.cons (.var 0) (.cons (.ix (.var 1) (.neg (.lit (.int 1)))) (.cons (.var 7) .nil)))) (.cons (.asg (.name 5) (.bin .add (.var 5) (.lit (.int 1)))) (.cons (.if_ (.cmp .eq (.var 3) (.lit (.str [115, 111, 109, 101]))) (.cons (.ret (.lit (.bl true))) .nil) .nil) .nil)) (.cons (.if_ (.cmp .eq (.var 3) (.lit (.str [97, 108, 108]))) (.cons (.ret (.lit (.bl false))) .nil) .nil) .nil)) .nil)))) (.cons (.ret (.ite (.cmp .eq (.var 3) (.lit (.str [114, 101, 115, 116]))) (.cmp .eq (.bin .mod (.var 5) (.ix (.var 1) (.lit (.int 2)))) (.ix (.var 1) (.lit (.int 1)))) (.cmp .eq (.var 3) (.lit (.str [97, 108, 108]))))) .nil)))))))))) } }
/-- law -/
def r15 : Row := { name := "law", st := topS 18, ps := ["script"], N := ["script", "shape", "counts", "forms", "handed", "told", "count", "form"], c := { np := 1, ns := 8, body := (.cons (.asg (.name 1) (.call 12 (.cons (.var 0) (.cons (.lit (.int 0)) (.cons (.lit (.int 2)) (.cons (.lit (.int 5040)) .nil)))))) (.cons (.asg (.name 2) (.lst (.cons (.bin .mod (.ix (.var 1) (.lit (.int 0))) (.lit (.int 7))) (.cons (.bin .mod (.ix (.var 1) (.lit (.int 1))) (.lit (.int 7))) .nil)))) (.cons (.if_ (.cmp .eq (.bin .mod (.bin .fdiv (.ix (.var 1) (.lit (.int 0))) (.lit (.int 7))) (.lit (.int 3))) (.lit (.int 0))) (.cons (.asg (.sub (.var 2) (.lit (.int 1))) (.blt2 .max (.lit (.int 0)) (.bin .sub (.ix (.var 2) (.lit (.int 0))) (.lit (.int 1))))) .nil) .nil) (.cons (.if_ (.cmp .eq (.bin .mod (.bin .fdiv (.ix (.var 1) (.lit (.int 0))) (.lit (.int 7))) (.lit (.int 3))) (.lit (.int 1))) (.cons (.asg (.sub (.var 2) (.lit (.int 0))) (.blt2 .max (.lit (.int 0)) (.bin .sub (.ix (.var 2) (.lit (.int 1))) (.lit (.int 1))))) .nil) .nil) (.cons (.asg (.name 3) (.lc [6] .seq (.var 2) .noE false .noE (.ite (.cmp .gt (.var 6) (.lit (.int 0))) (.lst (.cons (.var 6) .nil)) (.lst .nil)))) (.cons (.asg (.name 4) (.lc [7] .seq (.var 3) .noE false .noE (.blt1 .list (.var 7)))) (.cons (.asg (.name 5) (.call 8 (.cons (.ix (.var 4) (.lit (.int 0))) (.cons (.ix (.var 4) (.lit (.int 1))) .nil)))) (.cons (.if_ (.cmp .eq (.ix (.var 2) (.lit (.int 0))) (.ix (.var 2) (.lit (.int 1)))) (.cons (.ret (.and (.cmp .is (.var 5) (.lit .non)) (.cmp .eq (.var 4) (.var 3)))) .nil) .nil) (.cons (.if_ (.or (.not (.isi (.var 5) .tuple)) (.or (.cmp .ne (.var 4) (.var 3)) (.not (.call 13 (.cons (.var 5) (.cons (.lst .nil) .nil)))))) (.cons (.ret (.lit (.bl false))) .nil) .nil) (.cons (.ret (.call 10 (.cons (.lc [6] .seq (.var 2) .noE false .noE (.call 14 (.cons (.var 6) (.cons (.var 5) (.cons .dnew .nil))))) (.cons (.lst (.cons (.lit (.bl true)) (.cons (.lit (.bl false)) .nil))) .nil)))) .nil)))))))))) } }
def rows : List Row := [r0, r1, r2, r3, r4, r5, r6, r7, r8, r9, r10, r11, r12, r13, r14, r15]
def gl : Nat → Option PV
  | 0 => some (.str [108, 101, 115, 115])
  | _ => none
def gname : Nat → Str
  | 0 => "LESS"
  | _ => ""
def free : List Str := ["abs", "bool", "dict", "int", "isinstance", "len", "list", "max", "range", "str", "sum", "tuple"]
abbrev Γ : Tabs := tabs rows gl gname free
end K40
namespace K40
open Vm
def NN : Nat := 1000
end K40

set_option maxHeartbeats 8000000
namespace K40
open Vm
def dropS : Nat → CS → CS
  | 0, s => s
  | n + 1, .cons _ ss => dropS n ss
  | _, s => s
def restS : CS := dropS 4 r15.c.body
def isRt : Res Flow → Bool
  | .ok (.rt (.bl true)) _ => true
  | _ => false
def chk (i j : Nat) : Bool := isRt (evS (run Γ.fn Γ.gl NN 99) Γ.gl NN restS [none, none, some (.loc 1), none, none, none, none, none] [.dead, .lst [.int i, .int j]])
theorem chk_ok {i j : Nat} (h : chk i j = true) (v0 v1 : PV) (c : Cell) : ∃ s, evS (run Γ.fn Γ.gl NN 99) Γ.gl NN restS [some v0, some v1, some (.loc 1), none, none, none, none, none] [c, .lst [.int i, .int j]] = .ok (.rt (.bl true)) s := by
  refine rest_by (ev := [none, none, some (.loc 1), none, none, none, none, none]) (st := [.dead, .lst [.int i, .int j]]) ⟨rfl, fun k => ?_⟩ ⟨rfl, fun k => ?_⟩ ?_
  · match k with
    | 0 => exact .inl rfl
    | 1 => exact .inl rfl
    | k + 2 => exact .inr rfl
  · match k with
    | 0 => exact .inl rfl
    | k + 1 => exact .inr rfl
  · unfold chk at h
    generalize evS (run Γ.fn Γ.gl NN 99) Γ.gl NN restS [none, none, some (.loc 1), none, none, none, none, none] [.dead, .lst [.int i, .int j]] = r at h
    unfold isRt at h
    split at h
    · exact ⟨_, rfl⟩
    · cases h
/-- the two numbers that the law makes -/
def c0 (x y : Int) : Int := if x / 7 % 3 = 1 then (if y % 7 - 1 > 0 then y % 7 - 1 else 0) else x % 7
def c1 (x y : Int) : Int := if x / 7 % 3 = 0 then (if x % 7 - 1 > 0 then x % 7 - 1 else 0) else y % 7
theorem law_true' (hall : ∀ i j : Nat, i < 7 → j < 7 → chk i j = true) (ns : List Int) : Vm.TrueAt (Vm.run Γ.fn Γ.gl NN 100 15) ns := by
  obtain ⟨x, y, hxy⟩ : ∃ x y, drawsF ns 0 2 5040 = [x, y] := by
    have h := drawsF_len ns 0 2 5040
    match drawsF ns 0 2 5040, h with
    | [x, y], _ => exact ⟨x, y, rfl⟩
  have hin := drawsF_in (many := 5040) (by decide) ns 0 2
  rw [hxy] at hin
  have hx := hin x (by simp)
  have hy := hin y (by simp)
  have draw : run Γ.fn Γ.gl NN 99 12 [.fl (ns.map .int), .int 0, .int 2, .int 5040] [] = .ok (.loc 0) [.lst [.int x, .int y]] := by
    have q := draws_run (T := Γ.fn) (G := Γ.gl) (N := NN) (q := 11) (q2 := 12) (d := 97) rfl rfl ns 0 2 5040 (by decide) (by decide) (by decide) []
    rw [hxy] at q
    exact q
  have hA : 0 ≤ c0 x y ∧ c0 x y < 7 := by unfold c0; split <;> (try split) <;> omega
  have hB : 0 ≤ c1 x y ∧ c1 x y < 7 := by unfold c1; split <;> (try split) <;> omega
  obtain ⟨s, hs⟩ := chk_ok (hall (c0 x y).toNat (c1 x y).toNat (by omega) (by omega)) (.fl (ns.map .int)) (.loc 0) (.lst [.int x, .int y])
  rw [Int.toNat_of_nonneg hA.1, Int.toNat_of_nonneg hB.1] at hs
  refine ⟨s, run_rt (T := Γ.fn) (G := Γ.gl) (N := NN) (d := 99) (f := 15) (fn := r15.c) rfl rfl ?_⟩
  rw [← hs]
  show evS _ _ _ r15.c.body [some (.fl (ns.map .int)), none, none, none, none, none, none, none] [] = _
  unfold r15
  dsimp only
  have draw' : evE (run Γ.fn Γ.gl NN 99) Γ.gl NN (.call 12 (.cons (.var 0) (.cons (.lit (.int 0)) (.cons (.lit (.int 2)) (.cons (.lit (.int 5040)) .nil))))) [some (.fl (ns.map .int)), none, none, none, none, none, none, none] [] = .ok (.loc 0) [.lst [.int x, .int y]] := draw
  refine (cons_nx (asg_nm draw')).trans ?_
  refine (cons_nx (asg_nm (v := .tl [.int (x % 7), .int (y % 7)]) (st1 := [.lst [.int x, .int y]]) ?_)).trans ?_
  · simp [evE, indexV, indexG, dv, sv, lv, itemAt, ixOf, Res.of, binop, guardO, fixR, fixv, tupOf, guardR, SZ]
  show evS _ _ _ _ [some (.fl (ns.map .int)), some (.loc 0), some (.loc 1), none, none, none, none, none] [.lst [.int x, .int y], .lst [.int (x % 7), .int (y % 7)]] = _
  have cond : ∀ (k a b : Int), evE (run Γ.fn Γ.gl NN 99) Γ.gl NN (.cmp .eq (.bin .mod (.bin .fdiv (.ix (.var 1) (.lit (.int 0))) (.lit (.int 7))) (.lit (.int 3))) (.lit (.int k))) [some (.fl (ns.map .int)), some (.loc 0), some (.loc 1), none, none, none, none, none] [.lst [.int x, .int y], .lst [.int a, .int b]] = .ok (.bl (decide (x / 7 % 3 = k))) [.lst [.int x, .int y], .lst [.int a, .int b]] := by
    intro k a b
    simp [evE, indexV, indexG, dv, sv, lv, itemAt, ixOf, Res.of, binop, guardO, cmpV, eqW, eqS]
    rfl
  have one : ∀ (a b : Int) (ss : CS), evS (run Γ.fn Γ.gl NN 99) Γ.gl NN (.cons (.if_ (.cmp .eq (.bin .mod (.bin .fdiv (.ix (.var 1) (.lit (.int 0))) (.lit (.int 7))) (.lit (.int 3))) (.lit (.int 0))) (.cons (.asg (.sub (.var 2) (.lit (.int 1))) (.blt2 .max (.lit (.int 0)) (.bin .sub (.ix (.var 2) (.lit (.int 0))) (.lit (.int 1))))) .nil) .nil) ss) [some (.fl (ns.map .int)), some (.loc 0), some (.loc 1), none, none, none, none, none] [.lst [.int x, .int y], .lst [.int a, .int b]]
      = evS (run Γ.fn Γ.gl NN 99) Γ.gl NN ss [some (.fl (ns.map .int)), some (.loc 0), some (.loc 1), none, none, none, none, none] [.lst [.int x, .int y], .lst [.int a, .int (if x / 7 % 3 = 0 then (if a - 1 > 0 then a - 1 else 0) else b)]] := by
    intro a b ss
    by_cases h : x / 7 % 3 = 0
    · rw [if_pos h]
      refine (cons_nx ((if_t ((cond 0 a b).trans (by rw [decide_eq_true h]))).trans ?_))
      simp [evS, evT, evE, indexV, indexG, dv, sv, lv, itemAt, ixOf, Res.of, binop, blt2, setSub, fixR, fixv]
    · rw [if_neg h]
      exact cons_nx ((if_f ((cond 0 a b).trans (by rw [decide_eq_false h]))).trans rfl)
  have two : ∀ (a b : Int) (ss : CS), evS (run Γ.fn Γ.gl NN 99) Γ.gl NN (.cons (.if_ (.cmp .eq (.bin .mod (.bin .fdiv (.ix (.var 1) (.lit (.int 0))) (.lit (.int 7))) (.lit (.int 3))) (.lit (.int 1))) (.cons (.asg (.sub (.var 2) (.lit (.int 0))) (.blt2 .max (.lit (.int 0)) (.bin .sub (.ix (.var 2) (.lit (.int 1))) (.lit (.int 1))))) .nil) .nil) ss) [some (.fl (ns.map .int)), some (.loc 0), some (.loc 1), none, none, none, none, none] [.lst [.int x, .int y], .lst [.int a, .int b]]
      = evS (run Γ.fn Γ.gl NN 99) Γ.gl NN ss [some (.fl (ns.map .int)), some (.loc 0), some (.loc 1), none, none, none, none, none] [.lst [.int x, .int y], .lst [.int (if x / 7 % 3 = 1 then (if b - 1 > 0 then b - 1 else 0) else a), .int b]] := by
    intro a b ss
    by_cases h : x / 7 % 3 = 1
    · rw [if_pos h]
      refine (cons_nx ((if_t ((cond 1 a b).trans (by rw [decide_eq_true h]))).trans ?_))
      simp [evS, evT, evE, indexV, indexG, dv, sv, lv, itemAt, ixOf, Res.of, binop, blt2, setSub, fixR, fixv]
    · rw [if_neg h]
      exact cons_nx ((if_f ((cond 1 a b).trans (by rw [decide_eq_false h]))).trans rfl)
  rw [one, two]
  have e0 : (if x / 7 % 3 = 1 then (if (if x / 7 % 3 = 0 then (if x % 7 - 1 > 0 then x % 7 - 1 else 0) else y % 7) - 1 > 0 then (if x / 7 % 3 = 0 then (if x % 7 - 1 > 0 then x % 7 - 1 else 0) else y % 7) - 1 else 0) else x % 7) = c0 x y := by
    unfold c0
    by_cases h : x / 7 % 3 = 1
    · have h0 : ¬ x / 7 % 3 = 0 := by omega
      rw [if_pos h, if_pos h, if_neg h0]
    · rw [if_neg h, if_neg h]
  rw [e0]
  rfl
end K40

set_option maxHeartbeats 0
namespace K40
theorem t00 : chk 0 0 = true := by decide +kernel
theorem t01 : chk 0 1 = true := by decide +kernel
theorem t02 : chk 0 2 = true := by decide +kernel
theorem t03 : chk 0 3 = true := by decide +kernel
theorem t04 : chk 0 4 = true := by decide +kernel
theorem t05 : chk 0 5 = true := by decide +kernel
theorem t06 : chk 0 6 = true := by decide +kernel
theorem t10 : chk 1 0 = true := by decide +kernel
theorem t11 : chk 1 1 = true := by decide +kernel
theorem t12 : chk 1 2 = true := by decide +kernel
theorem t13 : chk 1 3 = true := by decide +kernel
theorem t14 : chk 1 4 = true := by decide +kernel
theorem t15 : chk 1 5 = true := by decide +kernel
theorem t16 : chk 1 6 = true := by decide +kernel
theorem t20 : chk 2 0 = true := by decide +kernel
theorem t21 : chk 2 1 = true := by decide +kernel
theorem t22 : chk 2 2 = true := by decide +kernel
theorem t23 : chk 2 3 = true := by decide +kernel
theorem t24 : chk 2 4 = true := by decide +kernel
theorem t25 : chk 2 5 = true := by decide +kernel
theorem t26 : chk 2 6 = true := by decide +kernel
theorem t30 : chk 3 0 = true := by decide +kernel
theorem t31 : chk 3 1 = true := by decide +kernel
theorem t32 : chk 3 2 = true := by decide +kernel
theorem t33 : chk 3 3 = true := by decide +kernel
theorem t34 : chk 3 4 = true := by decide +kernel
theorem t35 : chk 3 5 = true := by decide +kernel
theorem t36 : chk 3 6 = true := by decide +kernel
theorem t40 : chk 4 0 = true := by decide +kernel
theorem t41 : chk 4 1 = true := by decide +kernel
theorem t42 : chk 4 2 = true := by decide +kernel
theorem t43 : chk 4 3 = true := by decide +kernel
theorem t44 : chk 4 4 = true := by decide +kernel
theorem t45 : chk 4 5 = true := by decide +kernel
theorem t46 : chk 4 6 = true := by decide +kernel
theorem t50 : chk 5 0 = true := by decide +kernel
theorem t51 : chk 5 1 = true := by decide +kernel
theorem t52 : chk 5 2 = true := by decide +kernel
theorem t53 : chk 5 3 = true := by decide +kernel
theorem t54 : chk 5 4 = true := by decide +kernel
theorem t55 : chk 5 5 = true := by decide +kernel
theorem t56 : chk 5 6 = true := by decide +kernel
theorem t60 : chk 6 0 = true := by decide +kernel
theorem t61 : chk 6 1 = true := by decide +kernel
theorem t62 : chk 6 2 = true := by decide +kernel
theorem t63 : chk 6 3 = true := by decide +kernel
theorem t64 : chk 6 4 = true := by decide +kernel
theorem t65 : chk 6 5 = true := by decide +kernel
theorem t66 : chk 6 6 = true := by decide +kernel
theorem chk_all : ∀ i j : Nat, i < 7 → j < 7 → chk i j = true := by
  intro i j hi hj
  match i, j, hi, hj with
  | 0, 0, _, _ => exact t00
  | 0, 1, _, _ => exact t01
  | 0, 2, _, _ => exact t02
  | 0, 3, _, _ => exact t03
  | 0, 4, _, _ => exact t04
  | 0, 5, _, _ => exact t05
  | 0, 6, _, _ => exact t06
  | 1, 0, _, _ => exact t10
  | 1, 1, _, _ => exact t11
  | 1, 2, _, _ => exact t12
  | 1, 3, _, _ => exact t13
  | 1, 4, _, _ => exact t14
  | 1, 5, _, _ => exact t15
  | 1, 6, _, _ => exact t16
  | 2, 0, _, _ => exact t20
  | 2, 1, _, _ => exact t21
  | 2, 2, _, _ => exact t22
  | 2, 3, _, _ => exact t23
  | 2, 4, _, _ => exact t24
  | 2, 5, _, _ => exact t25
  | 2, 6, _, _ => exact t26
  | 3, 0, _, _ => exact t30
  | 3, 1, _, _ => exact t31
  | 3, 2, _, _ => exact t32
  | 3, 3, _, _ => exact t33
  | 3, 4, _, _ => exact t34
  | 3, 5, _, _ => exact t35
  | 3, 6, _, _ => exact t36
  | 4, 0, _, _ => exact t40
  | 4, 1, _, _ => exact t41
  | 4, 2, _, _ => exact t42
  | 4, 3, _, _ => exact t43
  | 4, 4, _, _ => exact t44
  | 4, 5, _, _ => exact t45
  | 4, 6, _, _ => exact t46
  | 5, 0, _, _ => exact t50
  | 5, 1, _, _ => exact t51
  | 5, 2, _, _ => exact t52
  | 5, 3, _, _ => exact t53
  | 5, 4, _, _ => exact t54
  | 5, 5, _, _ => exact t55
  | 5, 6, _, _ => exact t56
  | 6, 0, _, _ => exact t60
  | 6, 1, _, _ => exact t61
  | 6, 2, _, _ => exact t62
  | 6, 3, _, _ => exact t63
  | 6, 4, _, _ => exact t64
  | 6, 5, _, _ => exact t65
  | 6, 6, _, _ => exact t66
  | n + 7, _, h, _ => exact absurd h (by omega)
  | _, n + 7, _, h => exact absurd h (by omega)
theorem law_true (ns : List Int) (h : ns.length ≤ 63) : Vm.TrueAt (Vm.run Γ.fn Γ.gl NN 100 15) ns := law_true' chk_all ns
end K40

set_option maxHeartbeats 8000000
namespace K40
open Vm PySem L2
theorem b0 : BindsOk r0 := fun _ _ _ _ _ _ us hl => match us, hl with | [_, _], _ => rfl
theorem b1 : BindsOk r1 := fun _ _ _ _ _ _ us hl => match us, hl with | [_, _, _], _ => rfl
theorem b2 : BindsOk r2 := fun _ _ _ _ _ _ us hl => match us, hl with | [_, _, _], _ => rfl
theorem b3 : BindsOk r3 := fun _ _ _ _ _ _ us hl => match us, hl with | [_, _], _ => rfl
theorem b4 : BindsOk r4 := fun _ _ _ _ _ _ us hl => match us, hl with | [_, _], _ => rfl
theorem b5 : BindsOk r5 := fun _ _ _ _ _ _ us hl => match us, hl with | [_, _], _ => rfl
theorem b6 : BindsOk r6 := fun _ _ _ _ _ _ us hl => match us, hl with | [_, _], _ => rfl
theorem b7 : BindsOk r7 := fun _ _ _ _ _ _ us hl => match us, hl with | [_, _], _ => rfl
theorem b8 : BindsOk r8 := fun _ _ _ _ _ _ us hl => match us, hl with | [_, _], _ => rfl
theorem b9 : BindsOk r9 := fun _ _ _ _ _ _ us hl => match us, hl with | [_], _ => rfl
theorem b10 : BindsOk r10 := fun _ _ _ _ _ _ us hl => match us, hl with | [_, _], _ => rfl
theorem b11 : BindsOk r11 := fun _ _ _ _ _ _ us hl => match us, hl with | [_, _], _ => rfl
theorem b12 : BindsOk r12 := fun _ _ _ _ _ _ us hl => match us, hl with | [_, _, _, _], _ => rfl
theorem b13 : BindsOk r13 := fun _ _ _ _ _ _ us hl => match us, hl with | [_, _], _ => rfl
theorem b14 : BindsOk r14 := fun _ _ _ _ _ _ us hl => match us, hl with | [_, _, _], _ => rfl
theorem b15 : BindsOk r15 := fun _ _ _ _ _ _ us hl => match us, hl with | [_], _ => rfl
theorem rows_ok : rows.all (rowOk Γ) = true := by decide +kernel
theorem all_mk {P : Program} {w : World} {K : PySem.W.Frag} {h : Heap} {mg : Str → Option Value} {fa : Addr} (X : K.In h) (G : h.Ns mainGlobals mg) (hfa : mg "law" = some (.ref fa))
    {f0 f1 f2 f3 f4 f5 f6 f7 f8 f9 f10 f11 f12 f13 f14 f15 : Addr} {od0 an0 od1 an1 od2 an2 od3 an3 od4 an4 od5 an5 od6 an6 od7 an7 od8 an8 od9 an9 od10 an10 od11 an11 od12 an12 od13 an13 od14 an14 od15 an15 : Option Addr} {sl0 sl1 sl2 sl3 sl4 sl5 sl6 sl7 sl8 sl9 sl10 sl11 sl12 sl13 sl14 sl15 : Array (Option Value)} {oc0 kV0 dc0 pm0 cd0 ct0 oc1 kV1 dc1 pm1 cd1 ct1 oc2 kV2 dc2 pm2 cd2 ct2 oc3 kV3 dc3 pm3 cd3 ct3 oc4 kV4 dc4 pm4 cd4 ct4 oc5 kV5 dc5 pm5 cd5 ct5 oc6 kV6 dc6 pm6 cd6 ct6 oc7 kV7 dc7 pm7 cd7 ct7 oc8 kV8 dc8 pm8 cd8 ct8 oc9 kV9 dc9 pm9 cd9 ct9 oc10 kV10 dc10 pm10 cd10 ct10 oc11 kV11 dc11 pm11 cd11 ct11 oc12 kV12 dc12 pm12 cd12 ct12 oc13 kV13 dc13 pm13 cd13 ct13 oc14 kV14 dc14 pm14 cd14 ct14 oc15 kV15 dc15 pm15 cd15 ct15 : Value} {t0 : Tok}
    (a0 : PySem.W.nsIn K mainGlobals "below" = some (some (.ref f0))) (l0 : K.lookup f0 = some ⟨oc0, od0, .func (PySem.W.fnOf "below" "below" (defArgs (topS 2)) (defBody (topS 2)) (defScope (topS 2)) .none kV0 dc0 pm0 an0 cd0 ct0), sl0⟩) (c0 : PySem.W.codeIn K cd0 "below" = true) (k0 : PySem.W.keepIn K (.ref f0) = true)
    (a1 : PySem.W.nsIn K mainGlobals "between" = some (some (.ref f1))) (l1 : K.lookup f1 = some ⟨oc1, od1, .func (PySem.W.fnOf "between" "between" (defArgs (topS 3)) (defBody (topS 3)) (defScope (topS 3)) .none kV1 dc1 pm1 an1 cd1 ct1), sl1⟩) (c1 : PySem.W.codeIn K cd1 "between" = true) (k1 : PySem.W.keepIn K (.ref f1) = true)
    (a2 : PySem.W.nsIn K mainGlobals "one_at" = some (some (.ref f2))) (l2 : K.lookup f2 = some ⟨oc2, od2, .func (PySem.W.fnOf "one_at" "one_at" (defArgs (topS 4)) (defBody (topS 4)) (defScope (topS 4)) .none kV2 dc2 pm2 an2 cd2 ct2), sl2⟩) (c2 : PySem.W.codeIn K cd2 "one_at" = true) (k2 : PySem.W.keepIn K (.ref f2) = true)
    (a3 : PySem.W.nsIn K mainGlobals "first_at" = some (some (.ref f3))) (l3 : K.lookup f3 = some ⟨oc3, od3, .func (PySem.W.fnOf "first_at" "first_at" (defArgs (topS 5)) (defBody (topS 5)) (defScope (topS 5)) .none kV3 dc3 pm3 an3 cd3 ct3), sl3⟩) (c3 : PySem.W.codeIn K cd3 "first_at" = true) (k3 : PySem.W.keepIn K (.ref f3) = true)
    (a4 : PySem.W.nsIn K mainGlobals "last_at" = some (some (.ref f4))) (l4 : K.lookup f4 = some ⟨oc4, od4, .func (PySem.W.fnOf "last_at" "last_at" (defArgs (topS 6)) (defBody (topS 6)) (defScope (topS 6)) .none kV4 dc4 pm4 an4 cd4 ct4), sl4⟩) (c4 : PySem.W.codeIn K cd4 "last_at" = true) (k4 : PySem.W.keepIn K (.ref f4) = true)
    (a5 : PySem.W.nsIn K mainGlobals "full_at" = some (some (.ref f5))) (l5 : K.lookup f5 = some ⟨oc5, od5, .func (PySem.W.fnOf "full_at" "full_at" (defArgs (topS 7)) (defBody (topS 7)) (defScope (topS 7)) .none kV5 dc5 pm5 an5 cd5 ct5), sl5⟩) (c5 : PySem.W.codeIn K cd5 "full_at" = true) (k5 : PySem.W.keepIn K (.ref f5) = true)
    (a6 : PySem.W.nsIn K mainGlobals "counted_at" = some (some (.ref f6))) (l6 : K.lookup f6 = some ⟨oc6, od6, .func (PySem.W.fnOf "counted_at" "counted_at" (defArgs (topS 8)) (defBody (topS 8)) (defScope (topS 8)) .none kV6 dc6 pm6 an6 cd6 ct6), sl6⟩) (c6 : PySem.W.codeIn K cd6 "counted_at" = true) (k6 : PySem.W.keepIn K (.ref f6) = true)
    (a7 : PySem.W.nsIn K mainGlobals "at_least" = some (some (.ref f7))) (l7 : K.lookup f7 = some ⟨oc7, od7, .func (PySem.W.fnOf "at_least" "at_least" (defArgs (topS 9)) (defBody (topS 9)) (defScope (topS 9)) .none kV7 dc7 pm7 an7 cd7 ct7), sl7⟩) (c7 : PySem.W.codeIn K cd7 "at_least" = true) (k7 : PySem.W.keepIn K (.ref f7) = true)
    (a8 : PySem.W.nsIn K mainGlobals "parting_sentence" = some (some (.ref f8))) (l8 : K.lookup f8 = some ⟨oc8, od8, .func (PySem.W.fnOf "parting_sentence" "parting_sentence" (defArgs (topS 10)) (defBody (topS 10)) (defScope (topS 10)) .none kV8 dc8 pm8 an8 cd8 ct8), sl8⟩) (c8 : PySem.W.codeIn K cd8 "parting_sentence" = true) (k8 : PySem.W.keepIn K (.ref f8) = true)
    (a9 : PySem.W.nsIn K mainGlobals "_law_is_int" = some (some (.ref f9))) (l9 : K.lookup f9 = some ⟨oc9, od9, .func (PySem.W.fnOf "_law_is_int" "_law_is_int" (defArgs (topS 12)) (defBody (topS 12)) (defScope (topS 12)) .none kV9 dc9 pm9 an9 cd9 ct9), sl9⟩) (c9 : PySem.W.codeIn K cd9 "_law_is_int" = true) (k9 : PySem.W.keepIn K (.ref f9) = true)
    (a10 : PySem.W.nsIn K mainGlobals "_law_same" = some (some (.ref f10))) (l10 : K.lookup f10 = some ⟨oc10, od10, .func (PySem.W.fnOf "_law_same" "_law_same" (defArgs (topS 13)) (defBody (topS 13)) (defScope (topS 13)) .none kV10 dc10 pm10 an10 cd10 ct10), sl10⟩) (c10 : PySem.W.codeIn K cd10 "_law_same" = true) (k10 : PySem.W.keepIn K (.ref f10) = true)
    (a11 : PySem.W.nsIn K mainGlobals "_law_number" = some (some (.ref f11))) (l11 : K.lookup f11 = some ⟨oc11, od11, .func (PySem.W.fnOf "_law_number" "_law_number" (defArgs (topS 14)) (defBody (topS 14)) (defScope (topS 14)) .none kV11 dc11 pm11 an11 cd11 ct11), sl11⟩) (c11 : PySem.W.codeIn K cd11 "_law_number" = true) (k11 : PySem.W.keepIn K (.ref f11) = true)
    (a12 : PySem.W.nsIn K mainGlobals "_law_draws" = some (some (.ref f12))) (l12 : K.lookup f12 = some ⟨oc12, od12, .func (PySem.W.fnOf "_law_draws" "_law_draws" (defArgs (topS 15)) (defBody (topS 15)) (defScope (topS 15)) .none kV12 dc12 pm12 an12 cd12 ct12), sl12⟩) (c12 : PySem.W.codeIn K cd12 "_law_draws" = true) (k12 : PySem.W.keepIn K (.ref f12) = true)
    (a13 : PySem.W.nsIn K mainGlobals "_law_words_of" = some (some (.ref f13))) (l13 : K.lookup f13 = some ⟨oc13, od13, .func (PySem.W.fnOf "_law_words_of" "_law_words_of" (defArgs (topS 16)) (defBody (topS 16)) (defScope (topS 16)) .none kV13 dc13 pm13 an13 cd13 ct13), sl13⟩) (c13 : PySem.W.codeIn K cd13 "_law_words_of" = true) (k13 : PySem.W.keepIn K (.ref f13) = true)
    (a14 : PySem.W.nsIn K mainGlobals "_law_is_so" = some (some (.ref f14))) (l14 : K.lookup f14 = some ⟨oc14, od14, .func (PySem.W.fnOf "_law_is_so" "_law_is_so" (defArgs (topS 17)) (defBody (topS 17)) (defScope (topS 17)) .none kV14 dc14 pm14 an14 cd14 ct14), sl14⟩) (c14 : PySem.W.codeIn K cd14 "_law_is_so" = true) (k14 : PySem.W.keepIn K (.ref f14) = true)
    (a15 : PySem.W.nsIn K mainGlobals "law" = some (some (.ref f15))) (l15 : K.lookup f15 = some ⟨oc15, od15, .func (PySem.W.fnOf "law" "law" (defArgs (topS 18)) (defBody (topS 18)) (defScope (topS 18)) .none kV15 dc15 pm15 an15 cd15 ct15), sl15⟩) (c15 : PySem.W.codeIn K cd15 "law" = true) (k15 : PySem.W.keepIn K (.ref f15) = true)
    (cst0 : PySem.W.nsIn K mainGlobals "LESS" = some (some (.str "less" t0)))
    (z0 : PySem.W.nsIn K mainGlobals "abs" = some none)
    (z1 : PySem.W.nsIn K mainGlobals "bool" = some none)
    (z2 : PySem.W.nsIn K mainGlobals "dict" = some none)
    (z3 : PySem.W.nsIn K mainGlobals "int" = some none)
    (z4 : PySem.W.nsIn K mainGlobals "isinstance" = some none)
    (z5 : PySem.W.nsIn K mainGlobals "len" = some none)
    (z6 : PySem.W.nsIn K mainGlobals "list" = some none)
    (z7 : PySem.W.nsIn K mainGlobals "max" = some none)
    (z8 : PySem.W.nsIn K mainGlobals "range" = some none)
    (z9 : PySem.W.nsIn K mainGlobals "str" = some none)
    (z10 : PySem.W.nsIn K mainGlobals "sum" = some none)
    (z11 : PySem.W.nsIn K mainGlobals "tuple" = some none)
    : ∃ fd : FuncData, (∀ (s : Shared) (v : Value), BindsTo s fd ⟨[v], []⟩ [("script", v)]) ∧ ∀ base : Heap, K.In base → base.Ns mainGlobals mg →
      FnOk P w K mg base (L2.CX P w) 100 fa fd ["script"] (spF ⟨fun _ => 0, fun _ => ""⟩ K 1 (run Γ.fn Γ.gl NN 100 15)) := by
  have e := hfa.symm.trans (PySem.W.mg_of X G a15)
  cases e
  have t0' := row_mk r0 X G b0 a0 l0 c0 k0
  have t1' := row_mk r1 X G b1 a1 l1 c1 k1
  have t2' := row_mk r2 X G b2 a2 l2 c2 k2
  have t3' := row_mk r3 X G b3 a3 l3 c3 k3
  have t4' := row_mk r4 X G b4 a4 l4 c4 k4
  have t5' := row_mk r5 X G b5 a5 l5 c5 k5
  have t6' := row_mk r6 X G b6 a6 l6 c6 k6
  have t7' := row_mk r7 X G b7 a7 l7 c7 k7
  have t8' := row_mk r8 X G b8 a8 l8 c8 k8
  have t9' := row_mk r9 X G b9 a9 l9 c9 k9
  have t10' := row_mk r10 X G b10 a10 l10 c10 k10
  have t11' := row_mk r11 X G b11 a11 l11 c11 k11
  have t12' := row_mk r12 X G b12 a12 l12 c12 k12
  have t13' := row_mk r13 X G b13 a13 l13 c13 k13
  have t14' := row_mk r14 X G b14 a14 l14 c14 k14
  have t15' := row_mk r15 X G b15 a15 l15 c15 k15
  have ht : ∀ (f : Nat) r, rows[f]? = some r → ∃ a fd, RowTxt K mg r a fd := fun f r hf => by
    match f, hf with
    | 0, hf => cases hf; exact ⟨_, _, t0'⟩
    | 1, hf => cases hf; exact ⟨_, _, t1'⟩
    | 2, hf => cases hf; exact ⟨_, _, t2'⟩
    | 3, hf => cases hf; exact ⟨_, _, t3'⟩
    | 4, hf => cases hf; exact ⟨_, _, t4'⟩
    | 5, hf => cases hf; exact ⟨_, _, t5'⟩
    | 6, hf => cases hf; exact ⟨_, _, t6'⟩
    | 7, hf => cases hf; exact ⟨_, _, t7'⟩
    | 8, hf => cases hf; exact ⟨_, _, t8'⟩
    | 9, hf => cases hf; exact ⟨_, _, t9'⟩
    | 10, hf => cases hf; exact ⟨_, _, t10'⟩
    | 11, hf => cases hf; exact ⟨_, _, t11'⟩
    | 12, hf => cases hf; exact ⟨_, _, t12'⟩
    | 13, hf => cases hf; exact ⟨_, _, t13'⟩
    | 14, hf => cases hf; exact ⟨_, _, t14'⟩
    | 15, hf => cases hf; exact ⟨_, _, t15'⟩
    | n + 16, hf => cases hf
  have hg : GlTxt K mg gl gname free := by
    refine ⟨fun g x hx => ?_, ?_⟩
    · match g, hx with
      | 0, hx => cases hx; exact glStr X G cst0 (by decide +kernel)
      | n + 1, hx => cases hx
    · exact List.forall_mem_cons.mpr ⟨PySem.W.mg_none_of X G z0, List.forall_mem_cons.mpr ⟨PySem.W.mg_none_of X G z1, List.forall_mem_cons.mpr ⟨PySem.W.mg_none_of X G z2, List.forall_mem_cons.mpr ⟨PySem.W.mg_none_of X G z3, List.forall_mem_cons.mpr ⟨PySem.W.mg_none_of X G z4, List.forall_mem_cons.mpr ⟨PySem.W.mg_none_of X G z5, List.forall_mem_cons.mpr ⟨PySem.W.mg_none_of X G z6, List.forall_mem_cons.mpr ⟨PySem.W.mg_none_of X G z7, List.forall_mem_cons.mpr ⟨PySem.W.mg_none_of X G z8, List.forall_mem_cons.mpr ⟨PySem.W.mg_none_of X G z9, List.forall_mem_cons.mpr ⟨PySem.W.mg_none_of X G z10, List.forall_mem_cons.mpr ⟨PySem.W.mg_none_of X G z11, fun _ hx => (by cases hx)⟩⟩⟩⟩⟩⟩⟩⟩⟩⟩⟩⟩
  exact ⟨_, fun s v => .of_eq rfl, fun base _ _ => all_ok (rows := rows) (fun r hr => List.all_eq_true.mp rows_ok r hr) ht hg 100 15 r15 rfl _ _ t15'⟩
end K40
open PySem PySem.W PyProof.Rows
set_option maxHeartbeats 0 in
theorem PySem.Challenge.cw_wordsbeside_k40_sentences_that_part_fini_holds : PySem.Challenge.rw_wordsbeside_k40_sentences_that_part_fini.Holds := by
  w_on; o_law; k_head; (case hw => w_witness2)
  k_fill
  refine L2.walk_of (l := PySem.Challenge.rw_wordsbeside_k40_sentences_that_part_fini) (n := 63) (k := 100) (x := "script") (CX := fun w => L2.CX PySem.Challenge.rw_wordsbeside_k40_sentences_that_part_fini.prog w) (sp := fun w => Vm.spF ⟨fun _ => 0, fun _ => ""⟩ _ 1 (Vm.run K40.Γ.fn K40.Γ.gl K40.NN 100 15)) rfl (by decide) rfl ⟨rfl, by decide, by decide⟩ (fun w h Y => PySem.W.kIn_of Y) ?F (fun _ H a ns hl hO hS => Vm.sp_law hO hS (K40.law_true ns hl)) (fun _ H s e s' z => Vm.cx_no z)
  case F =>
    intro w mg fa h KX G hmg
    refine' K40.all_mk KX G hmg ?a0 ?l0 ?c0 ?k0 ?a1 ?l1 ?c1 ?k1 ?a2 ?l2 ?c2 ?k2 ?a3 ?l3 ?c3 ?k3 ?a4 ?l4 ?c4 ?k4 ?a5 ?l5 ?c5 ?k5 ?a6 ?l6 ?c6 ?k6 ?a7 ?l7 ?c7 ?k7 ?a8 ?l8 ?c8 ?k8 ?a9 ?l9 ?c9 ?k9 ?a10 ?l10 ?c10 ?k10 ?a11 ?l11 ?c11 ?k11 ?a12 ?l12 ?c12 ?k12 ?a13 ?l13 ?c13 ?k13 ?a14 ?l14 ?c14 ?k14 ?a15 ?l15 ?c15 ?k15 ?cst0 ?z0 ?z1 ?z2 ?z3 ?z4 ?z5 ?z6 ?z7 ?z8 ?z9 ?z10 ?z11
    (case a0 => k_is)
    (case l0 => k_is)
    (case c0 => k_is)
    (case k0 => k_is)
    (case a1 => k_is)
    (case l1 => k_is)
    (case c1 => k_is)
    (case k1 => k_is)
    (case a2 => k_is)
    (case l2 => k_is)
    (case c2 => k_is)
    (case k2 => k_is)
    (case a3 => k_is)
    (case l3 => k_is)
    (case c3 => k_is)
    (case k3 => k_is)
    (case a4 => k_is)
    (case l4 => k_is)
    (case c4 => k_is)
    (case k4 => k_is)
    (case a5 => k_is)
    (case l5 => k_is)
    (case c5 => k_is)
    (case k5 => k_is)
    (case a6 => k_is)
    (case l6 => k_is)
    (case c6 => k_is)
    (case k6 => k_is)
    (case a7 => k_is)
    (case l7 => k_is)
    (case c7 => k_is)
    (case k7 => k_is)
    (case a8 => k_is)
    (case l8 => k_is)
    (case c8 => k_is)
    (case k8 => k_is)
    (case a9 => k_is)
    (case l9 => k_is)
    (case c9 => k_is)
    (case k9 => k_is)
    (case a10 => k_is)
    (case l10 => k_is)
    (case c10 => k_is)
    (case k10 => k_is)
    (case a11 => k_is)
    (case l11 => k_is)
    (case c11 => k_is)
    (case k11 => k_is)
    (case a12 => k_is)
    (case l12 => k_is)
    (case c12 => k_is)
    (case k12 => k_is)
    (case a13 => k_is)
    (case l13 => k_is)
    (case c13 => k_is)
    (case k13 => k_is)
    (case a14 => k_is)
    (case l14 => k_is)
    (case c14 => k_is)
    (case k14 => k_is)
    (case a15 => k_is)
    (case l15 => k_is)
    (case c15 => k_is)
    (case k15 => k_is)
    (case cst0 => k_is)
    (case z0 => k_is)
    (case z1 => k_is)
    (case z2 => k_is)
    (case z3 => k_is)
    (case z4 => k_is)
    (case z5 => k_is)
    (case z6 => k_is)
    (case z7 => k_is)
    (case z8 => k_is)
    (case z9 => k_is)
    (case z10 => k_is)
    (case z11 => k_is)

