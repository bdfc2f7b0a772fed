import PyProof.Rows.All
import Wide.All
import OpenK.AllK
import Wide.FinOn
import KE.SortData
import HandS.ForMost
import HandS.ForExc
import HandS.Deep
import HandS.Flow
import HandS.TupAny
import HandS.Conv
import KE.KDictKeyed
import KE.KDictPairs
import KE.KDictZip
import KE.KDictWalk
import KE.KDictCopyH
import KE.KDictLaw
import HandS.TupLe
import HandS.IsInst
import HandS.Zip
import KE.GoesMore
import PyProof.Draws
import HandS.Star
import HandS.DictComp
import HandS.SetFor
import HandS.Strs
import HandS.Small
import HandS.Words
import HandS.Ends
import PySem.Challenge.RW_safeground_k21_whole_grounds
set_option Elab.async false
set_option linter.all false
set_option maxRecDepth 100000
/-! Dp0: pure values, the small language, its interpreter. -/
namespace Dp
open PySem

/-- a pure value; ref n: the n-th cell of the store -/
inductive D where
  | non | bl (b : Bool) | int (i : Int) | str (s : Str)
  | tup (ds : List D) | lst (ds : List D) | dct (ks vs : List D) | ref (n : Nat)
  deriving Inhabited

abbrev LIM : Nat := 16777216

mutual
/-- Python's == of plain data -/
def D.eqb : D → D → Bool
  | .non, .non => true
  | .bl a, .bl b => a == b
  | .bl a, .int j => (if a then 1 else 0) == j
  | .int i, .bl b => i == (if b then 1 else 0)
  | .int i, .int j => i == j
  | .str x, .str y => x == y
  | .tup xs, .tup ys => D.eqbs xs ys
  | .lst xs, .lst ys => D.eqbs xs ys
  | _, _ => false
def D.eqbs : List D → List D → Bool
  | [], [] => true
  | x :: xs, y :: ys => D.eqb x y && D.eqbs xs ys
  | _, _ => false
end
mutual
def D.toP : D → PyData
  | .non => .none
  | .bl b => .bool b
  | .int i => .int i
  | .str s => .str s
  | .tup ds => .tuple (D.toPs ds)
  | .lst ds => .list (D.toPs ds)
  | .dct _ _ => .none
  | .ref _ => .none
def D.toPs : List D → List PyData
  | [] => []
  | d :: ds => D.toP d :: D.toPs ds
end
/-- plain data of at most so many levels -/
def D.lay : Nat → D → Bool
  | _, .non => true
  | _, .bl _ => true
  | _, .int _ => true
  | _, .str s => PyData.strOk s
  | n + 1, .tup ds => ds.all (D.lay n)
  | n + 1, .lst ds => ds.all (D.lay n)
  | _, _ => false
abbrev DEEP : Nat := 20

/-- a dict's look-up by == -/
def dlook : List D → List D → D → Option D
  | k :: ks, v :: vs, x => if D.eqb k x then some v else dlook ks vs x
  | _, _, _ => none
def dhas (ks : List D) (x : D) : Bool := ks.any fun k => D.eqb k x
/-- values behind d[x] = v, x being there -/
def dset : List D → List D → D → D → List D
  | k :: ks, w :: vs, x, v => (if D.eqb k x then v else w) :: dset ks vs x v
  | _, vs, _, _ => vs
def dput (ks vs : List D) (x v : D) : List D × List D := if dhas ks x then (ks, dset ks vs x v) else (ks ++ [x], vs ++ [v])
def dputs : List D → List D → List (D × D) → List D × List D
  | ks, vs, [] => (ks, vs)
  | ks, vs, (k, v) :: r => dputs (dput ks vs k v).1 (dput ks vs k v).2 r

/-- a cell of the store: a list or a dict -/
abbrev Cell := D
abbrev Store := List Cell
inductive Res (α : Type) where
  | ok (a : α) (st : Store) | exc (c : Nat) (ds : List D) (st : Store) | stuck
def Res.bind {α β : Type} : Res α → (α → Store → Res β) → Res β
  | .ok a st, f => f a st
  | .exc c ds st, _ => .exc c ds st
  | .stuck, _ => .stuck
@[simp] theorem Res.bind_ok {α β : Type} (a : α) (st : Store) (f : α → Store → Res β) : (Res.ok a st).bind f = f a st := rfl
@[simp] theorem Res.bind_exc {α β : Type} (c : Nat) (ds : List D) (st : Store) (f : α → Store → Res β) : (Res.exc c ds st : Res α).bind f = .exc c ds st := rfl
@[simp] theorem Res.bind_stuck {α β : Type} (f : α → Store → Res β) : (Res.stuck : Res α).bind f = .stuck := rfl

/-- eager operations -/
inductive Bo where
  | add | sub | mul | fdiv | mod | pow | shl | shr | band | bor | bxor
  deriving DecidableEq
inductive Co where
  | eq | ne | lt | le | gt | ge | inn | notin | isn | isnot
  deriving DecidableEq
inductive Bi where
  | len | sum | all | any | tuple | list | sorted | dict | set | repr | int | str | min1 | max1 | min2 | max2
  | sset | isint | isbool | istup | isstr
  deriving DecidableEq
inductive Pr where
  | bo (o : Bo) | co (o : Co) | bi (b : Bi) | sub | cut (lo hi : Bool) | rev | neg
  deriving DecidableEq

abbrev Slot := Option (Bool × D)
abbrev Env := List Slot

/-- targets -/
inductive Tg where
  | name (i : Nat) | pair (a b : Tg) | trip (a b c : Tg)

mutual
inductive Ex where
  | v (i : Nat)                       -- a slot that is read
  | bor (i : Nat)                     -- a slot, owned or not, whose value is not kept
  | lit (d : D)                       -- a constant of the text: None, a bool, an int, a str
  | glob (k : Nat)                    -- a constant of the module
  | tup (es : Exs) | lst (es : Exs)
  | prim (p : Pr) (es : Exs)
  | and (a b : Ex) | or (a b : Ex) | not (a : Ex) | ife (c a b : Ex)
  | chain (o o' : Co) (a b c : Ex)
  | call (f : Nat) (es : Exs)
  | lc (own : List Nat) (tg : Tg) (it : It) (ts : Exs) (e : Ex)
  | lc2 (own own2 : List Nat) (tg : Tg) (it : It) (ts : Exs) (tg2 : Tg) (it2 : It) (ts2 : Exs) (e : Ex)
  | dc (own : List Nat) (tg : Tg) (it : It) (ts : Exs) (k e : Ex)
  | dict (ks vs : Exs)
  | rngx (t one : Bool) (a b : Ex)    -- tuple(range(..)), list(range(..))
  | new (e : Ex)                      -- a fresh list or dict, held by the store from now on
inductive Exs where
  | nil | cons (e : Ex) (es : Exs) | star (e : Ex) (es : Exs)
/-- what is walked -/
inductive It where
  | ex (e : Ex) | rng1 (a : Ex) | rng2 (a b : Ex) | enum (e : Ex) | zip (a b : Ex)
end

mutual
inductive St where
  | asg (tg : Tg) (e : Ex)
  | own (i : Nat) (e : Ex)            -- i is the one name of the new list or dict
  | par (is : List (Nat × Bool)) (es : Exs)
  | put (a k e : Ex)                  -- a[k] = e, a in the store
  | putO (i : Nat) (k e : Ex)         -- .. a the owned slot i
  | aug (i : Nat) (o : Bo) (e : Ex)
  | app (i : Nat) (e : Ex) | ext (i : Nat) (e : Ex)
  | exp (e : Ex)
  | ifs (c : Ex) (a b : Ss)
  | for (tg : Tg) (it : It) (b : Ss)
  | whl (c : Ex) (b : Ss)
  | ret (e : Ex)
  | pass | brk | cont
  | raise
  | frz (i : Nat)
inductive Ss where
  | nil | cons (s : St) (r : Ss)
end
inductive Flow where
  | next | brk | cont | ret (d : D)

/-! ### eager operations -/
def intOf : D → Option Int
  | .int i => some i
  | _ => none
def intsOf : List D → Option (List Int)
  | [] => some []
  | .int i :: r => (intsOf r).map (i :: ·)
  | _ => none
def blsOf : List D → Option (List Bool)
  | [] => some []
  | .bl b :: r => (blsOf r).map (b :: ·)
  | _ => none
def blOf : D → Option Bool
  | .bl b => some b
  | _ => none
/-- its truth -/
def D.tru : D → Option Bool
  | .non => some false
  | .bl b => some b
  | .int i => some (i != 0)
  | .str s => if s.length ≤ LIM then some ((s.length : Int) != 0) else none
  | .tup ds => some (!ds.isEmpty)
  | .lst ds => some (!ds.isEmpty)
  | _ => none
def fits (ds : List D) (d : D) : Option D := if ds.length ≤ LIM then some d else none

def boEv : Bo → D → D → Option D
  | .add, .int i, .int j => some (.int (i + j))
  | .add, .tup a, .tup b => fits (a ++ b) (.tup (a ++ b))
  | .add, .lst a, .lst b => fits (a ++ b) (.lst (a ++ b))
  | .add, .str a, .str b => if a.length + b.length ≤ LIM then some (.str (a ++ b)) else none
  | .sub, .int i, .int j => some (.int (i - j))
  | .mul, .int i, .int j => if (-(2 ^ 64) < i ∧ i < 2 ^ 64) ∨ (-(2 ^ 64) < j ∧ j < 2 ^ 64) then some (.int (i * j)) else none
  | .fdiv, .int i, .int j => if 0 < j ∧ j < 1073741824 then some (.int (i / j)) else none
  | .mod, .int i, .int j => if 0 < j then some (.int (i % j)) else none
  | .pow, .int i, .int j => if 0 ≤ j ∧ j ≤ 1000000 ∧ i.natAbs < 2 ^ 64 then some (.int (i ^ j.toNat)) else none
  | .shl, .int i, .int j => if 0 ≤ j ∧ j ≤ 1000000 ∧ i.natAbs < 2 ^ 64 then some (.int (i * 2 ^ j.toNat)) else none
  | .shr, .int i, .int j => if 0 ≤ j then some (.int (i / 2 ^ j.toNat)) else none
  | .band, .int i, .int j => some (.int (Builtin.bitAnd i j))
  | .bor, .int i, .int j => some (.int (Builtin.bitOr i j))
  | .bxor, .int i, .int j => some (.int (Builtin.bitXor i j))
  | _, _, _ => none
def D.scal : D → Bool
  | .non => true
  | .bl _ => true
  | .int _ => true
  | .str _ => true
  | _ => false
/-! ### dicts -/
def reprOk (d : D) : Bool := D.lay DEEP d && d.toP.showable && d.toP.intsShort 13 && decide (d.toP.weight ≤ 2 ^ 20)
/-- the ints of a list in order, each once -/
def insI (i : Int) : List Int → List Int
  | [] => [i]
  | j :: r => if i < j then i :: j :: r else if i = j then j :: r else j :: insI i r
def ssetI : List Int → List Int
  | [] => []
  | i :: r => insI i (ssetI r)
def D.isTup : D → Bool
  | .tup _ => true
  | _ => false
/-- tuples of scalars and such tuples, at most so deep -/
def D.hsh : Nat → D → Bool
  | _, .non => true
  | _, .bl _ => true
  | _, .int _ => true
  | _, .str _ => true
  | n + 1, .tup ds => ds.all (D.hsh n)
  | _, _ => false
abbrev KDEEP : Nat := 7
/-- a key that is an int or a text -/
def D.skey : D → Bool
  | .int _ => true
  | .str _ => true
  | _ => false
def D.dkey : D → L2.Key
  | .int i => .inl i
  | .str s => .inr s
  | _ => .inl 0
def D.tkey (d : D) : Bool := d.isTup && d.hsh KDEEP
/-- keys of one of the two sorts -/
def keysOk (ks : List D) : Bool := ks.all D.skey || ks.all D.tkey
/-- == may be asked of the two -/
def eqOk (a b : D) : Bool := (D.lay DEEP a && D.lay DEEP b) || (a.scal && b.scal)
def D.eqNone : D → Bool
  | .non => true
  | _ => false
/-- order of rows of ints -/
def lexI : List Int → List Int → Bool
  | x :: xs, y :: ys => if x = y then lexI xs ys else decide (x < y)
  | [], _ :: _ => true
  | _, _ => false
def tupI (f : List Int → List Int → Bool) (a b : List D) : Option Bool := (intsOf a).bind fun x => (intsOf b).map fun y => f x y
def coEv : Co → D → D → Option Bool
  | .lt, .tup a, .tup b => tupI lexI a b
  | .gt, .tup a, .tup b => tupI (fun x y => lexI y x) a b
  | .le, .tup a, .tup b => tupI (fun x y => !lexI y x) a b
  | .ge, .tup a, .tup b => tupI (fun x y => !lexI x y) a b
  | .eq, a, b => if eqOk a b then some (D.eqb a b) else none
  | .ne, a, b => if eqOk a b then some (!D.eqb a b) else none
  | .lt, .int i, .int j => some (decide (i < j))
  | .le, .int i, .int j => some (decide (i ≤ j))
  | .gt, .int i, .int j => some (decide (j < i))
  | .ge, .int i, .int j => some (decide (j ≤ i))
  | .inn, x, .tup ds => if ds.all fun d => eqOk d x then some (ds.any fun d => D.eqb d x) else none
  | .inn, x, .lst ds => if ds.all fun d => eqOk d x then some (ds.any fun d => D.eqb d x) else none
  | .notin, x, .tup ds => if ds.all fun d => eqOk d x then some (!ds.any fun d => D.eqb d x) else none
  | .notin, x, .lst ds => if ds.all fun d => eqOk d x then some (!ds.any fun d => D.eqb d x) else none
  | .inn, x, .dct ks _ => if (x :: ks).all D.skey then some (dhas ks x) else none
  | .notin, x, .dct ks _ => if (x :: ks).all D.skey then some (!dhas ks x) else none
  | .isn, x, .non => some x.eqNone
  | .isnot, x, .non => some (!x.eqNone)
  | _, _, _ => none
/-- the place of an index -/
def ixOf (n : Nat) (i : Int) : Option Nat := if 0 ≤ i then (if i < n then some i.toNat else none) else if -(n : Int) ≤ i then some (i + n).toNat else none
def atD (ds : List D) (i : Int) : Option D := (ixOf ds.length i).bind fun j => ds[j]?
/-- where a cut begins or ends -/
def cutAt (n d : Nat) : Option Int → Nat
  | none => d
  | some v => if v < 0 then (v + (n : Int)).toNat else min v.toNat n
def cutD (ds : List D) (lo hi : Option Int) : List D := (ds.drop (cutAt ds.length 0 lo)).take (cutAt ds.length ds.length hi - cutAt ds.length 0 lo)

/-! ### order -/
def D.ltb (a b : D) : Bool := PySem.W.dataLt a.toP b.toP
def D.leb (a b : D) : Bool := !D.ltb b a
def D.ali (a b : D) : Bool := PySem.W.alike a.toP b.toP
def D.isNon : D → Bool
  | .non => true
  | _ => false
def sortOk (ds : List D) : Bool := ds.all fun a => D.lay DEEP a && !a.isNon && ds.all fun b => D.ali a b
def sortD (ds : List D) : List D := ds.mergeSort D.leb

def pairsOf : List D → Option (List (D × D))
  | [] => some []
  | .tup [k, v] :: r => (pairsOf r).map ((k, v) :: ·)
  | _ => none
def dedup : List D → List D → List D
  | acc, [] => acc
  | acc, d :: r => if dhas acc d then dedup acc r else dedup (acc ++ [d]) r

def minsI : Int → List Int → Int
  | m, [] => m
  | m, i :: r => minsI (if i < m then i else m) r
def maxsI : Int → List Int → Int
  | m, [] => m
  | m, i :: r => maxsI (if m < i then i else m) r
def noneNone {α : Type} : Option (Option α) → Option α := fun o => o.bind id

/-- the name of its class -/
def D.tyn : D → Option String
  | .non => some "NoneType"
  | .bl _ => some "bool"
  | .int _ => some "int"
  | .str _ => some "str"
  | .tup _ => some "tuple"
  | .lst _ => some "list"
  | .dct _ _ => some "dict"
  | .ref _ => none
def lenEv (st : Store) : List D → Option D
  | [.tup ds] => some (.int ds.length)
  | [.lst ds] => some (.int ds.length)
  | [.str s] => if s.length ≤ LIM then some (.int s.length) else none
  | [.ref n] => match st[n]? with
    | some (.lst ds) => some (.int ds.length)
    | _ => none
  | _ => none
def sumEv (_ : Store) : List D → Option D
  | [.lst ds] => (intsOf ds).map fun is => .int is.sum
  | _ => none
def allEv (_ : Store) : List D → Option D
  | [.lst ds] => (blsOf ds).map fun bs => .bl (bs.all id)
  | _ => none
def anyEv (_ : Store) : List D → Option D
  | [.lst ds] => (blsOf ds).map fun bs => .bl (bs.any id)
  | _ => none
def tupEv (_ : Store) : List D → Option D
  | [.tup ds] => some (.tup ds)
  | [.lst ds] => some (.tup ds)
  | _ => none
def ldEv (_ : Store) : List D → Option D
  | [.tup ds] => some (.lst ds)
  | [.lst ds] => some (.lst ds)
  | [.dct ks _] => some (.lst ks)
  | _ => none
def intEv (_ : Store) : List D → Option D
  | [.int i] => some (.int i)
  | [.bl b] => some (.int (if b then 1 else 0))
  | _ => none
def min2Ev (_ : Store) : List D → Option D
  | [.int i, .int j] => some (.int (if j < i then j else i))
  | _ => none
def max2Ev (_ : Store) : List D → Option D
  | [.int i, .int j] => some (.int (if j > i then j else i))
  | _ => none
def min1Ev (_ : Store) : List D → Option D
  | [.lst ds] => (intsOf ds).bind fun is => match is with | [] => none | i :: r => some (.int (minsI i r))
  | _ => none
def max1Ev (_ : Store) : List D → Option D
  | [.lst ds] => (intsOf ds).bind fun is => match is with | [] => none | i :: r => some (.int (maxsI i r))
  | _ => none
def isEv (f : String → Bool) (_ : Store) : List D → Option D
  | [d] => d.tyn.map fun t => .bl (f t)
  | _ => none
def srtEv (_ : Store) : List D → Option D
  | [.lst ds] => if sortOk ds then some (.lst (sortD ds)) else none
  | [.tup ds] => if sortOk ds then some (.lst (sortD ds)) else none
  | [.dct ks _] => if sortOk ks then some (.lst (sortD ks)) else none
  | _ => none
def ssetEv (_ : Store) : List D → Option D
  | [.lst ds] => (intsOf ds).bind fun is => if is.length < 64 then some (.lst ((ssetI is).map .int)) else none
  | _ => none
def reprEv (_ : Store) : List D → Option D
  | [.tup ds] => if reprOk (.tup ds) then some (.str (D.tup ds).toP.shown) else none
  | [.lst ds] => if reprOk (.lst ds) then some (.str (D.lst ds).toP.shown) else none
  | _ => none
def dictEv (_ : Store) : List D → Option D
  | [.lst ds] => (pairsOf ds).bind fun ps => if ((ps.map (·.1)).all D.tkey) = true then some (.dct (dputs [] [] ps).1 (dputs [] [] ps).2) else none
  | _ => none
def isT : Bi → String → Bool
  | .isint, t => t == "int" || t == "bool"
  | .isbool, t => t == "bool"
  | .istup, t => t == "tuple"
  | .isstr, t => t == "str"
  | _, _ => false
def biEv (st : Store) : Bi → List D → Option D
  | .len => lenEv st
  | .sum => sumEv st
  | .all => allEv st
  | .any => anyEv st
  | .tuple => tupEv st
  | .list => ldEv st
  | .sorted => srtEv st
  | .sset => ssetEv st
  | .dict => dictEv st
  | .repr => reprEv st
  | .int => intEv st
  | .min1 => min1Ev st
  | .max1 => max1Ev st
  | .min2 => min2Ev st
  | .max2 => max2Ev st
  | .isint => isEv (isT .isint) st
  | .isbool => isEv (isT .isbool) st
  | .istup => isEv (isT .istup) st
  | .isstr => isEv (isT .isstr) st
  | _ => fun _ => none
def subEv (st : Store) : D → D → Option D
  | .tup ds, .int i => atD ds i
  | .lst ds, .int i => atD ds i
  | .dct ks vs, k => if (k :: ks).all D.skey then dlook ks vs k else none
  | .ref n, k => match st[n]? with
    | some (.lst ds) => match k with | .int i => atD ds i | _ => none
    | some (.dct ks vs) => if (k :: ks).all D.skey then dlook ks vs k else none
    | _ => none
  | _, _ => none
def cutEv : D → Option Int → Option Int → Option D
  | .tup ds, lo, hi => some (.tup (cutD ds lo hi))
  | .lst ds, lo, hi => some (.lst (cutD ds lo hi))
  | _, _, _ => none
def revEv : D → Option D
  | .tup ds => some (.tup ds.reverse)
  | .lst ds => some (.lst ds.reverse)
  | _ => none
def negEv : D → Option D
  | .int i => some (.int (-i))
  | _ => none
def oneD (f : D → Option D) : List D → Option D
  | [a] => f a
  | _ => none
def twoD (f : D → D → Option D) : List D → Option D
  | [a, b] => f a b
  | _ => none
def threeD (f : D → D → D → Option D) : List D → Option D
  | [a, b, c] => f a b c
  | _ => none
def prEv (st : Store) : Pr → List D → Option D
  | .bo o => twoD (boEv o)
  | .co o => twoD fun a b => (coEv o a b).map .bl
  | .bi b => biEv st b
  | .sub => twoD (subEv st)
  | .cut true true => threeD fun a i j => (intOf i).bind fun i => (intOf j).bind fun j => cutEv a (some i) (some j)
  | .cut true false => twoD fun a i => (intOf i).bind fun i => cutEv a (some i) none
  | .cut false true => twoD fun a j => (intOf j).bind fun j => cutEv a none (some j)
  | .cut false false => oneD fun a => cutEv a none none
  | .rev => oneD revEv
  | .neg => oneD negEv
def ofOpt {α : Type} (o : Option α) (st : Store) : Res α := match o with
  | some a => .ok a st
  | none => .stuck

/-! ### the interpreter -/
structure Par where
  glob : List D
  wf : Nat
  call : Nat → List D → Store → Res D

def getS (env : Env) (i : Nat) : Option D := match env[i]? with
  | some (some (false, d)) => some d
  | _ => none
def getW (env : Env) (i : Nat) : Option D := match env[i]? with
  | some (some (_, d)) => some d
  | _ => none
def wipeE (env : Env) : List Nat → Env
  | [] => env
  | v :: vs => (wipeE env vs).set v none
/-- the slots a target stores to -/
def Tg.ixs : Tg → List Nat
  | .name i => [i]
  | .pair a b => a.ixs ++ b.ixs
  | .trip a b c => a.ixs ++ (b.ixs ++ c.ixs)
/-- a target's stores -/
def Tg.put : Tg → D → Env → Option Env
  | .name i, d, env => some (env.set i (some (false, d)))
  | .pair a b, d, env => match d with
    | .tup [x, y] => (a.put x env).bind fun e => b.put y e
    | _ => none
  | .trip a b c, d, env => match d with
    | .tup [x, y, z] => (a.put x env).bind fun e => (b.put y e).bind fun e' => c.put z e'
    | _ => none
def enumFrom : Int → List D → List D
  | _, [] => []
  | n, d :: r => .tup [.int n, d] :: enumFrom (n + 1) r
def rngFrom (lo : Int) : Nat → List D
  | 0 => []
  | n + 1 => .int lo :: rngFrom (lo + 1) n
def rngD (lo hi : Int) : List D := rngFrom lo (hi - lo).toNat
def okR (i : Int) : Bool := decide (-(2 ^ 62) ≤ i) && decide (i < 2 ^ 62)
def zipD : List D → List D → List D
  | a :: r, b :: s => .tup [a, b] :: zipD r s
  | _, _ => []
def zipE : D → D → Option (List D)
  | .tup xs, .tup ys => some (zipD xs ys)
  | .lst xs, .lst ys => some (zipD xs ys)
  | _, _ => none
def rng2E : D → D → Option (List D)
  | .int i, .int j => if okR i && okR j then some (rngD i j) else none
  | _, _ => none
/-- tuple(range(..)), list(range(..)) -/
def rngxE (t : Bool) : D → D → Option D
  | .int i, .int j => if okR i && okR j && decide ((j - i).toNat ≤ LIM) then some (if t then .tup (rngD i j) else .lst (rngD i j)) else none
  | _, _ => none
def itemsOf : D → Option (List D)
  | .tup ds => some ds
  | .lst ds => some ds
  | _ => none
def seqOf : D → Option (List D)
  | .tup ds => some ds
  | .lst ds => some ds
  | _ => none
/-- the turns of a comprehension -/
def lcLoop (f : D → Store → Res (List D)) : List D → Store → Res (List D)
  | [], st => .ok [] st
  | d :: r, st => (f d st).bind fun ys st1 => (lcLoop f r st1).bind fun zs st2 => .ok (ys ++ zs) st2
def noExc {α : Type} : Res α → Res α
  | .ok a st => .ok a st
  | _ => .stuck
def newCell (st : Store) : D → Res D
  | .lst ds => .ok (.ref st.length) (st ++ [.lst ds])
  | .dct ks vs => .ok (.ref st.length) (st ++ [.dct ks vs])
  | _ => .stuck

section
variable (P : Par)
mutual
def Ex.ev : Ex → Env → Store → Res D
  | .v i, env, st => ofOpt (getS env i) st
  | .bor i, env, st => ofOpt (getW env i) st
  | .lit d, _, st => .ok d st
  | .glob k, _, st => ofOpt P.glob[k]? st
  | .tup es, env, st => (es.ev env st).bind fun ds st1 => ofOpt (fits ds (.tup ds)) st1
  | .lst es, env, st => (es.ev env st).bind fun ds st1 => ofOpt (fits ds (.lst ds)) st1
  | .prim p es, env, st => (es.ev env st).bind fun ds st1 => ofOpt (prEv st1 p ds) st1
  | .and a b, env, st => (a.ev env st).bind fun d st1 => (ofOpt (blOf d) st1).bind fun t st2 => if t then b.ev env st2 else .ok (.bl false) st2
  | .or a b, env, st => (a.ev env st).bind fun d st1 => (ofOpt (blOf d) st1).bind fun t st2 => if t then .ok (.bl true) st2 else b.ev env st2
  | .not a, env, st => (a.ev env st).bind fun d st1 => (ofOpt d.tru st1).bind fun b st2 => .ok (.bl (!b)) st2
  | .ife c a b, env, st => (c.test env st).bind fun t st1 => if t then a.ev env st1 else b.ev env st1
  | .chain o o' a b c, env, st => (a.ev env st).bind fun x st1 => (b.ev env st1).bind fun y st2 => (ofOpt (coEv o x y) st2).bind fun t st3 => if t then (c.ev env st3).bind fun z st4 => ofOpt ((coEv o' y z).map .bl) st4 else .ok (.bl false) st3
  | .call f es, env, st => (es.ev env st).bind fun ds st1 => P.call f ds st1
  | .lc own tg it ts e, env, st => (it.ev env st).bind fun xs st1 =>
    (noExc (lcLoop (fun x st => match tg.put x (wipeE env own) with
      | some env1 => (ts.all env1 st).bind fun t st2 => if t then (e.ev env1 st2).bind fun y st3 => .ok [y] st3 else .ok [] st2
      | none => .stuck) xs st1)).bind fun ys st2 => ofOpt (fits ys (.lst ys)) st2
  | .lc2 own own2 tg it ts tg2 it2 ts2 e, env, st => (it.ev env st).bind fun xs st1 =>
    (noExc (lcLoop (fun x st => match tg.put x (wipeE env own) with
      | some env1 => (ts.all env1 st).bind fun t st2 => if t then (it2.ev env1 st2).bind fun xs2 st3 =>
          lcLoop (fun x2 st => match tg2.put x2 (wipeE env1 own2) with
            | some env2 => (ts2.all env2 st).bind fun t st2 => if t then (e.ev env2 st2).bind fun y st3 => .ok [y] st3 else .ok [] st2
            | none => .stuck) xs2 st3 else .ok [] st2
      | none => .stuck) xs st1)).bind fun ys st2 => ofOpt (fits ys (.lst ys)) st2
  | .dc own tg it ts k e, env, st => (it.ev env st).bind fun xs st1 =>
    (noExc (lcLoop (fun x st => match tg.put x (wipeE env own) with
      | some env1 => (ts.all env1 st).bind fun t st2 => if t then (k.ev env1 st2).bind fun kd st3 => (e.ev env1 st3).bind fun y st4 => .ok [.tup [kd, y]] st4 else .ok [] st2
      | none => .stuck) xs st1)).bind fun ys st2 => ofOpt ((pairsOf ys).bind fun ps => if (ps.map (·.1)).all D.skey && decide (ys.length ≤ LIM) then some (.dct (dputs [] [] ps).1 (dputs [] [] ps).2) else none) st2
  | .dict ks vs, env, st => (ks.ev env st).bind fun kd st1 => (vs.ev env st1).bind fun vd st2 =>
    ofOpt (if kd.all D.skey && decide (kd.length = vd.length) && decide (kd.length ≤ 15) then some (.dct (dputs [] [] (kd.zip vd)).1 (dputs [] [] (kd.zip vd)).2) else none) st2
  | .rngx t _ a b, env, st => (a.ev env st).bind fun d st1 => (b.ev env st1).bind fun d2 st2 => ofOpt (rngxE t d d2) st2
  | .new e, env, st => (e.ev env st).bind fun d st1 => newCell st1 d
/-- as a test -/
def Ex.test : Ex → Env → Store → Res Bool
  | .and a b, env, st => (a.test env st).bind fun t st1 => if t then b.test env st1 else .ok false st1
  | .or a b, env, st => (a.test env st).bind fun t st1 => if t then .ok true st1 else b.test env st1
  | .not a, env, st => (a.test env st).bind fun t st1 => .ok (!t) st1
  | .ife c a b, env, st => (c.test env st).bind fun t st1 => if t then a.test env st1 else b.test env st1
  | .v i, env, st => ofOpt ((getS env i).bind D.tru) st
  | .bor i, env, st => ofOpt ((getW env i).bind D.tru) st
  | .lit d, _, st => ofOpt d.tru st
  | .prim p es, env, st => (es.ev env st).bind fun ds st1 => (ofOpt (prEv st1 p ds) st1).bind fun d st2 => ofOpt d.tru st2
  | .chain o o' a b c, env, st => (a.ev env st).bind fun x st1 => (b.ev env st1).bind fun y st2 => (ofOpt (coEv o x y) st2).bind fun t st3 => if t then (c.ev env st3).bind fun z st4 => ofOpt (coEv o' y z) st4 else .ok false st3
  | .call f es, env, st => (es.ev env st).bind fun ds st1 => (P.call f ds st1).bind fun d st2 => ofOpt d.tru st2
  | _, _, _ => .stuck
def Exs.ev : Exs → Env → Store → Res (List D)
  | .nil, _, st => .ok [] st
  | .cons e es, env, st => (e.ev env st).bind fun d st1 => (es.ev env st1).bind fun ds st2 => .ok (d :: ds) st2
  | .star e es, env, st => (e.ev env st).bind fun d st1 => (ofOpt (seqOf d) st1).bind fun xs st2 => (es.ev env st2).bind fun ds st3 => .ok (xs ++ ds) st3
def Exs.all : Exs → Env → Store → Res Bool
  | .nil, _, st => .ok true st
  | .cons e es, env, st => (e.test env st).bind fun t st1 => if t then es.all env st1 else .ok false st1
  | .star _ _, _, _ => .stuck
def It.ev : It → Env → Store → Res (List D)
  | .ex e, env, st => (e.ev env st).bind fun d st1 => ofOpt (itemsOf d) st1
  | .rng1 a, env, st => (a.ev env st).bind fun d st1 => ofOpt (rng2E (.int 0) d) st1
  | .rng2 a b, env, st => (a.ev env st).bind fun d st1 => (b.ev env st1).bind fun d2 st2 => ofOpt (rng2E d d2) st2
  | .enum e, env, st => (e.ev env st).bind fun d st1 => ofOpt ((seqOf d).map (enumFrom 0)) st1
  | .zip a b, env, st => (a.ev env st).bind fun d st1 => (b.ev env st1).bind fun d2 st2 => ofOpt (zipE d d2) st2
end

def forLoop (tg : Tg) (f : Env → Store → Res (Flow × Env)) : List D → Env → Store → Res (Flow × Env)
  | [], env, st => .ok (.next, env) st
  | d :: r, env, st => match tg.put d env with
    | none => .stuck
    | some env1 => (f env1 st).bind fun (fl, env2) st1 => match fl with
      | .next => forLoop tg f r env2 st1
      | .cont => forLoop tg f r env2 st1
      | .brk => .ok (.next, env2) st1
      | .ret d => .ok (.ret d, env2) st1
def whlLoop (c : Env → Store → Res Bool) (f : Env → Store → Res (Flow × Env)) : Nat → Env → Store → Res (Flow × Env)
  | 0, _, _ => .stuck
  | n + 1, env, st => (c env st).bind fun t st1 => if t then (f env st1).bind fun (fl, env2) st2 => match fl with
      | .next => whlLoop c f n env2 st2
      | .cont => whlLoop c f n env2 st2
      | .brk => .ok (.next, env2) st2
      | .ret d => .ok (.ret d, env2) st2
    else .ok (.next, env) st1
def parPut : List (Nat × Bool) → List D → Env → Option Env
  | [], [], env => some env
  | (i, o) :: is, d :: ds, env => parPut is ds (env.set i (some (o, d)))
  | _, _, _ => none
def putCell (st : Store) : D → D → D → Option Store
  | .ref n, k, v => match st[n]? with
    | some (.lst ds) => match k with
      | .int i => (ixOf ds.length i).map fun j => st.set n (.lst (ds.set j v))
      | _ => none
    | some (.dct ks vs) => if (k :: ks).all D.skey && decide (ks.length < LIM) then some (st.set n (.dct (dput ks vs k v).1 (dput ks vs k v).2)) else none
    | _ => none
  | _, _, _ => none
def putOwn : D → D → D → Option D
  | .lst ds, .int i, v => (ixOf ds.length i).map fun j => .lst (ds.set j v)
  | .dct ks vs, k, v => if (k :: ks).all D.skey && decide (ks.length < LIM) then some (.dct (dput ks vs k v).1 (dput ks vs k v).2) else none
  | _, _, _ => none
def ownAt (env : Env) (i : Nat) : Option D := match env[i]? with
  | some (some (true, d)) => some d
  | _ => none

mutual
def St.ex : St → Env → Store → Res (Flow × Env)
  | .asg tg e, env, st => (e.ev P env st).bind fun d st1 => match tg.put d env with
    | some env1 => .ok (.next, env1) st1
    | none => .stuck
  | .own i e, env, st => (e.ev P env st).bind fun d st1 => .ok (.next, env.set i (some (true, d))) st1
  | .par is es, env, st => (es.ev P env st).bind fun ds st1 => match parPut is ds env with
    | some env1 => .ok (.next, env1) st1
    | none => .stuck
  | .put a k e, env, st => (e.ev P env st).bind fun v st1 => (a.ev P env st1).bind fun o st2 => (k.ev P env st2).bind fun kd st3 => match putCell st3 o kd v with
    | some st4 => .ok (.next, env) st4
    | none => .stuck
  | .putO i k e, env, st => (e.ev P env st).bind fun v st1 => (k.ev P env st1).bind fun kd st2 => match (ownAt env i).bind fun o => putOwn o kd v with
    | some d => .ok (.next, env.set i (some (true, d))) st2
    | none => .stuck
  | .aug i o e, env, st => (e.ev P env st).bind fun v st1 => match env[i]? with
    | some (some (false, d)) => match d, v, o with
      | .int x, .int y, .add => .ok (.next, env.set i (some (false, .int (x + y)))) st1
      | _, _, _ => .stuck
    | _ => .stuck
  | .app i e, env, st => (e.ev P env st).bind fun v st1 => match ownAt env i with
    | some (.lst ds) => if ds.length < LIM then .ok (.next, env.set i (some (true, .lst (ds ++ [v])))) st1 else .stuck
    | _ => .stuck
  | .ext i e, env, st => (e.ev P env st).bind fun v st1 => match ownAt env i, v with
    | some (.lst ds), .lst xs => if ds.length + xs.length ≤ LIM then .ok (.next, env.set i (some (true, .lst (ds ++ xs)))) st1 else .stuck
    | _, _ => .stuck
  | .exp e, env, st => (e.ev P env st).bind fun _ st1 => .ok (.next, env) st1
  | .ifs c a b, env, st => (c.test P env st).bind fun t st1 => if t then a.ex env st1 else b.ex env st1
  | .for tg it b, env, st => (it.ev P env st).bind fun xs st1 => forLoop tg (fun env st => b.ex env st) xs env st1
  | .whl c b, env, st => whlLoop (fun env st => c.test P env st) (fun env st => b.ex env st) P.wf env st
  | .ret e, env, st => (e.ev P env st).bind fun d st1 => .ok (.ret d, env) st1
  | .pass, env, st => .ok (.next, env) st
  | .brk, env, st => .ok (.brk, env) st
  | .cont, env, st => .ok (.cont, env) st
  | .raise, _, _ => .stuck
  | .frz i, env, st => match env[i]? with
    | some (some (_, d)) => .ok (.next, env.set i (some (false, d))) st
    | _ => .stuck
def Ss.ex : Ss → Env → Store → Res (Flow × Env)
  | .nil, env, st => .ok (.next, env) st
  | .cons s r, env, st => (s.ex env st).bind fun (fl, env1) st1 => match fl with
    | .next => r.ex env1 st1
    | fl => .ok (fl, env1) st1
end
end

/-- a def: how many parameters, how many slots, its body -/
structure Fd where
  np : Nat
  ns : Nat
  body : Ss
def endOf : Res (Flow × Env) → Res D
  | .ok (.ret d, _) st => .ok d st
  | .ok (.next, _) st => .ok .non st
  | .ok _ _ => .stuck
  | .exc c ds st => .exc c ds st
  | .stuck => .stuck
/-- a run of the k-th def, calls at most n deep -/
def run (T : List Fd) (G : List D) (wf : Nat) : Nat → Nat → List D → Store → Res D
  | 0, _, _, _ => .stuck
  | n + 1, k, ds, st => match T[k]? with
    | some fd => if ds.length = fd.np then endOf (fd.body.ex ⟨G, wf, run T G wf n⟩ (ds.map (fun d => some (false, d)) ++ List.replicate (fd.ns - fd.np) none) st) else .stuck
    | none => .stuck
end Dp
set_option Elab.async false
set_option linter.all false
set_option maxRecDepth 100000
set_option maxHeartbeats 2000000
/-! Dp1: how pure values lie in the abstract heap. -/
namespace Dp
open PySem PySem.Spec PyProof.Rows L2

mutual
/-- a key, up to == -/
def D.nk : D → NestedKey
  | .non => .none
  | .bl b => .num (if b then 1 else 0)
  | .int i => .num i
  | .str s => .text s
  | .tup ds => .tup (D.nks ds)
  | .lst _ => .none
  | .dct _ _ => .none
  | .ref _ => .none
def D.nks : List D → List NestedKey
  | [] => []
  | d :: ds => D.nk d :: D.nks ds
end
/-- a dict's own object, by its entries -/
def rawD (a : Addr) (es : List DictEntry × Nat) : Heap → Prop := fun h => ∃ o, h.get? a = some o ∧ o.ExactDict ∧ o.data = .dict es.1.toArray es.2 ∧ (a == sysModules) = false

structure Gx where
  K : PySem.W.Frag
  w : World
  /-- how an exception lies behind a call -/
  xr : Nat → List D → List Addr → List Addr → Hp → Value → Option Addr → Prop

variable (G : Gx)
mutual
def DV (M ρ : List Addr) (H : Hp) : D → V → Prop
  | .non, v => v = .non
  | .bl b, v => v = .bl b
  | .int i, v => v = .int i
  | .str s, v => v = .str s
  | .tup ds, v => ∃ a vs, v = .ref a ∧ SqT G.K H a vs ∧ DVs M ρ H ds vs
  | .lst ds, v => ∃ a vs, v = .ref a ∧ Rd H a (.lst vs) ∧ a ∉ M ∧ DVs M ρ H ds vs
  | .dct ks vs, v => ∃ a, v = .ref a ∧ a ∉ M ∧
      ((∃ kvs : List (L2.Key × V), H a = some (.dK kvs) ∧ ks.all D.skey = true ∧ kvs.map (·.1) = ks.map D.dkey ∧ DVs M ρ H vs (kvs.map (·.2))) ∨
       (∃ es kv vv, H a = some (.ext (rawD a es)) ∧ Vals kv (es.1.map (·.key)) ∧ Vals vv (es.1.map (·.val)) ∧
      es.1.map (·.hash) = ks.map (fun k => k.nk.hash G.w) ∧ (ks.all D.tkey && !ks.isEmpty) = true ∧ (ks.map D.nk).Nodup ∧ es.1.length ≤ LIM ∧ DVs M ρ H ks kv ∧ DVs M ρ H vs vv))
  | .ref n, v => ∃ a, ρ[n]? = some a ∧ v = .ref a
def DVs (M ρ : List Addr) (H : Hp) : List D → List V → Prop
  | [], vs => vs = []
  | d :: ds, vs => ∃ v r, vs = v :: r ∧ DV M ρ H d v ∧ DVs M ρ H ds r
end
/-- a list or a dict that one name or the store alone holds -/
def DW (M ρ : List Addr) (H : Hp) : D → Addr → Prop
  | .lst ds, a => ∃ vs, H a = some (.lst vs) ∧ DVs G M ρ H ds vs
  | .dct ks vs, a => (∃ kvs : List (L2.Key × V), H a = some (.dK kvs) ∧ ks.all D.skey = true ∧ kvs.map (·.1) = ks.map D.dkey ∧ DVs G M ρ H vs (kvs.map (·.2))) ∨
       (∃ es kv vv, H a = some (.ext (rawD a es)) ∧ Vals kv (es.1.map (·.key)) ∧ Vals vv (es.1.map (·.val)) ∧
      es.1.map (·.hash) = ks.map (fun k => k.nk.hash G.w) ∧ (ks.all D.tkey && !ks.isEmpty) = true ∧ (ks.map D.nk).Nodup ∧ es.1.length ≤ LIM ∧ DVs G M ρ H ks kv ∧ DVs G M ρ H vs vv)
  | _, _ => False
/-- what may change -/
def Mt : HO → Prop
  | .lst _ => True
  | .ext _ => True
  | .dK _ => True
  | .ins _ _ _ => True
  | _ => False
/-- a step of the heap: the store's own objects may change and come anew -/
structure Stp (ρ : List Addr) (H : Hp) (ρ' : List Addr) (H' : Hp) : Prop where
  pres : ∀ a o, H a = some o → a ∉ ρ → H' a = some o
  out : ∀ a o, H a = some o → a ∉ ρ → a ∉ ρ'
  refs : ∀ (n : Nat) a, ρ[n]? = some a → ρ'[n]? = some a
def Mk (M : List Addr) (H : Hp) : Prop := ∀ m ∈ M, ∃ o, H m = some o ∧ Mt o

theorem Stp.refl (ρ : List Addr) (H : Hp) : Stp ρ H ρ H := ⟨fun _ _ h _ => h, fun _ _ _ h => h, fun _ _ h => h⟩
theorem Stp.trans {ρ ρ1 ρ2 : List Addr} {H H1 H2 : Hp} (a : Stp ρ H ρ1 H1) (b : Stp ρ1 H1 ρ2 H2) : Stp ρ H ρ2 H2 :=
  ⟨fun x o h n => b.pres x o (a.pres x o h n) (a.out x o h n), fun x o h n => b.out x o (a.pres x o h n) (a.out x o h n), fun n x h => b.refs n x (a.refs n x h)⟩
/-- something new is laid -/
theorem Stp.laid {ρ : List Addr} {H : Hp} {p : Addr} {o : HO} (hp : H p = none) : Stp ρ H ρ (upd H p o) :=
  ⟨fun a u h _ => by rw [upd_ne (ne_of_none h hp)]; exact h, fun _ _ _ h => h, fun _ _ h => h⟩

variable {G}
theorem not_mt_tup {M : List Addr} {H : Hp} (mk : Mk M H) {a : Addr} {vs : List V} (h : Rd H a (.tup vs)) : a ∉ M := fun hm => by
  obtain ⟨o, e, t⟩ := mk a hm
  rcases h with h | ⟨u, h⟩
  · rw [h] at e; cases e; exact t
  · rw [h] at e; cases e; exact t
theorem rd_keep {H H' : Hp} {a : Addr} {u : HO} (h : Rd H a u) (k : ∀ o, H a = some o → H' a = some o) : Rd H' a u := by
  rcases h with h | ⟨o, h⟩
  · exact .inl (k _ h)
  · exact .inr ⟨o, k _ h⟩
theorem rd_some {H : Hp} {a : Addr} {u : HO} (h : Rd H a u) : ∃ o, H a = some o := by
  rcases h with h | ⟨o, h⟩
  · exact ⟨_, h⟩
  · exact ⟨_, h⟩

mutual
/-- what is told stays told -/
theorem DV.keep {M M' ρ ρ' : List Addr} {H H' : Hp} (mk : Mk M H) (hp : ∀ a o, H a = some o → a ∉ M → H' a = some o) (hm : ∀ a o, H a = some o → a ∉ M → a ∉ M')
    (hr : ∀ (n : Nat) a, ρ[n]? = some a → ρ'[n]? = some a) : ∀ (d : D) (v : V), DV G M ρ H d v → DV G M' ρ' H' d v
  | .non, _, h => h
  | .bl _, _, h => h
  | .int _, _, h => h
  | .str _, _, h => h
  | .tup ds, v, h => by
    obtain ⟨a, vs, e, hq, hs⟩ := h
    refine ⟨a, vs, e, ?_, DVs.keep mk hp hm hr ds vs hs⟩
    rcases hq with hq | hq
    · exact .inl (rd_keep hq fun o ho => hp a o ho (not_mt_tup mk hq))
    · exact .inr hq
  | .lst ds, v, h => by
    obtain ⟨a, vs, e, hq, ha, hs⟩ := h
    obtain ⟨o, ho⟩ := rd_some hq
    exact ⟨a, vs, e, rd_keep hq fun o ho => hp a o ho ha, hm a o ho ha, DVs.keep mk hp hm hr ds vs hs⟩
  | .dct ks ws, v, h => by
    obtain ⟨a, e, ha, h | h⟩ := h
    · obtain ⟨kvs, hq, h1, h2, h3⟩ := h
      exact ⟨a, e, hm a _ hq ha, .inl ⟨kvs, hp a _ hq ha, h1, h2, DVs.keep mk hp hm hr ws _ h3⟩⟩
    · obtain ⟨es, kv, vv, hq, h1, h2, h3, h4, h5, h6, h7, h8⟩ := h
      exact ⟨a, e, hm a _ hq ha, .inr ⟨es, kv, vv, hp a _ hq ha, h1, h2, h3, h4, h5, h6, DVs.keep mk hp hm hr ks kv h7, DVs.keep mk hp hm hr ws vv h8⟩⟩
  | .ref n, v, h => by
    obtain ⟨a, h1, h2⟩ := h
    exact ⟨a, hr n a h1, h2⟩
theorem DVs.keep {M M' ρ ρ' : List Addr} {H H' : Hp} (mk : Mk M H) (hp : ∀ a o, H a = some o → a ∉ M → H' a = some o) (hm : ∀ a o, H a = some o → a ∉ M → a ∉ M')
    (hr : ∀ (n : Nat) a, ρ[n]? = some a → ρ'[n]? = some a) : ∀ (ds : List D) (vs : List V), DVs G M ρ H ds vs → DVs G M' ρ' H' ds vs
  | [], _, h => h
  | d :: ds, vs, h => by
    obtain ⟨v, r, e, h1, h2⟩ := h
    exact ⟨v, r, e, DV.keep mk hp hm hr d v h1, DVs.keep mk hp hm hr ds r h2⟩
end
section
variable {B M ρ ρ' : List Addr} {H H' : Hp} {d : D} {ds : List D} {v : V} {vs : List V}
theorem stp_out (s : Stp ρ H ρ' H') : ∀ a o, H a = some o → a ∉ ρ ++ B → a ∉ ρ' ++ B := fun a o e n z => by
  rcases List.mem_append.mp z with z | z
  · exact s.out a o e (fun q => n (List.mem_append_left _ q)) z
  · exact n (List.mem_append_right _ z)
theorem DV.stp (mk : Mk (ρ ++ B) H) (s : Stp ρ H ρ' H') (h : DV G (ρ ++ B) ρ H d v) : DV G (ρ' ++ B) ρ' H' d v :=
  DV.keep mk (fun a o e n => s.pres a o e fun q => n (List.mem_append_left _ q)) (stp_out s) s.refs d v h
theorem DVs.stp (mk : Mk (ρ ++ B) H) (s : Stp ρ H ρ' H') (h : DVs G (ρ ++ B) ρ H ds vs) : DVs G (ρ' ++ B) ρ' H' ds vs :=
  DVs.keep mk (fun a o e n => s.pres a o e fun q => n (List.mem_append_left _ q)) (stp_out s) s.refs ds vs h
theorem DV.laid {p : Addr} {o : HO} (mk : Mk M H) (hp : H p = none) (h : DV G M ρ H d v) : DV G M ρ (upd H p o) d v :=
  DV.keep mk (fun a u e _ => by rw [upd_ne (ne_of_none e hp)]; exact e) (fun _ _ _ h => h) (fun _ _ h => h) d v h
theorem DVs.laid {p : Addr} {o : HO} (mk : Mk M H) (hp : H p = none) (h : DVs G M ρ H ds vs) : DVs G M ρ (upd H p o) ds vs :=
  DVs.keep mk (fun a u e _ => by rw [upd_ne (ne_of_none e hp)]; exact e) (fun _ _ _ h => h) (fun _ _ h => h) ds vs h
/-- a blocked object changes -/
theorem DV.chg {p : Addr} {o : HO} (mk : Mk M H) (hp : p ∈ M) (h : DV G M ρ H d v) : DV G M ρ (upd H p o) d v :=
  DV.keep mk (fun a u e n => by rw [upd_ne (show a ≠ p from fun z => n (by rw [z]; exact hp))]; exact e) (fun _ _ _ h => h) (fun _ _ h => h) d v h
theorem DVs.chg {p : Addr} {o : HO} (mk : Mk M H) (hp : p ∈ M) (h : DVs G M ρ H ds vs) : DVs G M ρ (upd H p o) ds vs :=
  DVs.keep mk (fun a u e n => by rw [upd_ne (show a ≠ p from fun z => n (by rw [z]; exact hp))]; exact e) (fun _ _ _ h => h) (fun _ _ h => h) ds vs h
theorem DVs.length : ∀ {ds : List D} {vs : List V}, DVs G M ρ H ds vs → vs.length = ds.length
  | [], vs, h => by have h : vs = [] := h; rw [h]; rfl
  | d :: ds, vs, h => by
    obtain ⟨v, r, e, _, h2⟩ := h
    rw [e, List.length_cons, List.length_cons, DVs.length h2]
theorem DVs.nil : DVs G M ρ H [] [] := rfl
theorem DVs.cons (h : DV G M ρ H d v) (t : DVs G M ρ H ds vs) : DVs G M ρ H (d :: ds) (v :: vs) := ⟨v, vs, rfl, h, t⟩
theorem DVs.append : ∀ {ds es : List D} {vs ws : List V}, DVs G M ρ H ds vs → DVs G M ρ H es ws → DVs G M ρ H (ds ++ es) (vs ++ ws)
  | [], _, vs, _, h, t => by have h : vs = [] := h; rw [h]; exact t
  | d :: ds, _, vs, _, h, t => by
    obtain ⟨v, r, e, h1, h2⟩ := h
    rw [e]
    exact DVs.cons h1 (DVs.append h2 t)
theorem DVs.get : ∀ {ds : List D} {vs : List V} {i : Nat} {d : D}, DVs G M ρ H ds vs → ds[i]? = some d → ∃ v, vs[i]? = some v ∧ DV G M ρ H d v
  | [], _, _, _, _, e => by simp at e
  | d :: ds, vs, 0, _, h, e => by
    obtain ⟨v, r, e1, h1, _⟩ := h
    simp at e
    subst e e1
    exact ⟨v, rfl, h1⟩
  | d :: ds, vs, i + 1, _, h, e => by
    obtain ⟨v, r, e1, _, h2⟩ := h
    subst e1
    obtain ⟨u, q1, q2⟩ := DVs.get h2 (i := i) (by simpa using e)
    exact ⟨u, by simpa using q1, q2⟩
theorem DVs.get' {i : Nat} (h : DVs G M ρ H ds vs) (e : vs[i]? = some v) : ∃ d, ds[i]? = some d ∧ DV G M ρ H d v := by
  have hl := h.length
  have hi : i < vs.length := (List.getElem?_eq_some_iff.mp e).1
  have hi2 : i < ds.length := by omega
  obtain ⟨u, q1, q2⟩ := h.get (i := i) (d := ds[i]) (by simp [hi2])
  rw [e] at q1
  cases q1
  exact ⟨_, by simp [hi2], q2⟩
theorem DVs.take : ∀ {ds : List D} {vs : List V} (n : Nat), DVs G M ρ H ds vs → DVs G M ρ H (ds.take n) (vs.take n)
  | _, _, 0, _ => rfl
  | [], vs, n + 1, h => by have h : vs = [] := h; rw [h]; rfl
  | d :: ds, vs, n + 1, h => by
    obtain ⟨v, r, e1, h1, h2⟩ := h
    subst e1
    exact DVs.cons h1 (DVs.take n h2)
theorem DVs.drop : ∀ {ds : List D} {vs : List V} (n : Nat), DVs G M ρ H ds vs → DVs G M ρ H (ds.drop n) (vs.drop n)
  | _, _, 0, h => h
  | [], vs, n + 1, h => by have h : vs = [] := h; rw [h]; rfl
  | d :: ds, vs, n + 1, h => by
    obtain ⟨v, r, e1, _, h2⟩ := h
    subst e1
    exact DVs.drop n h2
theorem DVs.set {u : V} {e : D} (hu : DV G M ρ H e u) : ∀ {ds : List D} {vs : List V} (n : Nat), DVs G M ρ H ds vs → DVs G M ρ H (ds.set n e) (vs.set n u)
  | [], vs, _, h => by have h : vs = [] := h; rw [h]; rfl
  | d :: ds, vs, 0, h => by
    obtain ⟨v, r, e1, _, h2⟩ := h
    subst e1
    exact DVs.cons hu h2
  | d :: ds, vs, n + 1, h => by
    obtain ⟨v, r, e1, h1, h2⟩ := h
    subst e1
    exact DVs.cons h1 (DVs.set hu n h2)
theorem DVs.reverse : ∀ {ds : List D} {vs : List V}, DVs G M ρ H ds vs → DVs G M ρ H ds.reverse vs.reverse
  | [], vs, h => by have h : vs = [] := h; rw [h]; rfl
  | d :: ds, vs, h => by
    obtain ⟨v, r, e1, h1, h2⟩ := h
    subst e1
    rw [List.reverse_cons, List.reverse_cons]
    exact DVs.append (DVs.reverse h2) (DVs.cons h1 DVs.nil)
end

/-- the store, the slots -/
structure RS (B : List Addr) (st : Store) (ρ : List Addr) (H : Hp) : Prop where
  mt : Mk (ρ ++ B) H
  len : st.length = ρ.length
  nd : ρ.Nodup
  off : ∀ b ∈ B, b ∉ ρ
  cel : ∀ (n : Nat) c a, st[n]? = some c → ρ[n]? = some a → DW G (ρ ++ B) ρ H c a
structure RE (B : List Addr) (env : Env) (ρ : List Addr) (σ : L2.St) (H : Hp) : Prop where
  len : σ.length = env.length
  fre : ∀ (i : Nat) d, env[i]? = some (some (false, d)) → ∃ v, σ[i]? = some (some v) ∧ DV G (ρ ++ B) ρ H d v
  own : ∀ (i : Nat) d, env[i]? = some (some (true, d)) → ∃ a, σ[i]? = some (some (.ref a)) ∧ a ∈ B ∧ DW G (ρ ++ B) ρ H d a
end Dp
set_option Elab.async false
set_option linter.all false
set_option maxRecDepth 100000
set_option maxHeartbeats 4000000
/-! Dp2: the eager operations over the abstract heap. -/
namespace Dp
open PySem PySem.Spec PyProof.Rows L2

/-- what a body's context must be -/
structure XA (G : Gx) (X : Cx) : Prop where
  K : X.K = G.K
  w : X.w = G.w
  calm : X.calm = true
  un : X.A.units + 100 < cLine
  gd : X.A.guards = some []

section
variable {G : Gx}
/-- a value that is looked at alone: it may be one that a name owns -/
def DB (G : Gx) (B ρ : List Addr) (H : Hp) (d : D) (v : V) : Prop := DV G (ρ ++ B) ρ H d v ∨ ∃ a, v = .ref a ∧ a ∈ B ∧ DW G (ρ ++ B) ρ H d a
/-- behind an eager operation: all that was tracked is as it was -/
def Fin (G : Gx) (B ρ : List Addr) (H : Hp) (Q : VK) (d : D) : Prop := ∀ v H', Same H H' → DV G (ρ ++ B) ρ H' d v → Q v H'

variable {B ρ : List Addr} {H H' : Hp} {d : D} {ds : List D} {v : V} {st : Store} {env : Env} {σ : L2.St} {Q : VK} {X : Cx}

theorem same_stp (s : Same H H') : Stp ρ H ρ H' := ⟨fun a o h _ => s a o h, fun _ _ _ h => h, fun _ _ h => h⟩
theorem same_laid {p : Addr} {o : HO} (hp : H p = none) : Same H (upd H p o) := fun a u h => by rw [upd_ne (ne_of_none h hp)]; exact h
theorem Mk.same (m : Mk ρ H) (s : Same H H') : Mk ρ H' := fun a ha => by
  obtain ⟨o, e, t⟩ := m a ha
  exact ⟨o, s a o e, t⟩
theorem DV.same (m : Mk (ρ ++ B) H) (s : Same H H') (h : DV G (ρ ++ B) ρ H d v) : DV G (ρ ++ B) ρ H' d v := h.stp m (same_stp s)
theorem DVs.same {vs : List V} (m : Mk (ρ ++ B) H) (s : Same H H') (h : DVs G (ρ ++ B) ρ H ds vs) : DVs G (ρ ++ B) ρ H' ds vs := h.stp m (same_stp s)
theorem DW.stp {ρ' : List Addr} {a : Addr} (mk : Mk (ρ ++ B) H) (s : Stp ρ H ρ' H') (k : ∀ o, H a = some o → H' a = some o) (h : DW G (ρ ++ B) ρ H d a) : DW G (ρ' ++ B) ρ' H' d a := by
  cases d with
  | lst ds =>
    obtain ⟨vs, e, h1⟩ := h
    exact ⟨vs, k _ e, h1.stp mk s⟩
  | dct ks vs =>
    rcases h with h | h
    · obtain ⟨kvs, e, h1, h2, h3⟩ := h
      exact .inl ⟨kvs, k _ e, h1, h2, h3.stp mk s⟩
    · obtain ⟨es, kv, vv, e, h1, h2, h3, h4, h5, h6, h7, h8⟩ := h
      exact .inr ⟨es, kv, vv, k _ e, h1, h2, h3, h4, h5, h6, h7.stp mk s, h8.stp mk s⟩
  | _ => exact h
theorem DB.stp {ρ' : List Addr} (mk : Mk (ρ ++ B) H) (off : ∀ b ∈ B, b ∉ ρ) (s : Stp ρ H ρ' H') (h : DB G B ρ H d v) : DB G B ρ' H' d v := by
  rcases h with h | ⟨a, e, hb, h⟩
  · exact .inl (h.stp mk s)
  · exact .inr ⟨a, e, hb, h.stp mk s fun o ho => s.pres a o ho (off a hb)⟩
theorem RS.same (r : RS (G := G) B st ρ H) (s : Same H H') : RS (G := G) B st ρ H' :=
  ⟨r.mt.same s, r.len, r.nd, r.off, fun n c a e1 e2 => (r.cel n c a e1 e2).stp r.mt (same_stp s) fun o ho => s a o ho⟩
theorem RE.stp {ρ' : List Addr} (r : RE (G := G) B env ρ σ H) (mk : Mk (ρ ++ B) H) (off : ∀ b ∈ B, b ∉ ρ) (s : Stp ρ H ρ' H') : RE (G := G) B env ρ' σ H' :=
  ⟨r.len, fun i d e => by
    obtain ⟨v, h1, h2⟩ := r.fre i d e
    exact ⟨v, h1, h2.stp mk s⟩, fun i d e => by
    obtain ⟨a, h1, h2, h3⟩ := r.own i d e
    exact ⟨a, h1, h2, h3.stp mk s fun o ho => s.pres a o ho (off a h2)⟩⟩

/-! ### what a value says of the heap -/
theorem DB.non (h : DB G B ρ H .non v) : v = .non := by
  rcases h with h | ⟨a, _, _, h⟩
  · exact h
  · exact h.elim
theorem DB.bl {b : Bool} (h : DB G B ρ H (.bl b) v) : v = .bl b := by
  rcases h with h | ⟨a, _, _, h⟩
  · exact h
  · exact h.elim
theorem DB.int {i : Int} (h : DB G B ρ H (.int i) v) : v = .int i := by
  rcases h with h | ⟨a, _, _, h⟩
  · exact h
  · exact h.elim
theorem DB.str {x : Str} (h : DB G B ρ H (.str x) v) : v = .str x := by
  rcases h with h | ⟨a, _, _, h⟩
  · exact h
  · exact h.elim
theorem DB.ref {n : Nat} (h : DB G B ρ H (.ref n) v) : ∃ a, ρ[n]? = some a ∧ v = .ref a := by
  rcases h with h | ⟨a, _, _, h⟩
  · exact h
  · exact h.elim
theorem DB.tup (h : DB G B ρ H (.tup ds) v) : ∃ a vs, v = .ref a ∧ SqT G.K H a vs ∧ DVs G (ρ ++ B) ρ H ds vs := by
  rcases h with h | ⟨a, _, _, h⟩
  · exact h
  · exact h.elim
theorem DB.lst (h : DB G B ρ H (.lst ds) v) : ∃ a vs, v = .ref a ∧ Rd H a (.lst vs) ∧ DVs G (ρ ++ B) ρ H ds vs := by
  rcases h with h | ⟨a, e, _, h⟩
  · obtain ⟨a, vs, e, h1, _, h2⟩ := h
    exact ⟨a, vs, e, h1, h2⟩
  · obtain ⟨vs, h1, h2⟩ := h
    exact ⟨a, vs, e, .inl h1, h2⟩
/-- a dict's entries -/
def DctAt (G : Gx) (M ρ : List Addr) (H : Hp) (ks vs : List D) (a : Addr) : Prop := DW G M ρ H (.dct ks vs) a
theorem DB.dct {ks vs : List D} (h : DB G B ρ H (.dct ks vs) v) : ∃ a, v = .ref a ∧ DctAt G (ρ ++ B) ρ H ks vs a := by
  rcases h with h | ⟨a, e, _, h⟩
  · obtain ⟨a, e, _, h1⟩ := h
    exact ⟨a, e, h1⟩
  · exact ⟨a, e, h⟩
theorem DV.db (h : DV G (ρ ++ B) ρ H d v) : DB G B ρ H d v := .inl h

/-! ### plain data -/
mutual
theorem dp_of {M : List Addr} (n : Nat) : ∀ (d : D) (v : V), D.lay n d = true → DV G M ρ H d v → Dp G.K H v d.toP
  | .non, v, _, h => by have h : v = .non := h; subst h; exact .non
  | .bl b, v, _, h => by have h : v = .bl b := h; subst h; exact .bl b
  | .int i, v, _, h => by have h : v = .int i := h; subst h; exact .int i
  | .str x, v, _, h => by have h : v = .str x := h; subst h; exact .str x
  | .tup ds, v, l, h => by
    obtain ⟨a, vs, e, h1, h2⟩ := h
    subst e
    cases n with
    | zero => simp [D.lay] at l
    | succ n => exact .tup h1 (dps_of n ds vs (by simpa [D.lay] using l) h2)
  | .lst ds, v, l, h => by
    obtain ⟨a, vs, e, h1, _, h2⟩ := h
    subst e
    cases n with
    | zero => simp [D.lay] at l
    | succ n => exact .lst (.inl h1) (dps_of n ds vs (by simpa [D.lay] using l) h2)
  | .dct _ _, _, l, _ => by cases n <;> simp [D.lay] at l
  | .ref _, _, l, _ => by cases n <;> simp [D.lay] at l
theorem dps_of {M : List Addr} (n : Nat) : ∀ (ds : List D) (vs : List V), (∀ d ∈ ds, D.lay n d = true) → DVs G M ρ H ds vs → DpAll G.K H vs (D.toPs ds)
  | [], vs, _, h => by have h : vs = [] := h; subst h; exact .nil
  | d :: ds, vs, l, h => by
    obtain ⟨v, r, e, h1, h2⟩ := h
    subst e
    exact .cons (dp_of n d v (l d List.mem_cons_self) h1) (dps_of n ds r (fun x hx => l x (List.mem_cons_of_mem _ hx)) h2)
end
theorem DB.dp {n : Nat} (l : D.lay n d = true) (h : DB G B ρ H d v) : Dp G.K H v d.toP := by
  rcases h with h | ⟨a, e, _, h⟩
  · exact dp_of n d v l h
  · subst e
    cases d with
    | lst ds =>
      obtain ⟨vs, h1, h2⟩ := h
      cases n with
      | zero => simp [D.lay] at l
      | succ n => exact .lst (.inl (.inl h1)) (dps_of n ds vs (by simpa [D.lay] using l) h2)
    | dct ks vs => cases n <;> simp [D.lay] at l
    | _ => exact h.elim
mutual
theorem canLay_of (n : Nat) : ∀ d : D, D.lay n d = true → d.toP.canLay0 = true
  | .non, _ => by simp [D.toP, PyData.canLay0]
  | .bl _, _ => by simp [D.toP, PyData.canLay0]
  | .int _, _ => by simp [D.toP, PyData.canLay0]
  | .str x, l => by cases n <;> simpa [D.toP, PyData.canLay0, D.lay] using l
  | .tup ds, l => by
    cases n with
    | zero => simp [D.lay] at l
    | succ n => simpa [D.toP, PyData.canLay0] using canLays_of n ds (by simpa [D.lay] using l)
  | .lst ds, l => by
    cases n with
    | zero => simp [D.lay] at l
    | succ n => simpa [D.toP, PyData.canLay0] using canLays_of n ds (by simpa [D.lay] using l)
  | .dct _ _, l => by cases n <;> simp [D.lay] at l
  | .ref _, l => by cases n <;> simp [D.lay] at l
theorem canLays_of (n : Nat) : ∀ ds : List D, (∀ d ∈ ds, D.lay n d = true) → PyData.canLayAll0 (D.toPs ds) = true
  | [], _ => by simp [D.toPs, PyData.canLayAll0]
  | d :: ds, l => by
    simp only [D.toPs, PyData.canLayAll0, Bool.and_eq_true]
    exact ⟨canLay_of n d (l d List.mem_cons_self), canLays_of n ds fun x hx => l x (List.mem_cons_of_mem _ hx)⟩
end
mutual
theorem depth_of (n : Nat) : ∀ d : D, D.lay n d = true → d.toP.depth ≤ n
  | .non, _ => by simp [D.toP, PyData.depth]
  | .bl _, _ => by simp [D.toP, PyData.depth]
  | .int _, _ => by simp [D.toP, PyData.depth]
  | .str x, l => by simp [D.toP, PyData.depth]
  | .tup ds, l => by
    cases n with
    | zero => simp [D.lay] at l
    | succ n =>
      have := depths_of n ds (by simpa [D.lay] using l)
      simp only [D.toP, PyData.depth]
      omega
  | .lst ds, l => by
    cases n with
    | zero => simp [D.lay] at l
    | succ n =>
      have := depths_of n ds (by simpa [D.lay] using l)
      simp only [D.toP, PyData.depth]
      omega
  | .dct _ _, l => by cases n <;> simp [D.lay] at l
  | .ref _, l => by cases n <;> simp [D.lay] at l
theorem depths_of (n : Nat) : ∀ ds : List D, (∀ d ∈ ds, D.lay n d = true) → PyData.depthAll (D.toPs ds) ≤ n
  | [], _ => by simp [D.toPs, PyData.depthAll]
  | d :: ds, l => by
    have h1 := depth_of n d (l d List.mem_cons_self)
    have h2 := depths_of n ds fun x hx => l x (List.mem_cons_of_mem _ hx)
    simp only [D.toPs, PyData.depthAll]
    omega
end
theorem shaped_of (l : D.lay DEEP d = true) : SeqAt.shaped d.toP = true := by
  unfold SeqAt.shaped
  rw [canLay_of _ d l, Bool.true_and]
  have h1 := depth_of _ d l
  have h2 : DEEP = 20 := rfl
  exact decide_eq_true (by omega)
mutual
theorem eqb_toP : ∀ a b : D, ∀ n, D.lay n a = true → ∀ m, D.lay m b = true → PyData.eqv a.toP b.toP = D.eqb a b
  | .non, b, n, la, m, lb => by cases b <;> first | rfl | (simp [D.toP, PyData.eqv, D.eqb]; done) | (cases m <;> simp [D.lay] at lb)
  | .bl _, b, n, la, m, lb => by cases b <;> first | rfl | (simp [D.toP, PyData.eqv, D.eqb]; done) | (cases m <;> simp [D.lay] at lb)
  | .int _, b, n, la, m, lb => by cases b <;> first | rfl | (simp [D.toP, PyData.eqv, D.eqb]; done) | (cases m <;> simp [D.lay] at lb)
  | .str _, b, n, la, m, lb => by cases b <;> first | rfl | (simp [D.toP, PyData.eqv, D.eqb]; done) | (cases m <;> simp [D.lay] at lb)
  | .tup xs, b, n, la, m, lb => by
    cases b with
    | tup ys =>
      cases n with
      | zero => simp [D.lay] at la
      | succ n =>
        cases m with
        | zero => simp [D.lay] at lb
        | succ m =>
          simp only [D.toP, PyData.eqv, D.eqb]
          exact eqbs_toP xs ys n (by simpa [D.lay] using la) m (by simpa [D.lay] using lb)
    | dct _ _ => cases m <;> simp [D.lay] at lb
    | ref _ => cases m <;> simp [D.lay] at lb
    | _ => simp [D.toP, PyData.eqv, D.eqb]
  | .lst xs, b, n, la, m, lb => by
    cases b with
    | lst ys =>
      cases n with
      | zero => simp [D.lay] at la
      | succ n =>
        cases m with
        | zero => simp [D.lay] at lb
        | succ m =>
          simp only [D.toP, PyData.eqv, D.eqb]
          exact eqbs_toP xs ys n (by simpa [D.lay] using la) m (by simpa [D.lay] using lb)
    | dct _ _ => cases m <;> simp [D.lay] at lb
    | ref _ => cases m <;> simp [D.lay] at lb
    | _ => simp [D.toP, PyData.eqv, D.eqb]
  | .dct _ _, b, n, la, m, lb => by cases n <;> simp [D.lay] at la
  | .ref _, b, n, la, m, lb => by cases n <;> simp [D.lay] at la
theorem eqbs_toP : ∀ as bs : List D, ∀ n, (∀ d ∈ as, D.lay n d = true) → ∀ m, (∀ d ∈ bs, D.lay m d = true) → PyData.eqvAll (D.toPs as) (D.toPs bs) = D.eqbs as bs
  | [], [], _, _, _, _ => by simp [D.toPs, PyData.eqvAll, D.eqbs]
  | [], _ :: _, _, _, _, _ => by simp [D.toPs, PyData.eqvAll, D.eqbs]
  | _ :: _, [], _, _, _, _ => by simp [D.toPs, PyData.eqvAll, D.eqbs]
  | a :: as, b :: bs, n, la, m, lb => by
    simp only [D.toPs, PyData.eqvAll, D.eqbs]
    rw [eqb_toP a b n (la a List.mem_cons_self) m (lb b List.mem_cons_self), eqbs_toP as bs n (fun x hx => la x (List.mem_cons_of_mem _ hx)) m (fun x hx => lb x (List.mem_cons_of_mem _ hx))]
end
end
end Dp
set_option Elab.async false
set_option linter.all false
set_option maxRecDepth 100000
set_option maxHeartbeats 4000000
/-! Dp3: operators and comparisons. -/
namespace Dp
open PySem PySem.Spec PyProof.Rows L2

section
variable {G : Gx} {X : Cx}
def r2D (G : Gx) (f : D → D → Option D) : R2 := fun x y H Q => ∃ B ρ st d e r, RS (G := G) B st ρ H ∧ DB G B ρ H d x ∧ DB G B ρ H e y ∧ f d e = some r ∧ Fin G B ρ H Q r

theorem Fin.now {B ρ : List Addr} {H : Hp} {Q : VK} {d : D} {v : V} (f : Fin G B ρ H Q d) (h : DV G (ρ ++ B) ρ H d v) : Q v H := f v H (Same.refl H) h
theorem fits_some {ds : List D} {d r : D} (h : fits ds d = some r) : ds.length ≤ LIM ∧ r = d := by
  unfold fits at h
  split at h
  · exact ⟨by assumption, (Option.some.inj h).symm⟩
  · cases h
theorem lim_line : LIM = sizeLine := sizeLine_eq.symm
theorem fresh_notin {B ρ : List Addr} {st : Store} {H : Hp} {p : Addr} (r : RS (G := G) B st ρ H) (hp : H p = none) : p ∉ ρ ++ B := fun hm => by
  obtain ⟨o, e, _⟩ := r.mt p hm
  rw [hp] at e; cases e
/-- a new tuple, a new list -/
theorem Fin.tup {B ρ : List Addr} {st : Store} {H : Hp} {Q : VK} {ds : List D} {vs : List V} {p : Addr} (r : RS (G := G) B st ρ H) (f : Fin G B ρ H Q (.tup ds)) (h : DVs G (ρ ++ B) ρ H ds vs) (hp : H p = none) : Q (.ref p) (upd H p (.tup vs)) :=
  f _ _ (same_laid hp) ⟨p, vs, rfl, .inl (.inl upd_same), h.laid r.mt hp⟩
theorem Fin.lst {B ρ : List Addr} {st : Store} {H : Hp} {Q : VK} {ds : List D} {vs : List V} {p : Addr} (r : RS (G := G) B st ρ H) (f : Fin G B ρ H Q (.lst ds)) (h : DVs G (ρ ++ B) ρ H ds vs) (hp : H p = none) : Q (.ref p) (upd H p (.lst vs)) :=
  f _ _ (same_laid hp) ⟨p, vs, rfl, .inl upd_same, fresh_notin r hp, h.laid r.mt hp⟩

theorem rdLst {pins : List (Addr × Obj)} {σ : L2.St} {H : Hp} {s : Shared} {a : Addr} {xs : List V} (I : Inv X pins σ H s) (h : Rd H a (.lst xs)) :
    xs.length ≤ sizeLine ∧ ∃ (its : List Value) (n : Nat), Vals xs its ∧ xs.length = its.length ∧ s.heap.get? a = some { cls := .type "list", data := .seq its.toArray n } := by
  obtain ⟨z, its, n, r, e⟩ := h.ok I.hok
  exact ⟨z, its, n, r, r.length, e⟩
/-- list + list -/
def rCatR : R2 := fun x y H Q => ∃ l b xs zs, x = .ref l ∧ y = .ref b ∧ Rd H l (.lst xs) ∧ Rd H b (.lst zs) ∧ xs.length + zs.length ≤ sizeLine ∧ ∀ p, H p = none → Q (.ref p) (upd H p (.lst (xs ++ zs)))
theorem op_catR : OpR X (binaryOp .Add) rCatR := by
  intro pins s σ H x y v u Q I rx ry h
  obtain ⟨l, b, xs, zs, rfl, rfl, h1, h2, hz, q⟩ := h
  cases rx
  cases ry
  obtain ⟨_, is, n, r, e1, g1⟩ := rdLst I h1
  obtain ⟨_, js, m, r2, e2, g2⟩ := rdLst I h2
  have hsz : is.toArray.size + js.toArray.size ≤ sizeLine := by
    rw [List.size_toArray, List.size_toArray, ← e1, ← e2]
    exact hz
  refine PySem.P.add_list g1 g2 ?_ hsz
  rw [show is.toArray ++ js.toArray = (is ++ js).toArray by simp]
  have hl : (xs ++ zs).length ≤ sizeLine := by rw [List.length_append]; exact hz
  exact ⟨.ref s.heap.objs.size, _, I.lnew (t' := s.toks) (r.append r2) hl, rfl, q _ I.fresh⟩

def boOp : Bo → Operator
  | .add => .Add | .sub => .Sub | .mul => .Mult | .fdiv => .FloorDiv | .mod => .Mod | .pow => .Pow
  | .shl => .LShift | .shr => .RShift | .band => .BitAnd | .bor => .BitOr | .bxor => .BitXor

theorem bo_ok (xa : XA G X) (o : Bo) : OpR X (binaryOp (boOp o)) (r2D G (boEv o)) := by
  intro pins s σ H x y v u Q I rx ry h
  obtain ⟨B, ρ, st, d, e, r, rs, hd, he, hf, fin⟩ := h
  have i2 : ∀ {i j : Int}, d = .int i → e = .int j → x = .int i ∧ y = .int j := fun e1 e2 => by
    subst e1 e2
    exact ⟨hd.int, he.int⟩
  cases o with
  | add =>
    cases d <;> cases e <;> simp only [boEv, reduceCtorEq] at hf
    case int.int i j =>
      obtain ⟨rfl, rfl⟩ := i2 rfl rfl
      cases hf
      exact op_add pins s σ H _ _ v u Q I rx ry ⟨i, j, rfl, rfl, fin.now rfl⟩
    case str.str a b =>
      split at hf
      · cases hf
        have hx := hd.str
        have hy := he.str
        subst hx hy
        exact op_add_str pins s σ H _ _ v u Q I rx ry ⟨a, b, rfl, rfl, by rw [← lim_line]; assumption, fin.now rfl⟩
      · cases hf
    case tup.tup a b =>
      obtain ⟨hl, rfl⟩ := fits_some hf
      obtain ⟨p, vs, rfl, h1, h2⟩ := hd.tup
      obtain ⟨q, ws, rfl, h3, h4⟩ := he.tup
      have hn : vs.length + ws.length ≤ sizeLine := by rw [h2.length, h4.length, ← List.length_append, ← lim_line]; exact hl
      refine op_catA pins s σ H _ _ v u Q I rx ry ⟨p, q, vs, ws, rfl, rfl, by rw [xa.K]; exact h1, by rw [xa.K]; exact h3, hn, fun e0 => ?_, fun _ e1 => ?_, fun _ _ r hr => Fin.tup rs fin (h2.append h4) hr⟩
      · subst e0
        have : a = [] := List.length_eq_zero_iff.mp (by rw [← h2.length]; rfl)
        subst this
        exact fin.now ⟨q, ws, rfl, h3, h4⟩
      · subst e1
        have : b = [] := List.length_eq_zero_iff.mp (by rw [← h4.length]; rfl)
        subst this
        rw [List.append_nil] at fin
        exact fin.now ⟨p, vs, rfl, h1, h2⟩
    case lst.lst a b =>
      obtain ⟨hl, rfl⟩ := fits_some hf
      obtain ⟨p, vs, rfl, h1, h2⟩ := hd.lst
      obtain ⟨q, ws, rfl, h3, h4⟩ := he.lst
      have hn : vs.length + ws.length ≤ sizeLine := by rw [h2.length, h4.length, ← List.length_append, ← lim_line]; exact hl
      exact op_catR pins s σ H _ _ v u Q I rx ry ⟨p, q, vs, ws, rfl, rfl, h1, h3, hn, fun r hr => Fin.lst rs fin (h2.append h4) hr⟩
  | sub =>
    cases d <;> cases e <;> simp only [boEv, reduceCtorEq] at hf
    case int.int i j =>
      obtain ⟨rfl, rfl⟩ := i2 rfl rfl
      cases hf
      exact op_sub pins s σ H _ _ v u Q I rx ry ⟨i, j, rfl, rfl, fin.now rfl⟩
  | mul =>
    cases d <;> cases e <;> simp only [boEv, reduceCtorEq] at hf
    case int.int i j =>
      split at hf
      · obtain ⟨rfl, rfl⟩ := i2 rfl rfl
        cases hf
        exact op_mul pins s σ H _ _ v u Q I rx ry ⟨i, j, rfl, rfl, by assumption, fin.now rfl⟩
      · cases hf
  | fdiv =>
    cases d <;> cases e <;> simp only [boEv, reduceCtorEq] at hf
    case int.int i j =>
      split at hf
      · obtain ⟨rfl, rfl⟩ := i2 rfl rfl
        cases hf
        exact op_fdiv pins s σ H _ _ v u Q I rx ry ⟨i, j, rfl, rfl, by assumption, fin.now rfl⟩
      · cases hf
  | mod =>
    cases d <;> cases e <;> simp only [boEv, reduceCtorEq] at hf
    case int.int i j =>
      split at hf
      · obtain ⟨rfl, rfl⟩ := i2 rfl rfl
        cases hf
        exact op_mod pins s σ H _ _ v u Q I rx ry ⟨i, j, rfl, rfl, by assumption, fin.now rfl⟩
      · cases hf
  | pow =>
    cases d <;> cases e <;> simp only [boEv, reduceCtorEq] at hf
    case int.int i j =>
      split at hf
      · obtain ⟨rfl, rfl⟩ := i2 rfl rfl
        cases hf
        exact op_pow pins s σ H _ _ v u Q I rx ry ⟨i, j, rfl, rfl, by assumption, fin.now rfl⟩
      · cases hf
  | shl =>
    cases d <;> cases e <;> simp only [boEv, reduceCtorEq] at hf
    case int.int i j =>
      split at hf
      · obtain ⟨rfl, rfl⟩ := i2 rfl rfl
        cases hf
        exact op_shl pins s σ H _ _ v u Q I rx ry ⟨i, j, rfl, rfl, by assumption, fin.now rfl⟩
      · cases hf
  | shr =>
    cases d <;> cases e <;> simp only [boEv, reduceCtorEq] at hf
    case int.int i j =>
      split at hf
      · obtain ⟨rfl, rfl⟩ := i2 rfl rfl
        cases hf
        exact op_shr pins s σ H _ _ v u Q I rx ry ⟨i, j, rfl, rfl, by assumption, fin.now rfl⟩
      · cases hf
  | band =>
    cases d <;> cases e <;> simp only [boEv, reduceCtorEq] at hf
    case int.int i j =>
      obtain ⟨rfl, rfl⟩ := i2 rfl rfl
      cases hf
      exact op_and pins s σ H _ _ v u Q I rx ry ⟨i, j, rfl, rfl, fin.now rfl⟩
  | bor =>
    cases d <;> cases e <;> simp only [boEv, reduceCtorEq] at hf
    case int.int i j =>
      obtain ⟨rfl, rfl⟩ := i2 rfl rfl
      cases hf
      exact op_or pins s σ H _ _ v u Q I rx ry ⟨i, j, rfl, rfl, fin.now rfl⟩
  | bxor =>
    cases d <;> cases e <;> simp only [boEv, reduceCtorEq] at hf
    case int.int i j =>
      obtain ⟨rfl, rfl⟩ := i2 rfl rfl
      cases hf
      exact op_xor pins s σ H _ _ v u Q I rx ry ⟨i, j, rfl, rfl, fin.now rfl⟩

/-! ### comparisons -/
theorem scal_flat {B ρ : List Addr} {H : Hp} {d : D} {v : V} (h : DB G B ρ H d v) (hs : d.scal = true) : flatV v = true := by
  cases d with
  | non => rw [h.non]; rfl
  | bl _ => rw [h.bl]; rfl
  | int _ => rw [h.int]; rfl
  | str _ => rw [h.str]; rfl
  | _ => simp [D.scal] at hs
theorem scal_eqV {B ρ : List Addr} {H : Hp} {d e : D} {v u : V} (h : DB G B ρ H d v) (g : DB G B ρ H e u) (hd : d.scal = true) (he : e.scal = true) : eqV v u = D.eqb d e := by
  cases d <;> cases e <;> first
    | (exfalso; simp [D.scal] at hd; done)
    | (exfalso; simp [D.scal] at he; done)
    | (try rw [h.non]); (try rw [h.bl]); (try rw [h.int]); (try rw [h.str]); (try rw [g.non]); (try rw [g.bl]); (try rw [g.int]); (try rw [g.str]); rfl
/-- == of two values that may be asked -/
theorem eqAt_ok (xa : XA G X) {pins : List (Addr × Obj)} {s : Shared} {σ : L2.St} {B ρ : List Addr} {H : Hp} {d e : D} {v u : V} {vv uu : Value} {A : Around} (hA : A.units ≤ X.A.units + 1) (I : Inv X pins σ H s) (h : DB G B ρ H d v) (g : DB G B ρ H e u) (rv : RelV v vv) (ru : RelV u uu)
    (ok : eqOk d e = true) : SeqAt.EqAt A s vv uu (D.eqb d e) := by
  unfold eqOk at ok
  rw [Bool.or_eq_true, Bool.and_eq_true, Bool.and_eq_true] at ok
  have hu := xa.un
  rcases ok with ⟨l1, l2⟩ | ⟨s1, s2⟩
  · have p1 := h.dp l1
    have p2 := g.dp l2
    rw [← xa.K] at p1 p2
    obtain ⟨as, r1⟩ := Dp.reads I _ _ _ p1 rv
    obtain ⟨bs, r2⟩ := Dp.reads I _ _ _ p2 ru
    have d1 := depth_of _ d l1
    have hD : DEEP = 20 := rfl
    have := SeqAt.eqAt_reads _ _ A s _ _ _ _ r1 r2 (canLay_of _ d l1) (canLay_of _ e l2) (by have : min d.toP.depth e.toP.depth ≤ d.toP.depth := Nat.min_le_left _ _; omega)
    rw [eqb_toP d e _ l1 _ l2] at this
    exact this
  · rw [← scal_eqV h g s1 s2]
    exact eqAt_V rv ru (scal_flat h s1) (scal_flat g s2)

/-! order of tuples of ints -/
def lexG (rel : Int → Int → Bool) (z : Bool) : List Int → List Int → Bool
  | x :: xs, y :: ys => if x = y then lexG rel z xs ys else rel x y
  | _, _ => z
theorem lexAt_shift {rel : Int → Int → Bool} {z : Bool} (x y : Int) (xs ys : List Int) : ∀ k i, Ob.lexAt (fun j => decide ((x :: xs).getD j 0 = (y :: ys).getD j 0)) (fun j => rel ((x :: xs).getD j 0) ((y :: ys).getD j 0)) z (i + 1) k =
    Ob.lexAt (fun j => decide (xs.getD j 0 = ys.getD j 0)) (fun j => rel (xs.getD j 0) (ys.getD j 0)) z i k
  | 0, _ => rfl
  | k + 1, i => by
    rw [Ob.lexAt_succ, Ob.lexAt_succ, lexAt_shift x y xs ys k (i + 1)]
    simp only [List.getD_cons_succ]
theorem lexAt_lexG {rel : Int → Int → Bool} {z : Bool} : ∀ ns ms : List Int, Ob.lexAt (fun j => decide (ns.getD j 0 = ms.getD j 0)) (fun j => rel (ns.getD j 0) (ms.getD j 0)) z 0 (min ns.length ms.length) = lexG rel z ns ms
  | [], ms => by simp [lexG, Ob.lexAt_zero]
  | _ :: _, [] => by simp [lexG, Ob.lexAt_zero]
  | x :: xs, y :: ys => by
    rw [show min (x :: xs).length (y :: ys).length = min xs.length ys.length + 1 by simp only [List.length_cons]; omega, Ob.lexAt_succ, lexAt_shift, lexAt_lexG xs ys]
    simp only [List.getD_cons_zero, decide_eq_true_eq, lexG]
theorem lexG_lt : ∀ ns ms : List Int, ∀ k, lexG (fun a b => decide (a < b)) (decide (ns.length + k < ms.length + k)) ns ms = lexI ns ms
  | [], [], _ => by simp [lexG, lexI]
  | [], _ :: _, _ => by simp [lexG, lexI]
  | _ :: _, [], _ => by simp [lexG, lexI]
  | x :: xs, y :: ys, k => by
    have := lexG_lt xs ys (k + 1)
    have e1 : decide ((x :: xs).length + k < (y :: ys).length + k) = decide (xs.length + (k + 1) < ys.length + (k + 1)) := by
      rw [Bool.eq_iff_iff, decide_eq_true_eq, decide_eq_true_eq, List.length_cons, List.length_cons]
      omega
    rw [e1]
    simp only [lexG, lexI]
    rw [this]
theorem lexG_le : ∀ ns ms : List Int, ∀ k, lexG (fun a b => decide (a ≤ b)) (decide (ns.length + k ≤ ms.length + k)) ns ms = !lexI ms ns
  | [], [], _ => by simp [lexG, lexI]
  | [], _ :: _, _ => by simp [lexG, lexI]
  | _ :: _, [], _ => by simp [lexG, lexI]
  | x :: xs, y :: ys, k => by
    have := lexG_le xs ys (k + 1)
    have e1 : decide ((x :: xs).length + k ≤ (y :: ys).length + k) = decide (xs.length + (k + 1) ≤ ys.length + (k + 1)) := by
      rw [Bool.eq_iff_iff, decide_eq_true_eq, decide_eq_true_eq, List.length_cons, List.length_cons]
      omega
    rw [e1]
    simp only [lexG, lexI]
    rw [this]
    by_cases h : x = y
    · rw [if_pos h, if_pos h.symm]
    · rw [if_neg h, if_neg (fun q => h q.symm)]
      by_cases h2 : y < x
      · simp [h2]
      · simp [h2]; omega
theorem lexG_gt : ∀ ns ms : List Int, ∀ k, lexG (fun a b => decide (b < a)) (decide (ns.length + k > ms.length + k)) ns ms = lexI ms ns
  | [], [], _ => by simp [lexG, lexI]
  | [], _ :: _, _ => by simp [lexG, lexI]
  | _ :: _, [], _ => by simp [lexG, lexI]
  | x :: xs, y :: ys, k => by
    have := lexG_gt xs ys (k + 1)
    have e1 : decide ((x :: xs).length + k > (y :: ys).length + k) = decide (xs.length + (k + 1) > ys.length + (k + 1)) := by
      rw [Bool.eq_iff_iff, decide_eq_true_eq, decide_eq_true_eq, List.length_cons, List.length_cons]
      omega
    rw [e1]
    simp only [lexG, lexI]
    rw [this]
    by_cases h : x = y
    · rw [if_pos h, if_pos h.symm]
    · rw [if_neg h, if_neg (fun q => h q.symm)]
theorem lexG_ge : ∀ ns ms : List Int, ∀ k, lexG (fun a b => decide (b ≤ a)) (decide (ns.length + k ≥ ms.length + k)) ns ms = !lexI ns ms
  | [], [], _ => by simp [lexG, lexI]
  | [], _ :: _, _ => by simp [lexG, lexI]
  | _ :: _, [], _ => by simp [lexG, lexI]
  | x :: xs, y :: ys, k => by
    have := lexG_ge xs ys (k + 1)
    have e1 : decide ((x :: xs).length + k ≥ (y :: ys).length + k) = decide (xs.length + (k + 1) ≥ ys.length + (k + 1)) := by
      rw [Bool.eq_iff_iff, decide_eq_true_eq, decide_eq_true_eq, List.length_cons, List.length_cons]
      omega
    rw [e1]
    simp only [lexG, lexI]
    rw [this]
    by_cases h : x = y
    · rw [if_pos h, if_pos h]
    · rw [if_neg h, if_neg h]
      by_cases h2 : x < y
      · simp [h2]
      · simp [h2]; omega
theorem ints_of : ∀ {ds : List D} {is : List Int}, intsOf ds = some is → ds = is.map D.int
  | [], is, h => by cases h; rfl
  | d :: ds, is, h => by
    cases d <;> simp only [intsOf, reduceCtorEq] at h
    rename_i i
    cases e : intsOf ds with
    | none => rw [e] at h; cases h
    | some js =>
      rw [e] at h
      cases h
      rw [ints_of e]
      rfl
theorem dvs_ints {M ρ : List Addr} {H : Hp} : ∀ {is : List Int} {vs : List V}, DVs G M ρ H (is.map D.int) vs → vs = is.map V.int
  | [], vs, h => h
  | i :: is, vs, h => by
    obtain ⟨v, r, e, h1, h2⟩ := h
    have h1 : v = .int i := h1
    rw [e, h1, dvs_ints h2]
    rfl
def rcOp (A : Around) (s : Shared) (op : CmpOp) (x y : Value) (b : Bool) : Prop := Ob.RcOp op A s x y b
theorem tupI_ok (xa : XA G X) {pins : List (Addr × Obj)} {s : Shared} {σ : L2.St} {B ρ : List Addr} {H : Hp} {Q : VK} {a b : List D} {x y : V} {v u : Value} {op : CmpOp} {rel : Int → Int → Bool} {f : List Int → List Int → Bool} {c : Bool} (I : Inv X pins σ H s)
    (ha : DB G B ρ H (.tup a) x) (hb : DB G B ρ H (.tup b) y) (rx : RelV x v) (ry : RelV y u) (hf : tupI f a b = some c) (q : Q (.bl c) H)
    (hop : ∀ {M : Model} {A : Around} {E : Value → Shared → Prop} {s : Shared} {p r : Addr} {Q : Value → Shared → Prop}, wpAny M A (richCompare op (.ref p) (.ref r)) Q E s → wpAny M A (compareOp op (.ref p) (.ref r)) Q E s)
    (hr : ∀ (A : Around) (s : Shared) (i j : Int) (t t' : Tok), Ob.RcOp op A s (.int i t) (.int j t') (rel i j)) (z : Nat → Nat → Bool) (hz : ∀ ns ms, lexG rel (z ns.length ms.length) ns ms = f ns ms)
    (T : ∀ {l b : Addr} {is js : Array Value} {e r : Nat → Bool}, s.heap.IsTuple l is → s.heap.IsTuple b js → (∀ j (h1 : j < is.size) (h2 : j < js.size), SeqAt.EqAt X.A.in1 s is[j] js[j] (e j)) →
      (∀ j (h1 : j < is.size) (h2 : j < js.size), e j = false → Ob.RcOp op X.A.in1 s is[j] js[j] (r j)) → Ob.RcOp op X.A s (.ref l) (.ref b) (Ob.lexAt e r (z is.size js.size) 0 (min is.size js.size))) :
    wpAny (model X.prog X.w) X.A (compareOp op v u) (EP X pins σ Q) X.xe s := by
  obtain ⟨p, vs, rfl, h1, h2⟩ := ha.tup
  obtain ⟨r, ws, rfl, h3, h4⟩ := hb.tup
  cases rx
  cases ry
  unfold tupI at hf
  cases e1 : intsOf a with
  | none => rw [e1] at hf; cases hf
  | some ns =>
    cases e2 : intsOf b with
    | none => rw [e1, e2] at hf; cases hf
    | some ms =>
      rw [e1, e2] at hf
      cases hf
      have ea := ints_of e1
      have eb := ints_of e2
      subst ea eb
      have ev := dvs_ints h2
      have ew := dvs_ints h4
      subst ev ew
      rw [← xa.K] at h1 h3
      obtain ⟨its, r1, p1, _⟩ := I.tuple h1
      obtain ⟨jts, r2, p2, _⟩ := I.tuple h3
      have i1 : IntsAre its ns := Vals.ints r1
      have i2 : IntsAre jts ms := Vals.ints r2
      have l1 : its.toArray.size = ns.length := by rw [List.size_toArray]; exact i1.length
      have l2 : jts.toArray.size = ms.length := by rw [List.size_toArray]; exact i2.length
      have at1 : ∀ j (hj : j < its.toArray.size), ∃ t, its.toArray[j] = .int (ns.getD j 0) t := fun j hj => PyProof.Rows.IntsAre.int_at i1 _ _ (by simp at hj; simp [hj])
      have at2 : ∀ j (hj : j < jts.toArray.size), ∃ t, jts.toArray[j] = .int (ms.getD j 0) t := fun j hj => PyProof.Rows.IntsAre.int_at i2 _ _ (by simp at hj; simp [hj])
      have R := T (e := fun j => decide (ns.getD j 0 = ms.getD j 0)) (r := fun j => rel (ns.getD j 0) (ms.getD j 0)) p1 p2 (fun j g1 g2 => by
        obtain ⟨t, et⟩ := at1 j g1
        obtain ⟨t', et'⟩ := at2 j g2
        rw [et, et', show decide (ns.getD j 0 = ms.getD j 0) = (ns.getD j 0 == ms.getD j 0) from (Bool.beq_eq_decide_eq _ _).symm]
        exact SeqAt.EqAt.int_int _ _ _ _) (fun j g1 g2 _ => by
        obtain ⟨t, et⟩ := at1 j g1
        obtain ⟨t', et'⟩ := at2 j g2
        rw [et, et']
        exact hr _ _ _ _ _ _)
      rw [l1, l2, lexAt_lexG, hz] at R
      exact hop (R X.prog X.w X.xe (EP X pins σ Q) ⟨.bl _, H, I, rfl, q⟩)

def coOp : Co → CmpOp
  | .eq => .Eq | .ne => .NotEq | .lt => .Lt | .le => .LtE | .gt => .Gt | .ge => .GtE | .inn => .In | .notin => .NotIn | .isn => .Is | .isnot => .IsNot

theorem eqBool_of {B ρ : List Addr} {H : Hp} {d e : D} {v u : V} (h : DB G B ρ H d v) (g : DB G B ρ H e u) (s1 : d.scal = true) (s2 : e.scal = true) (n : ¬ (d.lay DEEP && e.lay DEEP) = true) : scal v u = true ∧ decide (v = u) = D.eqb d e := by
  have l0 : ∀ d : D, d.scal = true → d.lay DEEP = true ∨ ∃ x, d = .str x := fun d hd => by
    cases d with
    | str x => exact .inr ⟨x, rfl⟩
    | non => exact .inl rfl
    | bl _ => exact .inl rfl
    | int _ => exact .inl rfl
    | _ => simp [D.scal] at hd
  have key : (∃ x, d = .str x) ∨ ∃ x, e = .str x := by
    rcases l0 d s1 with a | a
    · rcases l0 e s2 with b | b
      · exact (n (by rw [a, b]; rfl)).elim
      · exact .inr b
    · exact .inl a
  have dec : ∀ {x y : Str}, decide (V.str x = V.str y) = (x == y) := fun {x y} => dec_str
  rcases key with ⟨x, rfl⟩ | ⟨x, rfl⟩
  · have := h.str
    subst this
    cases e with
    | non => rw [g.non]; exact ⟨rfl, by simp [D.eqb]⟩
    | bl b => rw [g.bl]; exact ⟨rfl, by simp [D.eqb]⟩
    | int b => rw [g.int]; exact ⟨rfl, by simp [D.eqb]⟩
    | str b => rw [g.str]; exact ⟨rfl, by rw [dec]; simp [D.eqb]⟩
    | _ => simp [D.scal] at s2
  · have := g.str
    subst this
    cases d with
    | non => rw [h.non]; exact ⟨rfl, by simp [D.eqb]⟩
    | bl b => rw [h.bl]; exact ⟨rfl, by simp [D.eqb]⟩
    | int b => rw [h.int]; exact ⟨rfl, by simp [D.eqb]⟩
    | str b => rw [h.str]; exact ⟨rfl, by rw [dec]; simp [D.eqb]⟩
    | _ => simp [D.scal] at s1
mutual
theorem dp_inj {pins : List (Addr × Obj)} {s : Shared} {σ : L2.St} {H : Hp} (I : Inv X pins σ H s) : ∀ (p : PyData) (v : V) (p' : PyData), Dp X.K H v p → Dp X.K H v p' → p = p'
  | .none, _, _, h, g => by cases h; cases g; rfl
  | .bool _, _, _, h, g => by cases h; cases g; rfl
  | .int _, _, _, h, g => by cases h; cases g; rfl
  | .str _, _, _, h, g => by cases h; cases g; rfl
  | .list ds, _, _, h, g => by
    cases h with
    | lst h1 h2 =>
      cases g with
      | lst g1 g2 =>
        have e := I.list_inj h1 g1
        subst e
        rw [dps_inj I ds _ _ h2 g2]
      | tup g1 g2 =>
        obtain ⟨its, _, ⟨o, n, e1, e2, _⟩, _⟩ := I.list h1
        obtain ⟨jts, _, ⟨o', e1', e2', _⟩, _⟩ := I.tuple g1
        rw [e1] at e1'
        cases e1'
        rw [e2] at e2'
        exact absurd e2' (by decide)
  | .tuple ds, _, _, h, g => by
    cases h with
    | tup h1 h2 =>
      cases g with
      | tup g1 g2 =>
        have e := I.tuple_inj h1 g1
        subst e
        rw [dps_inj I ds _ _ h2 g2]
      | lst g1 g2 =>
        obtain ⟨its, _, ⟨o, n, e1, e2, _⟩, _⟩ := I.list g1
        obtain ⟨jts, _, ⟨o', e1', e2', _⟩, _⟩ := I.tuple h1
        rw [e1] at e1'
        cases e1'
        rw [e2] at e2'
        exact absurd e2' (by decide)
  | .dict _, _, _, h, _ => by cases h
theorem dps_inj {pins : List (Addr × Obj)} {s : Shared} {σ : L2.St} {H : Hp} (I : Inv X pins σ H s) : ∀ (ps : List PyData) (vs : List V) (ps' : List PyData), DpAll X.K H vs ps → DpAll X.K H vs ps' → ps = ps'
  | [], _, _, h, g => by cases h; cases g; rfl
  | p :: ps, _, _, h, g => by
    cases h with
    | cons h1 h2 =>
      cases g with
      | cons g1 g2 => rw [dp_inj I p _ _ h1 g1, dps_inj I ps _ _ h2 g2]
end
theorem scal_of {B ρ : List Addr} {H : Hp} {d : D} {v : V} (h : DB G B ρ H d v) (hs : d.scal = true) : ∀ d', DB G B ρ H d' v → d' = d := by
  intro d' g
  cases d with
  | non =>
    have := h.non
    subst this
    cases d' with
    | non => rfl
    | bl _ => exact nomatch g.bl
    | int _ => exact nomatch g.int
    | str _ => exact nomatch g.str
    | tup _ => obtain ⟨_, _, e, _⟩ := g.tup; cases e
    | lst _ => obtain ⟨_, _, e, _⟩ := g.lst; cases e
    | dct _ _ => obtain ⟨_, e, _⟩ := g.dct; cases e
    | ref _ => obtain ⟨_, _, e⟩ := g.ref; cases e
  | bl b =>
    have := h.bl
    subst this
    cases d' with
    | non => exact nomatch g.non
    | bl _ => have e := g.bl; cases e; rfl
    | int _ => exact nomatch g.int
    | str _ => exact nomatch g.str
    | tup _ => obtain ⟨_, _, e, _⟩ := g.tup; cases e
    | lst _ => obtain ⟨_, _, e, _⟩ := g.lst; cases e
    | dct _ _ => obtain ⟨_, e, _⟩ := g.dct; cases e
    | ref _ => obtain ⟨_, _, e⟩ := g.ref; cases e
  | int i =>
    have := h.int
    subst this
    cases d' with
    | non => exact nomatch g.non
    | bl _ => exact nomatch g.bl
    | int _ => have e := g.int; cases e; rfl
    | str _ => exact nomatch g.str
    | tup _ => obtain ⟨_, _, e, _⟩ := g.tup; cases e
    | lst _ => obtain ⟨_, _, e, _⟩ := g.lst; cases e
    | dct _ _ => obtain ⟨_, e, _⟩ := g.dct; cases e
    | ref _ => obtain ⟨_, _, e⟩ := g.ref; cases e
  | str x =>
    have := h.str
    subst this
    cases d' with
    | non => exact nomatch g.non
    | bl _ => exact nomatch g.bl
    | int _ => exact nomatch g.int
    | str _ => have e := g.str; cases e; rfl
    | tup _ => obtain ⟨_, _, e, _⟩ := g.tup; cases e
    | lst _ => obtain ⟨_, _, e, _⟩ := g.lst; cases e
    | dct _ _ => obtain ⟨_, e, _⟩ := g.dct; cases e
    | ref _ => obtain ⟨_, _, e⟩ := g.ref; cases e
  | _ => simp [D.scal] at hs
/-- the items of a list or a tuple, each asked -/
theorem in_items (xa : XA G X) {pins : List (Addr × Obj)} {s : Shared} {σ : L2.St} {B ρ : List Addr} {H : Hp} {x : D} {v : V} {vv : Value} {A : Around} (hA : A.units ≤ X.A.units + 1) (I : Inv X pins σ H s) (h : DB G B ρ H x v) (rv : RelV v vv) :
    ∀ (ds : List D) (ws : List V) (us : List Value), (∀ d ∈ ds, eqOk d x = true) → DVs G (ρ ++ B) ρ H ds ws → Vals ws us → ∃ e : Value → Bool, (∀ y ∈ us, SeqAt.EqAt A s y vv (e y)) ∧ us.any e = ds.any fun d => D.eqb d x := by
  classical
  intro ds ws us ok hs r
  have at_ : ∀ i (d : D) (u : Value), ds[i]? = some d → us[i]? = some u → ∃ w', DV G (ρ ++ B) ρ H d w' ∧ RelV w' u := fun i d u e1 e2 => by
    obtain ⟨w', g1, g2⟩ := hs.get e1
    obtain ⟨u', q1, q2⟩ := r.get g1
    rw [e2] at q1; cases q1
    exact ⟨w', g2, q2⟩
  have each : ∀ i (d : D) (u : Value), ds[i]? = some d → us[i]? = some u → SeqAt.EqAt A s u vv (D.eqb d x) := fun i d u e1 e2 => by
    obtain ⟨w', g2, q2⟩ := at_ i d u e1 e2
    exact eqAt_ok xa hA I (.inl g2) h q2 rv (ok d (List.mem_of_getElem? e1))
  have one : ∀ (u : Value) (i : Nat) (d : D) (j : Nat) (d' : D), ds[i]? = some d → us[i]? = some u → ds[j]? = some d' → us[j]? = some u → D.eqb d x = D.eqb d' x := fun u i d j d' e1 e2 e3 e4 => by
    obtain ⟨w1, g1, q1⟩ := at_ i d u e1 e2
    obtain ⟨w2, g2, q2⟩ := at_ j d' u e3 e4
    have ew := q1.inj q2
    subst ew
    by_cases hsd : d.scal = true
    · rw [scal_of (.inl g1) hsd d' (.inl g2)]
    · by_cases hsd' : d'.scal = true
      · rw [scal_of (.inl g2) hsd' d (.inl g1)]
      · have o1 := ok d (List.mem_of_getElem? e1)
        have o2 := ok d' (List.mem_of_getElem? e3)
        unfold eqOk at o1 o2
        simp only [Bool.or_eq_true, Bool.and_eq_true] at o1 o2
        obtain ⟨l1, lx⟩ : d.lay DEEP = true ∧ x.lay DEEP = true := o1.elim id fun z => absurd z.1 hsd
        obtain ⟨l2, _⟩ : d'.lay DEEP = true ∧ x.lay DEEP = true := o2.elim id fun z => absurd z.1 hsd'
        have p1 := dp_of _ d _ l1 g1
        have p2 := dp_of _ d' _ l2 g2
        rw [← xa.K] at p1 p2
        rw [← eqb_toP d x _ l1 _ lx, ← eqb_toP d' x _ l2 _ lx, dp_inj I _ _ _ p1 p2]
  have hl : us.length = ds.length := by rw [← r.length, hs.length]
  obtain ⟨f, hf⟩ : ∃ f : Value → Bool, ∀ u, f u = if q : ∃ (i : Nat) (d : D), ds[i]? = some d ∧ us[i]? = some u then D.eqb q.choose_spec.choose x else false := ⟨_, fun _ => rfl⟩
  refine ⟨f, fun y hy => ?_, ?_⟩
  · obtain ⟨i, hi, e⟩ := List.mem_iff_getElem.mp hy
    have q : ∃ (i : Nat) (d : D), ds[i]? = some d ∧ us[i]? = some y := ⟨i, ds[i]'(by omega), by simp [show i < ds.length by omega], by rw [← e]; simp [hi]⟩
    rw [hf, dif_pos q]
    obtain ⟨q1, q2⟩ := q.choose_spec.choose_spec
    exact each _ _ _ q1 q2
  · rw [Bool.eq_iff_iff, List.any_eq_true, List.any_eq_true]
    constructor
    · rintro ⟨y, hy, e⟩
      rw [hf] at e
      by_cases q : ∃ (i : Nat) (d : D), ds[i]? = some d ∧ us[i]? = some y
      · rw [dif_pos q] at e
        exact ⟨_, List.mem_of_getElem? q.choose_spec.choose_spec.1, e⟩
      · rw [dif_neg q] at e; cases e
    · rintro ⟨d, hd, e⟩
      obtain ⟨i, hi, e1⟩ := List.mem_iff_getElem.mp hd
      have hi2 : i < us.length := by omega
      refine ⟨us[i], List.getElem_mem hi2, ?_⟩
      have q : ∃ (j : Nat) (d : D), ds[j]? = some d ∧ us[j]? = some us[i] := ⟨i, d, by rw [← e1]; simp [hi], by simp [hi2]⟩
      rw [hf, dif_pos q]
      obtain ⟨q1, q2⟩ := q.choose_spec.choose_spec
      rw [one us[i] _ _ i d q1 q2 (by rw [← e1]; simp [hi]) (by simp [hi2])]
      exact e
theorem isNon_eq {B ρ : List Addr} {H : Hp} {d : D} {v : V} (h : DB G B ρ H d v) : decide (v = .non) = d.eqNone := by
  cases d with
  | non => rw [h.non]; rfl
  | bl _ => rw [h.bl]; rfl
  | int _ => rw [h.int]; rfl
  | str _ => rw [h.str]; rfl
  | tup _ => obtain ⟨_, _, rfl, _⟩ := h.tup; rfl
  | lst _ => obtain ⟨_, _, rfl, _⟩ := h.lst; rfl
  | dct _ _ => obtain ⟨_, rfl, _⟩ := h.dct; rfl
  | ref _ => obtain ⟨_, _, rfl⟩ := h.ref; rfl
/-! ### dicts with ints and texts for keys -/
theorem dkey_eq : ∀ {k x : D}, k.skey = true → x.skey = true → decide (k.dkey = x.dkey) = D.eqb k x := by
  intro k x h g
  cases k <;> simp [D.skey] at h <;> cases x <;> simp [D.skey] at g
  · rename_i a b
    exact key_ll a b
  · simp [D.dkey, D.eqb]
  · simp [D.dkey, D.eqb]
  · rename_i a b
    refine (key_rr a b).trans ?_
    simp only [D.eqb]
    by_cases q : a = b
    · subst q; simp
    · simp [q]
theorem dk_get {M ρ : List Addr} {H : Hp} {x : D} (hx : x.skey = true) : ∀ {ks vs : List D} {kvs : List (L2.Key × V)}, ks.all D.skey = true → kvs.map (·.1) = ks.map D.dkey → DVs G M ρ H vs (kvs.map (·.2)) →
    (valV kvs x.dkey).isSome = dhas ks x ∧ ∀ d, dlook ks vs x = some d → ∃ v, valV kvs x.dkey = some v ∧ DV G M ρ H d v
  | [], vs, kvs, _, e, _ => by
    have : kvs = [] := by simpa using e
    subst this
    exact ⟨rfl, fun d h => by simp [dlook] at h⟩
  | k :: ks, vs, [], _, e, _ => by simp at e
  | k :: ks, [], p :: kvs, _, _, h => by exact absurd h.length (by simp)
  | k :: ks, w :: vs, p :: kvs, hs, e, h => by
    simp only [List.map_cons, List.cons.injEq] at e
    simp only [List.all_cons, Bool.and_eq_true] at hs
    obtain ⟨v, r, e1, h1, h2⟩ := h
    simp only [List.map_cons, List.cons.injEq] at e1
    obtain ⟨rfl, rfl⟩ := e1
    obtain ⟨i1, i2⟩ := dk_get hx hs.2 e.2 h2
    have q := dkey_eq hs.1 hx
    rw [← e.1] at q
    by_cases c : p.1 = x.dkey
    · rw [decide_eq_true c] at q
      rw [valV_pos c]
      refine ⟨?_, fun d hd => ?_⟩
      · simp [dhas, ← q]
      · simp only [dlook, ← q, if_true, Option.some.injEq] at hd
        exact ⟨_, rfl, hd ▸ h1⟩
    · rw [decide_eq_false c] at q
      rw [valV_neg c]
      refine ⟨?_, fun d hd => ?_⟩
      · rw [i1]; simp [dhas, ← q]
      · simp only [dlook, ← q, Bool.false_eq_true, if_false] at hd
        exact i2 d hd
/-- such a dict: found so -/
theorem dct_get {M ρ : List Addr} {H : Hp} {x : D} {ks vs : List D} {a : Addr} {v : V} (hx : x.skey = true) (hk : ks.all D.skey = true) (hv : DV G M ρ H x v) (h : DW G M ρ H (.dct ks vs) a) :
    ∃ o, DGet H a v o ∧ o.isSome = dhas ks x ∧ ∀ d, dlook ks vs x = some d → ∃ u, o = some u ∧ DV G M ρ H d u := by
  rcases h with ⟨kvs, h1, h2, h3, h4⟩ | ⟨es, kv, vv, _, _, _, _, h5, _⟩
  · obtain ⟨i1, i2⟩ := dk_get hx h2 h3 h4
    refine ⟨_, ?_, i1, i2⟩
    have : v = kV x.dkey := by
      cases x <;> simp [D.skey] at hx <;> exact hv
    rw [this]
    exact DGet.k h1
  · simp only [Bool.and_eq_true, Bool.not_eq_true'] at h5
    cases ks with
    | nil => simp at h5
    | cons k ks =>
      simp only [List.all_cons, Bool.and_eq_true] at hk h5
      obtain ⟨⟨h5, _⟩, _⟩ := h5
      cases k <;> simp [D.skey] at hk <;> simp [D.tkey, D.isTup] at h5
theorem db_scal {B ρ : List Addr} {H : Hp} {x : D} {v : V} (hx : x.skey = true) (h : DB G B ρ H x v) : DV G (ρ ++ B) ρ H x v := by
  rcases h with h | ⟨a, _, _, h⟩
  · exact h
  · cases x <;> simp [D.skey] at hx <;> exact h.elim

theorem co_ok (xa : XA G X) (o : Co) : OpR X (compareOp (coOp o)) (r2D G fun a b => (coEv o a b).map .bl) := by
  intro pins s σ H x y v u Q I rx ry h
  obtain ⟨B, ρ, st, d, e, r, rs, hd, he, hf, fin⟩ := h
  obtain ⟨c, hc, rfl⟩ := Option.map_eq_some_iff.mp hf
  have hu := xa.un
  have q : Q (.bl c) H := fin.now rfl
  have eqcase : ∀ (b : Bool), eqOk d e = true → c = D.eqb d e ∨ True → True := fun _ _ _ => trivial
  cases o with
  | eq =>
    have hc : (if eqOk d e = true then some (D.eqb d e) else none) = some c := by simpa [coEv] using hc
    split at hc
    · rename_i ok
      cases hc
      by_cases l : (d.lay DEEP && e.lay DEEP) = true
      · rw [Bool.and_eq_true] at l
        have p1 := hd.dp l.1
        have p2 := he.dp l.2
        rw [← xa.K] at p1 p2
        exact op_eqD (by omega) pins s σ H x y v u Q I rx ry ⟨_, _, p1, p2, shaped_of l.1, shaped_of l.2, by rw [eqb_toP d e _ l.1 _ l.2]; exact q⟩
      · unfold eqOk at ok
        rw [Bool.or_eq_true] at ok
        have ok := ok.resolve_left l
        rw [Bool.and_eq_true] at ok
        obtain ⟨z1, z2⟩ := eqBool_of hd he ok.1 ok.2 l
        exact op_eq pins s σ H x y v u Q I rx ry ⟨z1, by rw [z2]; exact q⟩
    · cases hc
  | ne =>
    have hc : (if eqOk d e = true then some (!D.eqb d e) else none) = some c := by simpa [coEv] using hc
    split at hc
    · rename_i ok
      cases hc
      by_cases l : (d.lay DEEP && e.lay DEEP) = true
      · rw [Bool.and_eq_true] at l
        have p1 := hd.dp l.1
        have p2 := he.dp l.2
        rw [← xa.K] at p1 p2
        exact op_neD (by omega) pins s σ H x y v u Q I rx ry ⟨_, _, p1, p2, shaped_of l.1, shaped_of l.2, by rw [eqb_toP d e _ l.1 _ l.2]; exact q⟩
      · unfold eqOk at ok
        rw [Bool.or_eq_true] at ok
        have ok := ok.resolve_left l
        rw [Bool.and_eq_true] at ok
        obtain ⟨z1, z2⟩ := eqBool_of hd he ok.1 ok.2 l
        exact op_ne pins s σ H x y v u Q I rx ry ⟨z1, by rw [z2]; exact q⟩
    · cases hc
  | lt =>
    cases d <;> cases e <;> simp only [coEv, reduceCtorEq] at hc
    case int.int i j =>
      have e1 := hd.int
      have e2 := he.int
      subst e1 e2
      cases hc
      exact op_lt pins s σ H _ _ v u Q I rx ry ⟨i, j, rfl, rfl, q⟩
    case tup.tup a b =>
      exact tupI_ok xa (rel := fun a b => decide (a < b)) I hd he rx ry hc q (fun h => h) (fun _ _ _ _ _ _ => Ob.RcOp.lt_int _ _ _ _) (fun n m => decide (n < m)) (fun ns ms => lexG_lt ns ms 0) (fun h1 h2 => Ob.RcOp.tuples_lt h1 h2 (by omega))
  | le =>
    cases d <;> cases e <;> simp only [coEv, reduceCtorEq] at hc
    case int.int i j =>
      have e1 := hd.int
      have e2 := he.int
      subst e1 e2
      cases hc
      exact op_le pins s σ H _ _ v u Q I rx ry ⟨i, j, rfl, rfl, q⟩
    case tup.tup a b =>
      exact tupI_ok xa (rel := fun a b => decide (a ≤ b)) I hd he rx ry hc q (fun h => h) (fun _ _ _ _ _ _ => Ob.RcOp.le_int _ _ _ _) (fun n m => decide (n ≤ m)) (fun ns ms => lexG_le ns ms 0) (fun h1 h2 => Ob.RcOp.tuples_le h1 h2 (by omega))
  | gt =>
    cases d <;> cases e <;> simp only [coEv, reduceCtorEq] at hc
    case int.int i j =>
      have e1 := hd.int
      have e2 := he.int
      subst e1 e2
      cases hc
      exact op_gt pins s σ H _ _ v u Q I rx ry ⟨i, j, rfl, rfl, q⟩
    case tup.tup a b =>
      exact tupI_ok xa (rel := fun a b => decide (b < a)) I hd he rx ry hc q (fun h => h) (fun _ _ _ _ _ _ => Ob.RcOp.gt_int _ _ _ _) (fun n m => decide (n > m)) (fun ns ms => lexG_gt ns ms 0) (fun h1 h2 => Ob.RcOp.tuples_gt h1 h2 (by omega))
  | ge =>
    cases d <;> cases e <;> simp only [coEv, reduceCtorEq] at hc
    case int.int i j =>
      have e1 := hd.int
      have e2 := he.int
      subst e1 e2
      cases hc
      exact op_ge pins s σ H _ _ v u Q I rx ry ⟨i, j, rfl, rfl, q⟩
    case tup.tup a b =>
      exact tupI_ok xa (rel := fun a b => decide (b ≤ a)) I hd he rx ry hc q (fun h => h) (fun _ _ _ _ _ _ => Ob.RcOp.ge_int _ _ _ _) (fun n m => decide (n ≥ m)) (fun ns ms => lexG_ge ns ms 0) (fun h1 h2 => Ob.RcOp.tuples_ge h1 h2 (by omega))
  | inn =>
    cases e with
    | tup ds =>
      have hc : (if (ds.all fun z => eqOk z d) = true then some (ds.any fun z => D.eqb z d) else none) = some c := by simpa [coEv] using hc
      split at hc
      · rename_i ok
        cases hc
        obtain ⟨p, ws, rfl, h1, h2⟩ := he.tup
        cases ry
        rw [← xa.K] at h1
        obtain ⟨its, r1, p1, _⟩ := I.tuple h1
        obtain ⟨f, f1, f2⟩ := in_items xa (A := X.A.in1) (Nat.le_refl _) I hd rx ds ws its (List.all_eq_true.mp ok) h2 r1
        exact SeqAt.in_tupleAt f p1 (fun y hy => f1 y (by simpa using hy)) ⟨.bl _, H, I, rfl, by rw [show its.toArray.any f = its.any f by simp, f2]; exact q⟩
      · cases hc
    | lst ds =>
      have hc : (if (ds.all fun z => eqOk z d) = true then some (ds.any fun z => D.eqb z d) else none) = some c := by simpa [coEv] using hc
      split at hc
      · rename_i ok
        cases hc
        obtain ⟨p, ws, rfl, h1, h2⟩ := he.lst
        cases ry
        obtain ⟨its, r1, p1, _⟩ := I.list (.inl h1)
        obtain ⟨f, f1, f2⟩ := in_items xa (A := X.A.in1) (Nat.le_refl _) I hd rx ds ws its (List.all_eq_true.mp ok) h2 r1
        exact SeqAt.in_listAt f p1.isList (fun y hy => f1 y (by simpa using hy)) ⟨.bl _, H, I, rfl, by rw [show its.toArray.any f = its.any f by simp, f2]; exact q⟩
      · cases hc
    | dct ks ws =>
      have hc : (if ((d :: ks).all D.skey) = true then some (dhas ks d) else none) = some c := hc
      split at hc
      · rename_i ok
        cases hc
        simp only [List.all_cons, Bool.and_eq_true] at ok
        obtain ⟨p, rfl, hdd⟩ := he.dct
        cases ry
        obtain ⟨o, g1, g2, _⟩ := dct_get ok.1 ok.2 (db_scal ok.1 hd) hdd
        exact d_in (by omega) I g1 rx fun s' I' => ⟨.bl _, H, I', rfl, by rw [g2]; exact q⟩
      · cases hc
    | _ => simp [coEv] at hc
  | notin =>
    cases e with
    | tup ds =>
      have hc : (if (ds.all fun z => eqOk z d) = true then some (!ds.any fun z => D.eqb z d) else none) = some c := by simpa [coEv] using hc
      split at hc
      · rename_i ok
        cases hc
        obtain ⟨p, ws, rfl, h1, h2⟩ := he.tup
        cases ry
        rw [← xa.K] at h1
        obtain ⟨its, r1, p1, _⟩ := I.tuple h1
        obtain ⟨f, f1, f2⟩ := in_items xa (A := X.A.in1) (Nat.le_refl _) I hd rx ds ws its (List.all_eq_true.mp ok) h2 r1
        exact SeqAt.notIn_tupleAt f p1 (fun y hy => f1 y (by simpa using hy)) ⟨.bl _, H, I, rfl, by rw [show its.toArray.any f = its.any f by simp, f2]; exact q⟩
      · cases hc
    | lst ds =>
      have hc : (if (ds.all fun z => eqOk z d) = true then some (!ds.any fun z => D.eqb z d) else none) = some c := by simpa [coEv] using hc
      split at hc
      · rename_i ok
        cases hc
        obtain ⟨p, ws, rfl, h1, h2⟩ := he.lst
        cases ry
        obtain ⟨its, r1, p1, _⟩ := I.list (.inl h1)
        obtain ⟨f, f1, f2⟩ := in_items xa (A := X.A.in1) (Nat.le_refl _) I hd rx ds ws its (List.all_eq_true.mp ok) h2 r1
        exact SeqAt.notIn_listAt f p1.isList (fun y hy => f1 y (by simpa using hy)) ⟨.bl _, H, I, rfl, by rw [show its.toArray.any f = its.any f by simp, f2]; exact q⟩
      · cases hc
    | dct ks ws =>
      have hc : (if ((d :: ks).all D.skey) = true then some (!dhas ks d) else none) = some c := hc
      split at hc
      · rename_i ok
        cases hc
        simp only [List.all_cons, Bool.and_eq_true] at ok
        obtain ⟨p, rfl, hdd⟩ := he.dct
        cases ry
        obtain ⟨o, g1, g2, _⟩ := dct_get ok.1 ok.2 (db_scal ok.1 hd) hdd
        exact d_notIn (by omega) I g1 rx fun s' I' => ⟨.bl _, H, I', rfl, by rw [g2]; exact q⟩
      · cases hc
    | _ => simp [coEv] at hc
  | isn =>
    cases e <;> simp only [coEv, reduceCtorEq] at hc
    case non =>
      have e2 := he.non
      subst e2
      cases hc
      refine op_isN pins s σ H _ _ v u Q I rx ry ⟨rfl, ?_⟩
      rw [isNon_eq hd]
      exact q
  | isnot =>
    cases e <;> simp only [coEv, reduceCtorEq] at hc
    case non =>
      have e2 := he.non
      subst e2
      cases hc
      refine op_notN pins s σ H _ _ v u Q I rx ry ⟨rfl, ?_⟩
      rw [isNon_eq hd]
      exact q
end
end Dp
set_option Elab.async false
set_option linter.all false
set_option maxRecDepth 100000
set_option maxHeartbeats 4000000
/-! Dp4: items, cuts, built-in functions of lists and tuples. -/
namespace Dp
open PySem PySem.Spec PyProof.Rows L2

section
variable {G : Gx} {X : Cx}
def DBs (G : Gx) (B ρ : List Addr) (H : Hp) : List D → List V → Prop
  | [], vs => vs = []
  | d :: ds, vs => ∃ v r, vs = v :: r ∧ DB G B ρ H d v ∧ DBs G B ρ H ds r
/-- the store is read, too -/
def r2S (G : Gx) (f : Store → D → D → Option D) : R2 := fun x y H Q => ∃ B ρ st d e r, RS (G := G) B st ρ H ∧ DB G B ρ H d x ∧ DB G B ρ H e y ∧ f st d e = some r ∧ Fin G B ρ H Q r
def rBi (G : Gx) (f : Store → List D → Option D) : List V → Hp → VK → Prop := fun vs H Q => ∃ B ρ st ds r, RS (G := G) B st ρ H ∧ DBs G B ρ H ds vs ∧ f st ds = some r ∧ Fin G B ρ H Q r

theorem atI_eq {α : Type} (xs : List α) (i : Int) : atI xs i = (ixOf xs.length i).bind fun j => xs[j]? := rfl
theorem ix_get {B ρ : List Addr} {H : Hp} {ds : List D} {vs : List V} {i : Int} {r : D} (h : DVs G (ρ ++ B) ρ H ds vs) (e : atD ds i = some r) : ∃ v, atI vs i = some v ∧ DV G (ρ ++ B) ρ H r v := by
  unfold atD at e
  rw [atI_eq, h.length]
  cases q : ixOf ds.length i with
  | none => rw [q] at e; cases e
  | some j =>
    rw [q] at e
    exact h.get e
theorem sub_lt {B ρ : List Addr} {H : Hp} {st : Store} (rs : RS (G := G) B st ρ H) {n : Nat} {c : D} (e : st[n]? = some c) {a : Addr} (ea : ρ[n]? = some a) : DW G (ρ ++ B) ρ H c a := rs.cel n c a e ea
/-- an item of a list or a tuple -/
def subSeq (st : Store) : D → D → Option D
  | .tup ds, .int i => atD ds i
  | .lst ds, .int i => atD ds i
  | .ref n, .int i => match st[n]? with
    | some (.lst ds) => atD ds i
    | _ => none
  | _, _ => none
theorem sub_seq (xa : XA G X) : IxR X (r2S G subSeq) := by
  intro value slice pins s σ H x y v u Q I rx ry h hs
  obtain ⟨B, ρ, st, d, e, r, rs, hd, he, hf, fin⟩ := h
  cases d <;> cases e <;> simp only [subSeq, reduceCtorEq] at hf
  case tup.int ds i =>
    obtain ⟨p, vs, rfl, h1, h2⟩ := hd.tup
    have := he.int
    subst this
    obtain ⟨w, g1, g2⟩ := ix_get h2 hf
    exact ix_tup value slice pins s σ H _ _ v u Q I rx ry ⟨p, vs, i, w, rfl, rfl, by rw [xa.K]; exact h1, g1, fin.now g2⟩ hs
  case lst.int ds i =>
    obtain ⟨p, vs, rfl, h1, h2⟩ := hd.lst
    have := he.int
    subst this
    obtain ⟨w, g1, g2⟩ := ix_get h2 hf
    exact ix_list value slice pins s σ H _ _ v u Q I rx ry ⟨p, vs, i, w, rfl, rfl, .inl h1, g1, fin.now g2⟩ hs
  case ref.int n i =>
    obtain ⟨a, ea, rfl⟩ := hd.ref
    have := he.int
    subst this
    split at hf
    · rename_i ds e1
      obtain ⟨vs, h1, h2⟩ := rs.cel n _ a e1 ea
      obtain ⟨w, g1, g2⟩ := ix_get h2 hf
      exact ix_list value slice pins s σ H _ _ v u Q I rx ry ⟨a, vs, i, w, rfl, rfl, .inl (.inl h1), g1, fin.now g2⟩ hs
    · cases hf

/-! ### cuts -/
theorem cutAt_eq (n d : Nat) (o : Option Int) : cutAt n d o = HT.sIx n d o := by cases o <;> rfl
theorem cut_dvs {M ρ : List Addr} {H : Hp} {ds : List D} {vs : List V} (lo hi : Option Int) (h : DVs G M ρ H ds vs) : DVs G M ρ H (cutD ds lo hi) (cutV vs lo hi) := by
  unfold cutD cutV
  rw [cutAt_eq, cutAt_eq, h.length]
  exact (h.drop _).take _
def rCut (G : Gx) : V → Option Int → Option Int → Hp → VK → Prop := fun x lo hi H Q => ∃ B ρ st d r, RS (G := G) B st ρ H ∧ DB G B ρ H d x ∧ cutEv d lo hi = some r ∧ Fin G B ρ H Q r
theorem cut_ok (xa : XA G X) : SlR X (rCut G) := by
  intro pins s σ H x v vl vu lo hi sl Q I rx hs pl pu h
  obtain ⟨B, ρ, st, d, r, rs, hd, hf, fin⟩ := h
  cases d <;> simp only [cutEv, reduceCtorEq] at hf
  case tup ds =>
    cases hf
    obtain ⟨p, vs, rfl, h1, h2⟩ := hd.tup
    refine sl_tupA pins s σ H _ v vl vu lo hi sl Q I rx hs pl pu ⟨p, vs, rfl, by rw [xa.K]; exact h1, fun hw => ?_, fun _ q hq => Fin.tup rs fin (cut_dvs lo hi h2) hq⟩
    have : cutD ds lo hi = ds := by
      unfold cutD
      rw [cutAt_eq, cutAt_eq, ← h2.length, hw.1, hw.2, List.drop_zero, Nat.sub_zero, h2.length, List.take_length]
    rw [this] at fin
    exact fin.now ⟨p, vs, rfl, h1, h2⟩
  case lst ds =>
    cases hf
    obtain ⟨p, vs, rfl, h1, h2⟩ := hd.lst
    exact sl_list pins s σ H _ v vl vu lo hi sl Q I rx hs pl pu ⟨p, vs, rfl, .inl h1, fun q hq => Fin.lst rs fin (cut_dvs lo hi h2) hq⟩

/-! ### - -/
def r1D (G : Gx) (f : D → Option D) : V → Hp → VK → Prop := fun x H Q => ∃ B ρ st d r, RS (G := G) B st ρ H ∧ DB G B ρ H d x ∧ f d = some r ∧ Fin G B ρ H Q r
theorem neg_ok (xa : XA G X) : UnR X (unaryOp .USub) (r1D G negEv) := by
  intro pins s σ H x v Q I rx h
  obtain ⟨B, ρ, st, d, r, rs, hd, hf, fin⟩ := h
  cases d <;> simp only [negEv, reduceCtorEq] at hf
  case int i =>
    cases hf
    have := hd.int
    subst this
    exact un_neg pins s σ H _ v Q I rx ⟨i, rfl, fin.now rfl⟩

/-! ### built-in functions -/
theorem dbs1 {B ρ : List Addr} {H : Hp} {d : D} {vs : List V} (h : DBs G B ρ H [d] vs) : ∃ v, vs = [v] ∧ DB G B ρ H d v := by
  obtain ⟨v, r, e, h1, h2⟩ := h
  have h2 : r = [] := h2
  subst h2
  exact ⟨v, e, h1⟩
theorem dbs2 {B ρ : List Addr} {H : Hp} {d e : D} {vs : List V} (h : DBs G B ρ H [d, e] vs) : ∃ v w, vs = [v, w] ∧ DB G B ρ H d v ∧ DB G B ρ H e w := by
  obtain ⟨v, r, q, h1, h2⟩ := h
  obtain ⟨w, e2, h3⟩ := dbs1 h2
  subst e2
  exact ⟨v, w, q, h1, h3⟩
theorem bls_of : ∀ {ds : List D} {bs : List Bool}, blsOf ds = some bs → ds = bs.map D.bl
  | [], bs, h => by cases h; rfl
  | d :: ds, bs, h => by
    cases d <;> simp only [blsOf, reduceCtorEq] at h
    cases e : blsOf ds with
    | none => rw [e] at h; cases h
    | some js =>
      rw [e] at h
      cases h
      rw [bls_of e]
      rfl
theorem dvs_bls {M ρ : List Addr} {H : Hp} : ∀ {bs : List Bool} {vs : List V}, DVs G M ρ H (bs.map D.bl) vs → vs = bs.map V.bl
  | [], vs, h => h
  | b :: bs, vs, h => by
    obtain ⟨v, r, e, h1, h2⟩ := h
    have h1 : v = .bl b := h1
    rw [e, h1, dvs_bls h2]
    rfl
theorem len_ok (xa : XA G X) : CallR X (.builtin "len") (rBi G lenEv) := by
  intro pins s σ H vs us Q I r h
  obtain ⟨B, ρ, st, ds, d, rs, hd, hf, fin⟩ := h
  match ds, hf with
  | [.tup ds], hf =>
    cases hf
    obtain ⟨v, rfl, h1⟩ := dbs1 hd
    obtain ⟨p, ws, rfl, h2, h3⟩ := h1.tup
    exact call_len pins s σ H _ us Q I r ⟨.ref p, ds.length, rfl, .inr ⟨ws, by rw [xa.K]; exact h2, h3.length.symm⟩, fin.now rfl⟩
  | [.lst ds], hf =>
    cases hf
    obtain ⟨v, rfl, h1⟩ := dbs1 hd
    obtain ⟨p, ws, rfl, h2, h3⟩ := h1.lst
    exact call_len pins s σ H _ us Q I r ⟨.ref p, ds.length, rfl, .inl ⟨ws, .inl h2, h3.length.symm⟩, fin.now rfl⟩
  | [.str x], hf =>
    simp only [lenEv] at hf
    split at hf
    · rename_i hl
      cases hf
      obtain ⟨v, rfl, h1⟩ := dbs1 hd
      have := h1.str
      subst this
      exact call_len pins s σ H _ us Q I r ⟨.str x, x.length, rfl, ⟨by rw [← lim_line]; exact hl, rfl⟩, fin.now rfl⟩
    · cases hf
  | [.ref n], hf =>
    simp only [lenEv] at hf
    split at hf
    · rename_i ds e1
      cases hf
      obtain ⟨v, rfl, h1⟩ := dbs1 hd
      obtain ⟨a, ea, rfl⟩ := h1.ref
      obtain ⟨ws, h2, h3⟩ := rs.cel n _ a e1 ea
      exact call_len pins s σ H _ us Q I r ⟨.ref a, ds.length, rfl, .inl ⟨ws, .inl (.inl h2), h3.length.symm⟩, fin.now rfl⟩
    · cases hf
  | [], hf => cases hf
  | [.non], hf => cases hf
  | [.bl _], hf => cases hf
  | [.int _], hf => cases hf
  | [.dct _ _], hf => cases hf
  | _ :: _ :: _, hf => exact absurd hf (by simp [lenEv])
def lstEv (_ : Store) : List D → Option D
  | [.tup ds] => some (.lst ds)
  | [.lst ds] => some (.lst ds)
  | _ => none
/-- one argument, a list -/
theorem one_lst {B ρ : List Addr} {H : Hp} {ds : List D} {vs : List V} (hd : DBs G B ρ H [.lst ds] vs) : ∃ p ws, vs = [.ref p] ∧ Rd H p (.lst ws) ∧ DVs G (ρ ++ B) ρ H ds ws := by
  obtain ⟨v, rfl, h1⟩ := dbs1 hd
  obtain ⟨p, ws, rfl, h2, h3⟩ := h1.lst
  exact ⟨p, ws, rfl, h2, h3⟩
theorem sum_ok (xa : XA G X) : CallR X (.builtin "sum") (rBi G sumEv) := by
  intro pins s σ H vs us Q I r h
  obtain ⟨B, ρ, st, ds, d, rs, hd, hf, fin⟩ := h
  match ds, hf with
  | [.lst ds], hf =>
    obtain ⟨is, e1, rfl⟩ := Option.map_eq_some_iff.mp hf
    obtain ⟨p, ws, rfl, h2, h3⟩ := one_lst hd
    rw [ints_of e1] at h3
    rw [dvs_ints h3] at h2
    exact cr_sum xa.calm pins s σ H _ us Q I r ⟨p, is, rfl, .inl h2, fin.now rfl⟩
theorem all_ok (xa : XA G X) : CallR X (.builtin "all") (rBi G allEv) := by
  intro pins s σ H vs us Q I r h
  obtain ⟨B, ρ, st, ds, d, rs, hd, hf, fin⟩ := h
  match ds, hf with
  | [.lst ds], hf =>
    obtain ⟨is, e1, rfl⟩ := Option.map_eq_some_iff.mp hf
    obtain ⟨p, ws, rfl, h2, h3⟩ := one_lst hd
    rw [bls_of e1] at h3
    rw [dvs_bls h3] at h2
    exact cr_all xa.calm pins s σ H _ us Q I r ⟨p, is, rfl, .inl h2, fin.now rfl⟩
theorem any_ok (xa : XA G X) : CallR X (.builtin "any") (rBi G anyEv) := by
  intro pins s σ H vs us Q I r h
  obtain ⟨B, ρ, st, ds, d, rs, hd, hf, fin⟩ := h
  match ds, hf with
  | [.lst ds], hf =>
    obtain ⟨is, e1, rfl⟩ := Option.map_eq_some_iff.mp hf
    obtain ⟨p, ws, rfl, h2, h3⟩ := one_lst hd
    rw [bls_of e1] at h3
    rw [dvs_bls h3] at h2
    exact cr_any xa.calm pins s σ H _ us Q I r ⟨p, is, rfl, .inl h2, fin.now rfl⟩
theorem tuple_ok (xa : XA G X) : CallR X (.type "tuple") (rBi G tupEv) := by
  intro pins s σ H vs us Q I r h
  obtain ⟨B, ρ, st, ds, d, rs, hd, hf, fin⟩ := h
  match ds, hf with
  | [.tup ds], hf =>
    cases hf
    obtain ⟨v, rfl, h1⟩ := dbs1 hd
    obtain ⟨p, ws, rfl, h2, h3⟩ := h1.tup
    exact call_tuple_of pins s σ H _ us Q I r ⟨p, ws, rfl, .inr ⟨by rw [xa.K]; exact h2, fin.now ⟨p, ws, rfl, h2, h3⟩⟩⟩
  | [.lst ds], hf =>
    cases hf
    obtain ⟨p, ws, rfl, h2, h3⟩ := one_lst hd
    exact call_tuple_of pins s σ H _ us Q I r ⟨p, ws, rfl, .inl ⟨.inl h2, fun q hq => Fin.tup rs fin h3 hq⟩⟩
theorem list_ok (xa : XA G X) : CallR X (.type "list") (rBi G lstEv) := by
  intro pins s σ H vs us Q I r h
  obtain ⟨B, ρ, st, ds, d, rs, hd, hf, fin⟩ := h
  match ds, hf with
  | [.tup ds], hf =>
    cases hf
    obtain ⟨v, rfl, h1⟩ := dbs1 hd
    obtain ⟨p, ws, rfl, h2, h3⟩ := h1.tup
    exact call_list_of pins s σ H _ us Q I r ⟨p, ws, rfl, .inr (by rw [xa.K]; exact h2), fun q hq => Fin.lst rs fin h3 hq⟩
  | [.lst ds], hf =>
    cases hf
    obtain ⟨p, ws, rfl, h2, h3⟩ := one_lst hd
    exact call_list_of pins s σ H _ us Q I r ⟨p, ws, rfl, .inl (.inl h2), fun q hq => Fin.lst rs fin h3 hq⟩
theorem int_ok (xa : XA G X) : CallR X (.type "int") (rBi G intEv) := by
  intro pins s σ H vs us Q I r h
  obtain ⟨B, ρ, st, ds, d, rs, hd, hf, fin⟩ := h
  match ds, hf with
  | [.int i], hf =>
    cases hf
    obtain ⟨v, rfl, h1⟩ := dbs1 hd
    have := h1.int
    subst this
    exact call_int1 pins s σ H _ us Q I r (.inl ⟨i, rfl, fin.now rfl⟩)
  | [.bl b], hf =>
    cases hf
    obtain ⟨v, rfl, h1⟩ := dbs1 hd
    have := h1.bl
    subst this
    exact call_int1 pins s σ H _ us Q I r (.inr ⟨b, rfl, fin.now rfl⟩)
theorem min2_ok (xa : XA G X) : CallR X (.builtin "min") (rBi G min2Ev) := by
  intro pins s σ H vs us Q I r h
  obtain ⟨B, ρ, st, ds, d, rs, hd, hf, fin⟩ := h
  match ds, hf with
  | [.int i, .int j], hf =>
    cases hf
    obtain ⟨v, w, rfl, h1, h2⟩ := dbs2 hd
    have e1 := h1.int
    have e2 := h2.int
    subst e1 e2
    exact call_min2 xa.calm pins s σ H _ us Q I r ⟨i, j, rfl, fin.now rfl⟩
theorem max2_ok (xa : XA G X) : CallR X (.builtin "max") (rBi G max2Ev) := by
  intro pins s σ H vs us Q I r h
  obtain ⟨B, ρ, st, ds, d, rs, hd, hf, fin⟩ := h
  match ds, hf with
  | [.int i, .int j], hf =>
    cases hf
    obtain ⟨v, w, rfl, h1, h2⟩ := dbs2 hd
    have e1 := h1.int
    have e2 := h2.int
    subst e1 e2
    exact call_max2 xa.calm pins s σ H _ us Q I r ⟨i, j, rfl, fin.now rfl⟩
theorem minsI_mem : ∀ (r : List Int) (m : Int), minsI m r ∈ m :: r ∧ ∀ y ∈ m :: r, minsI m r ≤ y
  | [], m => by simp [minsI]
  | i :: r, m => by
    have h := minsI_mem r (if i < m then i else m)
    unfold minsI
    refine ⟨?_, fun y hy => ?_⟩
    · have := h.1
      by_cases q : i < m
      · rw [if_pos q] at this ⊢
        exact List.mem_cons_of_mem _ this
      · rw [if_neg q] at this ⊢
        rcases List.mem_cons.mp this with e | e
        · exact List.mem_cons.mpr (.inl e)
        · exact List.mem_cons_of_mem _ (List.mem_cons_of_mem _ e)
    · have l1 := h.2 _ List.mem_cons_self
      rcases List.mem_cons.mp hy with rfl | hy
      · by_cases q : i < y
        · rw [if_pos q] at l1 ⊢; omega
        · rw [if_neg q] at l1 ⊢; omega
      · rcases List.mem_cons.mp hy with rfl | hy
        · by_cases q : y < m
          · rw [if_pos q] at l1 ⊢; omega
          · rw [if_neg q] at l1 ⊢; omega
        · exact h.2 y (List.mem_cons_of_mem _ hy)
theorem maxsI_mem : ∀ (r : List Int) (m : Int), maxsI m r ∈ m :: r ∧ ∀ y ∈ m :: r, y ≤ maxsI m r
  | [], m => by simp [maxsI]
  | i :: r, m => by
    have h := maxsI_mem r (if m < i then i else m)
    unfold maxsI
    refine ⟨?_, fun y hy => ?_⟩
    · have := h.1
      by_cases q : m < i
      · rw [if_pos q] at this ⊢
        exact List.mem_cons_of_mem _ this
      · rw [if_neg q] at this ⊢
        rcases List.mem_cons.mp this with e | e
        · exact List.mem_cons.mpr (.inl e)
        · exact List.mem_cons_of_mem _ (List.mem_cons_of_mem _ e)
    · have l1 := h.2 _ List.mem_cons_self
      rcases List.mem_cons.mp hy with rfl | hy
      · by_cases q : y < i
        · rw [if_pos q] at l1 ⊢; omega
        · rw [if_neg q] at l1 ⊢; omega
      · rcases List.mem_cons.mp hy with rfl | hy
        · by_cases q : m < y
          · rw [if_pos q] at l1 ⊢; omega
          · rw [if_neg q] at l1 ⊢; omega
        · exact h.2 y (List.mem_cons_of_mem _ hy)
theorem min1_ok (xa : XA G X) : CallR X (.builtin "min") (rBi G min1Ev) := by
  intro pins s σ H vs us Q I r h
  obtain ⟨B, ρ, st, ds, d, rs, hd, hf, fin⟩ := h
  match ds, hf with
  | [.lst ds], hf =>
    obtain ⟨is, e1, hf⟩ := Option.bind_eq_some_iff.mp hf
    obtain ⟨p, ws, rfl, h2, h3⟩ := one_lst hd
    rw [ints_of e1] at h3
    rw [dvs_ints h3] at h2
    cases is with
    | nil => cases hf
    | cons i is =>
      cases hf
      refine cr_min xa.calm pins s σ H _ us Q I r ⟨p, i :: is, rfl, .inl h2, Nat.succ_pos _, fun m hm hl => ?_⟩
      obtain ⟨q1, q2⟩ := minsI_mem is i
      have : m = minsI i is := by
        have := hl _ q1
        have := q2 _ hm
        omega
      rw [this]
      exact fin.now rfl
theorem max1_ok (xa : XA G X) : CallR X (.builtin "max") (rBi G max1Ev) := by
  intro pins s σ H vs us Q I r h
  obtain ⟨B, ρ, st, ds, d, rs, hd, hf, fin⟩ := h
  match ds, hf with
  | [.lst ds], hf =>
    obtain ⟨is, e1, hf⟩ := Option.bind_eq_some_iff.mp hf
    obtain ⟨p, ws, rfl, h2, h3⟩ := one_lst hd
    rw [ints_of e1] at h3
    rw [dvs_ints h3] at h2
    cases is with
    | nil => cases hf
    | cons i is =>
      cases hf
      refine cr_max xa.calm pins s σ H _ us Q I r ⟨p, i :: is, rfl, .inl h2, Nat.succ_pos _, fun m hm hl => ?_⟩
      obtain ⟨q1, q2⟩ := maxsI_mem is i
      have : m = maxsI i is := by
        have := hl _ q1
        have := q2 _ hm
        omega
      rw [this]
      exact fin.now rfl
/-- isinstance with a built-in class -/
theorem isi_ok (xa : XA G X) (T : String) (f : String → Bool) (hf : ∀ t ∈ ["NoneType", "bool", "int", "str", "tuple", "list", "dict"], kitB t T = some (f t)) {pins : List (Addr × Obj)} {s : Shared} {σ : L2.St} {H : Hp} {Q : VK} {B ρ : List Addr} {st : Store} {d r : D} {v : V} {u : Value}
    (I : Inv X pins σ H s) (rs : RS (G := G) B st ρ H) (hd : DB G B ρ H d v) (rv : RelV v u) (hr : (d.tyn.map fun t => D.bl (f t)) = some r) (fin : Fin G B ρ H Q r) :
    wpAny (model X.prog X.w) X.A (call (.builtin "isinstance") [u, .type T]) (EP X pins σ Q) X.xe s := by
  obtain ⟨t, e1, rfl⟩ := Option.map_eq_some_iff.mp hr
  have q : ∀ tk, EP X pins σ Q (.bool (f t)) { s with toks := tk } := fun tk => ⟨.bl (f t), H, I.tok tk, rfl, fin.now rfl⟩
  have k : ∀ t, t ∈ ["NoneType", "bool", "int", "str", "tuple", "list", "dict"] → PySem.W.kitOne X.K (.type t) (.type T) = some (f t) := fun t ht => kit_ty (hf t ht)
  cases d with
  | non =>
    have := hd.non
    subst this
    cases e1
    cases rv
    exact PySem.W.kia_one PySem.W.kitx_none I.kIn True.intro (k _ (by decide)) (fun z => nomatch z) q
  | bl b =>
    have := hd.bl
    subst this
    cases e1
    cases rv
    exact PySem.W.kia_one PySem.W.kitx_bool I.kIn True.intro (k _ (by decide)) (fun z => nomatch z) q
  | int i =>
    have := hd.int
    subst this
    cases e1
    obtain ⟨t, rfl⟩ := rv
    exact PySem.W.kia_one PySem.W.kitx_int I.kIn True.intro (k _ (by decide)) (fun z => nomatch z) q
  | str x =>
    have := hd.str
    subst this
    cases e1
    obtain ⟨t, rfl⟩ := rv
    exact PySem.W.kia_one PySem.W.kitx_str I.kIn True.intro (k _ (by decide)) (fun z => nomatch z) q
  | tup ds =>
    obtain ⟨p, vs, rfl, h1, h2⟩ := hd.tup
    cases e1
    cases rv
    rw [← xa.K] at h1
    obtain ⟨its, _, ⟨o, g1, g2, _⟩, _⟩ := I.tuple h1
    exact PySem.W.kia_one PySem.W.kitx_tuple I.kIn ⟨o, g1, g2⟩ (k _ (by decide)) (fun z => nomatch z) q
  | lst ds =>
    obtain ⟨p, vs, rfl, h1, h2⟩ := hd.lst
    cases e1
    cases rv
    obtain ⟨_, its, n, _, _, g1⟩ := rdLst I h1
    exact PySem.W.kia_one PySem.W.kitx_list I.kIn ⟨_, g1, rfl⟩ (k _ (by decide)) (fun z => nomatch z) q
  | dct ks ws =>
    obtain ⟨p, rfl, hdd⟩ := hd.dct
    cases e1
    cases rv
    obtain ⟨o, g1, g2⟩ : ∃ o, s.heap.get? p = some o ∧ o.cls = .type "dict" := by
      rcases hdd with ⟨kvs, h1, _⟩ | ⟨es, kv, vv, h1, _⟩
      · obtain ⟨_, _, ws, _, o, es, ep, g1, g2, _⟩ := (show ObjOk X.prog X.w H s.heap p (.dK kvs) from I.hok p _ h1)
        exact ⟨o, g1, g2.1⟩
      · obtain ⟨⟨o, g1, g2, _⟩, _⟩ := (show ObjOk X.prog X.w H s.heap p (.ext (rawD p es)) from I.hok p _ h1)
        exact ⟨o, g1, g2.1⟩
    exact PySem.W.kia_one PySem.W.kitx_dict I.kIn ⟨o, g1, g2⟩ (k _ (by decide)) (fun z => nomatch z) q
  | ref n => cases e1
end
end Dp
set_option Elab.async false
set_option linter.all false
set_option maxRecDepth 100000
set_option maxHeartbeats 4000000
/-! Dp5: sorted of alike data, empty tuples among them. -/
namespace Dp
open PySem PySem.W PySem.SeqAt PyProof.Rows

section
variable {prog : Program} {w : World} {M : Model} {A : Around} {E : Value → Shared → Prop} {s : Shared}
/-- tuples of one kind of items -/
structure TupOf (h : Heap) (v : Value) : Prop where
  ex : ∃ a o xs n, v = .ref a ∧ h.get? a = some o ∧ o.cls = .type "tuple" ∧ o.data = .seq xs n
theorem TupOf.looks {h : Heap} {v : Value} (t : TupOf h v) : Looks M h (typeOf v) (.type "tuple") := by
  obtain ⟨a, o, xs, n, rfl, ho, hc, hd⟩ := t.ex
  exact hc ▸ (Looks.ld ho).andThen .now
end

section
variable {prog : Program} {w : World} {A : Around} {E : Value → Shared → Prop} {s : Shared}
/-- one tuple against another, both of the type tuple -/
theorem oneLt_tup {xs ys : List PyData} {a b : Value} {as bs : List Addr} {f : Bool} {Q : Bool → Shared → Prop} (ra : Reads s.heap a (.tuple xs) as) (rb : Reads s.heap b (.tuple ys) bs) (h : alike (.tuple xs) (.tuple ys) = true)
    (hu : A.units + min (PyData.tuple xs).depth (PyData.tuple ys).depth < cLine) (hq : Q (dataLt (.tuple xs) (.tuple ys)) s) : wpAny (model prog w) A (oneLt' f a b) Q E s := by
  cases f with
  | false => exact oneLt_alike (fun z => nomatch z) ra rb h (fun z => nomatch z) hu hq
  | true =>
    have hal : alikeAll xs ys = true := by simpa [alike] using h
    cases ra with
    | @tuple l o vs n _ as₁ h1 h2 h3 h4 =>
      cases rb with
      | @tuple l' o' vs' n' _ bs₁ k1 k2 k3 k4 =>
        have n1 : vs.size = xs.length := by simpa using ReadsAll.length _ _ _ h4
        have n2 : vs'.size = ys.length := by simpa using ReadsAll.length _ _ _ k4
        rw [dataLt_tuple, ← firstLt_toks xs ys hal, ← n1, ← n2] at hq
        obtain ⟨c1, d1, dt1, s1⟩ := o
        obtain ⟨c2, d2, dt2, s2⟩ := o'
        simp only at h2 h3 k2 k3
        subst h2 h3 k2 k3
        rw [oneLt'_eq]
        simp only [if_true]
        refine wpAny_bind (wpAny_cRoomFor (room_here hu) ?_)
        refine wpAny_bind (wpAny_callSpecialIfBound?_slot (T := "tuple") ⟨_, h1, rfl⟩ F.slot_tuple_lt (call_meets F.slot_tuple_lt ⟨_, h1, rfl⟩ F.entry_tuple_lt (F.args_tuple_lt_2 _ _)
          (tuple_ltAt l l' vs vs' n n' d1 d2 s1 s2 (pairEq xs ys) (fun j => dataLt (xs.getD j .none) (ys.getD j .none))) ⟨h1, k1, fun j j1 j2 => ?_, fun j j1 j2 hj => ?_, ?_⟩))
        · have := eqAt_alikeAll xs ys A.in1 s vs.toList vs'.toList _ _ h4 k4 hal (room_in hu) j (by simpa using j1) (by simpa using j2)
          simpa using this
        · have := rcLt_alikeAll xs ys A.in1 s vs.toList vs'.toList _ _ h4 k4 hal (room_in hu) j (by simpa using j1) (by simpa using j2) hj
          simpa using this
        · exact wpAny_truthy_bool hq

theorem each_right {R : Value → PyData → Prop} : ∀ {vs : List Value} {ds : List PyData}, EachIs R vs ds → ∀ d ∈ ds, ∃ v ∈ vs, R v d
  | _, _, .nil, _, h => absurd h (by simp)
  | _, _, .cons h t, d, hd => by
    rcases List.mem_cons.mp hd with rfl | hd
    · exact ⟨_, List.mem_cons_self, h⟩
    · obtain ⟨v, hv, hr⟩ := each_right t d hd
      exact ⟨v, List.mem_cons_of_mem _ hv, hr⟩
theorem keyLt_general (x y : Value) : keyLt' general' x y = oneLt' false x y := rfl
/-- all tuples, one of them empty: never compared item by item -/
theorem kind_mixed {M : Model} {vs : List Value} (t : ∀ v ∈ vs, TupOf s.heap v) (hemp : ∃ v ∈ vs, ∃ a o n, v = .ref a ∧ s.heap.get? a = some o ∧ o.data = .seq #[] n) :
    ∃ kd : SortKind, (kd = general' ∨ kd = oneType') ∧ ∀ (E : Value → Shared → Prop) {Q : SortKind → Shared → Prop}, Q kd s → wpAny M A (keyKind' vs.toArray) Q E s := by
  -- the first items, as they are read
  have key : ∀ (vs : List Value), (∀ v ∈ vs, TupOf s.heap v) → ∃ fs : List (Option Value), fs.length = vs.length ∧ (∀ (E : Value → Shared → Prop) (Q : List (Option Value) → Shared → Prop), Q fs s → wpAny M A (vs.mapM firstOfTuple') Q E s) ∧
      ((∃ v ∈ vs, ∃ a o n, v = .ref a ∧ s.heap.get? a = some o ∧ o.data = .seq #[] n) → none ∈ fs) := by
    intro vs
    induction vs with
    | nil => exact fun _ => ⟨[], rfl, fun E Q h => by rw [List.mapM_nil]; exact wpAny_pure h, fun ⟨v, hv, _⟩ => absurd hv (by simp)⟩
    | cons v vs ih =>
      intro t
      obtain ⟨fs, hl, hfs, hn⟩ := ih fun x hx => t x (List.mem_cons_of_mem _ hx)
      obtain ⟨a, o, xs, n, rfl, ho, hc, hd⟩ := (t v List.mem_cons_self).ex
      refine ⟨xs[0]? :: fs, by simp [hl], fun E Q h => ?_, ?_⟩
      · rw [List.mapM_cons]
        refine wpAny_bind ?_
        rw [kas_first_eq]
        refine wpAny_bind (Looks.here (show Looks M s.heap (typeOf (.ref a)) o.cls from (Looks.ld ho).andThen .now) ?_)
        rw [hc, if_neg (by first | decide | simp)]
        exact wpAny_bind (listItems_at ho hd (wpAny_pure (wpAny_bind (hfs E _ (wpAny_pure h)))))
      · rintro ⟨u, hu, a', o', n', e, ho', hd'⟩
        rcases List.mem_cons.mp hu with rfl | hu
        · cases e
          rw [ho] at ho'
          cases ho'
          rw [hd] at hd'
          injection hd' with e1 _
          subst e1
          exact List.mem_cons.mpr (.inl rfl)
        · exact List.mem_cons_of_mem _ (hn ⟨u, hu, a', o', n', e, ho', hd'⟩)
  obtain ⟨fs, hl, hfs, hn⟩ := key vs t
  have hno := hn hemp
  have hall : (fs.toArray.all fun x => x.isSome) = false := by
    rw [Bool.eq_false_iff]
    intro z
    have := List.all_eq_true.mp (by simpa using z : fs.all (fun x => x.isSome) = true) none hno
    simp at this
  by_cases hg : (fs.toArray[0]?.bind id).isSome = true
  · refine ⟨general', .inl rfl, fun E Q h => ?_⟩
    rw [kat_kind_eq, List.mapM_toArray, map_eq_pure_bind]
    refine wpAny_bind (wpAny_bind (hfs E _ (wpAny_pure ?_)))
    rw [if_neg (by rw [hall]; simp), if_pos hg]
    exact wpAny_pure h
  · obtain ⟨v0, vr, rfl⟩ : ∃ v0 vr, vs = v0 :: vr := by
      cases vs with
      | nil => obtain ⟨_, hv, _⟩ := hemp; simp at hv
      | cons a b => exact ⟨a, b, rfl⟩
    refine ⟨oneType', .inr rfl, fun E Q h => ?_⟩
    rw [kat_kind_eq, List.mapM_toArray, map_eq_pure_bind]
    refine wpAny_bind (wpAny_bind (hfs E _ (wpAny_pure ?_)))
    rw [if_neg (by rw [hall]; simp), if_neg hg, oneTypeOnly'_eq, List.mapM_toArray, map_eq_pure_bind]
    refine wpAny_bind (wpAny_bind (wpAny_bind (kas_mapM (r := Value.type "tuple") _ (fun v hv Q' hq => ((t v hv).looks).here hq) (wpAny_pure ?_))))
    have hall2 : ((List.map (fun _ => Value.type "tuple") (v0 :: vr)).toArray.all fun x => x == Value.type "tuple") = true := by
      simp only [List.all_toArray, List.all_map, List.all_eq_true]
      intro _ _
      exact beq_self_eq_true _
    have h0 : (List.map (fun _ => Value.type "tuple") (v0 :: vr)).toArray[0]? = some (Value.type "tuple") := by simp
    rw [h0]
    simp only [hall2, if_true]
    exact wpAny_pure (wpAny_pure h)

/-- alike data, none of them None, can be sorted -/
theorem sorts_any {vs : List Value} {ds : List PyData} (e : EachIs (fun v d => ∃ as, Reads s.heap v d as) vs ds) (hal : AllAlike ds) (hn : ∀ d ∈ ds, d ≠ .none) (hu : ∀ d, d ∈ ds → A.units + d.depth < cLine) : SortsAt prog w A s (dataKind s.heap ds) vs := by
  by_cases hk : Sortable ds
  · exact SortsAt.data e hal hk hu
  · -- a tuple is among them, so all are; one is empty
    have h1 : ∃ d ∈ ds, ∃ xs, d = .tuple xs := by
      refine Classical.byContradiction fun z => hk (.inr fun d hd => ⟨hn d hd, fun xs q => z ⟨d, hd, xs, q⟩⟩)
    obtain ⟨d0, hd0, xs0, rfl⟩ := h1
    have h2 : ∀ d ∈ ds, ∃ xs, d = .tuple xs := fun d hd => by
      have q := hal d hd _ hd0
      cases d with
      | tuple xs => exact ⟨xs, rfl⟩
      | _ => simp [alike] at q
    have h3 : .tuple [] ∈ ds := by
      refine Classical.byContradiction fun z => hk (.inl fun d hd => ?_)
      obtain ⟨xs, rfl⟩ := h2 d hd
      cases xs with
      | nil => exact (z hd).elim
      | cons x r => exact ⟨x, r, rfl⟩
    have hT : ∀ v ∈ vs, TupOf s.heap v := fun v hv => by
      obtain ⟨d, hd, as, r⟩ := e.left v hv
      obtain ⟨xs, rfl⟩ := h2 d hd
      cases r with
      | @tuple a o us n _ _ ho hc hd _ => exact ⟨a, o, us, n, rfl, ho, hc, hd⟩
    have hE : ∃ v ∈ vs, ∃ a o n, v = .ref a ∧ s.heap.get? a = some o ∧ o.data = .seq #[] n := by
      obtain ⟨v, hv, as, r⟩ := each_right e _ h3
      cases r with
      | @tuple a o us n _ _ ho hc hd hr =>
        refine ⟨_, hv, a, o, n, rfl, ho, ?_⟩
        have : us.toList = [] := by cases hr' : us.toList with
          | nil => rfl
          | cons _ _ => rw [hr'] at hr; cases hr
        have : us = #[] := by simpa using this
        rw [hd, this]
    refine ⟨fun v hv => ?_, ?_⟩
    · obtain ⟨d, hd, as, r⟩ := e.left v hv
      exact ⟨_, dataKind_some hal hd r⟩
    · obtain ⟨kd, hkd, hrun⟩ := kind_mixed (M := model prog w) (A := A) hT hE
      refine ⟨kd, ?_, fun _ E Q hq => hrun E hq⟩
      intro E x y a b Q ha hb hq
      obtain ⟨d, as, hd, ra, rfl⟩ := dataKind_inv ha
      obtain ⟨d', as', hd', rb, rfl⟩ := dataKind_inv hb
      have hroom : A.units + min d.depth d'.depth < cLine := Nat.lt_of_le_of_lt (Nat.add_le_add_left (Nat.min_le_left _ _) _) (hu d hd)
      have hq' : Q (dataLt d d') s := hq
      have hl := hal d hd d' hd'
      obtain ⟨xs, rfl⟩ := h2 d hd
      obtain ⟨ys, rfl⟩ := h2 d' hd'
      rcases hkd with rfl | rfl
      · rw [keyLt_general]
        exact oneLt_tup ra rb hl hroom hq'
      · rw [keyLt'_oneType]
        exact oneLt_tup ra rb hl hroom hq'
end
end Dp
set_option Elab.async false
set_option linter.all false
set_option maxRecDepth 100000
set_option maxHeartbeats 4000000
/-! Dp6: sorted(..) of a list, a tuple, a dict. -/
namespace Dp
open PySem PySem.Spec PyProof.Rows L2 PySem.W PySem.SeqAt

section
variable {prog : Program} {w : World} {A : Around} {E : Value → Shared → Prop} {s : Shared}
/-- the items of u come, all else is as it was -/
def Collects (prog : Program) (w : World) (A : Around) (s : Shared) (u : Value) (vs : List Value) : Prop :=
  ∀ (E : Value → Shared → Prop) (R : List Value → Shared → Prop), (∀ h' tk, (∀ b o, s.heap.get? b = some o → h'.get? b = some o) → R vs { s with heap := h', toks := tk }) → wpAny (model prog w) A (collect u) R E s
theorem collects_list {l : Addr} {vs : List Value} (hl : s.heap.IsList l vs.toArray) (hsz : vs.length ≤ sizeLine) : Collects prog w A s (.ref l) vs := fun E R h =>
  collect_list hl (h _ s.toks fun b o e => by
    rw [Heap.get?_update_ne _ _ _ _ (Nat.ne_of_lt (Heap.lt_size e))]
    exact Heap.get?_push_of_some _ e) hsz
theorem collects_tup {l : Addr} {vs : List Value} (hl : s.heap.IsTuple l vs.toArray) (hsz : vs.length ≤ sizeLine) : Collects prog w A s (.ref l) vs := fun E R h => by
  obtain ⟨o, ho, hc, n, hd⟩ := id hl
  have k : ∀ b u, s.heap.get? b = some u → ((s.heap.push (seqObj "list" #[] 0)).update s.heap.objs.size (Obj.mapSeq (· ++ vs.toArray))).get? b = some u := fun b u e => by
    rw [Heap.get?_update_ne _ _ _ _ (Nat.ne_of_lt (Heap.lt_size e))]
    exact Heap.get?_push_of_some _ e
  unfold collect
  refine wpAny_bind (wpAny_runValue (codeAny_builtin F.entry_proto_collect ?_))
  show wpAny _ _ (do again (.builtin "list.__iadd__" ⟨[← newList [], .ref l], []⟩)) _ _ s
  refine wpAny_bind (wpAny_newList (wpAny_pure ⟨Code.quiet_builtin _ (by decide +kernel), codeAny_builtin F.entry_list_iadd ?_⟩))
  show wpAny _ _ (Builtin.List.listExtendWith (.ref s.heap.objs.size) (.ref l) (.ref s.heap.objs.size)) _ _ { s with heap := s.heap.push (seqObj "list" #[] 0) }
  unfold Builtin.List.listExtendWith
  have ho' : (s.heap.push (seqObj "list" #[] 0)).get? l = some o := Heap.get?_push_of_some _ ho
  refine wpAny_bind (wpAny_typeOf (T := "tuple") ⟨o, ho', hc⟩ ?_)
  have ht : (Value.type "tuple" == Value.type "tuple") = true := by rfl
  rw [if_pos (by rw [ht]; simp)]
  refine wpAny_bind (listItems_at ho' hd ?_)
  refine wpAny_bind (listItems_at (xs := #[]) (n := 0) (Heap.get?_push_size _ rfl) rfl ?_)
  rw [if_neg (by simp)]
  refine wpAny_bind (listUpdate_at (xs := #[]) (n := 0) (Heap.get?_push_size _ rfl) rfl ?_ (Nat.zero_le _) (by show (#[] ++ vs.toArray).size ≤ sizeLine + 1; simp only [Array.size_append, List.size_toArray, List.length_nil]; omega))
  refine wpAny_pure ?_
  show wpAny (model prog w) A (do
      let o ← load s.heap.objs.size
      match o.data with
      | .seq xs _ => pure xs.toList
      | _ => unsupported "internal:collect") _ _ { s with heap := (s.heap.push (seqObj "list" #[] 0)).update s.heap.objs.size (Obj.mapSeq (· ++ vs.toArray)) }
  refine wpAny_bind (wpAny_load (get?_update_seq (Heap.get?_push_size _ rfl) _) ?_)
  show wpAny _ _ (pure ((#[] : Array Value) ++ vs.toArray).toList) _ _ _
  rw [show ((#[] : Array Value) ++ vs.toArray).toList = vs by simp]
  exact wpAny_pure (h _ s.toks k)
theorem collects_dct {d : Addr} {es : List DictEntry × Nat} (hh : A.handled = none) (r : rawD d es s.heap) (hsz : es.1.length ≤ sizeLine) : Collects prog w A s (.ref d) (es.1.map (·.key)) := fun E R h => by
  obtain ⟨o, ho, hx, hd, hm⟩ := r
  refine kdu_collect (kdl_raw hm hx hd) hh ho (by simpa using hsz) fun h' tk acc hk hacc => ?_
  have e : acc.toList = es.1.map (·.key) := by
    apply List.ext_getElem?
    intro j
    have hl : acc.toList.length = es.1.length := by rw [Array.length_toList, hacc.1]; simp
    rw [List.getElem?_map]
    cases hj : acc.toList[j]? with
    | none =>
      have := List.getElem?_eq_none_iff.mp hj
      rw [List.getElem?_eq_none (by omega)]
      rfl
    | some v =>
      obtain ⟨en, hen, hv⟩ := hacc.2 j v (by rw [← Array.getElem?_toList]; exact hj)
      have : es.1[j]? = some en := by simpa using hen
      rw [this, hv]
      rfl
  rw [e]
  exact h h' tk hk

/-- sorted(u) -/
theorem sorted_gen {β : Type} {enc : β → PyData} {u : Value} {vs : List Value} {ds : List β} {R : Value → β → Prop} {Q : Value → Shared → Prop} (hc : Collects prog w A.in1 s u vs) (hL : vs.length ≤ sizeLine) (e : EachIs R vs ds)
    (er : EachIs (fun v d => ∃ as, Reads s.heap v (enc d) as) vs ds) (hal : AllAlike (ds.map enc)) (hn : ∀ d ∈ ds.map enc, d ≠ .none) (hu : ∀ d, d ∈ ds.map enc → A.units + 2 + d.depth < cLine)
    (h : ∀ (h1 h' : Heap) (tk : Nat) (out : List Value) (c : Nat), (∀ b o, s.heap.get? b = some o → h1.get? b = some o) → (∀ b o, h1.get? b = some o → h'.get? b = some o) → h'.get? h1.objs.size = some (seqObj "list" (List.toArray out) c) → EachIs R out (ds.mergeSort (dataLe false enc)) → Q (.ref h1.objs.size) { s with heap := h', toks := tk }) :
    wpAny (model prog w) A (call (.builtin "sorted") [u]) Q E s := by
  refine Calls.call_function_entry kind_sorted plain_sorted entry_sorted (args_sorted1 _) ?_
  unfold Builtin.«sorted»
  refine wpAny_bind (m := checkCount "sorted" 1 1 _) (wpAny_pure ?_)
  refine wpAny_bind (hc _ _ fun h1 tk k1 => ?_)
  refine wpAny_bind (wpAny_newList ?_ hL)
  have hoL : (h1.push (seqObj "list" vs.toArray 0)).get? h1.objs.size = some (seqObj "list" vs.toArray 0) := Heap.get?_push_size _ rfl
  have ks : ∀ b o, s.heap.get? b = some o → (sortingHeap (h1.push (seqObj "list" vs.toArray 0)) h1.objs.size vs).get? b = some o := fun b o q =>
    sortingHeap_old (Nat.ne_of_lt (Heap.lt_size (k1 b o q))) (Heap.get?_push_of_some _ (k1 b o q))
  have er' : EachIs (fun v d => ∃ as, Reads (sortingHeap (h1.push (seqObj "list" vs.toArray 0)) h1.objs.size vs) v (enc d) as) vs ds := er.mono fun _ _ ⟨as, r⟩ => ⟨as, PyProof.Rows.Reads.keeps ks r⟩
  have er2 : EachIs (fun v d => ∃ as, Reads (sortingHeap (h1.push (seqObj "list" vs.toArray 0)) h1.objs.size vs) v d as) vs (ds.map enc) := each_map (R := fun v d => ∃ as, Reads (sortingHeap (h1.push (seqObj "list" vs.toArray 0)) h1.objs.size vs) v d as) enc er'
  refine wpAny_bind (wpAny_holding (wpAny_call_entry slot_list_sort ⟨_, hoL, rfl⟩ entry_list_sort
    (list_sort_vals (s := { s with heap := h1.push (seqObj "list" vs.toArray 0), toks := tk }) hoL (sorts_any (s := { s with heap := sortingHeap (h1.push (seqObj "list" vs.toArray 0)) h1.objs.size vs, toks := tk }) er2 hal hn hu) hL ⟨_, rfl, ?_⟩) (args_list_sort _)))
  obtain ⟨c, hcc⟩ := sortedHeap_at (vs := vs) (out := (sortVals (dataKind (sortingHeap (h1.push (seqObj "list" vs.toArray 0)) h1.objs.size vs) (ds.map enc)) false vs vs).toArray) hoL
  have e2 : EachIs R (sortVals (dataKind (sortingHeap (h1.push (seqObj "list" vs.toArray 0)) h1.objs.size vs) (ds.map enc)) false vs vs) (ds.mergeSort (dataLe false enc)) :=
    sortVals_data (h' := sortingHeap (h1.push (seqObj "list" vs.toArray 0)) h1.objs.size vs) (enc := enc) (bs := ds) false e er' hal
  refine wpAny_pure ⟨_, rfl, h h1 _ _ _ c k1 (fun b o q => ?_) hcc e2⟩
  have hlt := Heap.lt_size q
  show (sortedHeap (h1.push (seqObj "list" vs.toArray 0)) h1.objs.size vs _).get? b = some o
  rw [sortedHeap_old (Nat.ne_of_lt hlt) (by rw [size_push']; exact Nat.lt_succ_of_lt hlt)]
  exact Heap.get?_push_of_some _ q
end

section
variable {G : Gx} {X : Cx}
theorem toPs_map : ∀ ds : List D, D.toPs ds = ds.map D.toP
  | [] => rfl
  | d :: ds => by simp [D.toPs, toPs_map ds]
theorem each_dvs {M ρ : List Addr} {H : Hp} : ∀ {ds : List D} {vs : List V} {us : List Value}, DVs G M ρ H ds vs → Vals vs us → EachIs (fun u d => ∃ v, RelV v u ∧ DV G M ρ H d v) us ds
  | [], vs, us, h, r => by
    have h : vs = [] := h
    subst h
    cases r
    exact .nil
  | d :: ds, vs, us, h, r => by
    obtain ⟨v, t, e, h1, h2⟩ := h
    subst e
    cases r with
    | cons r1 r2 => exact .cons ⟨v, r1, h1⟩ (each_dvs h2 r2)
theorem dvs_each {M ρ : List Addr} {H : Hp} : ∀ {ds : List D} {us : List Value}, EachIs (fun u d => ∃ v, RelV v u ∧ DV G M ρ H d v) us ds → ∃ vs, DVs G M ρ H ds vs ∧ Vals vs us
  | _, _, .nil => ⟨[], rfl, .nil⟩
  | _, _, .cons ⟨v, r, h⟩ t => by
    obtain ⟨vs, h1, h2⟩ := dvs_each t
    exact ⟨v :: vs, .cons h h1, .cons r h2⟩
theorem leb_eq : D.leb = dataLe false D.toP := rfl
theorem each_reads {pins : List (Addr × Obj)} {s : Shared} {σ : L2.St} {H : Hp} {B ρ : List Addr} (I : Inv X pins σ H s) (xa : XA G X) : ∀ {ds : List D} {us : List Value}, (∀ d ∈ ds, D.lay DEEP d = true) → EachIs (fun u d => ∃ v, RelV v u ∧ DV G (ρ ++ B) ρ H d v) us ds →
    EachIs (fun u d => ∃ as, Reads s.heap u (D.toP d) as) us ds
  | [], [], _, _ => .nil
  | [], _ :: _, _, e => nomatch e
  | _ :: _, [], _, e => nomatch e
  | d :: ds, u :: us, l, e => by
    cases e with
    | cons h t =>
      obtain ⟨v, r, h⟩ := h
      exact .cons (L2.Dp.reads I d.toP v _ (by rw [xa.K]; exact dp_of _ d v (l d List.mem_cons_self) h) r) (each_reads I xa (fun x hx => l x (List.mem_cons_of_mem _ hx)) t)
theorem isNon_toP {d : D} (l : D.lay DEEP d = true) (h : d.isNon = false) : d.toP ≠ .none := by
  cases d with
  | non => simp [D.isNon] at h
  | dct _ _ => simp [D.lay] at l
  | ref _ => simp [D.lay] at l
  | _ => intro z; simp [D.toP] at z

/-- what is sorted, and into what -/
theorem sort_rule (xa : XA G X) {pins : List (Addr × Obj)} {s : Shared} {σ : L2.St} {H : Hp} {Q : VK} {B ρ : List Addr} {st : Store} {ds : List D} {vs : List V} {us : List Value} {u : Value} (I : Inv X pins σ H s) (rs : RS (G := G) B st ρ H)
    (hds : DVs G (ρ ++ B) ρ H ds vs) (hv : Vals vs us) (hL : us.length ≤ sizeLine) (hc : Collects X.prog X.w X.A.in1 s u us) (ok : sortOk ds = true) (fin : Fin G B ρ H Q (.lst (sortD ds))) :
    wpAny (model X.prog X.w) X.A (call (.builtin "sorted") [u]) (EP X pins σ Q) X.xe s := by
  have lay : ∀ d ∈ ds, D.lay DEEP d = true := fun d hd => by
    have := List.all_eq_true.mp ok d hd
    simp only [Bool.and_eq_true] at this
    exact this.1.1
  have ok' : ∀ d ∈ ds, d.isNon = false ∧ ∀ d' ∈ ds, D.ali d d' = true := fun d hd => by
    have := List.all_eq_true.mp ok d hd
    simp only [Bool.and_eq_true, Bool.not_eq_true', List.all_eq_true] at this
    exact ⟨this.1.2, this.2⟩
  have e0 := each_dvs hds hv
  refine sorted_gen (enc := D.toP) hc hL e0 (each_reads I xa lay e0) ?_ ?_ ?_ fun h1 h' tk out c k1 k2 ho e => ?_
  · intro a ha b hb
    obtain ⟨a', ha', rfl⟩ := List.mem_map.mp ha
    obtain ⟨b', hb', rfl⟩ := List.mem_map.mp hb
    exact (ok' _ ha').2 _ hb'
  · intro a ha
    obtain ⟨a', ha', rfl⟩ := List.mem_map.mp ha
    exact isNon_toP (lay _ ha') (ok' _ ha').1
  · intro a ha
    obtain ⟨a', ha', rfl⟩ := List.mem_map.mp ha
    have h1 := depth_of _ _ (lay _ ha')
    have h2 := xa.un
    have h3 : DEEP = 20 := rfl
    omega
  · have I1 : Inv X pins σ H { s with heap := h1, toks := tk } := I.kept k1
    obtain ⟨ws, g1, g2⟩ := dvs_each e
    have hn := I1.hok.fresh (a := h1.objs.size) (Nat.le_refl _)
    refine ⟨.ref h1.objs.size, upd H h1.objs.size (.lst ws), I1.laid (t' := tk) (h' := h') k2 (Nat.le_refl _) (show ObjOk X.prog X.w _ _ _ (.lst ws) from ⟨?_, out, c, g2, ho⟩), rfl, Fin.lst rs fin g1 hn⟩
    have l1 := e.length
    have l2 := e0.length
    rw [List.length_mergeSort] at l1
    rw [Vals.length g2, l1, ← l2]
    exact hL
theorem dkey_rel {G : Gx} {M ρ : List Addr} {H : Hp} {d : D} {u : Value} (hs : d.skey = true) (h : keyIs d.dkey u = true) : ∃ v, RelV v u ∧ DV G M ρ H d v := by
  cases d with
  | int i => exact ⟨.int i, keyIs_rel h, rfl⟩
  | str x => exact ⟨.str x, keyIs_rel h, rfl⟩
  | _ => simp [D.skey] at hs
/-- a dict's object -/
theorem dct_raw (xa : XA G X) {pins : List (Addr × Obj)} {s : Shared} {σ : L2.St} {H : Hp} {B ρ : List Addr} {ks ws : List D} {p : Addr} (I : Inv X pins σ H s) (h : DctAt G (ρ ++ B) ρ H ks ws p) :
    ∃ es kv vv, rawD p es s.heap ∧ DVs G (ρ ++ B) ρ H ks kv ∧ Vals kv (es.1.map (·.key)) ∧ DVs G (ρ ++ B) ρ H ws vv ∧ Vals vv (es.1.map (·.val)) ∧ es.1.length ≤ sizeLine := by
  rcases h with h | h
  · obtain ⟨kvs, h2, h3, h4, h5⟩ := h
    obtain ⟨z, hm, vs, rel, o, es, ep, g1, g2, g3, g4, g5, g6⟩ := (show ObjOk X.prog X.w H s.heap p (.dK kvs) from I.hok p _ h2)
    have hl : es.toList.length = vs.length := g5.length
    have hl2 : kvs.length = vs.length := Paired.length rel
    have hkk : vs.map (·.1) = ks.map D.dkey := by rw [← h4]; exact rel.keys.symm
    have hz : es.toList.length ≤ sizeLine := by rw [hl, ← hl2]; exact z
    have key : ∀ (es : List DictEntry) (vs : List (L2.Key × Value)) (ks : List D), Pairs (mixKind X.prog X.w) es vs → vs.map (·.1) = ks.map D.dkey → ks.all D.skey = true → ∃ kv, DVs G (ρ ++ B) ρ H ks kv ∧ Vals kv (es.map (·.key)) := by
      intro es vs
      induction vs generalizing es with
      | nil =>
        intro ks pr e _
        cases ks with
        | nil =>
          cases es with
          | nil => exact ⟨[], rfl, .nil⟩
          | cons _ _ => exact absurd pr.length (by simp)
        | cons _ _ => simp at e
      | cons v vs ih =>
        intro ks pr e hs
        cases ks with
        | nil => simp at e
        | cons k ks =>
          cases es with
          | nil => exact absurd pr.length (by simp)
          | cons en es =>
            simp only [List.map_cons, List.cons.injEq] at e
            simp only [List.all_cons, Bool.and_eq_true] at hs
            cases pr with
            | cons q1 q2 q3 =>
            obtain ⟨kv, r1, r2⟩ := ih es ks q3 e.2 hs.2
            obtain ⟨v', r3, r4⟩ := dkey_rel (G := G) (M := ρ ++ B) (ρ := ρ) (H := H) hs.1 (by rw [← e.1]; exact q1)
            exact ⟨v' :: kv, .cons r4 r1, .cons r3 r2⟩
    have val : ∀ (es : List DictEntry) (vs : List (L2.Key × Value)) (kvs : List (L2.Key × V)), Pairs (mixKind X.prog X.w) es vs → KV kvs vs → Vals (kvs.map (·.2)) (es.map (·.val)) := by
      intro es vs
      induction vs generalizing es with
      | nil =>
        intro kvs pr rel
        cases rel
        cases es with
        | nil => exact .nil
        | cons _ _ => exact absurd pr.length (by simp)
      | cons v vs ih =>
        intro kvs pr rel
        cases rel with
        | cons r1 r2 =>
          cases pr with
          | cons q1 q2 q3 =>
            refine .cons ?_ (ih _ _ q3 r2)
            have q := r1.2
            rw [← q2] at q
            exact q
    obtain ⟨kv, r1, r2⟩ := key _ _ _ g5 hkk h3
    exact ⟨(es.toList, ep), kv, _, ⟨o, g1, g2, by simpa using g3, hm⟩, r1, r2, h5, val _ _ _ g5 rel, hz⟩
  · obtain ⟨es, kv, vv, h2, h3, h4, h5, h6, h7, h8, h9, h10⟩ := h
    obtain ⟨hraw, _⟩ := (show ObjOk X.prog X.w H s.heap p (.ext (rawD p es)) from I.hok p _ h2)
    exact ⟨es, kv, vv, hraw, h9, h3, h10, h4, by rw [← lim_line]; exact h8⟩
/-- the keys of a dict, in their order -/
theorem dct_keys (xa : XA G X) {pins : List (Addr × Obj)} {s : Shared} {σ : L2.St} {H : Hp} {B ρ : List Addr} {st : Store} {ks ws : List D} {p : Addr} (I : Inv X pins σ H s) (rs : RS (G := G) B st ρ H) (h : DctAt G (ρ ++ B) ρ H ks ws p) :
    ∃ kv us, DVs G (ρ ++ B) ρ H ks kv ∧ Vals kv us ∧ us.length ≤ sizeLine ∧ Collects X.prog X.w X.A.in1 s (.ref p) us := by
  obtain ⟨es, kv, vv, hraw, h1, h2, _, _, hz⟩ := dct_raw xa I h
  exact ⟨kv, _, h1, h2, by rw [List.length_map]; exact hz, collects_dct (A := X.A.in1) (show X.A.in1.handled = none from I.ok.hd xa.calm) hraw hz⟩
theorem sorted_ok (xa : XA G X) : CallR X (.builtin "sorted") (rBi G srtEv) := by
  intro pins s σ H vs us Q I r h
  obtain ⟨B, ρ, st, ds, d, rs, hd, hf, fin⟩ := h
  match ds, hf with
  | [.tup ds], hf =>
    simp only [srtEv] at hf
    split at hf
    · rename_i ok
      cases hf
      obtain ⟨v, rfl, h1⟩ := dbs1 hd
      obtain ⟨p, ws, rfl, h2, h3⟩ := h1.tup
      obtain ⟨u, rfl, rx⟩ := r.one
      cases rx
      obtain ⟨its, rv, pl, hz⟩ := I.tuple (show SqT X.K H p ws by rw [xa.K]; exact h2)
      exact sort_rule xa I rs h3 rv (by rw [← rv.length]; exact hz) (collects_tup (show s.heap.IsTuple p its.toArray from pl) (by rw [← rv.length]; exact hz)) ok fin
    · cases hf
  | [.lst ds], hf =>
    simp only [srtEv] at hf
    split at hf
    · rename_i ok
      cases hf
      obtain ⟨p, ws, rfl, h2, h3⟩ := one_lst hd
      obtain ⟨u, rfl, rx⟩ := r.one
      cases rx
      obtain ⟨its, rv, pl, hz⟩ := I.list (show SqL X.K H p ws from .inl h2)
      exact sort_rule xa I rs h3 rv (by rw [← rv.length]; exact hz) (collects_list pl.isList (by rw [← rv.length]; exact hz)) ok fin
    · cases hf
  | [.dct ks ws], hf =>
    simp only [srtEv] at hf
    split at hf
    · rename_i ok
      cases hf
      obtain ⟨v, rfl, h1⟩ := dbs1 hd
      obtain ⟨p, rfl, hdd⟩ := h1.dct
      obtain ⟨u, rfl, rx⟩ := r.one
      cases rx
      obtain ⟨kv, us, h9, h3, hz, hc⟩ := dct_keys xa I rs hdd
      exact sort_rule xa I rs h9 h3 hz hc ok fin
    · cases hf
end
end Dp
set_option Elab.async false
set_option linter.all false
set_option maxRecDepth 100000
set_option maxHeartbeats 4000000
/-! Dp7: repr, list(dict), dict(pairs), items of dicts. -/
namespace Dp
open PySem PySem.Spec PyProof.Rows L2 PySem.W PySem.SeqAt

section
variable {G : Gx} {X : Cx}
/-! ### repr -/
theorem repr_rule (xa : XA G X) {pins : List (Addr × Obj)} {s : Shared} {σ : L2.St} {H : Hp} {Q : VK} {B ρ : List Addr} {d : D} {p : Addr} (I : Inv X pins σ H s) (h : DB G B ρ H d (.ref p)) (ok : reprOk d = true) (q : Q (.str d.toP.shown) H) :
    wpAny (model X.prog X.w) X.A (call (.builtin "repr") [.ref p]) (EP X pins σ Q) X.xe s := by
  simp only [reprOk, Bool.and_eq_true, decide_eq_true_eq] at ok
  obtain ⟨⟨⟨l, sh⟩, is⟩, w⟩ := ok
  obtain ⟨as, r⟩ := L2.Dp.reads I d.toP (.ref p) (.ref p) (by rw [xa.K]; exact DB.dp l h) rfl
  have cl := canLay_of _ d l
  have h1 := depth_of _ d l
  have h2 := xa.un
  have h3 : DEEP = 20 := rfl
  have hsz : d.toP.shown.length ≤ sizeLine := PyData.shown_fits (B := 13) (by decide) (by decide) (PyData.leavesShort_of_canLay0 13 d.toP cl is) w
  exact repr_of_reads' r sh (PyData.noDict_hsm (PyData.hasDict_of_canLay d.toP cl)) xa.gd (by omega) (fun _ _ e => e) (fun h' u tk k => ⟨.str d.toP.shown, H, I.kept k, ⟨u, rfl⟩, q⟩) hsz
theorem repr_ok (xa : XA G X) : CallR X (.builtin "repr") (rBi G reprEv) := by
  intro pins s σ H vs us Q I r h
  obtain ⟨B, ρ, st, ds, d, rs, hd, hf, fin⟩ := h
  match ds, hf with
  | [.tup ds], hf =>
    simp only [reprEv] at hf
    split at hf
    · rename_i ok
      cases hf
      obtain ⟨v, rfl, h1⟩ := dbs1 hd
      obtain ⟨p, ws, rfl, _⟩ := h1.tup
      obtain ⟨u, rfl, rx⟩ := r.one
      cases rx
      exact repr_rule xa I h1 ok (fin.now rfl)
    · cases hf
  | [.lst ds], hf =>
    simp only [reprEv] at hf
    split at hf
    · rename_i ok
      cases hf
      obtain ⟨v, rfl, h1⟩ := dbs1 hd
      obtain ⟨p, ws, rfl, _⟩ := h1.lst
      obtain ⟨u, rfl, rx⟩ := r.one
      cases rx
      exact repr_rule xa I h1 ok (fin.now rfl)
    · cases hf

/-! ### list(d) -/
theorem listd_ok (xa : XA G X) : CallR X (.type "list") (rBi G ldEv) := by
  intro pins s σ H vs us Q I r h
  obtain ⟨B, ρ, st, ds, d, rs, hd, hf, fin⟩ := h
  match ds, hf with
  | [.tup ds], hf => exact list_ok xa pins s σ H vs us Q I r ⟨B, ρ, st, _, d, rs, hd, hf, fin⟩
  | [.lst ds], hf => exact list_ok xa pins s σ H vs us Q I r ⟨B, ρ, st, _, d, rs, hd, hf, fin⟩
  | [.dct ks ws], hf =>
    cases hf
    obtain ⟨v, rfl, h1⟩ := dbs1 hd
    obtain ⟨p, rfl, hdd⟩ := h1.dct
    obtain ⟨u, rfl, rx⟩ := r.one
    cases rx
    obtain ⟨es, kv, vv, ⟨o, ho, hx, hdt, hm⟩, g1, g2, _, _, hz⟩ := dct_raw xa I hdd
    refine kdl_call (kdl_raw hm hx hdt) (I.ok.hd xa.calm) ho (by simpa using hz) fun h' tk acc c kp e it => ?_
    have ea : acc.toList = es.1.map (·.key) := by
      apply List.ext_getElem?
      intro j
      have hl : acc.toList.length = es.1.length := by rw [Array.length_toList, it.1]; simp
      rw [List.getElem?_map]
      cases hj : acc.toList[j]? with
      | none =>
        have := List.getElem?_eq_none_iff.mp hj
        rw [List.getElem?_eq_none (by omega)]
        rfl
      | some v =>
        obtain ⟨en, hen, hv⟩ := it.2 j v (by rw [← Array.getElem?_toList]; exact hj)
        have : es.1[j]? = some en := by simpa using hen
        rw [this, hv]
        rfl
    have hz2 : kv.length ≤ sizeLine := by rw [Vals.length g2, List.length_map]; exact hz
    have hn := I.hok.fresh (a := s.heap.objs.size) (Nat.le_refl _)
    exact ⟨.ref s.heap.objs.size, upd H s.heap.objs.size (.lst kv), I.laid kp (Nat.le_refl _) (show ObjOk X.prog X.w _ _ _ (.lst kv) from ⟨hz2, acc.toList, c, by rw [ea]; exact g2, by rw [Array.toArray_toList]; exact e⟩), rfl, Fin.lst rs fin g1 hn⟩

/-! ### d[k] -/
theorem sub_dct {prog : Program} {w : World} {A : Around} {E : Value → Shared → Prop} {s : Shared} {value slice : Expr} {o i : Value} {Q : Value → Shared → Prop} (hT : s.TypeIs o "dict") (hs : subscripted slice false o i = operate [o, i] (getItem o i))
    (h : wpAny (model prog w) A (getItem o i) Q E s) : wpAny (model prog w) A (subscriptTail value slice o i) Q E s := by
  unfold subscriptTail
  refine wpAny_bind ?_
  rw [getitemInPython_of_ne hT.not_modules]
  refine wpAny_bind (wpAny_specialOf hT PySem.F.slot_dict_getitem.lookup ?_)
  have fin : wpAny (model prog w) A (subscripted slice false o i) (fun r s₃ => wpAny (model prog w) A (letTemporaryGo value o r >>= fun _ => pure r) Q E s₃) E s := by
    rw [hs]
    exact wpAny_operating (wpAny_mono h (fun r s₃ h₃ => wpAny_bind (wpAny_letTemporaryGo (wpAny_pure h₃))) fun _ _ x => x)
  first
    | exact wpAny_pure (wpAny_bind fin)
    | exact wpAny_bind (wpAny_pure (wpAny_bind fin))
    | exact wpAny_bind fin
def atE (ds : List D) : D → Option D
  | .int i => atD ds i
  | _ => none
theorem subEv_ref (st : Store) (n : Nat) (e : D) : subEv st (.ref n) e = match st[n]? with
    | some (.lst ds) => atE ds e
    | some (.dct ks vs) => if ((e :: ks).all D.skey) = true then dlook ks vs e else none
    | _ => none := by
  cases e <;> rfl
theorem sub_ok (xa : XA G X) : IxR X (r2S G subEv) := by
  intro value slice pins s σ H x y v u Q I rx ry h hs
  obtain ⟨B, ρ, st, d, e, r, rs, hd, he, hf, fin⟩ := h
  have viaDct : ∀ (ks ws : List D) (p : Addr), x = .ref p → DctAt G (ρ ++ B) ρ H ks ws p → (if ((e :: ks).all D.skey) = true then dlook ks ws e else none) = some r → wpAny (model X.prog X.w) X.A (subscriptTail value slice v u) (EP X pins σ Q) X.xe s := by
    intro ks ws p ex hdd hf
    subst ex
    cases rx
    split at hf
    · rename_i ok
      simp only [List.all_cons, Bool.and_eq_true] at ok
      obtain ⟨o, g1, _, g2⟩ := dct_get ok.1 ok.2 (db_scal ok.1 he) hdd
      obtain ⟨w, rfl, g3⟩ := g2 _ hf
      have hu := xa.un
      exact sub_dct (dict_typeIs I g1) hs (d_getItem (by omega) I g1 ry fun w' s' I' rw' => ⟨w, H, I', rw', fin.now g3⟩)
    · cases hf
  cases d with
  | tup ds =>
    cases e <;> simp only [subEv, reduceCtorEq] at hf
    exact sub_seq xa value slice pins s σ H x y v u Q I rx ry ⟨B, ρ, st, .tup ds, _, r, rs, hd, he, hf, fin⟩ hs
  | lst ds =>
    cases e <;> simp only [subEv, reduceCtorEq] at hf
    exact sub_seq xa value slice pins s σ H x y v u Q I rx ry ⟨B, ρ, st, .lst ds, _, r, rs, hd, he, hf, fin⟩ hs
  | dct ks ws =>
    obtain ⟨p, ex, hdd⟩ := hd.dct
    exact viaDct ks ws p ex hdd hf
  | ref n =>
    rw [subEv_ref] at hf
    split at hf
    · rename_i ds e1
      cases e <;> simp only [atE, reduceCtorEq] at hf
      refine sub_seq xa value slice pins s σ H x y v u Q I rx ry ⟨B, ρ, st, .ref n, _, r, rs, hd, he, ?_, fin⟩ hs
      simp only [subSeq, e1]
      exact hf
    · rename_i ks ws e1
      obtain ⟨a, ea, ex⟩ := hd.ref
      exact viaDct ks ws a ex (rs.cel n _ a e1 ea) hf
    · cases hf
  | _ => simp [subEv] at hf
end
end Dp
set_option Elab.async false
set_option linter.all false
set_option maxRecDepth 100000
set_option maxHeartbeats 4000000
/-! Dp8: dict(pairs), the keys tuples. -/
namespace Dp
open PySem PySem.Spec PyProof.Rows L2 PySem.W PySem.SeqAt

section
variable {G : Gx} {X : Cx}
mutual
theorem nk_beq : ∀ (n : Nat) (a b : D), D.hsh n a = true → ∀ m, D.hsh m b = true → NestedKey.beq a.nk b.nk = D.eqb a b
  | n, .non, b, la, m, lb => by cases b <;> first | rfl | (simp [D.nk, NestedKey.beq, D.eqb]; done) | (cases m <;> simp [D.hsh] at lb)
  | n, .bl x, b, la, m, lb => by
    cases b <;> first | (cases m <;> simp [D.hsh] at lb; done) | skip
    · simp [D.nk, NestedKey.beq, D.eqb]
    · rename_i y; cases x <;> cases y <;> rfl
    · rename_i y; cases x <;> simp [D.nk, NestedKey.beq, D.eqb] <;> exact decide_eq_decide.mpr Iff.rfl
    · simp [D.nk, NestedKey.beq, D.eqb]
    · simp [D.nk, NestedKey.beq, D.eqb]
  | n, .int x, b, la, m, lb => by
    cases b <;> first | (cases m <;> simp [D.hsh] at lb; done) | skip
    · simp [D.nk, NestedKey.beq, D.eqb]
    · rename_i y; cases y <;> simp [D.nk, NestedKey.beq, D.eqb] <;> exact decide_eq_decide.mpr Iff.rfl
    · simp only [D.nk, NestedKey.beq, D.eqb]; exact (Bool.beq_eq_decide_eq _ _).symm
    · simp [D.nk, NestedKey.beq, D.eqb]
    · simp [D.nk, NestedKey.beq, D.eqb]
  | n, .str x, b, la, m, lb => by
    cases b <;> first | (cases m <;> simp [D.hsh] at lb; done) | skip
    · simp [D.nk, NestedKey.beq, D.eqb]
    · simp [D.nk, NestedKey.beq, D.eqb]
    · simp [D.nk, NestedKey.beq, D.eqb]
    · rename_i y
      simp only [D.nk, NestedKey.beq, D.eqb]
      by_cases q : x = y
      · subst q; simp
      · simp [q]
    · simp [D.nk, NestedKey.beq, D.eqb]
  | 0, .tup xs, b, la, m, lb => by simp [D.hsh] at la
  | n + 1, .tup xs, b, la, m, lb => by
    cases b with
    | tup ys =>
      cases m with
      | zero => simp [D.hsh] at lb
      | succ m =>
        simp only [D.nk, NestedKey.beq, D.eqb]
        exact nks_beq n xs ys (by simpa [D.hsh] using la) m (by simpa [D.hsh] using lb)
    | lst _ => cases m <;> simp [D.hsh] at lb
    | dct _ _ => cases m <;> simp [D.hsh] at lb
    | ref _ => cases m <;> simp [D.hsh] at lb
    | _ => simp [D.nk, NestedKey.beq, D.eqb]
  | n, .lst _, b, la, m, lb => by cases n <;> simp [D.hsh] at la
  | n, .dct _ _, b, la, m, lb => by cases n <;> simp [D.hsh] at la
  | n, .ref _, b, la, m, lb => by cases n <;> simp [D.hsh] at la
theorem nks_beq : ∀ (n : Nat) (as bs : List D), (∀ d ∈ as, D.hsh n d = true) → ∀ m, (∀ d ∈ bs, D.hsh m d = true) → NestedKey.beqAll (D.nks as) (D.nks bs) = D.eqbs as bs
  | _, [], [], _, _, _ => rfl
  | _, [], _ :: _, _, _, _ => rfl
  | _, _ :: _, [], _, _, _ => rfl
  | n, a :: as, b :: bs, la, m, lb => by
    simp only [D.nks, NestedKey.beqAll, D.eqbs]
    rw [nk_beq n a b (la a List.mem_cons_self) m (lb b List.mem_cons_self), nks_beq n as bs (fun x hx => la x (List.mem_cons_of_mem _ hx)) m (fun x hx => lb x (List.mem_cons_of_mem _ hx))]
end
mutual
theorem nk_depth : ∀ (n : Nat) (d : D), D.hsh n d = true → d.nk.depth ≤ n
  | n, .non, _ => by simp [D.nk, NestedKey.depth]
  | n, .bl _, _ => by simp [D.nk, NestedKey.depth]
  | n, .int _, _ => by simp [D.nk, NestedKey.depth]
  | n, .str _, _ => by simp [D.nk, NestedKey.depth]
  | 0, .tup _, l => by simp [D.hsh] at l
  | n + 1, .tup ds, l => by
    have := nks_depth n ds (by simpa [D.hsh] using l)
    simp only [D.nk, NestedKey.depth]
    omega
  | n, .lst _, l => by cases n <;> simp [D.hsh] at l
  | n, .dct _ _, l => by cases n <;> simp [D.hsh] at l
  | n, .ref _, l => by cases n <;> simp [D.hsh] at l
theorem nks_depth : ∀ (n : Nat) (ds : List D), (∀ d ∈ ds, D.hsh n d = true) → NestedKey.depthAll (D.nks ds) ≤ n
  | _, [], _ => by simp [D.nks, NestedKey.depthAll]
  | n, d :: ds, l => by
    have h1 := nk_depth n d (l d List.mem_cons_self)
    have h2 := nks_depth n ds fun x hx => l x (List.mem_cons_of_mem _ hx)
    simp only [D.nks, NestedKey.depthAll]
    omega
end
section
variable {pins : List (Addr × Obj)} {s : Shared} {σ : L2.St} {H : Hp} {B ρ : List Addr}
mutual
theorem nested_of (xa : XA G X) (I : Inv X pins σ H s) : ∀ (n : Nat) (d : D) (v : V) (u : Value), D.hsh n d = true → DV G (ρ ++ B) ρ H d v → RelV v u → NestedIs s.heap d.nk u
  | n, .non, v, u, _, h, r => by have h : v = .non := h; subst h; cases r; exact .none
  | n, .bl b, v, u, _, h, r => by have h : v = .bl b := h; subst h; cases r; exact .bool rfl
  | n, .int i, v, u, _, h, r => by have h : v = .int i := h; subst h; obtain ⟨t, rfl⟩ := r; exact .int _ _
  | n, .str x, v, u, _, h, r => by have h : v = .str x := h; subst h; obtain ⟨t, rfl⟩ := r; exact .text _ _
  | 0, .tup _, _, _, l, _, _ => by simp [D.hsh] at l
  | n + 1, .tup ds, v, u, l, h, r => by
    obtain ⟨a, vs, rfl, h1, h2⟩ := h
    cases r
    rw [← xa.K] at h1
    obtain ⟨its, rv, ⟨o, g1, g2, m, g3⟩, hz⟩ := I.tuple h1
    exact .tup g1 g2 g3 (by simpa using nesteds_of xa I n ds vs its (by simpa [D.hsh] using l) h2 rv)
  | n, .lst _, _, _, l, _, _ => by cases n <;> simp [D.hsh] at l
  | n, .dct _ _, _, _, l, _, _ => by cases n <;> simp [D.hsh] at l
  | n, .ref _, _, _, l, _, _ => by cases n <;> simp [D.hsh] at l
theorem nesteds_of (xa : XA G X) (I : Inv X pins σ H s) : ∀ (n : Nat) (ds : List D) (vs : List V) (us : List Value), (∀ d ∈ ds, D.hsh n d = true) → DVs G (ρ ++ B) ρ H ds vs → Vals vs us → NestedAll s.heap (D.nks ds) us
  | _, [], vs, us, _, h, r => by
    have h : vs = [] := h
    subst h
    cases r
    exact .nil
  | n, d :: ds, vs, us, l, h, r => by
    obtain ⟨v, t, e, h1, h2⟩ := h
    subst e
    cases r with
    | cons r1 r2 => exact .cons (nested_of xa I n d v _ (l d List.mem_cons_self) h1 r1) (nesteds_of xa I n ds t _ (fun x hx => l x (List.mem_cons_of_mem _ hx)) h2 r2)
end
end

/-- entries and what they stand for -/
inductive Tr (G : Gx) (M ρ : List Addr) (H : Hp) : List (NestedKey × Addr × Value) → List D → List D → Prop
  | nil : Tr G M ρ H [] [] []
  | cons {x : NestedKey × Addr × Value} {k d : D} {v : V} {xs : List (NestedKey × Addr × Value)} {ks vs : List D} : x.1 = k.nk → k.tkey = true → DV G M ρ H k (.ref x.2.1) → RelV v x.2.2 → DV G M ρ H d v → Tr G M ρ H xs ks vs → Tr G M ρ H (x :: xs) (k :: ks) (d :: vs)
variable {M ρ : List Addr} {H : Hp} {xs : List (NestedKey × Addr × Value)} {ks vs : List D}
theorem tkey_hsh {k : D} (h : k.tkey = true) : D.hsh KDEEP k = true := by
  simp only [D.tkey, Bool.and_eq_true] at h
  exact h.2
theorem nk_eq {k q : D} (h : k.tkey = true) (g : q.tkey = true) : decide (k.nk = q.nk) = D.eqb k q := by
  rw [NestedKey.decide_eq]
  exact nk_beq _ k q (tkey_hsh h) _ (tkey_hsh g)
theorem Tr.has {q : D} (hq : q.tkey = true) (t : Tr G M ρ H xs ks vs) : (atKey xs q.nk).isSome = dhas ks q := by
  induction t with
  | nil => rfl
  | @cons x k d v xs ks vs h1 h2 h3 h4 h5 t ih =>
    have e := nk_eq h2 hq
    rw [← h1] at e
    by_cases c : x.1 = q.nk
    · rw [decide_eq_true c] at e
      simp [atKey, List.find?_cons, c, dhas, ← e]
    · rw [decide_eq_false c] at e
      have : atKey (x :: xs) q.nk = atKey xs q.nk := by simp [atKey, List.find?_cons, c]
      rw [this, ih]
      simp [dhas, ← e]
theorem Tr.set {q d : D} {v : V} {u : Value} (hq : q.tkey = true) (rv : RelV v u) (hd : DV G M ρ H d v) (t : Tr G M ρ H xs ks vs) : Tr G M ρ H (xs.map (putAt q.nk u)) ks (dset ks vs q d) := by
  induction t with
  | nil => exact .nil
  | @cons x k d' v' xs ks vs h1 h2 h3 h4 h5 t ih =>
    have e := nk_eq h2 hq
    rw [← h1] at e
    rw [List.map_cons]
    unfold putAt dset
    by_cases c : x.1 = q.nk
    · rw [decide_eq_true c] at e
      rw [if_pos c, ← e, if_pos rfl]
      exact .cons h1 h2 h3 rv hd ih
    · rw [decide_eq_false c] at e
      rw [if_neg c, ← e, if_neg (by simp)]
      exact .cons h1 h2 h3 h4 h5 ih
theorem Tr.snoc {q d : D} {a : Addr} {v : V} {u : Value} (hq : q.tkey = true) (ha : DV G M ρ H q (.ref a)) (rv : RelV v u) (hd : DV G M ρ H d v) (t : Tr G M ρ H xs ks vs) : Tr G M ρ H (xs ++ [(q.nk, a, u)]) (ks ++ [q]) (vs ++ [d]) := by
  induction t with
  | nil => exact .cons rfl hq ha rv hd .nil
  | cons h1 h2 h3 h4 h5 t ih => exact .cons h1 h2 h3 h4 h5 ih
theorem Tr.put {q d : D} {a : Addr} {v : V} {u : Value} (hq : q.tkey = true) (ha : DV G M ρ H q (.ref a)) (rv : RelV v u) (hd : DV G M ρ H d v) (t : Tr G M ρ H xs ks vs) : Tr G M ρ H (storedH xs q.nk a u) (dput ks vs q d).1 (dput ks vs q d).2 := by
  unfold storedH dput
  rw [t.has hq]
  cases dhas ks q with
  | true => exact t.set hq rv hd
  | false => exact t.snoc hq ha rv hd
/-- the pairs to be put, one behind the other -/
theorem Tr.puts : ∀ {ps : List (D × D)} {qs ys : List (NestedKey × Addr × Value)} {ks vs : List D}, Tr G M ρ H qs (ps.map (·.1)) (ps.map (·.2)) → Tr G M ρ H ys ks vs → Tr G M ρ H (storedAllH ys qs) (dputs ks vs ps).1 (dputs ks vs ps).2
  | [], _, _, _, _, t, y => by
    cases t
    exact y
  | (k, d) :: ps, _, ys, ks, vs, t, y => by
    cases t with
    | @cons x _ _ v xs _ _ h1 h2 h3 h4 h5 t =>
      have := y.put h2 h3 h4 h5
      rw [← h1] at this
      show Tr G M ρ H (storedAllH (storedH ys x.1 x.2.1 x.2.2) xs) _ _
      exact Tr.puts (ps := ps) t this
theorem Tr.keys (t : Tr G M ρ H xs ks vs) : DVs G M ρ H ks (xs.map fun x => V.ref x.2.1) ∧ ks.all D.tkey = true ∧ xs.map (·.1) = ks.map D.nk ∧ ∃ vv, Vals vv (xs.map (·.2.2)) ∧ DVs G M ρ H vs vv := by
  induction t with
  | nil => exact ⟨rfl, rfl, rfl, [], .nil, rfl⟩
  | cons h1 h2 h3 h4 h5 t ih =>
    obtain ⟨i1, i2, i3, vv, i4, i5⟩ := ih
    refine ⟨.cons h3 i1, by simp [h2, i2], by simp [h1, i3], _ :: vv, .cons h4 i4, .cons h5 i5⟩

theorem pairs_of_D : ∀ {ds : List D} {ps : List (D × D)}, pairsOf ds = some ps → ds = ps.map fun p => .tup [p.1, p.2]
  | [], ps, h => by cases h; rfl
  | d :: ds, ps, h => by
    match d, h with
    | .tup [k, v], h =>
      obtain ⟨qs, e, rfl⟩ := Option.map_eq_some_iff.mp h
      rw [pairs_of_D e]
      rfl
    | .non, h => cases h
    | .bl _, h => cases h
    | .int _, h => cases h
    | .str _, h => cases h
    | .lst _, h => cases h
    | .dct _ _, h => cases h
    | .ref _, h => cases h
    | .tup [], h => cases h
    | .tup [_], h => cases h
    | .tup (_ :: _ :: _ :: _), h => cases h

/-- the pairs in the heap -/
theorem pairs_at (xa : XA G X) {pins : List (Addr × Obj)} {s : Shared} {σ : L2.St} {H : Hp} {B ρ : List Addr} (I : Inv X pins σ H s) : ∀ {ps : List (D × D)} {vs : List V} {us : List Value}, (ps.map (·.1)).all D.tkey = true → DVs G (ρ ++ B) ρ H (ps.map fun p => D.tup [p.1, p.2]) vs → Vals vs us →
    ∃ (Ts : List Addr) (qs : List (NestedKey × Addr × Value)), us = Ts.map Value.ref ∧ Ts.length = ps.length ∧ qs.length = ps.length ∧ Tr G (ρ ++ B) ρ H qs (ps.map (·.1)) (ps.map (·.2)) ∧ (∀ x ∈ qs, (nestedKind X.prog X.w).is s.heap x.1 x.2.1) ∧
      ∀ (j : Nat) T x, Ts[j]? = some T → qs[j]? = some x → PairAt s.heap T (.ref x.2.1) x.2.2
  | [], vs, us, _, h, r => by
    have h : vs = [] := h
    subst h
    cases r
    exact ⟨[], [], rfl, rfl, rfl, .nil, fun _ h => (by simp at h), fun j T x h => by simp at h⟩
  | p :: ps, vs, us, hk, h, r => by
    obtain ⟨v, t, e, h1, h2⟩ := h
    subst e
    simp only [List.map_cons, List.all_cons, Bool.and_eq_true] at hk
    cases r with
    | cons r1 r2 =>
      obtain ⟨Ts, qs, e1, e2, e3, e4, e5, e6⟩ := pairs_at xa I hk.2 h2 r2
      obtain ⟨T, ws, rfl, g1, g2⟩ := h1
      cases r1
      rw [← xa.K] at g1
      obtain ⟨its, rv, ht, _⟩ := I.tuple g1
      obtain ⟨kv, ws1, ew, g3, g4⟩ := g2
      obtain ⟨vv, ws2, ew2, g5, g6⟩ := g4
      have g6 : ws2 = [] := g6
      subst g6 ew2 ew
      obtain ⟨ku, vu, ei, ru, ry⟩ := vals2 rv
      subst ei
      have hk1 := hk.1
      simp only [D.tkey, Bool.and_eq_true] at hk1
      obtain ⟨a, ea⟩ : ∃ a, kv = .ref a := by
        cases hp : p.1 with
        | tup xs =>
          rw [hp] at g3
          obtain ⟨a, _, e, _⟩ := g3
          exact ⟨a, e⟩
        | _ => rw [hp] at hk1; simp [D.isTup] at hk1
      subst ea
      cases ru
      refine ⟨T :: Ts, (p.1.nk, a, vu) :: qs, by rw [e1]; rfl, by simp [e2], by simp [e3], .cons rfl hk.1 g3 ry g5 e4, fun x hx => ?_, fun j T' x hj hx => ?_⟩
      · rcases List.mem_cons.mp hx with rfl | hx
        · refine ⟨nested_of xa I _ _ _ _ hk1.2 g3 rfl, ?_⟩
          have h1 := nk_depth _ _ hk1.2
          have h2 : KDEEP = 7 := rfl
          show p.1.nk.depth ≤ 8
          omega
        · exact e5 x hx
      · cases j with
        | zero =>
          simp only [List.getElem?_cons_zero, Option.some.injEq] at hj hx
          subst hj hx
          obtain ⟨o, q1, q2, m, q3⟩ := ht
          exact .inl ⟨o, q1, q2, m, by simpa using q3⟩
        | succ j =>
          simp only [List.getElem?_cons_succ] at hj hx
          exact e6 j T' x hj hx

theorem dputs_ne : ∀ {ps : List (D × D)} {ks vs : List D}, ks ≠ [] ∨ ps ≠ [] → (dputs ks vs ps).1 ≠ []
  | [], ks, vs, h => by rcases h with h | h; exact h; exact (h rfl).elim
  | (k, v) :: ps, ks, vs, _ => by
    refine dputs_ne (ks := (dput ks vs k v).1) (vs := (dput ks vs k v).2) (.inl ?_)
    unfold dput
    split
    · rename_i q
      intro z
      rw [show ks = [] from z] at q
      simp [dhas] at q
    · simp
theorem dict_ok (xa : XA G X) : CallR X (.type "dict") (rBi G dictEv) := by
  intro pins s σ H vs us Q I r h
  obtain ⟨B, ρ, st, ds, d, rs, hd, hf, fin⟩ := h
  match ds, hf with
  | [.lst ds], hf =>
    obtain ⟨ps, e1, hf⟩ := Option.bind_eq_some_iff.mp hf
    split at hf
    · rename_i ok
      cases hf
      obtain ⟨p, ws, rfl, h2, h3⟩ := one_lst hd
      obtain ⟨u, rfl, rx⟩ := r.one
      cases rx
      obtain ⟨hz, its, n, rv, _, g1⟩ := rdLst I h2
      rw [pairs_of_D e1] at h3
      have hn := I.hok.fresh (a := s.heap.objs.size) (Nat.le_refl _)
      obtain ⟨Ts, qs, ei, l1, l2, t, kis, pa⟩ := pairs_at xa I ok h3 rv
      by_cases hne : ps = []
      · subst hne
        have hTs : Ts = [] := by simpa using l1
        subst hTs
        have hw : ws = [] := h3
        subst hw
        refine call_dictP xa.calm pins s σ H _ _ Q I r ⟨p, [], [], rfl, .inl h2, .nil, fun q hq => ?_⟩
        refine fin _ _ (same_laid hq) ?_
        exact ⟨q, rfl, fresh_notin rs hq, .inl ⟨[], upd_same, rfl, rfl, rfl⟩⟩
      · subst ei
        refine call_dict_pairsH (knd := nestedKind X.prog X.w) (ps := qs) (PairArg.list p (Ts.map Value.ref).toArray (fun j => Ts.getD j 0) (qs.map fun x => (Value.ref x.2.1, x.2.2))) (I.ok.hd xa.calm) ?_ ⟨⟨_, n, g1, rfl, rfl, rfl⟩, ?_, ?_⟩ ⟨?_, ?_⟩ ?_ ?_ ?_
        · have := xa.un
          show X.A.units + 1 + 1 + 8 < cLine
          omega
        · simp [l1, l2]
        · intro j k v hj
          rw [List.getElem?_map, Option.map_eq_some_iff] at hj
          obtain ⟨x, hx, ex⟩ := hj
          cases ex
          have hlt : j < Ts.length := by rw [l1, ← l2]; exact (List.getElem?_eq_some_iff.mp hx).1
          have hT : Ts[j]? = some Ts[j] := by simp [hlt]
          have hD : Ts.getD j 0 = Ts[j] := by simp [List.getD_eq_getElem?_getD, hT]
          show _ = some (Value.ref (Ts.getD j 0)) ∧ PairAt s.heap (Ts.getD j 0) _ _
          rw [hD]
          exact ⟨by simp [hT], pa j _ x hT hx⟩
        · simp
        · intro i key v hi
          have hi : (qs.map fun x => (Value.ref x.2.1, x.2.2))[i]? = some (key, v) := hi
          rw [List.getElem?_map, Option.map_eq_some_iff] at hi
          obtain ⟨x, hx, ex⟩ := hi
          cases ex
          exact ⟨x.1, x.2.1, hx, rfl⟩
        · intro h' hk x hx
          exact (nestedKind_stays (prog := X.prog) (w := X.w)).stays (fun b o vs m e _ => hk b o (Nat.ne_of_lt (Heap.lt_size e)) (fun z => nomatch z) e) (kis x hx)
        · rw [List.length_map, l2, ← l1]
          rw [Vals.length rv, List.length_map] at hz
          exact hz
        · intro h' tk hd' hk
          obtain ⟨o, es, ep, q1, q2, q3, q4, q5, q6⟩ := hd'
          have tt := Tr.puts (ys := []) (ks := []) (vs := []) t .nil
          obtain ⟨k1, k2, k3, vv, k4, k5⟩ := tt.keys
          have hm : (s.heap.objs.size == sysModules) = false := beq_eq_false_iff_ne.mpr (Nat.ne_of_gt I.big)
          have raw : rawD s.heap.objs.size (es.toList, ep) h' := ⟨o, q1, q2, by simpa using q3, hm⟩
          have hlen : es.toList.length ≤ LIM := by
            have a1 := storedAllH_length qs []
            rw [q4, List.length_map, lim_line]
            rw [Vals.length rv, List.length_map, l1, ← l2] at hz
            simp at a1
            omega
          refine ⟨.ref s.heap.objs.size, upd H s.heap.objs.size (.ext (rawD s.heap.objs.size (es.toList, ep))), I.laid (fun b u e => hk b u (fun z => nomatch z) e) (Nat.le_refl _) (show ObjOk X.prog X.w _ _ _ (.ext _) from ⟨raw, ⟨o, q1⟩, ?_⟩), rfl, ?_⟩
          · rintro h1 h2 ⟨o', w1, w2, w3, w4⟩ k
            exact ⟨o', k o' w1, w2, w3, w4⟩
          · refine fin _ _ (same_laid hn) ⟨s.heap.objs.size, rfl, fresh_notin rs hn, .inr ⟨(es.toList, ep), _, vv, upd_same, ?_, ?_, ?_, ?_, ?_, hlen, k1.laid rs.mt hn, k5.laid rs.mt hn⟩⟩
            · show Vals _ (es.toList.map (·.key))
              rw [q4, List.map_map]
              have : ((fun x : DictEntry => x.key) ∘ entryOfKey (nestedKind X.prog X.w)) = fun x => Value.ref x.2.1 := rfl
              rw [this]
              have hv : ∀ l : List (NestedKey × Addr × Value), Vals (l.map fun x => V.ref x.2.1) (l.map fun x => Value.ref x.2.1) := by
                intro l
                induction l with
                | nil => exact .nil
                | cons a l ih => exact .cons rfl ih
              exact hv _
            · show Vals _ (es.toList.map (·.val))
              rw [q4, List.map_map]
              exact k4
            · show es.toList.map (·.hash) = _
              rw [q4, List.map_map, ← xa.w]
              have e2 : ((fun x : DictEntry => x.hash) ∘ entryOfKey (nestedKind X.prog X.w)) = fun x => x.1.hash X.w := rfl
              rw [e2]
              have := congrArg (List.map (fun k => k.hash X.w)) k3
              rw [List.map_map, List.map_map] at this
              exact this
            · rw [k2]
              simp only [Bool.true_and, Bool.not_eq_true']
              have := dputs_ne (ks := []) (vs := []) (.inr hne)
              cases q : (dputs [] [] ps).1 with
              | nil => exact (this q).elim
              | cons _ _ => rfl
            · rw [← k3]
              exact q6
    · cases hf
end
end Dp
set_option Elab.async false
set_option linter.all false
set_option maxRecDepth 100000
set_option maxHeartbeats 4000000
/-! Dp9: readings; what is walked. -/
namespace Dp
open PySem PySem.Spec PyProof.Rows L2 PySem.W PySem.SeqAt

theorem Res.bind_eq {α β : Type} {r : Res α} {f : α → Store → Res β} {b : β} {st' : Store} (h : r.bind f = .ok b st') : ∃ a st1, r = .ok a st1 ∧ f a st1 = .ok b st' := by
  cases r with
  | ok a st => exact ⟨a, st, rfl, h⟩
  | exc _ _ _ => cases h
  | stuck => cases h
theorem ofOpt_eq {α : Type} {o : Option α} {st st' : Store} {a : α} (h : ofOpt o st = .ok a st') : o = some a ∧ st' = st := by
  cases o with
  | none => cases h
  | some b => cases h; exact ⟨rfl, rfl⟩

section
variable {G : Gx} {X : Cx}
/-- what a value means -/
abbrev Rel := List Addr → List Addr → Hp → D → V → Prop
def relS (G : Gx) : Rel := fun B ρ H d v => DV G (ρ ++ B) ρ H d v
def relW (G : Gx) : Rel := fun B ρ H d v => DB G B ρ H d v
/-- an expression's reading -/
def tE (G : Gx) (rel : Rel) (f : Env → Store → Res D) : TE := fun σ H Q => ∃ B env st ρ d st', RS (G := G) B st ρ H ∧ RE (G := G) B env ρ σ H ∧ f env st = .ok d st' ∧ ∀ v ρ' H', Stp ρ H ρ' H' → RS (G := G) B st' ρ' H' → rel B ρ' H' d v → Q v H'
def tT (G : Gx) (f : Env → Store → Res Bool) : TT := fun σ H Q => ∃ B env st ρ d st', RS (G := G) B st ρ H ∧ RE (G := G) B env ρ σ H ∧ f env st = .ok d st' ∧ ∀ ρ' H', Stp ρ H ρ' H' → RS (G := G) B st' ρ' H' → Q d H'
def relsS (G : Gx) : List Addr → List Addr → Hp → List D → List V → Prop := fun B ρ H ds vs => DVs G (ρ ++ B) ρ H ds vs
def relsW (G : Gx) : List Addr → List Addr → Hp → List D → List V → Prop := fun B ρ H ds vs => DBs G B ρ H ds vs
def tAs (G : Gx) (rel : List Addr → List Addr → Hp → List D → List V → Prop) (f : Env → Store → Res (List D)) : TA := fun σ H Q => ∃ B env st ρ d st', RS (G := G) B st ρ H ∧ RE (G := G) B env ρ σ H ∧ f env st = .ok d st' ∧ ∀ v ρ' H', Stp ρ H ρ' H' → RS (G := G) B st' ρ' H' → rel B ρ' H' d v → Q v H'
theorem PE_imp {x : Expr} {t t' : TE} (h : PE X x t) (k : ∀ σ H Q, t' σ H Q → t σ H Q) : PE X x t' := ⟨fun pins s σ H Q I q => h.run pins s σ H Q I (k _ _ _ q)⟩
theorem PT_imp {x : Expr} {t t' : TT} (h : PT X x t) (k : ∀ σ H Q, t' σ H Q → t σ H Q) : PT X x t' := ⟨fun pins s σ H Q I q => h.run pins s σ H Q I (k _ _ _ q)⟩
theorem PA_imp {x : List Expr} {t t' : TA} (h : PA X x t) (k : ∀ σ H Q, t' σ H Q → t σ H Q) : PA X x t' := ⟨fun pos pins s σ H Q I q => h.run pos pins s σ H Q I (k _ _ _ q)⟩
theorem PI_imp {x tg : Expr} {t t' : TI} (h : PI X tg x t) (k : ∀ σ H Q, t' σ H Q → t σ H Q) : PI X tg x t' := ⟨fun pins s σ H Q I q => h.run pins s σ H Q I (k _ _ _ q)⟩
theorem PE_weak {x : Expr} {f : Env → Store → Res D} (h : PE X x (tE G (relS G) f)) : PE X x (tE G (relW G) f) :=
  PE_imp h fun σ H Q ⟨B, env, st, ρ, d, st', rs, re, e, k⟩ => ⟨B, env, st, ρ, d, st', rs, re, e, fun v ρ' H' s r q => k v ρ' H' s r (.inl q)⟩
theorem DBs.stp {B ρ ρ' : List Addr} {H H' : Hp} (mk : Mk (ρ ++ B) H) (off : ∀ b ∈ B, b ∉ ρ) (s : Stp ρ H ρ' H') : ∀ {ds : List D} {vs : List V}, DBs G B ρ H ds vs → DBs G B ρ' H' ds vs
  | [], _, h => h
  | d :: ds, vs, h => by
    obtain ⟨v, r, e, h1, h2⟩ := h
    exact ⟨v, r, e, h1.stp mk off s, DBs.stp mk off s h2⟩
theorem dbs_of {B ρ : List Addr} {H : Hp} : ∀ {ds : List D} {vs : List V}, DVs G (ρ ++ B) ρ H ds vs → DBs G B ρ H ds vs
  | [], _, h => h
  | d :: ds, vs, h => by
    obtain ⟨v, r, e, h1, h2⟩ := h
    exact ⟨v, r, e, .inl h1, dbs_of h2⟩

/-! ### what is walked -/
/-- J gives the things xs, while all but P stays -/
def Walk (G : Gx) (P M ρ : List Addr) (H : Hp) (J : L2.It) (xs : List D) : Prop :=
  ∀ (M' ρ' : List Addr) (H' : Hp), (∀ a o, H a = some o → a ∉ P → H' a = some o) → (∀ a o, H a = some o → a ∉ M → a ∉ M') → (∀ (n : Nat) a, ρ[n]? = some a → ρ'[n]? = some a) → Mk M' H' →
    (∀ i d, xs[i]? = some d → J.go i H' ∧ ∀ v H'', J.yld i H' v H'' → Same H' H'' ∧ DV G M' ρ' H'' d v) ∧ ∀ i, xs.length ≤ i → J.stop i H'
def tI (G : Gx) (strong : Bool) (f : Env → Store → Res (List D)) : TI := fun σ H R => ∃ B env st ρ d st', RS (G := G) B st ρ H ∧ RE (G := G) B env ρ σ H ∧ f env st = .ok d st' ∧
  ∀ J ρ' H', Stp ρ H ρ' H' → RS (G := G) B st' ρ' H' → Walk G (if strong then ρ' ++ B else ρ') (ρ' ++ B) ρ' H' J d → R J H'

/-- items that stay -/
theorem dvs_stay {P M ρ M' ρ' : List Addr} {H H' : Hp} {ds : List D} {vs : List V} (mk : Mk M H) (hPM : ∀ a ∈ P, a ∈ M) (h : DVs G M ρ H ds vs) (hp : ∀ a o, H a = some o → a ∉ P → H' a = some o) (hm : ∀ a o, H a = some o → a ∉ M → a ∉ M')
    (hr : ∀ (n : Nat) a, ρ[n]? = some a → ρ'[n]? = some a) : DVs G M' ρ' H' ds vs := DVs.keep mk (fun a o e n => hp a o e fun q => n (hPM a q)) hm hr ds vs h
theorem sqT_stay {P M : List Addr} {H H' : Hp} {a : Addr} {vs : List V} (mk : Mk M H) (hPM : ∀ a ∈ P, a ∈ M) (hp : ∀ a o, H a = some o → a ∉ P → H' a = some o) (h : SqT G.K H a vs) : SqT G.K H' a vs := by
  rcases h with h | h
  · exact .inl (rd_keep h fun o e => hp a o e fun q => not_mt_tup mk h (hPM a q))
  · exact .inr h
theorem sq_inj_l {pins : List (Addr × Obj)} {σ : L2.St} {s : Shared} {H : Hp} (I : Inv X pins σ H s) {a : Addr} {xs ys : List V} (h : SqL X.K H a xs) (g : SqL X.K H a ys) : xs = ys := I.list_inj h g

theorem walk_rng (lo : Int) (n : Nat) {P M ρ : List Addr} {H : Hp} : Walk G P M ρ H (Itr lo n) (rngFrom lo n) := by
  have key : ∀ (n : Nat) (lo : Int) (i : Nat), (rngFrom lo n)[i]? = if i < n then some (.int (lo + i)) else none := by
    intro n
    induction n with
    | zero => intro lo i; simp [rngFrom]
    | succ n ih =>
      intro lo i
      cases i with
      | zero => simp [rngFrom]
      | succ i =>
        simp only [rngFrom, List.getElem?_cons_succ, ih]
        by_cases h : i < n
        · rw [if_pos h, if_pos (by omega)]
          congr 2
          omega
        · rw [if_neg h, if_neg (by omega)]
  have len : ∀ (n : Nat) (lo : Int), (rngFrom lo n).length = n := by
    intro n
    induction n with
    | zero => intro lo; rfl
    | succ n ih => intro lo; simp [rngFrom, ih]
  intro M' ρ' H' _ _ _ _
  refine ⟨fun i d e => ?_, fun i hi => ?_⟩
  · rw [key] at e
    by_cases h : i < n
    · rw [if_pos h] at e
      cases e
      refine ⟨h, fun v H'' y => ?_⟩
      obtain ⟨rfl, rfl⟩ := y
      exact ⟨Same.refl _, rfl⟩
    · rw [if_neg h] at e; cases e
  · rw [len] at hi
    exact hi
theorem get_of_len {α : Type} {l : List α} {i : Nat} {a : α} (h : l[i]? = some a) : i < l.length := (List.getElem?_eq_some_iff.mp h).1
theorem walk_tup {P M ρ : List Addr} {H : Hp} {a : Addr} {ds : List D} {vs : List V} (mk : Mk M H) (hPM : ∀ a ∈ P, a ∈ M) (h : SqT G.K H a vs) (hd : DVs G M ρ H ds vs) : Walk G P M ρ H (Itt G.K a) ds := by
  intro M' ρ' H' hp hm hr mk'
  have h' := sqT_stay mk hPM hp h
  have hd' := dvs_stay mk hPM hd hp hm hr
  refine ⟨fun i d e => ?_, fun i hi => ⟨vs, h', by rw [hd.length]; exact hi⟩⟩
  obtain ⟨v, e1, e2⟩ := hd'.get e
  refine ⟨⟨vs, v, h', e1⟩, fun u H'' y => ?_⟩
  obtain ⟨rfl, y⟩ := y
  have := y vs h'
  rw [e1] at this
  cases this
  exact ⟨Same.refl _, e2⟩
theorem walk_lst {P M ρ : List Addr} {H : Hp} {a : Addr} {ds : List D} {vs : List V} (mk : Mk M H) (hPM : ∀ a ∈ P, a ∈ M) (h : Rd H a (.lst vs)) (ha : a ∉ P) (hd : DVs G M ρ H ds vs) : Walk G P M ρ H (Itl G.K a) ds := by
  intro M' ρ' H' hp hm hr mk'
  have h' : SqL G.K H' a vs := .inl (rd_keep h fun o e => hp a o e ha)
  have hd' := dvs_stay mk hPM hd hp hm hr
  refine ⟨fun i d e => ?_, fun i hi => ⟨vs, h', by rw [hd.length]; exact hi⟩⟩
  obtain ⟨v, e1, e2⟩ := hd'.get e
  refine ⟨⟨vs, v, h', e1⟩, fun u H'' y => ?_⟩
  obtain ⟨rfl, y⟩ := y
  have := y vs h'
  rw [e1] at this
  cases this
  exact ⟨Same.refl _, e2⟩
theorem enum_get : ∀ (ds : List D) (n : Int) (i : Nat), (enumFrom n ds)[i]? = (ds[i]?).map fun d => .tup [.int (n + i), d]
  | [], n, i => by simp [enumFrom]
  | d :: ds, n, 0 => by simp [enumFrom]
  | d :: ds, n, i + 1 => by
    simp only [enumFrom, List.getElem?_cons_succ, enum_get ds (n + 1) i]
    congr 1
    funext x
    congr 3
    omega
theorem enum_len : ∀ (ds : List D) (n : Int), (enumFrom n ds).length = ds.length
  | [], _ => rfl
  | d :: ds, n => by simp [enumFrom, enum_len ds]
/-- a pair newly laid -/
theorem pair_new {M ρ : List Addr} {H : Hp} {T : Addr} {x y : D} {v u : V} (mk : Mk M H) (hT : H T = none) (hx : DV G M ρ H x v) (hy : DV G M ρ H y u) : DV G M ρ (upd H T (.tup [v, u])) (.tup [x, y]) (.ref T) :=
  ⟨T, [v, u], rfl, .of upd_same, .cons (hx.laid mk hT) (.cons (hy.laid mk hT) .nil)⟩
theorem walk_enumL {P M ρ : List Addr} {H : Hp} {a : Addr} {ds : List D} {vs : List V} (mk : Mk M H) (hPM : ∀ a ∈ P, a ∈ M) (h : Rd H a (.lst vs)) (ha : a ∉ P) (hd : DVs G M ρ H ds vs) : Walk G P M ρ H (Ite G.K a) (enumFrom 0 ds) := by
  intro M' ρ' H' hp hm hr mk'
  have h' : SqL G.K H' a vs := .inl (rd_keep h fun o e => hp a o e ha)
  have hd' := dvs_stay mk hPM hd hp hm hr
  refine ⟨fun i d e => ?_, fun i hi => ⟨vs, h', by rw [hd.length, ← enum_len ds 0]; exact hi⟩⟩
  rw [enum_get, Option.map_eq_some_iff] at e
  obtain ⟨x, ex, rfl⟩ := e
  obtain ⟨v, e1, e2⟩ := hd'.get ex
  refine ⟨⟨vs, v, h', e1⟩, fun u H'' y => ?_⟩
  obtain ⟨T, x', rfl, hT, rfl, y⟩ := y
  have := y vs h'
  rw [e1] at this
  cases this
  exact ⟨same_laid hT, pair_new mk' hT (show DV G M' ρ' H' (.int (0 + (i : Int))) (.int i) by simp only [Int.zero_add]; rfl) e2⟩
/-- enumerate(tuple) -/
def IteT (K : PySem.W.Frag) (a : Addr) : L2.It :=
  ⟨fun i H => ∃ (xs : List V) (x : V), SqT K H a xs ∧ xs[i]? = some x, fun i H v H' => ∃ T x, v = .ref T ∧ H T = none ∧ H' = upd H T (.tup [.int (i : Nat), x]) ∧ ∀ xs, SqT K H a xs → xs[i]? = some x, fun i H => ∃ xs : List V, SqT K H a xs ∧ xs.length ≤ i⟩
theorem walk_enumT {P M ρ : List Addr} {H : Hp} {a : Addr} {ds : List D} {vs : List V} (mk : Mk M H) (hPM : ∀ a ∈ P, a ∈ M) (h : SqT G.K H a vs) (hd : DVs G M ρ H ds vs) : Walk G P M ρ H (IteT G.K a) (enumFrom 0 ds) := by
  intro M' ρ' H' hp hm hr mk'
  have h' := sqT_stay mk hPM hp h
  have hd' := dvs_stay mk hPM hd hp hm hr
  refine ⟨fun i d e => ?_, fun i hi => ⟨vs, h', by rw [hd.length, ← enum_len ds 0]; exact hi⟩⟩
  rw [enum_get, Option.map_eq_some_iff] at e
  obtain ⟨x, ex, rfl⟩ := e
  obtain ⟨v, e1, e2⟩ := hd'.get ex
  refine ⟨⟨vs, v, h', e1⟩, fun u H'' y => ?_⟩
  obtain ⟨T, x', rfl, hT, rfl, y⟩ := y
  have := y vs h'
  rw [e1] at this
  cases this
  exact ⟨same_laid hT, pair_new mk' hT (show DV G M' ρ' H' (.int (0 + (i : Int))) (.int i) by simp only [Int.zero_add]; rfl) e2⟩
theorem zip_get : ∀ (xs ys : List D) (i : Nat) (d : D), (zipD xs ys)[i]? = some d → ∃ x y, xs[i]? = some x ∧ ys[i]? = some y ∧ d = .tup [x, y]
  | [], _, i, d, h => by simp [zipD] at h
  | _ :: _, [], i, d, h => by simp [zipD] at h
  | x :: xs, y :: ys, 0, d, h => by
    simp [zipD] at h
    exact ⟨x, y, rfl, rfl, h.symm⟩
  | x :: xs, y :: ys, i + 1, d, h => by
    simp only [zipD, List.getElem?_cons_succ] at h
    simpa using zip_get xs ys i d h
theorem zip_len : ∀ (xs ys : List D), (zipD xs ys).length = min xs.length ys.length
  | [], _ => by simp [zipD]
  | _ :: _, [] => by simp [zipD]
  | x :: xs, y :: ys => by simp only [zipD, List.length_cons, zip_len xs ys]; omega
theorem walk_zipL {P M ρ : List Addr} {H : Hp} {a b : Addr} {ds es : List D} {vs us : List V} (mk : Mk M H) (hPM : ∀ a ∈ P, a ∈ M) (h : Rd H a (.lst vs)) (ha : a ∉ P) (hd : DVs G M ρ H ds vs) (g : Rd H b (.lst us)) (hb : b ∉ P) (he : DVs G M ρ H es us) :
    Walk G P M ρ H (Itz G.K a b) (zipD ds es) := by
  intro M' ρ' H' hp hm hr mk'
  have h' : SqL G.K H' a vs := .inl (rd_keep h fun o e => hp a o e ha)
  have g' : SqL G.K H' b us := .inl (rd_keep g fun o e => hp b o e hb)
  have hd' := dvs_stay mk hPM hd hp hm hr
  have he' := dvs_stay mk hPM he hp hm hr
  refine ⟨fun i d e => ?_, fun i hi => ⟨vs, us, h', g', ?_⟩⟩
  · obtain ⟨x, y, e1, e2, rfl⟩ := zip_get _ _ _ _ e
    obtain ⟨v, q1, q2⟩ := hd'.get e1
    obtain ⟨u, q3, q4⟩ := he'.get e2
    refine ⟨⟨vs, us, v, u, h', g', q1, q3⟩, fun z H'' y => ?_⟩
    obtain ⟨T, x', y', rfl, hT, rfl, y1, y2⟩ := y
    have z1 := y1 vs h'
    have z2 := y2 us g'
    rw [q1] at z1
    rw [q3] at z2
    cases z1
    cases z2
    exact ⟨same_laid hT, pair_new mk' hT q2 q4⟩
  · rw [zip_len] at hi
    rw [hd.length, he.length]
    omega
theorem walk_zipT {P M ρ : List Addr} {H : Hp} {a b : Addr} {ds es : List D} {vs us : List V} (mk : Mk M H) (hPM : ∀ a ∈ P, a ∈ M) (h : SqT G.K H a vs) (hd : DVs G M ρ H ds vs) (g : SqT G.K H b us) (he : DVs G M ρ H es us) :
    Walk G P M ρ H (RZ.ItzT G.K a b) (zipD ds es) := by
  intro M' ρ' H' hp hm hr mk'
  have h' := sqT_stay mk hPM hp h
  have g' := sqT_stay mk hPM hp g
  have hd' := dvs_stay mk hPM hd hp hm hr
  have he' := dvs_stay mk hPM he hp hm hr
  refine ⟨fun i d e => ?_, fun i hi => ⟨vs, us, h', g', ?_⟩⟩
  · obtain ⟨x, y, e1, e2, rfl⟩ := zip_get _ _ _ _ e
    obtain ⟨v, q1, q2⟩ := hd'.get e1
    obtain ⟨u, q3, q4⟩ := he'.get e2
    refine ⟨⟨vs, us, v, u, h', g', q1, q3⟩, fun z H'' y => ?_⟩
    obtain ⟨T, x', y', rfl, hT, rfl, y1, y2⟩ := y
    have z1 := y1 vs h'
    have z2 := y2 us g'
    rw [q1] at z1
    rw [q3] at z2
    cases z1
    cases z2
    exact ⟨same_laid hT, pair_new mk' hT q2 q4⟩
  · rw [zip_len] at hi
    rw [hd.length, he.length]
    omega
end
end Dp
set_option Elab.async false
set_option linter.all false
set_option maxRecDepth 100000
set_option maxHeartbeats 4000000
/-! Dp10: the walks of lists, tuples, ranges, enumerate, zip. -/
namespace Dp
open PySem PySem.Spec PyProof.Rows L2 PySem.W PySem.SeqAt

set_option maxHeartbeats 2000000 in
theorem meets_enum1 {v : Value} {o : Obj} {H : Heap → Prop} (B : Begins v o H) :
    Meets (Builtin.«enumerate.__new__» ⟨[.type "enumerate", v], []⟩) (fun _ R s => H s.heap ∧
      R (.ok (.ret (.ref (s.heap.push o).objs.size))) { s with heap := (s.heap.push o).push { cls := .type "enumerate", data := .fields #[.none, .bool false, .ref s.heap.objs.size, rawInt 0, .none, .none] } }) :=
  .of_wp fun prog w A R s h => by
    obtain ⟨hp, g, d, tk, os⟩ := s
    obtain ⟨h1, h⟩ := h
    have hsub := sub_enumerate
    have q1 : ∀ {A' : Around} {E : Value → Shared → Prop} {Q : Value → Shared → Prop}, Q (.ref hp.objs.size) ⟨hp.push o, g, d, tk, os⟩ → wpAny (model prog w) A' (pyIter v) Q E ⟨hp, g, d, tk, os⟩ :=
      fun q => B.iter prog w _ _ ⟨hp, g, d, tk, os⟩ _ h1 q
    wp_walk using q1
    refine wpAny_stack_any fun st => wpAny_pure ?_
    split
    · rename_i c _ _ _ _ _
      cases (c == Value.type "enumerate")
      · wp_walk using q1
        exact ⟨_, rfl, h⟩
      · wp_walk using q1
        exact ⟨_, rfl, h⟩
    · wp_walk using q1
      exact ⟨_, rfl, h⟩
section
variable {prog : Program} {w : World} {A : Around} {E : Value → Shared → Prop} {s : Shared}
theorem enum_one {v : Value} {o : Obj} {H : Heap → Prop} {Q : Value → Shared → Prop} (B : Begins v o H) (h1 : H s.heap)
    (h : ∀ h', IsEnum h' (s.heap.objs.size + 1) s.heap.objs.size 0 .none → h'.get? s.heap.objs.size = some o → (∀ b o, s.heap.get? b = some o → h'.get? b = some o) → Q (.ref (s.heap.objs.size + 1)) { s with heap := h' }) :
    wpAny (model prog w) A (call (.type "enumerate") [v]) Q E s := by
  refine callType_new F.called_enumerate (by decide) (F.typeCall_enumerate_1 _) (F.newCall_enumerate_1 _) (fun obj => F.args_object_init_2 obj _) F.entry_enumerate_new (meets_enum1 B) ⟨h1, ?_⟩
  have hz : (s.heap.push o).objs.size = s.heap.objs.size + 1 := Heap.size_push ..
  show _ ∧ _
  rw [hz]
  have he : IsEnum ((s.heap.push o).push { cls := .type "enumerate", data := .fields #[.none, .bool false, .ref s.heap.objs.size, rawInt 0, .none, .none] }) (s.heap.objs.size + 1) s.heap.objs.size 0 .none := by
    have := Heap.get?_push_size (s.heap.push o) (o := { cls := .type "enumerate", data := .fields #[.none, .bool false, .ref s.heap.objs.size, rawInt 0, .none, .none] }) rfl
    rw [hz] at this
    exact this
  exact ⟨⟨_, he, rfl⟩, h _ he (Heap.get?_push_of_some _ (Heap.get?_push_size _ B.free)) fun b o x => Heap.get?_push_of_some _ (Heap.get?_push_of_some _ x)⟩
end

theorem turn_enumT {P : Program} {w : World} {K : PySem.W.Frag} {elts : List Expr} {kk : Nat} {tpos : Pos} (a e it : Addr) :
    Turn P w K (.Tuple elts kk tpos) (IteT K a) [e, it] e (fun i h => (∃ old, IsEnum h e it ((i : Nat) : Int) old) ∧ h.IsTupleIter it a i ∧ e ≠ it ∧ a ≠ it ∧ a ≠ e) where
  mem := by simp
  obj := fun i h st b hb => by
    obtain ⟨⟨old, he⟩, ⟨o, ho, hc, hd⟩, _⟩ := st
    have e' : b = e ∨ b = it := by simpa using hb
    rcases e' with z | z
    · rw [z]; exact ⟨_, he, fun v q => nomatch q⟩
    · rw [z]; exact ⟨o, ho, fun v q => by rw [hd] at q; cases q⟩
  keep := fun i h h' st k => let ⟨⟨old, he⟩, hi, hne⟩ := st; ⟨⟨old, k e (by simp) _ he⟩, hi.at fun o q => k it (by simp) o q, hne⟩
  item := by
    intro X hP hw hK hc i pins s σ H E I hf st hg
    subst hP hw hK
    obtain ⟨⟨old, he⟩, hit, hne, hai, hae⟩ := st
    obtain ⟨xs, x, hq, hx⟩ := hg
    obtain ⟨its, rv, p, hz⟩ := I.tuple hq
    obtain ⟨u, hu, ru⟩ := rv.get hx
    have hel : e < s.heap.objs.size := Heap.lt_size he
    have hil : it < s.heap.objs.size := by obtain ⟨_, q, _⟩ := hit; exact Heap.lt_size q
    have hlt : i < its.toArray.size := by simpa using get_of_len hu
    refine wpAny_pyNext_enum_itemD (Draws.tuple (A := X.A.in1) (I.ok.hd hc) it a hai its.toArray) he ⟨hit, p⟩ hlt hne (by simp [hne, Ne.symm hae]) fun x2 h' tk hx2 ho hst hT hsz hk => ?_
    have ex2 : x2 = u := by
      have := hx2
      simp only [List.getElem?_toArray] at this
      rw [hu] at this
      exact (Option.some.inj this).symm
    subst ex2
    refine ⟨_, rfl, wpAny_letOwnedTupleGo_enum (s := { s with heap := h', toks := tk + 1 }) ho fun h'' he' sb => ?_⟩
    have hT2 : h''.get? s.heap.objs.size = some { cls := .type "tuple", data := .seq #[.int i tk, x2] } := (sb.2 _ (Nat.ne_of_gt hel)).trans hT
    have new : ObjOk X.prog X.w (upd H s.heap.objs.size (.tup [.int (i : Nat), x])) h'' s.heap.objs.size (.tup [.int (i : Nat), x]) :=
      ⟨by show 2 ≤ sizeLine; decide, [.int i tk, x2], .cons ⟨_, rfl⟩ (.cons ru .nil), ⟨_, hT2, rfl, _, rfl⟩⟩
    have I1 : Inv X pins σ (upd H s.heap.objs.size (.tup [.int (i : Nat), x])) { s with heap := h'', toks := tk + 1 } :=
      I.turnedNew (ch := [e, it]) (fun b ob hb q => (sb.2 b (fun z => hb (by simp [z]))).trans (hk b ob (fun z => hb (by simp [z])) (fun z => hb (by simp [z])) q)) hf (Nat.le_refl _) new
    refine ⟨.ref s.heap.objs.size, _, I1, rfl, ⟨_, x, rfl, I.hok.fresh (Nat.le_refl _), rfl, fun ys hy => by rw [I.tuple_inj hy hq]; exact hx⟩, ⟨⟨x2, ?_⟩, hst.1.at fun o q => (sb.2 it (Ne.symm hne)).trans q, hne, hai, hae⟩, fun b hb => ?_⟩
    · have e1 : ((i + 1 : Nat) : Int) = (i : Int) + 1 := by omega
      rw [e1]; exact he'
    · have hb' : b < s.heap.objs.size := by
        have e' : b = e ∨ b = it := by simpa using hb
        rcases e' with z | z
        · rw [z]; exact hel
        · rw [z]; exact hil
      rw [upd_ne (Nat.ne_of_lt hb')]
      exact (hf b hb).1
  done := by
    intro X hP hw hK hc i pins s σ H E I hf st hg
    subst hP hw hK
    obtain ⟨⟨old, he⟩, hit, hne, hai, hae⟩ := st
    obtain ⟨xs, hq, hx⟩ := hg
    obtain ⟨its, rv, p, hz⟩ := I.tuple hq
    obtain ⟨f0, f1, f2, f3, f4, f5⟩ := hf it (by simp)
    have hl := rv.length
    have D := Draws.tuple (prog := X.prog) (w := X.w) (A := X.A.in1) (I.ok.hd hc) it a hai its.toArray
    have hT : s.TypeIs (.ref e) "enumerate" := ⟨_, he, rfl⟩
    unfold pyNext
    refine wpAny_bind (wpAny_attempt (wpAny_callSpecial?_slot (name := Str.ofString "__next__") hT F.slot_enumerate_next
      (wpAny_call_entry F.slot_enumerate_next hT F.entry_enumerate_next ?_ (F.args_enumerate_next_1 _))))
    show wpAny _ _ (field (.ref e) 2 >>= _) _ _ _
    refine wpAny_bind (wpAny_field he rfl (x := .ref it) rfl ?_)
    refine wpAny_bind (wpAny_nextOf_tuple_end (I.ok.hd hc) hit (show s.heap.IsTuple a its.toArray from p) (by simp; omega) fun h' x he' hx' => ?_)
    obtain ⟨o, ho, hc⟩ := hx'
    refine wpAny_bind (wpAny_isInstance (T := "StopIteration") (b := true) ⟨o, ho, hc⟩ isSubtype_stop ?_)
    exact wpAny_pure ⟨rfl, I.turned (t' := s.toks) (fun b o hb q => he' b o hb q) f0 f1 f3 f4 f5⟩
  self := fun A i s Q E st h => let ⟨⟨_, he⟩, _⟩ := st; wpAny_pyIter_enum he h

section
variable {G : Gx} {X : Cx}
/-- the set of things that may change while something weak or strong is walked -/
def pset (strong : Bool) (ρ B : List Addr) : List Addr := if strong then ρ ++ B else ρ
theorem pset_sub {strong : Bool} {ρ B : List Addr} : ∀ a ∈ pset strong ρ B, a ∈ ρ ++ B := by
  cases strong
  · exact fun a h => List.mem_append_left _ h
  · exact fun a h => h
def rel (strong : Bool) (G : Gx) : Rel := if strong then relS G else relW G
theorem rel_db {strong : Bool} {B ρ : List Addr} {H : Hp} {d : D} {v : V} (h : rel strong G B ρ H d v) : DB G B ρ H d v := by
  cases strong
  · exact h
  · exact .inl h
theorem rel_lst {strong : Bool} {B ρ : List Addr} {H : Hp} {ds : List D} {v : V} (off : ∀ b ∈ B, b ∉ ρ) (h : rel strong G B ρ H (.lst ds) v) : ∃ a vs, v = .ref a ∧ Rd H a (.lst vs) ∧ a ∉ pset strong ρ B ∧ DVs G (ρ ++ B) ρ H ds vs := by
  cases strong
  · rcases h with h | ⟨a, e, hb, h⟩
    · obtain ⟨a, vs, e, h1, h2, h3⟩ := h
      exact ⟨a, vs, e, h1, fun z => h2 (List.mem_append_left _ z), h3⟩
    · obtain ⟨vs, h1, h2⟩ := h
      exact ⟨a, vs, e, .inl h1, off a hb, h2⟩
  · obtain ⟨a, vs, e, h1, h2, h3⟩ := h
    exact ⟨a, vs, e, h1, h2, h3⟩
theorem rel_tup {strong : Bool} {B ρ : List Addr} {H : Hp} {ds : List D} {v : V} (h : rel strong G B ρ H (.tup ds) v) : ∃ a vs, v = .ref a ∧ SqT G.K H a vs ∧ DVs G (ρ ++ B) ρ H ds vs := (rel_db h).tup
theorem seqOf_cases {d : D} {xs : List D} (h : seqOf d = some xs) : d = .tup xs ∨ d = .lst xs := by
  cases d <;> simp [seqOf] at h
  · exact .inl (by rw [h])
  · exact .inr (by rw [h])
theorem itemsOf_cases {d : D} {xs : List D} (h : itemsOf d = some xs) : d = .tup xs ∨ d = .lst xs := by
  cases d <;> simp [itemsOf] at h
  · exact .inl (by rw [h])
  · exact .inr (by rw [h])

variable {P : Par} {strong : Bool} {tg x y : Expr} {e e2 : Ex} {p pos tpos : Pos} {elts : List Expr} {kk : Nat}
/-- behind an expression -/
theorem PE_go {r : Rel} {f : Env → Store → Res D} {x : Expr} {pins : List (Addr × Obj)} {s : Shared} {σ : L2.St} {H : Hp} {B ρ : List Addr} {env : Env} {st st' : Store} {d : D} (he : PE X x (tE G r f)) (I : Inv X pins σ H s) (rs : RS (G := G) B st ρ H) (re : RE (G := G) B env ρ σ H) (h : f env st = .ok d st') :
    wpAny (model X.prog X.w) X.A (eval x X.env) (EP X pins σ fun v H1 => ∃ ρ1, Stp ρ H ρ1 H1 ∧ RS (G := G) B st' ρ1 H1 ∧ r B ρ1 H1 d v) X.xe s :=
  he.run pins s σ H _ I ⟨B, env, st, ρ, d, st', rs, re, h, fun v ρ' H' s1 r1 q => ⟨ρ', s1, r1, q⟩⟩

theorem pi_ex (xa : XA G X) (he : PE X x (tE G (rel strong G) (e.ev P))) : PI X tg x (tI G strong ((It.ex e).ev P)) := by
  refine ⟨fun pins s σ H R I h => ?_⟩
  obtain ⟨B, env, st, ρ, xs, st', rs, re, ev, k⟩ := h
  unfold It.ev at ev
  obtain ⟨d, st1, e1, e2⟩ := Res.bind_eq ev
  obtain ⟨e3, rfl⟩ := ofOpt_eq e2
  refine thn (PE_go he I rs re e1) fun v s1 ⟨y, H1, I1, r1, ρ1, sp, rs1, q⟩ => ?_
  rcases itemsOf_cases e3 with rfl | rfl
  · obtain ⟨a, vs, rfl, hq, hd⟩ := rel_tup q
    cases r1
    have hw := k (Itt G.K a) ρ1 H1 sp rs1 (walk_tup rs1.mt (fun a h => pset_sub a h) hq hd)
    rw [← xa.K] at hq hw
    obtain ⟨its, rv, p, hz⟩ := I1.tuple hq
    exact wpAny_pyIter_tuple (show s1.heap.IsTuple a its.toArray from p) (pi_one (tk := s1.toks) I1 _ (turn_tuple a _) ⟨_, Heap.get?_push_size _ rfl, rfl, rfl⟩ hw)
  · obtain ⟨a, vs, rfl, hq, ha, hd⟩ := rel_lst rs1.off q
    cases r1
    have hw := k (Itl G.K a) ρ1 H1 sp rs1 (walk_lst rs1.mt (fun a h => pset_sub a h) hq ha hd)
    rw [← xa.K] at hw
    obtain ⟨its, rv, p, hz⟩ := I1.list (show SqL X.K H1 a vs from .inl hq)
    exact wpAny_pyIter_list p.isList (pi_one (tk := s1.toks) I1 _ (turn_list a _) ⟨_, Heap.get?_push_size _ rfl, rfl, rfl⟩ hw)

theorem okR_iff {i : Int} (h : okR i = true) : -(2 ^ 62) ≤ i ∧ i < 2 ^ 62 := by
  simpa [okR] using h
theorem rng2E_inv {d d' : D} {xs : List D} (h : rng2E d d' = some xs) : ∃ i j, d = .int i ∧ d' = .int j ∧ -(2 ^ 62) ≤ i ∧ i < 2 ^ 62 ∧ -(2 ^ 62) ≤ j ∧ j < 2 ^ 62 ∧ xs = rngD i j := by
  unfold rng2E at h
  split at h
  · split at h
    · rename_i ok
      rw [Bool.and_eq_true] at ok
      obtain ⟨o1, o2⟩ := okR_iff ok.1
      obtain ⟨o3, o4⟩ := okR_iff ok.2
      cases h
      exact ⟨_, _, rfl, rfl, o1, o2, o3, o4, rfl⟩
    · cases h
  · cases h
theorem pi_rng1 (hg : Gl X "range") (hm : X.mg "range" = none) (ha : PE X x (tE G (relS G) (e.ev P))) (na : starEach [x] X.env = (false, eval x X.env) :: starEach [] X.env) : PI X tg (.Call (.Name "range" p) [x] [] pos) (tI G strong ((It.rng1 e).ev P)) := by
  refine PI_imp (pi_range1 hg hm (pa_cons ha pa_nil na) na) fun σ H R h => ?_
  obtain ⟨B, env, st, ρ, xs, st', rs, re, ev, k⟩ := h
  unfold It.ev at ev
  obtain ⟨d, st1, e1, e2⟩ := Res.bind_eq ev
  obtain ⟨e3, rfl⟩ := ofOpt_eq e2
  obtain ⟨i, j, e4, rfl, o1, o2, o3, o4, rfl⟩ := rng2E_inv e3
  cases e4
  refine ⟨B, env, st, ρ, _, _, rs, re, e1, fun v ρ' H' sp rs' q => ?_⟩
  have q : v = .int j := q
  subst q
  refine ⟨j, rfl, o3, o4, ?_⟩
  have e3 : rngD 0 j = rngFrom 0 j.toNat := by unfold rngD; rw [Int.sub_zero]
  rw [e3] at k
  exact k _ ρ' H' sp rs' (walk_rng 0 j.toNat)
theorem pi_rng2 (hg : Gl X "range") (hm : X.mg "range" = none) (ha : PE X x (tE G (relS G) (e.ev P))) (hb : PE X y (tE G (relS G) (e2.ev P))) (na : starEach [x, y] X.env = (false, eval x X.env) :: starEach [y] X.env) (nb : starEach [y] X.env = (false, eval y X.env) :: starEach [] X.env) :
    PI X tg (.Call (.Name "range" p) [x, y] [] pos) (tI G strong ((It.rng2 e e2).ev P)) := by
  refine PI_imp (pi_range2 hg hm (pa_cons ha (pa_cons hb pa_nil nb) na) (by rw [na, nb]; rfl) (by rw [nb]; rfl)) fun σ H R h => ?_
  obtain ⟨B, env, st, ρ, xs, st', rs, re, ev, k⟩ := h
  unfold It.ev at ev
  obtain ⟨d, st1, e1, ev⟩ := Res.bind_eq ev
  obtain ⟨d', st2, e2, e3⟩ := Res.bind_eq ev
  obtain ⟨e4, rfl⟩ := ofOpt_eq e3
  obtain ⟨i, j, rfl, rfl, o1, o2, o3, o4, rfl⟩ := rng2E_inv e4
  refine ⟨B, env, st, ρ, _, _, rs, re, e1, fun v ρ' H' sp rs' q => ?_⟩
  refine ⟨B, env, st1, ρ', _, _, rs', re.stp rs.mt rs.off sp, e2, fun u ρ2 H2 sp2 rs2 q2 => ?_⟩
  have q : v = .int i := q
  have q2 : u = .int j := q2
  subst q q2
  exact ⟨i, j, rfl, ⟨o1, o2, o3, o4⟩, k _ ρ2 H2 (sp.trans sp2) rs2 (walk_rng i (j - i).toNat)⟩
theorem pi_enumD (xa : XA G X) (hg : Gl X "enumerate") (hm : X.mg "enumerate" = none) (he : PE X x (tE G (rel strong G) (e.ev P))) (na : starEach [x] X.env = (false, eval x X.env) :: starEach [] X.env) :
    PI X (.Tuple elts kk tpos) (.Call (.Name "enumerate" p) [x] [] pos) (tI G strong ((It.enum e).ev P)) := by
  refine ⟨fun pins s σ H R I h => ?_⟩
  obtain ⟨B, env, st, ρ, xs, st', rs, re, ev, k⟩ := h
  unfold It.ev at ev
  obtain ⟨d, st1, e1, e2⟩ := Res.bind_eq ev
  obtain ⟨e3, rfl⟩ := ofOpt_eq e2
  obtain ⟨ds, e4, rfl⟩ := Option.map_eq_some_iff.mp e3
  refine Call_ (ld_blt I hg hm boot_enumerate (PyProof.Rows.callWith_type1 ((pa_cons he pa_nil na).run pos pins s σ H (fun vs H1 => ∃ v ρ1, vs = [v] ∧ Stp ρ H ρ1 H1 ∧ RS (G := G) B st' ρ1 H1 ∧ rel strong G B ρ1 H1 d v) I ?_ |> fun z => thn z fun us s1 ⟨vs, H1, I1, r1, y, ρ1, ex, sp, rs1, q⟩ => ?_) na rfl))
  · exact ⟨B, env, st, ρ, d, _, rs, re, e1, fun v ρ' H' s1 r1 q => ⟨v, ρ', rfl, s1, r1, q⟩⟩
  · subst ex
    obtain ⟨u, rfl, rx⟩ := r1.one
    have two : ∀ b, b ∈ [s1.heap.objs.size + 1, s1.heap.objs.size] → FpOk X pins H1 b := fun b hb => by
      have e' : b = s1.heap.objs.size + 1 ∨ b = s1.heap.objs.size := by simpa using hb
      have hle : s1.heap.objs.size ≤ b := by
        rcases e' with z | z
        · rw [z]; exact Nat.le_add_right _ _
        · rw [z]; exact Nat.le_refl _
      exact I1.fpOk hle (I1.hok.fresh hle)
    rcases seqOf_cases e4 with rfl | rfl
    · obtain ⟨a, vs, rfl, hq, hd⟩ := rel_tup q
      cases rx
      have hw := k (IteT G.K a) ρ1 H1 sp rs1 (walk_enumT rs1.mt (fun a h => pset_sub a h) hq hd)
      rw [← xa.K] at hq hw
      obtain ⟨its, rv, p', hz⟩ := I1.tuple hq
      have hal : a < s1.heap.objs.size := by obtain ⟨o, ho, _⟩ := id p'; exact Heap.lt_size ho
      refine enum_one (begins_tuple a its.toArray) (show s1.heap.IsTuple a its.toArray from p') fun h' he hit hk => wpAny_pyIter_enum he ?_
      have I2 : Inv X pins σ H1 { s1 with heap := h' } := I1.kept (t' := s1.toks) hk
      exact ⟨s1.heap.objs.size + 1, [s1.heap.objs.size + 1, s1.heap.objs.size], _, _, H1, rfl, I2, turn_enumT a (s1.heap.objs.size + 1) s1.heap.objs.size, ⟨⟨.none, he⟩, ⟨_, hit, rfl, rfl⟩, Nat.succ_ne_self _, Nat.ne_of_lt hal, Nat.ne_of_lt (Nat.lt_succ_of_lt hal)⟩, two, hw⟩
    · obtain ⟨a, vs, rfl, hq, ha, hd⟩ := rel_lst rs1.off q
      cases rx
      have hw := k (Ite G.K a) ρ1 H1 sp rs1 (walk_enumL rs1.mt (fun a h => pset_sub a h) hq ha hd)
      rw [← xa.K] at hw
      obtain ⟨its, rv, p', hz⟩ := I1.list (show SqL X.K H1 a vs from .inl hq)
      refine call_enumerate_list p'.isList fun h' he hit hsz hk => wpAny_pyIter_enum he ?_
      have I2 : Inv X pins σ H1 { s1 with heap := h' } := I1.kept (t' := s1.toks) hk
      exact ⟨s1.heap.objs.size + 1, [s1.heap.objs.size + 1, s1.heap.objs.size], _, _, H1, rfl, I2, turn_enum a (s1.heap.objs.size + 1) s1.heap.objs.size, ⟨⟨.none, he⟩, hit, Nat.succ_ne_self _⟩, two, hw⟩
theorem rel_stp {B ρ ρ' : List Addr} {H H' : Hp} {d : D} {v : V} (mk : Mk (ρ ++ B) H) (off : ∀ b ∈ B, b ∉ ρ) (s : Stp ρ H ρ' H') (h : rel strong G B ρ H d v) : rel strong G B ρ' H' d v := by
  cases strong
  · exact DB.stp mk off s h
  · exact DV.stp mk s h
theorem zipE_cases {d d' : D} {xs : List D} (h : zipE d d' = some xs) : (∃ a b, d = .tup a ∧ d' = .tup b ∧ xs = zipD a b) ∨ ∃ a b, d = .lst a ∧ d' = .lst b ∧ xs = zipD a b := by
  unfold zipE at h
  split at h
  · cases h; exact .inl ⟨_, _, rfl, rfl, rfl⟩
  · cases h; exact .inr ⟨_, _, rfl, rfl, rfl⟩
  · cases h
theorem pi_zipD (xa : XA G X) (hg : Gl X "zip") (hm : X.mg "zip" = none) (ha : PE X x (tE G (rel strong G) (e.ev P))) (hb : PE X y (tE G (rel strong G) (e2.ev P))) (na : starEach [x, y] X.env = (false, eval x X.env) :: starEach [y] X.env) (nb : starEach [y] X.env = (false, eval y X.env) :: starEach [] X.env) :
    PI X (.Tuple elts kk tpos) (.Call (.Name "zip" p) [x, y] [] pos) (tI G strong ((It.zip e e2).ev P)) := by
  refine PI_imp (RZ.pi_zipA hg hm (pa_cons ha (pa_cons hb pa_nil nb) na) na (by rw [nb]; rfl)) fun σ H R h => ?_
  obtain ⟨B, env, st, ρ, xs, st', rs, re, ev, k⟩ := h
  unfold It.ev at ev
  obtain ⟨d, st1, e1, ev⟩ := Res.bind_eq ev
  obtain ⟨d', st2, e2, e3⟩ := Res.bind_eq ev
  obtain ⟨e4, rfl⟩ := ofOpt_eq e3
  refine ⟨B, env, st, ρ, _, _, rs, re, e1, fun v ρ' H' sp rs' q0 => ?_⟩
  refine ⟨B, env, st1, ρ', _, _, rs', re.stp rs.mt rs.off sp, e2, fun u ρ2 H2 sp2 rs2 q2 => ?_⟩
  have q := rel_stp rs'.mt rs'.off sp2 q0
  rcases zipE_cases e4 with ⟨da, db, rfl, rfl, rfl⟩ | ⟨da, db, rfl, rfl, rfl⟩
  · obtain ⟨a, vs, rfl, g1, g2⟩ := rel_tup q
    obtain ⟨b, us, rfl, g3, g4⟩ := rel_tup q2
    refine ⟨a, b, vs, us, rfl, .inr ⟨by rw [xa.K]; exact g1, by rw [xa.K]; exact g3, ?_⟩⟩
    rw [xa.K]
    exact k _ ρ2 H2 (sp.trans sp2) rs2 (walk_zipT rs2.mt (fun a h => pset_sub a h) g1 g2 g3 g4)
  · obtain ⟨a, vs, rfl, g1, n1, g2⟩ := rel_lst rs2.off q
    obtain ⟨b, us, rfl, g3, n2, g4⟩ := rel_lst rs2.off q2
    refine ⟨a, b, vs, us, rfl, .inl ⟨.inl g1, .inl g3, ?_⟩⟩
    rw [xa.K]
    exact k _ ρ2 H2 (sp.trans sp2) rs2 (walk_zipL rs2.mt (fun a h => pset_sub a h) g1 n1 g2 g3 n2 g4)
end
end Dp
set_option Elab.async false
set_option linter.all false
set_option maxRecDepth 100000
set_option maxHeartbeats 4000000
/-! Dp11: the steps of expressions. -/
namespace Dp
open PySem PySem.Spec PyProof.Rows L2 PySem.W PySem.SeqAt

section
variable {G : Gx} {X : Cx} {P : Par}
theorem fin_of {B ρ ρ2 : List Addr} {H H2 : Hp} {st' : Store} {Q : VK} {d : D} (sp : Stp ρ H ρ2 H2) (rs2 : RS (G := G) B st' ρ2 H2) (k : ∀ v ρ' H', Stp ρ H ρ' H' → RS (G := G) B st' ρ' H' → relS G B ρ' H' d v → Q v H') : Fin G B ρ2 H2 Q d :=
  fun v H' s q => k v ρ2 H' (sp.trans (same_stp s)) (rs2.same s) q
abbrev PES (G : Gx) (X : Cx) (P : Par) (x : Expr) (e : Ex) : Prop := PE X x (tE G (relS G) (e.ev P))
abbrev PEW (G : Gx) (X : Cx) (P : Par) (x : Expr) (e : Ex) : Prop := PE X x (tE G (relW G) (e.ev P))

/-! ### leaves -/
theorem getS_fre {B ρ : List Addr} {env : Env} {σ : L2.St} {H : Hp} {i : Nat} {d : D} (re : RE (G := G) B env ρ σ H) (h : getS env i = some d) : ∃ v, σ[i]? = some (some v) ∧ DV G (ρ ++ B) ρ H d v := by
  unfold getS at h
  split at h
  · cases h; exact re.fre i d (by assumption)
  · cases h
theorem getW_any {B ρ : List Addr} {env : Env} {σ : L2.St} {H : Hp} {i : Nat} {d : D} (re : RE (G := G) B env ρ σ H) (h : getW env i = some d) : ∃ v, σ[i]? = some (some v) ∧ DB G B ρ H d v := by
  unfold getW at h
  split at h
  · rename_i o d' e
    cases h
    cases o with
    | false =>
      obtain ⟨v, h1, h2⟩ := re.fre i d e
      exact ⟨v, h1, .inl h2⟩
    | true =>
      obtain ⟨a, h1, h2, h3⟩ := re.own i d e
      exact ⟨_, h1, .inr ⟨a, rfl, h2, h3⟩⟩
  · cases h
theorem pe_v {i : Nat} {x : Str} {pos : Pos} (hN : X.N[i]? = some x) (hv : Vis X.env.scope x) (hd : (x == ("__debug__" : Str)) = false) (hcd : (x == ("__classdict__" : Str)) = false) : PES G X P (.Name x pos) (.v i) :=
  PE_imp (pe_var hN hv hd hcd) fun σ H Q ⟨B, env, st, ρ, d, st', rs, re, ev, k⟩ => by
    unfold Ex.ev at ev
    obtain ⟨e, rfl⟩ := ofOpt_eq ev
    obtain ⟨v, h1, h2⟩ := getS_fre re e
    exact ⟨v, h1, k v ρ H (Stp.refl _ _) rs h2⟩
theorem pe_bor {i : Nat} {x : Str} {pos : Pos} (hN : X.N[i]? = some x) (hv : Vis X.env.scope x) (hd : (x == ("__debug__" : Str)) = false) (hcd : (x == ("__classdict__" : Str)) = false) : PEW G X P (.Name x pos) (.bor i) :=
  PE_imp (pe_var hN hv hd hcd) fun σ H Q ⟨B, env, st, ρ, d, st', rs, re, ev, k⟩ => by
    unfold Ex.ev at ev
    obtain ⟨e, rfl⟩ := ofOpt_eq ev
    obtain ⟨v, h1, h2⟩ := getW_any re e
    exact ⟨v, h1, k v ρ H (Stp.refl _ _) rs h2⟩
/-- a constant of the text -/
def litOk : Const → D → Bool
  | .none, .non => true
  | .bool a, .bl b => a == b
  | .int i, .int j => i == j
  | .str s, .str t => decide (s = t)
  | _, _ => false
theorem pe_lit {c : Const} {d : D} {j : Nat} {pos : Pos} (h : litOk c d = true) : PES G X P (.Constant c j pos) (.lit d) := by
  have key : ∀ v, (∀ M ρ H, DV G M ρ H d v) → PE X (.Constant c j pos) (tC v) → PES G X P (.Constant c j pos) (.lit d) := fun v hv hp =>
    PE_imp hp fun σ H Q ⟨B, env, st, ρ, d', st', rs, re, ev, k⟩ => by
      unfold Ex.ev at ev
      cases ev
      exact k v ρ H (Stp.refl _ _) rs (hv _ _ _)
  cases c <;> cases d <;> simp only [litOk, Bool.false_eq_true, beq_iff_eq, decide_eq_true_eq] at h
  · exact key _ (fun _ _ _ => rfl) pe_non
  · subst h; exact key _ (fun _ _ _ => rfl) pe_bl
  · subst h; exact key _ (fun _ _ _ => rfl) pe_int
  · subst h; exact key _ (fun _ _ _ => rfl) pe_str
theorem pe_globD {k : Nat} {x : Str} {pos : Pos} {u : Value} {v : V} (hg : Gl X x) (hm : X.mg x = some u) (r : RelV v u) (hv : ∀ d, P.glob[k]? = some d → ∀ M ρ H, DV G M ρ H d v) (hd : (x == ("__debug__" : Str)) = false) : PES G X P (.Name x pos) (.glob k) :=
  PE_imp (pe_glob hg hm r hd) fun σ H Q ⟨B, env, st, ρ, d', st', rs, re, ev, kk⟩ => by
    unfold Ex.ev at ev
    obtain ⟨e, rfl⟩ := ofOpt_eq ev
    exact kk v ρ H (Stp.refl _ _) rs (hv _ e _ _ _)

/-! ### arguments -/
theorem pa_nilS : PA X [] (tAs G (relsS G) ((Exs.nil).ev P)) := PA_imp pa_nil fun σ H Q ⟨B, env, st, ρ, d, st', rs, re, ev, k⟩ => by
  unfold Exs.ev at ev
  cases ev
  exact k [] ρ H (Stp.refl _ _) rs rfl
theorem pa_nilW : PA X [] (tAs G (relsW G) ((Exs.nil).ev P)) := PA_imp pa_nil fun σ H Q ⟨B, env, st, ρ, d, st', rs, re, ev, k⟩ => by
  unfold Exs.ev at ev
  cases ev
  exact k [] ρ H (Stp.refl _ _) rs rfl
theorem pa_consS {x : Expr} {xs : List Expr} {e : Ex} {es : Exs} (hx : PES G X P x e) (hr : PA X xs (tAs G (relsS G) (es.ev P))) (na : starEach (x :: xs) X.env = (false, eval x X.env) :: starEach xs X.env) : PA X (x :: xs) (tAs G (relsS G) ((Exs.cons e es).ev P)) :=
  PA_imp (pa_cons hx hr na) fun σ H Q ⟨B, env, st, ρ, d, st', rs, re, ev, k⟩ => by
    unfold Exs.ev at ev
    obtain ⟨a, st1, e1, ev⟩ := Res.bind_eq ev
    obtain ⟨as, st2, e2, e3⟩ := Res.bind_eq ev
    cases e3
    refine ⟨B, env, st, ρ, _, _, rs, re, e1, fun v ρ1 H1 sp1 rs1 q1 => ⟨B, env, st1, ρ1, _, _, rs1, re.stp rs.mt rs.off sp1, e2, fun vs ρ2 H2 sp2 rs2 q2 => ?_⟩⟩
    exact k (v :: vs) ρ2 H2 (sp1.trans sp2) rs2 (.cons (DV.stp rs1.mt sp2 q1) q2)
theorem pa_consW {x : Expr} {xs : List Expr} {e : Ex} {es : Exs} (hx : PEW G X P x e) (hr : PA X xs (tAs G (relsW G) (es.ev P))) (na : starEach (x :: xs) X.env = (false, eval x X.env) :: starEach xs X.env) : PA X (x :: xs) (tAs G (relsW G) ((Exs.cons e es).ev P)) :=
  PA_imp (pa_cons hx hr na) fun σ H Q ⟨B, env, st, ρ, d, st', rs, re, ev, k⟩ => by
    unfold Exs.ev at ev
    obtain ⟨a, st1, e1, ev⟩ := Res.bind_eq ev
    obtain ⟨as, st2, e2, e3⟩ := Res.bind_eq ev
    cases e3
    refine ⟨B, env, st, ρ, _, _, rs, re, e1, fun v ρ1 H1 sp1 rs1 q1 => ⟨B, env, st1, ρ1, _, _, rs1, re.stp rs.mt rs.off sp1, e2, fun vs ρ2 H2 sp2 rs2 q2 => ?_⟩⟩
    exact k (v :: vs) ρ2 H2 (sp1.trans sp2) rs2 ⟨v, vs, rfl, DB.stp rs1.mt rs1.off sp2 q1, q2⟩
theorem pa_starS {x : Expr} {xs : List Expr} {e : Ex} {es : Exs} {p : Pos} (xa : XA G X) (hx : PEW G X P x e) (hr : PA X xs (tAs G (relsS G) (es.ev P))) (na : starEach (.Starred x p :: xs) X.env = (true, eval x X.env) :: starEach xs X.env) : PA X (.Starred x p :: xs) (tAs G (relsS G) ((Exs.star e es).ev P)) :=
  PA_imp (StX.pa_star hx hr na) fun σ H Q ⟨B, env, st, ρ, d, st', rs, re, ev, k⟩ => by
    unfold Exs.ev at ev
    obtain ⟨a, st1, e1, ev⟩ := Res.bind_eq ev
    obtain ⟨ys, st2, e2, ev⟩ := Res.bind_eq ev
    obtain ⟨as, st3, e3, e4⟩ := Res.bind_eq ev
    obtain ⟨g2, rfl⟩ := ofOpt_eq e2
    cases e4
    refine ⟨B, env, st, ρ, _, _, rs, re, e1, fun v ρ1 H1 sp1 rs1 q1 => ?_⟩
    have fin : ∀ p zs, v = .ref p → (SqT X.K H1 p zs ∨ SqL X.K H1 p zs) → DVs G (ρ1 ++ B) ρ1 H1 ys zs → StX.tStar X.K (fun _ H Q => Q v H) (tAs G (relsS G) (es.ev P)) σ H1 Q := fun p zs ev hq hd =>
      ⟨p, zs, ev, hq, B, env, _, ρ1, _, _, rs1, re.stp rs.mt rs.off sp1, e3, fun vs ρ2 H2 sp2 rs2 q2 => k (zs ++ vs) ρ2 H2 (sp1.trans sp2) rs2 (DVs.append (DVs.stp rs1.mt sp2 hd) q2)⟩
    rcases seqOf_cases g2 with rfl | rfl
    · obtain ⟨p, zs, rfl, h1, h2⟩ := DB.tup q1
      exact fin p zs rfl (.inl (by rw [xa.K]; exact h1)) h2
    · obtain ⟨p, zs, rfl, h1, h2⟩ := DB.lst q1
      exact fin p zs rfl (.inr (.inl h1)) h2

/-! ### operations -/
theorem prim1_inv {p : Pr} {a : Ex} {env : Env} {st st' : Store} {d : D} (h : (Ex.prim p (.cons a .nil)).ev P env st = .ok d st') : ∃ x, a.ev P env st = .ok x st' ∧ prEv st' p [x] = some d := by
  unfold Ex.ev Exs.ev at h
  obtain ⟨ds, st1, h1, h2⟩ := Res.bind_eq h
  obtain ⟨x, st2, h3, h4⟩ := Res.bind_eq h1
  obtain ⟨e, rfl⟩ := ofOpt_eq h2
  unfold Exs.ev at h4
  cases h4
  exact ⟨x, h3, e⟩
theorem prim2_inv {p : Pr} {a b : Ex} {env : Env} {st st' : Store} {d : D} (h : (Ex.prim p (.cons a (.cons b .nil))).ev P env st = .ok d st') : ∃ x y st1, a.ev P env st = .ok x st1 ∧ b.ev P env st1 = .ok y st' ∧ prEv st' p [x, y] = some d := by
  unfold Ex.ev Exs.ev at h
  obtain ⟨ds, st1, h1, h2⟩ := Res.bind_eq h
  obtain ⟨x, st2, h3, h4⟩ := Res.bind_eq h1
  obtain ⟨e, rfl⟩ := ofOpt_eq h2
  unfold Exs.ev at h4
  obtain ⟨ys, st3, h5, h6⟩ := Res.bind_eq h4
  obtain ⟨y, st4, h7, h8⟩ := Res.bind_eq h5
  unfold Exs.ev at h8
  cases h8
  cases h6
  exact ⟨x, y, st2, h3, h7, e⟩
theorem prim3_inv {p : Pr} {a b c : Ex} {env : Env} {st st' : Store} {d : D} (h : (Ex.prim p (.cons a (.cons b (.cons c .nil)))).ev P env st = .ok d st') : ∃ x y z st1 st2, a.ev P env st = .ok x st1 ∧ b.ev P env st1 = .ok y st2 ∧ c.ev P env st2 = .ok z st' ∧ prEv st' p [x, y, z] = some d := by
  unfold Ex.ev Exs.ev at h
  obtain ⟨ds, st1, h1, h2⟩ := Res.bind_eq h
  obtain ⟨x, st2, h3, h4⟩ := Res.bind_eq h1
  obtain ⟨e, rfl⟩ := ofOpt_eq h2
  unfold Exs.ev at h4
  obtain ⟨ys, st3, h5, h6⟩ := Res.bind_eq h4
  obtain ⟨y, st4, h7, h8⟩ := Res.bind_eq h5
  unfold Exs.ev at h8
  obtain ⟨zs, st5, h9, h10⟩ := Res.bind_eq h8
  obtain ⟨z, st6, h11, h12⟩ := Res.bind_eq h9
  unfold Exs.ev at h12
  cases h12
  cases h10
  cases h6
  exact ⟨x, y, z, st2, st4, h3, h7, h11, e⟩
/-- two operands, then an eager step -/
theorem two_step {x y : Expr} {a b : Ex} {p : Pr} {f : Store → D → D → Option D} {σ : L2.St} {H : Hp} {Q : VK} (hp : ∀ st u v, prEv st p [u, v] = f st u v) (h : tE G (relS G) ((Ex.prim p (.cons a (.cons b .nil))).ev P) σ H Q) :
    tOp (r2S G f) (tE G (relW G) (a.ev P)) (tE G (relW G) (b.ev P)) σ H Q := by
  obtain ⟨B, env, st, ρ, d, st', rs, re, ev, k⟩ := h
  obtain ⟨u, v, st1, e1, e2, e3⟩ := prim2_inv ev
  rw [hp] at e3
  refine ⟨B, env, st, ρ, _, _, rs, re, e1, fun v1 ρ1 H1 sp1 rs1 q1 => ⟨B, env, st1, ρ1, _, _, rs1, re.stp rs.mt rs.off sp1, e2, fun v2 ρ2 H2 sp2 rs2 q2 => ?_⟩⟩
  exact ⟨B, ρ2, st', _, _, _, rs2, DB.stp rs1.mt rs1.off sp2 q1, q2, e3, fin_of (sp1.trans sp2) rs2 k⟩
theorem r2_of {f : D → D → Option D} {o : Value → Value → Sem Value} (h : OpR X o (r2D G f)) : OpR X o (r2S G fun _ => f) := fun pins s σ H x y v u Q I rx ry ⟨B, ρ, st, d, e, r, q⟩ => h pins s σ H x y v u Q I rx ry ⟨B, ρ, st, d, e, r, q⟩
theorem pe_bo (xa : XA G X) {o : Bo} {x y : Expr} {a b : Ex} {pos : Pos} (ha : PEW G X P x a) (hb : PEW G X P y b) : PES G X P (.BinOp x (boOp o) y pos) (.prim (.bo o) (.cons a (.cons b .nil))) :=
  PE_imp (pe_op (r2_of (bo_ok xa o)) ha hb) fun σ H Q h => two_step (x := x) (y := y) (fun _ _ _ => rfl) h
theorem pe_co (xa : XA G X) {o : Co} {x y : Expr} {a b : Ex} {pos : Pos} (ha : PEW G X P x a) (hb : PEW G X P y b) (hm : behindInMarks (coOp o) y = false) : PES G X P (.Compare x [coOp o] [y] pos) (.prim (.co o) (.cons a (.cons b .nil))) :=
  PE_imp (pe_cmpR (r2_of (co_ok xa o)) ha hb hm) fun σ H Q h => two_step (x := x) (y := y) (fun _ _ _ => rfl) h
theorem pe_sub' (xa : XA G X) {x y : Expr} {a b : Ex} {pos : Pos} (ha : PEW G X P x a) (hb : PEW G X P y b) (hs : PlainIx y) : PES G X P (.Subscript x y pos) (.prim .sub (.cons a (.cons b .nil))) :=
  PE_imp (pe_ix (sub_ok xa) ha hb hs) fun σ H Q h => two_step (x := x) (y := y) (fun _ _ _ => rfl) h
theorem pe_neg (xa : XA G X) {x : Expr} {a : Ex} {pos : Pos} (ha : PEW G X P x a) : PES G X P (.UnaryOp .USub x pos) (.prim .neg (.cons a .nil)) :=
  PE_imp (pe_un (neg_ok xa) ha) fun σ H Q ⟨B, env, st, ρ, d, st', rs, re, ev, k⟩ => by
    obtain ⟨u, e1, e2⟩ := prim1_inv ev
    exact ⟨B, env, st, ρ, _, _, rs, re, e1, fun v1 ρ1 H1 sp1 rs1 q1 => ⟨B, ρ1, st', _, _, rs1, q1, e2, fin_of sp1 rs1 k⟩⟩
theorem intOf_eq {d : D} {i : Int} (h : intOf d = some i) : d = .int i := by
  cases d <;> simp [intOf] at h
  subst h; rfl
theorem pe_cut11 (xa : XA G X) {x y z : Expr} {a b c : Ex} {pos p2 : Pos} (ha : PEW G X P x a) (hb : PEW G X P y b) (hc : PEW G X P z c) : PES G X P (.Subscript x (.Slice (some y) (some z) none p2) pos) (.prim (.cut true true) (.cons a (.cons b (.cons c .nil)))) :=
  PE_imp (pe_slice (cut_ok xa) ha (po_some hb) (po_some hc)) fun σ H Q ⟨B, env, st, ρ, d, st', rs, re, ev, k⟩ => by
    obtain ⟨u, v, w, st1, st2, e1, e2, e3, e4⟩ := prim3_inv ev
    obtain ⟨i, hi, e4⟩ := Option.bind_eq_some_iff.mp e4
    obtain ⟨j, hj, e4⟩ := Option.bind_eq_some_iff.mp e4
    have hi := intOf_eq hi
    have hj := intOf_eq hj
    subst hi hj
    refine ⟨B, env, st, ρ, _, _, rs, re, e1, fun v1 ρ1 H1 sp1 rs1 q1 => ⟨B, env, st1, ρ1, _, _, rs1, re.stp rs.mt rs.off sp1, e2, fun v2 ρ2 H2 sp2 rs2 q2 => ⟨i, DB.int q2, ?_⟩⟩⟩
    refine ⟨B, env, st2, ρ2, _, _, rs2, (re.stp rs.mt rs.off sp1).stp rs1.mt rs1.off sp2, e3, fun v3 ρ3 H3 sp3 rs3 q3 => ⟨j, DB.int q3, ?_⟩⟩
    exact ⟨B, ρ3, st', _, _, rs3, DB.stp rs2.mt rs2.off sp3 (DB.stp rs1.mt rs1.off sp2 q1), e4, fin_of ((sp1.trans sp2).trans sp3) rs3 k⟩
theorem pe_cut10 (xa : XA G X) {x y : Expr} {a b : Ex} {pos p2 : Pos} (ha : PEW G X P x a) (hb : PEW G X P y b) : PES G X P (.Subscript x (.Slice (some y) none none p2) pos) (.prim (.cut true false) (.cons a (.cons b .nil))) :=
  PE_imp (pe_slice (cut_ok xa) ha (po_some hb) po_none) fun σ H Q ⟨B, env, st, ρ, d, st', rs, re, ev, k⟩ => by
    obtain ⟨u, v, st1, e1, e2, e4⟩ := prim2_inv ev
    obtain ⟨i, hi, e4⟩ := Option.bind_eq_some_iff.mp e4
    have hi := intOf_eq hi
    subst hi
    refine ⟨B, env, st, ρ, _, _, rs, re, e1, fun v1 ρ1 H1 sp1 rs1 q1 => ⟨B, env, st1, ρ1, _, _, rs1, re.stp rs.mt rs.off sp1, e2, fun v2 ρ2 H2 sp2 rs2 q2 => ⟨i, DB.int q2, ?_⟩⟩⟩
    exact ⟨B, ρ2, st', _, _, rs2, DB.stp rs1.mt rs1.off sp2 q1, e4, fin_of (sp1.trans sp2) rs2 k⟩
theorem pe_cut01 (xa : XA G X) {x y : Expr} {a b : Ex} {pos p2 : Pos} (ha : PEW G X P x a) (hb : PEW G X P y b) : PES G X P (.Subscript x (.Slice none (some y) none p2) pos) (.prim (.cut false true) (.cons a (.cons b .nil))) :=
  PE_imp (pe_slice (cut_ok xa) ha po_none (po_some hb)) fun σ H Q ⟨B, env, st, ρ, d, st', rs, re, ev, k⟩ => by
    obtain ⟨u, v, st1, e1, e2, e4⟩ := prim2_inv ev
    obtain ⟨i, hi, e4⟩ := Option.bind_eq_some_iff.mp e4
    have hi := intOf_eq hi
    subst hi
    refine ⟨B, env, st, ρ, _, _, rs, re, e1, fun v1 ρ1 H1 sp1 rs1 q1 => ⟨B, env, st1, ρ1, _, _, rs1, re.stp rs.mt rs.off sp1, e2, fun v2 ρ2 H2 sp2 rs2 q2 => ⟨i, DB.int q2, ?_⟩⟩⟩
    exact ⟨B, ρ2, st', _, _, rs2, DB.stp rs1.mt rs1.off sp2 q1, e4, fin_of (sp1.trans sp2) rs2 k⟩

/-! ### tuples, lists -/
theorem pe_tupD {xs : List Expr} {es : Exs} {k : Nat} {pos : Pos} (ha : PA X xs (tAs G (relsS G) (es.ev P))) : PES G X P (.Tuple xs k pos) (.tup es) :=
  PE_imp (pe_tup ha) fun σ H Q ⟨B, env, st, ρ, d, st', rs, re, ev, k⟩ => by
    unfold Ex.ev at ev
    obtain ⟨ds, st1, e1, e2⟩ := Res.bind_eq ev
    obtain ⟨g2, rfl⟩ := ofOpt_eq e2
    obtain ⟨hl, rfl⟩ := fits_some g2
    refine ⟨B, env, st, ρ, _, _, rs, re, e1, fun vs ρ1 H1 sp1 rs1 q1 => ⟨by rw [DVs.length q1, ← lim_line]; exact hl, fun p hp => Fin.tup rs1 (fin_of sp1 rs1 k) q1 hp⟩⟩
theorem pe_lstD {xs : List Expr} {es : Exs} {pos : Pos} (ha : PA X xs (tAs G (relsS G) (es.ev P))) : PES G X P (.List xs pos) (.lst es) :=
  PE_imp (pe_lst ha) fun σ H Q ⟨B, env, st, ρ, d, st', rs, re, ev, k⟩ => by
    unfold Ex.ev at ev
    obtain ⟨ds, st1, e1, e2⟩ := Res.bind_eq ev
    obtain ⟨g2, rfl⟩ := ofOpt_eq e2
    obtain ⟨hl, rfl⟩ := fits_some g2
    refine ⟨B, env, st, ρ, _, _, rs, re, e1, fun vs ρ1 H1 sp1 rs1 q1 => ⟨by rw [DVs.length q1, ← lim_line]; exact hl, fun p hp => Fin.lst rs1 (fin_of sp1 rs1 k) q1 hp⟩⟩

/-! ### truth -/
theorem tru_of {B ρ : List Addr} {H : Hp} {d : D} {v : V} {k : Bool} (xa : XA G X) (h : DB G B ρ H d v) (e : d.tru = some k) : TruV X.K v H k := by
  cases d with
  | non => have := h.non; subst this; exact (Option.some.inj e).symm
  | bl b => have := h.bl; subst this; exact (Option.some.inj e).symm
  | int i => have := h.int; subst this; exact (Option.some.inj e).symm
  | str s =>
    have := h.str
    subst this
    simp only [D.tru] at e
    split at e
    · rename_i hl
      exact ⟨by rw [← lim_line]; exact hl, (Option.some.inj e).symm⟩
    · cases e
  | tup ds =>
    obtain ⟨p, vs, rfl, h1, h2⟩ := h.tup
    refine .inr (.inl ⟨vs, by rw [xa.K]; exact h1, ?_⟩)
    rw [← Option.some.inj e]
    cases ds with
    | nil => have h2 : vs = [] := h2; rw [h2]; rfl
    | cons _ _ => obtain ⟨_, _, e2, _⟩ := h2; rw [e2]; rfl
  | lst ds =>
    obtain ⟨p, vs, rfl, h1, h2⟩ := h.lst
    refine .inl ⟨vs, .inl h1, ?_⟩
    rw [← Option.some.inj e]
    cases ds with
    | nil => have h2 : vs = [] := h2; rw [h2]; rfl
    | cons _ _ => obtain ⟨_, _, e2, _⟩ := h2; rw [e2]; rfl
  | dct _ _ => cases e
  | ref _ => cases e
/-- a value as a test -/
theorem pt_of {x : Expr} {f : Env → Store → Res D} {g : Env → Store → Res Bool} (xa : XA G X) (h : PE X x (tE G (relW G) f)) (he : ∀ whole, isTrue x X.env whole = (do let v ← whole; standAt x.pos; holding [v] (truthy v)))
    (hg : ∀ env st b st', g env st = .ok b st' → ∃ d, f env st = .ok d st' ∧ d.tru = some b) : PT X x (tT G g) :=
  PT_imp (pt_truth h he) fun σ H Q ⟨B, env, st, ρ, b, st', rs, re, ev, k⟩ => by
    obtain ⟨d, e1, e2⟩ := hg _ _ _ _ ev
    exact ⟨B, env, st, ρ, d, st', rs, re, e1, fun v ρ1 H1 sp1 rs1 q1 => ⟨b, tru_of xa q1 e2, k ρ1 H1 sp1 rs1⟩⟩
theorem pe_notD (xa : XA G X) {x : Expr} {a : Ex} {pos : Pos} (ha : PEW G X P x a) : PES G X P (.UnaryOp .Not x pos) (.not a) := by
  refine ⟨fun pins s σ H Q I h => ?_⟩
  obtain ⟨B, env, st, ρ, d, st', rs, re, ev, k⟩ := h
  unfold Ex.ev at ev
  obtain ⟨u, st1, e1, ev⟩ := Res.bind_eq ev
  obtain ⟨b, st2, e2, e3⟩ := Res.bind_eq ev
  obtain ⟨g2, rfl⟩ := ofOpt_eq e2
  cases e3
  refine UnaryOp_ (thn (PE_go ha I rs re e1) fun v s1 ⟨y, H1, I1, r1, ρ1, sp, rs1, q⟩ => ?_)
  refine not_of (thn (tru_ok pins s1 σ H1 y v (fun c H2 => c = b ∧ H2 = H1) I1 r1 ⟨b, tru_of xa q g2, rfl, rfl⟩) fun c s2 ⟨H2, I2, ec, eh⟩ => ?_)
  subst ec eh
  exact ⟨.bl (!c), H2, I2, rfl, k _ ρ1 H2 sp rs1 rfl⟩
theorem blOf_eq {d : D} {b : Bool} (h : blOf d = some b) : d = .bl b := by
  cases d <;> simp [blOf] at h
  subst h; rfl
theorem pe_andD {x y : Expr} {ys : List Expr} {a b : Ex} {pos : Pos} (ha : PES G X P x a) (hb : PES G X P (.BoolOp .And (y :: ys) pos) b) : PES G X P (.BoolOp .And (x :: y :: ys) pos) (.and a b) :=
  PE_imp (pe_and ha hb) fun σ H Q ⟨B, env, st, ρ, d, st', rs, re, ev, k⟩ => by
    unfold Ex.ev at ev
    obtain ⟨u, st1, e1, ev⟩ := Res.bind_eq ev
    obtain ⟨t, st2, e2, e3⟩ := Res.bind_eq ev
    obtain ⟨g2, rfl⟩ := ofOpt_eq e2
    have := blOf_eq g2
    subst this
    refine ⟨B, env, st, ρ, _, _, rs, re, e1, fun v1 ρ1 H1 sp1 rs1 q1 => ⟨t, q1, ?_⟩⟩
    cases t with
    | true =>
      simp only [if_true] at e3 ⊢
      exact ⟨B, env, _, ρ1, _, _, rs1, re.stp rs.mt rs.off sp1, e3, fun v ρ2 H2 sp2 rs2 q2 => k v ρ2 H2 (sp1.trans sp2) rs2 q2⟩
    | false =>
      simp only [Bool.false_eq_true, if_false] at e3 ⊢
      cases e3
      exact k _ ρ1 H1 sp1 rs1 rfl
theorem pe_orD {x y : Expr} {ys : List Expr} {a b : Ex} {pos : Pos} (ha : PES G X P x a) (hb : PES G X P (.BoolOp .Or (y :: ys) pos) b) : PES G X P (.BoolOp .Or (x :: y :: ys) pos) (.or a b) :=
  PE_imp (pe_or ha hb) fun σ H Q ⟨B, env, st, ρ, d, st', rs, re, ev, k⟩ => by
    unfold Ex.ev at ev
    obtain ⟨u, st1, e1, ev⟩ := Res.bind_eq ev
    obtain ⟨t, st2, e2, e3⟩ := Res.bind_eq ev
    obtain ⟨g2, rfl⟩ := ofOpt_eq e2
    have := blOf_eq g2
    subst this
    refine ⟨B, env, st, ρ, _, _, rs, re, e1, fun v1 ρ1 H1 sp1 rs1 q1 => ⟨t, q1, ?_⟩⟩
    cases t with
    | false =>
      simp only [Bool.false_eq_true, if_false] at e3 ⊢
      exact ⟨B, env, _, ρ1, _, _, rs1, re.stp rs.mt rs.off sp1, e3, fun v ρ2 H2 sp2 rs2 q2 => k v ρ2 H2 (sp1.trans sp2) rs2 q2⟩
    | true =>
      simp only [if_true] at e3 ⊢
      cases e3
      exact k _ ρ1 H1 sp1 rs1 rfl
theorem pe_iteD {c x y : Expr} {e a b : Ex} {pos : Pos} (hc : PT X c (tT G (e.test P))) (ha : PES G X P x a) (hb : PES G X P y b) : PES G X P (.IfExp c x y pos) (.ife e a b) :=
  PE_imp (pe_ifExp hc ha hb) fun σ H Q ⟨B, env, st, ρ, d, st', rs, re, ev, k⟩ => by
    unfold Ex.ev at ev
    obtain ⟨t, st1, e1, e2⟩ := Res.bind_eq ev
    refine ⟨B, env, st, ρ, _, _, rs, re, e1, fun ρ1 H1 sp1 rs1 => ?_⟩
    cases t with
    | true => exact ⟨B, env, _, ρ1, _, _, rs1, re.stp rs.mt rs.off sp1, e2, fun v ρ2 H2 sp2 rs2 q2 => k v ρ2 H2 (sp1.trans sp2) rs2 q2⟩
    | false => exact ⟨B, env, _, ρ1, _, _, rs1, re.stp rs.mt rs.off sp1, e2, fun v ρ2 H2 sp2 rs2 q2 => k v ρ2 H2 (sp1.trans sp2) rs2 q2⟩
theorem fin_bl {B ρ : List Addr} {H : Hp} {b : Bool} {R : VK} (h : R (.bl b) H) (hm : ∀ H', Same H H' → R (.bl b) H → R (.bl b) H') : Fin G B ρ H R (.bl b) := fun v H' s q => by
  have q : v = .bl b := q
  subst q
  exact hm H' s h
theorem pe_chainD (xa : XA G X) {o o' : Co} {x y z : Expr} {a b c : Ex} {pos : Pos} (ha : PES G X P x a) (hb : PES G X P y b) (hc : PES G X P z c) (hm : lastMarks [coOp o, coOp o'] [y, z] = false) : PES G X P (.Compare x [coOp o, coOp o'] [y, z] pos) (.chain o o' a b c) :=
  PE_imp (pe_chain (co_ok xa o) (co_ok xa o') ha hb hc hm) fun σ H Q ⟨B, env, st, ρ, d, st', rs, re, ev, k⟩ => by
    unfold Ex.ev at ev
    obtain ⟨u, st1, e1, ev⟩ := Res.bind_eq ev
    obtain ⟨v, st2, e2, ev⟩ := Res.bind_eq ev
    obtain ⟨t, st3, e3, e4⟩ := Res.bind_eq ev
    obtain ⟨g3, rfl⟩ := ofOpt_eq e3
    refine ⟨B, env, st, ρ, _, _, rs, re, e1, fun v1 ρ1 H1 sp1 rs1 q1 => ⟨B, env, st1, ρ1, _, _, rs1, re.stp rs.mt rs.off sp1, e2, fun v2 ρ2 H2 sp2 rs2 q2 => ?_⟩⟩
    refine ⟨B, ρ2, _, u, v, .bl t, rs2, .inl (DV.stp rs1.mt sp2 q1), .inl q2, by show (coEv o u v).map D.bl = _; rw [g3]; rfl, fun w H3 s q => ⟨t, q, ?_⟩⟩
    have sp3 := (sp1.trans sp2).trans (same_stp s)
    have rs3 := rs2.same s
    cases t with
    | true =>
      simp only [if_true] at e4 ⊢
      obtain ⟨z', st4, e5, e6⟩ := Res.bind_eq e4
      obtain ⟨g6, rfl⟩ := ofOpt_eq e6
      refine ⟨B, env, _, ρ2, _, _, rs3, re.stp rs.mt rs.off sp3, e5, fun v3 ρ4 H4 sp4 rs4 q4 => ?_⟩
      exact ⟨B, ρ4, _, v, z', _, rs4, .inl (DV.stp rs3.mt sp4 (DV.same rs2.mt s q2)), .inl q4, g6, fin_of (sp3.trans sp4) rs4 k⟩
    | false =>
      simp only [Bool.false_eq_true, if_false] at e4 ⊢
      cases e4
      exact k _ ρ2 H3 sp3 rs3 rfl
theorem pt_andD {x y : Expr} {ys : List Expr} {a b : Ex} {pos : Pos} (ha : PT X x (tT G (a.test P))) (hb : PW X (.BoolOp .And (y :: ys) pos) (tT G (b.test P))) : PW X (.BoolOp .And (x :: y :: ys) pos) (tT G ((Ex.and a b).test P)) := by
  refine ⟨fun wh pins s σ H Q I h => (pw_and ha hb).run wh pins s σ H Q I ?_⟩
  obtain ⟨B, env, st, ρ, d, st', rs, re, ev, k⟩ := h
  unfold Ex.test at ev
  obtain ⟨t, st1, e1, e2⟩ := Res.bind_eq ev
  refine ⟨B, env, st, ρ, _, _, rs, re, e1, fun ρ1 H1 sp1 rs1 => ?_⟩
  cases t with
  | true => exact ⟨B, env, _, ρ1, _, _, rs1, re.stp rs.mt rs.off sp1, e2, fun ρ2 H2 sp2 rs2 => k ρ2 H2 (sp1.trans sp2) rs2⟩
  | false =>
    cases e2
    exact k ρ1 H1 sp1 rs1
theorem pt_orD {x y : Expr} {ys : List Expr} {a b : Ex} {pos : Pos} (ha : PT X x (tT G (a.test P))) (hb : PW X (.BoolOp .Or (y :: ys) pos) (tT G (b.test P))) : PW X (.BoolOp .Or (x :: y :: ys) pos) (tT G ((Ex.or a b).test P)) := by
  refine ⟨fun wh pins s σ H Q I h => (pw_or ha hb).run wh pins s σ H Q I ?_⟩
  obtain ⟨B, env, st, ρ, d, st', rs, re, ev, k⟩ := h
  unfold Ex.test at ev
  obtain ⟨t, st1, e1, e2⟩ := Res.bind_eq ev
  refine ⟨B, env, st, ρ, _, _, rs, re, e1, fun ρ1 H1 sp1 rs1 => ?_⟩
  cases t with
  | false => exact ⟨B, env, _, ρ1, _, _, rs1, re.stp rs.mt rs.off sp1, e2, fun ρ2 H2 sp2 rs2 => k ρ2 H2 (sp1.trans sp2) rs2⟩
  | true =>
    cases e2
    exact k ρ1 H1 sp1 rs1
theorem pt_notD {x : Expr} {a : Ex} {pos : Pos} (ha : PT X x (tT G (a.test P))) : PT X (.UnaryOp .Not x pos) (tT G ((Ex.not a).test P)) :=
  PT_imp (pt_not ha) fun σ H Q ⟨B, env, st, ρ, d, st', rs, re, ev, k⟩ => by
    unfold Ex.test at ev
    obtain ⟨t, st1, e1, e2⟩ := Res.bind_eq ev
    cases e2
    exact ⟨B, env, st, ρ, _, _, rs, re, e1, fun ρ1 H1 sp1 rs1 => k ρ1 H1 sp1 rs1⟩
/-- a comparison as a test -/
theorem pt_coD (xa : XA G X) {o : Co} {x y : Expr} {a b : Ex} {pos : Pos} (ha : PEW G X P x a) (hb : PEW G X P y b) (hm : behindInMarks (coOp o) y = false) : PT X (.Compare x [coOp o] [y] pos) (tT G ((Ex.prim (.co o) (.cons a (.cons b .nil))).test P)) :=
  PT_imp (pt_cmpR (r2_of (co_ok xa o)) ha hb hm) fun σ H Q ⟨B, env, st, ρ, t, st', rs, re, ev, k⟩ => by
    have ev2 : ∃ d, (Ex.prim (.co o) (.cons a (.cons b .nil))).ev P env st = .ok d st' ∧ d.tru = some t := by
      unfold Ex.test at ev
      obtain ⟨ds, st1, e1, ev⟩ := Res.bind_eq ev
      obtain ⟨d, st2, e2, e3⟩ := Res.bind_eq ev
      obtain ⟨g3, rfl⟩ := ofOpt_eq e3
      refine ⟨d, ?_, g3⟩
      unfold Ex.ev
      rw [e1]
      exact e2
    obtain ⟨d, e1, e2⟩ := ev2
    have hb : d = .bl t := by
      obtain ⟨u, v, st1, _, _, e5⟩ := prim2_inv e1
      obtain ⟨c, _, rfl⟩ := Option.map_eq_some_iff.mp (show (coEv o u v).map D.bl = some d from e5)
      cases e2
      rfl
    subst hb
    exact two_step (x := x) (y := y) (fun _ _ _ => rfl) ⟨B, env, st, ρ, _, st', rs, re, e1, fun v ρ' H' sp rs' q => ⟨t, q, k ρ' H' sp rs'⟩⟩
theorem pt_chainD (xa : XA G X) {o o' : Co} {x y z : Expr} {a b c : Ex} {pos : Pos} (ha : PES G X P x a) (hb : PES G X P y b) (hc : PES G X P z c) (hm : lastMarks [coOp o, coOp o'] [y, z] = false) : PT X (.Compare x [coOp o, coOp o'] [y, z] pos) (tT G ((Ex.chain o o' a b c).test P)) :=
  PT_imp (pt_chain (co_ok xa o) (co_ok xa o') ha hb hc hm) fun σ H Q ⟨B, env, st, ρ, r, st', rs, re, ev, k⟩ => by
    unfold Ex.test at ev
    obtain ⟨u, st1, e1, ev⟩ := Res.bind_eq ev
    obtain ⟨v, st2, e2, ev⟩ := Res.bind_eq ev
    obtain ⟨t, st3, e3, e4⟩ := Res.bind_eq ev
    obtain ⟨g3, rfl⟩ := ofOpt_eq e3
    refine ⟨B, env, st, ρ, _, _, rs, re, e1, fun v1 ρ1 H1 sp1 rs1 q1 => ⟨B, env, st1, ρ1, _, _, rs1, re.stp rs.mt rs.off sp1, e2, fun v2 ρ2 H2 sp2 rs2 q2 => ?_⟩⟩
    refine ⟨B, ρ2, _, u, v, .bl t, rs2, .inl (DV.stp rs1.mt sp2 q1), .inl q2, by show (coEv o u v).map D.bl = _; rw [g3]; rfl, fun w H3 s q => ⟨t, q, ?_⟩⟩
    have sp3 := (sp1.trans sp2).trans (same_stp s)
    have rs3 := rs2.same s
    cases t with
    | true =>
      simp only [if_true] at e4 ⊢
      obtain ⟨z', st4, e5, e6⟩ := Res.bind_eq e4
      obtain ⟨g6, rfl⟩ := ofOpt_eq e6
      refine ⟨B, env, _, ρ2, _, _, rs3, re.stp rs.mt rs.off sp3, e5, fun v3 ρ4 H4 sp4 rs4 q4 => ?_⟩
      refine ⟨B, ρ4, _, v, z', .bl r, rs4, .inl (DV.stp rs3.mt sp4 (DV.same rs2.mt s q2)), .inl q4, by show (coEv o' v z').map D.bl = _; rw [g6]; rfl, fun w5 H5 s5 q5 => ⟨r, q5, k ρ4 H5 ((sp3.trans sp4).trans (same_stp s5)) (rs4.same s5)⟩⟩
    | false =>
      simp only [Bool.false_eq_true, if_false] at e4 ⊢
      cases e4
      exact ⟨false, rfl, k ρ2 H3 sp3 rs3⟩
end
end Dp
set_option Elab.async false
set_option linter.all false
set_option maxRecDepth 100000
set_option maxHeartbeats 4000000
/-! Dp12: targets, comprehensions. -/
namespace Dp
open PySem PySem.Spec PyProof.Rows L2 PySem.W PySem.SeqAt

section
variable {G : Gx} {X : Cx} {P : Par}
/-! ### targets -/
def gT (K : PySem.W.Frag) : Tg → TG
  | .name i => gName i
  | .pair a b => gTup K 2 (gCons (gT K a) (gCons (gT K b) gNil))
  | .trip a b c => gTup K 3 (gCons (gT K a) (gCons (gT K b) (gCons (gT K c) gNil)))
theorem wipe_set {i : Nat} {x : Option V} : ∀ {vs : List Nat} {σ : L2.St}, i ∈ vs → wipe (σ.set i x) vs = wipe σ vs := by
  have gen : ∀ (vs : List Nat) (σ : L2.St) (j : Nat), (wipe σ vs)[j]? = if j ∈ vs ∧ j < σ.length then some none else σ[j]? := by
    intro vs
    induction vs with
    | nil => intro σ j; simp [wipe]
    | cons v vs ih =>
      intro σ j
      unfold wipe
      rw [List.getElem?_set, wipe_length]
      by_cases h : v = j
      · subst h
        by_cases hl : v < σ.length
        · simp [hl]
        · simp [hl]
      · rw [if_neg h, ih]
        have : j ∈ v :: vs ↔ j ∈ vs := by simp [Ne.symm h]
        simp only [this]
  intro vs σ hi
  apply List.ext_getElem?
  intro j
  rw [gen, gen, List.length_set, List.getElem?_set]
  by_cases hj : j ∈ vs ∧ j < σ.length
  · rw [if_pos hj, if_pos hj]
  · rw [if_neg hj, if_neg hj]
    by_cases e : i = j
    · subst e
      have : ¬ i < σ.length := fun z => hj ⟨hi, z⟩
      rw [if_pos rfl, if_neg this, List.getElem?_eq_none (by omega)]
    · rw [if_neg e]
theorem wipe_idem : ∀ {vs : List Nat} {σ : L2.St}, wipe (wipe σ vs) vs = wipe σ vs := by
  have gen : ∀ (us : List Nat) (vs : List Nat) (σ : L2.St), (∀ i ∈ us, i ∈ vs) → wipe (wipe σ us) vs = wipe σ vs := by
    intro us
    induction us with
    | nil => intro vs σ _; rfl
    | cons u us ih =>
      intro vs σ h
      show wipe ((wipe σ us).set u none) vs = _
      rw [wipe_set (h u List.mem_cons_self)]
      exact ih vs σ fun i hi => h i (List.mem_cons_of_mem _ hi)
  intro vs σ
  exact gen vs vs σ fun _ h => h
theorem re_set {B ρ : List Addr} {env : Env} {σ : L2.St} {H : Hp} {i : Nat} {d : D} {v : V} (re : RE (G := G) B env ρ σ H) (h : DV G (ρ ++ B) ρ H d v) : RE (G := G) B (env.set i (some (false, d))) ρ (σ.set i (some v)) H := by
  refine ⟨by rw [List.length_set, List.length_set]; exact re.len, fun j e hj => ?_, fun j e hj => ?_⟩
  · rw [List.getElem?_set] at hj
    by_cases hij : i = j
    · subst hij
      rw [if_pos rfl] at hj
      split at hj
      · rename_i hl
        cases hj
        exact ⟨v, by rw [List.getElem?_set_self (by rw [re.len]; exact hl)], h⟩
      · cases hj
    · rw [if_neg hij] at hj
      obtain ⟨u, h1, h2⟩ := re.fre j e hj
      exact ⟨u, by rw [List.getElem?_set_ne hij]; exact h1, h2⟩
  · rw [List.getElem?_set] at hj
    by_cases hij : i = j
    · subst hij
      rw [if_pos rfl] at hj
      split at hj <;> cases hj
    · rw [if_neg hij] at hj
      obtain ⟨a, h1, h2⟩ := re.own j e hj
      exact ⟨a, by rw [List.getElem?_set_ne hij]; exact h1, h2⟩
theorem re_wipe {B ρ : List Addr} {env : Env} {σ : L2.St} {H : Hp} (re : RE (G := G) B env ρ σ H) : ∀ vs : List Nat, RE (G := G) B (wipeE env vs) ρ (wipe σ vs) H
  | [] => re
  | v :: vs => by
    have ih := re_wipe re vs
    have key : ∀ (j : Nat) (x : Bool × D), (wipeE env (v :: vs))[j]? = some (some x) → v ≠ j ∧ (wipeE env vs)[j]? = some (some x) := by
      intro j x hj
      show v ≠ j ∧ _
      have hj : ((wipeE env vs).set v none)[j]? = some (some x) := hj
      rw [List.getElem?_set] at hj
      by_cases hij : v = j
      · rw [if_pos hij] at hj
        split at hj <;> cases hj
      · rw [if_neg hij] at hj
        exact ⟨hij, hj⟩
    refine ⟨?_, fun j e hj => ?_, fun j e hj => ?_⟩
    · show ((wipe σ vs).set v none).length = ((wipeE env vs).set v none).length
      rw [List.length_set, List.length_set]
      exact ih.len
    · obtain ⟨n, hj⟩ := key j _ hj
      obtain ⟨u, h1, h2⟩ := ih.fre j e hj
      refine ⟨u, ?_, h2⟩
      show ((wipe σ vs).set v none)[j]? = _
      rw [List.getElem?_set_ne n]
      exact h1
    · obtain ⟨n, hj⟩ := key j _ hj
      obtain ⟨a, h1, h2⟩ := ih.own j e hj
      refine ⟨a, ?_, h2⟩
      show ((wipe σ vs).set v none)[j]? = _
      rw [List.getElem?_set_ne n]
      exact h1
/-- a target that is stored to -/
theorem put_ok {B ρ : List Addr} {H : Hp} : ∀ (t : Tg) (d : D) (v : V) (env env' : Env) (σ : L2.St) (Q : L2.St → Hp → Prop), t.put d env = some env' → RE (G := G) B env ρ σ H → DV G (ρ ++ B) ρ H d v →
    (∀ σ', RE (G := G) B env' ρ σ' H → (∀ vs, (∀ i ∈ t.ixs, i ∈ vs) → wipe σ' vs = wipe σ vs) → Q σ' H) → gT G.K t v σ H Q
  | .name i, d, v, env, env', σ, Q, e, re, hd, k => by
    cases e
    exact k _ (re_set re hd) fun vs h => wipe_set (h i List.mem_cons_self)
  | .pair a b, d, v, env, env', σ, Q, e, re, hd, k => by
    unfold Tg.put at e
    split at e
    · rename_i x y
      obtain ⟨env1, e1, e2⟩ := Option.bind_eq_some_iff.mp e
      obtain ⟨p, vs, rfl, h1, h2⟩ := hd
      obtain ⟨u, r, rfl, g1, g2⟩ := h2
      obtain ⟨w, r, rfl, g3, g4⟩ := g2
      have g4 : r = [] := g4
      subst g4
      refine ⟨p, [u, w], rfl, h1, rfl, u, [w], rfl, put_ok a x u env env1 σ _ e1 re g1 fun σ1 re1 w1 => ?_⟩
      refine ⟨w, [], rfl, put_ok b y w env1 env' σ1 _ e2 re1 g3 fun σ2 re2 w2 => ⟨rfl, ?_⟩⟩
      exact k σ2 re2 fun vs h => by rw [w2 vs fun i hi => h i (List.mem_append_right _ hi), w1 vs fun i hi => h i (List.mem_append_left _ hi)]
    · cases e
  | .trip a b c, d, v, env, env', σ, Q, e, re, hd, k => by
    unfold Tg.put at e
    split at e
    · rename_i x y z
      obtain ⟨env1, e1, e'⟩ := Option.bind_eq_some_iff.mp e
      obtain ⟨env2, e2, e3⟩ := Option.bind_eq_some_iff.mp e'
      obtain ⟨p, vs, rfl, h1, h2⟩ := hd
      obtain ⟨u, r, rfl, g1, g2⟩ := h2
      obtain ⟨w, r, rfl, g3, g4⟩ := g2
      obtain ⟨w3, r, rfl, g5, g6⟩ := g4
      have g6 : r = [] := g6
      subst g6
      refine ⟨p, [u, w, w3], rfl, h1, rfl, u, [w, w3], rfl, put_ok a x u env env1 σ _ e1 re g1 fun σ1 re1 w1 => ?_⟩
      refine ⟨w, [w3], rfl, put_ok b y w env1 env2 σ1 _ e2 re1 g3 fun σ2 re2 w2 => ?_⟩
      refine ⟨w3, [], rfl, put_ok c z w3 env2 env' σ2 _ e3 re2 g5 fun σ3 re3 w4 => ⟨rfl, ?_⟩⟩
      exact k σ3 re3 fun vs h => by
        rw [w4 vs fun i hi => h i (List.mem_append_right _ (List.mem_append_right _ hi)), w2 vs fun i hi => h i (List.mem_append_right _ (List.mem_append_left _ hi)), w1 vs fun i hi => h i (List.mem_append_left _ hi)]
    · cases e

/-! ### a thing is blocked while it is made -/
theorem mk_cons {B ρ : List Addr} {H : Hp} {p : Addr} {o : HO} (m : Mk (ρ ++ B) H) (e : H p = some o) (t : Mt o) : Mk (ρ ++ p :: B) H := fun a ha => by
  rcases List.mem_append.mp ha with h | h
  · exact m a (List.mem_append_left _ h)
  · rcases List.mem_cons.mp h with rfl | h
    · exact ⟨o, e, t⟩
    · exact m a (List.mem_append_right _ h)
theorem in_cons {B ρ : List Addr} {p a : Addr} (h : a ∈ ρ ++ B) : a ∈ ρ ++ p :: B := by
  rcases List.mem_append.mp h with h | h
  · exact List.mem_append_left _ h
  · exact List.mem_append_right _ (List.mem_cons_of_mem _ h)
theorem of_cons {B ρ : List Addr} {p a : Addr} (h : a ∈ ρ ++ p :: B) : a = p ∨ a ∈ ρ ++ B := by
  rcases List.mem_append.mp h with h | h
  · exact .inr (List.mem_append_left _ h)
  · rcases List.mem_cons.mp h with h | h
    · exact .inl h
    · exact .inr (List.mem_append_right _ h)
theorem DW.keep {M M' ρ ρ' : List Addr} {H H' : Hp} {d : D} {a : Addr} (mk : Mk M H) (hp : ∀ a o, H a = some o → a ∉ M → H' a = some o) (hm : ∀ a o, H a = some o → a ∉ M → a ∉ M') (hr : ∀ (n : Nat) a, ρ[n]? = some a → ρ'[n]? = some a)
    (ka : ∀ o, H a = some o → H' a = some o) (h : DW G M ρ H d a) : DW G M' ρ' H' d a := by
  cases d with
  | lst ds =>
    obtain ⟨vs, e, h1⟩ := h
    exact ⟨vs, ka _ e, DVs.keep mk hp hm hr _ _ h1⟩
  | dct ks vs =>
    rcases h with h | h
    · obtain ⟨kvs, e, h1, h2, h3⟩ := h
      exact .inl ⟨kvs, ka _ e, h1, h2, DVs.keep mk hp hm hr _ _ h3⟩
    · obtain ⟨es, kv, vv, e, h1, h2, h3, h4, h5, h6, h7, h8⟩ := h
      exact .inr ⟨es, kv, vv, ka _ e, h1, h2, h3, h4, h5, h6, DVs.keep mk hp hm hr _ _ h7, DVs.keep mk hp hm hr _ _ h8⟩
  | _ => exact h
/-- p is newly laid and blocked -/
theorem RS.block {B ρ : List Addr} {st : Store} {H : Hp} {p : Addr} {o : HO} (r : RS (G := G) B st ρ H) (hp : H p = none) (t : Mt o) : RS (G := G) (p :: B) st ρ (upd H p o) := by
  have fn := fresh_notin r hp
  have pres : ∀ a u, H a = some u → upd H p o a = some u := fun a u e => by rw [upd_ne (ne_of_none e hp)]; exact e
  refine ⟨mk_cons (fun a ha => ?_) upd_same t, r.len, r.nd, fun b hb => ?_, fun n c a e1 e2 => ?_⟩
  · obtain ⟨u, e, t⟩ := r.mt a ha
    exact ⟨u, pres a u e, t⟩
  · rcases List.mem_cons.mp hb with rfl | hb
    · exact fun z => fn (List.mem_append_left _ z)
    · exact r.off b hb
  · exact DW.keep r.mt (fun a u e _ => pres a u e) (fun a u e n z => (of_cons z).elim (fun q => ne_of_none e hp q) n) (fun _ _ h => h) (fun u e => pres a u e) (r.cel n c a e1 e2)
theorem RE.block {B ρ : List Addr} {env : Env} {σ : L2.St} {H : Hp} {p : Addr} {o : HO} (r : RE (G := G) B env ρ σ H) (mk : Mk (ρ ++ B) H) (hp : H p = none) : RE (G := G) (p :: B) env ρ σ (upd H p o) := by
  have pres : ∀ a u, H a = some u → upd H p o a = some u := fun a u e => by rw [upd_ne (ne_of_none e hp)]; exact e
  have out : ∀ a u, H a = some u → a ∉ ρ ++ B → a ∉ ρ ++ p :: B := fun a u e n z => (of_cons z).elim (fun q => ne_of_none e hp q) n
  refine ⟨r.len, fun i d e => ?_, fun i d e => ?_⟩
  · obtain ⟨v, h1, h2⟩ := r.fre i d e
    exact ⟨v, h1, DV.keep mk (fun a u e _ => pres a u e) out (fun _ _ h => h) _ _ h2⟩
  · obtain ⟨a, h1, h2, h3⟩ := r.own i d e
    exact ⟨a, h1, List.mem_cons_of_mem _ h2, DW.keep mk (fun a u e _ => pres a u e) out (fun _ _ h => h) (fun u e => pres a u e) h3⟩
/-- p is blocked no more -/
theorem RS.free {B ρ : List Addr} {st : Store} {H : Hp} {p : Addr} (r : RS (G := G) (p :: B) st ρ H) : RS (G := G) B st ρ H :=
  ⟨fun a ha => r.mt a (in_cons ha), r.len, r.nd, fun b hb => r.off b (List.mem_cons_of_mem _ hb), fun n c a e1 e2 => DW.keep r.mt (fun _ _ e _ => e) (fun a u e n z => n (in_cons z)) (fun _ _ h => h) (fun _ e => e) (r.cel n c a e1 e2)⟩
theorem DVs.free {B ρ : List Addr} {H : Hp} {p : Addr} {ds : List D} {vs : List V} (mk : Mk (ρ ++ p :: B) H) (h : DVs G (ρ ++ p :: B) ρ H ds vs) : DVs G (ρ ++ B) ρ H ds vs :=
  DVs.keep mk (fun _ _ e _ => e) (fun a u e n z => n (in_cons z)) (fun _ _ h => h) _ _ h
/-- a blocked thing changes -/
theorem RS.chg {B ρ : List Addr} {st : Store} {H : Hp} {p : Addr} {o : HO} (r : RS (G := G) B st ρ H) (hp : p ∈ B) (t : Mt o) : RS (G := G) B st ρ (upd H p o) := by
  refine ⟨fun a ha => ?_, r.len, r.nd, r.off, fun n c a e1 e2 => ?_⟩
  · by_cases h : a = p
    · subst h; exact ⟨o, upd_same, t⟩
    · obtain ⟨u, e, t⟩ := r.mt a ha
      exact ⟨u, by rw [upd_ne h]; exact e, t⟩
  · have hne : a ≠ p := fun z => r.off p hp (z ▸ List.mem_of_getElem? e2)
    exact DW.keep r.mt (fun b u e n => by rw [upd_ne (fun z => n (by rw [z]; exact List.mem_append_right _ hp))]; exact e) (fun _ _ _ n => n) (fun _ _ h => h) (fun u e => by rw [upd_ne hne]; exact e) (r.cel n c a e1 e2)

/-! ### things that are new -/
/-- the pairs of a dict with ints and texts for keys -/
structure KR (G : Gx) (M ρ : List Addr) (H : Hp) (ks vs : List D) (kvs : List (L2.Key × V)) : Prop where
  sk : ks.all D.skey = true
  keys : kvs.map (·.1) = ks.map D.dkey
  vals : DVs G M ρ H vs (kvs.map (·.2))
theorem KR.keep {M M' ρ ρ' : List Addr} {H H' : Hp} {ks vs : List D} {kvs : List (L2.Key × V)} (r : KR G M ρ H ks vs kvs) (k : DVs G M ρ H vs (kvs.map (·.2)) → DVs G M' ρ' H' vs (kvs.map (·.2))) : KR G M' ρ' H' ks vs kvs := ⟨r.sk, r.keys, k r.vals⟩
def Cont (G : Gx) (M ρ : List Addr) (H : Hp) : D → HO → Prop
  | .lst ds, o => ∃ vs, o = .lst vs ∧ DVs G M ρ H ds vs
  | .dct ks vs, o => ∃ kvs, o = .dK kvs ∧ KR G M ρ H ks vs kvs
  | _, _ => False
theorem Cont.mt {M ρ : List Addr} {H : Hp} {d : D} {o : HO} (c : Cont G M ρ H d o) : Mt o := by
  cases d <;> first | exact c.elim | skip
  · obtain ⟨vs, rfl, _⟩ := c; exact True.intro
  · obtain ⟨vs, rfl, _⟩ := c; exact True.intro
/-- it lies where it is laid -/
theorem Cont.dw {M M' ρ ρ' : List Addr} {H H' : Hp} {d : D} {o : HO} {a : Addr} (mk : Mk M H) (hp : ∀ b u, H b = some u → b ∉ M → H' b = some u) (hm : ∀ b u, H b = some u → b ∉ M → b ∉ M') (hr : ∀ (n : Nat) b, ρ[n]? = some b → ρ'[n]? = some b) (ha : H' a = some o) (c : Cont G M ρ H d o) : DW G M' ρ' H' d a := by
  cases d <;> first | exact c.elim | skip
  · obtain ⟨vs, rfl, h⟩ := c
    exact ⟨vs, ha, DVs.keep mk hp hm hr _ _ h⟩
  · obtain ⟨kvs, rfl, h⟩ := c
    exact .inl ⟨kvs, ha, h.sk, h.keys, DVs.keep mk hp hm hr _ _ h.vals⟩
theorem Cont.dv {B ρ : List Addr} {st : Store} {H : Hp} {d : D} {o : HO} {a : Addr} (rs : RS (G := G) B st ρ H) (ha : H a = none) (c : Cont G (ρ ++ B) ρ H d o) : DV G (ρ ++ B) ρ (upd H a o) d (.ref a) := by
  have hn := fresh_notin rs ha
  cases d <;> first | exact c.elim | skip
  · obtain ⟨vs, rfl, h⟩ := c
    exact ⟨a, vs, rfl, .inl upd_same, hn, h.laid rs.mt ha⟩
  · obtain ⟨kvs, rfl, h⟩ := c
    exact ⟨a, rfl, hn, .inl ⟨kvs, upd_same, h.sk, h.keys, h.vals.laid rs.mt ha⟩⟩
def tF (G : Gx) (f : Env → Store → Res D) : TE := fun σ H Q => ∃ B env st ρ d st', RS (G := G) B st ρ H ∧ RE (G := G) B env ρ σ H ∧ f env st = .ok d st' ∧
  ∀ a ρ' Hm o, Stp ρ H ρ' Hm → RS (G := G) B st' ρ' Hm → Hm a = none → Cont G (ρ' ++ B) ρ' Hm d o → Q (.ref a) (upd Hm a o)
abbrev PEF (G : Gx) (X : Cx) (P : Par) (x : Expr) (e : Ex) : Prop := PE X x (tF G (e.ev P))
theorem pe_fresh {x : Expr} {e : Ex} (h : PEF G X P x e) : PES G X P x e := PE_imp h fun σ H Q ⟨B, env, st, ρ, d, st', rs, re, ev, k⟩ =>
  ⟨B, env, st, ρ, d, st', rs, re, ev, fun a ρ' Hm o sp rs' hn c => k (.ref a) ρ' _ (sp.trans (Stp.laid hn)) (rs'.same (same_laid hn)) (c.dv rs' hn)⟩
/-- without the thing at p -/
def drp (H : Hp) (p : Addr) : Hp := fun b => if b = p then none else H b
theorem drp_same {H : Hp} {p : Addr} : drp H p p = none := if_pos rfl
theorem drp_ne {H : Hp} {p b : Addr} (h : b ≠ p) : drp H p b = H b := if_neg h
theorem drp_upd {H : Hp} {p : Addr} {o : HO} (h : H p = some o) : upd (drp H p) p o = H := by
  funext b
  unfold upd drp
  by_cases q : b = p
  · rw [if_pos q, q, h]
  · rw [if_neg q, if_neg q]
theorem RS.drop {B ρ : List Addr} {st : Store} {H : Hp} {p : Addr} (r : RS (G := G) (p :: B) st ρ H) (hB : p ∉ B) : RS (G := G) B st ρ (drp H p) := by
  have hn : p ∉ ρ := r.off p List.mem_cons_self
  have np : ∀ a, a ∈ ρ ++ B → a ≠ p := fun a ha z => by
    subst z
    rcases List.mem_append.mp ha with z | z
    · exact hn z
    · exact hB z
  refine ⟨fun a ha => ?_, r.len, r.nd, fun b hb => r.off b (List.mem_cons_of_mem _ hb), fun n c a e1 e2 => ?_⟩
  · obtain ⟨o, e, t⟩ := r.mt a (in_cons ha)
    exact ⟨o, by rw [drp_ne (np a ha)]; exact e, t⟩
  · have ha : a ≠ p := np a (List.mem_append_left _ (List.mem_of_getElem? e2))
    exact DW.keep r.mt (fun b u e n => by rw [drp_ne (fun z => n (by rw [z]; exact List.mem_append_right _ List.mem_cons_self))]; exact e) (fun b u e n z => n (in_cons z)) (fun _ _ h => h) (fun u e => by rw [drp_ne ha]; exact e) (r.cel n c a e1 e2)
theorem DVs.drop' {B ρ : List Addr} {H : Hp} {p : Addr} {ds : List D} {vs : List V} (mk : Mk (ρ ++ p :: B) H) (h : DVs G (ρ ++ p :: B) ρ H ds vs) : DVs G (ρ ++ B) ρ (drp H p) ds vs :=
  DVs.keep mk (fun b u e n => by rw [drp_ne (fun z => n (by rw [z]; exact List.mem_append_right _ List.mem_cons_self))]; exact e) (fun a u e n z => n (in_cons z)) (fun _ _ h => h) _ _ h
theorem Stp.drop {ρ ρ' : List Addr} {H H' : Hp} {p : Addr} (s : Stp ρ H ρ' H') (hp : H p = none) : Stp ρ H ρ' (drp H' p) :=
  ⟨fun a o e n => by rw [drp_ne (fun z => ne_of_none e hp z)]; exact s.pres a o e n, s.out, s.refs⟩
theorem pe_lstF {xs : List Expr} {es : Exs} {pos : Pos} (ha : PA X xs (tAs G (relsS G) (es.ev P))) : PEF G X P (.List xs pos) (.lst es) :=
  PE_imp (pe_lst ha) fun σ H Q ⟨B, env, st, ρ, d, st', rs, re, ev, k⟩ => by
    unfold Ex.ev at ev
    obtain ⟨ds, st1, e1, e2⟩ := Res.bind_eq ev
    obtain ⟨g2, rfl⟩ := ofOpt_eq e2
    obtain ⟨hl, rfl⟩ := fits_some g2
    refine ⟨B, env, st, ρ, _, _, rs, re, e1, fun vs ρ1 H1 sp1 rs1 q1 => ⟨by rw [DVs.length q1, ← lim_line]; exact hl, fun p hp => k p ρ1 H1 _ sp1 rs1 hp ⟨vs, rfl, q1⟩⟩⟩
/-- a new thing that the store holds -/
theorem pe_new {x : Expr} {e : Ex} (h : PEF G X P x e) : PES G X P x (.new e) := by
  refine PE_imp h fun σ H Q ⟨B, env, st, ρ, d, st', rs, re, ev, k⟩ => ?_
  unfold Ex.ev at ev
  obtain ⟨u, st1, e1, e2⟩ := Res.bind_eq ev
  refine ⟨B, env, st, ρ, u, st1, rs, re, e1, fun a ρ1 Hm o sp1 rs1 hn c => ?_⟩
  have es : d = .ref st1.length ∧ st' = st1 ++ [u] := by
    cases u <;> first | exact c.elim | skip
    · cases e2; exact ⟨rfl, rfl⟩
    · cases e2; exact ⟨rfl, rfl⟩
  obtain ⟨rfl, rfl⟩ := es
  have hf := fresh_notin rs1 hn
  have inv : ∀ b, b ∈ (ρ1 ++ [a]) ++ B → b ∈ ρ1 ++ B ∨ b = a := fun b hb => by
    rcases List.mem_append.mp hb with z | z
    · rcases List.mem_append.mp z with z | z
      · exact .inl (List.mem_append_left _ z)
      · exact .inr (List.mem_singleton.mp z)
    · exact .inl (List.mem_append_right _ z)
  have hm : ∀ b v, Hm b = some v → b ∉ ρ1 ++ B → b ∉ (ρ1 ++ [a]) ++ B := fun b v e n z => (inv b z).elim n fun q => ne_of_none e hn q
  have hp : ∀ b v, Hm b = some v → upd Hm a o b = some v := fun b v e => by rw [upd_ne (ne_of_none e hn)]; exact e
  have hr : ∀ (n : Nat) b, ρ1[n]? = some b → (ρ1 ++ [a])[n]? = some b := fun n b e => by rw [List.getElem?_append_left (List.getElem?_eq_some_iff.mp e).1]; exact e
  refine k (.ref a) (ρ1 ++ [a]) _ ⟨fun b v e n => hp b v (sp1.pres b v e n), fun b v e n z => ?_, fun n b e => hr n b (sp1.refs n b e)⟩ ⟨fun b hb => ?_, by simp [rs1.len], ?_, fun b hb z => ?_, fun n c' b e1 e2 => ?_⟩ ⟨a, ?_, rfl⟩
  · rcases List.mem_append.mp z with z | z
    · exact sp1.out b v e n z
    · exact ne_of_none (sp1.pres b v e n) hn (List.mem_singleton.mp z)
  · rcases inv b hb with z | z
    · obtain ⟨v, e, t⟩ := rs1.mt b z
      exact ⟨v, hp b v e, t⟩
    · subst z
      exact ⟨o, upd_same, c.mt⟩
  · refine List.nodup_append.mpr ⟨rs1.nd, by simp, fun x hx y hy z => ?_⟩
    have := List.mem_singleton.mp hy
    subst this z
    exact hf (List.mem_append_left _ hx)
  · rcases List.mem_append.mp z with z | z
    · exact rs1.off b hb z
    · have := List.mem_singleton.mp z
      subst this
      exact hf (List.mem_append_right _ hb)
  · by_cases hlt : n < st1.length
    · rw [List.getElem?_append_left hlt] at e1
      rw [List.getElem?_append_left (by rw [← rs1.len]; exact hlt)] at e2
      have hb : b ≠ a := fun z => hf (List.mem_append_left _ (z ▸ List.mem_of_getElem? e2))
      exact DW.keep rs1.mt (fun b v e _ => hp b v e) hm hr (fun v e => hp b v e) (rs1.cel n c' b e1 e2)
    · have hn2 : n = st1.length := by
        have := (List.getElem?_eq_some_iff.mp e1).1
        simp at this
        omega
      subst hn2
      have ec : c' = u := by simpa using e1.symm
      have eb : b = a := by rw [rs1.len] at e2; simpa using e2.symm
      subst ec eb
      exact c.dw rs1.mt (fun b v e _ => hp b v e) hm hr upd_same
  · rw [rs1.len]
    simp

/-! ### list comprehensions -/
/-- a clause's tests -/
def tts (P : Par) (G : Gx) (ts : Exs) : TT := match ts with
  | .nil => tYes
  | .cons e .nil => tT G (e.test P)
  | _ => fun _ _ _ => False
def one1 : Exs → Bool
  | .nil => true
  | .cons _ .nil => true
  | _ => false
theorem tts_ok {ts : Exs} (h1 : one1 ts = true) {B ρ : List Addr} {env : Env} {st st' : Store} {σ : L2.St} {H : Hp} {b : Bool} {Q : Bool → Hp → Prop} (rs : RS (G := G) B st ρ H) (re : RE (G := G) B env ρ σ H) (e : ts.all P env st = .ok b st')
    (k : ∀ ρ' H', Stp ρ H ρ' H' → RS (G := G) B st' ρ' H' → Q b H') : tts P G ts σ H Q := by
  match ts, h1, e with
  | .nil, _, e =>
    unfold Exs.all at e
    cases e
    exact k ρ H (Stp.refl _ _) rs
  | .cons c .nil, _, e =>
    unfold Exs.all at e
    obtain ⟨t, st1, e1, e2⟩ := Res.bind_eq e
    have e3 : t = b ∧ st1 = st' := by
      cases t with
      | true =>
        unfold Exs.all at e2
        cases e2
        exact ⟨rfl, rfl⟩
      | false => cases e2; exact ⟨rfl, rfl⟩
    obtain ⟨rfl, rfl⟩ := e3
    exact ⟨B, env, st, ρ, t, st1, rs, re, e1, k⟩
theorem lcLoop_cons {f : D → Store → Res (List D)} {x : D} {xs : List D} {st st' : Store} {ys : List D} (h : lcLoop f (x :: xs) st = .ok ys st') : ∃ r st1 zs, f x st = .ok r st1 ∧ lcLoop f xs st1 = .ok zs st' ∧ ys = r ++ zs := by
  unfold lcLoop at h
  obtain ⟨r, st1, e1, h⟩ := Res.bind_eq h
  obtain ⟨zs, st2, e2, h⟩ := Res.bind_eq h
  cases h
  exact ⟨r, st1, zs, e1, e2, rfl⟩
theorem noExc_eq {α : Type} {r : Res α} {a : α} {st : Store} (h : noExc r = .ok a st) : r = .ok a st := by
  cases r with
  | ok b s => exact h
  | exc _ _ _ => cases h
  | stuck => cases h
/-- one turn -/
theorem turn_inv {tg : Tg} {env : Env} {own : List Nat} {ts : Exs} {F : Env → Store → Res (List D)} {x : D} {st st' : Store} {r : List D}
    (h : (match tg.put x (wipeE env own) with
      | some env1 => (ts.all P env1 st).bind fun t st2 => if t then F env1 st2 else .ok [] st2
      | none => .stuck) = .ok r st') : ∃ env1 t st2, tg.put x (wipeE env own) = some env1 ∧ ts.all P env1 st = .ok t st2 ∧ ((t = true ∧ F env1 st2 = .ok r st') ∨ (t = false ∧ r = [] ∧ st' = st2)) := by
  cases e : tg.put x (wipeE env own) with
  | none => rw [e] at h; cases h
  | some env1 =>
    rw [e] at h
    obtain ⟨t, st2, e1, e2⟩ := Res.bind_eq h
    refine ⟨env1, t, st2, rfl, e1, ?_⟩
    cases t with
    | true => exact .inl ⟨rfl, e2⟩
    | false => cases e2; exact .inr ⟨rfl, rfl, rfl⟩

theorem tLc_of {tg : Tg} {it : It} {ts : Exs} {e : Ex} {own : List Nat} {σ : L2.St} {H : Hp} {Q : VK} (h1 : one1 ts = true) (hix : ∀ i ∈ tg.ixs, i ∈ own) (h : tF G ((Ex.lc own tg it ts e).ev P) σ H Q) :
    tLc (tI G false (it.ev P)) (gT G.K tg) (tts P G ts) (tE G (relS G) (e.ev P)) own σ H Q := by
  obtain ⟨B, env, st, ρ, d, st', rs, re, ev, k⟩ := h
  unfold Ex.ev at ev
  obtain ⟨xs, st1, e1, ev⟩ := Res.bind_eq ev
  obtain ⟨ys, st2, e2, e3⟩ := Res.bind_eq ev
  obtain ⟨g3, rfl⟩ := ofOpt_eq e3
  obtain ⟨hl, rfl⟩ := fits_some g3
  have e2 := noExc_eq e2
  refine ⟨B, env, st, ρ, xs, st1, rs, re, e1, fun J ρ1 H1 sp1 rs1 walk L hD => ?_⟩
  have hDn := fresh_notin rs1 hD
  generalize hf : (fun (x : D) (st : Store) => (match tg.put x (wipeE env own) with
      | some env1 => (ts.all P env1 st).bind fun t st2 => if t then (e.ev P env1 st2).bind fun y st3 => .ok [y] st3 else .ok [] st2
      | none => .stuck : Res (List D))) = f at e2
  have re1 := (re.stp rs.mt rs.off sp1).block (p := L) (o := .lst []) rs1.mt hD
  have rs1' := rs1.block (p := L) (o := .lst []) hD True.intro
  refine ⟨fun i m H2 => ∃ ρ2 sti acc accV rest, m = xs.length - i ∧ i ≤ xs.length ∧ lcLoop f (xs.drop i) sti = .ok rest st' ∧ ys = acc ++ rest ∧ Stp ρ1 H1 ρ2 H2 ∧ RS (G := G) (L :: B) sti ρ2 H2 ∧ RE (G := G) (L :: B) env ρ2 σ H2 ∧ H2 L = some (.lst accV) ∧ DVs G (ρ2 ++ L :: B) ρ2 H2 acc accV, ?_, ?_⟩
  · exact ⟨xs.length, ρ1, st1, [], [], ys, by simp, Nat.zero_le _, by simpa using e2, rfl, Stp.laid hD, rs1', re1, upd_same, rfl⟩
  · rintro i m H2 ⟨ρ2, sti, acc, accV, rest, rfl, hi, hlp, hys, sp2, rs2, re2, hD2, hacc⟩
    have wk := walk (ρ2 ++ L :: B) ρ2 H2 (fun a o ea n => sp2.pres a o ea n) (fun a o ea n z => (of_cons z).elim (fun q => ne_of_none ea hD q) fun z => stp_out (B := B) sp2 a o ea n z) sp2.refs rs2.mt
    by_cases hlt : i < xs.length
    · have hx : xs[i]? = some xs[i] := List.getElem?_eq_getElem hlt
      obtain ⟨go, yld⟩ := wk.1 i _ hx
      rw [List.drop_eq_getElem_cons hlt] at hlp
      obtain ⟨r, st3, zs, f1, f2, rfl⟩ := lcLoop_cons hlp
      rw [← hf] at f1
      obtain ⟨env1, t, st4, p1, p2, p3⟩ := turn_inv f1
      refine .inr ⟨go, fun H' => ∃ ρ5 acc5 accV5, Stp ρ1 H1 ρ5 H' ∧ RS (G := G) (L :: B) st3 ρ5 H' ∧ RE (G := G) (L :: B) env ρ5 σ H' ∧ H' L = some (.lst accV5) ∧ DVs G (ρ5 ++ L :: B) ρ5 H' acc5 accV5 ∧ acc5 = acc ++ r, ?_, ?_⟩
      · rintro H' ⟨ρ5, acc5, accV5, s5, r5, re5, d5, a5, rfl⟩
        exact ⟨xs.length - (i + 1), by omega, ρ5, st3, acc ++ r, accV5, zs, rfl, hlt, f2, by rw [hys, List.append_assoc], s5, r5, re5, d5, a5⟩
      · intro v H3 y
        obtain ⟨sm, hv⟩ := yld v H3 y
        have rs3 := rs2.same sm
        have re3 := re2.stp rs2.mt rs2.off (same_stp sm)
        refine put_ok tg _ v _ env1 _ _ p1 (re_wipe re3 own) hv fun σ2 reσ wσ => ⟨by rw [wσ own hix, wipe_idem], ?_⟩
        refine tts_ok h1 rs3 reσ p2 fun ρ4 H4 sp4 rs4 => ?_
        have sp24 : Stp ρ2 H2 ρ4 H4 := (same_stp sm).trans sp4
        have re4 := re2.stp rs2.mt rs2.off sp24
        have hD4 : H4 L = some (.lst accV) := sp24.pres L _ hD2 (rs2.off L List.mem_cons_self)
        have hacc4 := hacc.stp rs2.mt sp24
        rcases p3 with ⟨rfl, p3⟩ | ⟨rfl, rfl, rfl⟩
        · rw [if_pos rfl]
          obtain ⟨yv, st5, q1, q2⟩ := Res.bind_eq p3
          cases q2
          refine ⟨L :: B, env1, st4, ρ4, yv, st3, rs4, reσ.stp rs3.mt rs3.off sp4, q1, fun w ρ5 H5 sp5 rs5 q5 => ?_⟩
          have hD5 : H5 L = some (.lst accV) := sp5.pres L _ hD4 (rs4.off L List.mem_cons_self)
          have hacc5 := hacc4.stp rs4.mt sp5
          have re5 := re4.stp rs4.mt rs4.off sp5
          have hDm : L ∈ ρ5 ++ L :: B := List.mem_append_right _ List.mem_cons_self
          refine ⟨accV, hD5, ?_, ρ5, acc ++ [yv], accV ++ [w], ?_, rs5.chg List.mem_cons_self True.intro, ?_, upd_same, ?_, rfl⟩
          · have l1 := hacc5.length
            rw [hys] at hl
            simp only [List.length_append, List.length_cons, List.length_nil] at hl
            rw [← lim_line]
            omega
          · have s3 := (sp2.trans sp24).trans sp5
            exact ⟨fun a o ea n => by rw [upd_ne (fun z => ne_of_none ea hD z)]; exact s3.pres a o ea n, s3.out, s3.refs⟩
          · refine ⟨re5.len, fun j dj ej => ?_, fun j dj ej => ?_⟩
            · obtain ⟨u, g1, g2⟩ := re5.fre j dj ej
              exact ⟨u, g1, g2.chg rs5.mt hDm⟩
            · obtain ⟨a, g1, g2, g3⟩ := re5.own j dj ej
              by_cases haD : a = L
              · subst haD
                obtain ⟨a0, z1, z2, z3⟩ := re1.own j dj ej
                obtain ⟨b0, y1, y2, y3⟩ := (re.stp rs.mt rs.off sp1).own j dj ej
                exfalso
                rw [g1] at y1
                cases y1
                exact hDn (List.mem_append_right _ y2)
              · exact ⟨a, g1, g2, DW.keep rs5.mt (fun b u eb n => by rw [upd_ne (fun z => n (by rw [z]; exact hDm))]; exact eb) (fun _ _ _ n => n) (fun _ _ h => h) (fun u eb => by rw [upd_ne haD]; exact eb) g3⟩
          · exact DVs.append (hacc5.chg rs5.mt hDm) (.cons (DV.chg rs5.mt hDm q5) .nil)
        · rw [if_neg (by simp)]
          exact ⟨ρ4, acc, accV, sp2.trans sp24, rs4, re4, hD4, hacc4, by simp⟩
    · have hie : i = xs.length := by omega
      subst hie
      refine .inl ⟨wk.2 _ (Nat.le_refl _), ?_⟩
      rw [List.drop_length] at hlp
      unfold lcLoop at hlp
      cases hlp
      rw [List.append_nil] at hys
      subst hys
      have hB : L ∉ B := fun z => hDn (List.mem_append_right _ z)
      rw [← drp_upd hD2]
      have hH : H L = none := by
        cases hq : H L with
        | none => rfl
        | some o =>
          exfalso
          by_cases hρ : L ∈ ρ
          · obtain ⟨n, hn⟩ := List.getElem?_of_mem hρ
            exact hDn (List.mem_append_left _ (List.mem_of_getElem? (sp1.refs n L hn)))
          · exact ne_of_none (sp1.pres L o hq hρ) hD rfl
      exact k L ρ2 (drp H2 L) _ ((sp1.trans sp2).drop hH) (rs2.drop hB) drp_same ⟨accV, rfl, hacc.drop' rs2.mt⟩
end
end Dp
set_option Elab.async false
set_option linter.all false
set_option maxRecDepth 100000
set_option maxHeartbeats 4000000
/-! Dp13: dict displays and comprehensions; calls. -/
namespace Dp
open PySem PySem.Spec PyProof.Rows L2 PySem.W PySem.SeqAt

section
variable {G : Gx} {X : Cx} {P : Par}
theorem kr_any {x : D} (hx : x.skey = true) : ∀ {ks : List D} {kvs : List (L2.Key × V)}, ks.all D.skey = true → kvs.map (·.1) = ks.map D.dkey → (kvs.any fun kv => decide (kv.1 = x.dkey)) = dhas ks x
  | [], kvs, _, e => by
    have : kvs = [] := by simpa using e
    subst this
    rfl
  | k :: ks, [], _, e => by simp at e
  | k :: ks, p :: kvs, hs, e => by
    simp only [List.map_cons, List.cons.injEq] at e
    simp only [List.all_cons, Bool.and_eq_true] at hs
    have q := dkey_eq hs.1 hx
    rw [← e.1] at q
    simp only [List.any_cons, dhas, q]
    rw [kr_any hx hs.2 e.2]
    rfl
theorem kr_set {M ρ : List Addr} {H : Hp} {x d : D} {v : V} (hx : x.skey = true) (hd : DV G M ρ H d v) : ∀ {ks vs : List D} {kvs : List (L2.Key × V)}, ks.all D.skey = true → kvs.map (·.1) = ks.map D.dkey → DVs G M ρ H vs (kvs.map (·.2)) →
    (kvs.map fun kv => if kv.1 = x.dkey then (kv.1, v) else kv).map (·.1) = ks.map D.dkey ∧ DVs G M ρ H (dset ks vs x d) ((kvs.map fun kv => if kv.1 = x.dkey then (kv.1, v) else kv).map (·.2))
  | [], vs, kvs, _, e, h => by
    have : kvs = [] := by simpa using e
    subst this
    refine ⟨rfl, ?_⟩
    show DVs G M ρ H (dset [] vs x d) []
    have hl := h.length
    cases vs with
    | nil => exact rfl
    | cons _ _ => simp at hl
  | k :: ks, vs, [], _, e, _ => by simp at e
  | k :: ks, [], p :: kvs, _, _, h => by exact absurd h.length (by simp)
  | k :: ks, w :: vs, p :: kvs, hs, e, h => by
    simp only [List.map_cons, List.cons.injEq] at e
    simp only [List.all_cons, Bool.and_eq_true] at hs
    obtain ⟨u, r, e1, h1, h2⟩ := h
    simp only [List.map_cons, List.cons.injEq] at e1
    obtain ⟨rfl, rfl⟩ := e1
    obtain ⟨i1, i2⟩ := kr_set hx hd hs.2 e.2 h2
    have q := dkey_eq hs.1 hx
    rw [← e.1] at q
    rw [List.map_cons, List.map_cons, List.map_cons]
    unfold dset
    by_cases c : p.1 = x.dkey
    · rw [decide_eq_true c] at q
      rw [if_pos c, ← q, if_pos rfl, i1]
      exact ⟨by show p.1 :: _ = _; rw [e.1], .cons hd i2⟩
    · rw [decide_eq_false c] at q
      rw [if_neg c, ← q, if_neg (by simp), i1]
      exact ⟨by rw [e.1], .cons h1 i2⟩
theorem KR.put {M ρ : List Addr} {H : Hp} {ks vs : List D} {kvs : List (L2.Key × V)} {x d : D} {v : V} (r : KR G M ρ H ks vs kvs) (hx : x.skey = true) (hd : DV G M ρ H d v) : KR G M ρ H (dput ks vs x d).1 (dput ks vs x d).2 (putK kvs x.dkey v) := by
  unfold putK dput
  rw [kr_any hx r.sk r.keys]
  cases e : dhas ks x with
  | true =>
    rw [if_pos rfl, if_pos rfl]
    obtain ⟨i1, i2⟩ := kr_set hx hd r.sk r.keys r.vals
    exact ⟨r.sk, i1, i2⟩
  | false =>
    rw [if_neg (by simp), if_neg (by simp)]
    refine ⟨by simp only [List.all_append, List.all_cons, List.all_nil, Bool.and_true, Bool.and_eq_true]; exact ⟨r.sk, hx⟩, ?_, ?_⟩
    · rw [List.map_append, List.map_append, r.keys]; rfl
    · rw [List.map_append]
      exact DVs.append r.vals (.cons hd .nil)
theorem KR.nil {M ρ : List Addr} {H : Hp} : KR G M ρ H [] [] [] := ⟨rfl, rfl, rfl⟩
theorem KR.len {M ρ : List Addr} {H : Hp} {ks vs : List D} {kvs : List (L2.Key × V)} (r : KR G M ρ H ks vs kvs) : kvs.length = ks.length := by
  have := congrArg List.length r.keys
  simpa using this
theorem dputs_snoc (k v : D) : ∀ (qs : List (D × D)) (ks vs : List D), dputs ks vs (qs ++ [(k, v)]) = dput (dputs ks vs qs).1 (dputs ks vs qs).2 k v
  | [], ks, vs => rfl
  | (a, b) :: qs, ks, vs => by
    rw [List.cons_append]
    unfold dputs
    exact dputs_snoc k v qs _ _
theorem dputs_len : ∀ (qs : List (D × D)) (ks vs : List D), (dputs ks vs qs).1.length ≤ ks.length + qs.length
  | [], ks, vs => by simp [dputs]
  | (a, b) :: qs, ks, vs => by
    unfold dputs
    have h := dputs_len qs (dput ks vs a b).1 (dput ks vs a b).2
    have : (dput ks vs a b).1.length ≤ ks.length + 1 := by
      unfold dput
      split
      · simp
      · simp
    simp only [List.length_cons]
    omega
/-- a dict that is made -/
theorem KR.dv {M ρ : List Addr} {H : Hp} {ks vs : List D} {kvs : List (L2.Key × V)} {a : Addr} (r : KR G M ρ H ks vs kvs) (h : H a = some (.dK kvs)) (hn : a ∉ M) : DV G M ρ H (.dct ks vs) (.ref a) := ⟨a, rfl, hn, .inl ⟨kvs, h, r.sk, r.keys, r.vals⟩⟩

theorem dcOf_eq {ys : List D} {d : D} (h : ((pairsOf ys).bind fun ps => if ((ps.map (·.1)).all D.skey && decide (ys.length ≤ LIM)) = true then some (.dct (dputs [] [] ps).1 (dputs [] [] ps).2) else none) = some d) :
    ∃ ps, ys = ps.map (fun p => D.tup [p.1, p.2]) ∧ (ps.map (·.1)).all D.skey = true ∧ ys.length ≤ LIM ∧ d = .dct (dputs [] [] ps).1 (dputs [] [] ps).2 := by
  obtain ⟨ps, e, h⟩ := Option.bind_eq_some_iff.mp h
  split at h
  · rename_i ok
    rw [Bool.and_eq_true, decide_eq_true_eq] at ok
    cases h
    exact ⟨ps, pairs_of_D e, ok.1, ok.2, rfl⟩
  · cases h
theorem map_inj_of {α β : Type} {f : α → β} (hf : ∀ a b, f a = f b → a = b) : ∀ {as bs : List α}, as.map f = bs.map f → as = bs
  | [], [], _ => rfl
  | [], _ :: _, h => by simp at h
  | _ :: _, [], h => by simp at h
  | a :: as, b :: bs, h => by
    simp only [List.map_cons, List.cons.injEq] at h
    rw [hf a b h.1, map_inj_of hf h.2]
theorem tDc_of {tg : Tg} {it : It} {ts : Exs} {ke e : Ex} {own : List Nat} {σ : L2.St} {H : Hp} {Q : VK} (h1 : one1 ts = true) (hix : ∀ i ∈ tg.ixs, i ∈ own) (h : tF G ((Ex.dc own tg it ts ke e).ev P) σ H Q) :
    tDc (tI G false (it.ev P)) (gT G.K tg) (tts P G ts) (tE G (relS G) (ke.ev P)) (tE G (relS G) (e.ev P)) own σ H Q := by
  obtain ⟨B, env, st, ρ, d, st', rs, re, ev, k⟩ := h
  unfold Ex.ev at ev
  obtain ⟨xs, st1, e1, ev⟩ := Res.bind_eq ev
  obtain ⟨ys, st2, e2, e3⟩ := Res.bind_eq ev
  obtain ⟨g3, rfl⟩ := ofOpt_eq e3
  obtain ⟨ps, hys, hsk, hl, rfl⟩ := dcOf_eq g3
  have e2 := noExc_eq e2
  refine ⟨B, env, st, ρ, xs, st1, rs, re, e1, fun J ρ1 H1 sp1 rs1 walk L hD => ?_⟩
  have hDn := fresh_notin rs1 hD
  generalize hf : (fun (x : D) (st : Store) => (match tg.put x (wipeE env own) with
      | some env1 => (ts.all P env1 st).bind fun t st2 => if t then (ke.ev P env1 st2).bind fun kd st3 => (e.ev P env1 st3).bind fun y st4 => .ok [.tup [kd, y]] st4 else .ok [] st2
      | none => .stuck : Res (List D))) = f at e2
  have re1 := (re.stp rs.mt rs.off sp1).block (p := L) (o := .dK []) rs1.mt hD
  have rs1' := rs1.block (p := L) (o := .dK []) hD True.intro
  refine ⟨fun i m H2 => ∃ ρ2 sti qs kvs rest, m = xs.length - i ∧ i ≤ xs.length ∧ lcLoop f (xs.drop i) sti = .ok rest st' ∧ ys = qs.map (fun p => D.tup [p.1, p.2]) ++ rest ∧ Stp ρ1 H1 ρ2 H2 ∧ RS (G := G) (L :: B) sti ρ2 H2 ∧ RE (G := G) (L :: B) env ρ2 σ H2 ∧ H2 L = some (.dK kvs) ∧ KR G (ρ2 ++ L :: B) ρ2 H2 (dputs [] [] qs).1 (dputs [] [] qs).2 kvs, ?_, ?_⟩
  · exact ⟨xs.length, ρ1, st1, [], [], ys, by simp, Nat.zero_le _, by simpa using e2, rfl, Stp.laid hD, rs1', re1, upd_same, KR.nil⟩
  · rintro i m H2 ⟨ρ2, sti, qs, kvs, rest, rfl, hi, hlp, hyq, sp2, rs2, re2, hD2, hacc⟩
    have wk := walk (ρ2 ++ L :: B) ρ2 H2 (fun a o ea n => sp2.pres a o ea n) (fun a o ea n z => (of_cons z).elim (fun q => ne_of_none ea hD q) fun z => stp_out (B := B) sp2 a o ea n z) sp2.refs rs2.mt
    by_cases hlt : i < xs.length
    · have hx : xs[i]? = some xs[i] := List.getElem?_eq_getElem hlt
      obtain ⟨go, yld⟩ := wk.1 i _ hx
      rw [List.drop_eq_getElem_cons hlt] at hlp
      obtain ⟨r, st3, zs, f1, f2, rfl⟩ := lcLoop_cons hlp
      rw [← hf] at f1
      obtain ⟨env1, t, st4, p1, p2, p3⟩ := turn_inv f1
      refine .inr ⟨go, fun H' => ∃ ρ5 qs5 kvs5, Stp ρ1 H1 ρ5 H' ∧ RS (G := G) (L :: B) st3 ρ5 H' ∧ RE (G := G) (L :: B) env ρ5 σ H' ∧ H' L = some (.dK kvs5) ∧ KR G (ρ5 ++ L :: B) ρ5 H' (dputs [] [] qs5).1 (dputs [] [] qs5).2 kvs5 ∧ qs5.map (fun p => D.tup [p.1, p.2]) = qs.map (fun p => D.tup [p.1, p.2]) ++ r, ?_, ?_⟩
      · rintro H' ⟨ρ5, qs5, kvs5, s5, r5, re5, d5, a5, hq5⟩
        exact ⟨xs.length - (i + 1), by omega, ρ5, st3, qs5, kvs5, zs, rfl, hlt, f2, by rw [hq5, hyq, List.append_assoc], s5, r5, re5, d5, a5⟩
      · intro v H3 y
        obtain ⟨sm, hv⟩ := yld v H3 y
        have rs3 := rs2.same sm
        have re3 := re2.stp rs2.mt rs2.off (same_stp sm)
        refine put_ok tg _ v _ env1 _ _ p1 (re_wipe re3 own) hv fun σ2 reσ wσ => ⟨by rw [wσ own hix, wipe_idem], ?_⟩
        refine tts_ok h1 rs3 reσ p2 fun ρ4 H4 sp4 rs4 => ?_
        have sp24 : Stp ρ2 H2 ρ4 H4 := (same_stp sm).trans sp4
        have re4 := re2.stp rs2.mt rs2.off sp24
        have hD4 : H4 L = some (.dK kvs) := sp24.pres L _ hD2 (rs2.off L List.mem_cons_self)
        have hacc4 := hacc.keep fun z => z.stp rs2.mt sp24
        rcases p3 with ⟨rfl, p3⟩ | ⟨rfl, rfl, rfl⟩
        · rw [if_pos rfl]
          obtain ⟨kd, st5, q0, p4⟩ := Res.bind_eq p3
          obtain ⟨yv, st6, q1, q2⟩ := Res.bind_eq p4
          cases q2
          refine ⟨L :: B, env1, st4, ρ4, kd, st5, rs4, reσ.stp rs3.mt rs3.off sp4, q0, fun kw ρ6 H6 sp6 rs6 q6 => ?_⟩
          refine ⟨L :: B, env1, st5, ρ6, yv, st3, rs6, (reσ.stp rs3.mt rs3.off sp4).stp rs4.mt rs4.off sp6, q1, fun w ρ5 H5 sp5 rs5 q5 => ?_⟩
          have hD5 : H5 L = some (.dK kvs) := sp5.pres L _ (sp6.pres L _ hD4 (rs4.off L List.mem_cons_self)) (rs6.off L List.mem_cons_self)
          have hacc5 := (hacc4.keep fun z => z.stp rs4.mt sp6).keep fun z => z.stp rs6.mt sp5
          have re5 := (re4.stp rs4.mt rs4.off sp6).stp rs6.mt rs6.off sp5
          have hDm : L ∈ ρ5 ++ L :: B := List.mem_append_right _ List.mem_cons_self
          have hks : kd.skey = true := by
            rw [hys] at hyq
            have e6 : ps.map (fun p => D.tup [p.1, p.2]) = (qs.map (fun p => D.tup [p.1, p.2]) ++ [D.tup [kd, yv]]) ++ zs := by rw [hyq, List.append_assoc]
            have : D.tup [kd, yv] ∈ ps.map (fun p => D.tup [p.1, p.2]) := by rw [e6]; simp
            obtain ⟨p, hp, ep⟩ := List.mem_map.mp this
            cases ep
            exact List.all_eq_true.mp hsk _ (List.mem_map.mpr ⟨p, hp, rfl⟩)
          have hkv : kw = kV kd.dkey := by
            cases kd <;> simp [D.skey] at hks <;> exact q6
          refine ⟨kvs, kd.dkey, hkv, hD5, ?_, ρ5, qs ++ [(kd, yv)], putK kvs kd.dkey w, ?_, rs5.chg List.mem_cons_self True.intro, ?_, upd_same, ?_, by simp⟩
          · have l1 := hacc5.len
            have l2 := dputs_len qs [] []
            rw [hyq] at hl
            simp only [List.length_append, List.length_cons, List.length_nil, List.length_map] at hl l2
            rw [← lim_line]
            omega
          · have s3 := (sp2.trans sp24).trans (sp6.trans sp5)
            exact ⟨fun a o ea n => by rw [upd_ne (fun z => ne_of_none ea hD z)]; exact s3.pres a o ea n, s3.out, s3.refs⟩
          · refine ⟨re5.len, fun j dj ej => ?_, fun j dj ej => ?_⟩
            · obtain ⟨u, g1, g2⟩ := re5.fre j dj ej
              exact ⟨u, g1, g2.chg rs5.mt hDm⟩
            · obtain ⟨a, g1, g2, g3⟩ := re5.own j dj ej
              by_cases haD : a = L
              · subst haD
                obtain ⟨b0, y1, y2, y3⟩ := (re.stp rs.mt rs.off sp1).own j dj ej
                exfalso
                rw [g1] at y1
                cases y1
                exact hDn (List.mem_append_right _ y2)
              · exact ⟨a, g1, g2, DW.keep rs5.mt (fun b u eb n => by rw [upd_ne (fun z => n (by rw [z]; exact hDm))]; exact eb) (fun _ _ _ n => n) (fun _ _ h => h) (fun u eb => by rw [upd_ne haD]; exact eb) g3⟩
          · rw [dputs_snoc]
            exact KR.put (hacc5.keep fun z => z.chg rs5.mt hDm) hks (DV.chg rs5.mt hDm q5)
        · rw [if_neg (by simp)]
          exact ⟨ρ4, qs, kvs, sp2.trans sp24, rs4, re4, hD4, hacc4, by simp⟩
    · have hie : i = xs.length := by omega
      subst hie
      refine .inl ⟨wk.2 _ (Nat.le_refl _), ?_⟩
      rw [List.drop_length] at hlp
      unfold lcLoop at hlp
      cases hlp
      rw [List.append_nil, hys] at hyq
      have hpq : ps = qs := by
        have inj : ∀ a b : D × D, D.tup [a.1, a.2] = D.tup [b.1, b.2] → a = b := by
          rintro ⟨a1, a2⟩ ⟨b1, b2⟩ z
          simp at z
          rw [z.1, z.2]
        exact map_inj_of inj hyq
      subst hpq
      have hB : L ∉ B := fun z => hDn (List.mem_append_right _ z)
      rw [← drp_upd hD2]
      have hH : H L = none := by
        cases hq : H L with
        | none => rfl
        | some o =>
          exfalso
          by_cases hρ : L ∈ ρ
          · obtain ⟨n, hn⟩ := List.getElem?_of_mem hρ
            exact hDn (List.mem_append_left _ (List.mem_of_getElem? (sp1.refs n L hn)))
          · exact ne_of_none (sp1.pres L o hq hρ) hD rfl
      exact k L ρ2 (drp H2 L) _ ((sp1.trans sp2).drop hH) (rs2.drop hB) drp_same ⟨kvs, rfl, hacc.keep fun z => z.drop' rs2.mt⟩

/-! ### {k: v, ..} with constants for keys -/
def exLit : Ex → Option D
  | .lit d => some d
  | _ => none
theorem exLit_ev {e : Ex} {d : D} {env : Env} {st : Store} (h : exLit e = some d) : e.ev P env st = .ok d st := by
  cases e <;> simp [exLit] at h
  subst h
  simp only [Ex.ev]
/-- the keys -/
def litKeys : Exs → List (Option Expr) → Option (List D)
  | .nil, [] => some []
  | .cons e es, some (.Constant c _ _) :: xs => (exLit e).bind fun d => if litOk c d && d.skey then (litKeys es xs).map (d :: ·) else none
  | _, _ => none
theorem litKeys_cons {e : Ex} {es : Exs} {xs : List (Option Expr)} {kd : List D} (h : litKeys (.cons e es) xs = some kd) : ∃ c j p xs' d kd', xs = some (.Constant c j p) :: xs' ∧ exLit e = some d ∧ litOk c d = true ∧ d.skey = true ∧ litKeys es xs' = some kd' ∧ kd = d :: kd' := by
  unfold litKeys at h
  split at h
  · rename_i heq; cases heq
  · rename_i e' es' c j p xs' heq
    cases heq
    obtain ⟨d, h1, h2⟩ := Option.bind_eq_some_iff.mp h
    split at h2
    · rename_i ok
      rw [Bool.and_eq_true] at ok
      obtain ⟨r, hr, rfl⟩ := Option.map_eq_some_iff.mp h2
      exact ⟨c, j, p, xs', d, r, rfl, h1, ok.1, ok.2, hr, rfl⟩
    · cases h2
  · cases h
theorem litKeys_nil {xs : List (Option Expr)} {kd : List D} (h : litKeys .nil xs = some kd) : xs = [] ∧ kd = [] := by
  unfold litKeys at h
  split at h
  · cases h; exact ⟨rfl, rfl⟩
  · rename_i heq; cases heq
  · cases h
theorem litKeys_star {e : Ex} {es : Exs} {xs : List (Option Expr)} : litKeys (.star e es) xs = none := by
  unfold litKeys
  rfl
theorem lits_ev : ∀ {es : Exs} {xs : List (Option Expr)} {kd : List D} {env : Env} {st : Store}, litKeys es xs = some kd → es.ev P env st = .ok kd st
  | .nil, xs, kd, env, st, h => by
    obtain ⟨_, rfl⟩ := litKeys_nil h
    simp only [Exs.ev]
  | .cons e es, xs, kd, env, st, h => by
    obtain ⟨c, j, p, xs', d, kd', rfl, h1, _, _, h2, rfl⟩ := litKeys_cons h
    simp only [Exs.ev]
    rw [exLit_ev h1, Res.bind_ok, lits_ev h2]
    rfl
  | .star e es, xs, kd, env, st, h => by rw [litKeys_star] at h; cases h
theorem litKeys_skey : ∀ {es : Exs} {xs : List (Option Expr)} {kd : List D}, litKeys es xs = some kd → kd.all D.skey = true ∧ kd.length = xs.length ∧ xs.all (·.isSome) = true
  | .nil, xs, kd, h => by
    obtain ⟨rfl, rfl⟩ := litKeys_nil h
    exact ⟨rfl, rfl, rfl⟩
  | .cons e es, xs, kd, h => by
    obtain ⟨c, j, p, xs', d, kd', rfl, h1, _, hs, h2, rfl⟩ := litKeys_cons h
    obtain ⟨i1, i2, i3⟩ := litKeys_skey h2
    exact ⟨by simp [hs, i1], by simp [i2], by simpa using i3⟩
  | .star e es, xs, kd, h => by rw [litKeys_star] at h; cases h
def litV : D → V
  | .int i => .int i
  | .str s => .str s
  | _ => .non
theorem litV_key {d : D} (h : d.skey = true) : litV d = kV d.dkey := by
  cases d <;> simp [D.skey] at h <;> rfl
theorem pe_litC {c : Const} {d : D} {j : Nat} {pos : Pos} (h : litOk c d = true) (hs : d.skey = true) : PE X (.Constant c j pos) (tC (litV d)) := by
  cases c <;> cases d <;> simp only [litOk, Bool.false_eq_true, beq_iff_eq, decide_eq_true_eq] at h <;> simp [D.skey] at hs
  · subst h; exact pe_int
  · subst h; exact pe_str
/-- the values of a display -/
inductive PVs (G : Gx) (X : Cx) (P : Par) : List Expr → Exs → Prop where
  | nil : PVs G X P [] .nil
  | cons {x : Expr} {e : Ex} {xs : List Expr} {es : Exs} : PES G X P x e → PVs G X P xs es → PVs G X P (x :: xs) (.cons e es)
theorem PVs.len {xs : List Expr} {es : Exs} (h : PVs G X P xs es) {env : Env} {st st' : Store} {ds : List D} (e : es.ev P env st = .ok ds st') : ds.length = xs.length := by
  induction h generalizing st ds with
  | nil => simp only [Exs.ev] at e; cases e; rfl
  | cons h1 h2 ih =>
    simp only [Exs.ev] at e
    obtain ⟨d, st1, e1, e⟩ := Res.bind_eq e
    obtain ⟨ds', st2, e2, e⟩ := Res.bind_eq e
    cases e
    simp [ih e2]
theorem disp_pairs : ∀ {keys : List (Option Expr)} {ks : Exs} {values : List Expr} {vs : Exs} {kd : List D}, litKeys ks keys = some kd → PVs G X P values vs → keys.length = values.length → ∀ {pos : Pos},
    ∃ trs, PPs X pos keys values trs ∧ ∀ (B : List Addr) (env : Env) (st st' : Store) (ρ : List Addr) (σ : L2.St) (H : Hp) (vd : List D) (R : List (V × V) → Hp → Prop), RS (G := G) B st ρ H → RE (G := G) B env ρ σ H → vs.ev P env st = .ok vd st' →
      (∀ vv ρ' H', Stp ρ H ρ' H' → RS (G := G) B st' ρ' H' → DVs G (ρ' ++ B) ρ' H' vd vv → R ((kd.map litV).zip vv) H') → tPairs trs σ H R
  | _, .nil, values, vs, kd, h, pv, hl => by
    obtain ⟨rfl, rfl⟩ := litKeys_nil h
    cases values with
    | cons _ _ => simp at hl
    | nil =>
      cases pv
      refine ⟨[], pps_nil, fun B env st st' ρ σ H vd R rs re e k => ?_⟩
      simp only [Exs.ev] at e
      cases e
      exact k [] ρ H (Stp.refl _ _) rs rfl
  | _, .cons e es, values, vs, kd, h, pv, hl => by
    obtain ⟨c, j, p, xs', d, kd', rfl, h1, h2, h3, h4, rfl⟩ := litKeys_cons h
    cases pv with
    | nil => simp at hl
    | @cons x e' xs es' pe pv =>
      obtain ⟨trs, i1, i2⟩ := disp_pairs h4 pv (by simpa using hl)
      refine ⟨_, pps_cons (pe_litC h2 h3) pe i1, fun B env st st' ρ σ H vd R rs re ev k => ?_⟩
      simp only [Exs.ev] at ev
      obtain ⟨y, st1, e1, ev⟩ := Res.bind_eq ev
      obtain ⟨ys, st2, e2, ev⟩ := Res.bind_eq ev
      cases ev
      refine ⟨B, env, st, ρ, y, st1, rs, re, e1, fun v ρ1 H1 sp1 rs1 q1 => ?_⟩
      refine i2 B env st1 _ ρ1 σ H1 ys _ rs1 (re.stp rs.mt rs.off sp1) e2 fun vv ρ2 H2 sp2 rs2 q2 => ?_
      exact k (v :: vv) ρ2 H2 (sp1.trans sp2) rs2 (.cons (DV.stp rs1.mt sp2 q1) q2)
  | _, .star e es, values, vs, kd, h, pv, hl => by rw [litKeys_star] at h; cases h
theorem kr_merge {M ρ : List Addr} {H : Hp} : ∀ {kd vd : List D} {vv : List V} {ks vs : List D} {kvs : List (L2.Key × V)}, kd.all D.skey = true → kd.length = vd.length → DVs G M ρ H vd vv → KR G M ρ H ks vs kvs →
    KR G M ρ H (dputs ks vs (kd.zip vd)).1 (dputs ks vs (kd.zip vd)).2 (mergeK kvs ((kd.map D.dkey).zip vv))
  | [], vd, vv, ks, vs, kvs, _, hl, _, r => by
    cases vd with
    | cons _ _ => simp at hl
    | nil => exact r
  | k :: kd, [], _, _, _, _, _, hl, _, _ => by simp at hl
  | k :: kd, d :: vd, vv, ks, vs, kvs, hs, hl, h, r => by
    obtain ⟨v, vv', rfl, h1, h2⟩ := h
    simp only [List.all_cons, Bool.and_eq_true] at hs
    have := kr_merge (kd := kd) (vd := vd) hs.2 (by simpa using hl) h2 (r.put hs.1 h1)
    exact this
theorem pe_dispD {keys : List (Option Expr)} {values : List Expr} {ks vs : Exs} {kd : List D} {pos : Pos} (hk : litKeys ks keys = some kd) (pv : PVs G X P values vs) (hl : keys.length = values.length) (h0 : keys ≠ []) (h15 : keys.length ≤ 15) : PEF G X P (.Dict keys values pos) (.dict ks vs) := by
  obtain ⟨trs, pp, tr⟩ := disp_pairs hk pv hl (pos := pos)
  obtain ⟨s1, s2, s3⟩ := litKeys_skey hk
  refine PE_imp (pe_disp pp s3 hl h0 h15) fun σ H Q ⟨B, env, st, ρ, d, st', rs, re, ev, k⟩ p hp => ?_
  unfold Ex.ev at ev
  obtain ⟨kd2, st1, e1, ev⟩ := Res.bind_eq ev
  rw [lits_ev hk] at e1
  cases e1
  obtain ⟨vd, st2, e2, e3⟩ := Res.bind_eq ev
  obtain ⟨g3, rfl⟩ := ofOpt_eq e3
  split at g3
  · rename_i ok
    cases g3
    have hlen : kd.length = vd.length := by rw [s2, pv.len e2, hl]
    have fn := fresh_notin rs hp
    have rs0 := rs.block (p := p) (o := .dK []) hp True.intro
    have re0 := re.block (p := p) (o := .dK []) rs.mt hp
    refine tr (p :: B) env st st' ρ σ _ vd _ rs0 re0 e2 fun vv ρ1 H1 sp1 rs1 q1 => ?_
    have hp1 : H1 p = some (.dK []) := sp1.pres p _ upd_same (rs0.off p List.mem_cons_self)
    have hlv := q1.length
    refine ⟨hp1, (kd.map D.dkey).zip vv, ?_, ?_, ?_⟩
    · have gen : ∀ (kd : List D) (vv : List V), kd.all D.skey = true → (kd.map litV).zip vv = ((kd.map D.dkey).zip vv).map fun kv => (kV kv.1, kv.2) := by
        intro kd
        induction kd with
        | nil => intro vv _; rfl
        | cons a kd ih =>
          intro vv hs
          simp only [List.all_cons, Bool.and_eq_true] at hs
          cases vv with
          | nil => rfl
          | cons v vv => simp [litV_key hs.1, ih vv hs.2]
      exact gen kd vv s1
    · rw [List.length_zip, List.length_map, s2]
      omega
    · have hDm : p ∈ ρ1 ++ p :: B := List.mem_append_right _ List.mem_cons_self
      have hB : p ∉ B := fun z => fn (List.mem_append_right _ z)
      have rs2 := (rs1.chg (p := p) (o := .dK (mergeK [] ((kd.map D.dkey).zip vv))) List.mem_cons_self True.intro)
      have e4 : upd H1 p (.dK (mergeK [] ((kd.map D.dkey).zip vv))) = upd (drp H1 p) p (.dK (mergeK [] ((kd.map D.dkey).zip vv))) := by
        funext b
        unfold upd drp
        by_cases q : b = p
        · rw [if_pos q, if_pos q]
        · rw [if_neg q, if_neg q, if_neg q]
      rw [e4]
      have s0 : Stp ρ H ρ (upd H p (.dK [])) := Stp.laid hp
      refine k p ρ1 (drp H1 p) _ ((s0.trans sp1).drop hp) (rs1.drop hB) drp_same ⟨_, rfl, ?_⟩
      exact (kr_merge (G := G) s1 hlen q1 KR.nil).keep fun z => z.drop' rs1.mt
  · cases g3
end
end Dp
set_option Elab.async false
set_option linter.all false
set_option maxRecDepth 100000
set_option maxHeartbeats 4000000
/-! Dp14: calls of built-in functions, of defs; ranges. -/
namespace Dp
open PySem PySem.Spec PyProof.Rows L2 PySem.W PySem.SeqAt

section
variable {G : Gx} {X : Cx} {P : Par}
def biName : Bi → Str
  | .len => "len"
  | .sum => "sum"
  | .all => "all"
  | .any => "any"
  | .tuple => "tuple"
  | .list => "list"
  | .sorted => "sorted"
  | .dict => "dict"
  | .repr => "repr"
  | .int => "int"
  | .min1 => "min"
  | .max1 => "max"
  | .min2 => "min"
  | .max2 => "max"
  | _ => "isinstance"
def biPlain : Bi → Bool
  | .len => true
  | .sum => true
  | .all => true
  | .any => true
  | .tuple => true
  | .list => true
  | .sorted => true
  | .dict => true
  | .repr => true
  | .int => true
  | .min1 => true
  | .max1 => true
  | .min2 => true
  | .max2 => true
  | _ => false
def tBi (G : Gx) (P : Par) (b : Bi) (es : Exs) : TE := tE G (relS G) ((Ex.prim (.bi b) es).ev P)
theorem bi_tr {b : Bi} {es : Exs} {f : Store → List D → Option D} (hf : ∀ st ds, biEv st b ds = f st ds) {σ : L2.St} {H : Hp} {Q : VK} (h : tBi G P b es σ H Q) : tCB (rBi G f) (tAs G (relsW G) (es.ev P)) σ H Q := by
  obtain ⟨B, env, st, ρ, d, st', rs, re, ev, k⟩ := h
  unfold Ex.ev at ev
  obtain ⟨ds, st1, e1, e2⟩ := Res.bind_eq ev
  obtain ⟨g2, rfl⟩ := ofOpt_eq e2
  refine ⟨B, env, st, ρ, ds, st', rs, re, e1, fun vs ρ1 H1 sp1 rs1 q1 => ⟨B, ρ1, st', ds, d, rs1, q1, ?_, fin_of sp1 rs1 k⟩⟩
  rw [← hf]
  exact g2
theorem pe_bi (xa : XA G X) {b : Bi} (hb : biPlain b = true) {x : Expr} {xs : List Expr} {es : Exs} {p pos : Pos} (hg : Gl X (biName b)) (hm : X.mg (biName b) = none) (ha : PA X (x :: xs) (tAs G (relsW G) (es.ev P)))
    (na : starEach (x :: xs) X.env = (false, eval x X.env) :: starEach xs X.env) (hpl : (backTo pos (starEach xs X.env)).any (·.1) = false) : PES G X P (.Call (.Name (biName b) p) (x :: xs) [] pos) (.prim (.bi b) es) := by
  cases b <;> first | (cases hb; done) | skip
  · exact PE_imp (pe_callB (len_ok xa) hg hm PySem.boot_len ha (by decide +kernel) (by decide +kernel) na hpl) fun σ H Q h => bi_tr (fun _ _ => rfl) h
  · exact PE_imp (pe_callB (sum_ok xa) hg hm boot_sum ha (by decide +kernel) (by decide +kernel) na hpl) fun σ H Q h => bi_tr (fun _ _ => rfl) h
  · exact PE_imp (pe_callB (all_ok xa) hg hm boot_all ha (by decide +kernel) (by decide +kernel) na hpl) fun σ H Q h => bi_tr (fun _ _ => rfl) h
  · exact PE_imp (pe_callB (any_ok xa) hg hm boot_any ha (by decide +kernel) (by decide +kernel) na hpl) fun σ H Q h => bi_tr (fun _ _ => rfl) h
  · exact PE_imp (pe_callTy (tuple_ok xa) hg hm boot_tuple ha (by decide +kernel) (by decide +kernel) na hpl) fun σ H Q h => bi_tr (fun _ _ => rfl) h
  · exact PE_imp (pe_callTy (listd_ok xa) hg hm boot_list ha (by decide +kernel) (by decide +kernel) na hpl) fun σ H Q h => bi_tr (fun _ _ => rfl) h
  · exact PE_imp (pe_callB (sorted_ok xa) hg hm boot_sorted ha (by decide +kernel) (by decide +kernel) na hpl) fun σ H Q h => bi_tr (fun _ _ => rfl) h
  · exact PE_imp (pe_callTy (dict_ok xa) hg hm boot_dict ha (by decide +kernel) (by decide +kernel) na hpl) fun σ H Q h => bi_tr (fun _ _ => rfl) h
  · exact PE_imp (pe_callB (repr_ok xa) hg hm boot_repr ha (by decide +kernel) (by decide +kernel) na hpl) fun σ H Q h => bi_tr (fun _ _ => rfl) h
  · exact PE_imp (pe_callTy (int_ok xa) hg hm boot_int ha (by decide +kernel) (by decide +kernel) na hpl) fun σ H Q h => bi_tr (fun _ _ => rfl) h
  · exact PE_imp (pe_callB (min1_ok xa) hg hm boot_min ha (by decide +kernel) (by decide +kernel) na hpl) fun σ H Q h => bi_tr (fun _ _ => rfl) h
  · exact PE_imp (pe_callB (max1_ok xa) hg hm boot_max ha (by decide +kernel) (by decide +kernel) na hpl) fun σ H Q h => bi_tr (fun _ _ => rfl) h
  · exact PE_imp (pe_callB (min2_ok xa) hg hm boot_min ha (by decide +kernel) (by decide +kernel) na hpl) fun σ H Q h => bi_tr (fun _ _ => rfl) h
  · exact PE_imp (pe_callB (max2_ok xa) hg hm boot_max ha (by decide +kernel) (by decide +kernel) na hpl) fun σ H Q h => bi_tr (fun _ _ => rfl) h

/-! ### isinstance -/
def isName : Bi → Option (String × Str)
  | .isint => some ("int", "int")
  | .isbool => some ("bool", "bool")
  | .istup => some ("tuple", "tuple")
  | .isstr => some ("str", "str")
  | _ => none
theorem isi_call (xa : XA G X) (T : String) (f : String → Bool) (hf : ∀ t ∈ ["NoneType", "bool", "int", "str", "tuple", "list", "dict"], kitB t T = some (f t)) :
    CallR X (.builtin "isinstance") (fun vs H Q => ∃ B ρ st d r v, vs = [v, .ty T] ∧ RS (G := G) B st ρ H ∧ DB G B ρ H d v ∧ (d.tyn.map fun t => D.bl (f t)) = some r ∧ Fin G B ρ H Q r) := by
  intro pins s σ H vs us Q I r h
  obtain ⟨B, ρ, st, d, r', v, rfl, rs, hd, hr, fin⟩ := h
  obtain ⟨u, u2, rfl, r1, r2⟩ := vals2 r
  cases r2
  exact isi_ok xa T f hf I rs hd r1 hr fin
theorem pe_isi (xa : XA G X) {b : Bi} {T : String} {n : Str} (hb : isName b = some (T, n)) {x : Expr} {e : Ex} {p p2 pos : Pos} (hg : Gl X "isinstance") (hm : X.mg "isinstance" = none) (hg2 : Gl X n) (hm2 : X.mg n = none) (he : PEW G X P x e)
    (na : starEach [x, .Name n p2] X.env = (false, eval x X.env) :: starEach [.Name n p2] X.env) : PES G X P (.Call (.Name "isinstance" p) [x, .Name n p2] [] pos) (.prim (.bi b) (.cons e .nil)) := by
  have go : ∀ (f : String → Bool), (∀ t ∈ ["NoneType", "bool", "int", "str", "tuple", "list", "dict"], kitB t T = some (f t)) → (∀ st ds, biEv st b ds = isEv f st ds) → bootBuiltins n = some (.type T) → n ≠ "__name__" → (n == ("__debug__" : Str)) = false → PES G X P (.Call (.Name "isinstance" p) [x, .Name n p2] [] pos) (.prim (.bi b) (.cons e .nil)) := by
    intro f hf hbi hv hn hdb
    refine PE_imp (pe_callB (isi_call xa T f hf) hg hm boot_isinstance (pa_cons he (pa_cons (pe_bltn hg2 hm2 hv (v := .ty T) rfl hn hdb) pa_nil rfl) na) (by decide +kernel) (by decide +kernel) na rfl) fun σ H Q h => ?_
    obtain ⟨B, env, st, ρ, d, st', rs, re, ev, k⟩ := h
    obtain ⟨u, e1, e2⟩ := prim1_inv ev
    have e2 : biEv st' b [u] = some d := e2
    rw [hbi] at e2
    exact ⟨B, env, st, ρ, u, st', rs, re, e1, fun v ρ1 H1 sp1 rs1 q1 => ⟨B, ρ1, st', u, d, v, rfl, rs1, q1, e2, fin_of sp1 rs1 k⟩⟩
  cases b <;> simp only [isName, Option.some.injEq, Prod.mk.injEq, reduceCtorEq] at hb
  · obtain ⟨rfl, rfl⟩ := hb
    exact go (isT .isint) (by decide +kernel) (fun _ _ => rfl) boot_int (by decide +kernel) (by decide +kernel)
  · obtain ⟨rfl, rfl⟩ := hb
    exact go (isT .isbool) (by decide +kernel) (fun _ _ => rfl) boot_bool (by decide +kernel) (by decide +kernel)
  · obtain ⟨rfl, rfl⟩ := hb
    exact go (isT .istup) (by decide +kernel) (fun _ _ => rfl) boot_tuple (by decide +kernel) (by decide +kernel)
  · obtain ⟨rfl, rfl⟩ := hb
    exact go (isT .isstr) (by decide +kernel) (fun _ _ => rfl) boot_str (by decide +kernel) (by decide +kernel)

/-! ### tuple(range(..)), list(range(..)) -/
theorem dvs_rng {M ρ : List Addr} {H : Hp} (i j : Int) : DVs G M ρ H (rngD i j) (rgV i j) := by
  have gen : ∀ (n : Nat) (i : Int), DVs G M ρ H (rngFrom i n) ((List.range n).map fun k => V.int (i + (k : Nat))) := by
    intro n
    induction n with
    | zero => intro i; exact rfl
    | succ n ih =>
      intro i
      rw [List.range_succ_eq_map, List.map_cons, List.map_map]
      refine .cons (show V.int (i + ((0 : Nat) : Int)) = .int i by simp) ?_
      have : ((fun k : Nat => V.int (i + (k : Int))) ∘ Nat.succ) = fun k : Nat => V.int ((i + 1) + (k : Nat)) := by
        funext k
        show V.int (i + ((k + 1 : Nat) : Int)) = _
        congr 1
        omega
      rw [this]
      exact ih (i + 1)
  exact gen _ _
theorem rngx_inv {t : Bool} {d d' r : D} (h : rngxE t d d' = some r) : ∃ i j, d = .int i ∧ d' = .int j ∧ RgOk i j ∧ (rngD i j).length ≤ LIM ∧ r = (if t then .tup (rngD i j) else .lst (rngD i j)) := by
  unfold rngxE at h
  split at h
  · rename_i i j
    split at h
    · rename_i ok
      simp only [Bool.and_eq_true, decide_eq_true_eq] at ok
      obtain ⟨o1, o2⟩ := okR_iff ok.1.1
      obtain ⟨o3, o4⟩ := okR_iff ok.1.2
      have hl : LIM = 2 ^ 24 := by decide
      have len : ∀ (n : Nat) (lo : Int), (rngFrom lo n).length = n := by
        intro n
        induction n with
        | zero => intro lo; rfl
        | succ n ih => intro lo; simp [rngFrom, ih]
      cases h
      exact ⟨i, j, rfl, rfl, ⟨o1, o2, o3, o4, by rw [← hl]; exact ok.2⟩, by unfold rngD; rw [len]; exact ok.2, rfl⟩
    · cases h
  · cases h
/-- range(..) inside -/
def tRx (G : Gx) (P : Par) (a b : Ex) : L2.St → Hp → (Int → Int → Hp → Prop) → Prop := fun σ H Q => ∃ B env st ρ i j st1 st', RS (G := G) B st ρ H ∧ RE (G := G) B env ρ σ H ∧ a.ev P env st = .ok (.int i) st1 ∧ b.ev P env st1 = .ok (.int j) st' ∧ ∀ ρ' H', Stp ρ H ρ' H' → RS (G := G) B st' ρ' H' → Q i j H'
theorem prg_one {x : Expr} {b : Ex} {p pos : Pos} (hg : Gl X "range") (hm : X.mg "range" = none) (hb : PES G X P x b) (na : starEach [x] X.env = (false, eval x X.env) :: starEach [] X.env) : PRg X (.Call (.Name "range" p) [x] [] pos) (tRx G P (.lit (.int 0)) b) := by
  intro pins s σ H Q I h
  refine prg_1 hg hm hb na pins s σ H Q I ?_
  obtain ⟨B, env, st, ρ, i, j, st1, st', rs, re, e1, e2, k⟩ := h
  unfold Ex.ev at e1
  cases e1
  exact ⟨B, env, st, ρ, _, st', rs, re, e2, fun v ρ1 H1 sp1 rs1 q1 => ⟨j, q1, k ρ1 H1 sp1 rs1⟩⟩
theorem prg_two {x y : Expr} {a b : Ex} {p pos : Pos} (hg : Gl X "range") (hm : X.mg "range" = none) (ha : PES G X P x a) (hb : PES G X P y b) (na : starEach [x, y] X.env = (false, eval x X.env) :: starEach [y] X.env) (nb : starEach [y] X.env = (false, eval y X.env) :: starEach [] X.env) :
    PRg X (.Call (.Name "range" p) [x, y] [] pos) (tRx G P a b) := by
  intro pins s σ H Q I h
  refine prg_2 hg hm ha hb na nb (by rw [nb]; rfl) pins s σ H Q I ?_
  obtain ⟨B, env, st, ρ, i, j, st1, st', rs, re, e1, e2, k⟩ := h
  exact ⟨B, env, st, ρ, _, st1, rs, re, e1, fun v ρ1 H1 sp1 rs1 q1 => ⟨B, env, st1, ρ1, _, st', rs1, re.stp rs.mt rs.off sp1, e2, fun w ρ2 H2 sp2 rs2 q2 => ⟨i, j, q1, q2, k ρ2 H2 (sp1.trans sp2) rs2⟩⟩⟩
theorem pe_rngxT (xa : XA G X) {y : Expr} {a b : Ex} {o : Bool} {p pos : Pos} (hg : Gl X "tuple") (hm : X.mg "tuple" = none) (h : PRg X y (tRx G P a b)) (na : starEach [y] X.env = (false, eval y X.env) :: starEach [] X.env) : PES G X P (.Call (.Name "tuple" p) [y] [] pos) (.rngx true o a b) :=
  PE_imp (pe_tupRg xa.calm hg hm h na) fun σ H Q ⟨B, env, st, ρ, d, st', rs, re, ev, k⟩ => by
    unfold Ex.ev at ev
    obtain ⟨u, st1, e1, ev⟩ := Res.bind_eq ev
    obtain ⟨v, st2, e2, e3⟩ := Res.bind_eq ev
    obtain ⟨g3, rfl⟩ := ofOpt_eq e3
    obtain ⟨i, j, rfl, rfl, ok, hl, rfl⟩ := rngx_inv g3
    exact ⟨B, env, st, ρ, i, j, st1, st', rs, re, e1, e2, fun ρ1 H1 sp1 rs1 => ⟨ok, fun q hq => Fin.tup rs1 (fin_of sp1 rs1 k) (dvs_rng i j) hq⟩⟩
theorem pe_rngxL (xa : XA G X) {y : Expr} {a b : Ex} {o : Bool} {p pos : Pos} (hg : Gl X "list") (hm : X.mg "list" = none) (h : PRg X y (tRx G P a b)) (na : starEach [y] X.env = (false, eval y X.env) :: starEach [] X.env) : PES G X P (.Call (.Name "list" p) [y] [] pos) (.rngx false o a b) :=
  PE_imp (pe_listRg xa.calm hg hm h na) fun σ H Q ⟨B, env, st, ρ, d, st', rs, re, ev, k⟩ => by
    unfold Ex.ev at ev
    obtain ⟨u, st1, e1, ev⟩ := Res.bind_eq ev
    obtain ⟨v, st2, e2, e3⟩ := Res.bind_eq ev
    obtain ⟨g3, rfl⟩ := ofOpt_eq e3
    obtain ⟨i, j, rfl, rfl, ok, hl, rfl⟩ := rngx_inv g3
    exact ⟨B, env, st, ρ, i, j, st1, st', rs, re, e1, e2, fun ρ1 H1 sp1 rs1 => ⟨ok, fun q hq => Fin.lst rs1 (fin_of sp1 rs1 k) (dvs_rng i j) hq⟩⟩

/-! ### a def of the module -/
def rCall (G : Gx) (P : Par) (f : Nat) : List V → Hp → VK → Prop := fun vs H Q => ∃ B st ρ ds d st', RS (G := G) B st ρ H ∧ DVs G (ρ ++ B) ρ H ds vs ∧ P.call f ds st = .ok d st' ∧ ∀ v ρ' H', Stp ρ H ρ' H' → RS (G := G) B st' ρ' H' → DV G (ρ' ++ B) ρ' H' d v → Q v H'
theorem pe_callF {f : Nat} {a : Addr} {n : Str} {x : Expr} {xs : List Expr} {es : Exs} {p pos : Pos} (hg : Gl X n) (hm : X.mg n = some (.ref a)) (hk : PySem.W.keepIn X.K (.ref a) = true) (hc : CallR X (.ref a) (rCall G P f)) (ha : PA X (x :: xs) (tAs G (relsS G) (es.ev P)))
    (hdb : (n == ("__debug__" : Str)) = false) (na : starEach (x :: xs) X.env = (false, eval x X.env) :: starEach xs X.env) (hpl : (backTo pos (starEach xs X.env)).any (·.1) = false) : PES G X P (.Call (.Name n p) (x :: xs) [] pos) (.call f es) := by
  refine ⟨fun pins s σ H Q I h => ?_⟩
  obtain ⟨B, env, st, ρ, d, st', rs, re, ev, k⟩ := h
  unfold Ex.ev at ev
  obtain ⟨ds, st1, e1, e2⟩ := Res.bind_eq ev
  refine wpAny_Call_Name_kw (ld_glob I hg hm ?_ hdb)
  refine PySem.W.callWith_K (h₀ := X.base) I.ok.mod.kin hk (thn (ha.run pos pins s σ H (fun vs H1 => ∃ ρ1, Stp ρ H ρ1 H1 ∧ RS (G := G) B st1 ρ1 H1 ∧ DVs G (ρ1 ++ B) ρ1 H1 ds vs) I ⟨B, env, st, ρ, ds, st1, rs, re, e1, fun vs ρ1 H1 sp1 rs1 q1 => ⟨ρ1, sp1, rs1, q1⟩⟩) fun us s1 ⟨vs, H1, I1, r, ρ1, sp1, rs1, q1⟩ => ⟨I1.kIn, ?_⟩) na hpl
  exact hc pins s1 σ H1 vs us Q I1 r ⟨B, st1, ρ1, ds, d, st', rs1, q1, e2, fun v ρ2 H2 sp2 rs2 q2 => k v ρ2 H2 (sp1.trans sp2) rs2 q2⟩
theorem pe_callF0 {f : Nat} {a : Addr} {n : Str} {p pos : Pos} (hg : Gl X n) (hm : X.mg n = some (.ref a)) (hk : PySem.W.keepIn X.K (.ref a) = true) (hc : CallR X (.ref a) (rCall G P f))
    (hdb : (n == ("__debug__" : Str)) = false) : PES G X P (.Call (.Name n p) [] [] pos) (.call f .nil) := by
  refine ⟨fun pins s σ H Q I h => ?_⟩
  obtain ⟨B, env, st, ρ, d, st', rs, re, ev, k⟩ := h
  unfold Ex.ev at ev
  obtain ⟨ds, st1, e1, e2⟩ := Res.bind_eq ev
  unfold Exs.ev at e1
  cases e1
  refine wpAny_Call_Name_kw (ld_glob I hg hm ?_ hdb)
  exact PySem.W.callWith_K0 I.kIn hk (hc pins s σ H [] [] Q I .nil ⟨B, st, ρ, [], d, st', rs, rfl, e2, k⟩)
end
end Dp
set_option Elab.async false
set_option linter.all false
set_option maxRecDepth 100000
set_option maxHeartbeats 4000000
/-! Dp14r: set(list of ints). -/
namespace Dp
open PySem PySem.Spec PyProof.Rows L2

section
variable {P : Program} {w : World} {A : Around} {E : Value → Shared → Prop} {s : Shared}
set_option maxRecDepth 100000 in
set_option maxHeartbeats 3200000 in
theorem set_of_list {l : Addr} {items : Array Value} (ns : List Int) {Q : Value → Shared → Prop} (hh : A.handled = none) (hl : s.heap.IsList l items) (hit : IntsAre items.toList ns) (hb : ns.length + 1 < scanBound)
    (h : ∀ (h' : Heap) (tk c : Nat), SetR w h' s.heap.objs.size (fun j => decide (j ∈ ns)) c → c ≤ ns.length → (∀ b o, s.heap.get? b = some o → h'.get? b = some o) → Q (.ref s.heap.objs.size) { s with heap := h', toks := tk }) :
    wpAny (model P w) A (call (.type "set") [.ref l]) Q E s := by
  have hisz : items.size = ns.length := by
    have q := IntsAre.length hit
    rw [Array.length_toList] at q
    exact q
  obtain ⟨c, tl, hmro⟩ := F.called_set.mro
  have hmade := F.called_set.made
  have hsub := F.called_set.sub
  refine wpAny_call (codeAny_of_tree ?_)
  show wpAny _ _ (callAny (.type "set") _) _ _ _
  refine wpAny_pure ⟨Code.quiet_builtin _ (by decide +kernel), codeAny_builtin F.entry_type_call ?_⟩
  rw [Around.under_plain (weight_type_call_type "set" [.ref l] []) rfl]
  have h1 := F.called_set.notType
  have h2 := F.called_set.canCreate
  have hct := F.typeCall_set_1 (.ref l)
  repeat (any_goals (first | assumption | wp_step))

  refine codeAny_mono (code_set_led1 (.ref l) (E := E) (Q₁ := fun obj s₁ => obj = .ref s.heap.objs.size ∧ s₁ = { s with heap := s.heap.push { cls := .type "set", dict := none, data := .set #[] 0 (.fresh 0 0 (!w.params.followText "set-order")) } }) ⟨rfl, rfl⟩) fun r s₁ hr => ?_
  cases r with
  | error e => exact hr
  | ok fl =>
    cases fl with
    | ret obj =>
      obtain ⟨rfl, rfl⟩ := hr
      have hS : (s.heap.push { cls := .type "set", dict := none, data := .set #[] 0 (.fresh 0 0 (!w.params.followText "set-order")) }).get? s.heap.objs.size = some { cls := .type "set", dict := none, data := .set #[] 0 (.fresh 0 0 (!w.params.followText "set-order")) } := Heap.get?_push_size _ rfl
      have hT : Shared.TypeIs { s with heap := s.heap.push { cls := .type "set", dict := none, data := .set #[] 0 (.fresh 0 0 (!w.params.followText "set-order")) } } (.ref s.heap.objs.size) "set" := ⟨_, hS, rfl⟩
      have hli := F.called_set.init.lookup
      have hbi := F.called_set.init.bind (.ref s.heap.objs.size)
      repeat (any_goals (first | assumption | wp_step))

      refine codeAny_mono (codeAny_call_builtin (R := wants (fun r s₂ => r = .none ∧ ∃ h' tk c, s₂ = { s with heap := h', toks := tk } ∧ SetR w h' s.heap.objs.size (fun j => decide (j ∈ ns)) c ∧ c ≤ ns.length ∧
          (∀ b o, s.heap.get? b = some o → h'.get? b = some o)) E) F.called_set.init.plain F.entry_set_init (check_set_init_1 hT ?_)) fun r₂ s₂ hr₂ => ?_
      · obtain ⟨ol, hol, hcl, nl, hdl⟩ := hl
        obtain ⟨ocls, odict, odata, oslots⟩ := ol
        simp only at hcl hdl
        subst hcl; subst hdl
        have hol' : (s.heap.push { cls := .type "set", dict := none, data := .set #[] 0 (.fresh 0 0 (!w.params.followText "set-order")) }).get? l = some { cls := .type "list", dict := odict, data := .seq items nl, slots := oslots } := Heap.get?_push_of_some _ hol
        have hsls := F.sub_list_set
        have hslf := F.sub_list_frozenset
        have hne : (Value.type "list" == Value.type "dict") = false := by decide
        have hl1 : (s.heap.push { cls := .type "set", dict := none, data := .set #[] 0 (.fresh 0 0 (!w.params.followText "set-order")) }).IsList l items := ⟨_, hol', rfl, nl, rfl⟩
        unfold Builtin.«set.__init__» noKeywords Builtin.Frozenset.updateFrom
        generalize hPI : pyIter = PI
        wp_walk
        subst hPI

        refine wpAny_pyIter_list hl1 ?_
        refine wpAny_bind (wpAny_runValue ?_)
        have hlS : l < s.heap.objs.size := Heap.lt_size hol
        have hh3 : A.in1.in1.in1.handled = none := by simp [hh]
        have hz1 : (s.heap.push { cls := .type "set", dict := none, data := .set #[] 0 (.fresh 0 0 (!w.params.followText "set-order")) }).objs.size = s.heap.objs.size + 1 := Heap.size_push ..
        have hneI : l ≠ (s.heap.push { cls := .type "set", dict := none, data := .set #[] 0 (.fresh 0 0 (!w.params.followText "set-order")) }).objs.size := by
          rw [Heap.size_push]; exact Nat.ne_of_lt (Nat.lt_succ_of_lt hlS)
        have hSf : s.heap.objs.size ∉ [(s.heap.push { cls := .type "set", dict := none, data := .set #[] 0 (.fresh 0 0 (!w.params.followText "set-order")) }).objs.size, l] := by
          rw [Heap.size_push]; simp only [List.mem_cons, List.mem_singleton, List.not_mem_nil, or_false, not_or]
          exact ⟨Nat.ne_of_lt (Nat.lt_succ_self _), Nat.ne_of_gt hlS⟩
        have hval : ∀ (i : Nat) (v : Value), items[i]? = some v → ∃ k t, ns[i]? = some k ∧ v = .int k t := fun i v hv => by
          have hi : i < ns.length := by rw [← hisz]; exact (Array.getElem?_eq_some_iff.mp hv).1
          obtain ⟨t, e⟩ := PyProof.Rows.IntsAre.int_at hit i v (by rw [Array.getElem?_toList]; exact hv)
          refine ⟨ns[i], t, List.getElem?_eq_getElem hi, ?_⟩
          rw [e, List.getD_eq_getElem?_getD, List.getElem?_eq_getElem hi] <;> rfl
        refine set_update_ints ((Walks.list hh3 _ l hneI items).toS) s.heap.objs.size
          hSf ns hisz hb hval (items.size - 0) 0 _ (by omega) (Nat.zero_le _)
          ⟨⟨_, Heap.get?_push_size _ rfl, rfl, rfl⟩, (hl1.push _)⟩ ?hS0 ?hR
        case hS0 =>
          have hget : ((s.heap.push { cls := .type "set", dict := none, data := .set #[] 0 (.fresh 0 0 (!w.params.followText "set-order")) }).push { cls := .type "list_iterator", data := .fields #[.ref l, .int 0 0] }).get? s.heap.objs.size
              = some { cls := .type "set", dict := none, data := .set #[] 0 (.fresh 0 0 (!w.params.followText "set-order")) } := Heap.get?_push_of_some _ hS
          exact ⟨0, Nat.le_refl 0, setR_new_at hget⟩
        case hR =>
          intro s' c' hm hc' hS'
          obtain ⟨h', g2, d', tk', os'⟩ := s'
          have eg : g2 = s.gens := hm.gens
          have ed : d' = s.drawn := hm.drawn
          have eo : os' = s.os := hm.os
          subst eg; subst ed; subst eo
          show wpAny _ _ _ _ _ _
          refine wpAny_pure ?_
          show wpAny _ _ (ret Value.none) _ _ _
          rw [hisz] at hc'
          refine wpAny_pure ⟨rfl, h', tk', c', rfl, hS', hc', fun b o e => ?_⟩
          have hb0 : b < s.heap.objs.size := Heap.lt_size e
          have hb1 : b ≠ s.heap.objs.size := Nat.ne_of_lt hb0
          have hb2 : b ≠ (s.heap.push { cls := .type "set", dict := none, data := .set #[] 0 (.fresh 0 0 (!w.params.followText "set-order")) }).objs.size := by
            rw [Heap.size_push]; exact Nat.ne_of_lt (Nat.lt_succ_of_lt hb0)
          exact hm.heap b o (by simp only [List.mem_cons, List.mem_singleton, List.not_mem_nil, or_false, not_or]; exact ⟨hb1, hb2⟩) (Heap.get?_push_of_some _ (Heap.get?_push_of_some _ e))

      · cases r₂ with
        | error e => exact hr₂
        | ok fl₂ =>
          cases fl₂ with
          | ret r =>
            obtain ⟨rfl, h', tk, c', rfl, hS', hc', hk'⟩ := hr₂
            repeat (any_goals (first | assumption | wp_step))
            exact h _ _ _ hS' hc' hk'
          | _ => exact hr₂.elim
    | _ => exact hr.elim


end
end Dp
set_option Elab.async false
set_option linter.all false
set_option maxRecDepth 100000
set_option maxHeartbeats 4000000
/-! Dp14s: sorted(set(list of ints)). -/
namespace Dp
open PySem PySem.Spec PyProof.Rows L2 PySem.W

section
variable {G : Gx} {X : Cx} {P : Par}
theorem insI_mem (i : Int) : ∀ (l : List Int) (k : Int), k ∈ insI i l ↔ k = i ∨ k ∈ l
  | [], k => by simp [insI]
  | j :: r, k => by
    unfold insI
    split
    · simp
    · split
      · rename_i h
        subst h
        simp
      · simp only [List.mem_cons, insI_mem i r k]
        constructor
        · rintro (h | h | h)
          · exact .inr (.inl h)
          · exact .inl h
          · exact .inr (.inr h)
        · rintro (h | h | h)
          · exact .inr (.inl h)
          · exact .inl h
          · exact .inr (.inr h)
theorem ssetI_mem : ∀ (l : List Int) (k : Int), k ∈ ssetI l ↔ k ∈ l
  | [], k => by simp [ssetI]
  | i :: r, k => by
    unfold ssetI
    rw [insI_mem, ssetI_mem r k]
    simp
theorem insI_lt (i : Int) : ∀ (l : List Int), l.Pairwise (· < ·) → (insI i l).Pairwise (· < ·)
  | [], _ => by simp [insI]
  | j :: r, h => by
    obtain ⟨h1, h2⟩ := List.pairwise_cons.mp h
    unfold insI
    split
    · rename_i hij
      exact List.pairwise_cons.mpr ⟨fun k hk => by
        rcases List.mem_cons.mp hk with rfl | hk
        · exact hij
        · have := h1 k hk; omega, h⟩
    · split
      · exact h
      · exact List.pairwise_cons.mpr ⟨fun k hk => by
          rcases (insI_mem i r k).mp hk with rfl | hk
          · omega
          · exact h1 k hk, insI_lt i r h2⟩
theorem ssetI_lt : ∀ (l : List Int), (ssetI l).Pairwise (· < ·)
  | [] => .nil
  | i :: r => insI_lt i _ (ssetI_lt r)
theorem lt_ext : ∀ {a b : List Int}, a.Pairwise (· < ·) → b.Pairwise (· < ·) → (∀ k, k ∈ a ↔ k ∈ b) → a = b
  | [], [], _, _, _ => rfl
  | [], y :: ys, _, _, h => by have := (h y).mpr List.mem_cons_self; simp at this
  | x :: xs, [], _, _, h => by have := (h x).mp List.mem_cons_self; simp at this
  | x :: xs, y :: ys, ha, hb, h => by
    obtain ⟨a1, a2⟩ := List.pairwise_cons.mp ha
    obtain ⟨b1, b2⟩ := List.pairwise_cons.mp hb
    have e : x = y := by
      rcases List.mem_cons.mp ((h x).mp List.mem_cons_self) with e | e
      · exact e
      · rcases List.mem_cons.mp ((h y).mpr List.mem_cons_self) with e2 | e2
        · exact e2.symm
        · have := a1 y e2
          have := b1 x e
          omega
    subst e
    rw [lt_ext a2 b2 fun k => ?_]
    constructor
    · intro hk
      rcases List.mem_cons.mp ((h k).mp (List.mem_cons_of_mem _ hk)) with e | e
      · have := a1 k hk
        omega
      · exact e
    · intro hk
      rcases List.mem_cons.mp ((h k).mpr (List.mem_cons_of_mem _ hk)) with e | e
      · have := b1 k hk
        omega
      · exact e
/-- set(xs), a list of few ints -/
theorem set_call (xa : XA G X) : CallR X (.type "set") (fun vs H Q => ∃ (B ρ : List Addr) (st : Store) (is : List Int) (v : V), vs = [v] ∧ RS (G := G) B st ρ H ∧ DB G B ρ H (.lst (is.map D.int)) v ∧ is.length < 64 ∧ ∀ a n, H a = none → n ≤ is.length → Q (.ref a) (upd H a (SetO X.w a (fun j => decide (j ∈ is)) n))) := by
  intro pins s σ H vs us Q I r h
  obtain ⟨B, ρ, st, is, v, rfl, rs, hd, hl, q⟩ := h
  obtain ⟨u, rfl, rx⟩ := r.one
  obtain ⟨p, ws, rfl, h2, h3⟩ := hd.lst
  rw [dvs_ints h3] at h2
  cases rx
  obtain ⟨its, rv, pl, hz⟩ := I.list (show SqL X.K H p (is.map V.int) from .inl h2)
  refine set_of_list (P := X.prog) (w := X.w) is (I.ok.hd xa.calm) pl.isList (intsAre_of rv) (Nat.lt_of_lt_of_le (show is.length + 1 < 65 by omega) (by decide)) fun h' tk c R hc k => ?_
  exact ⟨.ref s.heap.objs.size, _, I.laid k (Nat.le_refl _) (setO_new R), rfl, q _ c (I.hok.fresh (Nat.le_refl _)) hc⟩
theorem pe_sset (xa : XA G X) {x : Expr} {e : Ex} {p p2 pos pos2 : Pos} (hg : Gl X "sorted") (hm : X.mg "sorted" = none) (hg2 : Gl X "set") (hm2 : X.mg "set" = none) (he : PEW G X P x e) (na : starEach [x] X.env = (false, eval x X.env) :: starEach [] X.env) :
    PES G X P (.Call (.Name "sorted" p) [.Call (.Name "set" p2) [x] [] pos2] [] pos) (.prim (.bi .sset) (.cons e .nil)) := by
  refine PE_imp (pe_callB (cr_sortedSet xa.calm) hg hm boot_sorted (pa_cons (pe_callTy (set_call xa) hg2 hm2 boot_set (pa_cons he pa_nil na) (by decide +kernel) (by decide +kernel) na rfl) pa_nil rfl) (by decide +kernel) (by decide +kernel) rfl rfl) fun σ H Q h => ?_
  obtain ⟨B, env, st, ρ, d, st', rs, re, ev, k⟩ := h
  obtain ⟨u, e1, e2⟩ := prim1_inv ev
  have e2 : ssetEv st' [u] = some d := e2
  match u, e1, e2 with
  | .lst ds, e1, e2 =>
    obtain ⟨is, i1, e3⟩ := Option.bind_eq_some_iff.mp e2
    split at e3
    · rename_i hl
      cases e3
      have hds := ints_of i1
      subst hds
      refine ⟨B, env, st, ρ, _, st', rs, re, e1, fun v ρ1 H1 sp1 rs1 q1 => ⟨B, ρ1, st', is, v, rfl, rs1, q1, hl, fun a n ha hn => ?_⟩⟩
      refine ⟨a, _, n, rfl, upd_same, by omega, fun ns q h1 h2 h3 hq => ?_⟩
      have e4 : ns = ssetI is := lt_ext h1 (ssetI_lt is) fun k => by rw [h2, ssetI_mem]; simp
      subst e4
      have rs2 := rs1.same (same_laid (o := SetO X.w a (fun j => decide (j ∈ is)) n) ha)
      have sp2 := sp1.trans (same_stp (same_laid (o := SetO X.w a (fun j => decide (j ∈ is)) n) ha))
      have dv : ∀ (l : List Int), DVs G (ρ1 ++ B) ρ1 (upd H1 a (SetO X.w a (fun j => decide (j ∈ is)) n)) (l.map D.int) (l.map V.int) := by
        intro l
        induction l with
        | nil => exact rfl
        | cons i l ih => exact .cons rfl ih
      exact Fin.lst rs2 (fin_of sp2 rs2 k) (dv _) hq
    · cases e3
  | .non, _, e2 => cases e2
  | .bl _, _, e2 => cases e2
  | .int _, _, e2 => cases e2
  | .str _, _, e2 => cases e2
  | .tup _, _, e2 => cases e2
  | .dct _ _, _, e2 => cases e2
  | .ref _, _, e2 => cases e2
end
end Dp
set_option Elab.async false
set_option linter.all false
set_option maxRecDepth 100000
set_option maxHeartbeats 4000000
/-! Dp15: the check of an expression against the small language, and what it gives. -/
namespace Dp
open PySem PySem.Spec PyProof.Rows L2 PySem.W PySem.SeqAt

structure Cc where
  N : List Str
  sc : Scope
  fnv : Str → Bool
  bn : List Str
  fn : List Str
  gn : List Str
def Cc.blk (c : Cc) (scope : Scope) : Cc := { c with sc := L2.relS scope c.sc, fnv := fun x => scope.names.lookup x == some .cell }
def nameB (x : Str) : Bool := !(x == ("__debug__" : Str)) && !(x == ("__classdict__" : Str))
def visB (sc : Scope) (x : Str) : Bool := match sc.names.lookup x with
  | some .local => true
  | some .cell => true
  | some .free => true
  | _ => false
def glB (sc : Scope) (x : Str) : Bool := match sc.names.lookup x with
  | some .globalImplicit => true
  | _ => false
def bnB (c : Cc) (x : Str) : Bool := glB c.sc x && c.bn.any fun y => decide (y = x)
def varB (c : Cc) (i : Nat) : Expr → Bool
  | .Name x _ => decide (c.N[i]? = some x) && visB c.sc x && nameB x
  | _ => false
def litB (d : D) : Expr → Bool
  | .Constant k _ _ => litOk k d
  | _ => false
def globB (c : Cc) (k : Nat) : Expr → Bool
  | .Name x _ => decide (c.gn[k]? = some x) && glB c.sc x && nameB x
  | _ => false
def notSetB : Expr → Bool
  | .Set _ _ _ => false
  | _ => true
def notStarB : Expr → Bool
  | .Starred _ _ => false
  | _ => true
def notSliceB : Expr → Bool
  | .Slice _ _ _ _ => false
  | _ => true
def plainTB : Expr → Bool
  | .Name _ _ => true
  | .Call _ _ _ _ => true
  | .Subscript _ _ _ => true
  | .Constant _ _ _ => true
  | .BinOp _ _ _ _ => true
  | _ => false
def blkB (N : List Str) (sc scope : Scope) (own : List Nat) : Bool :=
  decide (scope.kind = .function) && (scope.names.all fun y => decide (scope.names.lookup y.1 = some y.2)) && (own.all fun i => decide (i < N.length)) &&
  (scope.names.all fun y => match y.2 with
    | .free => (match sc.names.lookup y.1 with | some .cell => true | some .free => true | _ => false)
    | .local => (own.any fun i => decide (N[i]? = some y.1)) || !(N.any fun x => decide (x = y.1))
    | .cell => (own.any fun i => decide (N[i]? = some y.1)) || !(N.any fun x => decide (x = y.1))
    | _ => true)
def tgB (c : Cc) : Tg → Expr → Bool
  | .name i, .Name x _ => decide (c.N[i]? = some x) && (match c.sc.names.lookup x with | some .local => true | some .cell => c.fnv x | _ => false)
  | .pair a b, .Tuple [x, y] _ _ => tgB c a x && tgB c b y
  | .trip a b d, .Tuple [x, y, z] _ _ => tgB c a x && (tgB c b y && tgB c d z)
  | _, _ => false
inductive Mode where
  | s | w | t
def Mode.notS : Mode → Bool
  | .s => false
  | _ => true
def Mode.notT : Mode → Bool
  | .t => false
  | _ => true
def Mode.isT : Mode → Bool
  | .t => true
  | _ => false

def isiB (c : Cc) (n n2 : Str) (f : Expr → Bool) : List Expr → Bool
  | [x, .Name n3 _] => decide (n = "isinstance") && decide (n3 = n2) && bnB c n && bnB c n3 && f x && notStarB x
  | _ => false
def ssetB (c : Cc) (n : Str) (f : Expr → Bool) : List Expr → Bool
  | [.Call (.Name n2 _) [x] [] _] => decide (n = "sorted") && decide (n2 = "set") && bnB c n && bnB c n2 && f x && notStarB x
  | _ => false
def biB (b : Bi) (c : Cc) (n : Str) (xs : List Expr) (w : Bool) (f : Expr → Bool) : Bool :=
  if biPlain b then decide (n = biName b) && bnB c n && !xs.isEmpty && w else match isName b with
    | some p => isiB c n p.2 f xs
    | none => (match b with | .sset => true | _ => false) && ssetB c n f xs
mutual
def Ex.ok : Ex → Mode → Cc → Expr → Bool
  | .v i, _, c, x => varB c i x
  | .bor i, m, c, x => m.notS && varB c i x
  | .lit d, _, _, x => litB d x
  | .glob k, m, c, x => m.notT && globB c k x
  | .tup es, m, c, .Tuple xs _ _ => m.notT && es.ok .s c xs
  | .lst es, m, c, .List xs _ => m.notT && es.ok .s c xs
  | .prim (.bo o) (.cons a (.cons b .nil)), _, c, .BinOp x op y _ => decide (op = boOp o) && a.ok .w c x && b.ok .w c y
  | .prim (.co o) (.cons a (.cons b .nil)), _, c, .Compare x [op] [y] _ => decide (op = coOp o) && a.ok .w c x && b.ok .w c y && notSetB y
  | .prim .sub (.cons a (.cons b .nil)), _, c, .Subscript x y _ => a.ok .w c x && b.ok .w c y && notSliceB y
  | .prim .neg (.cons a .nil), m, c, .UnaryOp .USub x _ => m.notT && a.ok .w c x
  | .prim (.cut true true) (.cons a (.cons b (.cons d .nil))), _, c, .Subscript x (.Slice (some y) (some z) none _) _ => a.ok .w c x && b.ok .w c y && d.ok .w c z
  | .prim (.cut true false) (.cons a (.cons b .nil)), _, c, .Subscript x (.Slice (some y) none none _) _ => a.ok .w c x && b.ok .w c y
  | .prim (.cut false true) (.cons a (.cons b .nil)), _, c, .Subscript x (.Slice none (some y) none _) _ => a.ok .w c x && b.ok .w c y
  | .prim (.bi b) es, _, c, .Call (.Name n _) xs [] _ => biB b c n xs (es.okw c xs) (fun x => es.one c x)
  | .and a b, m, c, .BoolOp .And (x :: y :: ys) p => a.ok (if m.isT then .t else .s) c x && (if ys.isEmpty then b.ok (if m.isT then .t else .s) c y else b.ok (if m.isT then .t else .s) c (.BoolOp .And (y :: ys) p))
  | .or a b, m, c, .BoolOp .Or (x :: y :: ys) p => a.ok (if m.isT then .t else .s) c x && (if ys.isEmpty then b.ok (if m.isT then .t else .s) c y else b.ok (if m.isT then .t else .s) c (.BoolOp .Or (y :: ys) p))
  | .not a, m, c, .UnaryOp .Not x _ => a.ok (if m.isT then .t else .w) c x
  | .ife e a b, m, c, .IfExp z x y _ => m.notT && e.ok .t c z && a.ok .s c x && b.ok .s c y
  | .chain o o' a b d, _, c, .Compare x [op, op'] [y, z] _ => decide (op = coOp o) && decide (op' = coOp o') && a.ok .s c x && b.ok .s c y && d.ok .s c z && notSetB z
  | .call f es, _, c, .Call (.Name n _) xs [] _ => decide (c.fn[f]? = some n) && glB c.sc n && nameB n && es.ok .s c xs && es.plain
  | .lc own tg it ts e, m, c, .ListComp elt [⟨t, iter, ifs, a⟩] scope _ => m.notT && decide (a = 0) && blkB c.N c.sc scope own && it.ok false c t iter && notSetB iter && tgB (c.blk scope) tg t && (tg.ixs.all fun i => own.any fun j => decide (j = i)) && ts.okT (c.blk scope) ifs && e.ok .s (c.blk scope) elt
  | .dc own tg it ts k e, m, c, .DictComp kx vx [⟨t, iter, ifs, a⟩] scope _ => m.notT && decide (a = 0) && blkB c.N c.sc scope own && it.ok false c t iter && notSetB iter && tgB (c.blk scope) tg t && (tg.ixs.all fun i => own.any fun j => decide (j = i)) && ts.okT (c.blk scope) ifs && k.ok .s (c.blk scope) kx && e.ok .s (c.blk scope) vx
  | .dict ks vs, m, c, .Dict kx vx _ => m.notT && (litKeys ks kx).isSome && vs.ok .s c vx && vs.plain && decide (kx.length = vx.length) && !kx.isEmpty && decide (kx.length ≤ 15)
  | .rngx t true a b, m, c, .Call (.Name n _) [.Call (.Name n2 _) [x] [] _] [] _ => m.notT && decide (n = if t then "tuple" else "list") && decide (n2 = "range") && bnB c n && bnB c n2 && (match exLit a with | some (.int i) => decide (i = 0) | _ => false) && b.ok .s c x && notStarB x
  | .rngx t false a b, m, c, .Call (.Name n _) [.Call (.Name n2 _) [x, y] [] _] [] _ => m.notT && decide (n = if t then "tuple" else "list") && decide (n2 = "range") && bnB c n && bnB c n2 && a.ok .s c x && b.ok .s c y && notStarB x && notStarB y
  | .new e, m, c, x => m.notT && e.ok .s c x && e.fr
  | _, _, _, _ => false
/-- one argument, weak -/
def Exs.one : Exs → Cc → Expr → Bool
  | .cons a .nil, c, x => a.ok .w c x
  | _, _, _ => false
/-- strong arguments -/
def Exs.ok : Exs → Mode → Cc → List Expr → Bool
  | .nil, _, _, [] => true
  | .cons e es, _, c, x :: xs => e.ok .s c x && notStarB x && es.ok .s c xs
  | .star e es, _, c, .Starred x _ :: xs => e.ok .w c x && es.ok .s c xs
  | _, _, _, _ => false
/-- weak arguments -/
def Exs.okw : Exs → Cc → List Expr → Bool
  | .nil, _, [] => true
  | .cons e es, c, x :: xs => e.ok .w c x && notStarB x && es.okw c xs
  | _, _, _ => false
def Exs.okT : Exs → Cc → List Expr → Bool
  | .nil, _, [] => true
  | .cons e .nil, c, [x] => e.ok .t c x
  | _, _, _ => false
def It.ok : It → Bool → Cc → Expr → Expr → Bool
  | .ex e, b, c, _, x => e.ok (if b then .s else .w) c x
  | .rng1 e, _, c, _, .Call (.Name n _) [x] [] _ => decide (n = "range") && bnB c n && e.ok .s c x && notStarB x
  | .rng2 e e2, _, c, _, .Call (.Name n _) [x, y] [] _ => decide (n = "range") && bnB c n && e.ok .s c x && e2.ok .s c y && notStarB x && notStarB y
  | .enum e, b, c, .Tuple _ _ _, .Call (.Name n _) [x] [] _ => decide (n = "enumerate") && bnB c n && e.ok (if b then .s else .w) c x && notStarB x
  | .zip e e2, b, c, .Tuple _ _ _, .Call (.Name n _) [x, y] [] _ => decide (n = "zip") && bnB c n && e.ok (if b then .s else .w) c x && e2.ok (if b then .s else .w) c y && notStarB x && notStarB y
  | _, _, _, _, _ => false
/-- no star -/
def Exs.plain : Exs → Bool
  | .nil => true
  | .cons _ es => es.plain
  | .star _ _ => false
/-- a thing that is new -/
def Ex.fr : Ex → Bool
  | .lst _ => true
  | .lc _ _ _ _ _ => true
  | .dc _ _ _ _ _ _ => true
  | .dict _ _ => true
  | _ => false
end
end Dp
set_option Elab.async false
set_option linter.all false
set_option maxRecDepth 100000
set_option maxHeartbeats 4000000
/-! Dp16: a checked expression does what the small language says. -/
namespace Dp
open PySem PySem.Spec PyProof.Rows L2 PySem.W PySem.SeqAt

/-- the same program, world, module, depth -/
structure SameC (X X' : Cx) : Prop where
  prog : X'.prog = X.prog
  w : X'.w = X.w
  K : X'.K = X.K
  mg : X'.mg = X.mg
  base : X'.base = X.base
  A : X'.A = X.A
theorem SameC.refl (X : Cx) : SameC X X := ⟨rfl, rfl, rfl, rfl, rfl, rfl⟩
structure XC (G : Gx) (c : Cc) (P : Par) (X : Cx) : Prop where
  xa : XA G X
  N : X.N = c.N
  nd : c.N.Nodup
  sc : X.env.scope = c.sc
  fv : X.fn = c.fnv
  bn : ∀ x ∈ c.bn, X.mg x = none
  gl : ∀ (k : Nat) x, c.gn[k]? = some x → ∃ v u, X.mg x = some u ∧ RelV v u ∧ ∀ d, P.glob[k]? = some d → ∀ M ρ H, DV G M ρ H d v
  call : ∀ (k : Nat) x, c.fn[k]? = some x → ∃ a, X.mg x = some (.ref a) ∧ PySem.W.keepIn X.K (.ref a) = true ∧ ∀ X' : Cx, SameC X X' → CallR X' (.ref a) (rCall G P k)
section
variable {G : Gx} {P : Par} {c : Cc} {X : Cx}
theorem XC.blk (xc : XC G c P X) (s : Shared) (H : Hp) (scope : Scope) (C : Addr) (cl : List (Str × Addr)) (fp : List Addr) : XC G (c.blk scope) P (X.blk s H scope (compEnvC scope cl C X.env) fp) := by
  refine ⟨⟨xc.xa.K, xc.xa.w, xc.xa.calm, xc.xa.un, xc.xa.gd⟩, xc.N, xc.nd, ?_, rfl, xc.bn, xc.gl, fun k x h => ?_⟩
  · show L2.relS scope X.env.scope = L2.relS scope c.sc
    rw [xc.sc]
  · obtain ⟨a, h1, h2, h3⟩ := xc.call k x h
    exact ⟨a, h1, h2, fun X' s => h3 X' ⟨s.prog, s.w, s.K, s.mg, s.base, s.A⟩⟩
theorem nameB_inv {x : Str} (h : nameB x = true) : (x == ("__debug__" : Str)) = false ∧ (x == ("__classdict__" : Str)) = false := by
  simpa [nameB] using h
theorem vis_of (xc : XC G c P X) {x : Str} (h : visB c.sc x = true) : Vis X.env.scope x := by
  rw [xc.sc]
  unfold visB at h
  split at h
  · exact .inl (by assumption)
  · exact .inr (.inl (by assumption))
  · exact .inr (.inr (by assumption))
  · cases h
theorem gl_of (xc : XC G c P X) {x : Str} (h : glB c.sc x = true) : Gl X x := by
  unfold glB at h
  split at h
  · rename_i e
    show X.env.scope.names.lookup x = _
    rw [xc.sc]
    exact e
  · cases h
theorem bn_of (xc : XC G c P X) {x : Str} (h : bnB c x = true) : Gl X x ∧ X.mg x = none := by
  simp only [bnB, Bool.and_eq_true, List.any_eq_true, decide_eq_true_eq] at h
  obtain ⟨h1, y, hy, rfl⟩ := h
  exact ⟨gl_of xc h1, xc.bn _ hy⟩
theorem star_ne {x : Expr} {xs : List Expr} {env : PySem.Env} (h : notStarB x = true) : starEach (x :: xs) env = (false, eval x env) :: starEach xs env := by
  cases x <;> first | rfl | exact absurd (show false = true from h) Bool.false_ne_true
theorem plain_any {pos : Pos} {env : PySem.Env} : ∀ {xs : List Expr}, xs.all notStarB = true → (backTo pos (starEach xs env)).any (·.1) = false
  | [], _ => rfl
  | x :: xs, h => by
    simp only [List.all_cons, Bool.and_eq_true] at h
    rw [star_ne h.1]
    show (false || (backTo pos (starEach xs env)).any (·.1)) = false
    rw [plain_any h.2]
    rfl
theorem notSet_mark {x : Expr} {op : CmpOp} (h : notSetB x = true) : behindInMarks op x = false := by
  cases x <;> first | rfl | exact absurd (show false = true from h) Bool.false_ne_true
theorem notSet_last {x y : Expr} {op op' : CmpOp} (h : notSetB y = true) : lastMarks [op, op'] [x, y] = false := by
  show behindInMarks op' y = false
  exact notSet_mark h
theorem notSet_fold {x : Expr} {env : PySem.Env} (h : notSetB x = true) : ∀ v, foldedSetIterable x env v = pure v := by
  cases x <;> first | (intro v; rfl) | exact absurd (show false = true from h) Bool.false_ne_true
theorem notSlice_ix {x : Expr} (h : notSliceB x = true) : PlainIx x := by
  cases x <;> first | (intro o i; rfl) | exact absurd (show false = true from h) Bool.false_ne_true
theorem plainT_he {x : Expr} {env : PySem.Env} (h : plainTB x = true) : ∀ whole, isTrue x env whole = (do let v ← whole; standAt x.pos; holding [v] (truthy v)) := by
  cases x <;> first | (intro v; rfl) | exact absurd (show false = true from h) Bool.false_ne_true
/-- what a check gives -/
def Snd (G : Gx) (P : Par) (X : Cx) (x : Expr) (e : Ex) : Mode → Prop
  | .s => PES G X P x e
  | .w => PEW G X P x e
  | .t => PT X x (tT G (e.test P)) ∧ ∀ op vs p, x = .BoolOp op vs p → PW X x (tT G (e.test P))
theorem plainT_ne {x : Expr} (h : plainTB x = true) : ∀ op vs p, x ≠ .BoolOp op vs p := by
  intro op vs p e
  subst e
  exact absurd (show false = true from h) Bool.false_ne_true
/-- a plain expression in each of the ways -/
theorem snd_plain (xa : XA G X) {x : Expr} {e : Ex} (hp : plainTB x = true) (h : PES G X P x e) (ht : ∀ env st b st', e.test P env st = .ok b st' → ∃ d, e.ev P env st = .ok d st' ∧ d.tru = some b) : ∀ m, Snd G P X x e m
  | .s => h
  | .w => PE_weak h
  | .t => ⟨pt_of xa (PE_weak h) (plainT_he hp) ht, fun op vs p z => (plainT_ne hp op vs p z).elim⟩
theorem snd_val {x : Expr} {e : Ex} (h : PES G X P x e) : ∀ m : Mode, m.notT = true → Snd G P X x e m
  | .s, _ => h
  | .w, _ => PE_weak h
  | .t, z => absurd z (by decide)
theorem test_prim {p : Pr} {es : Exs} : ∀ env st b st', (Ex.prim p es).test P env st = .ok b st' → ∃ d, (Ex.prim p es).ev P env st = .ok d st' ∧ d.tru = some b := by
  intro env st b st' h
  unfold Ex.test at h
  obtain ⟨ds, st1, e1, h⟩ := Res.bind_eq h
  obtain ⟨d, st2, e2, e3⟩ := Res.bind_eq h
  obtain ⟨g3, rfl⟩ := ofOpt_eq e3
  refine ⟨d, ?_, g3⟩
  unfold Ex.ev
  rw [e1]
  exact e2
theorem test_call {f : Nat} {es : Exs} : ∀ env st b st', (Ex.call f es).test P env st = .ok b st' → ∃ d, (Ex.call f es).ev P env st = .ok d st' ∧ d.tru = some b := by
  intro env st b st' h
  unfold Ex.test at h
  obtain ⟨ds, st1, e1, h⟩ := Res.bind_eq h
  obtain ⟨d, st2, e2, e3⟩ := Res.bind_eq h
  obtain ⟨g3, rfl⟩ := ofOpt_eq e3
  refine ⟨d, ?_, g3⟩
  unfold Ex.ev
  rw [e1]
  exact e2
theorem test_lit {d : D} : ∀ env st b st', (Ex.lit d).test P env st = .ok b st' → ∃ d', (Ex.lit d).ev P env st = .ok d' st' ∧ d'.tru = some b := by
  intro env st b st' h
  unfold Ex.test at h
  obtain ⟨g, rfl⟩ := ofOpt_eq h
  exact ⟨d, by unfold Ex.ev; rfl, g⟩
theorem test_v {i : Nat} : ∀ env st b st', (Ex.v i).test P env st = .ok b st' → ∃ d', (Ex.v i).ev P env st = .ok d' st' ∧ d'.tru = some b := by
  intro env st b st' h
  unfold Ex.test at h
  obtain ⟨g, rfl⟩ := ofOpt_eq h
  obtain ⟨d, g1, g2⟩ := Option.bind_eq_some_iff.mp g
  exact ⟨d, by unfold Ex.ev; rw [g1]; rfl, g2⟩
theorem test_bor {i : Nat} : ∀ env st b st', (Ex.bor i).test P env st = .ok b st' → ∃ d', (Ex.bor i).ev P env st = .ok d' st' ∧ d'.tru = some b := by
  intro env st b st' h
  unfold Ex.test at h
  obtain ⟨g, rfl⟩ := ofOpt_eq h
  obtain ⟨d, g1, g2⟩ := Option.bind_eq_some_iff.mp g
  exact ⟨d, by unfold Ex.ev; rw [g1]; rfl, g2⟩

/-- what holds of all smaller terms -/
structure IHs (G : Gx) (P : Par) (n : Nat) : Prop where
  ex : ∀ (e : Ex) (m : Mode) (c : Cc) (x : Expr) (X : Cx), sizeOf e < n → e.ok m c x = true → XC G c P X → Snd G P X x e m
  es : ∀ (es : Exs) (m : Mode) (c : Cc) (xs : List Expr) (X : Cx), sizeOf es < n → es.ok m c xs = true → XC G c P X → PA X xs (tAs G (relsS G) (es.ev P))
  ew : ∀ (es : Exs) (c : Cc) (xs : List Expr) (X : Cx), sizeOf es < n → es.okw c xs = true → XC G c P X → PA X xs (tAs G (relsW G) (es.ev P)) ∧ xs.all notStarB = true
  on : ∀ (es : Exs) (c : Cc) (x : Expr) (X : Cx), sizeOf es < n → es.one c x = true → XC G c P X → ∃ a, es = .cons a .nil ∧ PEW G X P x a
  et : ∀ (es : Exs) (c : Cc) (xs : List Expr) (X : Cx), sizeOf es < n → es.okT c xs = true → XC G c P X → PTs X xs (tts P G es) ∧ one1 es = true
  it : ∀ (it : It) (b : Bool) (c : Cc) (t x : Expr) (X : Cx), sizeOf it < n → it.ok b c t x = true → XC G c P X → PI X t x (tI G b (it.ev P))
  pv : ∀ (es : Exs) (m : Mode) (c : Cc) (xs : List Expr) (X : Cx), sizeOf es < n → es.ok m c xs = true → es.plain = true → XC G c P X → PVs G X P xs es ∧ xs.all notStarB = true
  fr : ∀ (e : Ex) (m : Mode) (c : Cc) (x : Expr) (X : Cx), sizeOf e < n → e.ok m c x = true → e.fr = true → XC G c P X → PEF G X P x e
end
end Dp
set_option Elab.async false
set_option linter.all false
set_option maxRecDepth 100000
set_option maxHeartbeats 4000000
/-! Dp17: the steps of the proof that a check suffices. -/
namespace Dp
open PySem PySem.Spec PyProof.Rows L2 PySem.W PySem.SeqAt

section
variable {G : Gx} {P : Par} {n : Nat}
/-! ### targets -/
theorem pg_of {c : Cc} {X : Cx} (xc : XC G c P X) : ∀ (t : Tg) (x : Expr), tgB c t x = true → PG X x (gT X.K t)
  | .name i, x, h => by
    cases x <;> try (exact absurd (show false = true from h) Bool.false_ne_true)
    rename_i y p
    have h : (decide (c.N[i]? = some y) && (match c.sc.names.lookup y with | some .local => true | some .cell => c.fnv y | _ => false)) = true := h
    rw [Bool.and_eq_true, decide_eq_true_eq] at h
    have hN : X.N[i]? = some y := by rw [xc.N]; exact h.1
    have h2 := h.2
    split at h2
    · rename_i e
      rw [← xc.sc] at e
      exact pg_name (by rw [xc.N]; exact xc.nd) hN (.inl e) (.inr e)
    · rename_i e
      rw [← xc.sc] at e
      exact pg_name (by rw [xc.N]; exact xc.nd) hN (.inr e) (.inl (by rw [xc.fv]; exact h2))
    · cases h2
  | .pair a b, x, h => by
    cases x <;> try (exact absurd (show false = true from h) Bool.false_ne_true)
    rename_i xs k p
    rcases xs with _ | ⟨x, _ | ⟨y, _ | ⟨z, r⟩⟩⟩
    · exact absurd (show false = true from h) Bool.false_ne_true
    · exact absurd (show false = true from h) Bool.false_ne_true
    · have h : (tgB c a x && tgB c b y) = true := h
      rw [Bool.and_eq_true] at h
      have ha := pg_of xc a x h.1
      have hb := pg_of xc b y h.2
      have sx : ∀ {t : Tg} {x : Expr}, tgB c t x = true → notStarB x = true := fun {t x} h => by
        cases x <;> first | rfl | (cases t <;> exact absurd (show false = true from h) Bool.false_ne_true)
      have e1 : ∀ (xs : List Expr), assignEach (x :: xs) X.env = (false, assign x X.env) :: assignEach xs X.env := fun xs => by
        have := sx h.1
        cases x <;> first | rfl | exact absurd (show false = true from this) Bool.false_ne_true
      have e2 : ∀ (xs : List Expr), assignEach (y :: xs) X.env = (false, assign y X.env) :: assignEach xs X.env := fun xs => by
        have := sx h.2
        cases y <;> first | rfl | exact absurd (show false = true from this) Bool.false_ne_true
      exact pg_tup xc.xa.calm (pgs_cons ha (pgs_cons hb pgs_nil (by rw [e2]; rfl)) (by rw [e1]; rfl)) (by rw [e1, e2]; rfl) (by rw [e1, e2]; rfl)
    · exact absurd (show false = true from h) Bool.false_ne_true
  | .trip a b d, x, h => by
    cases x <;> try (exact absurd (show false = true from h) Bool.false_ne_true)
    rename_i xs k p
    rcases xs with _ | ⟨x, _ | ⟨y, _ | ⟨z, _ | ⟨u, r⟩⟩⟩⟩
    · exact absurd (show false = true from h) Bool.false_ne_true
    · exact absurd (show false = true from h) Bool.false_ne_true
    · exact absurd (show false = true from h) Bool.false_ne_true
    · have h : (tgB c a x && (tgB c b y && tgB c d z)) = true := h
      rw [Bool.and_eq_true, Bool.and_eq_true] at h
      have ha := pg_of xc a x h.1
      have hb := pg_of xc b y h.2.1
      have hd := pg_of xc d z h.2.2
      have sx : ∀ {t : Tg} {x : Expr}, tgB c t x = true → notStarB x = true := fun {t x} h => by
        cases x <;> first | rfl | (cases t <;> exact absurd (show false = true from h) Bool.false_ne_true)
      have e1 : ∀ (xs : List Expr), assignEach (x :: xs) X.env = (false, assign x X.env) :: assignEach xs X.env := fun xs => by
        have := sx h.1
        cases x <;> first | rfl | exact absurd (show false = true from this) Bool.false_ne_true
      have e2 : ∀ (xs : List Expr), assignEach (y :: xs) X.env = (false, assign y X.env) :: assignEach xs X.env := fun xs => by
        have := sx h.2.1
        cases y <;> first | rfl | exact absurd (show false = true from this) Bool.false_ne_true
      have e3 : ∀ (xs : List Expr), assignEach (z :: xs) X.env = (false, assign z X.env) :: assignEach xs X.env := fun xs => by
        have := sx h.2.2
        cases z <;> first | rfl | exact absurd (show false = true from this) Bool.false_ne_true
      exact pg_tup xc.xa.calm (pgs_cons ha (pgs_cons hb (pgs_cons hd pgs_nil (by rw [e3]; rfl)) (by rw [e2]; rfl)) (by rw [e1]; rfl)) (by rw [e1, e2, e3]; rfl) (by rw [e1, e2, e3]; rfl)
    · exact absurd (show false = true from h) Bool.false_ne_true

/-! ### blocks -/
theorem blk_of {N : List Str} {sc scope : Scope} {own : List Nat} (h : blkB N sc scope own = true) : BlkOk N sc scope (own.map fun i => ((N[i]?).getD default, i)) := by
  simp only [blkB, Bool.and_eq_true, decide_eq_true_eq, List.all_eq_true] at h
  obtain ⟨⟨⟨h1, h2⟩, h3⟩, h4⟩ := h
  refine ⟨h1, fun y hy => h2 y hy, fun p hp => ?_, fun y hy e => ?_, fun y hy e => ?_⟩
  · obtain ⟨i, hi, rfl⟩ := List.mem_map.mp hp
    have := h3 i hi
    simp [this]
  · have := h4 y hy
    rw [e] at this
    simp only at this
    split at this
    · exact .inl (by assumption)
    · exact .inr (by assumption)
    · cases this
  · have := h4 y hy
    have key : ((own.any fun i => decide (N[i]? = some y.1)) || !(N.any fun x => decide (x = y.1))) = true := by
      rcases e with e | e
      · rw [e] at this; exact this
      · rw [e] at this; exact this
    rw [Bool.or_eq_true] at key
    rcases key with key | key
    · obtain ⟨i, hi, e2⟩ := List.any_eq_true.mp key
      rw [decide_eq_true_eq] at e2
      refine .inl ?_
      rw [List.map_map]
      exact List.mem_map.mpr ⟨i, hi, by simp [e2]⟩
    · refine .inr fun hy2 => ?_
      rw [Bool.not_eq_true', List.any_eq_false] at key
      exact key _ hy2 (by simp)
theorem own_snd {N : List Str} {own : List Nat} : (own.map fun i => ((N[i]?).getD (default : Str), i)).map (·.2) = own := by
  rw [List.map_map]
  exact List.map_id' _

/-! ### arguments -/
theorem st_es (ih : IHs G P n) : ∀ (es : Exs) (m : Mode) (c : Cc) (xs : List Expr) (X : Cx), sizeOf es < n + 1 → es.ok m c xs = true → XC G c P X → PA X xs (tAs G (relsS G) (es.ev P))
  | .nil, m, c, xs, X, hs, h, xc => by
    cases xs with
    | nil => exact pa_nilS
    | cons _ _ => exact absurd (show false = true from h) Bool.false_ne_true
  | .cons e es, m, c, xs, X, hs, h, xc => by
    cases xs with
    | nil => exact absurd (show false = true from h) Bool.false_ne_true
    | cons x xs =>
      have h : (e.ok .s c x && notStarB x && es.ok .s c xs) = true := by
        cases x <;> exact h
      simp only [Bool.and_eq_true] at h
      simp only [Exs.cons.sizeOf_spec] at hs
      exact pa_consS (ih.ex e .s c x X (by omega) h.1.1 xc) (ih.es es .s c xs X (by omega) h.2 xc) (star_ne h.1.2)
  | .star e es, m, c, xs, X, hs, h, xc => by
    cases xs with
    | nil => exact absurd (show false = true from h) Bool.false_ne_true
    | cons x xs =>
      cases x <;> try (exact absurd (show false = true from h) Bool.false_ne_true)
      rename_i x p
      have h : (e.ok .w c x && es.ok .s c xs) = true := h
      simp only [Bool.and_eq_true] at h
      simp only [Exs.star.sizeOf_spec] at hs
      exact pa_starS xc.xa (ih.ex e .w c x X (by omega) h.1 xc) (ih.es es .s c xs X (by omega) h.2 xc) rfl
theorem st_ew (ih : IHs G P n) : ∀ (es : Exs) (c : Cc) (xs : List Expr) (X : Cx), sizeOf es < n + 1 → es.okw c xs = true → XC G c P X → PA X xs (tAs G (relsW G) (es.ev P)) ∧ xs.all notStarB = true
  | .nil, c, xs, X, hs, h, xc => by
    cases xs with
    | nil => exact ⟨pa_nilW, rfl⟩
    | cons _ _ => exact absurd (show false = true from h) Bool.false_ne_true
  | .cons e es, c, xs, X, hs, h, xc => by
    cases xs with
    | nil => exact absurd (show false = true from h) Bool.false_ne_true
    | cons x xs =>
      have h : (e.ok .w c x && notStarB x && es.okw c xs) = true := h
      simp only [Bool.and_eq_true] at h
      simp only [Exs.cons.sizeOf_spec] at hs
      obtain ⟨i1, i2⟩ := ih.ew es c xs X (by omega) h.2 xc
      exact ⟨pa_consW (ih.ex e .w c x X (by omega) h.1.1 xc) i1 (star_ne h.1.2), by simp [h.1.2, i2]⟩
  | .star e es, c, xs, X, hs, h, xc => by
    cases xs <;> exact absurd (show false = true from h) Bool.false_ne_true
theorem st_on (ih : IHs G P n) : ∀ (es : Exs) (c : Cc) (x : Expr) (X : Cx), sizeOf es < n + 1 → es.one c x = true → XC G c P X → ∃ a, es = .cons a .nil ∧ PEW G X P x a := by
  intro es c x X hs h xc
  rcases es with _ | ⟨a, _ | ⟨b, es⟩ | ⟨b, es⟩⟩ | ⟨a, es⟩ <;> try (exact absurd (show false = true from h) Bool.false_ne_true)
  simp only [Exs.cons.sizeOf_spec] at hs
  exact ⟨a, rfl, ih.ex a .w c x X (by omega) h xc⟩
theorem one_of : ∀ {es : Exs} {c : Cc} {xs : List Expr}, es.okT c xs = true → one1 es = true := by
  intro es c xs h
  rcases es with _ | ⟨a, _ | ⟨b, es⟩ | ⟨b, es⟩⟩ | ⟨a, es⟩
  · rfl
  · rfl
  · rcases xs with _ | ⟨_, _ | ⟨_, _⟩⟩ <;> exact absurd (show false = true from h) Bool.false_ne_true
  · rcases xs with _ | ⟨_, _ | ⟨_, _⟩⟩ <;> exact absurd (show false = true from h) Bool.false_ne_true
  · rcases xs with _ | ⟨_, _ | ⟨_, _⟩⟩ <;> exact absurd (show false = true from h) Bool.false_ne_true
theorem st_pv (ih : IHs G P n) : ∀ (es : Exs) (m : Mode) (c : Cc) (xs : List Expr) (X : Cx), sizeOf es < n + 1 → es.ok m c xs = true → es.plain = true → XC G c P X → PVs G X P xs es ∧ xs.all notStarB = true
  | .nil, m, c, xs, X, hs, h, hp, xc => by
    cases xs with
    | nil => exact ⟨.nil, rfl⟩
    | cons _ _ => exact absurd (show false = true from h) Bool.false_ne_true
  | .cons e es, m, c, xs, X, hs, h, hp, xc => by
    cases xs with
    | nil => exact absurd (show false = true from h) Bool.false_ne_true
    | cons x xs =>
      have h : (e.ok .s c x && notStarB x && es.ok .s c xs) = true := by
        cases x <;> exact h
      simp only [Bool.and_eq_true] at h
      simp only [Exs.cons.sizeOf_spec] at hs
      obtain ⟨i1, i2⟩ := ih.pv es .s c xs X (by omega) h.2 hp xc
      exact ⟨.cons (ih.ex e .s c x X (by omega) h.1.1 xc) i1, by simp [h.1.2, i2]⟩
  | .star e es, m, c, xs, X, hs, h, hp, xc => absurd (show false = true from hp) Bool.false_ne_true
theorem st_et (ih : IHs G P n) : ∀ (es : Exs) (c : Cc) (xs : List Expr) (X : Cx), sizeOf es < n + 1 → es.okT c xs = true → XC G c P X → PTs X xs (tts P G es) ∧ one1 es = true
  | .nil, c, xs, X, hs, h, xc => by
    cases xs with
    | nil => exact ⟨pts_nil, rfl⟩
    | cons _ _ => exact absurd (show false = true from h) Bool.false_ne_true
  | .cons e es, c, xs, X, hs, h, xc => by
    rcases es with _ | ⟨e2, es⟩ | ⟨e2, es⟩
    · rcases xs with _ | ⟨x, _ | ⟨y, r⟩⟩
      · exact absurd (show false = true from h) Bool.false_ne_true
      · have h : e.ok .t c x = true := h
        simp only [Exs.cons.sizeOf_spec] at hs
        exact ⟨pts_one (ih.ex e .t c x X (by omega) h xc).1, rfl⟩
      · exact absurd (show false = true from h) Bool.false_ne_true
    · rcases xs with _ | ⟨x, _ | ⟨y, r⟩⟩ <;> exact absurd (show false = true from h) Bool.false_ne_true
    · rcases xs with _ | ⟨x, _ | ⟨y, r⟩⟩ <;> exact absurd (show false = true from h) Bool.false_ne_true
  | .star e es, c, xs, X, hs, h, xc => by
    rcases xs with _ | ⟨x, _ | ⟨y, r⟩⟩ <;> exact absurd (show false = true from h) Bool.false_ne_true

/-! ### what is walked -/
theorem snd_rel {X : Cx} {x : Expr} {e : Ex} {b : Bool} (h : Snd G P X x e (if b then .s else .w)) : PE X x (tE G (rel b G) (e.ev P)) := by
  cases b
  · exact h
  · exact h
theorem st_it (ih : IHs G P n) : ∀ (it : It) (b : Bool) (c : Cc) (t x : Expr) (X : Cx), sizeOf it < n + 1 → it.ok b c t x = true → XC G c P X → PI X t x (tI G b (it.ev P))
  | .ex e, b, c, t, x, X, hs, h, xc => by
    simp only [It.ex.sizeOf_spec] at hs
    have h : e.ok (if b then .s else .w) c x = true := by
      cases t <;> exact h
    exact pi_ex xc.xa (snd_rel (ih.ex e _ c x X (by omega) h xc))
  | .rng1 e, b, c, t, x, X, hs, h, xc => by
    simp only [It.rng1.sizeOf_spec] at hs
    cases x <;> try (cases t <;> exact absurd (show false = true from h) Bool.false_ne_true)
    rename_i f xs kw pos
    cases f <;> try (cases t <;> exact absurd (show false = true from h) Bool.false_ne_true)
    rename_i nm p
    rcases xs with _ | ⟨y, _ | ⟨z, r⟩⟩ <;> rcases kw with _ | ⟨_, _⟩ <;> try (cases t <;> exact absurd (show false = true from h) Bool.false_ne_true)
    have h : (decide (nm = "range") && bnB c nm && e.ok .s c y && notStarB y) = true := by
      cases t <;> exact h
    simp only [Bool.and_eq_true, decide_eq_true_eq] at h
    obtain ⟨⟨⟨rfl, h2⟩, h3⟩, h4⟩ := h
    obtain ⟨b1, b2⟩ := bn_of xc h2
    exact pi_rng1 b1 b2 (ih.ex e .s c y X (by omega) h3 xc) (star_ne h4)
  | .rng2 e e2, b, c, t, x, X, hs, h, xc => by
    simp only [It.rng2.sizeOf_spec] at hs
    cases x <;> try (cases t <;> exact absurd (show false = true from h) Bool.false_ne_true)
    rename_i f xs kw pos
    cases f <;> try (cases t <;> exact absurd (show false = true from h) Bool.false_ne_true)
    rename_i nm p
    rcases xs with _ | ⟨y, _ | ⟨z, _ | ⟨u, r⟩⟩⟩ <;> rcases kw with _ | ⟨_, _⟩ <;> try (cases t <;> exact absurd (show false = true from h) Bool.false_ne_true)
    have h : (decide (nm = "range") && bnB c nm && e.ok .s c y && e2.ok .s c z && notStarB y && notStarB z) = true := by
      cases t <;> exact h
    simp only [Bool.and_eq_true, decide_eq_true_eq] at h
    obtain ⟨⟨⟨⟨⟨rfl, h2⟩, h3⟩, h4⟩, h5⟩, h6⟩ := h
    obtain ⟨b1, b2⟩ := bn_of xc h2
    exact pi_rng2 b1 b2 (ih.ex e .s c y X (by omega) h3 xc) (ih.ex e2 .s c z X (by omega) h4 xc) (star_ne h5) (star_ne h6)
  | .enum e, b, c, t, x, X, hs, h, xc => by
    simp only [It.enum.sizeOf_spec] at hs
    cases t <;> try (exact absurd (show false = true from h) Bool.false_ne_true)
    cases x <;> try (exact absurd (show false = true from h) Bool.false_ne_true)
    rename_i elts kk tpos f xs kw pos
    cases f <;> try (exact absurd (show false = true from h) Bool.false_ne_true)
    rename_i nm p
    rcases xs with _ | ⟨y, _ | ⟨z, r⟩⟩ <;> rcases kw with _ | ⟨_, _⟩ <;> try (exact absurd (show false = true from h) Bool.false_ne_true)
    have h : (decide (nm = "enumerate") && bnB c nm && e.ok (if b then .s else .w) c y && notStarB y) = true := h
    simp only [Bool.and_eq_true, decide_eq_true_eq] at h
    obtain ⟨⟨⟨rfl, h2⟩, h3⟩, h4⟩ := h
    obtain ⟨b1, b2⟩ := bn_of xc h2
    exact pi_enumD xc.xa b1 b2 (snd_rel (ih.ex e _ c y X (by omega) h3 xc)) (star_ne h4)
  | .zip e e2, b, c, t, x, X, hs, h, xc => by
    simp only [It.zip.sizeOf_spec] at hs
    cases t <;> try (exact absurd (show false = true from h) Bool.false_ne_true)
    cases x <;> try (exact absurd (show false = true from h) Bool.false_ne_true)
    rename_i elts kk tpos f xs kw pos
    cases f <;> try (exact absurd (show false = true from h) Bool.false_ne_true)
    rename_i nm p
    rcases xs with _ | ⟨y, _ | ⟨z, _ | ⟨u, r⟩⟩⟩ <;> rcases kw with _ | ⟨_, _⟩ <;> try (exact absurd (show false = true from h) Bool.false_ne_true)
    have h : (decide (nm = "zip") && bnB c nm && e.ok (if b then .s else .w) c y && e2.ok (if b then .s else .w) c z && notStarB y && notStarB z) = true := h
    simp only [Bool.and_eq_true, decide_eq_true_eq] at h
    obtain ⟨⟨⟨⟨⟨rfl, h2⟩, h3⟩, h4⟩, h5⟩, h6⟩ := h
    obtain ⟨b1, b2⟩ := bn_of xc h2
    exact pi_zipD xc.xa b1 b2 (snd_rel (ih.ex e _ c y X (by omega) h3 xc)) (snd_rel (ih.ex e2 _ c z X (by omega) h4 xc)) (star_ne h5) (star_ne h6)
end
end Dp
set_option Elab.async false
set_option linter.all false
set_option maxRecDepth 100000
set_option maxHeartbeats 8000000
/-! Dp18: a checked expression does what the small language says: the proof. -/
namespace Dp
open PySem PySem.Spec PyProof.Rows L2 PySem.W PySem.SeqAt

section
variable {G : Gx} {P : Par} {n : Nat}
theorem own_sub {t : Tg} {own : List Nat} (h : (t.ixs.all fun i => own.any fun j => decide (j = i)) = true) : ∀ i ∈ t.ixs, i ∈ own := fun i hi => by
  obtain ⟨j, hj, e⟩ := List.any_eq_true.mp (List.all_eq_true.mp h i hi)
  rw [decide_eq_true_eq] at e
  exact e ▸ hj
theorem st_fr (ih : IHs G P n) : ∀ (e : Ex) (m : Mode) (c : Cc) (x : Expr) (X : Cx), sizeOf e < n + 1 → e.ok m c x = true → e.fr = true → XC G c P X → PEF G X P x e := by
  intro e m c x X hs h hf xc
  cases e <;> try (exact absurd (show false = true from hf) Bool.false_ne_true)
  case lst es =>
    cases x <;> try (exact absurd (show false = true from h) Bool.false_ne_true)
    rename_i xs pos
    have h : (m.notT && es.ok .s c xs) = true := h
    rw [Bool.and_eq_true] at h
    simp only [Ex.lst.sizeOf_spec] at hs
    exact pe_lstF (ih.es es .s c xs X (by omega) h.2 xc)
  case lc own tg it ts e =>
    cases x <;> try (exact absurd (show false = true from h) Bool.false_ne_true)
    rename_i elt gens scope pos
    rcases gens with _ | ⟨⟨t, iter, ifs, a⟩, _ | ⟨g2, r⟩⟩
    · exact absurd (show false = true from h) Bool.false_ne_true
    · have h : (m.notT && decide (a = 0) && blkB c.N c.sc scope own && it.ok false c t iter && notSetB iter && tgB (c.blk scope) tg t && (tg.ixs.all fun i => own.any fun j => decide (j = i)) && ts.okT (c.blk scope) ifs && e.ok .s (c.blk scope) elt) = true := h
      simp only [Bool.and_eq_true] at h
      obtain ⟨⟨⟨⟨⟨⟨⟨⟨_, h0⟩, h1⟩, h2⟩, h3⟩, h4⟩, h5⟩, h6⟩, h7⟩ := h
      rw [decide_eq_true_eq] at h0
      subst h0
      simp only [Ex.lc.sizeOf_spec] at hs
      have hi := ih.it it false c t iter X (by omega) h2 xc
      have hN : X.N.Nodup := by rw [xc.N]; exact xc.nd
      have ok := blk_of h1
      rw [← xc.N, ← xc.sc] at ok
      have ho1 : one1 ts = true := one_of h6
      have pe := pe_lc (pos := pos) xc.xa.calm hN hi ok
        (fun s H C cl fp => show PG _ t (gT X.K tg) from pg_of (xc.blk s H scope C cl fp) tg t h4)
        (fun s H C cl fp => (ih.et ts (c.blk scope) ifs _ (by omega) h6 (xc.blk s H scope C cl fp)).1)
        (fun s H C cl fp => show PE _ elt (tE G (relS G) (e.ev P)) from ih.ex e .s (c.blk scope) elt _ (by omega) h7 (xc.blk s H scope C cl fp)) (notSet_fold h3)
      rw [own_snd] at pe
      refine PE_imp pe fun σ H Q q => ?_
      have := tLc_of ho1 (own_sub h5) q
      rw [← xc.xa.K] at this
      exact this
    · exact absurd (show false = true from h) Bool.false_ne_true
  case dc own tg it ts k e =>
    cases x <;> try (exact absurd (show false = true from h) Bool.false_ne_true)
    rename_i kx vx gens scope pos
    rcases gens with _ | ⟨⟨t, iter, ifs, a⟩, _ | ⟨g2, r⟩⟩
    · exact absurd (show false = true from h) Bool.false_ne_true
    · have h : (m.notT && decide (a = 0) && blkB c.N c.sc scope own && it.ok false c t iter && notSetB iter && tgB (c.blk scope) tg t && (tg.ixs.all fun i => own.any fun j => decide (j = i)) && ts.okT (c.blk scope) ifs && k.ok .s (c.blk scope) kx && e.ok .s (c.blk scope) vx) = true := h
      simp only [Bool.and_eq_true] at h
      obtain ⟨⟨⟨⟨⟨⟨⟨⟨⟨_, h0⟩, h1⟩, h2⟩, h3⟩, h4⟩, h5⟩, h6⟩, h7⟩, h8⟩ := h
      rw [decide_eq_true_eq] at h0
      subst h0
      simp only [Ex.dc.sizeOf_spec] at hs
      have hi := ih.it it false c t iter X (by omega) h2 xc
      have hN : X.N.Nodup := by rw [xc.N]; exact xc.nd
      have ok := blk_of h1
      rw [← xc.N, ← xc.sc] at ok
      have ho1 : one1 ts = true := one_of h6
      have pe := pe_dc (pos := pos) xc.xa.calm hN hi ok
        (fun s H C cl fp => show PG _ t (gT X.K tg) from pg_of (xc.blk s H scope C cl fp) tg t h4)
        (fun s H C cl fp => (ih.et ts (c.blk scope) ifs _ (by omega) h6 (xc.blk s H scope C cl fp)).1)
        (fun s H C cl fp => show PE _ kx (tE G (relS G) (k.ev P)) from ih.ex k .s (c.blk scope) kx _ (by omega) h7 (xc.blk s H scope C cl fp))
        (fun s H C cl fp => show PE _ vx (tE G (relS G) (e.ev P)) from ih.ex e .s (c.blk scope) vx _ (by omega) h8 (xc.blk s H scope C cl fp)) (notSet_fold h3)
      rw [own_snd] at pe
      refine PE_imp pe fun σ H Q q => ?_
      have := tDc_of ho1 (own_sub h5) q
      rw [← xc.xa.K] at this
      exact this
    · exact absurd (show false = true from h) Bool.false_ne_true
  case dict ks vs =>
    cases x <;> try (exact absurd (show false = true from h) Bool.false_ne_true)
    rename_i kx vx pos
    have h : (m.notT && (litKeys ks kx).isSome && vs.ok .s c vx && vs.plain && decide (kx.length = vx.length) && !kx.isEmpty && decide (kx.length ≤ 15)) = true := h
    simp only [Bool.and_eq_true, decide_eq_true_eq, Bool.not_eq_true'] at h
    obtain ⟨⟨⟨⟨⟨⟨_, h1⟩, h2⟩, h3⟩, h4⟩, h5⟩, h6⟩ := h
    obtain ⟨kd, hk⟩ := Option.isSome_iff_exists.mp h1
    simp only [Ex.dict.sizeOf_spec] at hs
    exact pe_dispD hk (ih.pv vs .s c vx X (by omega) h2 h3 xc).1 h4 (by intro z; subst z; simp at h5) h6

/-! ### and, or -/
theorem pw_one {X : Cx} {y : Expr} {e : Ex} {pos : Pos} (h : PT X y (tT G (e.test P))) : PW X (.BoolOp .And [y] pos) (tT G (e.test P)) := pw_and1 h
theorem pw_oneO {X : Cx} {y : Expr} {e : Ex} {pos : Pos} (h : PT X y (tT G (e.test P))) : PW X (.BoolOp .Or [y] pos) (tT G (e.test P)) := pw_or1 h
theorem st_and (ih : IHs G P n) {a b : Ex} {m : Mode} {c : Cc} {x : Expr} {X : Cx} (hs : sizeOf (Ex.and a b) < n + 1) (h : (Ex.and a b).ok m c x = true) (xc : XC G c P X) : Snd G P X x (.and a b) m := by
  cases x <;> try (exact absurd (show false = true from h) Bool.false_ne_true)
  rename_i op xs pos
  cases op <;> try (exact absurd (show false = true from h) Bool.false_ne_true)
  rcases xs with _ | ⟨x, _ | ⟨y, ys⟩⟩
  · exact absurd (show false = true from h) Bool.false_ne_true
  · exact absurd (show false = true from h) Bool.false_ne_true
  · have h : (a.ok (if m.isT then .t else .s) c x && (if ys.isEmpty then b.ok (if m.isT then .t else .s) c y else b.ok (if m.isT then .t else .s) c (.BoolOp .And (y :: ys) pos))) = true := h
    rw [Bool.and_eq_true] at h
    simp only [Ex.and.sizeOf_spec] at hs
    have val : m.isT = false → PES G X P (.BoolOp .And (x :: y :: ys) pos) (.and a b) := by
      intro hm
      rw [hm] at h
      have ha : PES G X P x a := ih.ex a .s c x X (by omega) h.1 xc
      refine pe_andD ha ?_
      cases ys with
      | nil => exact pe_one (show PES G X P y b from ih.ex b .s c y X (by omega) h.2 xc)
      | cons z zs => exact show PES G X P _ b from ih.ex b .s c _ X (by omega) h.2 xc
    cases m with
    | s => exact val rfl
    | w => exact PE_weak (val rfl)
    | t =>
      have h1 : a.ok .t c x = true := h.1
      have ha := (ih.ex a .t c x X (by omega) h1 xc).1
      have pw : PW X (.BoolOp .And (x :: y :: ys) pos) (tT G ((Ex.and a b).test P)) := by
        refine pt_andD ha ?_
        cases ys with
        | nil => exact pw_one (ih.ex b .t c y X (by omega) h.2 xc).1
        | cons z zs => exact (ih.ex b .t c (.BoolOp .And (y :: z :: zs) pos) X (by omega) h.2 xc).2 _ _ _ rfl
      exact ⟨pw.pt, fun op vs p e => e ▸ pw⟩
theorem st_or (ih : IHs G P n) {a b : Ex} {m : Mode} {c : Cc} {x : Expr} {X : Cx} (hs : sizeOf (Ex.or a b) < n + 1) (h : (Ex.or a b).ok m c x = true) (xc : XC G c P X) : Snd G P X x (.or a b) m := by
  cases x <;> try (exact absurd (show false = true from h) Bool.false_ne_true)
  rename_i op xs pos
  cases op <;> try (exact absurd (show false = true from h) Bool.false_ne_true)
  rcases xs with _ | ⟨x, _ | ⟨y, ys⟩⟩
  · exact absurd (show false = true from h) Bool.false_ne_true
  · exact absurd (show false = true from h) Bool.false_ne_true
  · have h : (a.ok (if m.isT then .t else .s) c x && (if ys.isEmpty then b.ok (if m.isT then .t else .s) c y else b.ok (if m.isT then .t else .s) c (.BoolOp .Or (y :: ys) pos))) = true := h
    rw [Bool.and_eq_true] at h
    simp only [Ex.or.sizeOf_spec] at hs
    have val : m.isT = false → PES G X P (.BoolOp .Or (x :: y :: ys) pos) (.or a b) := by
      intro hm
      rw [hm] at h
      have ha : PES G X P x a := ih.ex a .s c x X (by omega) h.1 xc
      refine pe_orD ha ?_
      cases ys with
      | nil => exact pe_one (show PES G X P y b from ih.ex b .s c y X (by omega) h.2 xc)
      | cons z zs => exact show PES G X P _ b from ih.ex b .s c _ X (by omega) h.2 xc
    cases m with
    | s => exact val rfl
    | w => exact PE_weak (val rfl)
    | t =>
      have h1 : a.ok .t c x = true := h.1
      have ha := (ih.ex a .t c x X (by omega) h1 xc).1
      have pw : PW X (.BoolOp .Or (x :: y :: ys) pos) (tT G ((Ex.or a b).test P)) := by
        refine pt_orD ha ?_
        cases ys with
        | nil => exact pw_oneO (ih.ex b .t c y X (by omega) h.2 xc).1
        | cons z zs => exact (ih.ex b .t c (.BoolOp .Or (y :: z :: zs) pos) X (by omega) h.2 xc).2 _ _ _ rfl
      exact ⟨pw.pt, fun op vs p e => e ▸ pw⟩

/-! ### operations -/
theorem snd_cmp {X : Cx} {x : Expr} {e : Ex} {m : Mode} (hb : ∀ op vs p, x ≠ .BoolOp op vs p) (h : PES G X P x e) (ht : PT X x (tT G (e.test P))) : Snd G P X x e m := by
  cases m with
  | s => exact h
  | w => exact PE_weak h
  | t => exact ⟨ht, fun op vs p z => (hb op vs p z).elim⟩
theorem isiB_inv {c : Cc} {n n2 : Str} {f : Expr → Bool} {xs : List Expr} (h : isiB c n n2 f xs = true) : ∃ x n3 p, xs = [x, .Name n3 p] ∧ n = "isinstance" ∧ n3 = n2 ∧ bnB c n = true ∧ bnB c n3 = true ∧ f x = true ∧ notStarB x = true := by
  unfold isiB at h
  split at h
  · simp only [Bool.and_eq_true, decide_eq_true_eq] at h
    obtain ⟨⟨⟨⟨⟨h1, h2⟩, h3⟩, h4⟩, h5⟩, h6⟩ := h
    exact ⟨_, _, _, rfl, h1, h2, h3, h4, h5, h6⟩
  · cases h
theorem ssetB_inv {c : Cc} {n : Str} {f : Expr → Bool} {xs : List Expr} (h : ssetB c n f xs = true) : ∃ n2 p x pos, xs = [.Call (.Name n2 p) [x] [] pos] ∧ n = "sorted" ∧ n2 = "set" ∧ bnB c n = true ∧ bnB c n2 = true ∧ f x = true ∧ notStarB x = true := by
  unfold ssetB at h
  split at h
  · simp only [Bool.and_eq_true, decide_eq_true_eq] at h
    obtain ⟨⟨⟨⟨⟨h1, h2⟩, h3⟩, h4⟩, h5⟩, h6⟩ := h
    exact ⟨_, _, _, _, rfl, h1, h2, h3, h4, h5, h6⟩
  · cases h
theorem st_prim (ih : IHs G P n) {p : Pr} {es : Exs} {m : Mode} {c : Cc} {x : Expr} {X : Cx} (hs : sizeOf (Ex.prim p es) < n + 1) (h : (Ex.prim p es).ok m c x = true) (xc : XC G c P X) : Snd G P X x (.prim p es) m := by
  simp only [Ex.prim.sizeOf_spec] at hs
  cases p with
  | bo o =>
    rcases es with _ | ⟨a, _ | ⟨b, _ | ⟨d, es⟩ | ⟨d, es⟩⟩ | ⟨b, es⟩⟩ | ⟨a, es⟩ <;> try (cases x <;> exact absurd (show false = true from h) Bool.false_ne_true)
    cases x <;> try (exact absurd (show false = true from h) Bool.false_ne_true)
    rename_i x op y pos
    have h : (decide (op = boOp o) && a.ok .w c x && b.ok .w c y) = true := h
    simp only [Bool.and_eq_true, decide_eq_true_eq] at h
    obtain ⟨⟨rfl, h1⟩, h2⟩ := h
    simp only [Exs.cons.sizeOf_spec] at hs
    exact snd_plain xc.xa rfl (pe_bo xc.xa (ih.ex a .w c x X (by omega) h1 xc) (ih.ex b .w c y X (by omega) h2 xc)) test_prim m
  | co o =>
    rcases es with _ | ⟨a, _ | ⟨b, _ | ⟨d, es⟩ | ⟨d, es⟩⟩ | ⟨b, es⟩⟩ | ⟨a, es⟩ <;> try (cases x <;> exact absurd (show false = true from h) Bool.false_ne_true)
    cases x <;> try (exact absurd (show false = true from h) Bool.false_ne_true)
    rename_i x ops ys pos
    rcases ops with _ | ⟨op, _ | ⟨op2, ops⟩⟩ <;> rcases ys with _ | ⟨y, _ | ⟨y2, ys⟩⟩ <;> try (exact absurd (show false = true from h) Bool.false_ne_true)
    have h : (decide (op = coOp o) && a.ok .w c x && b.ok .w c y && notSetB y) = true := h
    simp only [Bool.and_eq_true, decide_eq_true_eq] at h
    obtain ⟨⟨⟨rfl, h1⟩, h2⟩, h3⟩ := h
    simp only [Exs.cons.sizeOf_spec] at hs
    have ha : PEW G X P x a := ih.ex a .w c x X (by omega) h1 xc
    have hb : PEW G X P y b := ih.ex b .w c y X (by omega) h2 xc
    exact snd_cmp (fun _ _ _ z => nomatch z) (pe_co xc.xa ha hb (notSet_mark h3)) (pt_coD xc.xa ha hb (notSet_mark h3))
  | sub =>
    rcases es with _ | ⟨a, _ | ⟨b, _ | ⟨d, es⟩ | ⟨d, es⟩⟩ | ⟨b, es⟩⟩ | ⟨a, es⟩ <;> try (cases x <;> exact absurd (show false = true from h) Bool.false_ne_true)
    cases x <;> try (exact absurd (show false = true from h) Bool.false_ne_true)
    rename_i x y pos
    have h : (a.ok .w c x && b.ok .w c y && notSliceB y) = true := h
    simp only [Bool.and_eq_true] at h
    obtain ⟨⟨h1, h2⟩, h3⟩ := h
    simp only [Exs.cons.sizeOf_spec] at hs
    exact snd_plain xc.xa rfl (pe_sub' xc.xa (ih.ex a .w c x X (by omega) h1 xc) (ih.ex b .w c y X (by omega) h2 xc) (notSlice_ix h3)) test_prim m
  | neg =>
    rcases es with _ | ⟨a, _ | ⟨b, es⟩ | ⟨b, es⟩⟩ | ⟨a, es⟩ <;> try (cases x <;> exact absurd (show false = true from h) Bool.false_ne_true)
    cases x <;> try (exact absurd (show false = true from h) Bool.false_ne_true)
    rename_i op x pos
    cases op <;> try (exact absurd (show false = true from h) Bool.false_ne_true)
    have h : (m.notT && a.ok .w c x) = true := h
    simp only [Bool.and_eq_true] at h
    simp only [Exs.cons.sizeOf_spec] at hs
    exact snd_val (pe_neg xc.xa (ih.ex a .w c x X (by omega) h.2 xc)) m h.1
  | rev => cases x <;> exact absurd (show false = true from h) Bool.false_ne_true
  | cut lo hi =>
    cases lo <;> cases hi
    · cases x <;> exact absurd (show false = true from h) Bool.false_ne_true
    · rcases es with _ | ⟨a, _ | ⟨b, _ | ⟨d, es⟩ | ⟨d, es⟩⟩ | ⟨b, es⟩⟩ | ⟨a, es⟩ <;> try (cases x <;> exact absurd (show false = true from h) Bool.false_ne_true)
      cases x <;> try (exact absurd (show false = true from h) Bool.false_ne_true)
      rename_i x s pos
      cases s <;> try (exact absurd (show false = true from h) Bool.false_ne_true)
      rename_i l u st p2
      cases l <;> cases u <;> cases st <;> try (exact absurd (show false = true from h) Bool.false_ne_true)
      rename_i y
      have h : (a.ok .w c x && b.ok .w c y) = true := h
      simp only [Bool.and_eq_true] at h
      simp only [Exs.cons.sizeOf_spec] at hs
      exact snd_plain xc.xa rfl (pe_cut01 xc.xa (ih.ex a .w c x X (by omega) h.1 xc) (ih.ex b .w c y X (by omega) h.2 xc)) test_prim m
    · rcases es with _ | ⟨a, _ | ⟨b, _ | ⟨d, es⟩ | ⟨d, es⟩⟩ | ⟨b, es⟩⟩ | ⟨a, es⟩ <;> try (cases x <;> exact absurd (show false = true from h) Bool.false_ne_true)
      cases x <;> try (exact absurd (show false = true from h) Bool.false_ne_true)
      rename_i x s pos
      cases s <;> try (exact absurd (show false = true from h) Bool.false_ne_true)
      rename_i l u st p2
      cases l <;> cases u <;> cases st <;> try (exact absurd (show false = true from h) Bool.false_ne_true)
      rename_i y
      have h : (a.ok .w c x && b.ok .w c y) = true := h
      simp only [Bool.and_eq_true] at h
      simp only [Exs.cons.sizeOf_spec] at hs
      exact snd_plain xc.xa rfl (pe_cut10 xc.xa (ih.ex a .w c x X (by omega) h.1 xc) (ih.ex b .w c y X (by omega) h.2 xc)) test_prim m
    · rcases es with _ | ⟨a, _ | ⟨b, _ | ⟨d, _ | ⟨f, es⟩ | ⟨f, es⟩⟩ | ⟨d, es⟩⟩ | ⟨b, es⟩⟩ | ⟨a, es⟩ <;> try (cases x <;> exact absurd (show false = true from h) Bool.false_ne_true)
      cases x <;> try (exact absurd (show false = true from h) Bool.false_ne_true)
      rename_i x s pos
      cases s <;> try (exact absurd (show false = true from h) Bool.false_ne_true)
      rename_i l u st p2
      cases l <;> cases u <;> cases st <;> try (exact absurd (show false = true from h) Bool.false_ne_true)
      rename_i y z
      have h : (a.ok .w c x && b.ok .w c y && d.ok .w c z) = true := h
      simp only [Bool.and_eq_true] at h
      simp only [Exs.cons.sizeOf_spec] at hs
      exact snd_plain xc.xa rfl (pe_cut11 xc.xa (ih.ex a .w c x X (by omega) h.1.1 xc) (ih.ex b .w c y X (by omega) h.1.2 xc) (ih.ex d .w c z X (by omega) h.2 xc)) test_prim m
  | bi b =>
    cases x <;> try (exact absurd (show false = true from h) Bool.false_ne_true)
    rename_i f xs kw pos
    cases f <;> try (exact absurd (show false = true from h) Bool.false_ne_true)
    rename_i nm p
    rcases kw with _ | ⟨_, _⟩
    · have h : biB b c nm xs (es.okw c xs) (fun x => es.one c x) = true := h
      refine snd_plain xc.xa rfl ?_ test_prim m
      unfold biB at h
      by_cases hb : biPlain b = true
      · rw [if_pos hb] at h
        simp only [Bool.and_eq_true, decide_eq_true_eq, Bool.not_eq_true'] at h
        obtain ⟨⟨⟨rfl, h1⟩, h2⟩, h3⟩ := h
        obtain ⟨b1, b2⟩ := bn_of xc h1
        obtain ⟨i1, i2⟩ := ih.ew es c xs X (by omega) h3 xc
        rcases xs with _ | ⟨x, xs⟩
        · simp at h2
        · simp only [List.all_cons, Bool.and_eq_true] at i2
          exact pe_bi xc.xa hb b1 b2 i1 (star_ne i2.1) (plain_any i2.2)
      · rw [if_neg hb] at h
        cases hn : isName b with
        | some q =>
          obtain ⟨T, n2⟩ := q
          rw [hn] at h
          obtain ⟨x, n3, p3, rfl, rfl, rfl, h3, h4, h5, h6⟩ := isiB_inv h
          obtain ⟨b1, b2⟩ := bn_of xc h3
          obtain ⟨b3, b4⟩ := bn_of xc h4
          obtain ⟨a, rfl, pe⟩ := ih.on es c x X (by omega) h5 xc
          exact pe_isi xc.xa hn b1 b2 b3 b4 pe (star_ne h6)
        | none =>
          rw [hn] at h
          cases b <;> try (exact absurd (show false = true from h) Bool.false_ne_true)
          obtain ⟨n2, p2, x, pos2, rfl, rfl, rfl, h3, h4, h5, h6⟩ := ssetB_inv (show ssetB c nm (fun x => es.one c x) xs = true from h)
          obtain ⟨b1, b2⟩ := bn_of xc h3
          obtain ⟨b3, b4⟩ := bn_of xc h4
          obtain ⟨a, rfl, pe⟩ := ih.on es c x X (by omega) h5 xc
          exact pe_sset xc.xa b1 b2 b3 b4 pe (star_ne h6)
    · exact absurd (show false = true from h) Bool.false_ne_true
end
end Dp
set_option Elab.async false
set_option linter.all false
set_option maxRecDepth 100000
set_option maxHeartbeats 8000000
/-! Dp19: a checked expression does what the small language says: the end. -/
namespace Dp
open PySem PySem.Spec PyProof.Rows L2 PySem.W PySem.SeqAt

section
variable {G : Gx} {P : Par} {n : Nat}
theorem es_plain : ∀ {es : Exs} {m : Mode} {c : Cc} {xs : List Expr}, es.ok m c xs = true → es.plain = true → xs.all notStarB = true
  | .nil, m, c, xs, h, hp => by
    cases xs with
    | nil => rfl
    | cons _ _ => exact absurd (show false = true from h) Bool.false_ne_true
  | .cons e es, m, c, xs, h, hp => by
    cases xs with
    | nil => exact absurd (show false = true from h) Bool.false_ne_true
    | cons x xs =>
      have h : (e.ok .s c x && notStarB x && es.ok .s c xs) = true := by
        cases x <;> exact h
      simp only [Bool.and_eq_true] at h
      simp [h.1.2, es_plain h.2 hp]
  | .star e es, m, c, xs, h, hp => absurd (show false = true from hp) Bool.false_ne_true
theorem varB_inv {c : Cc} {i : Nat} {x : Expr} (h : varB c i x = true) : ∃ y p, x = .Name y p ∧ c.N[i]? = some y ∧ visB c.sc y = true ∧ nameB y = true := by
  cases x <;> try (exact absurd (show false = true from h) Bool.false_ne_true)
  rename_i y p
  have h : (decide (c.N[i]? = some y) && visB c.sc y && nameB y) = true := h
  simp only [Bool.and_eq_true, decide_eq_true_eq] at h
  exact ⟨y, p, rfl, h.1.1, h.1.2, h.2⟩
theorem st_ex (ih : IHs G P n) : ∀ (e : Ex) (m : Mode) (c : Cc) (x : Expr) (X : Cx), sizeOf e < n + 1 → e.ok m c x = true → XC G c P X → Snd G P X x e m := by
  intro e m c x X hs h xc
  cases e with
  | v i =>
    obtain ⟨y, p, rfl, h1, h2, h3⟩ := varB_inv (show varB c i x = true from h)
    obtain ⟨h4, h5⟩ := nameB_inv h3
    exact snd_plain xc.xa rfl (pe_v (by rw [xc.N]; exact h1) (vis_of xc h2) h4 h5) test_v m
  | bor i =>
    have h : (m.notS && varB c i x) = true := h
    rw [Bool.and_eq_true] at h
    obtain ⟨y, p, rfl, h1, h2, h3⟩ := varB_inv h.2
    obtain ⟨h4, h5⟩ := nameB_inv h3
    have pw : PEW G X P (.Name y p) (.bor i) := pe_bor (by rw [xc.N]; exact h1) (vis_of xc h2) h4 h5
    cases m with
    | s => exact absurd (show false = true from h.1) Bool.false_ne_true
    | w => exact pw
    | t => exact ⟨pt_of xc.xa pw (fun _ => rfl) test_bor, fun op vs p z => nomatch z⟩
  | lit d =>
    cases x <;> try (exact absurd (show false = true from h) Bool.false_ne_true)
    exact snd_plain xc.xa rfl (pe_lit h) test_lit m
  | glob k =>
    replace h : (m.notT && globB c k x) = true := h
    rw [Bool.and_eq_true] at h
    obtain ⟨h0, h⟩ := h
    cases x <;> try (exact absurd (show false = true from h) Bool.false_ne_true)
    rename_i y p
    have h : (decide (c.gn[k]? = some y) && glB c.sc y && nameB y) = true := h
    simp only [Bool.and_eq_true, decide_eq_true_eq] at h
    obtain ⟨v, u, q1, q2, q3⟩ := xc.gl k y h.1.1
    exact snd_val (pe_globD (gl_of xc h.1.2) q1 q2 q3 (nameB_inv h.2).1) m h0
  | tup es =>
    cases x <;> try (exact absurd (show false = true from h) Bool.false_ne_true)
    rename_i xs k pos
    have h : (m.notT && es.ok .s c xs) = true := h
    rw [Bool.and_eq_true] at h
    simp only [Ex.tup.sizeOf_spec] at hs
    exact snd_val (pe_tupD (ih.es es .s c xs X (by omega) h.2 xc)) m h.1
  | lst es =>
    have hn : m.notT = true := by
      cases x <;> try (exact absurd (show false = true from h) Bool.false_ne_true)
      rename_i xs pos
      have h : (m.notT && es.ok .s c xs) = true := h
      rw [Bool.and_eq_true] at h
      exact h.1
    exact snd_val (pe_fresh (st_fr ih (.lst es) m c x X hs h rfl xc)) m hn
  | prim p es => exact st_prim ih hs h xc
  | and a b => exact st_and ih hs h xc
  | or a b => exact st_or ih hs h xc
  | not a =>
    cases x <;> try (exact absurd (show false = true from h) Bool.false_ne_true)
    rename_i op x pos
    cases op <;> try (exact absurd (show false = true from h) Bool.false_ne_true)
    have h : a.ok (if m.isT then .t else .w) c x = true := h
    simp only [Ex.not.sizeOf_spec] at hs
    cases m with
    | s => exact pe_notD xc.xa (ih.ex a .w c x X (by omega) h xc)
    | w => exact PE_weak (pe_notD xc.xa (ih.ex a .w c x X (by omega) h xc))
    | t => exact ⟨pt_notD (ih.ex a .t c x X (by omega) h xc).1, fun op vs p z => nomatch z⟩
  | ife e a b =>
    cases x <;> try (exact absurd (show false = true from h) Bool.false_ne_true)
    rename_i z x y pos
    have h : (m.notT && e.ok .t c z && a.ok .s c x && b.ok .s c y) = true := h
    simp only [Bool.and_eq_true] at h
    simp only [Ex.ife.sizeOf_spec] at hs
    exact snd_val (pe_iteD (ih.ex e .t c z X (by omega) h.1.1.2 xc).1 (ih.ex a .s c x X (by omega) h.1.2 xc) (ih.ex b .s c y X (by omega) h.2 xc)) m h.1.1.1
  | chain o o' a b d =>
    cases x <;> try (exact absurd (show false = true from h) Bool.false_ne_true)
    rename_i x ops ys pos
    rcases ops with _ | ⟨op, _ | ⟨op', _ | ⟨_, _⟩⟩⟩ <;> rcases ys with _ | ⟨y, _ | ⟨z, _ | ⟨_, _⟩⟩⟩ <;> try (exact absurd (show false = true from h) Bool.false_ne_true)
    have h : (decide (op = coOp o) && decide (op' = coOp o') && a.ok .s c x && b.ok .s c y && d.ok .s c z && notSetB z) = true := h
    simp only [Bool.and_eq_true, decide_eq_true_eq] at h
    obtain ⟨⟨⟨⟨⟨rfl, rfl⟩, h1⟩, h2⟩, h3⟩, h4⟩ := h
    simp only [Ex.chain.sizeOf_spec] at hs
    have ha : PES G X P x a := ih.ex a .s c x X (by omega) h1 xc
    have hb : PES G X P y b := ih.ex b .s c y X (by omega) h2 xc
    have hd : PES G X P z d := ih.ex d .s c z X (by omega) h3 xc
    exact snd_cmp (fun _ _ _ z => nomatch z) (pe_chainD xc.xa ha hb hd (notSet_last h4)) (pt_chainD xc.xa ha hb hd (notSet_last h4))
  | call f es =>
    cases x <;> try (exact absurd (show false = true from h) Bool.false_ne_true)
    rename_i g xs kw pos
    cases g <;> try (exact absurd (show false = true from h) Bool.false_ne_true)
    rename_i nm p
    rcases kw with _ | ⟨_, _⟩
    · replace h : (decide (c.fn[f]? = some nm) && glB c.sc nm && nameB nm && es.ok .s c xs && es.plain) = true := h
      simp only [Bool.and_eq_true, decide_eq_true_eq] at h
      obtain ⟨⟨⟨⟨h1, h2⟩, h3⟩, h4⟩, h5⟩ := h
      simp only [Ex.call.sizeOf_spec] at hs
      obtain ⟨a, q1, q2, q3⟩ := xc.call f nm h1
      have pl := es_plain h4 h5
      have hc := q3 X (SameC.refl X)
      refine snd_plain xc.xa rfl ?_ test_call m
      rcases xs with _ | ⟨x, xs⟩
      · rcases es with _ | ⟨_, _⟩ | ⟨_, _⟩
        · exact pe_callF0 (gl_of xc h2) q1 q2 hc (nameB_inv h3).1
        · exact absurd (show false = true from h4) Bool.false_ne_true
        · exact absurd (show false = true from h4) Bool.false_ne_true
      · simp only [List.all_cons, Bool.and_eq_true] at pl
        exact pe_callF (gl_of xc h2) q1 q2 hc (ih.es es .s c (x :: xs) X (by omega) h4 xc) (nameB_inv h3).1 (star_ne pl.1) (plain_any pl.2)
    · exact absurd (show false = true from h) Bool.false_ne_true
  | lc own tg it ts e =>
    have hn : m.notT = true := by
      cases x <;> try (exact absurd (show false = true from h) Bool.false_ne_true)
      rename_i elt gens scope pos
      rcases gens with _ | ⟨⟨t, iter, ifs, a⟩, _ | ⟨g2, r⟩⟩
      · exact absurd (show false = true from h) Bool.false_ne_true
      · replace h : (m.notT && decide (a = 0) && blkB c.N c.sc scope own && it.ok false c t iter && notSetB iter && tgB (c.blk scope) tg t && (tg.ixs.all fun i => own.any fun j => decide (j = i)) && ts.okT (c.blk scope) ifs && e.ok .s (c.blk scope) elt) = true := h
        simp only [Bool.and_eq_true] at h
        exact h.1.1.1.1.1.1.1.1
      · exact absurd (show false = true from h) Bool.false_ne_true
    exact snd_val (pe_fresh (st_fr ih (.lc own tg it ts e) m c x X hs h rfl xc)) m hn
  | lc2 _ _ _ _ _ _ _ _ _ => cases x <;> exact absurd (show false = true from h) Bool.false_ne_true
  | dc own tg it ts k e =>
    have hn : m.notT = true := by
      cases x <;> try (exact absurd (show false = true from h) Bool.false_ne_true)
      rename_i kx vx gens scope pos
      rcases gens with _ | ⟨⟨t, iter, ifs, a⟩, _ | ⟨g2, r⟩⟩
      · exact absurd (show false = true from h) Bool.false_ne_true
      · replace h : (m.notT && decide (a = 0) && blkB c.N c.sc scope own && it.ok false c t iter && notSetB iter && tgB (c.blk scope) tg t && (tg.ixs.all fun i => own.any fun j => decide (j = i)) && ts.okT (c.blk scope) ifs && k.ok .s (c.blk scope) kx && e.ok .s (c.blk scope) vx) = true := h
        simp only [Bool.and_eq_true] at h
        exact h.1.1.1.1.1.1.1.1.1
      · exact absurd (show false = true from h) Bool.false_ne_true
    exact snd_val (pe_fresh (st_fr ih (.dc own tg it ts k e) m c x X hs h rfl xc)) m hn
  | dict ks vs =>
    have hn : m.notT = true := by
      cases x <;> try (exact absurd (show false = true from h) Bool.false_ne_true)
      rename_i kx vx pos
      replace h : (m.notT && (litKeys ks kx).isSome && vs.ok .s c vx && vs.plain && decide (kx.length = vx.length) && !kx.isEmpty && decide (kx.length ≤ 15)) = true := h
      simp only [Bool.and_eq_true] at h
      exact h.1.1.1.1.1.1
    exact snd_val (pe_fresh (st_fr ih (.dict ks vs) m c x X hs h rfl xc)) m hn
  | rngx t one a b =>
    have hcase : ∃ nm p n2 p2 xs pos pos2, x = .Call (.Name nm p) [.Call (.Name n2 p2) xs [] pos2] [] pos := by
      cases x <;> try (cases one <;> exact absurd (show false = true from h) Bool.false_ne_true)
      rename_i f ys kw pos
      cases f <;> try (cases one <;> exact absurd (show false = true from h) Bool.false_ne_true)
      rename_i nm p
      rcases ys with _ | ⟨y, _ | ⟨_, _⟩⟩ <;> try (cases one <;> exact absurd (show false = true from h) Bool.false_ne_true)
      · cases y <;> try (cases one <;> exact absurd (show false = true from h) Bool.false_ne_true)
        rename_i f2 xs kw2 pos2
        cases f2 <;> try (cases one <;> exact absurd (show false = true from h) Bool.false_ne_true)
        rename_i n2 p2
        rcases kw with _ | ⟨_, _⟩ <;> rcases kw2 with _ | ⟨_, _⟩
        · exact ⟨nm, p, n2, p2, xs, pos, pos2, rfl⟩
        · cases one <;> rcases xs with _ | ⟨_, _ | ⟨_, _ | ⟨_, _⟩⟩⟩ <;> exact absurd (show false = true from h) Bool.false_ne_true
        · cases one <;> rcases xs with _ | ⟨_, _ | ⟨_, _ | ⟨_, _⟩⟩⟩ <;> exact absurd (show false = true from h) Bool.false_ne_true
        · cases one <;> rcases xs with _ | ⟨_, _ | ⟨_, _ | ⟨_, _⟩⟩⟩ <;> exact absurd (show false = true from h) Bool.false_ne_true
      · cases y <;> try (cases one <;> exact absurd (show false = true from h) Bool.false_ne_true)
        rename_i f2 xs kw2 pos2
        cases f2 <;> try (cases one <;> exact absurd (show false = true from h) Bool.false_ne_true)
        cases one <;> rcases kw2 with _ | ⟨_, _⟩ <;> rcases xs with _ | ⟨_, _ | ⟨_, _ | ⟨_, _⟩⟩⟩ <;> exact absurd (show false = true from h) Bool.false_ne_true
    obtain ⟨nm, p, n2, p2, xs, pos, pos2, rfl⟩ := hcase
    simp only [Ex.rngx.sizeOf_spec] at hs
    cases one with
    | true =>
      rcases xs with _ | ⟨x, _ | ⟨y, r⟩⟩ <;> try (exact absurd (show false = true from h) Bool.false_ne_true)
      replace h : (m.notT && decide (nm = if t then "tuple" else "list") && decide (n2 = "range") && bnB c nm && bnB c n2 && (match exLit a with | some (.int i) => decide (i = 0) | _ => false) && b.ok .s c x && notStarB x) = true := h
      simp only [Bool.and_eq_true, decide_eq_true_eq] at h
      obtain ⟨⟨⟨⟨⟨⟨⟨h0, h1⟩, rfl⟩, h3⟩, h4⟩, h5⟩, h6⟩, h7⟩ := h
      obtain ⟨b1, b2⟩ := bn_of xc h3
      obtain ⟨b3, b4⟩ := bn_of xc h4
      have hb : PES G X P x b := ih.ex b .s c x X (by omega) h6 xc
      have ha : a = .lit (.int 0) := by
        cases a <;> simp [exLit] at h5
        rename_i d
        cases d <;> simp at h5
        rw [h5]
      subst ha
      have pr := prg_one (P := P) (p := p2) (pos := pos2) b3 b4 hb (star_ne h7)
      refine snd_val ?_ m h0
      cases t with
      | true => subst h1; exact pe_rngxT xc.xa b1 b2 pr rfl
      | false => subst h1; exact pe_rngxL xc.xa b1 b2 pr rfl
    | false =>
      rcases xs with _ | ⟨x, _ | ⟨y, _ | ⟨z, r⟩⟩⟩ <;> try (exact absurd (show false = true from h) Bool.false_ne_true)
      replace h : (m.notT && decide (nm = if t then "tuple" else "list") && decide (n2 = "range") && bnB c nm && bnB c n2 && a.ok .s c x && b.ok .s c y && notStarB x && notStarB y) = true := h
      simp only [Bool.and_eq_true, decide_eq_true_eq] at h
      obtain ⟨⟨⟨⟨⟨⟨⟨⟨h0, h1⟩, rfl⟩, h3⟩, h4⟩, h5⟩, h6⟩, h7⟩, h8⟩ := h
      obtain ⟨b1, b2⟩ := bn_of xc h3
      obtain ⟨b3, b4⟩ := bn_of xc h4
      have pr := prg_two (P := P) (p := p2) (pos := pos2) b3 b4 (show PES G X P x a from ih.ex a .s c x X (by omega) h5 xc) (show PES G X P y b from ih.ex b .s c y X (by omega) h6 xc) (star_ne h7) (star_ne h8)
      refine snd_val ?_ m h0
      cases t with
      | true => subst h1; exact pe_rngxT xc.xa b1 b2 pr rfl
      | false => subst h1; exact pe_rngxL xc.xa b1 b2 pr rfl
  | new e =>
    have h : (m.notT && e.ok .s c x && e.fr) = true := h
    simp only [Bool.and_eq_true] at h
    simp only [Ex.new.sizeOf_spec] at hs
    exact snd_val (pe_new (ih.fr e .s c x X (by omega) h.1.2 h.2 xc)) m h.1.1

/-- all terms -/
theorem snd_all : ∀ n : Nat, IHs G P n
  | 0 => ⟨fun _ _ _ _ _ h => absurd h (Nat.not_lt_zero _), fun _ _ _ _ _ h => absurd h (Nat.not_lt_zero _), fun _ _ _ _ h => absurd h (Nat.not_lt_zero _), fun _ _ _ _ h => absurd h (Nat.not_lt_zero _), fun _ _ _ _ h => absurd h (Nat.not_lt_zero _),
    fun _ _ _ _ _ _ h => absurd h (Nat.not_lt_zero _), fun _ _ _ _ _ h => absurd h (Nat.not_lt_zero _), fun _ _ _ _ _ h => absurd h (Nat.not_lt_zero _)⟩
  | n + 1 =>
    have ih := snd_all n
    ⟨st_ex ih, st_es ih, st_ew ih, st_on ih, fun es c xs X hs h xc => st_et ih es c xs X hs h xc, st_it ih, st_pv ih, st_fr ih⟩
theorem ex_s {e : Ex} {c : Cc} {x : Expr} {X : Cx} (h : e.ok .s c x = true) (xc : XC G c P X) : PES G X P x e := (snd_all (sizeOf e + 1)).ex e .s c x X (Nat.lt_succ_self _) h xc
theorem ex_w {e : Ex} {c : Cc} {x : Expr} {X : Cx} (h : e.ok .w c x = true) (xc : XC G c P X) : PEW G X P x e := (snd_all (sizeOf e + 1)).ex e .w c x X (Nat.lt_succ_self _) h xc
theorem ex_t {e : Ex} {c : Cc} {x : Expr} {X : Cx} (h : e.ok .t c x = true) (xc : XC G c P X) : PT X x (tT G (e.test P)) := ((snd_all (sizeOf e + 1)).ex e .t c x X (Nat.lt_succ_self _) h xc).1
theorem ex_f {e : Ex} {c : Cc} {x : Expr} {X : Cx} (h : e.ok .s c x = true) (hf : e.fr = true) (xc : XC G c P X) : PEF G X P x e := (snd_all (sizeOf e + 1)).fr e .s c x X (Nat.lt_succ_self _) h hf xc
theorem it_s {it : It} {c : Cc} {t x : Expr} {X : Cx} (h : it.ok true c t x = true) (xc : XC G c P X) : PI X t x (tI G true (it.ev P)) := (snd_all (sizeOf it + 1)).it it true c t x X (Nat.lt_succ_self _) h xc
theorem exs_s {es : Exs} {c : Cc} {xs : List Expr} {X : Cx} (h : es.ok .s c xs = true) (xc : XC G c P X) : PA X xs (tAs G (relsS G) (es.ev P)) := (snd_all (sizeOf es + 1)).es es .s c xs X (Nat.lt_succ_self _) h xc
end
end Dp
set_option Elab.async false
set_option linter.all false
set_option maxRecDepth 100000
set_option maxHeartbeats 8000000
/-! Dp20: statements: the state between two, the steps. -/
namespace Dp
open PySem PySem.Spec PyProof.Rows L2 PySem.W PySem.SeqAt

/-- a step of the heap: only M may change -/
structure StS (M ρ : List Addr) (H : Hp) (M' ρ' : List Addr) (H' : Hp) : Prop where
  pres : ∀ a o, H a = some o → a ∉ M → H' a = some o
  out : ∀ a o, H a = some o → a ∉ M → a ∉ M'
  refs : ∀ (n : Nat) a, ρ[n]? = some a → ρ'[n]? = some a
theorem StS.refl (M ρ : List Addr) (H : Hp) : StS M ρ H M ρ H := ⟨fun _ _ h _ => h, fun _ _ _ h => h, fun _ _ h => h⟩
theorem StS.trans {M M1 M2 ρ ρ1 ρ2 : List Addr} {H H1 H2 : Hp} (a : StS M ρ H M1 ρ1 H1) (b : StS M1 ρ1 H1 M2 ρ2 H2) : StS M ρ H M2 ρ2 H2 :=
  ⟨fun x o h n => b.pres x o (a.pres x o h n) (a.out x o h n), fun x o h n => b.out x o (a.pres x o h n) (a.out x o h n), fun n x h => b.refs n x (a.refs n x h)⟩
theorem Stp.sts {B ρ ρ' : List Addr} {H H' : Hp} (s : Stp ρ H ρ' H') : StS (ρ ++ B) ρ H (ρ' ++ B) ρ' H' :=
  ⟨fun a o e n => s.pres a o e fun q => n (List.mem_append_left _ q), stp_out s, s.refs⟩

/-- where a def's body stands: the entry's heap, what the body's names own -/
structure En where
  B : List Addr
  ρ : List Addr
  H : Hp
structure Sit (G : Gx) (e : En) (O : List Addr) (env : Env) (st : Store) (ρ : List Addr) (σ : L2.St) (H : Hp) : Prop where
  rs : RS (G := G) (O ++ e.B) st ρ H
  re : RE (G := G) (O ++ e.B) env ρ σ H
  sp : Stp e.ρ e.H ρ H
  new : ∀ a ∈ O, e.H a = none
  off : ∀ a ∈ O, a ∉ e.B
  own : ∀ (i : Nat) d, env[i]? = some (some (true, d)) → ∃ a, σ[i]? = some (some (.ref a)) ∧ a ∈ O
  one : ∀ (i j : Nat) d d' a, env[i]? = some (some (true, d)) → env[j]? = some (some (true, d')) → σ[i]? = some (some (.ref a)) → σ[j]? = some (some (.ref a)) → i = j
section
variable {G : Gx} {X : Cx} {P : Par} {e : En}
theorem Sit.stp {O : List Addr} {env : Env} {st st' : Store} {ρ ρ' : List Addr} {σ : L2.St} {H H' : Hp} (s : Sit G e O env st ρ σ H) (sp : Stp ρ H ρ' H') (rs : RS (G := G) (O ++ e.B) st' ρ' H') : Sit G e O env st' ρ' σ H' :=
  ⟨rs, s.re.stp s.rs.mt s.rs.off sp, s.sp.trans sp, s.new, s.off, s.own, s.one⟩
/-- what a statement's end must give -/
def EndsOk (G : Gx) (e : En) (O : List Addr) (ρ : List Addr) (H : Hp) (D : Ends) (fl : Flow) (env' : Env) (st' : Store) : Prop :=
  ∀ O' ρ' σ' H', Sit G e O' env' st' ρ' σ' H' → StS (ρ ++ (O ++ e.B)) ρ H (ρ' ++ (O' ++ e.B)) ρ' H' → match fl with
    | .next => D.nx σ' H'
    | .brk => D.bk σ' H'
    | .cont => D.ct σ' H'
    | .ret d => ∀ v, DV G (ρ' ++ (O' ++ e.B)) ρ' H' d v → D.rt v H'
def tS (G : Gx) (f : Env → Store → Res (Flow × Env)) : TS := fun D σ H => ∃ e O env st ρ fl env' st', Sit G e O env st ρ σ H ∧ f env st = .ok (fl, env') st' ∧ EndsOk G e O ρ H D fl env' st'
theorem PS_imp {x : Stmt} {t t' : TS} (h : PS X x t) (k : ∀ D σ H, t' D σ H → t D σ H) : PS X x t' := ⟨fun pins s σ H D I q => h.run pins s σ H D I (k _ _ _ q)⟩
theorem PSs_imp {x : List Stmt} {t t' : TS} (h : PSs X x t) (k : ∀ D σ H, t' D σ H → t D σ H) : PSs X x t' := ⟨fun pins s σ H D I q => h.run pins s σ H D I (k _ _ _ q)⟩
theorem tF_of {f : Env → Store → Res D} {σ : L2.St} {H : Hp} {Q : VK} (h : tE G (relS G) f σ H Q) : tF G f σ H Q := by
  obtain ⟨B, env, st, ρ, d, st', rs, re, ev, k⟩ := h
  exact ⟨B, env, st, ρ, d, st', rs, re, ev, fun a ρ' Hm o sp rs' hn c => k (.ref a) ρ' _ (sp.trans (Stp.laid hn)) (rs'.same (same_laid hn)) (c.dv rs' hn)⟩

/-! ### small statements -/
theorem pss_nilD : PSs X [] (tS G (Ss.nil.ex P)) := PSs_imp pss_nil fun D σ H ⟨e, O, env, st, ρ, fl, env', st', si, ev, k⟩ => by
  unfold Ss.ex at ev
  cases ev
  exact k O ρ σ H si (StS.refl _ _ _)
theorem pss_consD {x : Stmt} {xs : List Stmt} {s : St} {r : Ss} (h1 : PS X x (tS G (s.ex P))) (h2 : PSs X xs (tS G (r.ex P))) : PSs X (x :: xs) (tS G ((Ss.cons s r).ex P)) := PSs_imp (pss_cons h1 h2) fun D σ H ⟨e, O, env, st, ρ, fl, env', st', si, ev, k⟩ => by
  unfold Ss.ex at ev
  obtain ⟨⟨fl1, env1⟩, st1, e1, e2⟩ := Res.bind_eq ev
  refine ⟨e, O, env, st, ρ, fl1, env1, st1, si, e1, fun O1 ρ1 σ1 H1 si1 sp1 => ?_⟩
  cases fl1 with
  | next => exact ⟨e, O1, env1, st1, ρ1, fl, env', st', si1, e2, fun O2 ρ2 σ2 H2 si2 sp2 => k O2 ρ2 σ2 H2 si2 (sp1.trans sp2)⟩
  | brk => cases e2; exact k O1 ρ1 σ1 H1 si1 sp1
  | cont => cases e2; exact k O1 ρ1 σ1 H1 si1 sp1
  | ret d => cases e2; exact k O1 ρ1 σ1 H1 si1 sp1
theorem ps_passD {pos : Pos} : PS X (.Pass pos) (tS G (St.pass.ex P)) := PS_imp ps_pass fun D σ H ⟨e, O, env, st, ρ, fl, env', st', si, ev, k⟩ => by
  unfold St.ex at ev
  cases ev
  exact k O ρ σ H si (StS.refl _ _ _)
theorem ps_brkD {pos : Pos} : PS X (.Break pos) (tS G (St.brk.ex P)) := PS_imp ps_break fun D σ H ⟨e, O, env, st, ρ, fl, env', st', si, ev, k⟩ => by
  unfold St.ex at ev
  cases ev
  exact k O ρ σ H si (StS.refl _ _ _)
theorem ps_contD {pos : Pos} : PS X (.Continue pos) (tS G (St.cont.ex P)) := PS_imp ps_continue fun D σ H ⟨e, O, env, st, ρ, fl, env', st', si, ev, k⟩ => by
  unfold St.ex at ev
  cases ev
  exact k O ρ σ H si (StS.refl _ _ _)
theorem ps_raiseD {x : Stmt} : PS X x (tS G (St.raise.ex P)) := PS_imp ps_never fun D σ H ⟨e, O, env, st, ρ, fl, env', st', si, ev, k⟩ => by
  unfold St.ex at ev
  cases ev
theorem ps_expD {x : Expr} {a : Ex} {pos : Pos} (h : PES G X P x a) (hs : swapsWith x none pos.line X.env = pure false) : PS X (.Expr x pos) (tS G ((St.exp a).ex P)) := PS_imp (ps_expr h hs) fun D σ H ⟨e, O, env, st, ρ, fl, env', st', si, ev, k⟩ => by
  unfold St.ex at ev
  obtain ⟨d, st1, e1, e2⟩ := Res.bind_eq ev
  cases e2
  exact ⟨_, env, st, ρ, d, st', si.rs, si.re, e1, fun v ρ1 H1 sp1 rs1 q1 => k O ρ1 σ H1 (si.stp sp1 rs1) sp1.sts⟩
theorem ps_retD {x : Expr} {a : Ex} {pos : Pos} (h : PES G X P x a) : PS X (.Return (some x) pos) (tS G ((St.ret a).ex P)) := PS_imp (ps_ret h) fun D σ H ⟨e, O, env, st, ρ, fl, env', st', si, ev, k⟩ => by
  unfold St.ex at ev
  obtain ⟨d, st1, e1, e2⟩ := Res.bind_eq ev
  cases e2
  exact ⟨_, env, st, ρ, d, st', si.rs, si.re, e1, fun v ρ1 H1 sp1 rs1 q1 => k O ρ1 σ H1 (si.stp sp1 rs1) sp1.sts v q1⟩
theorem ps_retND {pos : Pos} : PS X (.Return none pos) (tS G ((St.ret (.lit .non)).ex P)) := PS_imp ps_retN fun D σ H ⟨e, O, env, st, ρ, fl, env', st', si, ev, k⟩ => by
  unfold St.ex Ex.ev at ev
  cases ev
  exact k O ρ σ H si (StS.refl _ _ _) .non rfl
theorem ps_ifD {c : Expr} {a b : List Stmt} {t : Ex} {u v : Ss} {pos : Pos} (hc : PT X c (tT G (t.test P))) (ha : PSs X a (tS G (u.ex P))) (hb : PSs X b (tS G (v.ex P))) : PS X (.If c a b pos) (tS G ((St.ifs t u v).ex P)) := PS_imp (ps_if hc ha hb) fun D σ H ⟨e, O, env, st, ρ, fl, env', st', si, ev, k⟩ => by
  unfold St.ex at ev
  obtain ⟨w, st1, e1, e2⟩ := Res.bind_eq ev
  refine ⟨_, env, st, ρ, w, st1, si.rs, si.re, e1, fun ρ1 H1 sp1 rs1 => ?_⟩
  cases w with
  | true => exact ⟨e, O, env, st1, ρ1, fl, env', st', si.stp sp1 rs1, e2, fun O2 ρ2 σ2 H2 si2 sp2 => k O2 ρ2 σ2 H2 si2 (sp1.sts.trans sp2)⟩
  | false => exact ⟨e, O, env, st1, ρ1, fl, env', st', si.stp sp1 rs1, e2, fun O2 ρ2 σ2 H2 si2 sp2 => k O2 ρ2 σ2 H2 si2 (sp1.sts.trans sp2)⟩

/-! ### stores -/
/-- a target that owns nothing -/
theorem sit_put {O : List Addr} {ρ : List Addr} {H : Hp} {st : Store} : ∀ (t : Tg) (d : D) (v : V) (env env' : Env) (σ : L2.St) (Q : L2.St → Hp → Prop), t.put d env = some env' → Sit G e O env st ρ σ H → DV G (ρ ++ (O ++ e.B)) ρ H d v →
    (∀ σ', Sit G e O env' st ρ σ' H → Q σ' H) → gT G.K t v σ H Q := by
  have set : ∀ {env : Env} {σ : L2.St} {i : Nat} {d : D} {v : V}, Sit G e O env st ρ σ H → DV G (ρ ++ (O ++ e.B)) ρ H d v → Sit G e O (env.set i (some (false, d))) st ρ (σ.set i (some v)) H := by
    intro env σ i d v s hd
    have low : ∀ (j : Nat) (x : D), (env.set i (some (false, d)))[j]? = some (some (true, x)) → i ≠ j ∧ env[j]? = some (some (true, x)) := by
      intro j x hj
      rw [List.getElem?_set] at hj
      by_cases hij : i = j
      · rw [if_pos hij] at hj
        split at hj <;> cases hj
      · rw [if_neg hij] at hj
        exact ⟨hij, hj⟩
    refine ⟨s.rs, re_set s.re hd, s.sp, s.new, s.off, fun j x hj => ?_, fun j k x y a hj hk aj ak => ?_⟩
    · obtain ⟨n, hj⟩ := low j x hj
      obtain ⟨a, h1, h2⟩ := s.own j x hj
      exact ⟨a, by rw [List.getElem?_set_ne n]; exact h1, h2⟩
    · obtain ⟨n1, hj⟩ := low j x hj
      obtain ⟨n2, hk⟩ := low k y hk
      rw [List.getElem?_set_ne n1] at aj
      rw [List.getElem?_set_ne n2] at ak
      exact s.one j k x y a hj hk aj ak
  intro t
  induction t with
  | name i =>
    intro d v env env' σ Q h s hd k
    cases h
    exact k _ (set s hd)
  | pair a b iha ihb =>
    intro d v env env' σ Q h s hd k
    unfold Tg.put at h
    split at h
    · rename_i x y
      obtain ⟨env1, e1, e2⟩ := Option.bind_eq_some_iff.mp h
      obtain ⟨p, vs, rfl, h1, h2⟩ := hd
      obtain ⟨u, r, rfl, g1, g2⟩ := h2
      obtain ⟨w, r, rfl, g3, g4⟩ := g2
      have g4 : r = [] := g4
      subst g4
      refine ⟨p, [u, w], rfl, h1, rfl, u, [w], rfl, iha x u env env1 σ _ e1 s g1 fun σ1 s1 => ?_⟩
      exact ⟨w, [], rfl, ihb y w env1 env' σ1 _ e2 s1 g3 fun σ2 s2 => ⟨rfl, k σ2 s2⟩⟩
    · cases h
  | trip a b c iha ihb ihc =>
    intro d v env env' σ Q h s hd k
    unfold Tg.put at h
    split at h
    · rename_i x y z
      obtain ⟨env1, e1, e'⟩ := Option.bind_eq_some_iff.mp h
      obtain ⟨env2, e2, e3⟩ := Option.bind_eq_some_iff.mp e'
      obtain ⟨p, vs, rfl, h1, h2⟩ := hd
      obtain ⟨u, r, rfl, g1, g2⟩ := h2
      obtain ⟨w, r, rfl, g3, g4⟩ := g2
      obtain ⟨w3, r, rfl, g5, g6⟩ := g4
      have g6 : r = [] := g6
      subst g6
      refine ⟨p, [u, w, w3], rfl, h1, rfl, u, [w, w3], rfl, iha x u env env1 σ _ e1 s g1 fun σ1 s1 => ?_⟩
      refine ⟨w, [w3], rfl, ihb y w env1 env2 σ1 _ e2 s1 g3 fun σ2 s2 => ?_⟩
      exact ⟨w3, [], rfl, ihc z w3 env2 env' σ2 _ e3 s2 g5 fun σ3 s3 => ⟨rfl, k σ3 s3⟩⟩
    · cases h
/-- an assignment, from the statement's own road -/
theorem asg_tr {t : Tg} {a : Ex} {D : Ends} {σ : L2.St} {H : Hp} (h : tS G ((St.asg t a).ex P) D σ H) : tAsg (tE G (relS G) (a.ev P)) (gT G.K t) D σ H := by
  obtain ⟨e, O, env, st, ρ, fl, env', st', si, ev, k⟩ := h
  unfold St.ex at ev
  obtain ⟨d, st1, e1, e2⟩ := Res.bind_eq ev
  cases hp : t.put d env with
  | none => rw [hp] at e2; cases e2
  | some env1 =>
    rw [hp] at e2
    cases e2
    exact ⟨_, env, st, ρ, d, st', si.rs, si.re, e1, fun v ρ1 H1 sp1 rs1 q1 => sit_put t d v env env' σ _ hp (si.stp sp1 rs1) q1 fun σ' s' => k O ρ1 σ' H1 s' sp1.sts⟩
/-- one name comes to own a new thing -/
theorem Sit.take {O : List Addr} {env : Env} {st : Store} {ρ : List Addr} {σ : L2.St} {H : Hp} {i : Nat} {d : D} {a : Addr} {o : HO} (s : Sit G e O env st ρ σ H) (hn : H a = none) (c : Cont G (ρ ++ (O ++ e.B)) ρ H d o) :
    Sit G e (a :: O) (env.set i (some (true, d))) st ρ (σ.set i (some (.ref a))) (upd H a o) ∧ StS (ρ ++ (O ++ e.B)) ρ H (ρ ++ (a :: O ++ e.B)) ρ (upd H a o) := by
  have hf := fresh_notin s.rs hn
  have rs1 := s.rs.block hn c.mt
  have re1 := s.re.block (o := o) s.rs.mt hn
  have haO : a ∉ O := fun z => hf (List.mem_append_right _ (List.mem_append_left _ z))
  have haB : a ∉ e.B := fun z => hf (List.mem_append_right _ (List.mem_append_right _ z))
  have hp : ∀ b v, H b = some v → upd H a o b = some v := fun b v q => by rw [upd_ne (ne_of_none q hn)]; exact q
  have hm : ∀ b v, H b = some v → b ∉ ρ ++ (O ++ e.B) → b ∉ ρ ++ (a :: (O ++ e.B)) := fun b v q n z => (of_cons z).elim (fun w => ne_of_none q hn w) n
  have he : e.H a = none := by
    cases q : e.H a with
    | none => rfl
    | some u =>
      exfalso
      by_cases hρ : a ∈ e.ρ
      · obtain ⟨n, hn'⟩ := List.getElem?_of_mem hρ
        exact hf (List.mem_append_left _ (List.mem_of_getElem? (s.sp.refs n a hn')))
      · exact ne_of_none (s.sp.pres a u q hρ) hn rfl
  have dw : DW G (ρ ++ (a :: (O ++ e.B))) ρ (upd H a o) d a := c.dw s.rs.mt (fun b v q _ => hp b v q) hm (fun _ _ h => h) upd_same
  have look : ∀ (j : Nat) (b : Bool) (x : D), (env.set i (some (true, d)))[j]? = some (some (b, x)) → (i = j ∧ b = true ∧ x = d ∧ (σ.set i (some (V.ref a)))[j]? = some (some (.ref a))) ∨ (i ≠ j ∧ env[j]? = some (some (b, x)) ∧ (σ.set i (some (V.ref a)))[j]? = σ[j]?) := by
    intro j b x hj
    rw [List.getElem?_set] at hj
    by_cases hij : i = j
    · subst hij
      rw [if_pos rfl] at hj
      split at hj
      · rename_i hl
        cases hj
        exact .inl ⟨rfl, rfl, rfl, by rw [List.getElem?_set_self (by rw [s.re.len]; exact hl)]⟩
      · cases hj
    · rw [if_neg hij] at hj
      exact .inr ⟨hij, hj, List.getElem?_set_ne hij⟩
  refine ⟨⟨rs1, ⟨by rw [List.length_set, List.length_set]; exact s.re.len, fun j x hj => ?_, fun j x hj => ?_⟩, ?_, fun b hb => ?_, fun b hb => ?_, fun j x hj => ?_, fun j k x y b hj hk aj ak => ?_⟩, fun b v q n => hp b v q, hm, fun _ _ h => h⟩
  · rcases look j _ x hj with ⟨_, z, _⟩ | ⟨_, hj, hs⟩
    · cases z
    · obtain ⟨v, h1, h2⟩ := re1.fre j x hj
      exact ⟨v, by rw [hs]; exact h1, h2⟩
  · rcases look j _ x hj with ⟨rfl, _, rfl, hs⟩ | ⟨_, hj, hs⟩
    · exact ⟨a, hs, List.mem_cons_self, dw⟩
    · obtain ⟨b, h1, h2, h3⟩ := re1.own j x hj
      exact ⟨b, by rw [hs]; exact h1, h2, h3⟩
  · exact s.sp.trans (Stp.laid hn)
  · rcases List.mem_cons.mp hb with rfl | hb
    · exact he
    · exact s.new b hb
  · rcases List.mem_cons.mp hb with rfl | hb
    · exact haB
    · exact s.off b hb
  · rcases look j _ x hj with ⟨rfl, _, rfl, hs⟩ | ⟨_, hj, hs⟩
    · exact ⟨a, hs, List.mem_cons_self⟩
    · obtain ⟨b, h1, h2⟩ := s.own j x hj
      exact ⟨b, by rw [hs]; exact h1, List.mem_cons_of_mem _ h2⟩
  · rcases look j _ x hj with ⟨ej, _, _, hs⟩ | ⟨nj, hj2, hs⟩
    · rcases look k _ y hk with ⟨ek, _, _, hs2⟩ | ⟨nk, hk2, hs2⟩
      · exact ej.symm.trans ek
      · rw [hs] at aj
        cases aj
        rw [hs2] at ak
        obtain ⟨b2, h1, h2⟩ := s.own k y hk2
        rw [ak] at h1
        cases h1
        exact (haO h2).elim
    · rcases look k _ y hk with ⟨ek, _, _, hs2⟩ | ⟨nk, hk2, hs2⟩
      · rw [hs2] at ak
        cases ak
        rw [hs] at aj
        obtain ⟨b2, h1, h2⟩ := s.own j x hj2
        rw [aj] at h1
        cases h1
        exact (haO h2).elim
      · rw [hs] at aj
        rw [hs2] at ak
        exact s.one j k x y b hj2 hk2 aj ak
theorem own_tr {i : Nat} {a : Ex} {D : Ends} {σ : L2.St} {H : Hp} (h : tS G ((St.own i a).ex P) D σ H) : tAsg (tF G (a.ev P)) (gName i) D σ H := by
  obtain ⟨e, O, env, st, ρ, fl, env', st', si, ev, k⟩ := h
  unfold St.ex at ev
  obtain ⟨d, st1, e1, e2⟩ := Res.bind_eq ev
  cases e2
  refine ⟨_, env, st, ρ, d, st', si.rs, si.re, e1, fun p ρ1 Hm o sp1 rs1 hn c => ?_⟩
  obtain ⟨s2, w2⟩ := (si.stp sp1 rs1).take (i := i) hn c
  exact k _ ρ1 _ _ s2 (sp1.sts.trans w2)
end
end Dp
set_option Elab.async false
set_option linter.all false
set_option maxRecDepth 100000
set_option maxHeartbeats 8000000
/-! Dp21: stores into owned things, into cells, loops. -/
namespace Dp
open PySem PySem.Spec PyProof.Rows L2 PySem.W PySem.SeqAt

section
variable {G : Gx} {X : Cx} {P : Par} {e : En}
theorem ownAt_eq {env : Env} {i : Nat} {d : D} (h : ownAt env i = some d) : env[i]? = some (some (true, d)) := by
  unfold ownAt at h
  split at h
  · rename_i d' q
    cases h
    exact q
  · cases h
/-- an owned thing changes -/
theorem Sit.chg {O : List Addr} {env : Env} {st : Store} {ρ : List Addr} {σ : L2.St} {H : Hp} {i : Nat} {d d' : D} {a : Addr} {o : HO} (s : Sit G e O env st ρ σ H) (hi : env[i]? = some (some (true, d))) (hσ : σ[i]? = some (some (.ref a))) (c : Cont G (ρ ++ (O ++ e.B)) ρ H d' o) :
    Sit G e O (env.set i (some (true, d'))) st ρ σ (upd H a o) ∧ StS (ρ ++ (O ++ e.B)) ρ H (ρ ++ (O ++ e.B)) ρ (upd H a o) := by
  obtain ⟨a', q1, haO⟩ := s.own i d hi
  rw [hσ] at q1
  cases q1
  have haB : a ∈ O ++ e.B := List.mem_append_left _ haO
  have hM : a ∈ ρ ++ (O ++ e.B) := List.mem_append_right _ haB
  have hp : ∀ b v, H b = some v → b ∉ ρ ++ (O ++ e.B) → upd H a o b = some v := fun b v q n => by rw [upd_ne (fun z => n (by rw [z]; exact hM))]; exact q
  have hil : i < env.length := (List.getElem?_eq_some_iff.mp hi).1
  have dw : DW G (ρ ++ (O ++ e.B)) ρ (upd H a o) d' a := c.dw s.rs.mt hp (fun _ _ _ n => n) (fun _ _ h => h) upd_same
  have look : ∀ (j : Nat) (b : Bool) (x : D), (env.set i (some (true, d')))[j]? = some (some (b, x)) → (i = j ∧ b = true ∧ x = d') ∨ (i ≠ j ∧ env[j]? = some (some (b, x))) := by
    intro j b x hj
    rw [List.getElem?_set] at hj
    by_cases hij : i = j
    · rw [if_pos hij, if_pos hil] at hj
      cases hj
      exact .inl ⟨hij, rfl, rfl⟩
    · rw [if_neg hij] at hj
      exact .inr ⟨hij, hj⟩
  have look2 : ∀ (j : Nat) (x : D), (env.set i (some (true, d')))[j]? = some (some (true, x)) → ∃ y, env[j]? = some (some (true, y)) := by
    intro j x hj
    rcases look j _ x hj with ⟨q, _, _⟩ | ⟨_, hj2⟩
    · exact ⟨d, q ▸ hi⟩
    · exact ⟨x, hj2⟩
  refine ⟨⟨s.rs.chg haB c.mt, ⟨by rw [List.length_set]; exact s.re.len, fun j x hj => ?_, fun j x hj => ?_⟩, ?_, s.new, s.off, fun j x hj => ?_, fun j k x y b hj hk aj ak => ?_⟩, fun b v q n => hp b v q n, fun _ _ _ n => n, fun _ _ h => h⟩
  · rcases look j _ x hj with ⟨_, z, _⟩ | ⟨_, hj2⟩
    · cases z
    · obtain ⟨v, h1, h2⟩ := s.re.fre j x hj2
      exact ⟨v, h1, DV.keep s.rs.mt hp (fun _ _ _ n => n) (fun _ _ h => h) _ _ h2⟩
  · rcases look j _ x hj with ⟨ej, _, ex⟩ | ⟨nj, hj2⟩
    · subst ej ex
      exact ⟨a, hσ, haB, dw⟩
    · obtain ⟨b, h1, h2, h3⟩ := s.re.own j x hj2
      have hne : b ≠ a := fun z => nj (s.one i j d x a hi hj2 hσ (z ▸ h1))
      exact ⟨b, h1, h2, DW.keep s.rs.mt hp (fun _ _ _ n => n) (fun _ _ h => h) (fun u q => by rw [upd_ne hne]; exact q) h3⟩
  · refine ⟨fun b v q n => ?_, s.sp.out, s.sp.refs⟩
    rw [upd_ne (fun z => by rw [z, s.new a haO] at q; cases q)]
    exact s.sp.pres b v q n
  · obtain ⟨y, hy⟩ := look2 j x hj
    exact s.own j y hy
  · obtain ⟨u, hu⟩ := look2 j x hj
    obtain ⟨w, hw⟩ := look2 k y hk
    exact s.one j k u w b hu hw aj ak
/-- an owned thing is owned no more -/
theorem Sit.frz {O : List Addr} {env : Env} {st : Store} {ρ : List Addr} {σ : L2.St} {H : Hp} {i : Nat} {b : Bool} {d : D} (s : Sit G e O env st ρ σ H) (hi : env[i]? = some (some (b, d))) :
    ∃ O', Sit G e O' (env.set i (some (false, d))) st ρ σ H ∧ StS (ρ ++ (O ++ e.B)) ρ H (ρ ++ (O' ++ e.B)) ρ H := by
  have hil : i < env.length := (List.getElem?_eq_some_iff.mp hi).1
  cases b with
  | false =>
    refine ⟨O, ?_, StS.refl _ _ _⟩
    have : env.set i (some (false, d)) = env := by
      apply List.ext_getElem?
      intro j
      rw [List.getElem?_set]
      by_cases h : i = j
      · subst h; rw [if_pos rfl, if_pos hil]; exact hi.symm
      · rw [if_neg h]
    rw [this]
    exact s
  | true =>
    obtain ⟨a, hσ, haO⟩ := s.own i d hi
    obtain ⟨a2, q1, _, hdw⟩ := s.re.own i d hi
    rw [hσ] at q1
    cases q1
    have sub : ∀ x ∈ O.filter (fun z => decide (z ≠ a)), x ∈ O := fun x hx => (List.mem_filter.mp hx).1
    have nota : a ∉ O.filter (fun z => decide (z ≠ a)) := fun hx => by simpa using (List.mem_filter.mp hx).2
    have stay : ∀ x ∈ O, x ≠ a → x ∈ O.filter (fun z => decide (z ≠ a)) := fun x hx n => List.mem_filter.mpr ⟨hx, by simpa using n⟩
    generalize O.filter (fun z => decide (z ≠ a)) = O' at sub nota stay
    have subM : ∀ x, x ∈ ρ ++ (O' ++ e.B) → x ∈ ρ ++ (O ++ e.B) := fun x hx => by
      rcases List.mem_append.mp hx with z | z
      · exact List.mem_append_left _ z
      · rcases List.mem_append.mp z with z | z
        · exact List.mem_append_right _ (List.mem_append_left _ (sub x z))
        · exact List.mem_append_right _ (List.mem_append_right _ z)
    have hm : ∀ x o, H x = some o → x ∉ ρ ++ (O ++ e.B) → x ∉ ρ ++ (O' ++ e.B) := fun x o _ n z => n (subM x z)
    have haB : a ∈ O ++ e.B := List.mem_append_left _ haO
    have haM : a ∉ ρ ++ (O' ++ e.B) := fun z => by
      rcases List.mem_append.mp z with z | z
      · exact s.rs.off a haB z
      · rcases List.mem_append.mp z with z | z
        · exact nota z
        · exact s.off a haO z
    have hdv : DV G (ρ ++ (O' ++ e.B)) ρ H d (.ref a) := by
      have dw' : DW G (ρ ++ (O' ++ e.B)) ρ H d a := DW.keep s.rs.mt (fun _ _ q _ => q) hm (fun _ _ h => h) (fun _ q => q) hdw
      cases d <;> first | exact dw'.elim | skip
      · obtain ⟨vs, h1, h2⟩ := dw'
        exact ⟨a, vs, rfl, .inl h1, haM, h2⟩
      · exact ⟨a, rfl, haM, dw'⟩
    have look : ∀ (j : Nat) (b : Bool) (x : D), (env.set i (some (false, d)))[j]? = some (some (b, x)) → (i = j ∧ b = false ∧ x = d) ∨ (i ≠ j ∧ env[j]? = some (some (b, x))) := by
      intro j b x hj
      rw [List.getElem?_set] at hj
      by_cases hij : i = j
      · rw [if_pos hij, if_pos hil] at hj
        cases hj
        exact .inl ⟨hij, rfl, rfl⟩
      · rw [if_neg hij] at hj
        exact .inr ⟨hij, hj⟩
    have look2 : ∀ (j : Nat) (x : D), (env.set i (some (false, d)))[j]? = some (some (true, x)) → i ≠ j ∧ env[j]? = some (some (true, x)) := by
      intro j x hj
      rcases look j _ x hj with ⟨_, z, _⟩ | q
      · cases z
      · exact q
    refine ⟨O', ⟨⟨fun x hx => s.rs.mt x (subM x hx), s.rs.len, s.rs.nd, fun x hx => ?_, fun n c x e1 e2 => DW.keep s.rs.mt (fun _ _ q _ => q) hm (fun _ _ h => h) (fun _ q => q) (s.rs.cel n c x e1 e2)⟩, ⟨by rw [List.length_set]; exact s.re.len, fun j x hj => ?_, fun j x hj => ?_⟩, s.sp, fun x hx => s.new x (sub x hx), fun x hx => s.off x (sub x hx), fun j x hj => ?_, fun j k x y b hj hk aj ak => ?_⟩, fun x v q n => q, hm, fun _ _ h => h⟩
    · rcases List.mem_append.mp hx with z | z
      · exact s.rs.off x (List.mem_append_left _ (sub x z))
      · exact s.rs.off x (List.mem_append_right _ z)
    · rcases look j _ x hj with ⟨ej, _, ex⟩ | ⟨_, hj2⟩
      · subst ej ex
        exact ⟨.ref a, hσ, hdv⟩
      · obtain ⟨v, h1, h2⟩ := s.re.fre j x hj2
        exact ⟨v, h1, DV.keep s.rs.mt (fun _ _ q _ => q) hm (fun _ _ h => h) _ _ h2⟩
    · obtain ⟨nj, hj2⟩ := look2 j x hj
      obtain ⟨b, h1, h2⟩ := s.own j x hj2
      obtain ⟨b2, g1, g2, g3⟩ := s.re.own j x hj2
      rw [h1] at g1
      cases g1
      have hne : b ≠ a := fun z => nj (s.one i j d x a hi hj2 hσ (z ▸ h1))
      exact ⟨b, h1, List.mem_append_left _ (stay b h2 hne), DW.keep s.rs.mt (fun _ _ q _ => q) hm (fun _ _ h => h) (fun _ q => q) g3⟩
    · obtain ⟨nj, hj2⟩ := look2 j x hj
      obtain ⟨b, h1, h2⟩ := s.own j x hj2
      have hne : b ≠ a := fun z => nj (s.one i j d x a hi hj2 hσ (z ▸ h1))
      exact ⟨b, h1, stay b h2 hne⟩
    · exact s.one j k x y b (look2 j x hj).2 (look2 k y hk).2 aj ak
/-- freezing is nothing in the code -/
theorem frz_skip {xs : List Stmt} {i : Nat} {r : Ss} (h : PSs X xs (tS G (r.ex P))) : PSs X xs (tS G ((Ss.cons (.frz i) r).ex P)) := PSs_imp h fun D σ H ⟨e, O, env, st, ρ, fl, env', st', si, ev, k⟩ => by
  unfold Ss.ex at ev
  obtain ⟨⟨fl1, env1⟩, st1, e1, e2⟩ := Res.bind_eq ev
  unfold St.ex at e1
  split at e1
  · rename_i b d hi
    cases e1
    obtain ⟨O', s', w'⟩ := si.frz hi
    exact ⟨e, O', _, st, ρ, fl, env', st', s', e2, fun O2 ρ2 σ2 H2 si2 sp2 => k O2 ρ2 σ2 H2 si2 (w'.trans sp2)⟩
  · cases e1

/-! ### xs.append(..) -/
theorem ps_appD {i : Nat} {y m : Str} {x : Expr} {a : Ex} {p ap cp pos : Pos} (hN : X.N[i]? = some y) (hv : Vis X.env.scope y) (hd : (y == ("__debug__" : Str)) = false) (hcd : (y == ("__classdict__" : Str)) = false) (hm : m = "append")
    (h : PES G X P x a) (hx : starEach [x] X.env = [(false, eval x X.env)]) (hl : (ap.endLine == cp.line) = true) :
    PS X (.Expr (.Call (.Attribute (.Name y p) m ap) [x] [] cp) pos) (tS G ((St.app i a).ex P)) := by
  subst hm
  have ha : PA X [x] (tAs G (relsS G) ((Exs.cons a .nil).ev P)) := pa_consS h pa_nilS hx
  have pm := pe_bm (apos := ap) (cpos := cp) (o := .Name y p) (name := "append") (T := "list") PySem.F.plainAttrs_list PySem.F.slot_list_append PySem.F.type_list_append mt_append (pe_var hN hv hd hcd) ha rfl (by rw [hx]; rfl) hl hx rfl
  refine PS_imp (ps_expr (pos := pos) pm rfl) fun D σ H ⟨e, O, env, st, ρ, fl, env', st', si, ev, k⟩ => ?_
  unfold St.ex at ev
  obtain ⟨d, st1, e1, e2⟩ := Res.bind_eq ev
  split at e2
  · rename_i ds ho
    split at e2
    · rename_i hlt
      cases e2
      have hi := ownAt_eq ho
      obtain ⟨b, h1, h2⟩ := si.own i _ hi
      obtain ⟨b2, g1, g2, vs, g3, g4⟩ := si.re.own i _ hi
      rw [h1] at g1
      cases g1
      refine ⟨.ref b, h1, .inl ⟨rfl, vs, .inl (.inl g3)⟩, _, env, st, ρ, [d], st', si.rs, si.re, by unfold Exs.ev; rw [e1]; rfl, fun us ρ1 H1 sp1 rs1 q1 => ?_⟩
      obtain ⟨u, r, rfl, q2, q3⟩ := q1
      have q3 : r = [] := q3
      subst q3
      have s1 := si.stp sp1 rs1
      have g5 : H1 b = some (.lst vs) := sp1.pres b _ g3 (si.rs.off b g2)
      have g6 := g4.stp si.rs.mt sp1
      obtain ⟨s2, w2⟩ := s1.chg hi h1 (d' := .lst (ds ++ [d])) (o := .lst (vs ++ [u])) ⟨_, rfl, g6.append (DVs.cons q2 DVs.nil)⟩
      exact ⟨b, vs, u, rfl, rfl, g5, by rw [g6.length]; exact hlt, k O ρ1 σ _ s2 (sp1.sts.trans w2)⟩
    · cases e2
  · cases e2

/-! ### o[i] = .. -/
theorem rs_put {B ρ : List Addr} {st : Store} {H : Hp} {n : Nat} {p : Addr} {c : D} {o : HO} (r : RS (G := G) B st ρ H) (hp : ρ[n]? = some p) (cc : Cont G (ρ ++ B) ρ H c o) :
    RS (G := G) B (st.set n c) ρ (upd H p o) ∧ Stp ρ H ρ (upd H p o) := by
  have hpm : p ∈ ρ := List.mem_of_getElem? hp
  have hk : ∀ b v, H b = some v → b ∉ ρ ++ B → upd H p o b = some v := fun b v q n => by rw [upd_ne (fun z => n (by rw [z]; exact List.mem_append_left _ hpm))]; exact q
  refine ⟨⟨fun a ha => ?_, by rw [List.length_set]; exact r.len, r.nd, r.off, fun m d a e1 e2 => ?_⟩, fun a v q nn => by rw [upd_ne (fun z => nn (by rw [z]; exact hpm))]; exact q, fun _ _ _ n => n, fun _ _ h => h⟩
  · by_cases h : a = p
    · subst h; exact ⟨o, upd_same, cc.mt⟩
    · obtain ⟨u, q, t⟩ := r.mt a ha
      exact ⟨u, by rw [upd_ne h]; exact q, t⟩
  · rw [List.getElem?_set] at e1
    by_cases hn : n = m
    · subst hn
      rw [if_pos rfl] at e1
      split at e1
      · cases e1
        rw [hp] at e2
        cases e2
        exact cc.dw r.mt hk (fun _ _ _ n => n) (fun _ _ h => h) upd_same
      · cases e1
    · rw [if_neg hn] at e1
      have hne : a ≠ p := by
        intro z
        subst z
        obtain ⟨l1, q1⟩ := List.getElem?_eq_some_iff.mp hp
        obtain ⟨l2, q2⟩ := List.getElem?_eq_some_iff.mp e2
        exact hn ((List.getElem_inj r.nd).mp (q1.trans q2.symm))
      exact DW.keep r.mt hk (fun _ _ _ n => n) (fun _ _ h => h) (fun u q => by rw [upd_ne hne]; exact q) (r.cel m d a e1 e2)
def rSet2 : TSet := fun o i v H Q => rSetL o i v H Q ∨ rSetD o i v H Q
theorem set_two (xa : XA G X) : PSet X rSet2 := by
  intro pins s σ H o i v ov iv u Q I ro ri rv h
  rcases h with h | h
  · exact set_list pins s σ H o i v ov iv u Q I ro ri rv h
  · have := xa.un
    exact set_dict (by omega) pins s σ H o i v ov iv u Q I ro ri rv h
theorem put_set {B ρ : List Addr} {st st' : Store} {H : Hp} {d k x : D} {o i v : V} {Q : Hp → Prop} (r : RS (G := G) B st ρ H) (h : putCell st d k x = some st') (ho : DB G B ρ H d o) (hi : DB G B ρ H k i) (hv : DV G (ρ ++ B) ρ H x v)
    (q : ∀ H', Stp ρ H ρ H' → RS (G := G) B st' ρ H' → Q H') : rSet2 o i v H Q := by
  unfold putCell at h
  split at h
  · rename_i n
    have ho : ∃ a, ρ[n]? = some a ∧ o = .ref a := by
      rcases ho with ho | ⟨_, _, _, ho⟩
      · exact ho
      · exact ho.elim
    obtain ⟨p, hp, rfl⟩ := ho
    split at h
    · rename_i ds hc
      obtain ⟨vs, c1, c2⟩ := r.cel n _ p hc hp
      split at h
      · rename_i j
        obtain ⟨m, m1, rfl⟩ := Option.map_eq_some_iff.mp h
        have hi : i = .int j := by
          rcases hi with hi | ⟨_, _, _, hi⟩
          · exact hi
          · exact hi.elim
        subst hi
        obtain ⟨r2, s2⟩ := rs_put r hp (c := .lst (ds.set m x)) (o := .lst (vs.set m v)) ⟨_, rfl, DVs.set hv m c2⟩
        exact .inl ⟨p, vs, j, m, rfl, rfl, c1, by rw [c2.length]; exact m1, q _ s2 r2⟩
      · cases h
    · rename_i ks ws hc
      split at h
      · rename_i hk
        cases h
        rw [Bool.and_eq_true, decide_eq_true_eq] at hk
        obtain ⟨hk, hl⟩ := hk
        simp only [List.all_cons, Bool.and_eq_true] at hk
        have hi := db_scal hk.1 hi
        rcases r.cel n _ p hc hp with ⟨kvs, c1, c2, c3, c4⟩ | ⟨es, kv, vv, _, _, _, _, h5, _⟩
        · have kr : KR G (ρ ++ B) ρ H ks ws kvs := ⟨c2, c3, c4⟩
          have ei : i = kV k.dkey := by
            have h1 := hk.1
            cases k <;> simp [D.skey] at h1 <;> exact hi
          obtain ⟨r2, s2⟩ := rs_put r hp (c := .dct (dput ks ws k x).1 (dput ks ws k x).2) (o := .dK (putK kvs k.dkey v)) ⟨_, rfl, kr.put hk.1 hv⟩
          exact .inr ⟨p, _, rfl, by rw [ei]; exact DPut.k c1 (by rw [kr.len]; exact hl), q _ s2 r2⟩
        · exfalso
          simp only [Bool.and_eq_true, Bool.not_eq_true'] at h5
          obtain ⟨_, hk2⟩ := hk
          cases ks with
          | nil => simp at h5
          | cons k' ks =>
            simp only [List.all_cons, Bool.and_eq_true] at hk2 h5
            obtain ⟨⟨h5, _⟩, _⟩ := h5
            obtain ⟨hk3, _⟩ := hk2
            cases k' <;> simp [D.skey] at hk3 <;> simp [D.tkey, D.isTup] at h5
      · cases h
    · cases h
  · cases h
theorem ps_putD {xo xi x : Expr} {a k v : Ex} {tp pos : Pos} (xa : XA G X) (ho : PEW G X P xo a) (hi : PEW G X P xi k) (hx : PES G X P x v) (hns : notSliceB xi = true) :
    PS X (.Assign [.Subscript xo xi tp] x pos) (tS G ((St.put a k v).ex P)) := by
  have hs : swapsWithSole [.Subscript xo xi tp] x pos.line X.env = pure false := by
    cases x <;> rfl
  have hw : swappedStores [.Subscript xo xi tp] x X.env = pure none := by
    cases x <;> rfl
  have hg : PG X (.Subscript xo xi tp) (gSub (tE G (relW G) (a.ev P)) (tE G (relW G) (k.ev P)) rSet2) := pg_sub ho hi (set_two xa) (by
    cases xi <;> first | (intro z; rfl) | exact absurd (show false = true from hns) Bool.false_ne_true)
  refine PS_imp (ps_asg hx hg hs hw) fun D σ H ⟨e, O, env, st, ρ, fl, env', st', si, ev, kk⟩ => ?_
  unfold St.ex at ev
  obtain ⟨d, st1, e1, ev⟩ := Res.bind_eq ev
  obtain ⟨od, st2, e2, ev⟩ := Res.bind_eq ev
  obtain ⟨kd, st3, e3, e4⟩ := Res.bind_eq ev
  cases hp : putCell st3 od kd d with
  | none => rw [hp] at e4; cases e4
  | some st4 =>
    rw [hp] at e4
    cases e4
    refine ⟨_, env, st, ρ, d, st1, si.rs, si.re, e1, fun u ρ1 H1 sp1 rs1 q1 => ?_⟩
    have s1 := si.stp sp1 rs1
    refine ⟨_, env, st1, ρ1, od, st2, s1.rs, s1.re, e2, fun o ρ2 H2 sp2 rs2 q2 => ?_⟩
    have s2 := s1.stp sp2 rs2
    refine ⟨_, env, st2, ρ2, kd, st3, s2.rs, s2.re, e3, fun i ρ3 H3 sp3 rs3 q3 => ?_⟩
    have s3 := s2.stp sp3 rs3
    have q1' : DV G (ρ3 ++ (O ++ e.B)) ρ3 H3 d u := DV.stp s2.rs.mt sp3 (DV.stp s1.rs.mt sp2 q1)
    have q2' : DB G (O ++ e.B) ρ3 H3 od o := DB.stp s2.rs.mt s2.rs.off sp3 q2
    exact put_set rs3 hp q2' q3 q1' fun H' sp4 rs4 => kk O ρ3 σ H' (s3.stp sp4 rs4) ((((sp1.trans sp2).trans sp3).trans sp4).sts)

/-! ### loops -/
theorem ps_forD {xi tg : Expr} {body : List Stmt} {t : Tg} {it : It} {b : Ss} {pos : Pos} (hp : PassesOwn (model X.prog X.w) X.A X.env X.xe) (hc : X.calm = true) (hi : PI X tg xi (tI G true (it.ev P))) (hg : PG X tg (gT G.K t)) (hb : PSs X body (tS G (b.ex P)))
    (hs : ∀ x, foldedSetIterable xi X.env x = pure x) : PS X (.For tg xi body [] pos) (tS G ((St.for t it b).ex P)) := by
  refine PS_imp (ps_for hp hc hi hg hb hs) fun D σ H ⟨e, O, env, st, ρ, fl, env', st', si, ev, k⟩ => ?_
  unfold St.ex at ev
  obtain ⟨xs, st1, e1, e2⟩ := Res.bind_eq ev
  refine ⟨_, env, st, ρ, xs, st1, si.rs, si.re, e1, fun J ρ1 H1 sp1 rs1 walk => ?_⟩
  refine ⟨fun i m σ2 H2 => m = xs.length - i ∧ i ≤ xs.length ∧ ∃ O2 ρ2 env2 st2, forLoop t (fun env st => b.ex P env st) (xs.drop i) env2 st2 = .ok (fl, env') st' ∧ Sit G e O2 env2 st2 ρ2 σ2 H2 ∧ StS (ρ1 ++ (O ++ e.B)) ρ1 H1 (ρ2 ++ (O2 ++ e.B)) ρ2 H2, ⟨xs.length, by simp, Nat.zero_le _, O, ρ1, env, st1, by simpa using e2, si.stp sp1 rs1, StS.refl _ _ _⟩, ?_⟩
  rintro i m σ2 H2 ⟨rfl, hle, O2, ρ2, env2, st2, hl, s2, w2⟩
  have wk := walk (ρ2 ++ (O2 ++ e.B)) ρ2 H2 (fun a o ea n => w2.pres a o ea (by simpa using n)) (fun a o ea n => w2.out a o ea n) w2.refs s2.rs.mt
  by_cases hlt : i < xs.length
  · have hx : xs[i]? = some xs[i] := List.getElem?_eq_getElem hlt
    obtain ⟨go, yld⟩ := wk.1 i _ hx
    rw [List.drop_eq_getElem_cons hlt] at hl
    unfold forLoop at hl
    cases hpt : t.put xs[i] env2 with
    | none => rw [hpt] at hl; cases hl
    | some env3 =>
      rw [hpt] at hl
      obtain ⟨⟨fl1, env4⟩, st4, f1, f2⟩ := Res.bind_eq hl
      refine .inr ⟨go, fun σ' H' => match fl1 with
        | .next => (xs.length - (i + 1) = xs.length - (i + 1) ∧ i + 1 ≤ xs.length ∧ ∃ O2 ρ2 env2 st2, forLoop t (fun env st => b.ex P env st) (xs.drop (i + 1)) env2 st2 = .ok (fl, env') st' ∧ Sit G e O2 env2 st2 ρ2 σ' H' ∧ StS (ρ1 ++ (O ++ e.B)) ρ1 H1 (ρ2 ++ (O2 ++ e.B)) ρ2 H')
        | .cont => (xs.length - (i + 1) = xs.length - (i + 1) ∧ i + 1 ≤ xs.length ∧ ∃ O2 ρ2 env2 st2, forLoop t (fun env st => b.ex P env st) (xs.drop (i + 1)) env2 st2 = .ok (fl, env') st' ∧ Sit G e O2 env2 st2 ρ2 σ' H' ∧ StS (ρ1 ++ (O ++ e.B)) ρ1 H1 (ρ2 ++ (O2 ++ e.B)) ρ2 H')
        | _ => False, ?_, ?_⟩
      · intro σ' H' hN
        cases fl1 with
        | next => exact ⟨xs.length - (i + 1), by omega, hN⟩
        | cont => exact ⟨xs.length - (i + 1), by omega, hN⟩
        | brk => exact hN.elim
        | ret _ => exact hN.elim
      · intro v H3 y
        obtain ⟨sm, hv⟩ := yld v H3 y
        have sp3 : Stp ρ2 H2 ρ2 H3 := same_stp sm
        have s3 := s2.stp sp3 (s2.rs.same sm)
        refine sit_put t _ v env2 env3 σ2 _ hpt s3 hv fun σ3 s4 => ?_
        refine ⟨e, O2, env3, st2, ρ2, fl1, env4, st4, s4, f1, fun O5 ρ5 σ5 H5 s5 w5 => ?_⟩
        have w15 := w2.trans (sp3.sts.trans w5)
        have wk5 := sp1.sts.trans w15
        cases fl1 with
        | next => exact ⟨rfl, hlt, O5, ρ5, env4, st4, f2, s5, w15⟩
        | cont => exact ⟨rfl, hlt, O5, ρ5, env4, st4, f2, s5, w15⟩
        | brk => cases f2; exact k O5 ρ5 σ5 H5 s5 wk5
        | ret d => cases f2; exact k O5 ρ5 σ5 H5 s5 wk5
  · have hi2 : i = xs.length := by omega
    subst hi2
    rw [List.drop_length] at hl
    unfold forLoop at hl
    cases hl
    exact .inl ⟨wk.2 _ (Nat.le_refl _), k O2 ρ2 σ2 H2 s2 (sp1.sts.trans w2)⟩
end
end Dp
set_option Elab.async false
set_option linter.all false
set_option maxRecDepth 100000
set_option maxHeartbeats 8000000
/-! Dp22: names on the left; the check of statements. -/
namespace Dp
open PySem PySem.Spec PyProof.Rows L2 PySem.W PySem.SeqAt

def notCompB : Expr → Bool
  | .ListComp _ _ _ _ => false
  | .SetComp _ _ _ _ => false
  | .DictComp _ _ _ _ _ => false
  | _ => true
theorem sw_off {x : Expr} {y : Str} {py : Pos} {l : Nat} {env : PySem.Env} (h : notCompB x = true ∨ env.scope.names.lookup y ≠ some .local) : swapsWith x (some (.Name y py)) l env = pure false := by
  rcases h with h | h
  · cases x <;> first | rfl | exact absurd (show false = true from h) Bool.false_ne_true
  · have k : (env.kindOf y == some NameKind.local) = false := by
      cases q : (env.kindOf y == some NameKind.local) with
      | false => rfl
      | true => exact (h (eq_of_beq q)).elim
    cases x <;> first | rfl | (unfold swapsWith; simp only [k, Bool.and_false, Bool.false_and]; done) | (unfold swapsWith; simp only [k, Bool.and_false, Bool.false_and]; rfl)
/-- a list's comprehension and the name it goes to: the stores are exchanged -/
def lcNameB (c : Cc) (y : Str) (py : Pos) : Expr → Ex → Bool
  | .ListComp _ _ scope p, .lc _ _ _ _ _ => decide (c.sc.kind = .function) && decide (c.sc.names.lookup y = some .local) && (py.line == p.line) && !(scope.names.any fun (n, k) => n == y && (k == .local || k == .cell))
  | _, _ => false
def setB (c : Cc) (x : Expr) (a : Ex) : Expr → Bool
  | .Name y py => notCompB x || !(decide (c.sc.names.lookup y = some .local)) || lcNameB c y py x a
  | _ => false
section
variable {G : Gx} {X : Cx} {P : Par} {c : Cc}
theorem tAsg_imp {te te' : TE} {g : TG} (h : ∀ σ H Q, te' σ H Q → te σ H Q) : ∀ D σ H, tAsg te' g D σ H → tAsg te g D σ H := fun _ _ _ q => h _ _ _ q
theorem ps_nameD (xc : XC G c P X) {i : Nat} {a : Ex} {x t : Expr} {pos : Pos} (ht : tgB c (.name i) t = true) (hx : a.ok .s c x = true) (hs : setB c x a t = true) :
    PS X (.Assign [t] x pos) (tAsg (tE G (relS G) (a.ev P)) (gName i)) ∧ (a.fr = true → PS X (.Assign [t] x pos) (tAsg (tF G (a.ev P)) (gName i))) := by
  cases t <;> try (exact absurd (show false = true from ht) Bool.false_ne_true)
  rename_i y py
  replace ht : (decide (c.N[i]? = some y) && (match c.sc.names.lookup y with | some .local => true | some .cell => c.fnv y | _ => false)) = true := ht
  rw [Bool.and_eq_true, decide_eq_true_eq] at ht
  have hN : X.N.Nodup := by rw [xc.N]; exact xc.nd
  have hi : X.N[i]? = some y := by rw [xc.N]; exact ht.1
  have h2 := ht.2
  have hloc : Loc X.env.scope y ∧ (X.fn y = true ∨ X.env.scope.names.lookup y = some .local) := by
    rw [xc.sc, xc.fv]
    split at h2
    · rename_i q; exact ⟨.inl q, .inr q⟩
    · rename_i q; exact ⟨.inr q, .inl h2⟩
    · cases h2
  replace hs : (notCompB x || !(decide (c.sc.names.lookup y = some .local)) || lcNameB c y py x a) = true := hs
  by_cases hsw : notCompB x = true ∨ c.sc.names.lookup y ≠ some .local
  · have hsw' : swapsWith x (some (.Name y py)) pos.line X.env = pure false := sw_off (by rw [xc.sc]; exact hsw)
    exact ⟨ps_set hN hi hloc.1 (ex_s hx xc) hsw' hloc.2, fun hf => ps_set hN hi hloc.1 (ex_f hx hf xc) hsw' hloc.2⟩
  · have hl : lcNameB c y py x a = true := by
      rw [Bool.or_eq_true, Bool.or_eq_true] at hs
      rcases hs with (hs | hs) | hs
      · exact (hsw (.inl hs)).elim
      · exact (hsw (.inr (by simpa using hs))).elim
      · exact hs
    cases x <;> try (exact absurd (show false = true from hl) Bool.false_ne_true)
    rename_i elt gens scope p
    cases a <;> try (exact absurd (show false = true from hl) Bool.false_ne_true)
    rename_i own tg it ts e
    replace hl : (decide (c.sc.kind = .function) && decide (c.sc.names.lookup y = some .local) && (py.line == p.line) && !(scope.names.any fun (n, k) => n == y && (k == .local || k == .cell))) = true := hl
    simp only [Bool.and_eq_true, decide_eq_true_eq, Bool.not_eq_true'] at hl
    obtain ⟨⟨⟨l1, l2⟩, l3⟩, l4⟩ := hl
    rcases gens with _ | ⟨⟨t, iter, ifs, g⟩, _ | ⟨g2, r⟩⟩
    · exact absurd (show false = true from hx) Bool.false_ne_true
    · replace hx : (Mode.s.notT && decide (g = 0) && blkB c.N c.sc scope own && it.ok false c t iter && notSetB iter && tgB (c.blk scope) tg t && (tg.ixs.all fun i => own.any fun j => decide (j = i)) && ts.okT (c.blk scope) ifs && e.ok .s (c.blk scope) elt) = true := hx
      simp only [Bool.and_eq_true] at hx
      obtain ⟨⟨⟨⟨⟨⟨⟨⟨_, h0⟩, h1⟩, h2⟩, h3⟩, h4⟩, h5⟩, h6⟩, h7⟩ := hx
      rw [decide_eq_true_eq] at h0
      subst h0
      have hit := (snd_all (G := G) (P := P) (sizeOf it + 1)).it it false c t iter X (Nat.lt_succ_self _) h2 xc
      have ok := blk_of h1
      rw [← xc.N, ← xc.sc] at ok
      have ho1 : one1 ts = true := one_of h6
      have hyl : X.env.scope.names.lookup y = some .local := by rw [xc.sc]; exact l2
      have pe := ps_setLc (pos := p) (spos := pos) (py := py) xc.xa.calm hN hi hyl (sw_true (by rw [xc.sc]; exact l1) hyl l3 l4) hit ok
        (fun s H C cl fp => show PG _ t (gT X.K tg) from pg_of (xc.blk s H scope C cl fp) tg t h4)
        (fun s H C cl fp => ((snd_all (G := G) (P := P) (sizeOf ts + 1)).et ts (c.blk scope) ifs _ (Nat.lt_succ_self _) h6 (xc.blk s H scope C cl fp)).1)
        (fun s H C cl fp => show PE _ elt (tE G (relS G) (e.ev P)) from ex_s h7 (xc.blk s H scope C cl fp)) (notSet_fold h3)
      rw [own_snd] at pe
      have key : ∀ σ H Q, tF G ((Ex.lc own tg it ts e).ev P) σ H Q → tLc (tI G false (it.ev P)) (gT X.K tg) (tts P G ts) (tE G (relS G) (e.ev P)) own σ H Q := fun σ H Q q => by
        have := tLc_of ho1 (own_sub h5) q
        rw [← xc.xa.K] at this
        exact this
      exact ⟨PS_imp pe (tAsg_imp fun σ H Q q => key σ H Q (tF_of q)), fun _ => PS_imp pe (tAsg_imp key)⟩
    · exact absurd (show false = true from hx) Bool.false_ne_true

/-! ### two at once -/
def parB (c : Cc) (x y : Str) (px py : Pos) (a b : Expr) : Bool :=
  decide (c.sc.kind = .function) && notStarB a && notStarB b && decide (c.sc.names.lookup x = some .local) && decide (c.sc.names.lookup y = some .local) && (py.line == px.line) && !(decide (x = y)) &&
  !([a, b].all (foldedForSure 8)) && !([a, b].all (constantsAlone 8))
theorem any_star : ∀ {l : List Expr}, l.all notStarB = true → (l.any fun | .Starred .. => true | _ => false) = false
  | [], _ => rfl
  | z :: l, h => by
    simp only [List.all_cons, Bool.and_eq_true] at h
    rw [List.any_cons, any_star h.2, Bool.or_false]
    have h1 := h.1
    clear h
    cases z <;> first | rfl | exact absurd (show false = true from h1) Bool.false_ne_true
theorem sw_par {x y : Str} {px py pt pt2 : Pos} {kt k2} {a b : Expr} {env : PySem.Env} (h : parB c x y px py a b = true) (he : env.scope = c.sc) : swappedStores [.Tuple [.Name x px, .Name y py] kt pt] (.Tuple [a, b] k2 pt2) env = pure (some [x, y]) := by
  unfold parB at h
  simp only [Bool.and_eq_true, decide_eq_true_eq, Bool.not_eq_true', decide_eq_false_iff_not] at h
  obtain ⟨⟨⟨⟨⟨⟨⟨⟨h1, h2⟩, h3⟩, h4⟩, h5⟩, h6⟩, h7⟩, h8⟩, h9⟩ := h
  have kx : env.kindOf x = some .local := by show env.scope.names.lookup x = _; rw [he]; exact h4
  have ky : env.kindOf y = some .local := by show env.scope.names.lookup y = _; rw [he]; exact h5
  have hb : env.blockKind = .function := by unfold Env.blockKind; rw [he, h1]; rfl
  have st := any_star (l := [a, b]) (by simp [h2, h3])
  have fm : ([Expr.Name x px, Expr.Name y py].filterMap fun
    | .Name id pos => if env.kindOf id == some .local && pos.line == px.line then some id else none
    | _ => none) = [x, y] := by
    simp only [List.filterMap_cons, kx, ky, h6, BEq.rfl, Bool.and_self, if_true, List.filterMap_nil]
  have ed : [x, y].eraseDups.length = 2 := by
    have : (x == y) = false := by simpa using h7
    have e2 : [x, y].eraseDups = [x, y] := by
      rw [List.eraseDups_cons]
      have : (y == x) = false := by simpa using fun z : y = x => h7 z.symm
      simp [List.filter, this, List.eraseDups_cons]
    rw [e2]; rfl
  unfold swappedStores
  simp only [List.length_cons, List.length_nil, hb]
  have key : ∀ names : List Str, names = [x, y] → ((if (names.length != 0 + 1 + 1 || names.eraseDups.length != names.length) = true then pure none else if [a, b].all (foldedForSure 8) = true then pure none else
      if [a, b].all (constantsAlone 8) = true then (do unsupported "assign.tuple-of-constant-expressions:order-of-the-stores"; pure (some names)) else pure (some names)) : Sem (Option (List Str))) = pure (some [x, y]) := by
    intro names e
    subst e
    rw [ed, if_neg (by simp), h8, if_neg (by decide), h9, if_neg (by decide)]
  refine (if_neg (by decide)).trans ?_
  refine (if_neg (fun z => Bool.noConfusion (st.symm.trans z))).trans ?_
  exact key _ fm

theorem sit_name {e : En} {O ρ : List Addr} {H : Hp} {st : Store} {env : Env} {σ : L2.St} {i : Nat} {d : D} {v : V} (s : Sit G e O env st ρ σ H) (hd : DV G (ρ ++ (O ++ e.B)) ρ H d v) : Sit G e O (env.set i (some (false, d))) st ρ (σ.set i (some v)) H :=
  sit_put (.name i) d v env _ σ (fun σ' _ => Sit G e O (env.set i (some (false, d))) st ρ σ' H) rfl s hd fun σ' h => h
/-- x, y = a, b with plain names; what y gets may be its own -/
theorem ps_parD (xc : XC G c P X) {i j : Nat} {o : Bool} {x y : Str} {px py pt pos pt2 : Pos} {kt k2} {xa xb : Expr} {a b : Ex} (h : parB c x y px py xa xb = true) (hi : c.N[i]? = some x) (hj : c.N[j]? = some y) (ha : a.ok .s c xa = true) (hb : b.ok .s c xb = true) (ho : o = true → b.fr = true) :
    PS X (.Assign [.Tuple [.Name x px, .Name y py] kt pt] (.Tuple [xa, xb] k2 pt2) pos) (tS G ((St.par [(i, false), (j, o)] (.cons a (.cons b .nil))).ex P)) := by
  have hw := sw_par (px := px) (py := py) (pt := pt) (pt2 := pt2) (kt := kt) (k2 := k2) h xc.sc
  unfold parB at h
  simp only [Bool.and_eq_true, decide_eq_true_eq, Bool.not_eq_true', decide_eq_false_iff_not] at h
  obtain ⟨⟨⟨⟨⟨⟨⟨⟨h1, h2⟩, h3⟩, h4⟩, h5⟩, h6⟩, h7⟩, h8⟩, h9⟩ := h
  have hN : X.N.Nodup := by rw [xc.N]; exact xc.nd
  have hi' : X.N[i]? = some x := by rw [xc.N]; exact hi
  have hj' : X.N[j]? = some y := by rw [xc.N]; exact hj
  have hij : i ≠ j := fun z => by
    subst z
    rw [hi] at hj
    exact h7 (Option.some.inj hj)
  have hx : X.env.scope.names.lookup x = some .local := by rw [xc.sc]; exact h4
  have hy : X.env.scope.names.lookup y = some .local := by rw [xc.sc]; exact h5
  have sa : starEach [xa, xb] X.env = (false, eval xa X.env) :: starEach [xb] X.env := star_ne h2
  have sb : starEach [xb] X.env = (false, eval xb X.env) :: starEach [] X.env := star_ne h3
  have step : ∀ {D : Ends} {σ : L2.St} {H : Hp}, tS G ((St.par [(i, false), (j, o)] (.cons a (.cons b .nil))).ex P) D σ H → ∃ e O env st ρ d1 st1 d2 st2, Sit G e O env st ρ σ H ∧ a.ev P env st = .ok d1 st1 ∧ b.ev P env st1 = .ok d2 st2 ∧
      (∀ O' ρ' σ' H', Sit G e O' ((env.set i (some (false, d1))).set j (some (o, d2))) st2 ρ' σ' H' → StS (ρ ++ (O ++ e.B)) ρ H (ρ' ++ (O' ++ e.B)) ρ' H' → D.nx σ' H') := by
    intro D σ H ⟨e, O, env, st, ρ, fl, env', st', si, ev, k⟩
    unfold St.ex Exs.ev at ev
    obtain ⟨ds, st1, e1, e2⟩ := Res.bind_eq ev
    obtain ⟨d1, st2, g1, g2⟩ := Res.bind_eq e1
    obtain ⟨r, st3, g3, g4⟩ := Res.bind_eq g2
    cases g4
    unfold Exs.ev at g3
    obtain ⟨d2, st4, g5, g6⟩ := Res.bind_eq g3
    obtain ⟨r2, st5, g7, g8⟩ := Res.bind_eq g6
    cases g8
    unfold Exs.ev at g7
    cases g7
    cases e2
    exact ⟨e, O, env, st, ρ, d1, st2, d2, _, si, g1, g5, k⟩
  cases o with
  | false =>
    have pa := pa_cons (ex_s ha xc) (pa_cons (ex_s hb xc) pa_nil sb) sa
    refine PS_imp (ps_par xc.xa.calm hN hi' hj' hij hx hy pa hw) fun D σ H q => ?_
    obtain ⟨e, O, env, st, ρ, d1, st1, d2, st2, si, g1, g2, k⟩ := step q
    refine ⟨_, env, st, ρ, d1, st1, si.rs, si.re, g1, fun v ρ1 H1 sp1 rs1 q1 => ?_⟩
    have s1 := si.stp sp1 rs1
    refine ⟨_, env, st1, ρ1, d2, st2, s1.rs, s1.re, g2, fun w ρ2 H2 sp2 rs2 q2 => ?_⟩
    refine ⟨v, w, rfl, ?_⟩
    have q1' : DV G (ρ2 ++ (O ++ e.B)) ρ2 H2 d1 v := DV.stp s1.rs.mt sp2 q1
    exact k O ρ2 _ H2 (sit_name (sit_name (s1.stp sp2 rs2) q1') q2) (sp1.trans sp2).sts
  | true =>
    have pa := pa_cons (ex_s ha xc) (pa_cons (ex_f hb (ho rfl) xc) pa_nil sb) sa
    refine PS_imp (ps_par xc.xa.calm hN hi' hj' hij hx hy pa hw) fun D σ H q => ?_
    obtain ⟨e, O, env, st, ρ, d1, st1, d2, st2, si, g1, g2, k⟩ := step q
    refine ⟨_, env, st, ρ, d1, st1, si.rs, si.re, g1, fun v ρ1 H1 sp1 rs1 q1 => ?_⟩
    have s1 := si.stp sp1 rs1
    refine ⟨_, env, st1, ρ1, d2, st2, s1.rs, s1.re, g2, fun p ρ2 Hm ho' sp2 rs2 hn cc => ?_⟩
    refine ⟨v, .ref p, rfl, ?_⟩
    have q1' : DV G (ρ2 ++ (O ++ e.B)) ρ2 Hm d1 v := DV.stp s1.rs.mt sp2 q1
    obtain ⟨s3, w3⟩ := (sit_name (i := i) (s1.stp sp2 rs2) q1').take (i := j) hn cc
    exact k _ ρ2 _ _ s3 ((sp1.trans sp2).sts.trans w3)
end
end Dp
set_option Elab.async false
set_option linter.all false
set_option maxRecDepth 100000
set_option maxHeartbeats 8000000
/-! Dp23: the check of statements, and that a checked body does what the small language says. -/
namespace Dp
open PySem PySem.Spec PyProof.Rows L2 PySem.W PySem.SeqAt

def notTupB : Expr → Bool
  | .Tuple _ _ _ => false
  | _ => true
def St.isFrz : St → Bool
  | .frz _ => true
  | _ => false
mutual
def St.ok : St → Cc → Stmt → Bool
  | .asg (.name i) a, c, .Assign [t] x _ => tgB c (.name i) t && a.ok .s c x && setB c x a t
  | .asg (.pair p q) a, c, .Assign [t] x _ => tgB c (.pair p q) t && a.ok .s c x && notTupB x
  | .asg (.trip p q r) a, c, .Assign [t] x _ => tgB c (.trip p q r) t && a.ok .s c x && notTupB x
  | .own i a, c, .Assign [t] x _ => tgB c (.name i) t && a.ok .s c x && setB c x a t && a.fr
  | .par [(i, false), (j, o)] (.cons a (.cons b .nil)), c, .Assign [.Tuple [.Name x px, .Name y py] _ _] (.Tuple [xa, xb] _ _) _ =>
    parB c x y px py xa xb && decide (c.N[i]? = some x) && decide (c.N[j]? = some y) && a.ok .s c xa && b.ok .s c xb && (!o || b.fr)
  | .put a k v, c, .Assign [.Subscript xo xi _] x _ => a.ok .w c xo && k.ok .w c xi && v.ok .s c x && notSliceB xi
  | .app i a, c, .Expr (.Call (.Attribute (.Name y p) m ap) [x] [] cp) _ => decide (m = "append") && varB c i (.Name y p) && a.ok .s c x && notStarB x && (ap.endLine == cp.line)
  | .exp a, c, .Expr x _ => a.ok .s c x && notCompB x
  | .ifs t u v, c, .If x a b _ => t.ok .t c x && u.ok c a && v.ok c b
  | .for t it b, c, .For tg x body [] _ => it.ok true c tg x && tgB c t tg && notSetB x && b.ok c body
  | .ret a, c, .Return (some x) _ => a.ok .s c x
  | .ret (.lit .non), c, .Return none _ => true
  | .pass, _, .Pass _ => true
  | .brk, _, .Break _ => true
  | .cont, _, .Continue _ => true
  | .raise, _, .Raise _ _ _ => true
  | _, _, _ => false
def Ss.ok : Ss → Cc → List Stmt → Bool
  | .nil, _, [] => true
  | .cons s r, c, xs => if s.isFrz then r.ok c xs else match xs with
    | x :: xs => s.ok c x && r.ok c xs
    | [] => false
  | _, _, _ => false
end
section
variable {G : Gx} {X : Cx} {P : Par} {c : Cc}
theorem ps_tupD (xc : XC G c P X) {tg : Tg} {a : Ex} {t x : Expr} {pos : Pos} (htt : notTupB t = false) (ht : tgB c tg t = true) (ha : a.ok .s c x = true) (hx : notTupB x = true) : PS X (.Assign [t] x pos) (tS G ((St.asg tg a).ex P)) := by
  cases t <;> try (exact absurd (show true = false from htt) (by decide))
  rename_i es k tp
  have hs : swapsWithSole [Expr.Tuple es k tp] x pos.line X.env = pure false := by
    cases x <;> rfl
  have hw : swappedStores [Expr.Tuple es k tp] x X.env = pure none := by
    cases x <;> first | rfl | exact absurd (show false = true from hx) Bool.false_ne_true
  refine PS_imp (ps_asg (ex_s ha xc) (pg_of xc tg _ ht) hs hw) fun D σ H q => ?_
  rw [xc.xa.K]
  exact asg_tr q
theorem tg_tup {tg : Tg} {t : Expr} (h : tgB c tg t = true) (hn : ∀ i, tg ≠ .name i) : notTupB t = false := by
  cases tg with
  | name i => exact (hn i rfl).elim
  | pair a b => cases t <;> first | rfl | exact absurd (show false = true from h) Bool.false_ne_true
  | trip a b d => cases t <;> first | rfl | exact absurd (show false = true from h) Bool.false_ne_true
mutual
theorem St.sound (xc : XC G c P X) (hp : PassesOwn (model X.prog X.w) X.A X.env X.xe) : ∀ (s : St) (x : Stmt), s.ok c x = true → PS X x (tS G (s.ex P))
  | .asg tg a, x, h => by
    cases x <;> try (cases tg <;> exact absurd (show false = true from h) Bool.false_ne_true)
    rename_i ts x pos
    rcases ts with _ | ⟨t, _ | ⟨_, _⟩⟩ <;> try (cases tg <;> exact absurd (show false = true from h) Bool.false_ne_true)
    cases tg with
    | name i =>
      replace h : (tgB c (.name i) t && a.ok .s c x && setB c x a t) = true := h
      simp only [Bool.and_eq_true] at h
      exact PS_imp (ps_nameD xc h.1.1 h.1.2 h.2).1 fun D σ H q => asg_tr q
    | pair p q =>
      replace h : (tgB c (.pair p q) t && a.ok .s c x && notTupB x) = true := h
      simp only [Bool.and_eq_true] at h
      exact ps_tupD xc (tg_tup h.1.1 (fun _ z => nomatch z)) h.1.1 h.1.2 h.2
    | trip p q r =>
      replace h : (tgB c (.trip p q r) t && a.ok .s c x && notTupB x) = true := h
      simp only [Bool.and_eq_true] at h
      exact ps_tupD xc (tg_tup h.1.1 (fun _ z => nomatch z)) h.1.1 h.1.2 h.2
  | .own i a, x, h => by
    cases x <;> try (exact absurd (show false = true from h) Bool.false_ne_true)
    rename_i ts x pos
    rcases ts with _ | ⟨t, _ | ⟨_, _⟩⟩ <;> try (exact absurd (show false = true from h) Bool.false_ne_true)
    replace h : (tgB c (.name i) t && a.ok .s c x && setB c x a t && a.fr) = true := h
    simp only [Bool.and_eq_true] at h
    exact PS_imp ((ps_nameD xc h.1.1.1 h.1.1.2 h.1.2).2 h.2) fun D σ H q => own_tr q
  | .par is es, x, h => by
    rcases is with _ | ⟨⟨i, b1⟩, _ | ⟨⟨j, o⟩, _ | ⟨_, _⟩⟩⟩
    · exact absurd (show false = true from h) Bool.false_ne_true
    · cases b1 <;> exact absurd (show false = true from h) Bool.false_ne_true
    · cases b1
      · rcases es with _ | ⟨a, _ | ⟨b, _ | ⟨_, _⟩ | ⟨_, _⟩⟩ | ⟨_, _⟩⟩ | ⟨_, _⟩ <;> try (exact absurd (show false = true from h) Bool.false_ne_true)
        cases x <;> try (exact absurd (show false = true from h) Bool.false_ne_true)
        rename_i ts v pos
        rcases ts with _ | ⟨t, _ | ⟨_, _⟩⟩
        · exact absurd (show false = true from h) Bool.false_ne_true
        · cases t <;> try (exact absurd (show false = true from h) Bool.false_ne_true)
          rename_i xs kt pt
          rcases xs with _ | ⟨x, _ | ⟨y, _ | ⟨_, _⟩⟩⟩
          · exact absurd (show false = true from h) Bool.false_ne_true
          · cases x <;> exact absurd (show false = true from h) Bool.false_ne_true
          · cases x <;> try (exact absurd (show false = true from h) Bool.false_ne_true)
            rename_i x px
            cases y <;> try (exact absurd (show false = true from h) Bool.false_ne_true)
            rename_i y py
            cases v <;> try (exact absurd (show false = true from h) Bool.false_ne_true)
            rename_i vs k2 pt2
            rcases vs with _ | ⟨xa, _ | ⟨xb, _ | ⟨_, _⟩⟩⟩ <;> try (exact absurd (show false = true from h) Bool.false_ne_true)
            replace h : (parB c x y px py xa xb && decide (c.N[i]? = some x) && decide (c.N[j]? = some y) && a.ok .s c xa && b.ok .s c xb && (!o || b.fr)) = true := h
            simp only [Bool.and_eq_true, decide_eq_true_eq] at h
            obtain ⟨⟨⟨⟨⟨h1, h2⟩, h3⟩, h4⟩, h5⟩, h6⟩ := h
            exact ps_parD xc h1 h2 h3 h4 h5 (fun ho => by rw [ho] at h6; exact h6)
          · cases x <;> first | exact absurd (show false = true from h) Bool.false_ne_true | (cases y <;> exact absurd (show false = true from h) Bool.false_ne_true)
        · cases t <;> try (exact absurd (show false = true from h) Bool.false_ne_true)
          rename_i xs kt pt
          rcases xs with _ | ⟨x, _ | ⟨y, _ | ⟨_, _⟩⟩⟩
          · exact absurd (show false = true from h) Bool.false_ne_true
          · cases x <;> exact absurd (show false = true from h) Bool.false_ne_true
          · cases x <;> try (exact absurd (show false = true from h) Bool.false_ne_true)
            cases y <;> exact absurd (show false = true from h) Bool.false_ne_true
          · cases x <;> first | exact absurd (show false = true from h) Bool.false_ne_true | (cases y <;> exact absurd (show false = true from h) Bool.false_ne_true)
      · exact absurd (show false = true from h) Bool.false_ne_true
    · cases b1 <;> exact absurd (show false = true from h) Bool.false_ne_true
  | .put a k v, x, h => by
    cases x <;> try (exact absurd (show false = true from h) Bool.false_ne_true)
    rename_i ts x pos
    rcases ts with _ | ⟨t, _ | ⟨_, _⟩⟩
    · exact absurd (show false = true from h) Bool.false_ne_true
    · cases t <;> try (exact absurd (show false = true from h) Bool.false_ne_true)
      rename_i xo xi tp
      replace h : (a.ok .w c xo && k.ok .w c xi && v.ok .s c x && notSliceB xi) = true := h
      simp only [Bool.and_eq_true] at h
      exact ps_putD xc.xa (ex_w h.1.1.1 xc) (ex_w h.1.1.2 xc) (ex_s h.1.2 xc) h.2
    · cases t <;> exact absurd (show false = true from h) Bool.false_ne_true
  | .app i a, x, h => by
    cases x <;> try (exact absurd (show false = true from h) Bool.false_ne_true)
    rename_i x pos
    cases x <;> try (exact absurd (show false = true from h) Bool.false_ne_true)
    rename_i f xs kw cp
    cases f <;> try (exact absurd (show false = true from h) Bool.false_ne_true)
    rename_i o m ap
    cases o <;> try (exact absurd (show false = true from h) Bool.false_ne_true)
    rename_i y p
    rcases xs with _ | ⟨x, _ | ⟨_, _⟩⟩ <;> rcases kw with _ | ⟨_, _⟩ <;> try (exact absurd (show false = true from h) Bool.false_ne_true)
    replace h : (decide (m = "append") && varB c i (.Name y p) && a.ok .s c x && notStarB x && (ap.endLine == cp.line)) = true := h
    simp only [Bool.and_eq_true] at h
    obtain ⟨⟨⟨⟨h1, h2⟩, h3⟩, h4⟩, h5⟩ := h
    obtain ⟨y', p', e, g1, g2, g3⟩ := varB_inv h2
    cases e
    obtain ⟨n1, n2⟩ := nameB_inv g3
    exact ps_appD (by rw [xc.N]; exact g1) (vis_of xc g2) n1 n2 (of_decide_eq_true h1) (ex_s h3 xc) (star_ne h4) h5
  | .aug _ _ _, x, h => by cases x <;> exact absurd (show false = true from h) Bool.false_ne_true
  | .putO _ _ _, x, h => by cases x <;> exact absurd (show false = true from h) Bool.false_ne_true
  | .ext _ _, x, h => by cases x <;> exact absurd (show false = true from h) Bool.false_ne_true
  | .frz _, x, h => by cases x <;> exact absurd (show false = true from h) Bool.false_ne_true
  | .whl _ _, x, h => by cases x <;> exact absurd (show false = true from h) Bool.false_ne_true
  | .exp a, x, h => by
    cases x <;> try (exact absurd (show false = true from h) Bool.false_ne_true)
    rename_i x pos
    replace h : (a.ok .s c x && notCompB x) = true := h
    simp only [Bool.and_eq_true] at h
    have hc := h.2
    exact ps_expD (ex_s h.1 xc) (by cases x <;> first | rfl | exact absurd (show false = true from hc) Bool.false_ne_true)
  | .ifs t u v, x, h => by
    cases x <;> try (exact absurd (show false = true from h) Bool.false_ne_true)
    rename_i x a b pos
    replace h : (t.ok .t c x && u.ok c a && v.ok c b) = true := h
    simp only [Bool.and_eq_true] at h
    exact ps_ifD (ex_t h.1.1 xc) (Ss.sound xc hp u a h.1.2) (Ss.sound xc hp v b h.2)
  | .for t it b, x, h => by
    cases x <;> try (exact absurd (show false = true from h) Bool.false_ne_true)
    rename_i tg x body oe pos
    rcases oe with _ | ⟨_, _⟩
    · replace h : (it.ok true c tg x && tgB c t tg && notSetB x && b.ok c body) = true := h
      simp only [Bool.and_eq_true] at h
      exact ps_forD hp xc.xa.calm (it_s h.1.1.1 xc) (by rw [← xc.xa.K]; exact pg_of xc t tg h.1.1.2) (Ss.sound xc hp b body h.2) (notSet_fold h.1.2)
    · exact absurd (show false = true from h) Bool.false_ne_true
  | .ret a, x, h => by
    cases x <;> try (cases a <;> first | exact absurd (show false = true from h) Bool.false_ne_true | (rename_i d; cases d <;> exact absurd (show false = true from h) Bool.false_ne_true))
    rename_i v pos
    cases v with
    | some x => exact ps_retD (ex_s (by cases a <;> exact h) xc)
    | none =>
      cases a <;> try (exact absurd (show false = true from h) Bool.false_ne_true)
      rename_i d
      cases d <;> try (exact absurd (show false = true from h) Bool.false_ne_true)
      exact ps_retND
  | .pass, x, h => by
    cases x <;> try (exact absurd (show false = true from h) Bool.false_ne_true)
    exact ps_passD
  | .brk, x, h => by
    cases x <;> try (exact absurd (show false = true from h) Bool.false_ne_true)
    exact ps_brkD
  | .cont, x, h => by
    cases x <;> try (exact absurd (show false = true from h) Bool.false_ne_true)
    exact ps_contD
  | .raise, x, h => by
    cases x <;> try (exact absurd (show false = true from h) Bool.false_ne_true)
    exact ps_raiseD
theorem Ss.sound (xc : XC G c P X) (hp : PassesOwn (model X.prog X.w) X.A X.env X.xe) : ∀ (s : Ss) (xs : List Stmt), s.ok c xs = true → PSs X xs (tS G (s.ex P))
  | .nil, xs, h => by
    cases xs with
    | nil => exact pss_nilD
    | cons _ _ => exact absurd (show false = true from h) Bool.false_ne_true
  | .cons s r, xs, h => by
    replace h : (if s.isFrz then r.ok c xs else match xs with | x :: xs => s.ok c x && r.ok c xs | [] => false) = true := by
      cases xs <;> exact h
    cases q : s.isFrz with
    | true =>
      rw [q, if_pos rfl] at h
      cases s <;> try (exact absurd (show false = true from q) Bool.false_ne_true)
      exact frz_skip (Ss.sound xc hp r xs h)
    | false =>
      rw [q, if_neg (by decide)] at h
      cases xs with
      | nil => exact absurd (show false = true from h) Bool.false_ne_true
      | cons x xs =>
        have h : (s.ok c x && r.ok c xs) = true := h
        rw [Bool.and_eq_true] at h
        exact pss_consD (St.sound xc hp s x h.1) (Ss.sound xc hp r xs h.2)
end
end
end Dp
set_option Elab.async false
set_option linter.all false
set_option maxRecDepth 100000
set_option maxHeartbeats 8000000
/-! Dp24: defs. -/
namespace Dp
open PySem PySem.Spec PyProof.Rows L2 PySem.W PySem.SeqAt

/-- a def of the text: its name, its names (the parameters first), its parameters, its statement -/
structure Df where
  name : Str
  N : List Str
  ps : List Str
  st : Stmt
def fnScB (N ps : List Str) (sc : Scope) : Bool :=
  decide (sc.kind = .function) && !sc.isCoroutine && !sc.isGenerator && decide N.Nodup && decide (N.take ps.length = ps) &&
  (ps.all fun x => decide (sc.names.lookup x = some .local) || decide (sc.names.lookup x = some .cell)) && (sc.names.all fun y => !(decide (y.2 = .free)))
theorem fnSc_of {N ps : List Str} {sc : Scope} (h : fnScB N ps sc = true) : FnScope N ps sc := by
  simp only [fnScB, Bool.and_eq_true, decide_eq_true_eq, Bool.not_eq_true', List.all_eq_true, Bool.or_eq_true, decide_eq_false_iff_not] at h
  obtain ⟨⟨⟨⟨⟨⟨h1, h2⟩, h3⟩, h4⟩, h5⟩, h6⟩, h7⟩ := h
  exact ⟨h1, h2, h3, h4, h5, fun x hx => h6 x hx, fun y hy => h7 y hy⟩
def ccOf (d : Df) (bn fn gn : List Str) : Cc := ⟨d.N, defScope d.st, fun _ => true, bn, fn, gn⟩
def dfOk (bn fn gn : List Str) (d : Df) (f : Fd) : Bool :=
  fnScB d.N d.ps (defScope d.st) && decide (f.np = d.ps.length) && decide (f.ns = d.N.length) && f.body.ok (ccOf d bn fn gn) (defBody d.st)
def tabOk (bn fn gn : List Str) : List Df → List Fd → Bool
  | [], [] => true
  | d :: ds, f :: fs => dfOk bn fn gn d f && tabOk bn fn gn ds fs
  | _, _ => false
theorem tab_get {bn fn gn : List Str} : ∀ {ds : List Df} {fs : List Fd} {i : Nat} {f : Fd}, tabOk bn fn gn ds fs = true → fs[i]? = some f → ∃ d, ds[i]? = some d ∧ dfOk bn fn gn d f = true
  | [], [], i, f, _, e => by simp at e
  | [], _ :: _, _, _, h, _ => absurd (show false = true from h) Bool.false_ne_true
  | _ :: _, [], _, _, _, e => by simp at e
  | d :: ds, g :: fs, 0, f, h, e => by
    have h : (dfOk bn fn gn d g && tabOk bn fn gn ds fs) = true := h
    rw [Bool.and_eq_true] at h
    simp at e
    subst e
    exact ⟨d, rfl, h.1⟩
  | d :: ds, g :: fs, i + 1, f, h, e => by
    have h : (dfOk bn fn gn d g && tabOk bn fn gn ds fs) = true := h
    rw [Bool.and_eq_true] at h
    simpa using tab_get (i := i) h.2 (by simpa using e)
/-- what the module gives -/
structure Md (G : Gx) (mg : Str → Option Value) (ds : List Df) (bn gn : List Str) (gv : List D) : Prop where
  fn : ∀ (i : Nat) d, ds[i]? = some d → ∃ f fd, mg d.name = some (.ref f) ∧ Fun G.K d.name d.name d.st f fd ∧ Binds G.K fd d.ps []
  gl : ∀ (k : Nat) x, gn[k]? = some x → ∃ v u, mg x = some u ∧ RelV v u ∧ ∀ d, gv[k]? = some d → ∀ M ρ H, DV G M ρ H d v
  bn : ∀ x ∈ bn, mg x = none

section
variable {G : Gx} {Pr : Program} {mg : Str → Option Value} {base : Heap}
theorem RS.sub {B B' : List Addr} {st : Store} {ρ : List Addr} {H : Hp} (r : RS (G := G) B st ρ H) (h : ∀ x ∈ B', x ∈ B) : RS (G := G) B' st ρ H :=
  have subM : ∀ x, x ∈ ρ ++ B' → x ∈ ρ ++ B := fun x hx => (List.mem_append.mp hx).elim (List.mem_append_left _) fun z => List.mem_append_right _ (h x z)
  ⟨fun a ha => r.mt a (subM a ha), r.len, r.nd, fun b hb => r.off b (h b hb), fun n c a e1 e2 => DW.keep r.mt (fun _ _ e _ => e) (fun a u _ n z => n (subM a z)) (fun _ _ h => h) (fun _ e => e) (r.cel n c a e1 e2)⟩
theorem DV.sub {B B' : List Addr} {st : Store} {ρ : List Addr} {H : Hp} {d : D} {v : V} (r : RS (G := G) B st ρ H) (h : ∀ x ∈ B', x ∈ B) (q : DV G (ρ ++ B) ρ H d v) : DV G (ρ ++ B') ρ H d v :=
  have subM : ∀ x, x ∈ ρ ++ B' → x ∈ ρ ++ B := fun x hx => (List.mem_append.mp hx).elim (List.mem_append_left _) fun z => List.mem_append_right _ (h x z)
  DV.keep r.mt (fun _ _ e _ => e) (fun a u _ n z => n (subM a z)) (fun _ _ h => h) _ _ q
/-- the entry -/
theorem sit_start {B ρ : List Addr} {st : Store} {H : Hp} {ds : List D} {vs : List V} {N : List Str} {m : Nat} (rs : RS (G := G) B st ρ H) (hv : DVs G (ρ ++ B) ρ H ds vs) (hm : N.length - vs.length = m) :
    Sit G ⟨B, ρ, H⟩ [] (ds.map (fun d => some (false, d)) ++ List.replicate m none) st ρ (L2.start N vs) H := by
  have look : ∀ (i : Nat) (b : Bool) d, (ds.map (fun d => some (false, d)) ++ List.replicate m none)[i]? = some (some (b, d)) → b = false ∧ ds[i]? = some d := by
    intro i b d h
    by_cases hi : i < ds.length
    · rw [List.getElem?_append_left (by simpa using hi), List.getElem?_map] at h
      cases q : ds[i]? with
      | none => rw [q] at h; cases h
      | some x => rw [q] at h; cases h; exact ⟨rfl, rfl⟩
    · rw [List.getElem?_append_right (by simpa using hi), List.getElem?_replicate] at h
      split at h <;> cases h
  refine ⟨rs, ⟨?_, fun i d h => ?_, fun i d h => ?_⟩, Stp.refl _ _, fun a h => absurd h (by simp), fun a h => absurd h (by simp), fun i d h => ?_, fun i j d d' a h => ?_⟩
  · unfold L2.start
    rw [List.length_append, List.length_append, List.length_map, List.length_map, List.length_replicate, List.length_replicate, hv.length, ← hm, hv.length]
  · obtain ⟨_, q⟩ := look i _ d h
    obtain ⟨v, h1, h2⟩ := hv.get q
    refine ⟨v, ?_, h2⟩
    unfold L2.start
    rw [List.getElem?_append_left (by simpa using (List.getElem?_eq_some_iff.mp h1).1), List.getElem?_map, h1]
    rfl
  · exact absurd (look i _ d h).1 (by decide)
  · exact absurd (look i _ d h).1 (by decide)
  · exact absurd (look i _ d h).1 (by decide)

/-- a def's promise at fuel n -/
def FnR (G : Gx) (Pr : Program) (mg : Str → Option Value) (base : Heap) (P : Par) (n : Nat) (i : Nat) (f : Addr) (fd : FuncData) (ps : List Str) : Prop :=
  ∀ (A : Around) (outer : List PySem.Env) (s : Shared) (H : Hp) (args : Args) (us : List Value) (vs : List V) (Q : VK), Room n A → A.guards = some [] → Env0 Pr G.w G.K mg base A outer s H → BindsTo s fd args (ps.zip us) → us.length = ps.length → Vals vs us → rCall G P i vs H Q →
    codeAny (model Pr G.w) A (.call (.ref f) args) (CR CX0 outer Pr G.w H s Q E0) s
/-- the callee runs -/
theorem callR_of {X : Cx} {P : Par} {n i : Nat} {f : Addr} {fd : FuncData} {ps : List Str} (F : FnR G X.prog X.mg X.base P n i f fd ps) (hw : X.w = G.w) (hK : X.K = G.K) (hr : Room n X.A) (hg : X.A.guards = some []) (hb : Binds X.K fd ps []) (hl : ∀ vs H Q, rCall G P i vs H Q → vs.length = ps.length) : CallR X (.ref f) (rCall G P i) := by
  intro pins s σ H xs us Q I r h
  have e0 := I.env0
  have lx := hl _ _ _ h
  have lu : us.length = ps.length := by rw [← r.length]; exact lx
  have b := hb s us I.kIn (by simpa using lu)
  rw [List.append_nil] at b
  rw [hw, hK] at e0
  refine wpAny_call ?_
  rw [hw]
  refine codeAny_mono (F X.A X.stack s H ⟨us, []⟩ us xs Q hr hg e0 b lu r h) fun r s' hq => ?_
  cases r with
  | error e => exact hq.elim
  | ok fl =>
    cases fl with
    | ret u =>
      have hq : CE X.stack X.prog G.w H s Q u s' := hq
      rw [← hw] at hq
      exact I.after hq
    | next => exact False.elim hq
    | brk => exact False.elim hq
    | cont => exact False.elim hq

variable {ds : List Df} {bn gn : List Str} {gv : List D} {T : List Fd} {wf : Nat}
theorem run_len {n i : Nat} {d : Df} (ht : tabOk bn (ds.map (·.name)) gn ds T = true) (hd : ds[i]? = some d) : ∀ vs H Q, rCall G ⟨gv, wf, run T gv wf n⟩ i vs H Q → vs.length = d.ps.length := by
  intro vs H Q ⟨B, st, ρ, es, e, st', rs, hv, ev, k⟩
  cases n with
  | zero => cases ev
  | succ n =>
    have ev : run T gv wf (n + 1) i es st = .ok e st' := ev
    unfold run at ev
    split at ev
    · rename_i f hf
      split at ev
      · rename_i hl
        obtain ⟨d', h1, h2⟩ := tab_get ht hf
        rw [hd] at h1
        cases h1
        simp only [dfOk, Bool.and_eq_true, decide_eq_true_eq] at h2
        rw [hv.length, hl, h2.1.1.2]
      · cases ev
    · cases ev
/-- THE LINK: every def of the table does what the small language says -/
theorem run_ok (ht : tabOk bn (ds.map (·.name)) gn ds T = true) (md : Md G mg ds bn gn gv) : ∀ (n i : Nat) (d : Df) (f : Addr) (fd : FuncData), ds[i]? = some d → Fun G.K d.name d.name d.st f fd → FnR G Pr mg base ⟨gv, wf, run T gv wf n⟩ n i f fd d.ps
  | 0, i, d, f, fd, hd, F => by
    intro A outer s H args us vs Q hr hg e0 hb hl r h
    obtain ⟨B, st, ρ, es, e, st', rs, hv, ev, k⟩ := h
    cases ev
  | n + 1, i, d, f, fd, hd, F => by
    intro A outer s H args us vs Q hr hg e0 hb hlu r hsp
    have hl : vs.length = d.ps.length := by rw [r.length]; exact hlu
    obtain ⟨oc, od, kV, doc, pm, an, cdv, ct, osl, rfl, lk, hcd⟩ := F.ex
    obtain ⟨B, st, ρ, es, e, st', rs, hv, ev, k⟩ := hsp
    have ev : run T gv wf (n + 1) i es st = .ok e st' := ev
    unfold run at ev
    split at ev
    rotate_left
    · cases ev
    rename_i f' hf
    split at ev
    rotate_left
    · cases ev
    rename_i hnp
    obtain ⟨d', h1, h2⟩ := tab_get ht hf
    rw [hd] at h1
    cases h1
    simp only [dfOk, Bool.and_eq_true, decide_eq_true_eq] at h2
    obtain ⟨⟨⟨t1, t2⟩, t3⟩, t4⟩ := h2
    have S := fnSc_of t1
    have KX : G.K.In s.heap := e0.mod.kin.keeps fun b o e => (e0.bs b o e).1
    have lim : s.heap.NoLimit := e0.mod.nolimit.keeps fun b o e => (e0.bs b o e).1
    have hkind : ∀ y ∈ d.ps.zip us, (defScope d.st).names.lookup y.1 = some .local ∨ ((defScope d.st).names.lookup y.1 = some .cell ∧ ((cellsFrom (s.heap.objs.size + 1) (defScope d.st).names []).lookup y.1).isSome = true) := fun ⟨n, v⟩ hy => by
      rcases S.par n (List.of_mem_zip hy).1 with q | q
      · exact .inl q
      · exact .inr ⟨q, PySem.W.cellsFrom_some _ _ _ (.inl q)⟩
    refine codeAny_call_function hr.depth (KX _ _ lk) rfl S.co S.gen rfl (PySem.W.codeRec_of KX hcd) (hb _ _ _ _ ?_)
    refine wpAny_newFunctionEnv_cells S.kind hkind fun env he s1 x => ?_
    subst he
    refine ⟨lim.keeps x.toInCall.keep, codeAny_func ?_⟩
    have hr' : Room n (A.deeper (envOfC d.name (defScope d.st) s.heap.objs.size f cdv)) := hr.deeper _
    have xc : XC G (ccOf d bn (ds.map (·.name)) gn) ⟨gv, wf, run T gv wf n⟩ (cxOf CX0 Pr G.w G.K mg base d.N d.name (defScope d.st) f cdv A outer s H E0).nox := by
      refine ⟨⟨rfl, rfl, rfl, ?_, hg⟩, rfl, S.nd, rfl, rfl, md.bn, md.gl, fun j x hx => ?_⟩
      · have := hr'.un
        show (A.deeper _).units + 100 < cLine
        omega
      · have hx : (ds.map (·.name))[j]? = some x := hx
        rw [List.getElem?_map] at hx
        cases q : ds[j]? with
        | none => rw [q] at hx; cases hx
        | some d2 =>
          rw [q] at hx
          cases hx
          obtain ⟨f2, fd2, g1, g2, g3⟩ := md.fn j d2 q
          refine ⟨f2, g1, g2.kp, fun X' sc => ?_⟩
          have FR : FnR G Pr mg base ⟨gv, wf, run T gv wf n⟩ n j f2 fd2 d2.ps := run_ok ht md n j d2 f2 fd2 q g2
          refine callR_of (X := X') (n := n) (fd := fd2) (ps := d2.ps) ?_ (sc.w.trans rfl) (sc.K.trans rfl) ?_ ?_ ?_ (run_len ht q)
          · rw [sc.prog, sc.mg, sc.base]
            exact FR
          · rw [sc.A]; exact hr'
          · rw [sc.A]; exact hg
          · rw [sc.K]; exact g3
    have ht' := (Ss.sound xc PassesOwn.never f'.body (defBody d.st) t4).nox
    have I : Inv (cxOf CX0 Pr G.w G.K mg base d.N d.name (defScope d.st) f cdv A outer s H E0) [] (L2.start d.N vs) H s1 := inv_start S hr.hd e0 hl r x
    have hq : tS G (f'.body.ex ⟨gv, wf, run T gv wf n⟩) { nx := fun _ H' => Q .non H', rt := Q } (L2.start d.N vs) H := by
      cases hex : f'.body.ex ⟨gv, wf, run T gv wf n⟩ (es.map (fun d => some (false, d)) ++ List.replicate (f'.ns - f'.np) none) st with
      | stuck => rw [hex] at ev; cases ev
      | exc _ _ _ => rw [hex] at ev; cases ev
      | ok p st2 =>
        obtain ⟨fl, env'⟩ := p
        rw [hex] at ev
        refine ⟨⟨B, ρ, H⟩, [], _, st, ρ, fl, env', st2, sit_start rs hv (by rw [t3, t2, hl]), hex, fun O' ρ' σ' H' si w => ?_⟩
        have rs' : RS (G := G) B st2 ρ' H' := si.rs.sub fun x hx => List.mem_append_right _ hx
        cases fl with
        | next => cases ev; exact k .non ρ' H' si.sp rs' rfl
        | brk => cases ev
        | cont => cases ev
        | ret d0 => cases ev; exact fun v dv => k v ρ' H' si.sp rs' (dv.sub si.rs fun x hx => List.mem_append_right _ hx)
    refine wpAny_mono (ht'.run [] s1 (L2.start d.N vs) H _ I hq) (fun fl s' hs => ?_) fun e s' hs => hs
    have fin : ∀ {σ' : L2.St} {H' : Hp} {v : V} {u : Value}, Inv (cxOf CX0 Pr G.w G.K mg base d.N d.name (defScope d.st) f cdv A outer s H E0) [] σ' H' s' → RelV v u → Q v H' → CE outer Pr G.w H s Q u s' :=
      fun {σ' H' v u} J rv q => ⟨v, H', J.os, J.bare, J.base, J.hok, rv, q⟩
    cases fl with
    | ret u =>
      obtain ⟨v, σ', H', J, rv, q⟩ := hs
      exact fin J rv q
    | next =>
      obtain ⟨σ', H', J, q⟩ := hs
      exact fin (v := V.non) (u := Value.none) J rfl q
    | brk =>
      obtain ⟨_, _, _, q⟩ := hs
      exact False.elim q
    | cont =>
      obtain ⟨_, _, _, q⟩ := hs
      exact False.elim q
end
end Dp
set_option Elab.async false
set_option linter.all false
set_option maxRecDepth 100000
set_option maxHeartbeats 8000000
/-! Dp25: the law's own call. -/
namespace Dp
open PySem PySem.Spec PyProof.Rows L2 PySem.W PySem.SeqAt

/-- the module's written part has no list -/
def noLst (K : PySem.W.Frag) : Bool := K.all fun p => match p.2.cls with
  | .type s => !(s == "list")
  | _ => true
theorem lk_mem {K : PySem.W.Frag} {a : Addr} {o : Obj} (e : K.lookup a = some o) : (a, o) ∈ K := by
  induction K with
  | nil => cases e
  | cons p K ih =>
    obtain ⟨b, x⟩ := p
    rw [List.lookup_cons] at e
    split at e
    · rename_i h
      cases e
      rw [beq_iff_eq] at h
      subst h
      exact List.mem_cons_self
    · exact List.mem_cons_of_mem _ (ih e)
theorem noLst_get {K : PySem.W.Frag} {a : Addr} {o : Obj} (h : noLst K = true) (e : K.lookup a = some o) : o.cls ≠ .type "list" := by
  have m := lk_mem e
  have q := List.all_eq_true.mp h _ m
  intro z
  rw [show ((a, o).2).cls = .type "list" from z] at q
  exact absurd q (by decide)
theorem dvs_ofInts {G : Gx} {M ρ : List Addr} {H : Hp} : ∀ ns : List Int, DVs G M ρ H (ns.map D.int) (ns.map V.int)
  | [] => rfl
  | n :: ns => ⟨.int n, ns.map V.int, rfl, rfl, dvs_ofInts ns⟩
theorem law_callD {P : Program} {w : World} {K : PySem.W.Frag} {xr : Nat → List D → List Addr → List Addr → Hp → Value → Option Addr → Prop} {mg mb : Str → Option Value} {k i : Nat} {fa a : Addr} {fd : FuncData} {x : Str} {s₁ : Shared} {vs : List Value} {ns : List Int} {T : List Fd} {gv : List D} {wf : Nat} {st' : Store}
    (KX : K.In s₁.heap) (hns : s₁.heap.Ns mainGlobals mg) (hb : s₁.heap.Ns builtinsNs mb) (hbb : ∀ x : Str, x ≠ "__name__" → mb x = bootBuiltins x) (hlim : s₁.heap.NoLimit) (hg : s₁.gens = #[])
    (ha : s₁.heap.get? a = some { cls := .type "list", data := .seq vs.toArray }) (hi : IntsAre vs ns) (hl : ns.length ≤ sizeLine) (hr : Room k callerA) (hnl : noLst K = true)
    (F : ∀ base : Heap, K.In base → base.Ns mainGlobals mg → FnR ⟨K, w, xr⟩ P mg base ⟨gv, wf, run T gv wf k⟩ k i fa fd [x]) (hbind : BindsTo s₁ fd ⟨[.ref a], []⟩ [(x, .ref a)])
    (hev : run T gv wf k i [.lst (ns.map .int)] [] = .ok (.bl true) st') :
    codeAny (model P w) callerA (.call (.ref fa) ⟨[.ref a], []⟩) (fun r s' => r = .ok (.ret (.bool true)) ∧ OldK s₁.heap s'.heap ∧ s'.os = s₁.os ∧ AllBare s'.gens) s₁ := by
  have rv := vals_ints hi
  have lenV := hi.length
  have hk : K.lookup a = none := by
    cases q : K.lookup a with
    | none => rfl
    | some o =>
      have e := KX a o q
      rw [ha] at e
      cases e
      exact (noLst_get hnl q rfl).elim
  have core : ∀ H : Hp, Only H → L2.Rd H a (.lst (ns.map V.int)) → HOk P w H s₁.heap → (∀ b, H b ≠ none → b = a) →
      codeAny (model P w) callerA (.call (.ref fa) ⟨[.ref a], []⟩) (fun r s' => r = .ok (.ret (.bool true)) ∧ OldK s₁.heap s'.heap ∧ s'.os = s₁.os ∧ AllBare s'.gens) s₁ := by
    intro H hO hS hok hA
    have base_of : ∀ {b : Addr} {o : Obj}, s₁.heap.get? b = some o → H b = none → (hidT s₁.heap H).get? b = some o := fun e n => hidT_get e n
    have noA : ∀ {b : Addr} {o : Obj} {es : Array DictEntry} {ep : Nat}, s₁.heap.get? b = some o → o.data = .dict es ep → H b = none := fun {b o es ep} e d => by
      cases q : H b with
      | none => rfl
      | some u =>
        have e' : b = a := hA b (by rw [q]; simp)
        subst e'
        rw [ha] at e; cases e
        have d' : Data.seq vs.toArray _ = Data.dict es ep := d
        cases d'
    have nsK : ∀ {b : Addr} {m : Str → Option Value}, s₁.heap.Ns b m → (hidT s₁.heap H).Ns b m := fun {b m} ⟨o, es, ep, e, d, r⟩ => ⟨o, es, ep, base_of e (noA e d), d, r⟩
    have hKb : K.In (hidT s₁.heap H) := fun b o e => base_of (KX b o e) (by
      cases q : H b with
      | none => rfl
      | some u =>
        have e' : b = a := hA b (by rw [q]; simp)
        subst e'
        rw [hk] at e; cases e)
    have hM : Mod K mg (hidT s₁.heap H) := ⟨hKb, nsK hns, ⟨mb, nsK hb, hbb⟩, let ⟨mc, h1, h2⟩ := hlim; ⟨mc, nsK h1, h2⟩⟩
    have e0 : Env0 P w K mg (hidT s₁.heap H) callerA [] s₁ H := ⟨rfl, hM, fun b o e => of_hidT e, Nat.le_of_eq (hidT_size _ _), trivial, fun b hb => absurd (show b ∈ ([] : List Addr) from hb) (by simp), hok, .of_eq hg⟩
    have hsp : rCall ⟨K, w, xr⟩ ⟨gv, wf, run T gv wf k⟩ i [.ref a] H (fun v _ => v = .bl true) := by
      refine ⟨[], [], [], [.lst (ns.map .int)], .bl true, st', ⟨fun m hm => absurd hm (by simp), rfl, List.nodup_nil, fun b hb => absurd hb (by simp), fun n c a e1 _ => by simp at e1⟩, ⟨.ref a, [], rfl, ⟨a, ns.map V.int, rfl, hS, by simp, dvs_ofInts ns⟩, rfl⟩, hev, fun v ρ' H' _ _ dv => dv⟩
    refine codeAny_mono (F _ hKb (nsK hns) callerA [] s₁ H ⟨[.ref a], []⟩ [.ref a] [.ref a] _ hr rfl e0 hbind rfl (.cons rfl .nil) hsp) fun r s' h => ?_
    cases r with
    | error e => exact h.elim
    | ok fl =>
      cases fl with
      | next => exact False.elim h
      | brk => exact False.elim h
      | cont => exact False.elim h
      | ret u =>
        obtain ⟨v, H', os, bare, un, hok', r', q⟩ := h
        have q' : v = .bl true := q
        subst q'
        obtain rfl : u = Value.bool true := r'
        refine ⟨rfl, OldK.of_keep fun b o e => ?_, os, bare⟩
        cases q : H b with
        | none => exact un.keep b o e q (by intro z; exact absurd (show b ∈ ([] : List Addr) from z) (by simp)) (by simp)
        | some u =>
          rcases hO b with z | ⟨ob, xs, z⟩
          · rw [q] at z; cases z
          · have z2 := un.frzs b ob _ z
            obtain ⟨e1, _⟩ := hok b _ z
            obtain ⟨e2, _⟩ := hok' b _ z2
            rw [e] at e1; cases e1
            exact e2
  refine core (fun b => if b = a then some (.frz { cls := .type "list", data := .seq vs.toArray } (.lst (ns.map V.int))) else none) (fun b => ?_) (.inr ⟨{ cls := .type "list", data := .seq vs.toArray }, if_pos rfl⟩) (fun b u z => ?_) (fun b z => ?_)
  · by_cases hb : b = a
    · exact .inr ⟨_, _, if_pos hb⟩
    · exact .inl (if_neg hb)
  · by_cases hb : b = a
    · have z' := (if_pos hb).symm.trans z
      cases z'
      subst hb
      exact ⟨ha, by rw [List.length_map]; exact hl, vs, _, rv, ha⟩
    · have z' := (if_neg hb).symm.trans z
      cases z'
  · by_cases hb : b = a
    · exact hb
    · exact absurd (if_neg hb) z
/-- the goal that k_head leaves, from a run of the table -/
theorem walk_ofD {l : PySem.W.OpenLaw} {n k i : Nat} {q : Program} {loose : List Str} {XP : (Str → Option Value) → Heap → Prop} {YP : World → Heap → Prop} {d : DefRec} {K : Params → PySem.W.Frag} {ds : List Df} {dl : Df} {bn gn : List Str} {gv : List D} {T : List Fd} {wf : Nat}
    (hn : l.most = some n) (hn2 : n ≤ sizeLine) (hdf : d.params.defaults = []) (hr : Room k callerA)
    (hY : ∀ (w : World) (h : Heap), YP w h → (K w.params).In h) (hi : ds[i]? = some dl) (hname : dl.name = d.name)
    (ht : tabOk bn (ds.map (·.name)) gn ds T = true)
    (F : ∀ (w : World) (mg : Str → Option Value) (h : Heap), (K w.params).In h → h.Ns mainGlobals mg →
      noLst (K w.params) = true ∧ Md ⟨K w.params, w, fun _ _ _ _ _ _ _ => True⟩ mg ds bn gn gv ∧ ∃ x, dl.ps = [x])
    (hev : ∀ ns : List Int, ns.length ≤ n → ∃ st', run T gv wf k i [.lst (ns.map .int)] [] = .ok (.bl true) st') :
    PySem.W.WalkO q loose XP YP l.row.toRowW d [] (fun f vs => PySem.call f vs) := by
  refine Att.attach_call hn hdf fun w s₀ s₁ mg mb fa o pm cd doc a vs ns G Y ho hd hcd hmg hobj hints hlen hg => ?_
  have KX := hY w _ Y
  obtain ⟨hnl, md, x, hx⟩ := F w mg _ KX G.T.g
  obtain ⟨f, fd, g1, g2, g3⟩ := md.fn i dl hi
  rw [hname, hmg] at g1
  cases g1
  obtain ⟨st', he⟩ := hev ns hlen
  have hb : BindsTo s₁ fd ⟨[.ref a], []⟩ [(x, .ref a)] := by
    have := g3 s₁ [.ref a] KX (by rw [hx]; rfl)
    rw [hx] at this
    exact this
  exact law_callD (x := x) (fd := fd) (i := i) (k := k) (xr := fun _ _ _ _ _ _ _ => True) KX G.T.g G.T.b G.T.builtins G.T.nolimit hg hobj hints (Nat.le_trans hlen hn2) hr hnl (fun base hb hns => by
    have := run_ok (Pr := l.prog) (mg := mg) (base := base) (wf := wf) ht md k i dl fa fd hi g2
    rw [hx] at this
    exact this) hb he
end Dp
set_option Elab.async false
set_option linter.all false
set_option maxRecDepth 100000
set_option maxHeartbeats 8000000
/-! Dp26: what the top has written, put together. -/
namespace Dp
open PySem PySem.Spec PyProof.Rows L2 PySem.W PySem.SeqAt

def FnAt (K : PySem.W.Frag) (mg : Str → Option Value) (d : Df) : Prop := ∃ f fd, mg d.name = some (.ref f) ∧ Fun K d.name d.name d.st f fd ∧ Binds K fd d.ps []
def AllFn (K : PySem.W.Frag) (mg : Str → Option Value) : List Df → Prop
  | [] => True
  | d :: r => FnAt K mg d ∧ AllFn K mg r
def GlAt (mg : Str → Option Value) (x : Str) (d : D) : Prop := ∃ v u, mg x = some u ∧ RelV v u ∧ ∀ (G : Gx) M ρ H, DV G M ρ H d v
def AllGl (mg : Str → Option Value) : List Str → List D → Prop
  | [], _ => True
  | x :: r, d :: ds => GlAt mg x d ∧ AllGl mg r ds
  | _ :: _, [] => False
def AllNo (mg : Str → Option Value) : List Str → Prop
  | [] => True
  | x :: r => mg x = none ∧ AllNo mg r
section
variable {K : PySem.W.Frag} {h : Heap} {mg : Str → Option Value}
theorem fn_at {name : Str} {N ps : List Str} {st : Stmt} {f : Addr} {oc : Value} {od an : Option Addr} {osl : Array (Option Value)} {kV doc pm cdv ct : Value} (X : K.In h) (G : h.Ns mainGlobals mg)
    (a : PySem.W.nsIn K mainGlobals name = some (some (.ref f))) (l : K.lookup f = some ⟨oc, od, .func (PySem.W.fnOf name name (defArgs st) (defBody st) (defScope st) .none kV doc pm an cdv ct), osl⟩)
    (c : PySem.W.codeIn K cdv name = true) (k : PySem.W.keepIn K (.ref f) = true)
    (b : ∀ (kV doc pm : Value) (an : Option Addr) (cdv ct : Value) (us : List Value), us.length = ps.length → bindArgs (PySem.W.fnOf name name (defArgs st) (defBody st) (defScope st) .none kV doc pm an cdv ct) ⟨us, []⟩ = pure (ps.zip us)) : FnAt K mg ⟨name, N, ps, st⟩ :=
  let F := fun_mk (x := name) (qual := name) (st := st) l c k
  ⟨f, _, PySem.W.mg_of X G a, F, F.binds b⟩
theorem gl_int {x : Str} {i : Int} {u : Value} (X : K.In h) (G : h.Ns mainGlobals mg) (a : PySem.W.nsIn K mainGlobals x = some (some u)) (r : RelV (.int i) u) : GlAt mg x (.int i) := ⟨.int i, u, PySem.W.mg_of X G a, r, fun _ _ _ _ => rfl⟩
theorem no_at {x : Str} (X : K.In h) (G : h.Ns mainGlobals mg) (a : PySem.W.nsIn K mainGlobals x = some none) : mg x = none := PySem.W.mg_none_of X G a
theorem allFn_get : ∀ {ds : List Df}, AllFn K mg ds → ∀ (i : Nat) d, ds[i]? = some d → FnAt K mg d
  | [], _, i, d, e => by simp at e
  | d :: r, h, 0, _, e => by simp at e; subst e; exact h.1
  | d :: r, h, i + 1, _, e => allFn_get h.2 i _ (by simpa using e)
theorem allGl_get : ∀ {gn : List Str} {gv : List D}, AllGl mg gn gv → ∀ (k : Nat) x, gn[k]? = some x → ∃ v u, mg x = some u ∧ RelV v u ∧ ∀ d, gv[k]? = some d → ∀ (G : Gx) M ρ H, DV G M ρ H d v
  | [], _, _, k, x, e => by simp at e
  | _ :: _, [], h, k, x, e => h.elim
  | y :: r, d :: ds, h, 0, x, e => by
    simp at e; subst e
    obtain ⟨v, u, h1, h2, h3⟩ := h.1
    exact ⟨v, u, h1, h2, fun d' e' => by simp at e'; subst e'; exact h3⟩
  | y :: r, d :: ds, h, k + 1, x, e => by
    simpa using allGl_get h.2 k x (by simpa using e)
theorem allNo_get : ∀ {bn : List Str}, AllNo mg bn → ∀ x ∈ bn, mg x = none
  | [], _, x, hx => absurd hx (by simp)
  | y :: r, h, x, hx => by
    rcases List.mem_cons.mp hx with rfl | hx
    · exact h.1
    · exact allNo_get h.2 x hx
theorem md_of {w : World} {xr} {ds : List Df} {bn gn : List Str} {gv : List D} (h1 : AllFn K mg ds) (h2 : AllGl mg gn gv) (h3 : AllNo mg bn) : Md ⟨K, w, xr⟩ mg ds bn gn gv :=
  ⟨fun i d e => allFn_get h1 i d e, fun k x e => by
    obtain ⟨v, u, q1, q2, q3⟩ := allGl_get h2 k x e
    exact ⟨v, u, q1, q2, fun d e M ρ H => q3 d e _ M ρ H⟩, fun x hx => allNo_get h3 x hx⟩
end
end Dp
set_option Elab.async false
set_option linter.all false
set_option maxRecDepth 100000
set_option maxHeartbeats 8000000
/-! Dp27: runs of the small language: rules to walk them. -/
namespace Dp

/-- r ends well, with Q of what it gives and the store behind it -/
def Runs {α : Type} (r : Res α) (Q : α → Store → Prop) : Prop := ∃ a st, r = .ok a st ∧ Q a st
section
variable {α β : Type} {P : Par} {env : Env} {st : Store}
theorem runs_ok {a : α} {Q : α → Store → Prop} (h : Q a st) : Runs (.ok a st) Q := ⟨a, st, rfl, h⟩
theorem runs_of {r : Res α} {a : α} {Q : α → Store → Prop} (e : r = .ok a st) (h : Q a st) : Runs r Q := ⟨a, st, e, h⟩
theorem Runs.mono {r : Res α} {Q Q' : α → Store → Prop} (h : Runs r Q) (k : ∀ a st, Q a st → Q' a st) : Runs r Q' := by
  obtain ⟨a, st, e, q⟩ := h
  exact ⟨a, st, e, k _ _ q⟩
theorem runs_bind {r : Res α} {f : α → Store → Res β} {Q : β → Store → Prop} (h : Runs r fun a st => Runs (f a st) Q) : Runs (r.bind f) Q := by
  obtain ⟨a, st, e, q⟩ := h
  rw [e]
  exact q
theorem Runs.eq {r : Res α} {a : α} (h : Runs r fun b s => b = a ∧ s = st) : r = .ok a st := by
  obtain ⟨b, s, e, rfl, rfl⟩ := h
  exact e
theorem runs_opt {o : Option α} {a : α} {Q : α → Store → Prop} (e : o = some a) (h : Q a st) : Runs (ofOpt o st) Q := by
  rw [e]
  exact runs_ok h

/-! ### expressions -/
theorem ev_v {i : Nat} {d : D} (h : getS env i = some d) : (Ex.v i).ev P env st = .ok d st := by
  unfold Ex.ev
  rw [h]
  rfl
theorem ev_bor {i : Nat} {d : D} (h : getW env i = some d) : (Ex.bor i).ev P env st = .ok d st := by
  unfold Ex.ev
  rw [h]
  rfl
theorem r_v {i : Nat} {d : D} {Q : D → Store → Prop} (h : getS env i = some d) (q : Q d st) : Runs ((Ex.v i).ev P env st) Q := runs_of (ev_v h) q
theorem r_bor {i : Nat} {d : D} {Q : D → Store → Prop} (h : getW env i = some d) (q : Q d st) : Runs ((Ex.bor i).ev P env st) Q := runs_of (ev_bor h) q
theorem r_lit {d : D} {Q : D → Store → Prop} (q : Q d st) : Runs ((Ex.lit d).ev P env st) Q := runs_of (by unfold Ex.ev; rfl) q
theorem r_glob {k : Nat} {d : D} {Q : D → Store → Prop} (h : P.glob[k]? = some d) (q : Q d st) : Runs ((Ex.glob k).ev P env st) Q := by
  unfold Ex.ev
  exact runs_opt h q
theorem rs_nil {Q : List D → Store → Prop} (q : Q [] st) : Runs (Exs.nil.ev P env st) Q := runs_of (by unfold Exs.ev; rfl) q
theorem rs_cons {e : Ex} {es : Exs} {Q : List D → Store → Prop} (h : Runs (e.ev P env st) fun d st1 => Runs (es.ev P env st1) fun ds st2 => Q (d :: ds) st2) : Runs ((Exs.cons e es).ev P env st) Q := by
  unfold Exs.ev
  exact runs_bind (h.mono fun d st1 q => runs_bind (q.mono fun ds st2 q => runs_ok q))
theorem r_prim {p : Pr} {es : Exs} {Q : D → Store → Prop} (h : Runs (es.ev P env st) fun ds st1 => ∃ d, prEv st1 p ds = some d ∧ Q d st1) : Runs ((Ex.prim p es).ev P env st) Q := by
  unfold Ex.ev
  exact runs_bind (h.mono fun ds st1 ⟨d, e, q⟩ => runs_opt e q)
theorem r_p1 {p : Pr} {a : Ex} {Q : D → Store → Prop} (h : Runs (a.ev P env st) fun x st1 => ∃ d, prEv st1 p [x] = some d ∧ Q d st1) : Runs ((Ex.prim p (.cons a .nil)).ev P env st) Q :=
  r_prim (rs_cons (h.mono fun x st1 q => rs_nil q))
theorem r_p2 {p : Pr} {a b : Ex} {Q : D → Store → Prop} (h : Runs (a.ev P env st) fun x st1 => Runs (b.ev P env st1) fun y st2 => ∃ d, prEv st2 p [x, y] = some d ∧ Q d st2) : Runs ((Ex.prim p (.cons a (.cons b .nil))).ev P env st) Q :=
  r_prim (rs_cons (h.mono fun x st1 q => rs_cons (q.mono fun y st2 q => rs_nil q)))
theorem r_p3 {p : Pr} {a b c : Ex} {Q : D → Store → Prop} (h : Runs (a.ev P env st) fun x st1 => Runs (b.ev P env st1) fun y st2 => Runs (c.ev P env st2) fun z st3 => ∃ d, prEv st3 p [x, y, z] = some d ∧ Q d st3) : Runs ((Ex.prim p (.cons a (.cons b (.cons c .nil)))).ev P env st) Q :=
  r_prim (rs_cons (h.mono fun x st1 q => rs_cons (q.mono fun y st2 q => rs_cons (q.mono fun z st3 q => rs_nil q))))
theorem r_tup {es : Exs} {Q : D → Store → Prop} (h : Runs (es.ev P env st) fun ds st1 => ds.length ≤ LIM ∧ Q (.tup ds) st1) : Runs ((Ex.tup es).ev P env st) Q := by
  unfold Ex.ev
  exact runs_bind (h.mono fun ds st1 ⟨e, q⟩ => runs_opt (by unfold fits; rw [if_pos e]) q)
theorem r_lst {es : Exs} {Q : D → Store → Prop} (h : Runs (es.ev P env st) fun ds st1 => ds.length ≤ LIM ∧ Q (.lst ds) st1) : Runs ((Ex.lst es).ev P env st) Q := by
  unfold Ex.ev
  exact runs_bind (h.mono fun ds st1 ⟨e, q⟩ => runs_opt (by unfold fits; rw [if_pos e]) q)
theorem r_call {f : Nat} {es : Exs} {Q : D → Store → Prop} (h : Runs (es.ev P env st) fun ds st1 => Runs (P.call f ds st1) Q) : Runs ((Ex.call f es).ev P env st) Q := by
  unfold Ex.ev
  exact runs_bind h
theorem r_and {a b : Ex} {Q : D → Store → Prop} (h : Runs (a.ev P env st) fun d st1 => ∃ t, d = .bl t ∧ if t then Runs (b.ev P env st1) Q else Q (.bl false) st1) : Runs ((Ex.and a b).ev P env st) Q := by
  unfold Ex.ev
  refine runs_bind (h.mono fun d st1 ⟨t, e, q⟩ => runs_bind ?_)
  subst e
  refine runs_opt (a := t) rfl ?_
  cases t
  · exact runs_ok q
  · exact q
theorem r_or {a b : Ex} {Q : D → Store → Prop} (h : Runs (a.ev P env st) fun d st1 => ∃ t, d = .bl t ∧ if t then Q (.bl true) st1 else Runs (b.ev P env st1) Q) : Runs ((Ex.or a b).ev P env st) Q := by
  unfold Ex.ev
  refine runs_bind (h.mono fun d st1 ⟨t, e, q⟩ => runs_bind ?_)
  subst e
  refine runs_opt (a := t) rfl ?_
  cases t
  · exact q
  · exact runs_ok q
theorem r_not {a : Ex} {Q : D → Store → Prop} (h : Runs (a.ev P env st) fun d st1 => ∃ t, d.tru = some t ∧ Q (.bl (!t)) st1) : Runs ((Ex.not a).ev P env st) Q := by
  unfold Ex.ev
  exact runs_bind (h.mono fun d st1 ⟨t, e, q⟩ => runs_bind (runs_opt e (runs_ok q)))
theorem r_ife {c a b : Ex} {Q : D → Store → Prop} (h : Runs (c.test P env st) fun t st1 => if t then Runs (a.ev P env st1) Q else Runs (b.ev P env st1) Q) : Runs ((Ex.ife c a b).ev P env st) Q := by
  unfold Ex.ev
  refine runs_bind (h.mono fun t st1 q => ?_)
  cases t
  · exact q
  · exact q
theorem r_chain {o o' : Co} {a b c : Ex} {Q : D → Store → Prop} (h : Runs (a.ev P env st) fun x st1 => Runs (b.ev P env st1) fun y st2 => ∃ t, coEv o x y = some t ∧ if t then Runs (c.ev P env st2) fun z st3 => ∃ u, coEv o' y z = some u ∧ Q (.bl u) st3 else Q (.bl false) st2) : Runs ((Ex.chain o o' a b c).ev P env st) Q := by
  unfold Ex.ev
  refine runs_bind (h.mono fun x st1 q => runs_bind (q.mono fun y st2 ⟨t, e, q⟩ => runs_bind (runs_opt e ?_)))
  cases t
  · exact runs_ok q
  · exact runs_bind (Runs.mono q fun z st3 ⟨u, e2, q⟩ => runs_opt (by rw [e2]; rfl) q)
theorem r_new {e : Ex} {Q : D → Store → Prop} (h : Runs (e.ev P env st) fun d st1 => (∃ ds, d = .lst ds ∧ Q (.ref st1.length) (st1 ++ [.lst ds])) ∨ ∃ ks vs, d = .dct ks vs ∧ Q (.ref st1.length) (st1 ++ [.dct ks vs])) : Runs ((Ex.new e).ev P env st) Q := by
  unfold Ex.ev
  refine runs_bind (h.mono fun d st1 q => ?_)
  rcases q with ⟨ds, rfl, q⟩ | ⟨ks, vs, rfl, q⟩
  · exact runs_ok q
  · exact runs_ok q

/-! ### tests -/
theorem t_and {a b : Ex} {Q : Bool → Store → Prop} (h : Runs (a.test P env st) fun t st1 => if t then Runs (b.test P env st1) Q else Q false st1) : Runs ((Ex.and a b).test P env st) Q := by
  unfold Ex.test
  refine runs_bind (h.mono fun t st1 q => ?_)
  cases t
  · exact runs_ok q
  · exact q
theorem t_or {a b : Ex} {Q : Bool → Store → Prop} (h : Runs (a.test P env st) fun t st1 => if t then Q true st1 else Runs (b.test P env st1) Q) : Runs ((Ex.or a b).test P env st) Q := by
  unfold Ex.test
  refine runs_bind (h.mono fun t st1 q => ?_)
  cases t
  · exact q
  · exact runs_ok q
theorem t_not {a : Ex} {Q : Bool → Store → Prop} (h : Runs (a.test P env st) fun t st1 => Q (!t) st1) : Runs ((Ex.not a).test P env st) Q := by
  unfold Ex.test
  exact runs_bind (h.mono fun t st1 q => runs_ok q)
theorem t_prim {p : Pr} {es : Exs} {Q : Bool → Store → Prop} (h : Runs ((Ex.prim p es).ev P env st) fun d st1 => ∃ t, d.tru = some t ∧ Q t st1) : Runs ((Ex.prim p es).test P env st) Q := by
  unfold Ex.test
  unfold Ex.ev at h
  obtain ⟨d, st1, e, t, e2, q⟩ := h
  obtain ⟨ds, st2, g1, g2⟩ := Res.bind_eq e
  exact runs_bind (runs_of g1 (runs_bind (runs_of g2 (runs_opt e2 q))))
theorem t_call {f : Nat} {es : Exs} {Q : Bool → Store → Prop} (h : Runs ((Ex.call f es).ev P env st) fun d st1 => ∃ t, d.tru = some t ∧ Q t st1) : Runs ((Ex.call f es).test P env st) Q := by
  unfold Ex.test
  unfold Ex.ev at h
  obtain ⟨d, st1, e, t, e2, q⟩ := h
  obtain ⟨ds, st2, g1, g2⟩ := Res.bind_eq e
  exact runs_bind (runs_of g1 (runs_bind (runs_of g2 (runs_opt e2 q))))
theorem t_chain {o o' : Co} {a b c : Ex} {Q : Bool → Store → Prop} (h : Runs (a.ev P env st) fun x st1 => Runs (b.ev P env st1) fun y st2 => ∃ t, coEv o x y = some t ∧ if t then Runs (c.ev P env st2) fun z st3 => ∃ u, coEv o' y z = some u ∧ Q u st3 else Q false st2) : Runs ((Ex.chain o o' a b c).test P env st) Q := by
  unfold Ex.test
  refine runs_bind (h.mono fun x st1 q => runs_bind (q.mono fun y st2 ⟨t, e, q⟩ => runs_bind (runs_opt e ?_)))
  cases t
  · exact runs_ok q
  · exact runs_bind (Runs.mono q fun z st3 ⟨u, e2, q⟩ => runs_opt e2 q)
theorem t_v {i : Nat} {d : D} {t : Bool} {Q : Bool → Store → Prop} (h : getS env i = some d) (ht : d.tru = some t) (q : Q t st) : Runs ((Ex.v i).test P env st) Q := by
  unfold Ex.test
  exact runs_opt (by rw [h]; exact ht) q
theorem a_nil {Q : Bool → Store → Prop} (q : Q true st) : Runs (Exs.nil.all P env st) Q := runs_of (by unfold Exs.all; rfl) q
theorem a_one {e : Ex} {Q : Bool → Store → Prop} (h : Runs (e.test P env st) Q) : Runs ((Exs.cons e .nil).all P env st) Q := by
  unfold Exs.all
  refine runs_bind (h.mono fun t st1 q => ?_)
  cases t
  · exact runs_ok q
  · exact a_nil (P := P) (env := env) q

/-! ### what is walked -/
theorem i_ex {e : Ex} {Q : List D → Store → Prop} (h : Runs (e.ev P env st) fun d st1 => ∃ xs, itemsOf d = some xs ∧ Q xs st1) : Runs ((It.ex e).ev P env st) Q := by
  unfold It.ev
  exact runs_bind (h.mono fun d st1 ⟨xs, e, q⟩ => runs_opt e q)
theorem i_rng1 {a : Ex} {Q : List D → Store → Prop} (h : Runs (a.ev P env st) fun d st1 => ∃ xs, rng2E (.int 0) d = some xs ∧ Q xs st1) : Runs ((It.rng1 a).ev P env st) Q := by
  unfold It.ev
  exact runs_bind (h.mono fun d st1 ⟨xs, e, q⟩ => runs_opt e q)
theorem i_rng2 {a b : Ex} {Q : List D → Store → Prop} (h : Runs (a.ev P env st) fun d st1 => Runs (b.ev P env st1) fun d2 st2 => ∃ xs, rng2E d d2 = some xs ∧ Q xs st2) : Runs ((It.rng2 a b).ev P env st) Q := by
  unfold It.ev
  exact runs_bind (h.mono fun d st1 q => runs_bind (q.mono fun d2 st2 ⟨xs, e, q⟩ => runs_opt e q))
theorem i_enum {e : Ex} {Q : List D → Store → Prop} (h : Runs (e.ev P env st) fun d st1 => ∃ xs, seqOf d = some xs ∧ Q (enumFrom 0 xs) st1) : Runs ((It.enum e).ev P env st) Q := by
  unfold It.ev
  exact runs_bind (h.mono fun d st1 ⟨xs, e, q⟩ => runs_opt (by rw [e]; rfl) q)
theorem i_zip {a b : Ex} {Q : List D → Store → Prop} (h : Runs (a.ev P env st) fun d st1 => Runs (b.ev P env st1) fun d2 st2 => ∃ xs, zipE d d2 = some xs ∧ Q xs st2) : Runs ((It.zip a b).ev P env st) Q := by
  unfold It.ev
  exact runs_bind (h.mono fun d st1 q => runs_bind (q.mono fun d2 st2 ⟨xs, e, q⟩ => runs_opt e q))

/-! ### comprehensions -/
/-- by an invariant: turn, what is gathered, the store -/
theorem lcLoop_runs {F : D → Store → Res (List D)} (Inv : Nat → List D → Store → Prop) : ∀ (xs : List D) (i : Nat) (acc : List D) (st : Store),
    (∀ j x acc st, xs[j]? = some x → Inv (i + j) acc st → Runs (F x st) fun r st1 => Inv (i + j + 1) (acc ++ r) st1 ∧ r.length ≤ 1) → Inv i acc st → Runs (lcLoop F xs st) fun r st1 => Inv (i + xs.length) (acc ++ r) st1 ∧ r.length ≤ xs.length
  | [], i, acc, st, _, h => by
    unfold lcLoop
    exact runs_ok ⟨by simpa using h, Nat.le_refl _⟩
  | x :: xs, i, acc, st, hs, h => by
    unfold lcLoop
    refine runs_bind ((hs 0 x acc st rfl h).mono fun r st1 q => runs_bind ?_)
    refine (lcLoop_runs Inv xs (i + 1) (acc ++ r) st1 (fun j y acc' st' hy hi => ?_) q.1).mono fun r2 st2 q2 => runs_ok ⟨?_, ?_⟩
    · have := hs (j + 1) y acc' st' (by simpa using hy) (by rw [show i + (j + 1) = i + 1 + j by omega]; exact hi)
      rw [show i + (j + 1) + 1 = i + 1 + j + 1 by omega] at this
      exact this
    · have := q2.1
      rw [List.append_assoc, show i + 1 + xs.length = i + (x :: xs).length by simp; omega] at this
      exact this
    · have := q.2; have := q2.2; simp; omega
theorem runs_noExc {r : Res α} {Q : α → Store → Prop} (h : Runs r Q) : Runs (noExc r) Q := by
  obtain ⟨a, st, e, q⟩ := h
  rw [e]
  exact runs_ok q
theorem r_lc {own : List Nat} {tg : Tg} {it : It} {ts : Exs} {e : Ex} {Q : D → Store → Prop} (h : Runs (it.ev P env st) fun xs st1 => ∃ Inv : Nat → List D → Store → Prop, xs.length ≤ LIM ∧ Inv 0 [] st1 ∧
    (∀ j x acc st, xs[j]? = some x → Inv j acc st → ∃ env1, tg.put x (wipeE env own) = some env1 ∧ Runs (ts.all P env1 st) fun t st2 => if t then Runs (e.ev P env1 st2) fun y st3 => Inv (j + 1) (acc ++ [y]) st3 else Inv (j + 1) acc st2) ∧
    ∀ acc st', Inv xs.length acc st' → acc.length ≤ xs.length → Q (.lst acc) st') : Runs ((Ex.lc own tg it ts e).ev P env st) Q := by
  unfold Ex.ev
  refine runs_bind (h.mono fun xs st1 ⟨Inv, hl, h0, hs, hq⟩ => runs_bind ?_)
  refine runs_noExc ((lcLoop_runs Inv xs 0 [] st1 (fun j x acc st hx hi => ?_) h0).mono fun r st2 ⟨q1, q2⟩ => ?_)
  · rw [Nat.zero_add] at hi ⊢
    obtain ⟨env1, hp, q⟩ := hs j x acc st hx hi
    simp only [hp]
    refine runs_bind (q.mono fun t st2 q => ?_)
    cases t
    · exact runs_ok ⟨by rw [List.append_nil]; exact q, Nat.zero_le _⟩
    · exact runs_bind (Runs.mono q fun y st3 q => runs_ok ⟨q, Nat.le_refl _⟩)
  · refine runs_opt (a := .lst r) (by unfold fits; rw [if_pos (Nat.le_trans q2 hl)]) ?_
    rw [Nat.zero_add, List.nil_append] at q1
    exact hq r st2 q1 q2
/-- nothing but values -/
theorem r_lcP {β : Type} {own : List Nat} {tg : Tg} {it : It} {ts : Exs} {e : Ex} {Q : D → Store → Prop} (ys : List β) (f : β → D) (p : β → Bool) (g : β → D) (hi : it.ev P env st = .ok (ys.map f) st) (hl : ys.length ≤ LIM)
    (hs : ∀ y ∈ ys, ∃ env1, tg.put (f y) (wipeE env own) = some env1 ∧ ts.all P env1 st = .ok (p y) st ∧ (p y = true → e.ev P env1 st = .ok (g y) st)) (q : Q (.lst ((ys.filter p).map g)) st) : Runs ((Ex.lc own tg it ts e).ev P env st) Q := by
  refine r_lc (runs_of hi ⟨fun j acc s => s = st ∧ acc = ((ys.take j).filter p).map g, by simpa using hl, ⟨rfl, rfl⟩, fun j x acc s hx ⟨es, ea⟩ => ?_, fun acc s ⟨es, ea⟩ _ => ?_⟩)
  · subst es ea
    rw [List.getElem?_map] at hx
    cases hy : ys[j]? with
    | none => rw [hy] at hx; cases hx
    | some y =>
      rw [hy] at hx
      cases hx
      obtain ⟨env1, h1, h2, h3⟩ := hs y (List.mem_of_getElem? hy)
      refine ⟨env1, h1, runs_of h2 ?_⟩
      have tk : ys.take (j + 1) = ys.take j ++ [y] := by rw [List.take_add_one, hy]; rfl
      cases hp : p y with
      | true =>
        refine runs_of (h3 hp) ⟨rfl, ?_⟩
        rw [tk, List.filter_append, List.map_append, List.filter_cons, hp]
        rfl
      | false =>
        refine ⟨rfl, ?_⟩
        rw [tk, List.filter_append, List.map_append, List.filter_cons, hp]
        simp
  · subst es ea
    rw [List.length_map, List.take_length]
    exact q

/-! ### statements -/
abbrev SQ := Flow × Env → Store → Prop
theorem s_nil {Q : SQ} (q : Q (.next, env) st) : Runs (Ss.nil.ex P env st) Q := runs_of (by unfold Ss.ex; rfl) q
theorem s_cons {s : St} {r : Ss} {Q : SQ} (h : Runs (s.ex P env st) fun p st1 => match p.1 with
    | .next => Runs (r.ex P p.2 st1) Q
    | fl => Q (fl, p.2) st1) : Runs ((Ss.cons s r).ex P env st) Q := by
  unfold Ss.ex
  refine runs_bind (h.mono fun p st1 q => ?_)
  obtain ⟨fl, env1⟩ := p
  cases fl with
  | next => exact q
  | brk => exact runs_ok q
  | cont => exact runs_ok q
  | ret d => exact runs_ok q
theorem s_ret {e : Ex} {Q : SQ} (h : Runs (e.ev P env st) fun d st1 => Q (.ret d, env) st1) : Runs ((St.ret e).ex P env st) Q := by
  unfold St.ex
  exact runs_bind (h.mono fun d st1 q => runs_ok q)
theorem s_asg {t : Tg} {e : Ex} {Q : SQ} (h : Runs (e.ev P env st) fun d st1 => ∃ env1, t.put d env = some env1 ∧ Q (.next, env1) st1) : Runs ((St.asg t e).ex P env st) Q := by
  unfold St.ex
  refine runs_bind (h.mono fun d st1 ⟨env1, e1, q⟩ => ?_)
  rw [e1]
  exact runs_ok q
theorem s_own {i : Nat} {e : Ex} {Q : SQ} (h : Runs (e.ev P env st) fun d st1 => Q (.next, env.set i (some (true, d))) st1) : Runs ((St.own i e).ex P env st) Q := by
  unfold St.ex
  exact runs_bind (h.mono fun d st1 q => runs_ok q)
theorem s_par {is : List (Nat × Bool)} {es : Exs} {Q : SQ} (h : Runs (es.ev P env st) fun ds st1 => ∃ env1, parPut is ds env = some env1 ∧ Q (.next, env1) st1) : Runs ((St.par is es).ex P env st) Q := by
  unfold St.ex
  refine runs_bind (h.mono fun d st1 ⟨env1, e1, q⟩ => ?_)
  rw [e1]
  exact runs_ok q
theorem s_put {a k e : Ex} {Q : SQ} (h : Runs (e.ev P env st) fun v st1 => Runs (a.ev P env st1) fun o st2 => Runs (k.ev P env st2) fun kd st3 => ∃ st4, putCell st3 o kd v = some st4 ∧ Q (.next, env) st4) : Runs ((St.put a k e).ex P env st) Q := by
  unfold St.ex
  refine runs_bind (h.mono fun v st1 q => runs_bind (q.mono fun o st2 q => runs_bind (q.mono fun kd st3 ⟨st4, e1, q⟩ => ?_)))
  rw [e1]
  exact runs_ok q
theorem s_app {i : Nat} {e : Ex} {Q : SQ} (h : Runs (e.ev P env st) fun v st1 => ∃ ds, ownAt env i = some (.lst ds) ∧ ds.length < LIM ∧ Q (.next, env.set i (some (true, .lst (ds ++ [v])))) st1) : Runs ((St.app i e).ex P env st) Q := by
  unfold St.ex
  refine runs_bind (h.mono fun v st1 ⟨ds, e1, e2, q⟩ => ?_)
  rw [e1]
  simp only [if_pos e2]
  exact runs_ok q
theorem s_exp {e : Ex} {Q : SQ} (h : Runs (e.ev P env st) fun _ st1 => Q (.next, env) st1) : Runs ((St.exp e).ex P env st) Q := by
  unfold St.ex
  exact runs_bind (h.mono fun v st1 q => runs_ok q)
theorem s_ifs {c : Ex} {a b : Ss} {Q : SQ} (h : Runs (c.test P env st) fun t st1 => if t then Runs (a.ex P env st1) Q else Runs (b.ex P env st1) Q) : Runs ((St.ifs c a b).ex P env st) Q := by
  unfold St.ex
  refine runs_bind (h.mono fun t st1 q => ?_)
  cases t
  · exact q
  · exact q
theorem s_frz {i : Nat} {b : Bool} {d : D} {Q : SQ} (h : env[i]? = some (some (b, d))) (q : Q (.next, env.set i (some (false, d))) st) : Runs ((St.frz i).ex P env st) Q := by
  unfold St.ex
  rw [h]
  exact runs_ok q
/-- by an invariant: turn, the slots, the store -/
theorem forLoop_runs {tg : Tg} {f : Env → Store → Res (Flow × Env)} {Q : SQ} (Inv : Nat → Env → Store → Prop) : ∀ (xs : List D) (i : Nat) (env : Env) (st : Store),
    (∀ j x env st, xs[j]? = some x → Inv (i + j) env st → ∃ env1, tg.put x env = some env1 ∧ Runs (f env1 st) fun p st1 => match p.1 with
      | .next => Inv (i + j + 1) p.2 st1
      | .cont => Inv (i + j + 1) p.2 st1
      | .brk => Q (.next, p.2) st1
      | .ret d => Q (.ret d, p.2) st1) → Inv i env st → (∀ env st, Inv (i + xs.length) env st → Q (.next, env) st) → Runs (forLoop tg f xs env st) Q
  | [], i, env, st, _, h, hq => by
    unfold forLoop
    exact runs_ok (hq env st h)
  | x :: xs, i, env, st, hs, h, hq => by
    unfold forLoop
    obtain ⟨env1, e1, q⟩ := hs 0 x env st rfl h
    rw [e1]
    refine runs_bind (q.mono fun p st1 q => ?_)
    have next : Inv (i + 1) p.2 st1 → Runs (forLoop tg f xs p.2 st1) Q := fun hi => by
      refine forLoop_runs Inv xs (i + 1) p.2 st1 (fun j y env' st' hy hi' => ?_) hi fun env' st' hi' => hq env' st' ?_
      · have := hs (j + 1) y env' st' (by simpa using hy) (by rw [show i + (j + 1) = i + 1 + j by omega]; exact hi')
        rw [show i + (j + 1) + 1 = i + 1 + j + 1 by omega] at this
        exact this
      · rw [show i + (x :: xs).length = i + 1 + xs.length by simp; omega]
        exact hi'
    obtain ⟨fl, env2⟩ := p
    cases fl with
    | next => exact next q
    | cont => exact next q
    | brk => exact runs_ok q
    | ret d => exact runs_ok q
theorem s_for {tg : Tg} {it : It} {b : Ss} {Q : SQ} (h : Runs (it.ev P env st) fun xs st1 => ∃ Inv : Nat → Env → Store → Prop, Inv 0 env st1 ∧
    (∀ j x env st, xs[j]? = some x → Inv j env st → ∃ env1, tg.put x env = some env1 ∧ Runs (b.ex P env1 st) fun p st1 => match p.1 with
      | .next => Inv (j + 1) p.2 st1
      | .cont => Inv (j + 1) p.2 st1
      | .brk => Q (.next, p.2) st1
      | .ret d => Q (.ret d, p.2) st1) ∧ ∀ env st, Inv xs.length env st → Q (.next, env) st) : Runs ((St.for tg it b).ex P env st) Q := by
  unfold St.ex
  refine runs_bind (h.mono fun xs st1 ⟨Inv, h0, hs, hq⟩ => ?_)
  refine forLoop_runs Inv xs 0 env st1 (fun j x env st hx hi => ?_) h0 fun env st hi => hq env st (by rw [Nat.zero_add] at hi; exact hi)
  rw [Nat.zero_add] at hi ⊢
  exact hs j x env st hx hi
/-- a def -/
theorem run_of {T : List Fd} {gv : List D} {wf n k : Nat} {fd : Fd} {ds : List D} {Q : D → Store → Prop} (hT : T[k]? = some fd) (hl : ds.length = fd.np) (h : Runs (fd.body.ex ⟨gv, wf, run T gv wf n⟩ (ds.map (fun d => some (false, d)) ++ List.replicate (fd.ns - fd.np) none) st) fun p st1 => match p.1 with
    | .next => Q .non st1
    | .ret d => Q d st1
    | _ => False) : Runs (run T gv wf (n + 1) k ds st) Q := by
  unfold run
  rw [hT]
  simp only [if_pos hl]
  obtain ⟨p, st1, e, q⟩ := h
  rw [e]
  obtain ⟨fl, env1⟩ := p
  cases fl with
  | next => exact runs_ok q
  | brk => exact q.elim
  | cont => exact q.elim
  | ret d => exact runs_ok q
end
end Dp
set_option Elab.async false
set_option linter.all false
set_option maxRecDepth 100000
set_option maxHeartbeats 8000000
/-! Dp28: numbers, rows of numbers, rows of rows. -/
namespace Dp
open PySem

def nD (n : Nat) : D := .int n
def ti (l : List Nat) : D := .tup (l.map nD)
def tl (ls : List (List Nat)) : D := .tup (ls.map ti)
theorem eqb_n (a b : Nat) : D.eqb (nD a) (nD b) = decide (a = b) := by
  show ((a : Int) == b) = _
  by_cases h : a = b
  · subst h; simp
  · rw [decide_eq_false h]
    simpa using fun z : (a : Int) = b => h (by omega)
theorem eqb_ns : ∀ a b : List Nat, D.eqbs (a.map nD) (b.map nD) = decide (a = b)
  | [], [] => by simp [D.eqbs]
  | [], _ :: _ => by simp [D.eqbs]
  | _ :: _, [] => by simp [D.eqbs]
  | x :: a, y :: b => by
    simp only [List.map_cons, D.eqbs, eqb_n, eqb_ns a b, List.cons.injEq, Bool.decide_and]
theorem eqb_ti (a b : List Nat) : D.eqb (ti a) (ti b) = decide (a = b) := eqb_ns a b
theorem ti_inj {a b : List Nat} (h : ti a = ti b) : a = b := by
  have := eqb_ti a b
  rw [← h, eqb_ti a a] at this
  simpa using this.symm
theorem lay_n (k n : Nat) : D.lay k (nD n) = true := by unfold nD D.lay; cases k <;> rfl
theorem lay_ti (a : List Nat) : ∀ k, D.lay (k + 1) (ti a) = true := fun k => by
  unfold ti D.lay
  simp only [List.all_map, List.all_eq_true, Function.comp]
  exact fun x _ => lay_n k x
theorem lay_tl (a : List (List Nat)) : ∀ k, D.lay (k + 2) (tl a) = true := fun k => by
  unfold tl D.lay
  simp only [List.all_map, List.all_eq_true, Function.comp]
  exact fun x _ => lay_ti x k
theorem ok_n (a b : Nat) : eqOk (nD a) (nD b) = true := rfl
theorem ok_ti (a b : List Nat) : eqOk (ti a) (ti b) = true := by
  unfold eqOk
  rw [show DEEP = 19 + 1 from rfl, lay_ti, lay_ti]
  rfl
theorem any_n (p : Nat) : ∀ l : List Nat, (l.map nD).any (fun d => D.eqb d (nD p)) = decide (p ∈ l)
  | [] => by simp
  | x :: l => by
    rw [List.map_cons, List.any_cons, any_n p l, eqb_n]
    by_cases h : x = p
    · subst h; simp
    · have : p ≠ x := fun z => h z.symm
      simp [h, this]
theorem any_ti (a : List Nat) : ∀ ls : List (List Nat), (ls.map ti).any (fun d => D.eqb d (ti a)) = decide (a ∈ ls)
  | [] => by simp
  | x :: l => by
    rw [List.map_cons, List.any_cons, any_ti a l, eqb_ti]
    by_cases h : x = a
    · subst h; simp
    · have : a ≠ x := fun z => h z.symm
      simp [h, this]
theorem okall_n (p : Nat) (l : List Nat) : ((l.map nD).all fun d => eqOk d (nD p)) = true := by
  simp only [List.all_map, List.all_eq_true, Function.comp]
  exact fun x _ => ok_n x p
theorem okall_ti (a : List Nat) (ls : List (List Nat)) : ((ls.map ti).all fun d => eqOk d (ti a)) = true := by
  simp only [List.all_map, List.all_eq_true, Function.comp]
  exact fun x _ => ok_ti x a
theorem in_n (p : Nat) (l : List Nat) : coEv .inn (nD p) (ti l) = some (decide (p ∈ l)) := by
  show (if ((l.map nD).all fun d => eqOk d (nD p)) = true then some ((l.map nD).any fun d => D.eqb d (nD p)) else none) = _
  rw [okall_n, any_n]; rfl
theorem nin_n (p : Nat) (l : List Nat) : coEv .notin (nD p) (ti l) = some (!decide (p ∈ l)) := by
  show (if ((l.map nD).all fun d => eqOk d (nD p)) = true then some (!(l.map nD).any fun d => D.eqb d (nD p)) else none) = _
  rw [okall_n, any_n]; rfl
theorem inl_n (p : Nat) (l : List Nat) : coEv .inn (nD p) (.lst (l.map nD)) = some (decide (p ∈ l)) := by
  show (if ((l.map nD).all fun d => eqOk d (nD p)) = true then some ((l.map nD).any fun d => D.eqb d (nD p)) else none) = _
  rw [okall_n, any_n]; rfl
theorem ninl_n (p : Nat) (l : List Nat) : coEv .notin (nD p) (.lst (l.map nD)) = some (!decide (p ∈ l)) := by
  show (if ((l.map nD).all fun d => eqOk d (nD p)) = true then some (!(l.map nD).any fun d => D.eqb d (nD p)) else none) = _
  rw [okall_n, any_n]; rfl
theorem in_ti (a : List Nat) (ls : List (List Nat)) : coEv .inn (ti a) (.lst (ls.map ti)) = some (decide (a ∈ ls)) := by
  show (if ((ls.map ti).all fun d => eqOk d (ti a)) = true then some ((ls.map ti).any fun d => D.eqb d (ti a)) else none) = _
  rw [okall_ti, any_ti]; rfl
theorem in_tt (a : List Nat) (ls : List (List Nat)) : coEv .inn (ti a) (tl ls) = some (decide (a ∈ ls)) := by
  show (if ((ls.map ti).all fun d => eqOk d (ti a)) = true then some ((ls.map ti).any fun d => D.eqb d (ti a)) else none) = _
  rw [okall_ti, any_ti]; rfl
theorem nin_tt (a : List Nat) (ls : List (List Nat)) : coEv .notin (ti a) (tl ls) = some (!decide (a ∈ ls)) := by
  show (if ((ls.map ti).all fun d => eqOk d (ti a)) = true then some (!(ls.map ti).any fun d => D.eqb d (ti a)) else none) = _
  rw [okall_ti, any_ti]; rfl
theorem eq_ti (a b : List Nat) : coEv .eq (ti a) (ti b) = some (decide (a = b)) := by
  show (if eqOk (ti a) (ti b) = true then some (D.eqb (ti a) (ti b)) else none) = _
  rw [ok_ti, eqb_ti]; rfl
theorem ne_ti (a b : List Nat) : coEv .ne (ti a) (ti b) = some (!decide (a = b)) := by
  show (if eqOk (ti a) (ti b) = true then some (!D.eqb (ti a) (ti b)) else none) = _
  rw [ok_ti, eqb_ti]; rfl
/-- a list of plain things against the empty one -/
theorem lay_lst {ds : List D} {k : Nat} (h : ∀ d ∈ ds, D.lay k d = true) : D.lay (k + 1) (.lst ds) = true := by
  unfold D.lay
  simpa [List.all_eq_true] using h
theorem lay_tup {ds : List D} {k : Nat} (h : ∀ d ∈ ds, D.lay k d = true) : D.lay (k + 1) (.tup ds) = true := by
  unfold D.lay
  simpa [List.all_eq_true] using h
theorem eq_nil {ds : List D} (h : ∀ d ∈ ds, D.lay 19 d = true) : coEv .eq (.lst ds) (.lst []) = some ds.isEmpty := by
  show (if eqOk (.lst ds) (.lst []) = true then some (D.eqb (.lst ds) (.lst [])) else none) = _
  have : eqOk (.lst ds) (.lst []) = true := by
    unfold eqOk
    rw [show DEEP = 19 + 1 from rfl, lay_lst h, lay_lst (by simp)]
    rfl
  rw [this]
  cases ds <;> rfl
theorem ne_nil {ds : List D} (h : ∀ d ∈ ds, D.lay 19 d = true) : coEv .ne (.lst ds) (.lst []) = some (!ds.isEmpty) := by
  show (if eqOk (.lst ds) (.lst []) = true then some (!D.eqb (.lst ds) (.lst [])) else none) = _
  have : eqOk (.lst ds) (.lst []) = true := by
    unfold eqOk
    rw [show DEEP = 19 + 1 from rfl, lay_lst h, lay_lst (by simp)]
    rfl
  rw [this]
  cases ds <;> rfl
theorem lay_ns (l : List Nat) : ∀ d ∈ l.map nD, D.lay 19 d = true := fun d hd => by
  obtain ⟨x, _, rfl⟩ := List.mem_map.mp hd
  exact lay_n _ x
theorem lay_tis (l : List (List Nat)) : ∀ d ∈ l.map ti, D.lay 19 d = true := fun d hd => by
  obtain ⟨x, _, rfl⟩ := List.mem_map.mp hd
  exact lay_ti x 18

/-! ### order -/
def lx : List Nat → List Nat → Bool
  | x :: xs, y :: ys => if x = y then lx xs ys else decide (x < y)
  | [], _ :: _ => true
  | _, _ => false
theorem lexI_lx : ∀ a b : List Nat, lexI (a.map Int.ofNat) (b.map Int.ofNat) = lx a b
  | [], [] => rfl
  | [], _ :: _ => rfl
  | _ :: _, [] => rfl
  | x :: a, y :: b => by
    simp only [List.map_cons, lexI, lx, lexI_lx a b]
    by_cases h : x = y
    · subst h; simp
    · have : ¬ (Int.ofNat x = Int.ofNat y) := fun z => h (Int.ofNat.inj z)
      rw [if_neg this, if_neg h]
      congr 1
      exact propext (by simp)
theorem intsOf_n : ∀ l : List Nat, intsOf (l.map nD) = some (l.map Int.ofNat)
  | [] => rfl
  | x :: l => by
    show (intsOf (l.map nD)).map _ = _
    rw [intsOf_n l]
    rfl
theorem lt_ti (a b : List Nat) : coEv .lt (ti a) (ti b) = some (lx a b) := by
  show tupI lexI (a.map nD) (b.map nD) = _
  unfold tupI
  rw [intsOf_n, intsOf_n]
  simp only [Option.bind_some, Option.map_some, lexI_lx]
theorem ge_ti (a b : List Nat) : coEv .ge (ti a) (ti b) = some (!lx a b) := by
  show tupI (fun x y => !lexI x y) (a.map nD) (b.map nD) = _
  unfold tupI
  rw [intsOf_n, intsOf_n]
  simp only [Option.bind_some, Option.map_some, lexI_lx]
theorem le_ti (a b : List Nat) : coEv .le (ti a) (ti b) = some (!lx b a) := by
  show tupI (fun x y => !lexI y x) (a.map nD) (b.map nD) = _
  unfold tupI
  rw [intsOf_n, intsOf_n]
  simp only [Option.bind_some, Option.map_some, lexI_lx]
theorem lx_irr : ∀ a : List Nat, lx a a = false
  | [] => rfl
  | x :: a => by simp [lx, lx_irr a]
theorem lx_trans : ∀ {a b c : List Nat}, lx a b = true → lx b c = true → lx a c = true
  | [], [], _, h, _ => by simp [lx] at h
  | [], _ :: _, [], _, h => by simp [lx] at h
  | [], _ :: _, _ :: _, _, _ => rfl
  | _ :: _, [], _, h, _ => by simp [lx] at h
  | _ :: _, _ :: _, [], _, h => by simp [lx] at h
  | x :: a, y :: b, z :: c, h, g => by
    simp only [lx] at h g ⊢
    by_cases h1 : x = y
    · subst h1
      rw [if_pos rfl] at h
      by_cases h2 : x = z
      · subst h2
        rw [if_pos rfl] at g ⊢
        exact lx_trans h g
      · rw [if_neg h2] at g ⊢
        exact g
    · rw [if_neg h1] at h
      by_cases h2 : y = z
      · subst h2
        rw [if_neg h1]
        exact h
      · rw [if_neg h2] at g
        simp only [decide_eq_true_eq] at h g
        rw [if_neg (by omega)]
        simp only [decide_eq_true_eq]
        omega
theorem lx_tri : ∀ a b : List Nat, lx a b = true ∨ a = b ∨ lx b a = true
  | [], [] => .inr (.inl rfl)
  | [], _ :: _ => .inl rfl
  | _ :: _, [] => .inr (.inr rfl)
  | x :: a, y :: b => by
    simp only [lx]
    by_cases h : x = y
    · subst h
      simp only [if_true]
      rcases lx_tri a b with q | q | q
      · exact .inl q
      · exact .inr (.inl (by rw [q]))
      · exact .inr (.inr q)
    · rw [if_neg h, if_neg (fun z => h z.symm)]
      simp only [decide_eq_true_eq]
      omega
theorem keys_lx : ∀ a b : List Nat, PyProof.Rows.lexLt PyProof.Rows.itemOrd (PySem.W.keyToksAll ((a.map nD).map D.toP)) (PySem.W.keyToksAll ((b.map nD).map D.toP)) = lx a b
  | [], [] => rfl
  | [], y :: b => by
    simp only [List.map_nil, List.map_cons, PySem.W.keyToksAll]
    rfl
  | x :: a, [] => by
    simp only [List.map_nil, List.map_cons, PySem.W.keyToksAll]
    rfl
  | x :: a, y :: b => by
    simp only [List.map_cons]
    rw [PySem.W.dataLt_cons (by rfl)]
    rw [keys_lx a b]
    show (if PyData.eqv (.int x) (.int y) = true then lx a b else PySem.W.dataLt (.int x) (.int y)) = _
    rw [PySem.W.dataLt_int]
    simp only [lx]
    by_cases h : x = y
    · subst h
      rw [if_pos rfl, if_pos (by simp [PyData.eqv])]
    · rw [if_neg h, if_neg (by simp only [PyData.eqv]; simpa using fun z : (x : Int) = y => h (by omega))]
      congr 1
      exact propext (by omega)
theorem ltb_ti (a b : List Nat) : D.ltb (ti a) (ti b) = lx a b := by
  show PySem.W.dataLt (.tuple (D.toPs (a.map nD))) (.tuple (D.toPs (b.map nD))) = _
  rw [PySem.W.dataLt_tuple, toPs_map, toPs_map, keys_lx]
end Dp
set_option Elab.async false
set_option linter.all false
set_option maxRecDepth 100000
set_option maxHeartbeats 8000000
/-! Dp29: rows of rows: order, dicts, sets; what may be shown. -/
namespace Dp
open PySem

/-! ### order -/
def leN (a b : List Nat) : Bool := !lx b a
def srt (ls : List (List Nat)) : List (List Nat) := ls.mergeSort leN
theorem leN_trans : ∀ a b c : List Nat, leN a b = true → leN b c = true → leN a c = true := by
  intro a b c h g
  unfold leN at *
  simp only [Bool.not_eq_true'] at *
  rcases lx_tri c a with q | q | q
  · exfalso
    rcases lx_tri b c with p | p | p
    · have := lx_trans p q; rw [this] at h; cases h
    · subst p; rw [q] at h; cases h
    · rw [p] at g; cases g
  · subst q; exact lx_irr _
  · cases e : lx c a with
    | false => rfl
    | true =>
      have := lx_trans q e
      rw [lx_irr] at this
      cases this
theorem leN_total : ∀ a b : List Nat, (leN a b || leN b a) = true := by
  intro a b
  unfold leN
  rcases lx_tri a b with q | q | q
  · cases e : lx b a with
    | false => rfl
    | true => have := lx_trans q e; rw [lx_irr] at this; cases this
  · subst q; rw [lx_irr]; rfl
  · cases e : lx a b with
    | false => simp
    | true => have := lx_trans q e; rw [lx_irr] at this; cases this
theorem srt_ti (ls : List (List Nat)) : sortD (ls.map ti) = (srt ls).map ti := by
  unfold sortD srt
  refine (List.map_mergeSort fun a _ b _ => ?_).symm
  unfold leN D.leb
  rw [ltb_ti]
theorem ali_ns : ∀ a b : List Nat, PySem.W.alikeAll (D.toPs (a.map nD)) (D.toPs (b.map nD)) = true
  | [], _ => by simp [D.toPs, PySem.W.alikeAll]
  | _ :: _, [] => by simp [D.toPs, PySem.W.alikeAll]
  | x :: a, y :: b => by
    simp only [List.map_cons, D.toPs, PySem.W.alikeAll, ali_ns a b, Bool.and_true]
    rfl
theorem srtOk_ti (ls : List (List Nat)) : sortOk (ls.map ti) = true := by
  unfold sortOk
  simp only [List.all_map, List.all_eq_true, Function.comp, Bool.and_eq_true]
  refine fun a _ => ⟨⟨lay_ti a 19, rfl⟩, fun b _ => ?_⟩
  unfold D.ali ti
  simp only [D.toP, PySem.W.alike]
  exact ali_ns a b
theorem mem_srt {a : List Nat} {ls : List (List Nat)} : a ∈ srt ls ↔ a ∈ ls := List.mem_mergeSort
theorem len_srt (ls : List (List Nat)) : (srt ls).length = ls.length := (List.mergeSort_perm ls leN).length_eq
/-- strictly rising -/
def Up (ls : List (List Nat)) : Prop := ls.Pairwise fun a b => lx a b = true
theorem up_srt {ls : List (List Nat)} (h : ls.Nodup) : Up (srt ls) := by
  have s : (srt ls).Pairwise fun a b => leN a b = true := List.pairwise_mergeSort leN_trans leN_total ls
  have n : (srt ls).Nodup := (List.mergeSort_perm ls leN).nodup_iff.mpr h
  refine (s.and n).imp fun {a b} ⟨p, q⟩ => ?_
  rcases lx_tri a b with r | r | r
  · exact r
  · exact (q r).elim
  · unfold leN at p
    rw [r] at p
    cases p
theorem Up.nodup {ls : List (List Nat)} (h : Up ls) : ls.Nodup := h.imp fun {a b} p q => by
  subst q
  rw [lx_irr] at p
  cases p

/-! ### each once -/
def once : List (List Nat) → List (List Nat) → List (List Nat)
  | acc, [] => acc
  | acc, x :: r => if x ∈ acc then once acc r else once (acc ++ [x]) r
theorem mem_once {y : List Nat} : ∀ (r acc : List (List Nat)), y ∈ once acc r ↔ y ∈ acc ∨ y ∈ r
  | [], acc => by simp [once]
  | x :: r, acc => by
    unfold once
    split
    · rename_i h
      rw [mem_once r acc]
      constructor
      · rintro (q | q)
        · exact .inl q
        · exact .inr (List.mem_cons_of_mem _ q)
      · rintro (q | q)
        · exact .inl q
        · rcases List.mem_cons.mp q with q | q
          · exact .inl (q ▸ h)
          · exact .inr q
    · rw [mem_once r (acc ++ [x])]
      simp only [List.mem_append, List.mem_cons, List.not_mem_nil, or_false]
      constructor
      · rintro ((q | q) | q)
        · exact .inl q
        · exact .inr (.inl q)
        · exact .inr (.inr q)
      · rintro (q | q | q)
        · exact .inl (.inl q)
        · exact .inl (.inr q)
        · exact .inr q
theorem nodup_once : ∀ (r acc : List (List Nat)), acc.Nodup → (once acc r).Nodup
  | [], acc, h => h
  | x :: r, acc, h => by
    unfold once
    split
    · exact nodup_once r acc h
    · rename_i q
      refine nodup_once r _ ?_
      rw [List.nodup_append]
      exact ⟨h, by simp, fun a ha b hb z => by simp at hb; subst hb; subst z; exact q ha⟩
theorem len_once : ∀ (r acc : List (List Nat)), (once acc r).length ≤ acc.length + r.length
  | [], acc => by simp [once]
  | x :: r, acc => by
    unfold once
    split
    · have := len_once r acc; simp; omega
    · have := len_once r (acc ++ [x]); simp at this ⊢; omega
theorem dputs_once (r : List (List Nat)) : ∀ (acc : List (List Nat)) (vs : List D), (dputs (acc.map ti) vs (r.map fun l => (ti l, .bl true))).1 = (once acc r).map ti := by
  induction r with
  | nil => intro acc vs; rfl
  | cons x r ih =>
    intro acc vs
    rw [List.map_cons]
    unfold dputs once dput dhas
    rw [any_ti]
    by_cases h : x ∈ acc
    · rw [decide_eq_true h, if_pos rfl, if_pos h]
      exact ih acc _
    · rw [decide_eq_false h, if_neg Bool.false_ne_true, if_neg h]
      have := ih (acc ++ [x]) (vs ++ [.bl true])
      rw [List.map_append] at this
      exact this
theorem pairs_ti : ∀ r : List (List Nat), pairsOf (r.map fun l => .tup [ti l, .bl true]) = some (r.map fun l => (ti l, .bl true))
  | [] => rfl
  | x :: r => by
    show (pairsOf (r.map fun l => .tup [ti l, .bl true])).map _ = _
    rw [pairs_ti r]
    rfl
theorem tkey_ti (l : List Nat) : (ti l).tkey = true := by
  unfold D.tkey
  show (true && D.hsh 7 (.tup (l.map nD))) = true
  unfold D.hsh
  simp only [List.all_map, Bool.true_and, List.all_eq_true, Function.comp]
  intro x _
  rfl
theorem dict_ti (r : List (List Nat)) {st : Store} : ∃ vs, dictEv st [.lst (r.map fun l => .tup [ti l, .bl true])] = some (.dct ((once [] r).map ti) vs) := by
  refine ⟨(dputs [] [] (r.map fun l => (ti l, .bl true))).2, ?_⟩
  unfold dictEv
  simp only [pairs_ti, Option.bind_some]
  rw [if_pos (by simp only [List.map_map, List.all_map, List.all_eq_true, Function.comp]; exact fun x _ => tkey_ti x)]
  have := dputs_once r [] []
  rw [List.map_nil] at this
  rw [this]

/-! ### a set of numbers -/
def insN (i : Nat) : List Nat → List Nat
  | [] => [i]
  | j :: r => if i < j then i :: j :: r else if i = j then j :: r else j :: insN i r
def ssetN : List Nat → List Nat
  | [] => []
  | i :: r => insN i (ssetN r)
theorem insI_n (i : Nat) : ∀ l : List Nat, insI i (l.map Int.ofNat) = (insN i l).map Int.ofNat
  | [] => rfl
  | j :: r => by
    simp only [List.map_cons, insI, insN, insI_n i r]
    by_cases h : i < j
    · rw [if_pos h, if_pos (by simpa using h)]; rfl
    · rw [if_neg h, if_neg (by simpa using h)]
      by_cases e : i = j
      · subst e; rw [if_pos (show (i : Int) = Int.ofNat i from rfl), if_pos rfl]; rfl
      · rw [if_neg (fun z : (i : Int) = Int.ofNat j => e (Int.ofNat.inj z)), if_neg e]; rfl
theorem sset_n : ∀ l : List Nat, ssetI (l.map Int.ofNat) = (ssetN l).map Int.ofNat
  | [] => rfl
  | i :: r => by
    show insI i (ssetI (r.map Int.ofNat)) = _
    rw [sset_n r, insI_n]; rfl
theorem mem_insN {i x : Nat} : ∀ l : List Nat, x ∈ insN i l ↔ x = i ∨ x ∈ l
  | [] => by simp [insN]
  | j :: r => by
    unfold insN
    split
    · simp
    · split
      · rename_i e
        subst e
        simp
      · simp only [List.mem_cons, mem_insN r]
        constructor
        · rintro (q | q | q)
          · exact .inr (.inl q)
          · exact .inl q
          · exact .inr (.inr q)
        · rintro (q | q | q)
          · exact .inr (.inl q)
          · exact .inl q
          · exact .inr (.inr q)
theorem mem_sset {x : Nat} : ∀ l : List Nat, x ∈ ssetN l ↔ x ∈ l
  | [] => by simp [ssetN]
  | i :: r => by
    unfold ssetN
    rw [mem_insN, mem_sset r, List.mem_cons]
theorem ssetEv_n {st : Store} (l : List Nat) (h : l.length < 64) : ssetEv st [.lst (l.map nD)] = some (.lst ((ssetN l).map nD)) := by
  unfold ssetEv
  simp only [intsOf_n, Option.bind_some, List.length_map, if_pos h, sset_n, List.map_map]
  rfl

/-! ### what may be shown -/
mutual
def D.fine : D → Bool
  | .non => true
  | .bl _ => true
  | .int i => decide (i.natAbs < 1000)
  | .tup ds => D.fines ds
  | .lst ds => D.fines ds
  | _ => false
def D.fines : List D → Bool
  | [] => true
  | d :: ds => D.fine d && D.fines ds
end
theorem fines_all : ∀ ds : List D, D.fines ds = ds.all D.fine
  | [] => rfl
  | d :: ds => by simp [D.fines, fines_all ds]
mutual
theorem fine_show : ∀ d : D, d.fine = true → d.toP.showable = true ∧ d.toP.intsShort 13 = true
  | .non, _ => ⟨rfl, rfl⟩
  | .bl _, _ => ⟨rfl, rfl⟩
  | .int i, h => by
    have h : i.natAbs < 1000 := by simpa [D.fine] using h
    refine ⟨?_, ?_⟩
    · show decide (i.natAbs.log2 < 1920) = true
      rw [decide_eq_true_eq]
      have : i.natAbs.log2 ≤ i.natAbs := Nat.log2_le_self _
      omega
    · show decide ((PyData.shown (.int i)).length ≤ 13) = true
      rw [decide_eq_true_eq]
      exact PyData.shown_int_le (by omega)
  | .tup ds, h => by
    have := fines_show ds (by simpa [D.fine] using h)
    exact ⟨by simpa [D.toP, PyData.showable] using this.1, by simpa [D.toP, PyData.intsShort] using this.2⟩
  | .lst ds, h => by
    have := fines_show ds (by simpa [D.fine] using h)
    exact ⟨by simpa [D.toP, PyData.showable] using this.1, by simpa [D.toP, PyData.intsShort] using this.2⟩
  | .str _, h => absurd (show false = true from h) Bool.false_ne_true
  | .dct _ _, h => absurd (show false = true from h) Bool.false_ne_true
  | .ref _, h => absurd (show false = true from h) Bool.false_ne_true
theorem fines_show : ∀ ds : List D, D.fines ds = true → PyData.showableAll (D.toPs ds) = true ∧ PyData.intsShortAll 13 (D.toPs ds) = true
  | [], _ => ⟨rfl, rfl⟩
  | d :: ds, h => by
    simp only [D.fines, Bool.and_eq_true] at h
    have h1 := fine_show d h.1
    have h2 := fines_show ds h.2
    exact ⟨by simp [D.toPs, PyData.showableAll, h1.1, h2.1], by simp [D.toPs, PyData.intsShortAll, h1.2, h2.2]⟩
end
mutual
/-- how many nodes -/
def D.cnt : D → Nat
  | .tup ds => D.cnts ds + 1
  | .lst ds => D.cnts ds + 1
  | _ => 1
def D.cnts : List D → Nat
  | [] => 0
  | d :: ds => D.cnt d + D.cnts ds
end
mutual
theorem wt_le : ∀ d : D, d.fine = true → d.toP.weight + 1 ≤ 11 * d.cnt
  | .non, _ => by simp [D.toP, PyData.weight, D.cnt]
  | .bl _, _ => by simp [D.toP, PyData.weight, D.cnt]
  | .int i, h => by
    have h : i.natAbs < 1000 := by simpa [D.fine] using h
    simp only [D.toP, PyData.weight, D.cnt]
    split
    · omega
    · have : i.natAbs.log2 < 10 := by
        by_cases z : i.natAbs = 0
        · rw [z]; decide
        · exact (Nat.log2_lt z).mpr (by omega)
      omega
  | .tup ds, h => by
    have := wts_le ds (by simpa [D.fine] using h)
    simp only [D.toP, PyData.weight, D.cnt]
    omega
  | .lst ds, h => by
    have := wts_le ds (by simpa [D.fine] using h)
    simp only [D.toP, PyData.weight, D.cnt]
    omega
  | .str _, h => absurd (show false = true from h) Bool.false_ne_true
  | .dct _ _, h => absurd (show false = true from h) Bool.false_ne_true
  | .ref _, h => absurd (show false = true from h) Bool.false_ne_true
theorem wts_le : ∀ ds : List D, D.fines ds = true → PyData.weightAll (D.toPs ds) ≤ 11 * D.cnts ds
  | [], _ => by simp [D.toPs, PyData.weightAll]
  | d :: ds, h => by
    simp only [D.fines, Bool.and_eq_true] at h
    have h1 := wt_le d h.1
    have h2 := wts_le ds h.2
    simp only [D.toPs, PyData.weightAll, D.cnts]
    omega
end
theorem repr_fine {d : D} (hl : D.lay DEEP d = true) (hf : d.fine = true) (hc : 11 * d.cnt ≤ 2 ^ 20) : reprOk d = true := by
  unfold reprOk
  have h1 := fine_show d hf
  have h2 := wt_le d hf
  rw [hl, h1.1, h1.2]
  simp only [Bool.true_and, decide_eq_true_eq]
  omega
theorem reprT {ds : List D} {st : Store} (hl : D.lay DEEP (.tup ds) = true) (hf : (D.tup ds).fine = true) (hc : 11 * (D.tup ds).cnt ≤ 2 ^ 20) : reprEv st [.tup ds] = some (.str (D.tup ds).toP.shown) := by
  unfold reprEv
  simp only [if_pos (repr_fine hl hf hc)]
theorem reprL {ds : List D} {st : Store} (hl : D.lay DEEP (.lst ds) = true) (hf : (D.lst ds).fine = true) (hc : 11 * (D.lst ds).cnt ≤ 2 ^ 20) : reprEv st [.lst ds] = some (.str (D.lst ds).toP.shown) := by
  unfold reprEv
  simp only [if_pos (repr_fine hl hf hc)]
theorem fine_n {n : Nat} (h : n < 1000) : (nD n).fine = true := by
  show decide ((n : Int).natAbs < 1000) = true
  simpa using h
theorem fines_map {α : Type} (f : α → D) : ∀ l : List α, (∀ x ∈ l, (f x).fine = true) → D.fines (l.map f) = true
  | [], _ => rfl
  | x :: l, h => by
    show ((f x).fine && D.fines (l.map f)) = true
    rw [h x List.mem_cons_self, fines_map f l fun y hy => h y (List.mem_cons_of_mem _ hy)]
    rfl
theorem fine_ti {l : List Nat} (h : ∀ x ∈ l, x < 1000) : (ti l).fine = true := fines_map nD l fun x hx => fine_n (h x hx)
theorem fine_tl {ls : List (List Nat)} (h : ∀ l ∈ ls, ∀ x ∈ l, x < 1000) : (tl ls).fine = true := fines_map ti ls fun l hl => fine_ti (h l hl)
theorem cnts_map {α : Type} (f : α → D) (m : Nat) : ∀ l : List α, (∀ x ∈ l, (f x).cnt ≤ m) → D.cnts (l.map f) ≤ m * l.length
  | [], _ => by simp [D.cnts]
  | x :: l, h => by
    have h1 := h x List.mem_cons_self
    have h2 := cnts_map f m l fun y hy => h y (List.mem_cons_of_mem _ hy)
    simp only [List.map_cons, D.cnts, List.length_cons, Nat.mul_add, Nat.mul_one]
    omega
theorem cnt_n (n : Nat) : (nD n).cnt = 1 := rfl
theorem cnt_ti (l : List Nat) : (ti l).cnt ≤ l.length + 1 := by
  have := cnts_map nD 1 l fun x _ => Nat.le_refl _
  show D.cnts (l.map nD) + 1 ≤ _
  omega
theorem cnt_tl {ls : List (List Nat)} {m : Nat} (h : ∀ l ∈ ls, l.length ≤ m) : (tl ls).cnt ≤ (m + 1) * ls.length + 1 := by
  have := cnts_map ti (m + 1) ls fun l hl => Nat.le_trans (cnt_ti l) (by have := h l hl; omega)
  show D.cnts (ls.map ti) + 1 ≤ _
  omega
end Dp
set_option Elab.async false
set_option linter.all false
set_option maxRecDepth 100000
set_option maxHeartbeats 8000000
namespace K21
open Dp
def top (i : Nat) : PySem.Stmt := PySem.Challenge.pw_safeground_k21_whole_grounds.main.body.getD i (.Pass ⟨0, 0, 0, 0⟩)
/-- 0 0:thing 1:least 2:most -/
def b_0 : Ss :=
    (.cons (.ret (.and (.prim (.bi .isint) (.cons (.v 0) .nil)) (.and (.not (.prim (.bi .isbool) (.cons (.v 0) .nil))) (.chain .le .le (.v 1) (.v 0) (.v 2)))))
    .nil)
/-- 1 0:points 1:thing 2:one 3:other -/
def b_1 : Ss :=
    (.cons (.ifs (.or (.not (.prim (.bi .istup) (.cons (.v 1) .nil))) (.not (.prim (.bi .all) (.cons (.lc [2] (.name 2) (.ex (.v 1)) .nil (.call 0 (.cons (.v 2) (.cons (.lit (.int 0)) (.cons (.prim (.bo .sub) (.cons (.v 0) (.cons (.lit (.int 1)) .nil))) .nil))))) .nil)))) (.cons (.ret (.lit (.bl false)))
    .nil) .nil)
    (.cons (.ret (.prim (.bi .all) (.cons (.lc [2, 3] (.pair (.name 2) (.name 3)) (.zip (.v 1) (.prim (.cut true false) (.cons (.v 1) (.cons (.lit (.int 1)) .nil)))) .nil (.prim (.co .lt) (.cons (.v 2) (.cons (.v 3) .nil)))) .nil)))
    .nil))
/-- 2 0:lot 1:point -/
def b_2 : Ss :=
    (.cons (.ret (.prim (.bi .sum) (.cons (.lc [1] (.name 1) (.ex (.v 0)) .nil (.prim (.bo .shl) (.cons (.lit (.int 1)) (.cons (.v 1) .nil)))) .nil)))
    .nil)
/-- 3 0:thing 1:masks 2:known 3:points 4:lots 5:number 6:lot 7:mask 8:other -/
def b_3 : Ss :=
    (.cons (.ifs (.or (.not (.prim (.bi .istup) (.cons (.v 0) .nil))) (.or (.prim (.co .ne) (.cons (.prim (.bi .len) (.cons (.v 0) .nil)) (.cons (.lit (.int 2)) .nil))) (.not (.call 0 (.cons (.prim .sub (.cons (.v 0) (.cons (.lit (.int 0)) .nil))) (.cons (.lit (.int 1)) (.cons (.glob 0) .nil))))))) (.cons .raise
    .nil) .nil)
    (.cons (.asg (.pair (.name 3) (.name 4)) (.v 0))
    (.cons (.ifs (.not (.prim (.bi .istup) (.cons (.v 4) .nil))) (.cons .raise
    .nil) .nil)
    (.cons (.for (.pair (.name 5) (.name 6)) (.enum (.v 4)) (.cons (.ifs (.or (.not (.call 1 (.cons (.v 3) (.cons (.v 6) .nil)))) (.and (.prim (.co .gt) (.cons (.v 5) (.cons (.lit (.int 0)) .nil))) (.prim (.co .ge) (.cons (.prim .sub (.cons (.v 4) (.cons (.prim (.bo .sub) (.cons (.v 5) (.cons (.lit (.int 1)) .nil))) .nil))) (.cons (.v 6) .nil))))) (.cons .raise
    .nil) .nil)
    .nil))
    (.cons (.asg (.name 1) (.lc [6] (.name 6) (.ex (.v 4)) .nil (.call 2 (.cons (.v 6) .nil))))
    (.cons (.asg (.name 2) (.dc [7] (.name 7) (.ex (.v 1)) .nil (.v 7) (.lit (.bl true))))
    (.cons (.ifs (.or (.prim (.co .notin) (.cons (.lit (.int 0)) (.cons (.v 2) .nil))) (.prim (.co .notin) (.cons (.prim (.bo .sub) (.cons (.prim (.bo .shl) (.cons (.lit (.int 1)) (.cons (.v 3) .nil))) (.cons (.lit (.int 1)) .nil))) (.cons (.v 2) .nil)))) (.cons .raise
    .nil) .nil)
    (.cons (.for (.pair (.name 5) (.name 7)) (.enum (.v 1)) (.cons (.ifs (.not (.prim (.bi .all) (.cons (.lc [8] (.name 8) (.ex (.prim (.cut false true) (.cons (.v 1) (.cons (.v 5) .nil)))) .nil (.prim (.co .inn) (.cons (.prim (.bo .band) (.cons (.v 7) (.cons (.v 8) .nil))) (.cons (.v 2) .nil)))) .nil))) (.cons .raise
    .nil) .nil)
    .nil))
    (.cons (.ret (.v 0))
    .nil)))))))))
/-- 4 0:crew 1:part 2:teller -/
def b_4 : Ss :=
    (.cons (.ret (.prim (.bi .all) (.cons (.lc [2] (.name 2) (.ex (.v 1)) .nil (.prim (.co .inn) (.cons (.v 2) (.cons (.v 0) .nil)))) .nil)))
    .nil)
/-- 5 0:thing 1:tellers 2:gangs 3:number 4:crew 5:others 6:other -/
def b_5 : Ss :=
    (.cons (.ifs (.or (.not (.prim (.bi .istup) (.cons (.v 0) .nil))) (.or (.prim (.co .ne) (.cons (.prim (.bi .len) (.cons (.v 0) .nil)) (.cons (.lit (.int 2)) .nil))) (.not (.call 0 (.cons (.prim .sub (.cons (.v 0) (.cons (.lit (.int 0)) .nil))) (.cons (.lit (.int 1)) (.cons (.glob 1) .nil))))))) (.cons .raise
    .nil) .nil)
    (.cons (.asg (.pair (.name 1) (.name 2)) (.v 0))
    (.cons (.ifs (.or (.not (.prim (.bi .istup) (.cons (.v 2) .nil))) (.not (.chain .le .le (.lit (.int 1)) (.prim (.bi .len) (.cons (.v 2) .nil)) (.glob 2)))) (.cons .raise
    .nil) .nil)
    (.cons (.for (.pair (.name 3) (.name 4)) (.enum (.v 2)) (.cons (.ifs (.or (.not (.call 1 (.cons (.v 1) (.cons (.v 4) .nil)))) (.and (.prim (.co .gt) (.cons (.v 3) (.cons (.lit (.int 0)) .nil))) (.prim (.co .ge) (.cons (.prim .sub (.cons (.v 2) (.cons (.prim (.bo .sub) (.cons (.v 3) (.cons (.lit (.int 1)) .nil))) .nil))) (.cons (.v 4) .nil))))) (.cons .raise
    .nil) .nil)
    .nil))
    (.cons (.for (.pair (.name 3) (.name 4)) (.enum (.v 2)) (.cons (.asg (.name 5) (.prim (.bo .add) (.cons (.prim (.cut false true) (.cons (.v 2) (.cons (.v 3) .nil))) (.cons (.prim (.cut true false) (.cons (.v 2) (.cons (.prim (.bo .add) (.cons (.v 3) (.cons (.lit (.int 1)) .nil))) .nil))) .nil))))
    (.cons (.ifs (.prim (.bi .any) (.cons (.lc [6] (.name 6) (.ex (.v 5)) .nil (.or (.call 4 (.cons (.v 4) (.cons (.v 6) .nil))) (.call 4 (.cons (.v 6) (.cons (.v 4) .nil))))) .nil)) (.cons .raise
    .nil) .nil)
    .nil)))
    (.cons (.ret (.v 0))
    .nil))))))
/-- 6 0:space 1:system 2:thing 3:number 4:point -/
def b_6 : Ss :=
    (.cons (.exp (.call 3 (.cons (.v 0) .nil)))
    (.cons (.exp (.call 5 (.cons (.v 1) .nil)))
    (.cons (.ifs (.or (.not (.prim (.bi .istup) (.cons (.v 2) .nil))) (.prim (.co .ne) (.cons (.prim (.bi .len) (.cons (.v 2) .nil)) (.cons (.prim .sub (.cons (.v 1) (.cons (.lit (.int 0)) .nil))) .nil)))) (.cons .raise
    .nil) .nil)
    (.cons (.for (.pair (.name 3) (.name 4)) (.enum (.v 2)) (.cons (.ifs (.not (.call 0 (.cons (.v 4) (.cons (.lit (.int 0)) (.cons (.prim (.bo .sub) (.cons (.prim .sub (.cons (.v 0) (.cons (.lit (.int 0)) .nil))) (.cons (.lit (.int 1)) .nil))) .nil))))) (.cons .raise
    .nil) .nil)
    .nil))
    (.cons (.ret (.v 2))
    .nil)))))
/-- 7 0:one 1:other 2:teller -/
def b_7 : Ss :=
    (.cons (.ret (.prim (.bi .all) (.cons (.lc [2] (.name 2) (.ex (.v 0)) .nil (.prim (.co .inn) (.cons (.v 2) (.cons (.v 1) .nil)))) .nil)))
    .nil)
/-- 8 0:gangs 1:crew 2:gang -/
def b_8 : Ss :=
    (.cons (.ret (.prim (.bi .any) (.cons (.lc [2] (.name 2) (.ex (.v 0)) .nil (.call 7 (.cons (.v 1) (.cons (.v 2) .nil)))) .nil)))
    .nil)
/-- 9 0:space 1:lot -/
def b_9 : Ss :=
    (.cons (.exp (.call 3 (.cons (.v 0) .nil)))
    (.cons (.ret (.prim (.bi .tuple) (.cons (.lc [1] (.name 1) (.ex (.prim .sub (.cons (.v 0) (.cons (.lit (.int 1)) .nil)))) (.cons (.prim (.co .ne) (.cons (.v 1) (.cons (.tup .nil) .nil))) .nil) (.v 1)) .nil)))
    .nil))
/-- 10 0:space 1:thing 2:number 3:lot 4:one -/
def b_10 : Ss :=
    (.cons (.ifs (.or (.not (.prim (.bi .istup) (.cons (.v 1) .nil))) (.not (.chain .le .le (.lit (.int 1)) (.prim (.bi .len) (.cons (.v 1) .nil)) (.glob 3)))) (.cons (.ret (.lst (.cons (.lit .non) .nil)))
    .nil) .nil)
    (.cons (.for (.pair (.name 2) (.name 3)) (.enum (.v 1)) (.cons (.ifs (.or (.not (.prim (.bi .istup) (.cons (.v 3) .nil))) (.or (.prim (.co .eq) (.cons (.v 3) (.cons (.tup .nil) .nil))) (.prim (.co .notin) (.cons (.prim (.bi .repr) (.cons (.v 3) .nil)) (.cons (.lc [4] (.name 4) (.ex (.prim .sub (.cons (.v 0) (.cons (.lit (.int 1)) .nil)))) .nil (.prim (.bi .repr) (.cons (.v 4) .nil))) .nil))))) (.cons (.ret (.lst (.cons (.v 2) .nil)))
    .nil) .nil)
    (.cons (.ifs (.and (.prim (.co .gt) (.cons (.v 2) (.cons (.lit (.int 0)) .nil))) (.prim (.co .le) (.cons (.v 3) (.cons (.prim .sub (.cons (.v 1) (.cons (.prim (.bo .sub) (.cons (.v 2) (.cons (.lit (.int 1)) .nil))) .nil))) .nil)))) (.cons (.ret (.lst (.cons (.v 2) .nil)))
    .nil) .nil)
    .nil)))
    (.cons (.ret (.lst .nil))
    .nil)))
/-- 11 0:space 1:grounds 2:number -/
def b_11 : Ss :=
    (.cons (.for (.name 2) (.ex (.call 10 (.cons (.v 0) (.cons (.v 1) .nil)))) (.cons .raise
    .nil))
    .nil)
/-- 12 0:space 1:system 2:grounds 3:told -/
def b_12 : Ss :=
    (.cons (.exp (.call 3 (.cons (.v 0) .nil)))
    (.cons (.exp (.call 5 (.cons (.v 1) .nil)))
    (.cons (.exp (.call 11 (.cons (.v 0) (.cons (.v 2) .nil))))
    (.cons (.exp (.call 6 (.cons (.v 0) (.cons (.v 1) (.cons (.v 3) .nil)))))
    .nil))))
/-- 13 0:ground 1:told 2:teller 3:point -/
def b_13 : Ss :=
    (.cons (.ret (.prim (.bi .tuple) (.cons (.lc [2, 3] (.pair (.name 2) (.name 3)) (.enum (.v 1)) (.cons (.prim (.co .notin) (.cons (.v 3) (.cons (.v 0) .nil))) .nil) (.v 2)) .nil)))
    .nil)
/-- 14 0:system 1:grounds 2:told 3:ground -/
def b_14 : Ss :=
    (.cons (.ret (.lc [3] (.name 3) (.ex (.v 1)) (.cons (.call 8 (.cons (.prim .sub (.cons (.v 0) (.cons (.lit (.int 1)) .nil))) (.cons (.call 13 (.cons (.v 3) (.cons (.v 2) .nil))) .nil))) .nil) (.v 3)))
    .nil)
/-- 15 0:space 1:system 2:grounds 3:told -/
def b_15 : Ss :=
    (.cons (.exp (.call 12 (.cons (.v 0) (.cons (.v 1) (.cons (.v 2) (.cons (.v 3) .nil))))))
    (.cons (.ret (.prim (.bi .tuple) (.cons (.call 14 (.cons (.v 1) (.cons (.v 2) (.cons (.v 3) .nil)))) .nil)))
    .nil))
/-- 16 0:space 1:system 2:grounds 3:told 4:some 5:point 6:ground -/
def b_16 : Ss :=
    (.cons (.asg (.name 4) (.call 14 (.cons (.v 1) (.cons (.v 2) (.cons (.v 3) .nil)))))
    (.cons (.ifs (.prim (.co .eq) (.cons (.v 4) (.cons (.lst .nil) .nil))) (.cons (.ret (.lit .non))
    .nil) .nil)
    (.cons (.ret (.prim (.bi .tuple) (.cons (.lc [5] (.name 5) (.rng1 (.prim .sub (.cons (.v 0) (.cons (.lit (.int 0)) .nil)))) (.cons (.prim (.bi .all) (.cons (.lc [6] (.name 6) (.ex (.v 4)) .nil (.prim (.co .inn) (.cons (.v 5) (.cons (.v 6) .nil)))) .nil)) .nil) (.v 5)) .nil)))
    .nil)))
/-- 17 0:space 1:system 2:grounds 3:told -/
def b_17 : Ss :=
    (.cons (.exp (.call 12 (.cons (.v 0) (.cons (.v 1) (.cons (.v 2) (.cons (.v 3) .nil))))))
    (.cons (.ret (.call 16 (.cons (.v 0) (.cons (.v 1) (.cons (.v 2) (.cons (.v 3) .nil))))))
    .nil))
/-- 18 0:space 1:system 2:grounds 3:told 4:some 5:found 6:point 7:ground -/
def b_18 : Ss :=
    (.cons (.exp (.call 12 (.cons (.v 0) (.cons (.v 1) (.cons (.v 2) (.cons (.v 3) .nil))))))
    (.cons (.asg (.name 4) (.call 14 (.cons (.v 1) (.cons (.v 2) (.cons (.v 3) .nil)))))
    (.cons (.asg (.name 5) (.lc [6] (.name 6) (.rng1 (.prim .sub (.cons (.v 0) (.cons (.lit (.int 0)) .nil)))) (.cons (.prim (.bi .any) (.cons (.lc [7] (.name 7) (.ex (.v 4)) .nil (.prim (.co .inn) (.cons (.v 6) (.cons (.v 7) .nil)))) .nil)) .nil) (.v 6)))
    (.cons (.ret (.prim (.bi .tuple) (.cons (.lc [6] (.name 6) (.ex (.v 5)) (.cons (.not (.prim (.bi .all) (.cons (.lc [7] (.name 7) (.ex (.v 4)) .nil (.prim (.co .inn) (.cons (.v 6) (.cons (.v 7) .nil)))) .nil))) .nil) (.v 6)) .nil)))
    .nil))))
/-- 19 0:space 1:system 2:grounds 3:told 4:some 5:teller 6:point 7:ground -/
def b_19 : Ss :=
    (.cons (.exp (.call 12 (.cons (.v 0) (.cons (.v 1) (.cons (.v 2) (.cons (.v 3) .nil))))))
    (.cons (.asg (.name 4) (.call 14 (.cons (.v 1) (.cons (.v 2) (.cons (.v 3) .nil)))))
    (.cons (.ifs (.prim (.co .eq) (.cons (.v 4) (.cons (.lst .nil) .nil))) (.cons (.ret (.tup .nil))
    .nil) .nil)
    (.cons (.ret (.prim (.bi .tuple) (.cons (.lc [5, 6] (.pair (.name 5) (.name 6)) (.enum (.v 3)) (.cons (.not (.prim (.bi .any) (.cons (.lc [7] (.name 7) (.ex (.v 4)) .nil (.prim (.co .inn) (.cons (.v 6) (.cons (.v 7) .nil)))) .nil))) .nil) (.v 5)) .nil)))
    .nil))))
/-- 20 0:space 1:system 2:grounds 3:told 4:some 5:teller 6:point 7:ground -/
def b_20 : Ss :=
    (.cons (.exp (.call 12 (.cons (.v 0) (.cons (.v 1) (.cons (.v 2) (.cons (.v 3) .nil))))))
    (.cons (.asg (.name 4) (.call 14 (.cons (.v 1) (.cons (.v 2) (.cons (.v 3) .nil)))))
    (.cons (.ifs (.prim (.co .eq) (.cons (.v 4) (.cons (.lst .nil) .nil))) (.cons (.ret (.tup .nil))
    .nil) .nil)
    (.cons (.ret (.prim (.bi .tuple) (.cons (.lc [5, 6] (.pair (.name 5) (.name 6)) (.enum (.v 3)) (.cons (.prim (.bi .all) (.cons (.lc [7] (.name 7) (.ex (.v 4)) .nil (.prim (.co .inn) (.cons (.v 6) (.cons (.v 7) .nil)))) .nil)) .nil) (.v 5)) .nil)))
    .nil))))
/-- 21 0:space 1:system 2:grounds 3:told 4:some 5:ground -/
def b_21 : Ss :=
    (.cons (.exp (.call 12 (.cons (.v 0) (.cons (.v 1) (.cons (.v 2) (.cons (.v 3) .nil))))))
    (.cons (.asg (.name 4) (.lc [5] (.name 5) (.ex (.call 14 (.cons (.v 1) (.cons (.v 2) (.cons (.v 3) .nil))))) .nil (.prim (.bi .len) (.cons (.call 13 (.cons (.v 5) (.cons (.v 3) .nil))) .nil))))
    (.cons (.ret (.ife (.prim (.co .ne) (.cons (.v 4) (.cons (.lst .nil) .nil))) (.prim (.bi .min1) (.cons (.v 4) .nil)) (.lit .non)))
    .nil)))
/-- 22 0:_law_cell 1:_law_k -/
def b_22 : Ss :=
    (.cons (.asg (.name 0) (.prim (.bo .mod) (.cons (.prim (.bi .int) (.cons (.v 0) .nil)) (.cons (.lit (.int 2147483647)) .nil))))
    (.cons (.ret (.prim (.bo .mod) (.cons (.prim (.bo .mul) (.cons (.prim (.bo .mod) (.cons (.prim (.bo .add) (.cons (.prim (.bo .add) (.cons (.prim (.bo .mul) (.cons (.v 0) (.cons (.prim (.bo .add) (.cons (.lit (.int 48271)) (.cons (.prim (.bo .mul) (.cons (.prim (.bo .mul) (.cons (.lit (.int 2)) (.cons (.v 1) .nil))) (.cons (.v 1) .nil))) .nil))) .nil))) (.cons (.prim (.bo .mul) (.cons (.lit (.int 69621)) (.cons (.v 1) .nil))) .nil))) (.cons (.lit (.int 11)) .nil))) (.cons (.lit (.int 2147483647)) .nil))) (.cons (.lit (.int 69621)) .nil))) (.cons (.lit (.int 2147483629)) .nil))))
    .nil))
/-- 23 0:_law_script 1:_law_cells 2:_law_cell -/
def b_23 : Ss :=
    (.cons (.asg (.name 1) (.ife (.prim (.co .ne) (.cons (.v 0) (.cons (.lst .nil) .nil))) (.prim (.bi .list) (.cons (.v 0) .nil)) (.lst (.cons (.lit (.int 0)) .nil))))
    (.cons (.ret (.new (.dict (.cons (.lit (.str "cells")) (.cons (.lit (.str "lefts")) (.cons (.lit (.str "at")) (.cons (.lit (.str "room")) .nil)))) (.cons (.v 1) (.cons (.new (.lc [2] (.name 2) (.ex (.v 1)) .nil (.ife (.prim (.co .ge) (.cons (.v 2) (.cons (.prim (.bo .pow) (.cons (.lit (.int 10)) (.cons (.lit (.int 18)) .nil))) .nil))) (.v 2) (.lit (.int 0))))) (.cons (.lit (.int 0)) (.cons (.lit (.int 0)) .nil)))))))
    .nil))
/-- 24 0:_law_state 1:_law_many 2:_law_at 3:_law_place 4:_law_left 5:_law_number -/
def b_24 : Ss :=
    (.cons (.asg (.name 2) (.prim .sub (.cons (.v 0) (.cons (.lit (.str "at")) .nil))))
    (.cons (.put (.v 0) (.lit (.str "at")) (.prim (.bo .add) (.cons (.v 2) (.cons (.lit (.int 1)) .nil))))
    (.cons (.asg (.name 3) (.prim (.bo .mod) (.cons (.prim (.bi .int) (.cons (.v 2) .nil)) (.cons (.prim (.bi .len) (.cons (.prim .sub (.cons (.v 0) (.cons (.lit (.str "cells")) .nil))) .nil)) .nil))))
    (.cons (.asg (.name 4) (.prim .sub (.cons (.prim .sub (.cons (.v 0) (.cons (.lit (.str "lefts")) .nil))) (.cons (.v 3) .nil))))
    (.cons (.ifs (.prim (.co .gt) (.cons (.v 4) (.cons (.lit (.int 0)) .nil))) (.cons (.put (.prim .sub (.cons (.v 0) (.cons (.lit (.str "lefts")) .nil))) (.v 3) (.prim (.bo .fdiv) (.cons (.v 4) (.cons (.v 1) .nil))))
    (.cons (.ret (.prim (.bo .mod) (.cons (.prim (.bi .int) (.cons (.v 4) .nil)) (.cons (.v 1) .nil))))
    .nil)) .nil)
    (.cons (.asg (.name 5) (.call 22 (.cons (.call 22 (.cons (.prim .sub (.cons (.prim .sub (.cons (.v 0) (.cons (.lit (.str "cells")) .nil))) (.cons (.v 3) .nil))) (.cons (.v 2) .nil))) (.cons (.prim (.bo .add) (.cons (.lit (.int 40)) (.cons (.v 2) .nil))) .nil))))
    (.cons (.ret (.prim (.bo .mod) (.cons (.prim (.bo .fdiv) (.cons (.prim (.bi .int) (.cons (.prim (.bo .add) (.cons (.prim (.bo .mul) (.cons (.v 5) (.cons (.lit (.int 2147483647)) .nil))) (.cons (.call 22 (.cons (.v 5) (.cons (.prim (.bo .add) (.cons (.lit (.int 7)) (.cons (.v 2) .nil))) .nil))) .nil))) .nil)) (.cons (.lit (.int 64)) .nil))) (.cons (.v 1) .nil))))
    .nil)))))))
/-- 25 0:_law_state 1:_law_some -/
def b_25 : Ss :=
    (.cons (.ret (.prim .sub (.cons (.v 1) (.cons (.call 24 (.cons (.v 0) (.cons (.prim (.bi .len) (.cons (.v 1) .nil)) .nil))) .nil))))
    .nil)
/-- 26 0:_law_points 1:_law_rows 2:_law_point 3:_law_row -/
def b_26 : Ss :=
    (.cons (.asg (.name 1) (.lst (.cons (.tup .nil) .nil)))
    (.cons (.for (.name 2) (.rng1 (.v 0)) (.cons (.asg (.name 1) (.prim (.bo .add) (.cons (.v 1) (.cons (.lc [3] (.name 3) (.ex (.v 1)) .nil (.prim (.bo .add) (.cons (.v 3) (.cons (.tup (.cons (.v 2) .nil)) .nil)))) .nil))))
    .nil))
    (.cons (.ret (.prim (.bi .sorted) (.cons (.v 1) .nil)))
    .nil)))
/-- 27 0:_law_one 1:_law_other 2:_law_point -/
def b_27 : Ss :=
    (.cons (.ret (.prim (.bi .tuple) (.cons (.lc [2] (.name 2) (.ex (.v 0)) (.cons (.prim (.co .inn) (.cons (.v 2) (.cons (.v 1) .nil))) .nil) (.v 2)) .nil)))
    .nil)
/-- 28 0:_law_lot 1:_law_part 2:_law_point -/
def b_28 : Ss :=
    (.cons (.ret (.prim (.co .eq) (.cons (.lc [2] (.name 2) (.ex (.v 1)) (.cons (.prim (.co .notin) (.cons (.v 2) (.cons (.v 0) .nil))) .nil) (.v 2)) (.cons (.lst .nil) .nil))))
    .nil)
/-- 29 0:_law_space 1:_law_lot 2:_law_found 3:_law_closed -/
def b_29 : Ss :=
    (.cons (.asg (.name 2) (.rngx true true (.lit (.int 0)) (.prim .sub (.cons (.v 0) (.cons (.lit (.int 0)) .nil)))))
    (.cons (.for (.name 3) (.ex (.prim .sub (.cons (.v 0) (.cons (.lit (.int 1)) .nil)))) (.cons (.ifs (.call 28 (.cons (.v 3) (.cons (.v 1) .nil))) (.cons (.asg (.name 2) (.call 27 (.cons (.v 2) (.cons (.v 3) .nil))))
    .nil) .nil)
    .nil))
    (.cons (.ret (.v 2))
    .nil)))
/-- 30 0:_law_points 1:_law_lots_here 2:_law_lot -/
def b_30 : Ss :=
    (.cons (.ret (.tup (.cons (.v 0) (.cons (.prim (.bi .tuple) (.cons (.prim (.bi .sorted) (.cons (.prim (.bi .dict) (.cons (.lc [2] (.name 2) (.ex (.v 1)) .nil (.tup (.cons (.v 2) (.cons (.lit (.bl true)) .nil)))) .nil)) .nil)) .nil)) .nil))))
    .nil)
/-- 31 0:_law_points 1:_law_lots_here 2:_law_rows 3:_law_lot 4:_law_more 5:_law_row -/
def b_31 : Ss :=
    (.cons (.asg (.name 2) (.lst (.cons (.tup .nil) (.cons (.rngx true true (.lit (.int 0)) (.v 0)) .nil))))
    (.cons (.for (.name 3) (.ex (.v 1)) (.cons (.asg (.name 4) (.prim (.bo .add) (.cons (.lc [5] (.name 5) (.ex (.v 2)) .nil (.call 27 (.cons (.v 3) (.cons (.v 5) .nil)))) (.cons (.lst (.cons (.v 3) .nil)) .nil))))
    (.cons (.asg (.name 2) (.prim (.bi .list) (.cons (.prim (.bi .dict) (.cons (.lc [5] (.name 5) (.ex (.prim (.bo .add) (.cons (.v 2) (.cons (.v 4) .nil)))) .nil (.tup (.cons (.v 5) (.cons (.lit (.bl true)) .nil)))) .nil)) .nil)))
    .nil)))
    (.cons (.ret (.call 30 (.cons (.v 0) (.cons (.v 2) .nil))))
    .nil)))
/-- 32 0:_law_points 1:_law_rules 2:_law_good 3:_law_lot 4:_law_own 5:_law_point -/
def b_32 : Ss :=
    (.cons (.own 2 (.lst .nil))
    (.cons (.for (.name 3) (.ex (.call 26 (.cons (.v 0) .nil))) (.cons (.ifs (.prim (.co .eq) (.cons (.lc [4, 5] (.pair (.name 4) (.name 5)) (.ex (.v 1)) (.cons (.and (.prim (.co .notin) (.cons (.v 5) (.cons (.v 3) .nil))) (.call 28 (.cons (.v 3) (.cons (.v 4) .nil)))) .nil) (.lit (.int 1))) (.cons (.lst .nil) .nil))) (.cons (.app 2 (.v 3))
    .nil) .nil)
    .nil))
    (.cons (.frz 2)
    (.cons (.ret (.call 30 (.cons (.v 0) (.cons (.v 2) .nil))))
    .nil))))
/-- 33 0:_law_points 1:_law_rows 2:_law_begin_here 3:_law_end -/
def b_33 : Ss :=
    (.cons (.asg (.name 1) (.lst .nil))
    (.cons (.for (.name 2) (.rng1 (.v 0)) (.cons (.asg (.name 1) (.prim (.bo .add) (.cons (.v 1) (.cons (.lc [3] (.name 3) (.rng2 (.prim (.bo .add) (.cons (.v 2) (.cons (.lit (.int 1)) .nil))) (.prim (.bo .add) (.cons (.v 0) (.cons (.lit (.int 1)) .nil)))) .nil (.rngx true false (.v 2) (.v 3))) .nil))))
    .nil))
    (.cons (.ret (.call 31 (.cons (.v 0) (.cons (.v 1) .nil))))
    .nil)))
/-- 34 0:_law_state 1:_law_points 2:_law_k 3:_law_choice 4:_law_rows 5:_law_lot 6:_law_point -/
def b_34 : Ss :=
    (.cons (.par [(3, false), (4, true)] (.cons (.call 24 (.cons (.v 0) (.cons (.lit (.int 4)) .nil))) (.cons (.lst .nil) .nil)))
    (.cons (.ifs (.prim (.co .eq) (.cons (.v 3) (.cons (.lit (.int 0)) .nil))) (.cons (.ret (.call 33 (.cons (.v 1) .nil)))
    .nil) .nil)
    (.cons (.for (.name 2) (.rng1 (.prim (.bo .add) (.cons (.lit (.int 2)) (.cons (.call 24 (.cons (.v 0) (.cons (.lit (.int 5)) .nil))) .nil)))) (.cons (.asg (.name 5) (.prim (.bi .tuple) (.cons (.lc [6] (.name 6) (.rng1 (.v 1)) (.cons (.prim (.co .eq) (.cons (.call 24 (.cons (.v 0) (.cons (.lit (.int 2)) .nil))) (.cons (.lit (.int 1)) .nil))) .nil) (.v 6)) .nil)))
    (.cons (.app 4 (.ife (.prim (.co .lt) (.cons (.v 3) (.cons (.lit (.int 3)) .nil))) (.v 5) (.tup (.cons (.ife (.prim (.co .ne) (.cons (.v 5) (.cons (.tup .nil) .nil))) (.v 5) (.tup (.cons (.lit (.int 0)) .nil))) (.cons (.call 24 (.cons (.v 0) (.cons (.v 1) .nil))) .nil)))))
    .nil)))
    (.cons (.frz 4)
    (.cons (.ret (.ife (.prim (.co .lt) (.cons (.v 3) (.cons (.lit (.int 3)) .nil))) (.call 31 (.cons (.v 1) (.cons (.v 4) .nil))) (.call 32 (.cons (.v 1) (.cons (.v 4) .nil)))))
    .nil)))))
/-- 35 0:_law_plot_here 1:_law_crew 2:_law_gang -/
def b_35 : Ss :=
    (.cons (.ret (.lc [1] (.name 1) (.ex (.call 26 (.cons (.prim .sub (.cons (.v 0) (.cons (.lit (.int 0)) .nil))) .nil))) (.cons (.prim (.co .ne) (.cons (.lc [2] (.name 2) (.ex (.prim .sub (.cons (.v 0) (.cons (.lit (.int 1)) .nil)))) (.cons (.call 28 (.cons (.v 2) (.cons (.v 1) .nil))) .nil) (.v 2)) (.cons (.lst .nil) .nil))) .nil) (.v 1)))
    .nil)
/-- 36 0:_law_tellers 1:_law_crews 2:_law_some 3:_law_best 4:_law_crew 5:_law_one -/
def b_36 : Ss :=
    (.cons (.asg (.name 2) (.prim (.bi .sorted) (.cons (.prim (.bi .dict) (.cons (.lc [4] (.name 4) (.ex (.v 1)) .nil (.tup (.cons (.v 4) (.cons (.lit (.bl true)) .nil)))) .nil)) .nil)))
    (.cons (.asg (.name 3) (.lc [4] (.name 4) (.ex (.v 2)) (.cons (.prim (.co .eq) (.cons (.lc [5] (.name 5) (.ex (.v 2)) (.cons (.and (.prim (.co .ne) (.cons (.v 5) (.cons (.v 4) .nil))) (.call 28 (.cons (.v 5) (.cons (.v 4) .nil)))) .nil) (.v 5)) (.cons (.lst .nil) .nil))) .nil) (.v 4)))
    (.cons (.ret (.tup (.cons (.v 0) (.cons (.prim (.bi .tuple) (.cons (.v 3) .nil)) .nil))))
    .nil)))
/-- 37 0:_law_state 1:_law_tellers 2:_law_rows 3:_law_k 4:_law_many 5:_law_crew 6:_law_teller -/
def b_37 : Ss :=
    (.cons (.ifs (.prim (.co .eq) (.cons (.call 24 (.cons (.v 0) (.cons (.lit (.int 3)) .nil))) (.cons (.lit (.int 0)) .nil))) (.cons (.asg (.name 4) (.call 24 (.cons (.v 0) (.cons (.lit (.int 3)) .nil))))
    (.cons (.ret (.call 36 (.cons (.v 1) (.cons (.lc [5] (.name 5) (.ex (.call 26 (.cons (.v 1) .nil))) (.cons (.prim (.co .le) (.cons (.prim (.bi .len) (.cons (.v 5) .nil)) (.cons (.v 4) .nil))) .nil) (.v 5)) .nil))))
    .nil)) .nil)
    (.cons (.own 2 (.lst .nil))
    (.cons (.for (.name 3) (.rng1 (.prim (.bo .add) (.cons (.lit (.int 1)) (.cons (.call 24 (.cons (.v 0) (.cons (.lit (.int 3)) .nil))) .nil)))) (.cons (.app 2 (.prim (.bi .tuple) (.cons (.lc [6] (.name 6) (.rng1 (.v 1)) (.cons (.prim (.co .eq) (.cons (.call 24 (.cons (.v 0) (.cons (.lit (.int 3)) .nil))) (.cons (.lit (.int 0)) .nil))) .nil) (.v 6)) .nil)))
    .nil))
    (.cons (.frz 2)
    (.cons (.ret (.call 36 (.cons (.v 1) (.cons (.v 2) .nil))))
    .nil)))))
/-- 38 0:_law_ground 1:_law_words_here 2:_law_teller 3:_law_point -/
def b_38 : Ss :=
    (.cons (.ret (.prim (.bi .tuple) (.cons (.lc [2, 3] (.pair (.name 2) (.name 3)) (.enum (.v 1)) (.cons (.prim (.co .notin) (.cons (.v 3) (.cons (.v 0) .nil))) .nil) (.v 2)) .nil)))
    .nil)
/-- 39 0:_law_plot_here 1:_law_grounds_here 2:_law_words_here 3:_law_liars_here 4:_law_ground -/
def b_39 : Ss :=
    (.cons (.asg (.name 3) (.call 35 (.cons (.v 0) .nil)))
    (.cons (.ret (.lc [4] (.name 4) (.ex (.v 1)) (.cons (.prim (.co .inn) (.cons (.call 38 (.cons (.v 4) (.cons (.v 2) .nil))) (.cons (.v 3) .nil))) .nil) (.v 4)))
    .nil))
/-- 40 0:_law_points 1:_law_some 2:_law_point 3:_law_one -/
def b_40 : Ss :=
    (.cons (.ifs (.prim (.co .eq) (.cons (.v 1) (.cons (.lst .nil) .nil))) (.cons (.ret (.lit .non))
    .nil) .nil)
    (.cons (.ret (.prim (.bi .tuple) (.cons (.lc [2] (.name 2) (.rng1 (.v 0)) (.cons (.prim (.co .eq) (.cons (.lc [3] (.name 3) (.ex (.v 1)) (.cons (.prim (.co .notin) (.cons (.v 2) (.cons (.v 3) .nil))) .nil) (.v 3)) (.cons (.lst .nil) .nil))) .nil) (.v 2)) .nil)))
    .nil))
/-- 41 0:_law_state 1:_law_points 2:_law_grounds_here 3:_law_plot_here 4:_law_found 5:_law_teller 6:_law_ground 7:_law_gang 8:_law_point -/
def b_41 : Ss :=
    (.cons (.par [(6, false), (7, false)] (.cons (.call 25 (.cons (.v 0) (.cons (.v 2) .nil))) (.cons (.call 25 (.cons (.v 0) (.cons (.prim .sub (.cons (.v 3) (.cons (.lit (.int 1)) .nil))) .nil))) .nil)))
    (.cons (.own 4 (.lst .nil))
    (.cons (.for (.name 5) (.rng1 (.prim .sub (.cons (.v 3) (.cons (.lit (.int 0)) .nil)))) (.cons (.asg (.name 8) (.ife (.prim (.co .notin) (.cons (.v 5) (.cons (.v 7) .nil))) (.call 25 (.cons (.v 0) (.cons (.v 6) .nil))) (.call 24 (.cons (.v 0) (.cons (.v 1) .nil)))))
    (.cons (.app 4 (.ife (.prim (.co .gt) (.cons (.call 24 (.cons (.v 0) (.cons (.lit (.int 8)) .nil))) (.cons (.lit (.int 0)) .nil))) (.v 8) (.call 24 (.cons (.v 0) (.cons (.v 1) .nil)))))
    .nil)))
    (.cons (.ret (.prim (.bi .tuple) (.cons (.bor 4) .nil)))
    .nil))))
/-- 42 0:_law_state 1:_law_space 2:_law_every 3:_law_some 4:_law_lot -/
def b_42 : Ss :=
    (.cons (.asg (.name 2) (.lc [4] (.name 4) (.ex (.prim .sub (.cons (.v 1) (.cons (.lit (.int 1)) .nil)))) (.cons (.prim (.co .ne) (.cons (.v 4) (.cons (.tup .nil) .nil))) .nil) (.v 4)))
    (.cons (.asg (.name 3) (.lc [4] (.name 4) (.ex (.v 2)) (.cons (.prim (.co .gt) (.cons (.call 24 (.cons (.v 0) (.cons (.lit (.int 3)) .nil))) (.cons (.lit (.int 0)) .nil))) .nil) (.v 4)))
    (.cons (.ret (.ife (.or (.prim (.co .eq) (.cons (.v 3) (.cons (.lst .nil) .nil))) (.prim (.co .eq) (.cons (.call 24 (.cons (.v 0) (.cons (.lit (.int 3)) .nil))) (.cons (.lit (.int 0)) .nil)))) (.prim (.bi .tuple) (.cons (.v 2) .nil)) (.prim (.bi .tuple) (.cons (.v 3) .nil))))
    .nil)))
/-- 43 0:_law_space 1:_law_plot_here 2:_law_words_here 3:_law_found 4:_law_gang 5:_law_rest_so 6:_law_teller 7:_law_point -/
def b_43 : Ss :=
    (.cons (.asg (.name 3) (.rngx true true (.lit (.int 0)) (.prim .sub (.cons (.v 0) (.cons (.lit (.int 0)) .nil)))))
    (.cons (.for (.name 4) (.ex (.prim .sub (.cons (.v 1) (.cons (.lit (.int 1)) .nil)))) (.cons (.asg (.name 5) (.prim (.bi .tuple) (.cons (.prim (.bi .sset) (.cons (.lc [6, 7] (.pair (.name 6) (.name 7)) (.enum (.v 2)) (.cons (.prim (.co .notin) (.cons (.v 6) (.cons (.v 4) .nil))) .nil) (.v 7)) .nil)) .nil)))
    (.cons (.asg (.name 3) (.call 27 (.cons (.v 3) (.cons (.call 29 (.cons (.v 0) (.cons (.v 5) .nil))) .nil))))
    .nil)))
    (.cons (.ret (.v 3))
    .nil)))
/-- 44 0:_law_space 1:_law_plot_here 2:_law_grounds_here 3:_law_words_here 4:_law_some 5:_law_found 6:_law_held 7:_law_point 8:_law_one 9:_law_teller 10:_law_ground -/
def b_44 : Ss :=
    (.cons (.asg (.name 4) (.call 39 (.cons (.v 1) (.cons (.v 2) (.cons (.v 3) .nil)))))
    (.cons (.own 5 (.lst (.cons (.prim (.bi .tuple) (.cons (.v 4) .nil)) (.cons (.call 40 (.cons (.prim .sub (.cons (.v 0) (.cons (.lit (.int 0)) .nil))) (.cons (.v 4) .nil))) .nil))))
    (.cons (.asg (.name 6) (.lc [7] (.name 7) (.rng1 (.prim .sub (.cons (.v 0) (.cons (.lit (.int 0)) .nil)))) (.cons (.prim (.co .ne) (.cons (.lc [8] (.name 8) (.ex (.v 4)) (.cons (.prim (.co .inn) (.cons (.v 7) (.cons (.v 8) .nil))) .nil) (.v 8)) (.cons (.lst .nil) .nil))) .nil) (.v 7)))
    (.cons (.app 5 (.ife (.prim (.co .ne) (.cons (.v 4) (.cons (.lst .nil) .nil))) (.prim (.bi .tuple) (.cons (.lc [7] (.name 7) (.ex (.v 6)) (.cons (.prim (.co .notin) (.cons (.v 7) (.cons (.prim .sub (.cons (.bor 5) (.cons (.lit (.int 1)) .nil))) .nil))) .nil) (.v 7)) .nil)) (.tup .nil)))
    (.cons (.ifs (.prim (.co .eq) (.cons (.v 4) (.cons (.lst .nil) .nil))) (.cons (.ret (.prim (.bo .add) (.cons (.bor 5) (.cons (.lst (.cons (.tup .nil) (.cons (.tup .nil) (.cons (.lit .non) .nil)))) .nil))))
    .nil) .nil)
    (.cons (.app 5 (.prim (.bi .tuple) (.cons (.lc [9, 7] (.pair (.name 9) (.name 7)) (.enum (.v 3)) (.cons (.prim (.co .notin) (.cons (.v 7) (.cons (.v 6) .nil))) .nil) (.v 9)) .nil)))
    (.cons (.app 5 (.prim (.bi .tuple) (.cons (.lc [9, 7] (.pair (.name 9) (.name 7)) (.enum (.v 3)) (.cons (.prim (.co .inn) (.cons (.v 7) (.cons (.prim .sub (.cons (.bor 5) (.cons (.lit (.int 1)) .nil))) .nil))) .nil) (.v 9)) .nil)))
    (.cons (.ret (.prim (.bo .add) (.cons (.bor 5) (.cons (.lst (.cons (.prim (.bi .min1) (.cons (.lc [10] (.name 10) (.ex (.v 4)) .nil (.prim (.bi .len) (.cons (.call 38 (.cons (.v 10) (.cons (.v 3) .nil))) .nil))) .nil)) .nil)) .nil))))
    .nil))))))))
/-- 45 0:_law_space 1:_law_plot_here 2:_law_grounds_here 3:_law_words_here 4:_law_due_here 5:_law_again 6:_law_every 7:_law_told_so 8:_law_lot -/
def b_45 : Ss :=
    (.cons (.asg (.name 4) (.call 44 (.cons (.v 0) (.cons (.v 1) (.cons (.v 2) (.cons (.v 3) .nil))))))
    (.cons (.for (.name 5) (.rng1 (.lit (.int 2))) (.cons (.asg (.name 7) (.lst (.cons (.call 15 (.cons (.v 0) (.cons (.v 1) (.cons (.v 2) (.cons (.v 3) .nil))))) (.cons (.call 17 (.cons (.v 0) (.cons (.v 1) (.cons (.v 2) (.cons (.v 3) .nil))))) .nil))))
    (.cons (.asg (.name 7) (.prim (.bo .add) (.cons (.v 7) (.cons (.lst (.cons (.call 18 (.cons (.v 0) (.cons (.v 1) (.cons (.v 2) (.cons (.v 3) .nil))))) (.cons (.call 19 (.cons (.v 0) (.cons (.v 1) (.cons (.v 2) (.cons (.v 3) .nil))))) .nil))) .nil))))
    (.cons (.asg (.name 7) (.prim (.bo .add) (.cons (.v 7) (.cons (.lst (.cons (.call 20 (.cons (.v 0) (.cons (.v 1) (.cons (.v 2) (.cons (.v 3) .nil))))) (.cons (.call 21 (.cons (.v 0) (.cons (.v 1) (.cons (.v 2) (.cons (.v 3) .nil))))) .nil))) .nil))))
    (.cons (.ifs (.prim (.co .ne) (.cons (.prim (.bi .repr) (.cons (.v 7) .nil)) (.cons (.prim (.bi .repr) (.cons (.v 4) .nil)) .nil))) (.cons (.ret (.lit (.bl false)))
    .nil) .nil)
    .nil)))))
    (.cons (.asg (.name 6) (.prim (.bi .tuple) (.cons (.lc [8] (.name 8) (.ex (.prim .sub (.cons (.v 0) (.cons (.lit (.int 1)) .nil)))) (.cons (.prim (.co .ne) (.cons (.v 8) (.cons (.tup .nil) .nil))) .nil) (.v 8)) .nil)))
    (.cons (.ifs (.and (.prim (.co .eq) (.cons (.v 2) (.cons (.v 6) .nil))) (.prim (.co .notin) (.cons (.rngx true true (.lit (.int 0)) (.prim .sub (.cons (.v 1) (.cons (.lit (.int 0)) .nil)))) (.cons (.prim .sub (.cons (.v 1) (.cons (.lit (.int 1)) .nil))) .nil)))) (.cons (.ret (.prim (.co .eq) (.cons (.prim .sub (.cons (.v 4) (.cons (.lit (.int 1)) .nil))) (.cons (.call 43 (.cons (.v 0) (.cons (.v 1) (.cons (.v 3) .nil)))) .nil))))
    .nil) .nil)
    (.cons (.ret (.lit (.bl true)))
    .nil)))))
/-- 46 0:_law_every 1:_law_halves 2:_law_line_here 3:_law_one -/
def b_46 : Ss :=
    (.cons (.par [(2, false), (3, false)] (.cons (.call 33 (.cons (.lit (.int 5)) .nil)) (.cons (.tup (.cons (.lit (.int 3)) (.cons (.tup (.cons (.tup (.cons (.lit (.int 0)) .nil)) (.cons (.tup (.cons (.lit (.int 1)) .nil)) (.cons (.tup (.cons (.lit (.int 2)) .nil)) .nil)))) .nil))) .nil)))
    (.cons (.asg (.name 0) (.call 9 (.cons (.v 2) .nil)))
    (.cons (.ifs (.or (.prim (.co .ne) (.cons (.prim (.bi .len) (.cons (.v 0) .nil)) (.cons (.lit (.int 15)) .nil))) (.prim (.co .ne) (.cons (.call 17 (.cons (.v 2) (.cons (.v 3) (.cons (.v 0) (.cons (.tup (.cons (.lit (.int 0)) (.cons (.lit (.int 2)) (.cons (.lit (.int 4)) .nil)))) .nil))))) (.cons (.tup (.cons (.lit (.int 2)) .nil)) .nil)))) (.cons (.ret (.lit (.bl false)))
    .nil) .nil)
    (.cons (.ifs (.prim (.co .ne) (.cons (.call 18 (.cons (.v 2) (.cons (.v 3) (.cons (.v 0) (.cons (.tup (.cons (.lit (.int 0)) (.cons (.lit (.int 2)) (.cons (.lit (.int 4)) .nil)))) .nil))))) (.cons (.tup (.cons (.lit (.int 0)) (.cons (.lit (.int 1)) (.cons (.lit (.int 3)) (.cons (.lit (.int 4)) .nil))))) .nil))) (.cons (.ret (.lit (.bl false)))
    .nil) .nil)
    (.cons (.ifs (.or (.prim (.co .ne) (.cons (.call 19 (.cons (.v 2) (.cons (.v 3) (.cons (.v 0) (.cons (.tup (.cons (.lit (.int 0)) (.cons (.lit (.int 2)) (.cons (.lit (.int 4)) .nil)))) .nil))))) (.cons (.tup .nil) .nil))) (.prim (.co .ne) (.cons (.call 20 (.cons (.v 2) (.cons (.v 3) (.cons (.v 0) (.cons (.tup (.cons (.lit (.int 0)) (.cons (.lit (.int 2)) (.cons (.lit (.int 4)) .nil)))) .nil))))) (.cons (.tup (.cons (.lit (.int 1)) .nil)) .nil)))) (.cons (.ret (.lit (.bl false)))
    .nil) .nil)
    (.cons (.asg (.name 1) (.tup (.cons (.tup (.cons (.lit (.int 0)) (.cons (.lit (.int 1)) .nil))) (.cons (.tup (.cons (.lit (.int 3)) (.cons (.lit (.int 4)) .nil))) .nil))))
    (.cons (.ifs (.or (.prim (.co .ne) (.cons (.call 15 (.cons (.v 2) (.cons (.v 3) (.cons (.v 1) (.cons (.tup (.cons (.lit (.int 0)) (.cons (.lit (.int 1)) (.cons (.lit (.int 4)) .nil)))) .nil))))) (.cons (.tup (.cons (.tup (.cons (.lit (.int 0)) (.cons (.lit (.int 1)) .nil))) .nil)) .nil))) (.prim (.co .ne) (.cons (.call 19 (.cons (.v 2) (.cons (.v 3) (.cons (.v 1) (.cons (.tup (.cons (.lit (.int 0)) (.cons (.lit (.int 1)) (.cons (.lit (.int 4)) .nil)))) .nil))))) (.cons (.tup (.cons (.lit (.int 2)) .nil)) .nil)))) (.cons (.ret (.lit (.bl false)))
    .nil) .nil)
    (.cons (.ifs (.or (.prim (.co .isnot) (.cons (.call 17 (.cons (.v 2) (.cons (.v 3) (.cons (.v 1) (.cons (.tup (.cons (.lit (.int 0)) (.cons (.lit (.int 2)) (.cons (.lit (.int 4)) .nil)))) .nil))))) (.cons (.lit .non) .nil))) (.prim (.co .isnot) (.cons (.call 21 (.cons (.v 2) (.cons (.v 3) (.cons (.v 1) (.cons (.tup (.cons (.lit (.int 0)) (.cons (.lit (.int 2)) (.cons (.lit (.int 4)) .nil)))) .nil))))) (.cons (.lit .non) .nil)))) (.cons (.ret (.lit (.bl false)))
    .nil) .nil)
    (.cons (.ret (.and (.prim (.co .eq) (.cons (.call 21 (.cons (.v 2) (.cons (.v 3) (.cons (.v 1) (.cons (.tup (.cons (.lit (.int 0)) (.cons (.lit (.int 1)) (.cons (.lit (.int 0)) .nil)))) .nil))))) (.cons (.lit (.int 0)) .nil))) (.prim (.co .eq) (.cons (.call 9 (.cons (.tup (.cons (.lit (.int 1)) (.cons (.tup (.cons (.tup .nil) (.cons (.tup (.cons (.lit (.int 0)) .nil)) .nil))) .nil))) .nil)) (.cons (.tup (.cons (.tup (.cons (.lit (.int 0)) .nil)) .nil)) .nil)))))
    .nil)))))))))
/-- 47 0:_law_script 1:_law_state 2:_law_turn 3:_law_space 4:_law_again 5:_law_words_here 6:_law_kept 7:_law_plot_here 8:_law_grounds_here 9:_law_lot -/
def b_47 : Ss :=
    (.cons (.asg (.name 1) (.call 23 (.cons (.v 0) .nil)))
    (.cons (.for (.name 2) (.rng1 (.prim (.bo .add) (.cons (.lit (.int 3)) (.cons (.prim (.bi .min2) (.cons (.prim (.bi .len) (.cons (.v 0) .nil)) (.cons (.lit (.int 5)) .nil))) .nil)))) (.cons (.asg (.name 3) (.call 34 (.cons (.v 1) (.cons (.prim (.bo .add) (.cons (.lit (.int 1)) (.cons (.call 24 (.cons (.v 1) (.cons (.lit (.int 5)) .nil))) .nil))) .nil))))
    (.cons (.ifs (.prim (.co .ne) (.cons (.prim (.bi .repr) (.cons (.call 9 (.cons (.v 3) .nil)) .nil)) (.cons (.prim (.bi .repr) (.cons (.prim (.bi .tuple) (.cons (.lc [9] (.name 9) (.ex (.prim .sub (.cons (.v 3) (.cons (.lit (.int 1)) .nil)))) (.cons (.prim (.co .ne) (.cons (.v 9) (.cons (.tup .nil) .nil))) .nil) (.v 9)) .nil)) .nil)) .nil))) (.cons (.ret (.lit (.bl false)))
    .nil) .nil)
    (.cons (.for (.name 4) (.rng1 (.lit (.int 2))) (.cons (.par [(7, false), (8, false)] (.cons (.call 37 (.cons (.v 1) (.cons (.prim (.bo .add) (.cons (.lit (.int 1)) (.cons (.call 24 (.cons (.v 1) (.cons (.lit (.int 5)) .nil))) .nil))) .nil))) (.cons (.call 42 (.cons (.v 1) (.cons (.v 3) .nil))) .nil)))
    (.cons (.asg (.name 5) (.call 41 (.cons (.v 1) (.cons (.prim .sub (.cons (.v 3) (.cons (.lit (.int 0)) .nil))) (.cons (.v 8) (.cons (.v 7) .nil))))))
    (.cons (.asg (.name 6) (.prim (.bi .repr) (.cons (.lst (.cons (.v 3) (.cons (.v 7) (.cons (.v 8) (.cons (.v 5) .nil))))) .nil)))
    (.cons (.ifs (.or (.not (.call 45 (.cons (.v 3) (.cons (.v 7) (.cons (.v 8) (.cons (.v 5) .nil)))))) (.prim (.co .ne) (.cons (.prim (.bi .repr) (.cons (.lst (.cons (.v 3) (.cons (.v 7) (.cons (.v 8) (.cons (.v 5) .nil))))) .nil)) (.cons (.v 6) .nil)))) (.cons (.ret (.lit (.bl false)))
    .nil) .nil)
    .nil)))))
    .nil))))
    (.cons (.ret (.call 46 .nil))
    .nil)))
def fdn : List String := ["is_integer", "is_lot", "mask_of", "need_space", "has_all", "need_system", "need_told", "is_part", "are_liars", "all_grounds", "fault_of_grounds", "need_grounds", "need_all", "outside_of", "possible_in", "possible", "sure_in", "sure", "open_points", "must_have_lied", "cleared", "fewest_liars", "_law_mixed", "_law_begin", "_law_draw", "_law_of", "_law_lots", "_law_common", "_law_has", "_law_span", "_law_made", "_law_met", "_law_by_rules", "_law_line", "_law_drawn_space", "_law_liars", "_law_plot", "_law_base_plot", "_law_away", "_law_possible", "_law_sure", "_law_words", "_law_grounds", "_law_safe", "_law_due", "_law_is_right", "_law_hand", "law"]
def ds : List Df := [
  ⟨"is_integer", ["thing", "least", "most"], ["thing", "least", "most"], top 8⟩,
  ⟨"is_lot", ["points", "thing", "one", "other"], ["points", "thing"], top 9⟩,
  ⟨"mask_of", ["lot", "point"], ["lot"], top 10⟩,
  ⟨"need_space", ["thing", "masks", "known", "points", "lots", "number", "lot", "mask", "other"], ["thing"], top 11⟩,
  ⟨"has_all", ["crew", "part", "teller"], ["crew", "part"], top 15⟩,
  ⟨"need_system", ["thing", "tellers", "gangs", "number", "crew", "others", "other"], ["thing"], top 16⟩,
  ⟨"need_told", ["space", "system", "thing", "number", "point"], ["space", "system", "thing"], top 17⟩,
  ⟨"is_part", ["one", "other", "teller"], ["one", "other"], top 19⟩,
  ⟨"are_liars", ["gangs", "crew", "gang"], ["gangs", "crew"], top 20⟩,
  ⟨"all_grounds", ["space", "lot"], ["space"], top 23⟩,
  ⟨"fault_of_grounds", ["space", "thing", "number", "lot", "one"], ["space", "thing"], top 24⟩,
  ⟨"need_grounds", ["space", "grounds", "number"], ["space", "grounds"], top 25⟩,
  ⟨"need_all", ["space", "system", "grounds", "told"], ["space", "system", "grounds", "told"], top 26⟩,
  ⟨"outside_of", ["ground", "told", "teller", "point"], ["ground", "told"], top 27⟩,
  ⟨"possible_in", ["system", "grounds", "told", "ground"], ["system", "grounds", "told"], top 28⟩,
  ⟨"possible", ["space", "system", "grounds", "told"], ["space", "system", "grounds", "told"], top 29⟩,
  ⟨"sure_in", ["space", "system", "grounds", "told", "some", "point", "ground"], ["space", "system", "grounds", "told"], top 30⟩,
  ⟨"sure", ["space", "system", "grounds", "told"], ["space", "system", "grounds", "told"], top 31⟩,
  ⟨"open_points", ["space", "system", "grounds", "told", "some", "found", "point", "ground"], ["space", "system", "grounds", "told"], top 32⟩,
  ⟨"must_have_lied", ["space", "system", "grounds", "told", "some", "teller", "point", "ground"], ["space", "system", "grounds", "told"], top 33⟩,
  ⟨"cleared", ["space", "system", "grounds", "told", "some", "teller", "point", "ground"], ["space", "system", "grounds", "told"], top 34⟩,
  ⟨"fewest_liars", ["space", "system", "grounds", "told", "some", "ground"], ["space", "system", "grounds", "told"], top 35⟩,
  ⟨"_law_mixed", ["_law_cell", "_law_k"], ["_law_cell", "_law_k"], top 37⟩,
  ⟨"_law_begin", ["_law_script", "_law_cells", "_law_cell"], ["_law_script"], top 38⟩,
  ⟨"_law_draw", ["_law_state", "_law_many", "_law_at", "_law_place", "_law_left", "_law_number"], ["_law_state", "_law_many"], top 39⟩,
  ⟨"_law_of", ["_law_state", "_law_some"], ["_law_state", "_law_some"], top 40⟩,
  ⟨"_law_lots", ["_law_points", "_law_rows", "_law_point", "_law_row"], ["_law_points"], top 41⟩,
  ⟨"_law_common", ["_law_one", "_law_other", "_law_point"], ["_law_one", "_law_other"], top 42⟩,
  ⟨"_law_has", ["_law_lot", "_law_part", "_law_point"], ["_law_lot", "_law_part"], top 43⟩,
  ⟨"_law_span", ["_law_space", "_law_lot", "_law_found", "_law_closed"], ["_law_space", "_law_lot"], top 44⟩,
  ⟨"_law_made", ["_law_points", "_law_lots_here", "_law_lot"], ["_law_points", "_law_lots_here"], top 45⟩,
  ⟨"_law_met", ["_law_points", "_law_lots_here", "_law_rows", "_law_lot", "_law_more", "_law_row"], ["_law_points", "_law_lots_here"], top 46⟩,
  ⟨"_law_by_rules", ["_law_points", "_law_rules", "_law_good", "_law_lot", "_law_own", "_law_point"], ["_law_points", "_law_rules"], top 47⟩,
  ⟨"_law_line", ["_law_points", "_law_rows", "_law_begin_here", "_law_end"], ["_law_points"], top 48⟩,
  ⟨"_law_drawn_space", ["_law_state", "_law_points", "_law_k", "_law_choice", "_law_rows", "_law_lot", "_law_point"], ["_law_state", "_law_points"], top 49⟩,
  ⟨"_law_liars", ["_law_plot_here", "_law_crew", "_law_gang"], ["_law_plot_here"], top 50⟩,
  ⟨"_law_plot", ["_law_tellers", "_law_crews", "_law_some", "_law_best", "_law_crew", "_law_one"], ["_law_tellers", "_law_crews"], top 51⟩,
  ⟨"_law_base_plot", ["_law_state", "_law_tellers", "_law_rows", "_law_k", "_law_many", "_law_crew", "_law_teller"], ["_law_state", "_law_tellers"], top 53⟩,
  ⟨"_law_away", ["_law_ground", "_law_words_here", "_law_teller", "_law_point"], ["_law_ground", "_law_words_here"], top 54⟩,
  ⟨"_law_possible", ["_law_plot_here", "_law_grounds_here", "_law_words_here", "_law_liars_here", "_law_ground"], ["_law_plot_here", "_law_grounds_here", "_law_words_here"], top 55⟩,
  ⟨"_law_sure", ["_law_points", "_law_some", "_law_point", "_law_one"], ["_law_points", "_law_some"], top 56⟩,
  ⟨"_law_words", ["_law_state", "_law_points", "_law_grounds_here", "_law_plot_here", "_law_found", "_law_teller", "_law_ground", "_law_gang", "_law_point"], ["_law_state", "_law_points", "_law_grounds_here", "_law_plot_here"], top 57⟩,
  ⟨"_law_grounds", ["_law_state", "_law_space", "_law_every", "_law_some", "_law_lot"], ["_law_state", "_law_space"], top 58⟩,
  ⟨"_law_safe", ["_law_space", "_law_plot_here", "_law_words_here", "_law_found", "_law_gang", "_law_rest_so", "_law_teller", "_law_point"], ["_law_space", "_law_plot_here", "_law_words_here"], top 59⟩,
  ⟨"_law_due", ["_law_space", "_law_plot_here", "_law_grounds_here", "_law_words_here", "_law_some", "_law_found", "_law_held", "_law_point", "_law_one", "_law_teller", "_law_ground"], ["_law_space", "_law_plot_here", "_law_grounds_here", "_law_words_here"], top 60⟩,
  ⟨"_law_is_right", ["_law_space", "_law_plot_here", "_law_grounds_here", "_law_words_here", "_law_due_here", "_law_again", "_law_every", "_law_told_so", "_law_lot"], ["_law_space", "_law_plot_here", "_law_grounds_here", "_law_words_here"], top 61⟩,
  ⟨"_law_hand", ["_law_every", "_law_halves", "_law_line_here", "_law_one"], [], top 62⟩,
  ⟨"law", ["_law_script", "_law_state", "_law_turn", "_law_space", "_law_again", "_law_words_here", "_law_kept", "_law_plot_here", "_law_grounds_here", "_law_lot"], ["_law_script"], top 63⟩]
def T : List Fd := [⟨3, 3, b_0⟩, ⟨2, 4, b_1⟩, ⟨1, 2, b_2⟩, ⟨1, 9, b_3⟩, ⟨2, 3, b_4⟩, ⟨1, 7, b_5⟩, ⟨3, 5, b_6⟩, ⟨2, 3, b_7⟩, ⟨2, 3, b_8⟩, ⟨1, 2, b_9⟩, ⟨2, 5, b_10⟩, ⟨2, 3, b_11⟩, ⟨4, 4, b_12⟩, ⟨2, 4, b_13⟩, ⟨3, 4, b_14⟩, ⟨4, 4, b_15⟩, ⟨4, 7, b_16⟩, ⟨4, 4, b_17⟩, ⟨4, 8, b_18⟩, ⟨4, 8, b_19⟩, ⟨4, 8, b_20⟩, ⟨4, 6, b_21⟩, ⟨2, 2, b_22⟩, ⟨1, 3, b_23⟩, ⟨2, 6, b_24⟩, ⟨2, 2, b_25⟩, ⟨1, 4, b_26⟩, ⟨2, 3, b_27⟩, ⟨2, 3, b_28⟩, ⟨2, 4, b_29⟩, ⟨2, 3, b_30⟩, ⟨2, 6, b_31⟩, ⟨2, 6, b_32⟩, ⟨1, 4, b_33⟩, ⟨2, 7, b_34⟩, ⟨1, 3, b_35⟩, ⟨2, 6, b_36⟩, ⟨2, 7, b_37⟩, ⟨2, 4, b_38⟩, ⟨3, 5, b_39⟩, ⟨2, 4, b_40⟩, ⟨4, 9, b_41⟩, ⟨2, 5, b_42⟩, ⟨3, 8, b_43⟩, ⟨4, 11, b_44⟩, ⟨4, 9, b_45⟩, ⟨0, 4, b_46⟩, ⟨1, 10, b_47⟩]
def bn : List PySem.Str := ["all", "any", "bool", "dict", "enumerate", "int", "isinstance", "len", "list", "min", "range", "repr", "set", "sorted", "sum", "tuple", "zip"]
def gn : List PySem.Str := ["MOST_POINTS", "MOST_TELLERS", "MOST_GANGS", "MOST_GROUNDS"]
def gv : List D := [.int 9, .int 8, .int 70, .int 511]
theorem ok_0 : dfOk bn (ds.map (·.name)) gn (ds[0]'(by decide)) (T[0]'(by decide)) = true := by rfl
theorem ok_1 : dfOk bn (ds.map (·.name)) gn (ds[1]'(by decide)) (T[1]'(by decide)) = true := by rfl
theorem ok_2 : dfOk bn (ds.map (·.name)) gn (ds[2]'(by decide)) (T[2]'(by decide)) = true := by rfl
theorem ok_3 : dfOk bn (ds.map (·.name)) gn (ds[3]'(by decide)) (T[3]'(by decide)) = true := by rfl
theorem ok_4 : dfOk bn (ds.map (·.name)) gn (ds[4]'(by decide)) (T[4]'(by decide)) = true := by rfl
theorem ok_5 : dfOk bn (ds.map (·.name)) gn (ds[5]'(by decide)) (T[5]'(by decide)) = true := by rfl
theorem ok_6 : dfOk bn (ds.map (·.name)) gn (ds[6]'(by decide)) (T[6]'(by decide)) = true := by rfl
theorem ok_7 : dfOk bn (ds.map (·.name)) gn (ds[7]'(by decide)) (T[7]'(by decide)) = true := by rfl
theorem ok_8 : dfOk bn (ds.map (·.name)) gn (ds[8]'(by decide)) (T[8]'(by decide)) = true := by rfl
theorem ok_9 : dfOk bn (ds.map (·.name)) gn (ds[9]'(by decide)) (T[9]'(by decide)) = true := by rfl
theorem ok_10 : dfOk bn (ds.map (·.name)) gn (ds[10]'(by decide)) (T[10]'(by decide)) = true := by rfl
theorem ok_11 : dfOk bn (ds.map (·.name)) gn (ds[11]'(by decide)) (T[11]'(by decide)) = true := by rfl
theorem ok_12 : dfOk bn (ds.map (·.name)) gn (ds[12]'(by decide)) (T[12]'(by decide)) = true := by rfl
theorem ok_13 : dfOk bn (ds.map (·.name)) gn (ds[13]'(by decide)) (T[13]'(by decide)) = true := by rfl
theorem ok_14 : dfOk bn (ds.map (·.name)) gn (ds[14]'(by decide)) (T[14]'(by decide)) = true := by rfl
theorem ok_15 : dfOk bn (ds.map (·.name)) gn (ds[15]'(by decide)) (T[15]'(by decide)) = true := by rfl
theorem ok_16 : dfOk bn (ds.map (·.name)) gn (ds[16]'(by decide)) (T[16]'(by decide)) = true := by rfl
theorem ok_17 : dfOk bn (ds.map (·.name)) gn (ds[17]'(by decide)) (T[17]'(by decide)) = true := by rfl
theorem ok_18 : dfOk bn (ds.map (·.name)) gn (ds[18]'(by decide)) (T[18]'(by decide)) = true := by rfl
theorem ok_19 : dfOk bn (ds.map (·.name)) gn (ds[19]'(by decide)) (T[19]'(by decide)) = true := by rfl
theorem ok_20 : dfOk bn (ds.map (·.name)) gn (ds[20]'(by decide)) (T[20]'(by decide)) = true := by rfl
theorem ok_21 : dfOk bn (ds.map (·.name)) gn (ds[21]'(by decide)) (T[21]'(by decide)) = true := by rfl
theorem ok_22 : dfOk bn (ds.map (·.name)) gn (ds[22]'(by decide)) (T[22]'(by decide)) = true := by rfl
theorem ok_23 : dfOk bn (ds.map (·.name)) gn (ds[23]'(by decide)) (T[23]'(by decide)) = true := by rfl
theorem ok_24 : dfOk bn (ds.map (·.name)) gn (ds[24]'(by decide)) (T[24]'(by decide)) = true := by rfl
theorem ok_25 : dfOk bn (ds.map (·.name)) gn (ds[25]'(by decide)) (T[25]'(by decide)) = true := by rfl
theorem ok_26 : dfOk bn (ds.map (·.name)) gn (ds[26]'(by decide)) (T[26]'(by decide)) = true := by rfl
theorem ok_27 : dfOk bn (ds.map (·.name)) gn (ds[27]'(by decide)) (T[27]'(by decide)) = true := by rfl
theorem ok_28 : dfOk bn (ds.map (·.name)) gn (ds[28]'(by decide)) (T[28]'(by decide)) = true := by rfl
theorem ok_29 : dfOk bn (ds.map (·.name)) gn (ds[29]'(by decide)) (T[29]'(by decide)) = true := by rfl
theorem ok_30 : dfOk bn (ds.map (·.name)) gn (ds[30]'(by decide)) (T[30]'(by decide)) = true := by rfl
theorem ok_31 : dfOk bn (ds.map (·.name)) gn (ds[31]'(by decide)) (T[31]'(by decide)) = true := by rfl
theorem ok_32 : dfOk bn (ds.map (·.name)) gn (ds[32]'(by decide)) (T[32]'(by decide)) = true := by rfl
theorem ok_33 : dfOk bn (ds.map (·.name)) gn (ds[33]'(by decide)) (T[33]'(by decide)) = true := by rfl
theorem ok_34 : dfOk bn (ds.map (·.name)) gn (ds[34]'(by decide)) (T[34]'(by decide)) = true := by rfl
theorem ok_35 : dfOk bn (ds.map (·.name)) gn (ds[35]'(by decide)) (T[35]'(by decide)) = true := by rfl
theorem ok_36 : dfOk bn (ds.map (·.name)) gn (ds[36]'(by decide)) (T[36]'(by decide)) = true := by rfl
theorem ok_37 : dfOk bn (ds.map (·.name)) gn (ds[37]'(by decide)) (T[37]'(by decide)) = true := by rfl
theorem ok_38 : dfOk bn (ds.map (·.name)) gn (ds[38]'(by decide)) (T[38]'(by decide)) = true := by rfl
theorem ok_39 : dfOk bn (ds.map (·.name)) gn (ds[39]'(by decide)) (T[39]'(by decide)) = true := by rfl
theorem ok_40 : dfOk bn (ds.map (·.name)) gn (ds[40]'(by decide)) (T[40]'(by decide)) = true := by rfl
theorem ok_41 : dfOk bn (ds.map (·.name)) gn (ds[41]'(by decide)) (T[41]'(by decide)) = true := by rfl
theorem ok_42 : dfOk bn (ds.map (·.name)) gn (ds[42]'(by decide)) (T[42]'(by decide)) = true := by rfl
theorem ok_43 : dfOk bn (ds.map (·.name)) gn (ds[43]'(by decide)) (T[43]'(by decide)) = true := by rfl
theorem ok_44 : dfOk bn (ds.map (·.name)) gn (ds[44]'(by decide)) (T[44]'(by decide)) = true := by rfl
theorem ok_45 : dfOk bn (ds.map (·.name)) gn (ds[45]'(by decide)) (T[45]'(by decide)) = true := by rfl
theorem ok_46 : dfOk bn (ds.map (·.name)) gn (ds[46]'(by decide)) (T[46]'(by decide)) = true := by rfl
theorem ok_47 : dfOk bn (ds.map (·.name)) gn (ds[47]'(by decide)) (T[47]'(by decide)) = true := by rfl
end K21
set_option Elab.async false
set_option linter.all false
set_option maxRecDepth 100000
set_option maxHeartbeats 8000000
/-! Km1: k21: the law's own small defs. -/
namespace K21
open Dp

def Pure (k m : Nat) (ds : List D) (d : D) : Prop := ∀ n st, m ≤ n → run T gv 0 n k ds st = .ok d st
theorem Pure.runs {k m : Nat} {ds : List D} {d : D} (h : Pure k m ds d) {n : Nat} {st : Store} {Q : D → Store → Prop} (hn : m ≤ n) (q : Q d st) : Runs (run T gv 0 n k ds st) Q := runs_of (h n st hn) q
theorem pure_of {k m : Nat} {ds : List D} {d : D} (h : ∀ n st, m ≤ n → Runs (run T gv 0 (n + 1) k ds st) fun b s => b = d ∧ s = st) : Pure k (m + 1) ds d := fun n st hn => by
  obtain ⟨n, rfl⟩ : ∃ j, n = j + 1 := ⟨n - 1, by omega⟩
  exact (h n st (by omega)).eq
theorem lenN {α : Type} {f : α → D} {l : List α} (h : l.length ≤ LIM) : (l.map f).length ≤ LIM := by simpa using h

theorem p_has (lot part : List Nat) (h : part.length ≤ LIM) : Pure 28 1 [ti lot, ti part] (.bl (part.all fun p => decide (p ∈ lot))) := by
  refine pure_of fun n st _ => run_of (fd := ⟨2, 3, b_28⟩) rfl rfl ?_
  refine s_cons (s_ret (r_p2 (r_lcP part nD (fun p => !decide (p ∈ lot)) nD rfl h (fun p hp => ⟨_, rfl, ?_, fun _ => rfl⟩) (r_lst (rs_nil ⟨by decide, .bl (part.all fun p => decide (p ∈ lot)), ?_, rfl, rfl⟩)))))
  · exact (a_one (t_prim (r_p2 (r_v rfl (r_v rfl ⟨_, by rw [show prEv st (.co .notin) [nD p, ti lot] = (coEv .notin (nD p) (ti lot)).map .bl from rfl, nin_n]; rfl, _, rfl, rfl, rfl⟩))))).eq
  · show (coEv .eq _ _).map D.bl = _
    rw [eq_nil (lay_ns _)]
    simp only [Option.map_some, Option.some.injEq, D.bl.injEq]
    rw [Bool.eq_iff_iff]
    simp [List.isEmpty_iff, List.filter_eq_nil_iff]
theorem p_common (one other : List Nat) (h : one.length ≤ LIM) : Pure 27 1 [ti one, ti other] (ti (one.filter fun p => decide (p ∈ other))) := by
  refine pure_of fun n st _ => run_of (fd := ⟨2, 3, b_27⟩) rfl rfl ?_
  refine s_cons (s_ret (r_p1 (r_lcP one nD (fun p => decide (p ∈ other)) nD rfl h (fun p hp => ⟨_, rfl, ?_, fun _ => rfl⟩) ⟨ti (one.filter fun p => decide (p ∈ other)), rfl, rfl, rfl⟩)))
  exact (a_one (t_prim (r_p2 (r_v rfl (r_v rfl ⟨_, by rw [show prEv st (.co .inn) [nD p, ti other] = (coEv .inn (nD p) (ti other)).map .bl from rfl, in_n]; rfl, _, rfl, rfl, rfl⟩))))).eq

/-! ### ranges -/
theorem rngFrom_n : ∀ (n a : Nat), rngFrom a n = (List.range' a n).map nD
  | 0, a => rfl
  | n + 1, a => by
    have := rngFrom_n n (a + 1)
    show D.int a :: rngFrom ((a : Int) + 1) n = _
    rw [show ((a : Int) + 1) = ((a + 1 : Nat) : Int) by omega, this]
    rfl
theorem rngD_n (a b : Nat) : rngD a b = (List.range' a (b - a)).map nD := by
  unfold rngD
  rw [show ((b : Int) - (a : Int)).toNat = b - a by omega, rngFrom_n]
theorem okR_n {a : Nat} (h : a ≤ 1000) : okR a = true := by
  unfold okR
  simp only [Bool.and_eq_true, decide_eq_true_eq]
  omega
theorem rng2_n {a b : Nat} (ha : a ≤ 1000) (hb : b ≤ 1000) : rng2E (nD a) (nD b) = some ((List.range' a (b - a)).map nD) := by
  show (if okR a && okR b then some (rngD a b) else none) = _
  rw [okR_n ha, okR_n hb, rngD_n]; rfl
theorem rng1_n {b : Nat} (hb : b ≤ 1000) : rng2E (.int 0) (nD b) = some ((List.range b).map nD) := by
  have := rng2_n (a := 0) (b := b) (by omega) hb
  rw [Nat.sub_zero, ← List.range_eq_range'] at this
  exact this
theorem rngx_n {a b : Nat} (ha : a ≤ 1000) (hb : b ≤ 1000) : rngxE true (nD a) (nD b) = some (ti (List.range' a (b - a))) := by
  show (if okR a && okR b && decide (((b : Int) - (a : Int)).toNat ≤ LIM) then some (D.tup (rngD a b)) else none) = _
  rw [okR_n ha, okR_n hb, rngD_n, decide_eq_true (show ((b : Int) - (a : Int)).toNat ≤ LIM by unfold LIM; omega)]
  rfl
theorem rngx0_n {b : Nat} (hb : b ≤ 1000) : rngxE true (.int 0) (nD b) = some (ti (List.range b)) := by
  have := rngx_n (a := 0) (b := b) (by omega) hb
  rw [Nat.sub_zero, ← List.range_eq_range'] at this
  exact this
theorem r_rngx {t one : Bool} {a b : Ex} {P : Par} {env : Env} {st : Store} {Q : D → Store → Prop} (h : Runs (a.ev P env st) fun x st1 => Runs (b.ev P env st1) fun y st2 => ∃ d, rngxE t x y = some d ∧ Q d st2) : Runs ((Ex.rngx t one a b).ev P env st) Q := by
  unfold Ex.ev
  exact runs_bind (h.mono fun x st1 q => runs_bind (q.mono fun y st2 ⟨d, e, q⟩ => runs_opt e q))

/-! ### all lots -/
def rows : Nat → List (List Nat)
  | 0 => [[]]
  | k + 1 => rows k ++ (rows k).map (· ++ [k])
def Lot (k : Nat) (a : List Nat) : Prop := a.Pairwise (· < ·) ∧ ∀ x ∈ a, x < k
theorem mem_rows : ∀ {k : Nat} {a : List Nat}, a ∈ rows k ↔ Lot k a
  | 0, a => by
    simp only [rows, List.mem_singleton, Lot]
    constructor
    · rintro rfl; simp
    · rintro ⟨_, h⟩
      cases a with
      | nil => rfl
      | cons x _ => exact absurd (h x List.mem_cons_self) (by omega)
  | k + 1, a => by
    simp only [rows, List.mem_append, List.mem_map]
    constructor
    · rintro (h | ⟨b, h, rfl⟩)
      · have := mem_rows.mp h
        exact ⟨this.1, fun x hx => by have := this.2 x hx; omega⟩
      · have := mem_rows.mp h
        refine ⟨List.pairwise_append.mpr ⟨this.1, by simp, fun x hx y hy => ?_⟩, fun x hx => ?_⟩
        · simp at hy; subst hy; exact this.2 x hx
        · rcases List.mem_append.mp hx with q | q
          · have := this.2 x q; omega
          · simp at q; omega
    · rintro ⟨h1, h2⟩
      rcases List.eq_nil_or_concat a with rfl | ⟨b, x, rfl⟩
      · exact .inl (mem_rows.mpr ⟨by simp, by simp⟩)
      · rw [List.concat_eq_append] at h1 h2 ⊢
        have hp := List.pairwise_append.mp h1
        have hx : x < k + 1 := h2 x (by simp)
        by_cases e : x = k
        · subst e
          exact .inr ⟨b, mem_rows.mpr ⟨hp.1, fun y hy => hp.2.2 y hy x (by simp)⟩, rfl⟩
        · refine .inl (mem_rows.mpr ⟨h1, fun y hy => ?_⟩)
          rcases List.mem_append.mp hy with q | q
          · have := hp.2.2 y q x (by simp); omega
          · simp at q; omega
theorem nodup_rows : ∀ k : Nat, (rows k).Nodup
  | 0 => by simp [rows]
  | k + 1 => by
    unfold rows
    rw [List.nodup_append]
    refine ⟨nodup_rows k, ?_, fun a ha b hb z => ?_⟩
    · refine (nodup_rows k).map _ (fun x y hxy z => hxy ?_)
      exact List.append_cancel_right z
    · obtain ⟨c, _, rfl⟩ := List.mem_map.mp hb
      subst z
      have := (mem_rows.mp ha).2 k (by simp)
      omega
theorem len_rows : ∀ k : Nat, (rows k).length = 2 ^ k
  | 0 => rfl
  | k + 1 => by
    unfold rows
    rw [List.length_append, List.length_map, len_rows k, Nat.pow_succ]
    omega
theorem nodup_le {α : Type} [DecidableEq α] : ∀ {l m : List α}, l.Nodup → (∀ x ∈ l, x ∈ m) → l.length ≤ m.length
  | [], _, _, _ => Nat.zero_le _
  | x :: l, m, h, s => by
    have hx := s x List.mem_cons_self
    have h' := List.nodup_cons.mp h
    have := nodup_le (l := l) (m := m.erase x) h'.2 fun y hy => (List.mem_erase_of_ne (fun (z : y = x) => h'.1 (z ▸ hy))).mpr (s y (List.mem_cons_of_mem _ hy))
    rw [List.length_erase_of_mem hx] at this
    have : 0 < m.length := List.length_pos_of_mem hx
    simp only [List.length_cons]
    omega
theorem lots_le {k : Nat} {ls : List (List Nat)} (hn : ls.Nodup) (h : ∀ l ∈ ls, Lot k l) : ls.length ≤ 2 ^ k := by
  rw [← len_rows k]
  exact nodup_le hn fun l hl => mem_rows.mpr (h l hl)
theorem lot_len {k : Nat} {a : List Nat} (h : Lot k a) : a.length ≤ k := by
  have : a.Nodup := h.1.imp fun q => Nat.ne_of_lt q
  have := nodup_le (m := List.range k) this fun x hx => List.mem_range.mpr (h.2 x hx)
  simpa using this
theorem pow_lim {k : Nat} (h : k ≤ 10) : 2 ^ k ≤ 1024 := Nat.pow_le_pow_right (by decide) h
theorem one_lim {d : D} : [d].length ≤ LIM := by unfold LIM; simp
theorem two_lim {d e : D} : [d, e].length ≤ LIM := by unfold LIM; simp
theorem filt_true {α : Type} (l : List α) : l.filter (fun _ => true) = l := List.filter_eq_self.mpr fun _ _ => rfl
theorem rg_get {k j : Nat} {x : D} (hx : ((List.range k).map nD)[j]? = some x) : j < k ∧ x = nD j := by
  rw [List.getElem?_map] at hx
  by_cases h : j < k
  · rw [List.getElem?_range h] at hx
    exact ⟨h, (Option.some.inj hx).symm⟩
  · rw [List.getElem?_eq_none (by simpa using h)] at hx
    cases hx
theorem rg2_get {a m j : Nat} {x : D} (hx : ((List.range' a m).map nD)[j]? = some x) : j < m ∧ x = nD (a + j) := by
  rw [List.getElem?_map] at hx
  by_cases h : j < m
  · rw [List.getElem?_range' (by simpa using h)] at hx
    simp at hx
    exact ⟨h, hx.symm⟩
  · rw [List.getElem?_eq_none (by simpa using h)] at hx
    cases hx
theorem add_n (a b : Nat) {st : Store} : prEv st (.bo .add) [nD a, nD b] = some (nD (a + b)) := by
  show some (D.int ((a : Int) + (b : Int))) = _
  rw [show ((a : Int) + (b : Int)) = ((a + b : Nat) : Int) by omega]
  rfl
theorem add_ti (a b : List Nat) {st : Store} (h : a.length + b.length ≤ LIM) : prEv st (.bo .add) [ti a, ti b] = some (ti (a ++ b)) := by
  show fits (a.map nD ++ b.map nD) (.tup (a.map nD ++ b.map nD)) = _
  unfold fits
  rw [if_pos (by simpa using h), ← List.map_append]
  rfl
theorem add_ls {α : Type} (f : α → D) (a b : List α) {st : Store} (h : a.length + b.length ≤ LIM) : prEv st (.bo .add) [.lst (a.map f), .lst (b.map f)] = some (.lst ((a ++ b).map f)) := by
  show fits (a.map f ++ b.map f) (.lst (a.map f ++ b.map f)) = _
  unfold fits
  rw [if_pos (by simpa using h), ← List.map_append]
theorem p_lots (k : Nat) (hk : k ≤ 10) : Pure 26 1 [nD k] (.lst ((srt (rows k)).map ti)) := by
  refine pure_of fun n st _ => run_of (fd := ⟨1, 4, b_26⟩) rfl rfl ?_
  refine s_cons (s_asg (r_lst (rs_cons (r_tup (rs_nil ⟨by decide, rs_nil ⟨by decide, _, rfl, ?_⟩⟩)))))
  refine s_cons (s_for (i_rng1 (r_v rfl ⟨_, rng1_n (by omega), fun j env s => s = st ∧ ∃ x, env = [some (false, nD k), some (false, .lst ((rows j).map ti)), x, none], ⟨rfl, none, rfl⟩, ?_, ?_⟩)))
  · rintro j x env s hx ⟨rfl, y, rfl⟩
    obtain ⟨hj, rfl⟩ := rg_get hx
    have hl : (rows j).length ≤ 1024 := by rw [len_rows]; exact pow_lim (by omega)
    refine ⟨_, rfl, s_cons (s_asg (r_p2 (r_v rfl (r_lcP (rows j) ti (fun _ => true) (fun a => ti (a ++ [j])) rfl (by unfold LIM; omega) (fun a ha => ⟨_, rfl, rfl, fun _ => ?_⟩) ⟨.lst ((rows (j + 1)).map ti), ?_, _, rfl, s_nil ⟨rfl, _, rfl⟩⟩))))⟩
    · have la : a.length ≤ j := lot_len (mem_rows.mp ha)
      refine Runs.eq (r_p2 (r_v rfl (r_tup (rs_cons (r_v rfl (rs_nil ⟨one_lim, ?_⟩))))))
      exact ⟨_, add_ti a [j] (by unfold LIM; simp; omega), rfl, rfl⟩
    · have := add_ls ti (rows j) ((rows j).map (· ++ [j])) (st := s) (by rw [List.length_map]; unfold LIM; omega)
      rw [filt_true]
      rw [List.map_map] at this
      exact this
  · rintro env s ⟨rfl, x, rfl⟩
    rw [List.length_map, List.length_range]
    refine s_cons (s_ret (r_p1 (r_v rfl ⟨.lst ((srt (rows k)).map ti), ?_, rfl, rfl⟩)))
    show srtEv s [.lst ((rows k).map ti)] = _
    unfold srtEv
    simp only [srtOk_ti, if_true, srt_ti]
end K21
set_option Elab.async false
set_option linter.all false
set_option maxRecDepth 100000
set_option maxHeartbeats 8000000
/-! Km2: k21: spaces. -/
namespace K21
open Dp

/-! ### lots -/
def meet (a b : List Nat) : List Nat := a.filter fun p => decide (p ∈ b)
theorem mem_meet {a b : List Nat} {x : Nat} : x ∈ meet a b ↔ x ∈ a ∧ x ∈ b := by simp [meet]
theorem Lot.meet {k : Nat} {a b : List Nat} (h : Lot k a) : Lot k (meet a b) := ⟨h.1.sublist List.filter_sublist, fun x hx => h.2 x (mem_meet.mp hx).1⟩
theorem Lot.nil {k : Nat} : Lot k [] := ⟨by simp, by simp⟩
theorem Lot.full {k : Nat} : Lot k (List.range k) := ⟨List.pairwise_lt_range, fun x hx => List.mem_range.mp hx⟩
theorem lot_filter {k : Nat} {a : List Nat} (h : Lot k a) : (List.range k).filter (fun x => decide (x ∈ a)) = a := by
  have : ∀ {k : Nat} {a : List Nat}, a ∈ rows k → (List.range k).filter (fun x => decide (x ∈ a)) = a := by
    intro k
    induction k with
    | zero =>
      intro a h
      simp [rows] at h
      subst h
      rfl
    | succ k ih =>
      intro a h
      rw [List.range_succ, List.filter_append]
      simp only [rows, List.mem_append, List.mem_map] at h
      rcases h with h | ⟨b, h, rfl⟩
      · have hk : k ∉ a := fun z => by have := (mem_rows.mp h).2 k z; omega
        rw [ih h]
        simp [hk]
      · have e : (List.range k).filter (fun x => decide (x ∈ b ++ [k])) = (List.range k).filter (fun x => decide (x ∈ b)) := by
          refine List.filter_congr fun x hx => ?_
          have : x ≠ k := by have := List.mem_range.mp hx; omega
          simp [this]
        rw [e, ih h]
        simp
  exact this (mem_rows.mpr h)
theorem lot_ext {k : Nat} {a b : List Nat} (ha : Lot k a) (hb : Lot k b) (h : ∀ x, x ∈ a ↔ x ∈ b) : a = b := by
  rw [← lot_filter ha, ← lot_filter hb]
  exact List.filter_congr fun x _ => by rw [decide_eq_decide]; exact h x
theorem meet_full {k : Nat} {a : List Nat} (ha : Lot k a) : meet a (List.range k) = a := List.filter_eq_self.mpr fun x hx => by simpa using ha.2 x hx

/-! ### families closed under meet -/
structure Fam (k : Nat) (ls : List (List Nat)) : Prop where
  nd : ls.Nodup
  lots : ∀ l ∈ ls, Lot k l
  nil : [] ∈ ls
  full : List.range k ∈ ls
  cl : ∀ a ∈ ls, ∀ b ∈ ls, meet a b ∈ ls
structure Good (k : Nat) (ls : List (List Nat)) : Prop where
  k1 : 1 ≤ k
  k5 : k ≤ 5
  up : Up ls
  lots : ∀ l ∈ ls, Lot k l
  nil : [] ∈ ls
  full : List.range k ∈ ls
  cl : ∀ a ∈ ls, ∀ b ∈ ls, meet a b ∈ ls
def metS (rs : List (List Nat)) (lot : List Nat) : List (List Nat) := once [] (rs ++ (rs.map (fun r => meet lot r) ++ [lot]))
theorem mem_metS {rs : List (List Nat)} {lot x : List Nat} {k : Nat} (f : Fam k rs) (hl : Lot k lot) : x ∈ metS rs lot ↔ x ∈ rs ∨ ∃ r ∈ rs, x = meet lot r := by
  unfold metS
  rw [mem_once]
  simp only [List.mem_append, List.mem_map, List.mem_singleton, List.not_mem_nil, false_or]
  constructor
  · rintro (h | ⟨r, h, rfl⟩ | rfl)
    · exact .inl h
    · exact .inr ⟨r, h, rfl⟩
    · exact .inr ⟨_, f.full, (meet_full hl).symm⟩
  · rintro (h | ⟨r, h, rfl⟩)
    · exact .inl h
    · exact .inr (.inl ⟨r, h, rfl⟩)
theorem Fam.metS {rs : List (List Nat)} {lot : List Nat} {k : Nat} (f : Fam k rs) (hl : Lot k lot) : Fam k (metS rs lot) := by
  have hlots : ∀ l ∈ K21.metS rs lot, Lot k l := fun l h => by
    rcases (mem_metS f hl).mp h with h | ⟨r, h, rfl⟩
    · exact f.lots l h
    · exact hl.meet
  refine ⟨nodup_once _ _ (by simp), hlots, (mem_metS f hl).mpr (.inl f.nil), (mem_metS f hl).mpr (.inl f.full), fun a ha b hb => ?_⟩
  have la := hlots a ha
  rw [mem_metS f hl] at ha hb ⊢
  have key : ∀ {r s : List Nat}, r ∈ rs → s ∈ rs → (∀ x, x ∈ meet a b ↔ x ∈ lot ∧ x ∈ r ∧ x ∈ s) → ∃ t ∈ rs, meet a b = meet lot t := fun {r s} hr hs h =>
    ⟨meet r s, f.cl r hr s hs, lot_ext la.meet hl.meet fun x => by rw [h x, mem_meet, mem_meet]⟩
  rcases ha with ha | ⟨r, hr, rfl⟩
  · rcases hb with hb | ⟨s, hs, rfl⟩
    · exact .inl (f.cl a ha b hb)
    · refine .inr (key ha hs fun x => ?_)
      rw [mem_meet, mem_meet]
      constructor
      · rintro ⟨h1, h2, h3⟩; exact ⟨h2, h1, h3⟩
      · rintro ⟨h1, h2, h3⟩; exact ⟨h2, h1, h3⟩
  · rcases hb with hb | ⟨s, hs, rfl⟩
    · refine .inr (key hr hb fun x => ?_)
      rw [mem_meet, mem_meet, and_assoc]
    · refine .inr (key hr hs fun x => ?_)
      rw [mem_meet, mem_meet, mem_meet]
      constructor
      · rintro ⟨⟨h1, h2⟩, _, h3⟩; exact ⟨h1, h2, h3⟩
      · rintro ⟨h1, h2, h3⟩; exact ⟨⟨h1, h2⟩, h1, h3⟩
theorem fam0 {k : Nat} (h : 1 ≤ k) : Fam k [[], List.range k] := by
  refine ⟨?_, fun l hl => ?_, by simp, by simp, fun a ha b hb => ?_⟩
  · have : [] ≠ List.range k := fun z => by have := congrArg List.length z; simp at this; omega
    simp [this]
  · simp at hl
    rcases hl with rfl | rfl
    · exact Lot.nil
    · exact Lot.full
  · simp at ha hb
    rcases ha with rfl | rfl
    · simp [meet]
    · rcases hb with rfl | rfl
      · simp [meet]
      · rw [meet_full Lot.full]; simp
def metN (k : Nat) (ls : List (List Nat)) : List (List Nat) := ls.foldl metS [[], List.range k]
theorem fam_metN {k : Nat} (hk : 1 ≤ k) {ls : List (List Nat)} (h : ∀ l ∈ ls, Lot k l) : Fam k (metN k ls) := by
  have : ∀ (ls rs : List (List Nat)), (∀ l ∈ ls, Lot k l) → Fam k rs → Fam k (ls.foldl metS rs) := by
    intro ls
    induction ls with
    | nil => intro rs _ f; exact f
    | cons l ls ih => intro rs h f; exact ih _ (fun x hx => h x (List.mem_cons_of_mem _ hx)) (f.metS (h l List.mem_cons_self))
  exact this ls _ h (fam0 hk)
theorem fam_len {k : Nat} (hk : k ≤ 10) {ls : List (List Nat)} (f : Fam k ls) : ls.length ≤ 1024 := Nat.le_trans (lots_le f.nd f.lots) (pow_lim hk)
theorem good_of {k : Nat} {ls : List (List Nat)} (k1 : 1 ≤ k) (k5 : k ≤ 5) (f : Fam k ls) : Good k (srt (once [] ls)) :=
  have m : ∀ {x : List Nat}, x ∈ srt (once [] ls) ↔ x ∈ ls := fun {x} => by rw [mem_srt, mem_once]; simp
  ⟨k1, k5, up_srt (nodup_once _ _ (by simp)), fun l hl => f.lots l (m.mp hl), m.mpr f.nil, m.mpr f.full, fun a ha b hb => m.mpr (f.cl a (m.mp ha) b (m.mp hb))⟩

/-! ### the defs -/
theorem p_made (k : Nat) (ls : List (List Nat)) (h : ls.length ≤ LIM) : Pure 30 1 [nD k, .lst (ls.map ti)] (.tup [nD k, tl (srt (once [] ls))]) := by
  refine pure_of fun n st _ => run_of (fd := ⟨2, 3, b_30⟩) rfl rfl ?_
  obtain ⟨vs, hd⟩ := dict_ti ls (st := st)
  refine s_cons (s_ret (r_tup (rs_cons (r_v rfl (rs_cons (r_p1 (r_p1 (r_p1 (r_lcP ls ti (fun _ => true) (fun l => .tup [ti l, .bl true]) rfl h (fun a ha => ⟨_, rfl, rfl, fun _ => ?_⟩) ⟨.dct ((once [] ls).map ti) vs, ?_, .lst ((srt (once [] ls)).map ti), ?_, tl (srt (once [] ls)), rfl, rs_nil ⟨two_lim, rfl, rfl⟩⟩)))))))))
  · exact Runs.eq (r_tup (rs_cons (r_v rfl (rs_cons (r_lit (rs_nil ⟨two_lim, rfl, rfl⟩))))))
  · rw [filt_true]; exact hd
  · show srtEv st [.dct ((once [] ls).map ti) vs] = _
    unfold srtEv
    simp only [srtOk_ti, if_true, srt_ti]
theorem p_met (k : Nat) (k1 : 1 ≤ k) (k5 : k ≤ 5) (ls : List (List Nat)) (h : ∀ l ∈ ls, Lot k l) : Pure 31 2 [nD k, .lst (ls.map ti)] (.tup [nD k, tl (srt (once [] (metN k ls)))]) := by
  refine pure_of fun n st hn => run_of (fd := ⟨2, 6, b_31⟩) rfl rfl ?_
  refine s_cons (s_asg (r_lst (rs_cons (r_tup (rs_nil ⟨by decide, rs_cons (r_rngx (r_lit (r_v rfl ⟨_, rngx0_n (by omega), rs_nil ⟨two_lim, _, rfl, ?_⟩⟩)))⟩)))))
  refine s_cons (s_for (i_ex (r_v rfl ⟨_, rfl, fun j env s => s = st ∧ ∃ rs x y, rs = metN k (ls.take j) ∧ env = [some (false, nD k), some (false, .lst (ls.map ti)), some (false, .lst (rs.map ti)), x, y, none], ⟨rfl, [[], List.range k], none, none, rfl, rfl⟩, ?_, ?_⟩)))
  · rintro j x env s hx ⟨rfl, rs, y, z, ers, rfl⟩
    rw [List.getElem?_map] at hx
    cases hj : ls[j]? with
    | none => rw [hj] at hx; cases hx
    | some lot =>
      rw [hj] at hx
      cases hx
      have hlot := h lot (List.mem_of_getElem? hj)
      have f := fam_metN k1 (ls := ls.take j) fun l hl => h l (List.mem_of_mem_take hl)
      have hlen := fam_len (by omega) f
      have tk : ls.take (j + 1) = ls.take j ++ [lot] := by rw [List.take_add_one, hj]; rfl
      have em : metN k (ls.take (j + 1)) = metS (metN k (ls.take j)) lot := by unfold metN; rw [tk, List.foldl_append]; rfl
      rw [← ers] at f hlen em
      obtain ⟨vs, hd⟩ := dict_ti (rs ++ (rs.map (fun r => meet lot r) ++ [lot])) (st := s)
      refine ⟨_, rfl, s_cons (s_asg (r_p2 (r_lcP rs ti (fun _ => true) (fun r => ti (meet lot r)) rfl (by unfold LIM; omega) (fun a ha => ⟨_, rfl, rfl, fun _ => ?_⟩) (r_lst (rs_cons (r_v rfl (rs_nil ⟨one_lim, .lst ((rs.map (fun r => meet lot r) ++ [lot]).map ti), ?_, _, rfl, ?_⟩)))))))⟩
      · exact Runs.eq (r_call (rs_cons (r_v rfl (rs_cons (r_v rfl (rs_nil ((p_common lot a (Nat.le_trans (lot_len hlot) (by unfold LIM; omega))).runs (by omega) ⟨rfl, rfl⟩)))))))
      · have := add_ls ti (rs.map (fun r => meet lot r)) [lot] (st := s) (by rw [List.length_map]; unfold LIM; simp; omega)
        rw [filt_true]
        rw [List.map_map] at this
        exact this
      · refine s_cons (s_asg (r_p1 (r_p1 (r_lcP (rs ++ (rs.map (fun r => meet lot r) ++ [lot])) ti (fun _ => true) (fun l => .tup [ti l, .bl true]) ?_ (by simp; unfold LIM; omega) (fun a ha => ⟨_, rfl, rfl, fun _ => ?_⟩) ⟨.dct ((metS rs lot).map ti) vs, ?_, .lst ((metS rs lot).map ti), rfl, _, rfl, s_nil ⟨rfl, _, _, _, em.symm, rfl⟩⟩))))
        · exact Runs.eq (i_ex (r_p2 (r_v rfl (r_v rfl ⟨_, add_ls ti rs (rs.map (fun r => meet lot r) ++ [lot]) (by simp; unfold LIM; omega), _, rfl, rfl, rfl⟩))))
        · exact Runs.eq (r_tup (rs_cons (r_v rfl (rs_cons (r_lit (rs_nil ⟨two_lim, rfl, rfl⟩))))))
        · rw [filt_true]; exact hd
  · rintro env s ⟨rfl, rs, x, y, ers, rfl⟩
    rw [List.length_map, List.take_length] at ers
    subst ers
    have hlen := fam_len (by omega) (fam_metN k1 h)
    exact s_cons (s_ret (r_call (rs_cons (r_v rfl (rs_cons (r_v rfl (rs_nil ((p_made k (metN k ls) (by unfold LIM; omega)).runs (by omega) ⟨rfl, rfl⟩))))))))
end K21
set_option Elab.async false
set_option linter.all false
set_option maxRecDepth 100000
set_option maxHeartbeats 8000000
/-! Km3: k21: spans, lines, rules. -/
namespace K21
open Dp

def spD (k : Nat) (ls : List (List Nat)) : D := .tup [nD k, tl ls]
theorem has_runs {n : Nat} {st : Store} {lot part : List Nat} {Q : D → Store → Prop} (hn : 1 ≤ n) (h : part.length ≤ 100) (q : Q (.bl (part.all fun p => decide (p ∈ lot))) st) : Runs (run T gv 0 n 28 [ti lot, ti part] st) Q := (p_has lot part (by unfold LIM; omega)).runs hn q
theorem tk_succ {α : Type} {l : List α} {j : Nat} {x : α} (h : l[j]? = some x) : l.take (j + 1) = l.take j ++ [x] := by rw [List.take_add_one, h]; rfl
theorem map_get {α : Type} {f : α → D} {l : List α} {j : Nat} {x : D} (h : (l.map f)[j]? = some x) : ∃ y, l[j]? = some y ∧ x = f y := by
  rw [List.getElem?_map] at h
  cases q : l[j]? with
  | none => rw [q] at h; cases h
  | some y => rw [q] at h; exact ⟨y, rfl, (Option.some.inj h).symm⟩
/-- the law's span -/
def spanS (lot found c : List Nat) : List Nat := if (lot.all fun p => decide (p ∈ c)) then meet found c else found
def spanN (k : Nat) (ls : List (List Nat)) (lot : List Nat) : List Nat := ls.foldl (spanS lot) (List.range k)
theorem spanS_lot {k : Nat} {lot f c : List Nat} (h : Lot k f) : Lot k (spanS lot f c) := by
  unfold spanS
  split
  · exact h.meet
  · exact h
theorem spanN_lot {k : Nat} {ls : List (List Nat)} {lot : List Nat} : Lot k (spanN k ls lot) := by
  have : ∀ (ls : List (List Nat)) (f : List Nat), Lot k f → Lot k (ls.foldl (spanS lot) f) := by
    intro ls
    induction ls with
    | nil => intro f h; exact h
    | cons c ls ih => intro f h; exact ih _ (spanS_lot h)
  exact this ls _ Lot.full
theorem p_span (k : Nat) (hk : k ≤ 10) (ls : List (List Nat)) (lot : List Nat) (h : lot.length ≤ 100) : Pure 29 2 [spD k ls, ti lot] (ti (spanN k ls lot)) := by
  refine pure_of fun n st hn => run_of (fd := ⟨2, 4, b_29⟩) rfl rfl ?_
  refine s_cons (s_asg (r_rngx (r_lit (r_p2 (r_v rfl (r_lit ⟨nD k, rfl, _, rngx0_n (by omega), _, rfl, ?_⟩))))))
  refine s_cons (s_for (i_ex (r_p2 (r_v rfl (r_lit ⟨tl ls, rfl, _, rfl, fun j env s => s = st ∧ ∃ f x, f = spanN k (ls.take j) lot ∧ env = [some (false, spD k ls), some (false, ti lot), some (false, ti f), x], ⟨rfl, _, none, rfl, rfl⟩, ?_, ?_⟩)))))
  · rintro j x env s hx ⟨rfl, f, y, ef, rfl⟩
    obtain ⟨c, hc, rfl⟩ := map_get hx
    have lf : f.length ≤ 10 := by rw [ef]; exact Nat.le_trans (lot_len spanN_lot) hk
    have en : spanN k (ls.take (j + 1)) lot = spanS lot f c := by
      rw [tk_succ hc, ef]
      unfold spanN
      rw [List.foldl_append]
      rfl
    refine ⟨_, rfl, s_cons (s_ifs (t_call (r_call (rs_cons (r_v rfl (rs_cons (r_v rfl (rs_nil (has_runs hn h ⟨_, rfl, ?_⟩)))))))))⟩
    cases hh : lot.all fun p => decide (p ∈ c) with
    | true =>
      refine s_cons (s_asg (r_call (rs_cons (r_v rfl (rs_cons (r_v rfl (rs_nil ((p_common f c (by unfold LIM; omega)).runs hn ⟨_, rfl, s_nil (s_nil ⟨rfl, _, _, ?_, rfl⟩)⟩))))))))
      rw [en]; unfold spanS; rw [hh]; rfl
    | false =>
      refine s_nil (s_nil ⟨rfl, _, _, ?_, rfl⟩)
      rw [en]; unfold spanS; rw [hh]; rfl
  · rintro env s ⟨rfl, f, x, ef, rfl⟩
    rw [List.length_map, List.take_length] at ef
    subst ef
    exact s_cons (s_ret (r_v rfl ⟨rfl, rfl⟩))

/-! ### the line -/
def lineR (k : Nat) : Nat → List (List Nat)
  | 0 => []
  | j + 1 => lineR k j ++ (List.range' (j + 1) (k + 1 - (j + 1))).map fun e => List.range' j (e - j)
theorem lot_range' {k a m : Nat} (h : a + m ≤ k) : Lot k (List.range' a m) := ⟨List.pairwise_lt_range', fun x hx => by
  obtain ⟨i, h1, h2⟩ := List.mem_range'.mp hx
  omega⟩
theorem lineR_lot {k : Nat} : ∀ j, j ≤ k → ∀ l ∈ lineR k j, Lot k l
  | 0, _, l, h => by simp [lineR] at h
  | j + 1, hj, l, h => by
    rcases List.mem_append.mp h with h | h
    · exact lineR_lot j (by omega) l h
    · obtain ⟨e, he, rfl⟩ := List.mem_map.mp h
      obtain ⟨i, h1, h2⟩ := List.mem_range'.mp he
      exact lot_range' (by omega)
theorem lineR_len {k : Nat} : ∀ j, (lineR k j).length ≤ k * j
  | 0 => Nat.le_refl _
  | j + 1 => by
    have := lineR_len (k := k) j
    simp only [lineR, List.length_append, List.length_map, List.length_range']
    rw [Nat.mul_succ]
    omega
def lineN (k : Nat) : List (List Nat) := srt (once [] (metN k (lineR k k)))
theorem good_line {k : Nat} (k1 : 1 ≤ k) (k5 : k ≤ 5) : Good k (lineN k) := good_of k1 k5 (fam_metN k1 (lineR_lot k (Nat.le_refl _)))
theorem p_line (k : Nat) (k1 : 1 ≤ k) (k5 : k ≤ 5) : Pure 33 3 [nD k] (spD k (lineN k)) := by
  refine pure_of fun n st hn => run_of (fd := ⟨1, 4, b_33⟩) rfl rfl ?_
  refine s_cons (s_asg (r_lst (rs_nil ⟨by decide, _, rfl, ?_⟩)))
  refine s_cons (s_for (i_rng1 (r_v rfl ⟨_, rng1_n (by omega), fun j env s => s = st ∧ ∃ rs x, rs = lineR k j ∧ env = [some (false, nD k), some (false, .lst (rs.map ti)), x, none], ⟨rfl, [], none, rfl, rfl⟩, ?_, ?_⟩)))
  · rintro j x env s hx ⟨rfl, rs, y, ers, rfl⟩
    obtain ⟨hj, rfl⟩ := rg_get hx
    have lr : rs.length ≤ 25 := by
      rw [ers]
      exact Nat.le_trans (lineR_len j) (Nat.le_trans (Nat.mul_le_mul k5 (show j ≤ 5 by omega)) (by decide))
    refine ⟨_, rfl, s_cons (s_asg (r_p2 (r_v rfl (r_lcP (List.range' (j + 1) (k + 1 - (j + 1))) nD (fun _ => true) (fun e => ti (List.range' j (e - j))) ?_ (by rw [List.length_range']; unfold LIM; omega) (fun e he => ⟨_, rfl, rfl, fun _ => ?_⟩) ⟨.lst ((lineR k (j + 1)).map ti), ?_, _, rfl, s_nil ⟨rfl, _, _, rfl, rfl⟩⟩))))⟩
    · exact Runs.eq (i_rng2 (r_p2 (r_v rfl (r_lit ⟨_, add_n j 1, r_p2 (r_v rfl (r_lit ⟨_, add_n k 1, _, rng2_n (by omega) (by omega), rfl, rfl⟩))⟩))))
    · obtain ⟨i, h1, h2⟩ := List.mem_range'.mp he
      exact Runs.eq (r_rngx (r_v rfl (r_v rfl ⟨_, rngx_n (by omega) (by omega), rfl, rfl⟩)))
    · have := add_ls ti rs ((List.range' (j + 1) (k + 1 - (j + 1))).map fun e => List.range' j (e - j)) (st := s) (by rw [List.length_map, List.length_range']; unfold LIM; omega)
      rw [filt_true, show lineR k (j + 1) = rs ++ (List.range' (j + 1) (k + 1 - (j + 1))).map fun e => List.range' j (e - j) by rw [ers]; rfl]
      rw [List.map_map] at this
      exact this
  · rintro env s ⟨rfl, rs, x, ers, rfl⟩
    rw [List.length_map, List.length_range] at ers
    subst ers
    exact s_cons (s_ret (r_call (rs_cons (r_v rfl (rs_cons (r_v rfl (rs_nil ((p_met k k1 k5 _ (lineR_lot k (Nat.le_refl _))).runs hn ⟨rfl, rfl⟩))))))))

/-! ### rules -/
def rD (r : List Nat × Nat) : D := .tup [ti r.1, nD r.2]
def badR (lot : List Nat) (r : List Nat × Nat) : Bool := !decide (r.2 ∈ lot) && r.1.all fun p => decide (p ∈ lot)
def keepR (rs : List (List Nat × Nat)) (lot : List Nat) : Bool := rs.all fun r => !badR lot r
def rulesN (k : Nat) (rs : List (List Nat × Nat)) : List (List Nat) := srt (once [] ((srt (rows k)).filter (keepR rs)))
theorem good_rules {k : Nat} (k1 : 1 ≤ k) (k5 : k ≤ 5) {rs : List (List Nat × Nat)} (h : ∀ r ∈ rs, r.1 ≠ [] ∧ r.2 < k) : Good k (rulesN k rs) := by
  have m : ∀ {x : List Nat}, x ∈ (srt (rows k)).filter (keepR rs) ↔ Lot k x ∧ ∀ r ∈ rs, r.2 ∉ x → ¬ ∀ p ∈ r.1, p ∈ x := fun {x} => by
    rw [List.mem_filter, mem_srt, mem_rows]
    unfold keepR badR
    simp only [List.all_eq_true, Bool.not_eq_true', Bool.and_eq_false_iff, Bool.not_eq_false', decide_eq_true_eq]
    refine and_congr_right fun _ => forall_congr' fun r => forall_congr' fun _ => ?_
    constructor
    · rintro (q | q) hn hall
      · exact hn q
      · have : (r.1.all fun p => decide (p ∈ x)) = true := by simpa using hall
        rw [this] at q; cases q
    · intro q
      by_cases hm : r.2 ∈ x
      · exact .inl hm
      · refine .inr ?_
        cases e : r.1.all fun p => decide (p ∈ x) with
        | false => rfl
        | true => exact (q hm (by simpa using e)).elim
  refine good_of k1 k5 ⟨(((List.mergeSort_perm (rows k) leN).nodup_iff).mpr (nodup_rows k)).sublist List.filter_sublist, fun l hl => (m.mp hl).1, m.mpr ⟨Lot.nil, fun r hr _ hall => ?_⟩, m.mpr ⟨Lot.full, fun r hr hn _ => hn (List.mem_range.mpr (h r hr).2)⟩, fun a ha b hb => m.mpr ⟨(m.mp ha).1.meet, fun r hr hn hall => ?_⟩⟩
  · have hne := (h r hr).1
    cases e : r.1 with
    | nil => exact hne e
    | cons x t => exact absurd (hall x (by rw [e]; exact List.mem_cons_self)) (by simp)
  · have h1 : r.2 ∈ a := Classical.byContradiction fun z => (m.mp ha).2 r hr z fun p hp => (mem_meet.mp (hall p hp)).1
    have h2 : r.2 ∈ b := Classical.byContradiction fun z => (m.mp hb).2 r hr z fun p hp => (mem_meet.mp (hall p hp)).2
    exact hn (mem_meet.mpr ⟨h1, h2⟩)
theorem p_rules (k : Nat) (k5 : k ≤ 5) (rs : List (List Nat × Nat)) (hr : rs.length ≤ 100) (hl : ∀ r ∈ rs, r.1.length ≤ 100) : Pure 32 2 [nD k, .lst (rs.map rD)] (spD k (rulesN k rs)) := by
  refine pure_of fun n st hn => run_of (fd := ⟨2, 6, b_32⟩) rfl rfl ?_
  have lr : (srt (rows k)).length ≤ 1024 := by rw [len_srt, len_rows]; exact pow_lim (by omega)
  refine s_cons (s_own (r_lst (rs_nil ⟨by decide, ?_⟩)))
  refine s_cons (s_for (i_ex (r_call (rs_cons (r_v rfl (rs_nil ((p_lots k (by omega)).runs hn ⟨_, rfl, fun j env s => s = st ∧ ∃ g x, g = ((srt (rows k)).take j).filter (keepR rs) ∧ env = [some (false, nD k), some (false, .lst (rs.map rD)), some (true, .lst (g.map ti)), x, none, none], ⟨rfl, [], none, rfl, rfl⟩, ?_, ?_⟩)))))))
  · rintro j x env s hx ⟨rfl, g, y, eg, rfl⟩
    obtain ⟨lot, hlot, rfl⟩ := map_get hx
    have gl : g.length ≤ 1024 := by
      rw [eg]
      exact Nat.le_trans (List.length_filter_le _ _) (Nat.le_trans (List.length_take_le _ _) (by
        have := (List.getElem?_eq_some_iff.mp hlot).1; omega))
    refine ⟨_, rfl, s_cons (s_ifs (t_prim (r_p2 (r_lcP rs rD (badR lot) (fun _ => nD 1) rfl (by unfold LIM; omega) (fun r hr => ⟨_, rfl, ?_, fun _ => rfl⟩) (r_lst (rs_nil ⟨by decide, .bl (keepR rs lot), ?_, keepR rs lot, rfl, ?_⟩))))))⟩
    · refine Runs.eq (a_one (t_and (t_prim (r_p2 (r_v rfl (r_v rfl ⟨_, by rw [show prEv s (.co .notin) [nD r.2, ti lot] = (coEv .notin (nD r.2) (ti lot)).map .bl from rfl, nin_n]; rfl, _, rfl, ?_⟩))))))
      unfold badR
      cases hh : !decide (r.2 ∈ lot) with
      | false => exact ⟨rfl, rfl⟩
      | true => exact t_call (r_call (rs_cons (r_v rfl (rs_cons (r_v rfl (rs_nil (has_runs hn (hl r hr) ⟨_, rfl, rfl, rfl⟩))))))
)
    · show (coEv .eq _ _).map D.bl = _
      rw [eq_nil (by
        have := lay_ns ((rs.filter (badR lot)).map fun _ => 1)
        rw [List.map_map] at this
        exact this)]
      simp only [Option.map_some, Option.some.injEq, D.bl.injEq]
      unfold keepR
      rw [Bool.eq_iff_iff]
      simp [List.isEmpty_iff, List.filter_eq_nil_iff]
    · have en : ((srt (rows k)).take (j + 1)).filter (keepR rs) = g ++ (if keepR rs lot then [lot] else []) := by
        rw [tk_succ hlot, List.filter_append, eg, List.filter_cons]
        rfl
      cases hh : keepR rs lot with
      | true =>
        refine s_cons (s_app (r_v rfl ⟨_, rfl, by rw [List.length_map]; unfold LIM; omega, s_nil (s_nil ⟨rfl, g ++ [lot], some (false, ti lot), ?_, ?_⟩)⟩))
        · rw [en, hh]; rfl
        · rw [List.map_append]; rfl
      | false =>
        refine s_nil (s_nil ⟨rfl, g, _, ?_, rfl⟩)
        rw [en, hh]; simp
  · rintro env s ⟨rfl, g, x, eg, rfl⟩
    rw [List.length_map, List.take_length] at eg
    subst eg
    refine s_cons (s_frz rfl (s_cons (s_ret (r_call (rs_cons (r_v rfl (rs_cons (r_v rfl (rs_nil ((p_made k _ ?_).runs hn ⟨rfl, rfl⟩))))))))))
    exact Nat.le_trans (List.length_filter_le _ _) (by unfold LIM; omega)
end K21
set_option Elab.async false
set_option linter.all false
set_option maxRecDepth 100000
set_option maxHeartbeats 8000000
/-! Km4: k21: what is drawn. -/
namespace K21
open Dp

def stD (cells : List Int) (a : Nat) : D := .dct [.str "cells", .str "lefts", .str "at", .str "room"] [.lst (cells.map .int), .ref 0, nD a, .int 0]
def stO (cells lefts : List Int) (a : Nat) : Store := [.lst (lefts.map .int), stD cells a]
def StAt (m : Nat) (st : Store) : Prop := ∃ cells lefts a, st = stO cells lefts a ∧ cells.length = lefts.length ∧ 0 < cells.length ∧ a ≤ m
theorem StAt.mono {m m' : Nat} {st : Store} (h : StAt m st) (k : m ≤ m') : StAt m' st := by
  obtain ⟨c, l, a, h1, h2, h3, h4⟩ := h
  exact ⟨c, l, a, h1, h2, h3, by omega⟩
theorem mul_i {i j : Int} {st : Store} (h : (-(2 ^ 64) < i ∧ i < 2 ^ 64) ∨ (-(2 ^ 64) < j ∧ j < 2 ^ 64)) : prEv st (.bo .mul) [.int i, .int j] = some (.int (i * j)) := if_pos h
theorem mod_i {i j : Int} {st : Store} (h : 0 < j) : prEv st (.bo .mod) [.int i, .int j] = some (.int (i % j)) := if_pos h
theorem fdiv_i {i j : Int} {st : Store} (h : 0 < j ∧ j < 1073741824) : prEv st (.bo .fdiv) [.int i, .int j] = some (.int (i / j)) := if_pos h
theorem r_mixed {n : Nat} {st : Store} {c k : Int} {Q : D → Store → Prop} (hn : 1 ≤ n) (hk : -(2 ^ 62) < k ∧ k < 2 ^ 62) (q : ∀ r : Int, Q (.int r) st) : Runs (run T gv 0 n 22 [.int c, .int k] st) Q := by
  obtain ⟨n, rfl⟩ : ∃ j, n = j + 1 := ⟨n - 1, by omega⟩
  refine run_of (fd := ⟨2, 2, b_22⟩) rfl rfl ?_
  refine s_cons (s_asg (r_p2 (r_p1 (r_v rfl ⟨.int c, rfl, r_lit ⟨_, mod_i (by decide), _, rfl, ?_⟩⟩))))
  refine s_cons (s_ret ?_)
  refine r_p2 (r_p2 (r_p2 (r_p2 (r_p2 (r_p2 (r_v rfl (r_p2 (r_lit ?_))))))))
  refine r_p2 (r_p2 (r_lit (r_v rfl ⟨_, mul_i (.inl (by decide)), ?_⟩)))
  refine r_v rfl ⟨_, mul_i (.inr (by omega)), ?_⟩
  refine ⟨.int (48271 + 2 * k * k), rfl, _, mul_i (.inl (by omega)), ?_⟩
  refine r_p2 (r_lit (r_v rfl ⟨_, mul_i (.inl (by decide)), _, rfl, ?_⟩))
  refine r_lit ⟨_, rfl, ?_⟩
  refine r_lit ⟨_, mod_i (by decide), ?_⟩
  refine r_lit ⟨_, mul_i (.inr (by decide)), ?_⟩
  exact r_lit ⟨_, mod_i (by decide), q _⟩
/-- the dict of the state -/
theorem look_at {c l : List Int} {a : Nat} : prEv (stO c l a) .sub [.ref 1, .str "at"] = some (nD a) := by rfl
theorem look_cells {c l : List Int} {a : Nat} : prEv (stO c l a) .sub [.ref 1, .str "cells"] = some (.lst (c.map .int)) := by rfl
theorem look_lefts {c l : List Int} {a : Nat} : prEv (stO c l a) .sub [.ref 1, .str "lefts"] = some (.ref 0) := by rfl
theorem put_at {c l : List Int} {a b : Nat} : putCell (stO c l a) (.ref 1) (.str "at") (nD b) = some (stO c l b) := by rfl
theorem ix_n {n i : Nat} (h : i < n) : ixOf n (i : Int) = some i := by
  unfold ixOf
  rw [if_pos (by omega), if_pos (by omega)]
  simp
theorem look_left {c l : List Int} {a i : Nat} {v : Int} (h : l[i]? = some v) : prEv (stO c l a) .sub [.ref 0, nD i] = some (.int v) := by
  show atD (l.map .int) (i : Int) = _
  unfold atD
  have hi := (List.getElem?_eq_some_iff.mp h).1
  rw [List.length_map, ix_n hi, Option.bind_some, List.getElem?_map, h]
  rfl
theorem look_cell {c : List Int} {st : Store} {i : Nat} {v : Int} (h : c[i]? = some v) : prEv st .sub [.lst (c.map .int), nD i] = some (.int v) := by
  show atD (c.map .int) (i : Int) = _
  unfold atD
  have hi := (List.getElem?_eq_some_iff.mp h).1
  rw [List.length_map, ix_n hi, Option.bind_some, List.getElem?_map, h]
  rfl
theorem put_left {c l : List Int} {a i : Nat} {v : Int} (h : i < l.length) : putCell (stO c l a) (.ref 0) (nD i) (.int v) = some (stO c (l.set i v) a) := by
  show (ixOf (l.map D.int).length (i : Int)).map (fun j => (stO c l a).set 0 (.lst ((l.map .int).set j (.int v)))) = _
  rw [List.length_map, ix_n h, Option.map_some, ← List.map_set]
  rfl
theorem mod_nat {i : Int} {m : Nat} (h : 0 < m) : ∃ r, r < m ∧ D.int (i % (m : Int)) = nD r := by
  refine ⟨(i % (m : Int)).toNat, ?_, ?_⟩
  · have := Int.emod_lt_of_pos i (show (0 : Int) < m by omega)
    have := Int.emod_nonneg i (show (m : Int) ≠ 0 by omega)
    omega
  · have := Int.emod_nonneg i (show (m : Int) ≠ 0 by omega)
    show _ = D.int _
    congr 1
    omega
theorem r_draw {n m many : Nat} {st : Store} {Q : D → Store → Prop} (hn : 2 ≤ n) (hs : StAt m st) (hm : m ≤ 1000000) (h0 : 0 < many) (h1 : many ≤ 1000) (q : ∀ r st', r < many → StAt (m + 1) st' → Q (nD r) st') : Runs (run T gv 0 n 24 [.ref 1, nD many] st) Q := by
  obtain ⟨n, rfl⟩ : ∃ j, n = j + 1 := ⟨n - 1, by omega⟩
  obtain ⟨c, l, a, rfl, hl, hc, ha⟩ := hs
  have hp : a % c.length < c.length := Nat.mod_lt _ hc
  obtain ⟨x, hx⟩ : ∃ x, c[a % c.length]? = some x := ⟨_, List.getElem?_eq_getElem hp⟩
  obtain ⟨v, hv⟩ : ∃ v, l[a % c.length]? = some v := ⟨_, List.getElem?_eq_getElem (hl ▸ hp)⟩
  have am : prEv (stO c l (a + 1)) (.bo .mod) [nD a, .int (c.map D.int).length] = some (nD (a % c.length)) := by
    rw [List.length_map]
    exact (mod_i (by omega)).trans rfl
  refine run_of (fd := ⟨2, 6, b_24⟩) rfl rfl ?_
  refine s_cons (s_asg (r_p2 (r_v rfl (r_lit ⟨_, look_at, _, rfl, ?_⟩))))
  refine s_cons (s_put (r_p2 (r_v rfl (r_lit ⟨_, add_n a 1, r_v rfl (r_lit ⟨_, put_at, ?_⟩)⟩))))
  refine s_cons (s_asg (r_p2 (r_p1 (r_v rfl ⟨nD a, rfl, r_p1 (r_p2 (r_v rfl (r_lit ⟨_, look_cells, .int (c.map D.int).length, rfl, _, am, _, rfl, ?_⟩)))⟩))))
  refine s_cons (s_asg (r_p2 (r_p2 (r_v rfl (r_lit ⟨_, look_lefts, r_v rfl ⟨_, look_left hv, _, rfl, ?_⟩⟩)))))
  refine s_cons (s_ifs (t_prim (r_p2 (r_v rfl (r_lit ⟨.bl (decide (0 < v)), rfl, _, rfl, ?_⟩)))))
  by_cases hpos : 0 < v
  · rw [decide_eq_true hpos]
    obtain ⟨r, hr, er⟩ := mod_nat (i := v) h0
    refine s_cons (s_put (r_p2 (r_v rfl (r_v rfl ⟨_, fdiv_i (by omega), r_p2 (r_v rfl (r_lit ⟨_, look_lefts, r_v rfl ⟨_, put_left (hl ▸ hp), ?_⟩⟩))⟩))))
    refine s_cons (s_ret (r_p2 (r_p1 (r_v rfl ⟨.int v, rfl, r_v rfl ⟨_, mod_i (by omega), ?_⟩⟩))))
    rw [er]
    exact q r _ hr ⟨c, _, a + 1, rfl, by rw [List.length_set]; exact hl, hc, by omega⟩
  · rw [decide_eq_false hpos]
    refine s_nil ?_
    refine s_cons (s_asg (r_call (rs_cons (r_call (rs_cons (r_p2 (r_p2 (r_v rfl (r_lit ⟨_, look_cells, r_v rfl ⟨_, look_cell hx, ?_⟩⟩)))))))))
    refine rs_cons (r_v rfl (rs_nil (r_mixed (by omega) (by omega) fun y => ?_)))
    refine rs_cons (r_p2 (r_lit (r_v rfl ⟨_, add_n 40 a, ?_⟩)))
    refine rs_nil (r_mixed (by omega) (by omega) fun z => ⟨_, rfl, ?_⟩)
    refine s_cons (s_ret ?_)
    refine r_p2 (r_p2 (r_p1 (r_p2 (r_p2 (r_v rfl (r_lit ⟨_, mul_i (.inr (by decide)), ?_⟩))))))
    refine r_call (rs_cons (r_v rfl (rs_cons (r_p2 (r_lit (r_v rfl ⟨_, add_n 7 a, ?_⟩))))))
    refine rs_nil (r_mixed (by omega) (by omega) fun w => ?_)
    refine ⟨.int (z * 2147483647 + w), rfl, .int (z * 2147483647 + w), rfl, r_lit ⟨_, fdiv_i (by decide), r_v rfl ⟨_, mod_i (by omega), ?_⟩⟩⟩
    obtain ⟨r, hr, er⟩ := mod_nat (i := (z * 2147483647 + w) / 64) h0
    show Q (.int ((z * 2147483647 + w) / 64 % (many : Int))) _
    rw [er]
    exact q r _ hr ⟨c, l, a + 1, rfl, hl, hc, by omega⟩
end K21
set_option Elab.async false
set_option linter.all false
set_option maxRecDepth 100000
set_option maxHeartbeats 8000000
/-! Km5: k21: drawn spaces. -/
namespace K21
open Dp

theorem eq_n (a b : Nat) {st : Store} : prEv st (.co .eq) [nD a, nD b] = some (.bl (decide (a = b))) := by
  show (if eqOk (nD a) (nD b) = true then some (D.eqb (nD a) (nD b)) else none).map D.bl = _
  rw [ok_n, eqb_n]; rfl
theorem lt_n (a b : Nat) {st : Store} : prEv st (.co .lt) [nD a, nD b] = some (.bl (decide (a < b))) := by
  show some (D.bl (decide ((a : Int) < (b : Int)))) = _
  congr 2
  exact decide_eq_decide.mpr (by omega)
theorem gt_n (a b : Nat) {st : Store} : prEv st (.co .gt) [nD a, nD b] = some (.bl (decide (b < a))) := by
  show some (D.bl (decide ((b : Int) < (a : Int)))) = _
  congr 2
  exact decide_eq_decide.mpr (by omega)
theorem le_n (a b : Nat) {st : Store} : prEv st (.co .le) [nD a, nD b] = some (.bl (decide (a ≤ b))) := by
  show some (D.bl (decide ((a : Int) ≤ (b : Int)))) = _
  congr 2
  exact decide_eq_decide.mpr (by omega)
theorem r_pick {n m k c x i : Nat} {env : Env} {st : Store} {Q : D → Store → Prop} (hn : 2 ≤ n) (hs : StAt m st) (hm : m ≤ 900000) (hk : k ≤ 10) (h1 : getS env 1 = some (nD k)) (h0 : ∀ d, getS ((wipeE env [i]).set i (some (false, d))) 0 = some (.ref 1)) (hi : ∀ d, getS ((wipeE env [i]).set i (some (false, d))) i = some d)
    (c0 : 0 < c) (c1 : c ≤ 1000) (q : ∀ sub st', Lot k sub → StAt (m + k) st' → Q (.lst (sub.map nD)) st') :
    Runs ((Ex.lc [i] (.name i) (.rng1 (.v 1)) (.cons (.prim (.co .eq) (.cons (.call 24 (.cons (.v 0) (.cons (.lit (nD c)) .nil))) (.cons (.lit (nD x)) .nil))) .nil) (.v i)).ev ⟨gv, 0, run T gv 0 n⟩ env st) Q := by
  refine r_lc (i_rng1 (r_v h1 ⟨_, rng1_n (by omega), fun j acc s => ∃ sub, acc = sub.map nD ∧ sub.Sublist (List.range j) ∧ StAt (m + j) s, by rw [List.length_map, List.length_range]; unfold LIM; omega, ⟨[], rfl, by simp, hs⟩, ?_, ?_⟩))
  · rintro j d acc s hx ⟨sub, rfl, hsub, hst⟩
    obtain ⟨hj, rfl⟩ := rg_get hx
    refine ⟨_, rfl, a_one (t_prim (r_p2 (r_call (rs_cons (r_v (h0 _) (rs_cons (r_lit (rs_nil (r_draw hn hst (by omega) c0 c1 fun r s' hr hs' => r_lit ⟨_, eq_n r x, _, rfl, ?_⟩)))))))))⟩
    have key : List.range (j + 1) = List.range j ++ [j] := List.range_succ
    cases decide (r = x) with
    | true =>
      refine r_v (hi _) ⟨sub ++ [j], by rw [List.map_append]; rfl, ?_, by rw [← Nat.add_assoc]; exact hs'⟩
      rw [key]
      exact hsub.append (List.Sublist.refl _)
    | false =>
      refine ⟨sub, rfl, ?_, by rw [← Nat.add_assoc]; exact hs'⟩
      rw [key]
      exact hsub.trans (List.sublist_append_left _ _)
  · rintro acc s ⟨sub, rfl, hsub, hst⟩ _
    rw [List.length_map, List.length_range] at hsub hst
    exact q sub s ⟨List.pairwise_lt_range.sublist hsub, fun x hx => List.mem_range.mp (hsub.subset hx)⟩ hst
theorem r_dspace {n m k : Nat} {st : Store} {Q : D → Store → Prop} (hn : 4 ≤ n) (hs : StAt m st) (hm : m ≤ 800000) (k1 : 1 ≤ k) (k5 : k ≤ 5) (q : ∀ ls st', Good k ls → StAt (m + 50) st' → Q (spD k ls) st') : Runs (run T gv 0 n 34 [.ref 1, nD k] st) Q := by
  obtain ⟨n, rfl⟩ : ∃ j, n = j + 1 := ⟨n - 1, by omega⟩
  refine run_of (fd := ⟨2, 7, b_34⟩) rfl rfl ?_
  refine s_cons (s_par (rs_cons (r_call (rs_cons (r_v rfl (rs_cons (r_lit (rs_nil (r_draw (many := 4) (by omega) hs (by omega) (by decide) (by decide) fun ch s1 hch hs1 => ?_)))))))))
  refine rs_cons (r_lst (rs_nil ⟨by decide, rs_nil ⟨_, rfl, ?_⟩⟩))
  refine s_cons (s_ifs (t_prim (r_p2 (r_v rfl (r_lit ⟨_, eq_n ch 0, _, rfl, ?_⟩)))))
  by_cases hc0 : ch = 0
  · rw [decide_eq_true hc0]
    refine s_cons (s_ret (r_call (rs_cons (r_v rfl (rs_nil ((p_line k k1 k5).runs (by omega) ?_))))))
    exact q _ _ (good_line k1 k5) (hs1.mono (by omega))
  rw [decide_eq_false hc0]
  refine s_nil ?_
  refine s_cons (s_for (i_rng1 (r_p2 (r_lit (r_call (rs_cons (r_v rfl (rs_cons (r_lit (rs_nil (r_draw (many := 5) (by omega) hs1 (by omega) (by decide) (by decide) fun cn s2 hcn hs2 => ⟨_, add_n 2 cn, _, rng1_n (by omega), ?_⟩)))))))))))
  by_cases h3 : ch < 3
  · refine ⟨fun j env s => StAt (m + 2 + j * 6) s ∧ ∃ rs x y, (∀ l ∈ rs, Lot k l) ∧ rs.length ≤ j ∧ env = [some (false, .ref 1), some (false, nD k), x, some (false, nD ch), some (true, .lst (rs.map ti)), y, none], ⟨by simpa using hs2, [], none, none, by simp, by simp, rfl⟩, ?_, ?_⟩
    · rintro j d env s hx ⟨hst, rs, x, y, hl, hlen, rfl⟩
      obtain ⟨hj, rfl⟩ := rg_get hx
      refine ⟨_, rfl, s_cons (s_asg (r_p1 (r_pick (c := 2) (x := 1) (by omega) hst (by omega) (by omega) rfl (fun _ => rfl) (fun _ => rfl) (by decide) (by decide) fun sub s3 hsub hs3 => ⟨ti sub, rfl, _, rfl, ?_⟩)))⟩
      refine s_cons (s_app (r_ife (t_prim (r_p2 (r_v rfl (r_lit ⟨_, lt_n ch 3, _, rfl, ?_⟩))))))
      rw [decide_eq_true h3]
      refine r_v rfl ⟨_, rfl, by rw [List.length_map]; unfold LIM; omega, s_nil ⟨hs3.mono (by omega), rs ++ [sub], some (false, nD j), some (false, ti sub), ?_, by simp; omega, ?_⟩⟩
      · intro l hl2
        rcases List.mem_append.mp hl2 with h | h
        · exact hl l h
        · simp at h; subst h; exact hsub
      · rw [List.map_append]; rfl
    · rintro env s ⟨hst, rs, x, y, hl, hlen, rfl⟩
      rw [List.length_map, List.length_range] at hst hlen
      refine s_cons (s_frz rfl (s_cons (s_ret (r_ife (t_prim (r_p2 (r_v rfl (r_lit ⟨_, lt_n ch 3, _, rfl, ?_⟩))))))))
      rw [decide_eq_true h3]
      refine r_call (rs_cons (r_v rfl (rs_cons (r_v rfl (rs_nil ((p_met k k1 k5 rs hl).runs (by omega) ?_))))))
      exact q _ _ (good_of k1 k5 (fam_metN k1 hl)) (hst.mono (by omega))
  · refine ⟨fun j env s => StAt (m + 2 + j * 6) s ∧ ∃ rs x y, (∀ r ∈ rs, r.1 ≠ [] ∧ r.2 < k ∧ r.1.length ≤ 5) ∧ rs.length ≤ j ∧ env = [some (false, .ref 1), some (false, nD k), x, some (false, nD ch), some (true, .lst (rs.map rD)), y, none], ⟨by simpa using hs2, [], none, none, by simp, by simp, rfl⟩, ?_, ?_⟩
    · rintro j d env s hx ⟨hst, rs, x, y, hl, hlen, rfl⟩
      obtain ⟨hj, rfl⟩ := rg_get hx
      refine ⟨_, rfl, s_cons (s_asg (r_p1 (r_pick (c := 2) (x := 1) (by omega) hst (by omega) (by omega) rfl (fun _ => rfl) (fun _ => rfl) (by decide) (by decide) fun sub s3 hsub hs3 => ⟨ti sub, rfl, _, rfl, ?_⟩)))⟩
      refine s_cons (s_app (r_ife (t_prim (r_p2 (r_v rfl (r_lit ⟨_, lt_n ch 3, _, rfl, ?_⟩))))))
      rw [decide_eq_false h3]
      have fin : ∀ (own : List Nat), own ≠ [] → own.length ≤ 5 → Runs ((Exs.cons (.call 24 (.cons (.v 0) (.cons (.v 1) .nil))) .nil).ev ⟨gv, 0, run T gv 0 n⟩ [some (false, .ref 1), some (false, nD k), some (false, nD j), some (false, nD ch), some (true, .lst (rs.map rD)), some (false, ti sub), none] s3) fun ds st1 => ∃ r, r < k ∧ ds = [nD r] ∧ StAt (m + 2 + j * 6 + k + 1) st1 := by
        intro own _ _
        exact rs_cons (r_call (rs_cons (r_v rfl (rs_cons (r_v rfl (rs_nil (r_draw (by omega) hs3 (by omega) (by omega) (by omega) fun r s4 hr hs4 => rs_nil ⟨r, hr, rfl, hs4⟩)))))))
      have done : ∀ (own : List Nat) (st1 : Store), own ≠ [] → own.length ≤ 5 → ∀ r, r < k → StAt (m + 2 + j * 6 + k + 1) st1 → ∃ (rs' : List (List Nat × Nat)) (x y : Slot), (∀ r ∈ rs', r.1 ≠ [] ∧ r.2 < k ∧ r.1.length ≤ 5) ∧ rs'.length ≤ j + 1 ∧ [some (false, .ref 1), some (false, nD k), some (false, nD j), some (false, nD ch), some (true, .lst (rs.map rD ++ [.tup [ti own, nD r]])), some (false, ti sub), none] = ([some (false, .ref 1), some (false, nD k), x, some (false, nD ch), some (true, .lst (rs'.map rD)), y, none] : Env) := by
        intro own st1 h1 h2 r hr _
        refine ⟨rs ++ [(own, r)], some (false, nD j), some (false, ti sub), ?_, by simp; omega, by rw [List.map_append]; rfl⟩
        intro p hp
        rcases List.mem_append.mp hp with h | h
        · exact hl p h
        · simp at h; subst h; exact ⟨h1, hr, h2⟩
      refine r_tup (rs_cons (r_ife (t_prim (r_p2 (r_v rfl (r_tup (rs_nil ⟨by decide, .bl (!decide (sub = [])), ?_, _, rfl, ?_⟩)))))))
      · show (coEv .ne (ti sub) (ti [])).map D.bl = _
        rw [ne_ti]; rfl
      · by_cases he : sub = []
        · rw [decide_eq_true he]
          refine r_tup (rs_cons (r_lit (rs_nil ⟨one_lim, (fin [0] (by simp) (by simp)).mono fun ds st1 ⟨r, hr, eds, hst1⟩ => ?_⟩)))
          subst eds
          exact ⟨two_lim, _, rfl, by rw [List.length_map]; unfold LIM; omega, s_nil ⟨hst1.mono (by omega), done [0] st1 (by simp) (by simp) r hr hst1⟩⟩
        · rw [decide_eq_false he]
          have hlen5 : sub.length ≤ 5 := Nat.le_trans (lot_len hsub) k5
          refine r_v rfl ((fin sub he hlen5).mono fun ds st1 ⟨r, hr, eds, hst1⟩ => ?_)
          subst eds
          exact ⟨two_lim, _, rfl, by rw [List.length_map]; unfold LIM; omega, s_nil ⟨hst1.mono (by omega), done sub st1 he hlen5 r hr hst1⟩⟩
    · rintro env s ⟨hst, rs, x, y, hl, hlen, rfl⟩
      rw [List.length_map, List.length_range] at hst hlen
      refine s_cons (s_frz rfl (s_cons (s_ret (r_ife (t_prim (r_p2 (r_v rfl (r_lit ⟨_, lt_n ch 3, _, rfl, ?_⟩))))))))
      rw [decide_eq_false h3]
      refine r_call (rs_cons (r_v rfl (rs_cons (r_v rfl (rs_nil ((p_rules k k5 rs (by omega) fun r hr => Nat.le_trans (hl r hr).2.2 (by decide)).runs (by omega) ?_))))))
      exact q _ _ (good_rules k1 k5 fun r hr => ⟨(hl r hr).1, (hl r hr).2.1⟩) (hst.mono (by omega))
end K21
set_option Elab.async false
set_option linter.all false
set_option maxRecDepth 100000
set_option maxHeartbeats 8000000
/-! Km6: k21: drawn plots, grounds, words. -/
namespace K21
open Dp

structure Plot (t : Nat) (gs : List (List Nat)) : Prop where
  t1 : 1 ≤ t
  t5 : t ≤ 5
  ne : gs ≠ []
  up : Up gs
  lots : ∀ g ∈ gs, Lot t g
  anti : ∀ a ∈ gs, ∀ b ∈ gs, a ≠ b → ¬ ∀ x ∈ a, x ∈ b
theorem ne_tt (a b : List Nat) {st : Store} : prEv st (.co .ne) [ti a, ti b] = some (.bl (!decide (a = b))) := by
  show (coEv .ne (ti a) (ti b)).map D.bl = _
  rw [ne_ti]; rfl
theorem notin_p (p : Nat) (l : List Nat) {st : Store} : prEv st (.co .notin) [nD p, ti l] = some (.bl (!decide (p ∈ l))) := by
  show (coEv .notin (nD p) (ti l)).map D.bl = _
  rw [nin_n]; rfl
theorem in_p (p : Nat) (l : List Nat) {st : Store} : prEv st (.co .inn) [nD p, ti l] = some (.bl (decide (p ∈ l))) := by
  show (coEv .inn (nD p) (ti l)).map D.bl = _
  rw [in_n]; rfl
theorem eqnil_ti (l : List (List Nat)) {st : Store} : prEv st (.co .eq) [.lst (l.map ti), .lst []] = some (.bl l.isEmpty) := by
  show (coEv .eq _ _).map D.bl = _
  rw [eq_nil (lay_tis l)]
  cases l <;> rfl
theorem nenil_ti (l : List (List Nat)) {st : Store} : prEv st (.co .ne) [.lst (l.map ti), .lst []] = some (.bl (!l.isEmpty)) := by
  show (coEv .ne _ _).map D.bl = _
  rw [ne_nil (lay_tis l)]
  cases l <;> rfl
theorem eqnil_n (l : List Nat) {st : Store} : prEv st (.co .eq) [.lst (l.map nD), .lst []] = some (.bl l.isEmpty) := by
  show (coEv .eq _ _).map D.bl = _
  rw [eq_nil (lay_ns l)]
  cases l <;> rfl
theorem nenil_n (l : List Nat) {st : Store} : prEv st (.co .ne) [.lst (l.map nD), .lst []] = some (.bl (!l.isEmpty)) := by
  show (coEv .ne _ _).map D.bl = _
  rw [ne_nil (lay_ns l)]
  cases l <;> rfl
/-- above c in l -/
def above (l : List (List Nat)) (c : List Nat) : List (List Nat) := l.filter fun o => !decide (o = c) && c.all fun p => decide (p ∈ o)
def bestN (l : List (List Nat)) : List (List Nat) := l.filter fun c => (above l c).isEmpty
def plotN (crews : List (List Nat)) : List (List Nat) := bestN (srt (once [] crews))
theorem max_len : ∀ {l : List (List Nat)}, l ≠ [] → ∃ g ∈ l, ∀ x ∈ l, x.length ≤ g.length
  | [], h => (h rfl).elim
  | [a], _ => ⟨a, by simp, by simp⟩
  | a :: b :: r, _ => by
    obtain ⟨g, hg, h⟩ := max_len (l := b :: r) (by simp)
    by_cases q : g.length ≤ a.length
    · refine ⟨a, List.mem_cons_self, fun x hx => ?_⟩
      rcases List.mem_cons.mp hx with rfl | hx
      · exact Nat.le_refl _
      · exact Nat.le_trans (h x hx) q
    · refine ⟨g, List.mem_cons_of_mem _ hg, fun x hx => ?_⟩
      rcases List.mem_cons.mp hx with rfl | hx
      · omega
      · exact h x hx
theorem Lot.nodup {k : Nat} {a : List Nat} (h : Lot k a) : a.Nodup := h.1.imp fun q => Nat.ne_of_lt q
theorem sub_eq {k : Nat} {a b : List Nat} (ha : Lot k a) (hb : Lot k b) (h : ∀ x ∈ a, x ∈ b) (hl : b.length ≤ a.length) : a = b := by
  refine lot_ext ha hb fun x => ⟨h x, fun hx => Classical.byContradiction fun hn => ?_⟩
  have := nodup_le (l := x :: a) (m := b) (List.nodup_cons.mpr ⟨hn, ha.nodup⟩) fun y hy => (List.mem_cons.mp hy).elim (fun z => z ▸ hx) (h y)
  simp at this
  omega
theorem mem_above {l : List (List Nat)} {c o : List Nat} : o ∈ above l c ↔ o ∈ l ∧ o ≠ c ∧ ∀ p ∈ c, p ∈ o := by simp [above]
theorem plot_of {t : Nat} (t1 : 1 ≤ t) (t5 : t ≤ 5) {crews : List (List Nat)} (hne : crews ≠ []) (hl : ∀ c ∈ crews, Lot t c) : Plot t (plotN crews) := by
  have m : ∀ {x : List Nat}, x ∈ srt (once [] crews) ↔ x ∈ crews := fun {x} => by rw [mem_srt, mem_once]; simp
  have up : Up (srt (once [] crews)) := up_srt (nodup_once _ _ (by simp))
  have hl' : ∀ c ∈ srt (once [] crews), Lot t c := fun c hc => hl c (m.mp hc)
  have hne' : srt (once [] crews) ≠ [] := fun z => by
    obtain ⟨x, r, e⟩ := List.exists_cons_of_ne_nil hne
    have : x ∈ srt (once [] crews) := m.mpr (by rw [e]; exact List.mem_cons_self)
    rw [z] at this
    simp at this
  unfold plotN
  generalize srt (once [] crews) = l at up hl' hne'
  have mb : ∀ {x : List Nat}, x ∈ bestN l ↔ x ∈ l ∧ ∀ o ∈ l, o ≠ x → ¬ ∀ p ∈ x, p ∈ o := fun {x} => by
    unfold bestN
    rw [List.mem_filter, List.isEmpty_iff]
    refine and_congr_right fun _ => ⟨fun h o ho hn hs => ?_, fun h => List.eq_nil_iff_forall_not_mem.mpr fun o ho => ?_⟩
    · have := mem_above.mpr ⟨ho, hn, hs⟩
      rw [h] at this
      simp at this
    · obtain ⟨h1, h2, h3⟩ := mem_above.mp ho
      exact h o h1 h2 h3
  refine ⟨t1, t5, fun z => ?_, up.sublist List.filter_sublist, fun g hg => hl' g (mb.mp hg).1, fun a ha b hb hn hs => (mb.mp ha).2 b (mb.mp hb).1 (fun z => hn z.symm) hs⟩
  obtain ⟨g, hg, hmax⟩ := max_len hne'
  have : g ∈ bestN l := mb.mpr ⟨hg, fun o ho hn hs => hn (sub_eq (hl' g hg) (hl' o ho) hs (hmax o ho)).symm⟩
  rw [z] at this
  simp at this
theorem p_plot (t : Nat) (crews : List (List Nat)) (h : crews.length ≤ 2000) (hl : ∀ c ∈ crews, c.length ≤ 100) : Pure 36 2 [nD t, .lst (crews.map ti)] (spD t (plotN crews)) := by
  refine pure_of fun n st hn => run_of (fd := ⟨2, 6, b_36⟩) rfl rfl ?_
  obtain ⟨vs, hd⟩ := dict_ti crews (st := st)
  have ls : (srt (once [] crews)).length ≤ 2000 := by rw [len_srt]; exact Nat.le_trans (len_once _ _) (by simpa using h)
  have hl' : ∀ c ∈ srt (once [] crews), c.length ≤ 100 := fun c hc => hl c (by rw [mem_srt, mem_once] at hc; simpa using hc)
  refine s_cons (s_asg (r_p1 (r_p1 (r_lcP crews ti (fun _ => true) (fun l => .tup [ti l, .bl true]) rfl (by unfold LIM; omega) (fun a ha => ⟨_, rfl, rfl, fun _ => ?_⟩) ⟨.dct ((once [] crews).map ti) vs, ?_, .lst ((srt (once [] crews)).map ti), ?_, _, rfl, ?_⟩))))
  · exact Runs.eq (r_tup (rs_cons (r_v rfl (rs_cons (r_lit (rs_nil ⟨two_lim, rfl, rfl⟩))))))
  · rw [filt_true]; exact hd
  · show srtEv st [.dct ((once [] crews).map ti) vs] = _
    unfold srtEv
    simp only [srtOk_ti, if_true, srt_ti]
  · unfold plotN
    generalize srt (once [] crews) = l at ls hl'
    refine s_cons (s_asg (r_lcP l ti (fun c => (above l c).isEmpty) ti rfl (by unfold LIM; omega) (fun c hc => ⟨_, rfl, ?_, fun _ => rfl⟩) ⟨_, rfl, ?_⟩))
    · refine Runs.eq (a_one (t_prim (r_p2 (r_lcP l ti (fun o => !decide (o = c) && c.all fun p => decide (p ∈ o)) ti rfl (by unfold LIM; omega) (fun o ho => ⟨_, rfl, ?_, fun _ => rfl⟩) (r_lst (rs_nil ⟨by decide, _, eqnil_ti _, _, rfl, rfl, rfl⟩))))))
      refine Runs.eq (a_one (t_and (t_prim (r_p2 (r_v rfl (r_v rfl ⟨_, ne_tt o c, _, rfl, ?_⟩))))))
      cases !decide (o = c) with
      | false => exact ⟨rfl, rfl⟩
      | true => exact t_call (r_call (rs_cons (r_v rfl (rs_cons (r_v rfl (rs_nil (has_runs hn (hl' c hc) ⟨_, rfl, rfl, rfl⟩)))))))
    · exact s_cons (s_ret (r_tup (rs_cons (r_v rfl (rs_cons (r_p1 (r_v rfl ⟨_, rfl, rs_nil ⟨two_lim, rfl, rfl⟩⟩)))))))
theorem r_bplot {n m t : Nat} {st : Store} {Q : D → Store → Prop} (hn : 3 ≤ n) (hs : StAt m st) (hm : m ≤ 800000) (t1 : 1 ≤ t) (t5 : t ≤ 5) (q : ∀ gs st', Plot t gs → StAt (m + 20) st' → Q (spD t gs) st') : Runs (run T gv 0 n 37 [.ref 1, nD t] st) Q := by
  obtain ⟨n, rfl⟩ : ∃ j, n = j + 1 := ⟨n - 1, by omega⟩
  refine run_of (fd := ⟨2, 7, b_37⟩) rfl rfl ?_
  refine s_cons (s_ifs (t_prim (r_p2 (r_call (rs_cons (r_v rfl (rs_cons (r_lit (rs_nil (r_draw (many := 3) (by omega) hs (by omega) (by decide) (by decide) fun ch s1 hch hs1 => r_lit ⟨_, eq_n ch 0, _, rfl, ?_⟩))))))))))
  cases decide (ch = 0) with
  | true =>
    refine s_cons (s_asg (r_call (rs_cons (r_v rfl (rs_cons (r_lit (rs_nil (r_draw (many := 3) (by omega) hs1 (by omega) (by decide) (by decide) fun mn s2 hmn hs2 => ⟨_, rfl, ?_⟩))))))))
    have lr : (srt (rows t)).length ≤ 1024 := by rw [len_srt, len_rows]; exact pow_lim (by omega)
    refine s_cons (s_ret (r_call (rs_cons (r_v rfl (rs_cons ?_)))))
    refine r_lcP (srt (rows t)) ti (fun c => decide (c.length ≤ mn)) ti ?_ (by unfold LIM; omega) (fun c hc => ⟨_, rfl, ?_, fun _ => rfl⟩) (rs_nil ((p_plot t ((srt (rows t)).filter fun c => decide (c.length ≤ mn)) (Nat.le_trans (List.length_filter_le _ _) (by omega)) ?_).runs (by omega) ?_))
    · exact Runs.eq (i_ex (r_call (rs_cons (r_v rfl (rs_nil ((p_lots t (by omega)).runs (by omega) ⟨_, rfl, rfl, rfl⟩))))))
    · refine Runs.eq (a_one (t_prim (r_p2 (r_p1 (r_v rfl ⟨nD (c.map nD).length, rfl, r_v rfl ⟨_, le_n _ _, _, rfl, ?_, rfl⟩⟩)))))
      rw [List.length_map]
    · intro c hc
      have := lot_len (mem_rows.mp (mem_srt.mp (List.mem_filter.mp hc).1))
      omega
    · refine q _ _ (plot_of t1 t5 (fun z => ?_) fun c hc => mem_rows.mp (mem_srt.mp (List.mem_filter.mp hc).1)) (hs2.mono (by omega))
      have : [] ∈ (srt (rows t)).filter fun c => decide (c.length ≤ mn) := List.mem_filter.mpr ⟨mem_srt.mpr (mem_rows.mpr Lot.nil), by simp⟩
      rw [z] at this
      simp at this
  | false =>
    refine s_nil ?_
    refine s_cons (s_own (r_lst (rs_nil ⟨by decide, ?_⟩)))
    refine s_cons (s_for (i_rng1 (r_p2 (r_lit (r_call (rs_cons (r_v rfl (rs_cons (r_lit (rs_nil (r_draw (many := 3) (by omega) hs1 (by omega) (by decide) (by decide) fun cn s2 hcn hs2 => ⟨_, add_n 1 cn, _, rng1_n (by omega), ?_⟩)))))))))))
    refine ⟨fun j env s => StAt (m + 2 + j * 5) s ∧ ∃ rs x, (∀ l ∈ rs, Lot t l) ∧ rs.length = j ∧ env = [some (false, .ref 1), some (false, nD t), some (true, .lst (rs.map ti)), x, none, none, none], ⟨by simpa using hs2, [], none, by simp, by simp, rfl⟩, ?_, ?_⟩
    · rintro j d env s hx ⟨hst, rs, x, hl, hlen, rfl⟩
      obtain ⟨hj, rfl⟩ := rg_get hx
      refine ⟨_, rfl, s_cons (s_app (r_p1 (r_pick (c := 3) (x := 0) (by omega) hst (by omega) (by omega) rfl (fun _ => rfl) (fun _ => rfl) (by decide) (by decide) fun sub s3 hsub hs3 => ⟨ti sub, rfl, _, rfl, by rw [List.length_map]; unfold LIM; omega, s_nil ⟨hs3.mono (by omega), rs ++ [sub], some (false, nD j), ?_, by simp; omega, by rw [List.map_append]; rfl⟩⟩)))⟩
      intro l hl2
      rcases List.mem_append.mp hl2 with h | h
      · exact hl l h
      · simp at h; subst h; exact hsub
    · rintro env s ⟨hst, rs, x, hl, hlen, rfl⟩
      rw [List.length_map, List.length_range] at hst hlen
      refine s_cons (s_frz rfl (s_cons (s_ret (r_call (rs_cons (r_v rfl (rs_cons (r_v rfl (rs_nil ?_)))))))))
      refine (p_plot t rs (by omega) fun c hc => by have := lot_len (hl c hc); omega).runs (by omega) ?_
      exact q _ _ (plot_of t1 t5 (fun z => by rw [z] at hlen; simp at hlen; omega) hl) (hst.mono (by omega))
end K21
set_option Elab.async false
set_option linter.all false
set_option maxRecDepth 100000
set_option maxHeartbeats 8000000
/-! Km7: k21: drawn grounds, words; the state. -/
namespace K21
open Dp

theorem len_n {α : Type} (f : α → D) (l : List α) {st : Store} : prEv st (.bi .len) [.tup (l.map f)] = some (nD l.length) := by
  show some (D.int ((l.map f).length : Int)) = _
  rw [List.length_map]; rfl
theorem lenl_n {α : Type} (f : α → D) (l : List α) {st : Store} : prEv st (.bi .len) [.lst (l.map f)] = some (nD l.length) := by
  show some (D.int ((l.map f).length : Int)) = _
  rw [List.length_map]; rfl
theorem sub_n {α : Type} (f : α → D) {l : List α} {i : Nat} {x : α} (h : l[i]? = some x) {st : Store} : prEv st .sub [.tup (l.map f), nD i] = some (f x) := by
  show atD (l.map f) (i : Int) = _
  unfold atD
  have hi := (List.getElem?_eq_some_iff.mp h).1
  rw [List.length_map, ix_n hi, Option.bind_some, List.getElem?_map, h]
  rfl
theorem r_of {α : Type} {n m : Nat} {st : Store} {f : α → D} {xs : List α} {Q : D → Store → Prop} (hn : 3 ≤ n) (hs : StAt m st) (hm : m ≤ 1000000) (h0 : xs ≠ []) (h1 : xs.length ≤ 1000) (q : ∀ x st', x ∈ xs → StAt (m + 1) st' → Q (f x) st') : Runs (run T gv 0 n 25 [.ref 1, .tup (xs.map f)] st) Q := by
  obtain ⟨n, rfl⟩ : ∃ j, n = j + 1 := ⟨n - 1, by omega⟩
  have hp : 0 < xs.length := by cases xs with | nil => exact (h0 rfl).elim | cons _ _ => simp
  refine run_of (fd := ⟨2, 2, b_25⟩) rfl rfl ?_
  refine s_cons (s_ret (r_p2 (r_v rfl (r_call (rs_cons (r_v rfl (rs_cons (r_p1 (r_v rfl ⟨_, len_n f xs, rs_nil (r_draw (by omega) hs hm hp h1 fun r s1 hr hs1 => ?_)⟩)))))))))
  have hx : xs[r]? = some xs[r] := List.getElem?_eq_getElem hr
  exact ⟨_, sub_n f hx, q _ _ (List.getElem_mem hr) hs1⟩
/-- the nonempty ones -/
def everyN (ls : List (List Nat)) : List (List Nat) := ls.filter fun l => !decide (l = [])
structure Grd (ls gs : List (List Nat)) : Prop where
  ne : gs ≠ []
  sub : gs.Sublist (everyN ls)
theorem every_ne {k : Nat} {ls : List (List Nat)} (g : Good k ls) : everyN ls ≠ [] := fun z => by
  have : List.range k ∈ everyN ls := List.mem_filter.mpr ⟨g.full, by
    have := g.k1
    simp; omega⟩
  rw [z] at this
  simp at this
theorem good_len {k : Nat} {ls : List (List Nat)} (g : Good k ls) : ls.length ≤ 32 := Nat.le_trans (lots_le g.up.nodup g.lots) (Nat.le_trans (Nat.pow_le_pow_right (by decide) g.k5) (by decide))
theorem r_grounds {n m k : Nat} {ls : List (List Nat)} {st : Store} {Q : D → Store → Prop} (hn : 3 ≤ n) (hs : StAt m st) (hm : m ≤ 800000) (g : Good k ls) (q : ∀ gs st', Grd ls gs → StAt (m + 40) st' → Q (tl gs) st') : Runs (run T gv 0 n 42 [.ref 1, spD k ls] st) Q := by
  obtain ⟨n, rfl⟩ : ∃ j, n = j + 1 := ⟨n - 1, by omega⟩
  have ll := good_len g
  have le : (everyN ls).length ≤ 32 := Nat.le_trans (List.length_filter_le _ _) ll
  refine run_of (fd := ⟨2, 5, b_42⟩) rfl rfl ?_
  refine s_cons (s_asg (r_lcP ls ti (fun l => !decide (l = [])) ti rfl (by unfold LIM; omega) (fun l hl => ⟨_, rfl, ?_, fun _ => rfl⟩) ⟨_, rfl, ?_⟩))
  · exact Runs.eq (a_one (t_prim (r_p2 (r_v rfl (r_tup (rs_nil ⟨by decide, _, ne_tt l [], _, rfl, rfl, rfl⟩))))))
  refine s_cons (s_asg (r_lc (i_ex (r_v rfl ⟨_, rfl, fun j acc s => ∃ sub, acc = sub.map ti ∧ sub.Sublist ((everyN ls).take j) ∧ StAt (m + j) s, by rw [List.length_map]; show (everyN ls).length ≤ LIM; unfold LIM; omega, ⟨[], rfl, by simp, hs⟩, ?_, ?_⟩))))
  · rintro j d acc s hx ⟨sub, rfl, hsub, hst⟩
    obtain ⟨l, hl, rfl⟩ := map_get (l := everyN ls) hx
    have hj := (List.getElem?_eq_some_iff.mp hl).1
    refine ⟨_, rfl, a_one (t_prim (r_p2 (r_call (rs_cons (r_v rfl (rs_cons (r_lit (rs_nil (r_draw (many := 3) (by omega) hst (by omega) (by decide) (by decide) fun r s' hr hs' => r_lit ⟨_, gt_n r 0, _, rfl, ?_⟩)))))))))⟩
    cases decide (0 < r) with
    | true =>
      refine r_v rfl ⟨sub ++ [l], by rw [List.map_append]; rfl, ?_, by rw [← Nat.add_assoc]; exact hs'⟩
      rw [tk_succ hl]
      exact hsub.append (List.Sublist.refl _)
    | false =>
      refine ⟨sub, rfl, ?_, by rw [← Nat.add_assoc]; exact hs'⟩
      rw [tk_succ hl]
      exact hsub.trans (List.sublist_append_left _ _)
  · rintro acc s ⟨sub, rfl, hsub, hst⟩ _
    rw [List.length_map] at hst hsub
    have hst : StAt (m + (everyN ls).length) s := hst
    have hsub : sub.Sublist ((everyN ls).take (everyN ls).length) := hsub
    rw [List.take_length] at hsub
    have all : Q (tl (everyN ls)) s := q _ _ ⟨every_ne g, List.Sublist.refl _⟩ (hst.mono (by omega))
    refine ⟨_, rfl, s_cons (s_ret (r_ife (t_or (t_prim (r_p2 (r_v rfl (r_lst (rs_nil ⟨by decide, _, eqnil_ti sub, _, rfl, ?_⟩))))))))⟩
    cases he : sub.isEmpty with
    | true => exact r_p1 (r_v rfl ⟨_, rfl, all⟩)
    | false =>
      refine t_prim (r_p2 (r_call (rs_cons (r_v rfl (rs_cons (r_lit (rs_nil (r_draw (many := 3) (by omega) hst (by omega) (by decide) (by decide) fun r s' hr hs' => r_lit ⟨_, eq_n r 0, _, rfl, ?_⟩))))))))
      cases decide (r = 0) with
      | true => exact r_p1 (r_v rfl ⟨_, rfl, q _ _ ⟨every_ne g, List.Sublist.refl _⟩ (hs'.mono (by omega))⟩)
      | false => exact r_p1 (r_v rfl ⟨_, rfl, q _ _ ⟨fun z => by rw [z] at he; simp at he, hsub⟩ (hs'.mono (by omega))⟩)
structure Wrd (k t : Nat) (ws : List Nat) : Prop where
  len : ws.length = t
  lt : ∀ w ∈ ws, w < k
theorem grd_lot {k : Nat} {ls gs : List (List Nat)} (g : Good k ls) (h : Grd ls gs) : ∀ l ∈ gs, Lot k l ∧ l ≠ [] ∧ l ∈ ls := fun l hl => by
  have := List.mem_filter.mp (h.sub.subset hl)
  exact ⟨g.lots l this.1, by simpa using this.2, this.1⟩
theorem grd_len {k : Nat} {ls gs : List (List Nat)} (g : Good k ls) (h : Grd ls gs) : gs.length ≤ 32 := Nat.le_trans h.sub.length_le (Nat.le_trans (List.length_filter_le _ _) (good_len g))
theorem plot_len {t : Nat} {gs : List (List Nat)} (p : Plot t gs) : gs.length ≤ 32 := Nat.le_trans (lots_le p.up.nodup p.lots) (Nat.le_trans (Nat.pow_le_pow_right (by decide) p.t5) (by decide))
theorem r_words {n m k t : Nat} {ls gs pl : List (List Nat)} {st : Store} {Q : D → Store → Prop} (hn : 4 ≤ n) (hs : StAt m st) (hm : m ≤ 800000) (g : Good k ls) (hg : Grd ls gs) (p : Plot t pl) (q : ∀ ws st', Wrd k t ws → StAt (m + 20) st' → Q (ti ws) st') : Runs (run T gv 0 n 41 [.ref 1, nD k, tl gs, spD t pl] st) Q := by
  obtain ⟨n, rfl⟩ : ∃ j, n = j + 1 := ⟨n - 1, by omega⟩
  have k1 := g.k1
  have k5 := g.k5
  have t5 := p.t5
  refine run_of (fd := ⟨4, 9, b_41⟩) rfl rfl ?_
  refine s_cons (s_par (rs_cons (r_call (rs_cons (r_v rfl (rs_cons (r_v rfl (rs_nil (r_of (f := ti) (xs := gs) (by omega) hs (by omega) hg.ne (by have := grd_len g hg; omega) fun gr s1 hgr hs1 => ?_)))))))))
  refine rs_cons (r_call (rs_cons (r_v rfl (rs_cons (r_p2 (r_v rfl (r_lit ⟨tl pl, rfl, rs_nil (r_of (f := ti) (xs := pl) (by omega) hs1 (by omega) p.ne (by have := plot_len p; omega) fun gg s2 hgg hs2 => rs_nil ⟨_, rfl, ?_⟩)⟩)))))))
  obtain ⟨lg, gne, _⟩ := grd_lot g hg gr hgr
  refine s_cons (s_own (r_lst (rs_nil ⟨by decide, ?_⟩)))
  refine s_cons (s_for (i_rng1 (r_p2 (r_v rfl (r_lit ⟨nD t, rfl, _, rng1_n (by omega), fun j env s => StAt (m + 2 + j * 3) s ∧ ∃ ws x y, (∀ w ∈ ws, w < k) ∧ ws.length = j ∧ env = [some (false, .ref 1), some (false, nD k), some (false, tl gs), some (false, spD t pl), some (true, .lst (ws.map nD)), x, some (false, ti gr), some (false, ti gg), y], ⟨by simpa using hs2, [], none, none, by simp, by simp, rfl⟩, ?_, ?_⟩)))))
  · rintro j d env s hx ⟨hst, ws, x, y, hl, hlen, rfl⟩
    obtain ⟨hj, rfl⟩ := rg_get hx
    have fin : ∀ (pt : Nat) (s1 : Store), pt < k → StAt (m + 2 + j * 3 + 1) s1 → Runs ((St.app 4 (.ife (.prim (.co .gt) (.cons (.call 24 (.cons (.v 0) (.cons (.lit (.int 8)) .nil))) (.cons (.lit (.int 0)) .nil))) (.v 8) (.call 24 (.cons (.v 0) (.cons (.v 1) .nil))))).ex ⟨gv, 0, run T gv 0 n⟩ [some (false, .ref 1), some (false, nD k), some (false, tl gs), some (false, spD t pl), some (true, .lst (ws.map nD)), some (false, nD j), some (false, ti gr), some (false, ti gg), some (false, nD pt)] s1) fun r s2 => r.1 = .next ∧ StAt (m + 2 + (j + 1) * 3) s2 ∧ ∃ (ws' : List Nat) (x y : Slot), (∀ w ∈ ws', w < k) ∧ ws'.length = j + 1 ∧ r.2 = ([some (false, .ref 1), some (false, nD k), some (false, tl gs), some (false, spD t pl), some (true, .lst (ws'.map nD)), x, some (false, ti gr), some (false, ti gg), y] : Env) := by
      intro pt s1 hpt hs1
      have add : ∀ (w : Nat), w < k → ∀ z ∈ ws ++ [w], z < k := fun w hw z hz => by
        rcases List.mem_append.mp hz with h | h
        · exact hl z h
        · simp at h; omega
      refine s_app (r_ife (t_prim (r_p2 (r_call (rs_cons (r_v rfl (rs_cons (r_lit (rs_nil (r_draw (many := 8) (by omega) hs1 (by omega) (by decide) (by decide) fun r s' hr hs' => r_lit ⟨_, gt_n r 0, _, rfl, ?_⟩))))))))))
      cases decide (0 < r) with
      | true => exact r_v rfl ⟨_, rfl, by rw [List.length_map]; unfold LIM; omega, rfl, hs'.mono (by omega), ws ++ [pt], some (false, nD j), some (false, nD pt), add pt hpt, by simp [hlen], by rw [List.map_append]; rfl⟩
      | false => exact r_call (rs_cons (r_v rfl (rs_cons (r_v rfl (rs_nil (r_draw (by omega) hs' (by omega) (by omega) (by omega) fun w s3 hw hs3 => ⟨_, rfl, by rw [List.length_map]; unfold LIM; omega, rfl, hs3.mono (by omega), ws ++ [w], some (false, nD j), some (false, nD pt), add w hw, by simp [hlen], by rw [List.map_append]; rfl⟩))))))
    refine ⟨_, rfl, s_cons (s_asg (r_ife (t_prim (r_p2 (r_v rfl (r_v rfl ⟨_, notin_p j gg, _, rfl, ?_⟩))))))⟩
    cases !decide (j ∈ gg) with
    | true =>
      refine r_call (rs_cons (r_v rfl (rs_cons (r_v rfl (rs_nil (r_of (f := nD) (xs := gr) (by omega) hst (by omega) gne (by have := lot_len lg; omega) fun pt s1 hpt hs1 => ⟨_, rfl, s_cons ((fin pt s1 (lg.2 pt hpt) hs1).mono fun r s2 ⟨e1, h1, h2⟩ => ?_)⟩))))))
      obtain ⟨fl, env2⟩ := r
      cases e1
      exact s_nil ⟨h1, h2⟩
    | false =>
      refine r_call (rs_cons (r_v rfl (rs_cons (r_v rfl (rs_nil (r_draw (by omega) hst (by omega) (by omega) (by omega) fun pt s1 hpt hs1 => ⟨_, rfl, s_cons ((fin pt s1 hpt hs1).mono fun r s2 ⟨e1, h1, h2⟩ => ?_)⟩))))))
      obtain ⟨fl, env2⟩ := r
      cases e1
      exact s_nil ⟨h1, h2⟩
  · rintro env s ⟨hst, ws, x, y, hl, hlen, rfl⟩
    rw [List.length_map, List.length_range] at hst hlen
    exact s_cons (s_ret (r_p1 (r_bor rfl ⟨_, rfl, q ws s ⟨hlen, hl⟩ (hst.mono (by omega))⟩)))
end K21
set_option Elab.async false
set_option linter.all false
set_option maxRecDepth 100000
set_option maxHeartbeats 8000000
/-! Km8: k21: the program's tests of lots. -/
namespace K21
open Dp

theorem sub_nat {a b : Nat} (h : b ≤ a) {st : Store} : prEv st (.bo .sub) [nD a, nD b] = some (nD (a - b)) := by
  show some (D.int ((a : Int) - (b : Int))) = some (D.int ((a - b : Nat) : Int))
  congr 2
  omega
theorem bls_map {α : Type} (g : α → Bool) : ∀ l : List α, blsOf (l.map fun x => D.bl (g x)) = some (l.map g)
  | [] => rfl
  | x :: l => by
    show (blsOf (l.map fun x => D.bl (g x))).map _ = _
    rw [bls_map g l]
    rfl
theorem all_b {α : Type} (g : α → Bool) (l : List α) {st : Store} : prEv st (.bi .all) [.lst (l.map fun x => D.bl (g x))] = some (.bl (l.all g)) := by
  show (blsOf (l.map fun x => D.bl (g x))).map (fun bs => D.bl (bs.all id)) = _
  rw [bls_map]
  simp
theorem any_b {α : Type} (g : α → Bool) (l : List α) {st : Store} : prEv st (.bi .any) [.lst (l.map fun x => D.bl (g x))] = some (.bl (l.any g)) := by
  show (blsOf (l.map fun x => D.bl (g x))).map (fun bs => D.bl (bs.any id)) = _
  rw [bls_map]
  simp
theorem cut_from {α : Type} (f : α → D) (l : List α) (i : Nat) {st : Store} : prEv st (.cut true false) [.tup (l.map f), nD i] = some (.tup ((l.drop i).map f)) := by
  show some (D.tup (cutD (l.map f) (some (i : Int)) none)) = _
  unfold cutD cutAt
  simp only [Option.some.injEq, D.tup.injEq, List.length_map]
  rw [if_neg (by omega), Int.toNat_natCast, List.map_drop]
  by_cases h : i ≤ l.length
  · rw [Nat.min_eq_left h]
    refine List.take_of_length_le ?_
    rw [List.length_drop, List.length_map]
    exact Nat.le_refl _
  · rw [Nat.min_eq_right (by omega), List.drop_of_length_le (by simp), List.drop_of_length_le (by simp; omega)]
    simp
theorem cut_to {α : Type} (f : α → D) (l : List α) (i : Nat) {st : Store} : prEv st (.cut false true) [.tup (l.map f), nD i] = some (.tup ((l.take i).map f)) := by
  show some (D.tup (cutD (l.map f) none (some (i : Int)))) = _
  unfold cutD cutAt
  simp only [Option.some.injEq, D.tup.injEq, List.length_map]
  rw [if_neg (by omega), Int.toNat_natCast, List.map_take, List.drop_zero, Nat.sub_zero]
  by_cases h : i ≤ l.length
  · rw [Nat.min_eq_left h]
  · rw [Nat.min_eq_right (by omega), List.take_of_length_le (by simp), List.take_of_length_le (by simp; omega)]
theorem cutl_to {α : Type} (f : α → D) (l : List α) (i : Nat) {st : Store} : prEv st (.cut false true) [.lst (l.map f), nD i] = some (.lst ((l.take i).map f)) := by
  have := cut_to f l i (st := st)
  show some (D.lst (cutD (l.map f) none (some (i : Int)))) = _
  have h : some (D.tup (cutD (l.map f) none (some (i : Int)))) = some (.tup ((l.take i).map f)) := this
  simp only [Option.some.injEq, D.tup.injEq] at h
  rw [h]
theorem zip_map {α β : Type} (f : α → D) (g : β → D) : ∀ (l : List α) (m : List β), zipD (l.map f) (m.map g) = (l.zip m).map fun p => .tup [f p.1, g p.2]
  | [], _ => by simp [zipD]
  | _ :: _, [] => by simp [zipD]
  | x :: l, y :: m => by
    simp only [List.map_cons, zipD, List.zip_cons_cons, zip_map f g l m]
theorem p_isint (x a b : Nat) : Pure 0 1 [nD x, nD a, nD b] (.bl (decide (a ≤ x) && decide (x ≤ b))) := by
  refine pure_of fun n st _ => run_of (fd := ⟨3, 3, b_0⟩) rfl rfl ?_
  refine s_cons (s_ret (r_and (r_p1 (r_v rfl ⟨.bl true, rfl, true, rfl, ?_⟩))))
  refine r_and (r_not (r_p1 (r_v rfl ⟨.bl false, rfl, false, rfl, true, rfl, ?_⟩)))
  refine r_chain (r_v rfl (r_v rfl ⟨decide ((a : Int) ≤ (x : Int)), rfl, ?_⟩))
  have e1 : decide ((a : Int) ≤ (x : Int)) = decide (a ≤ x) := decide_eq_decide.mpr (by omega)
  have e2 : decide ((x : Int) ≤ (b : Int)) = decide (x ≤ b) := decide_eq_decide.mpr (by omega)
  rw [e1]
  cases decide (a ≤ x) with
  | true => exact r_v rfl ⟨decide ((x : Int) ≤ (b : Int)), rfl, by rw [e2]; rfl, rfl⟩
  | false => exact ⟨rfl, rfl⟩
theorem lot_zip {l : List Nat} (h : l.Pairwise (· < ·)) : (l.zip (l.drop 1)).all (fun p => decide (p.1 < p.2)) = true := by
  cases l with
  | nil => rfl
  | cons x l =>
    show ((x :: l).zip l).all _ = true
    induction l generalizing x with
    | nil => rfl
    | cons y l ih =>
      have h1 := List.pairwise_cons.mp h
      have := h1.1 y List.mem_cons_self
      simp only [List.zip_cons_cons, List.all_cons, Bool.and_eq_true, decide_eq_true_eq]
      exact ⟨this, ih y h1.2⟩
theorem p_islot (k : Nat) (k1 : 1 ≤ k) (k9 : k ≤ 10) (l : List Nat) (h : Lot k l) : Pure 1 2 [nD k, ti l] (.bl true) := by
  refine pure_of fun n st hn => run_of (fd := ⟨2, 4, b_1⟩) rfl rfl ?_
  have ll : l.length ≤ LIM := Nat.le_trans (lot_len h) (by unfold LIM; omega)
  refine s_cons (s_ifs (t_or (t_not (t_prim (r_p1 (r_v rfl ⟨.bl true, rfl, true, rfl, ?_⟩))))))
  refine t_not (t_prim (r_p1 (r_lcP l nD (fun _ => true) (fun x => .bl (decide (0 ≤ x) && decide (x ≤ k - 1))) rfl ll (fun x hx => ⟨_, rfl, rfl, fun _ => ?_⟩) ⟨.bl true, ?_, true, rfl, ?_⟩)))
  · exact Runs.eq (r_call (rs_cons (r_v rfl (rs_cons (r_lit (rs_cons (r_p2 (r_v rfl (r_lit ⟨_, sub_nat k1, rs_nil ((p_isint x 0 (k - 1)).runs hn ⟨rfl, rfl⟩)⟩)))))))))
  · rw [filt_true, all_b]
    have : (l.all fun x => decide (0 ≤ x) && decide (x ≤ k - 1)) = true := by
      simp only [List.all_eq_true, Bool.and_eq_true, decide_eq_true_eq]
      intro x hx
      have := h.2 x hx
      omega
    rw [this]
  · refine s_nil (s_cons (s_ret (r_p1 (r_lcP (l.zip (l.drop 1)) (fun p => .tup [nD p.1, nD p.2]) (fun _ => true) (fun p => .bl (decide (p.1 < p.2))) ?_ (by rw [List.length_zip]; exact Nat.le_trans (Nat.min_le_left _ _) ll) (fun p hp => ⟨_, rfl, rfl, fun _ => ?_⟩) ⟨.bl true, ?_, rfl, rfl⟩))))
    · refine Runs.eq (i_zip (r_v rfl (r_p2 (r_v rfl (r_lit ⟨_, cut_from nD l 1, _, rfl, ?_, rfl⟩)))))
      exact zip_map nD nD l (l.drop 1)
    · exact Runs.eq (r_p2 (r_v rfl (r_v rfl ⟨_, lt_n _ _, rfl, rfl⟩)))
    · rw [filt_true, all_b, lot_zip h.1]
def maskN (l : List Nat) : Nat := (l.map fun p => 2 ^ p).sum
theorem ints_map {α : Type} (g : α → Nat) : ∀ l : List α, intsOf (l.map fun x => nD (g x)) = some (l.map fun x => (g x : Int))
  | [] => rfl
  | x :: l => by
    show (intsOf (l.map fun x => nD (g x))).map _ = _
    rw [ints_map g l]
    rfl
theorem sum_cast {α : Type} (g : α → Nat) : ∀ l : List α, (l.map fun x => (g x : Int)).sum = ((l.map g).sum : Nat)
  | [] => rfl
  | x :: l => by
    simp only [List.map_cons, List.sum_cons, sum_cast g l]
    omega
theorem sum_n {α : Type} (g : α → Nat) (l : List α) {st : Store} : prEv st (.bi .sum) [.lst (l.map fun x => nD (g x))] = some (nD (l.map g).sum) := by
  show (intsOf (l.map fun x => nD (g x))).map (fun is => D.int is.sum) = _
  rw [ints_map, Option.map_some, sum_cast]
  rfl
theorem shl_n {p : Nat} (h : p ≤ 1000) {st : Store} : prEv st (.bo .shl) [nD 1, nD p] = some (nD (2 ^ p)) := by
  show (if 0 ≤ (p : Int) ∧ (p : Int) ≤ 1000000 ∧ (1 : Int).natAbs < 2 ^ 64 then some (D.int (1 * 2 ^ (p : Int).toNat)) else none) = _
  rw [if_pos ⟨by omega, by omega, by decide⟩]
  rw [Int.toNat_natCast, Int.one_mul]
  show some (D.int (2 ^ p)) = some (D.int ((2 ^ p : Nat) : Int))
  rw [Int.natCast_pow]
  rfl
theorem p_mask (l : List Nat) (h : ∀ x ∈ l, x ≤ 1000) (hl : l.length ≤ LIM) : Pure 2 1 [ti l] (nD (maskN l)) := by
  refine pure_of fun n st _ => run_of (fd := ⟨1, 2, b_2⟩) rfl rfl ?_
  refine s_cons (s_ret (r_p1 (r_lcP l nD (fun _ => true) (fun p => nD (2 ^ p)) rfl hl (fun p hp => ⟨_, rfl, rfl, fun _ => ?_⟩) ⟨nD (maskN l), ?_, rfl, rfl⟩)))
  · exact Runs.eq (r_p2 (r_lit (r_v rfl ⟨_, shl_n (h p hp), rfl, rfl⟩)))
  · rw [filt_true, sum_n]
    rfl
theorem p_hasall (crew part : List Nat) (h : part.length ≤ 100) : Pure 4 1 [ti crew, ti part] (.bl (part.all fun p => decide (p ∈ crew))) := by
  refine pure_of fun n st _ => run_of (fd := ⟨2, 3, b_4⟩) rfl rfl ?_
  refine s_cons (s_ret (r_p1 (r_lcP part nD (fun _ => true) (fun p => .bl (decide (p ∈ crew))) rfl (by unfold LIM; omega) (fun p hp => ⟨_, rfl, rfl, fun _ => ?_⟩) ⟨.bl (part.all fun p => decide (p ∈ crew)), ?_, rfl, rfl⟩)))
  · exact Runs.eq (r_p2 (r_v rfl (r_v rfl ⟨_, in_p p crew, rfl, rfl⟩)))
  · rw [filt_true, all_b]
theorem p_ispart (one other : List Nat) (h : one.length ≤ 100) : Pure 7 1 [ti one, ti other] (.bl (one.all fun p => decide (p ∈ other))) := by
  refine pure_of fun n st _ => run_of (fd := ⟨2, 3, b_7⟩) rfl rfl ?_
  refine s_cons (s_ret (r_p1 (r_lcP one nD (fun _ => true) (fun p => .bl (decide (p ∈ other))) rfl (by unfold LIM; omega) (fun p hp => ⟨_, rfl, rfl, fun _ => ?_⟩) ⟨.bl (one.all fun p => decide (p ∈ other)), ?_, rfl, rfl⟩)))
  · exact Runs.eq (r_p2 (r_v rfl (r_v rfl ⟨_, in_p p other, rfl, rfl⟩)))
  · rw [filt_true, all_b]
/-- may these have lied -/
def mayN (gs : List (List Nat)) (c : List Nat) : Bool := gs.any fun g => c.all fun p => decide (p ∈ g)
theorem p_liars (gs : List (List Nat)) (c : List Nat) (h : c.length ≤ 100) (hg : gs.length ≤ 1000) : Pure 8 2 [tl gs, ti c] (.bl (mayN gs c)) := by
  refine pure_of fun n st hn => run_of (fd := ⟨2, 3, b_8⟩) rfl rfl ?_
  refine s_cons (s_ret (r_p1 (r_lcP gs ti (fun _ => true) (fun g => .bl (c.all fun p => decide (p ∈ g))) rfl (by unfold LIM; omega) (fun g hg => ⟨_, rfl, rfl, fun _ => ?_⟩) ⟨.bl (mayN gs c), ?_, rfl, rfl⟩)))
  · exact Runs.eq (r_call (rs_cons (r_v rfl (rs_cons (r_v rfl (rs_nil ((p_ispart c g h).runs hn ⟨rfl, rfl⟩)))))))
  · rw [filt_true, any_b]
    rfl
end K21
set_option Elab.async false
set_option linter.all false
set_option maxRecDepth 100000
set_option maxHeartbeats 8000000
/-! Km9: k21: the program takes good spaces. -/
namespace K21
open Dp

theorem r_dcP {β : Type} {P : Par} {env : Env} {st : Store} {own : List Nat} {tg : Tg} {it : It} {ke e : Ex} {Q : D → Store → Prop} (ys : List β) (f kf g : β → D) (hi : it.ev P env st = .ok (ys.map f) st) (hl : ys.length ≤ LIM) (hk : ∀ y ∈ ys, (kf y).skey = true)
    (hs : ∀ y ∈ ys, ∃ env1, tg.put (f y) (wipeE env own) = some env1 ∧ ke.ev P env1 st = .ok (kf y) st ∧ e.ev P env1 st = .ok (g y) st)
    (q : Q (.dct (dputs [] [] (ys.map fun y => (kf y, g y))).1 (dputs [] [] (ys.map fun y => (kf y, g y))).2) st) : Runs ((Ex.dc own tg it .nil ke e).ev P env st) Q := by
  unfold Ex.ev
  refine runs_bind (runs_of hi (runs_bind (runs_noExc ?_)))
  refine (lcLoop_runs (fun j acc s => s = st ∧ acc = (ys.take j).map fun y => .tup [kf y, g y]) (ys.map f) 0 [] st (fun j x acc s hx ⟨es, ea⟩ => ?_) ⟨rfl, rfl⟩).mono fun r s ⟨⟨es, er⟩, _⟩ => ?_
  · obtain ⟨y, hy, rfl⟩ := map_get hx
    obtain ⟨env1, h1, h2, h3⟩ := hs y (List.mem_of_getElem? hy)
    subst es ea
    simp only [h1]
    refine runs_bind (runs_of (a := true) (by unfold Exs.all; rfl) ?_)
    refine runs_bind (runs_of h2 (runs_bind (runs_of h3 (runs_ok ⟨⟨rfl, ?_⟩, Nat.le_refl _⟩))))
    rw [Nat.zero_add, tk_succ hy, List.map_append]
    rfl
  · subst es
    rw [Nat.zero_add, List.length_map, List.take_length, List.nil_append] at er
    subst er
    have pr : ∀ l : List β, pairsOf (l.map fun y => .tup [kf y, g y]) = some (l.map fun y => (kf y, g y)) := by
      intro l
      induction l with
      | nil => rfl
      | cons x l ih =>
        show (pairsOf (l.map fun y => .tup [kf y, g y])).map _ = _
        rw [ih]; rfl
    refine runs_opt (a := .dct (dputs [] [] (ys.map fun y => (kf y, g y))).1 (dputs [] [] (ys.map fun y => (kf y, g y))).2) ?_ q
    rw [pr, Option.bind_some, if_pos]
    rw [Bool.and_eq_true, decide_eq_true_eq, List.length_map]
    refine ⟨?_, hl⟩
    simp only [List.map_map, List.all_map, List.all_eq_true, Function.comp]
    exact hk
theorem dputs_n {v : D} : ∀ (ms acc : List Nat) (vs : List D), ∃ ks : List Nat, (dputs (acc.map nD) vs (ms.map fun m => (nD m, v))).1 = ks.map nD ∧ ∀ x, x ∈ ks ↔ x ∈ acc ∨ x ∈ ms
  | [], acc, vs => ⟨acc, rfl, by simp⟩
  | m :: ms, acc, vs => by
    rw [List.map_cons]
    unfold dputs dput dhas
    rw [any_n]
    by_cases h : m ∈ acc
    · rw [decide_eq_true h, if_pos rfl]
      obtain ⟨ks, h1, h2⟩ := dputs_n (v := v) ms acc (dset (acc.map nD) vs (nD m) v)
      refine ⟨ks, h1, fun x => ?_⟩
      rw [h2 x, List.mem_cons]
      constructor
      · rintro (q | q)
        · exact .inl q
        · exact .inr (.inr q)
      · rintro (q | q | q)
        · exact .inl q
        · exact .inl (q ▸ h)
        · exact .inr q
    · rw [decide_eq_false h, if_neg Bool.false_ne_true]
      obtain ⟨ks, h1, h2⟩ := dputs_n (v := v) ms (acc ++ [m]) (vs ++ [v])
      rw [List.map_append] at h1
      refine ⟨ks, h1, fun x => ?_⟩
      rw [h2 x]
      simp only [List.mem_append, List.mem_cons, List.not_mem_nil, or_false, or_assoc]
theorem dall_n (x : Nat) (ks : List Nat) : (nD x :: ks.map nD).all D.skey = true := by
  simp only [List.all_cons, List.all_map, Bool.and_eq_true, List.all_eq_true, Function.comp]
  exact ⟨rfl, fun _ _ => rfl⟩
theorem din_n (x : Nat) (ks : List Nat) (vs : List D) {st : Store} : prEv st (.co .inn) [nD x, .dct (ks.map nD) vs] = some (.bl (decide (x ∈ ks))) := by
  show (if (nD x :: ks.map nD).all D.skey = true then some (dhas (ks.map nD) (nD x)) else none).map D.bl = _
  rw [if_pos (dall_n x ks)]
  unfold dhas
  rw [any_n]; rfl
theorem dnin_n (x : Nat) (ks : List Nat) (vs : List D) {st : Store} : prEv st (.co .notin) [nD x, .dct (ks.map nD) vs] = some (.bl (!decide (x ∈ ks))) := by
  show (if (nD x :: ks.map nD).all D.skey = true then some (!dhas (ks.map nD) (nD x)) else none).map D.bl = _
  rw [if_pos (dall_n x ks)]
  unfold dhas
  rw [any_n]; rfl
theorem enum_map {α : Type} {f : α → D} {l : List α} {j : Nat} {x : D} (h : (enumFrom 0 (l.map f))[j]? = some x) : ∃ y, l[j]? = some y ∧ x = .tup [nD j, f y] := by
  rw [enum_get, List.getElem?_map] at h
  cases q : l[j]? with
  | none => rw [q] at h; cases h
  | some y =>
    rw [q] at h
    refine ⟨y, rfl, (Option.some.inj h).symm.trans ?_⟩
    show D.tup [.int (0 + (j : Int)), f y] = D.tup [.int (j : Int), f y]
    rw [Int.zero_add]
theorem lot5 {k : Nat} (h : k ≤ 5) {a : List Nat} (ha : Lot k a) : a ∈ rows 5 := mem_rows.mpr ⟨ha.1, fun x hx => by have := ha.2 x hx; omega⟩
theorem band_all : ((rows 5).all fun a => (rows 5).all fun b => decide (PySem.Builtin.bitAnd (maskN a : Int) (maskN b : Int) = (maskN (meet a b) : Int))) = true := by decide +kernel
theorem band_n {k : Nat} (h : k ≤ 5) {a b : List Nat} (ha : Lot k a) (hb : Lot k b) {st : Store} : prEv st (.bo .band) [nD (maskN a), nD (maskN b)] = some (nD (maskN (meet a b))) := by
  have := List.all_eq_true.mp (List.all_eq_true.mp band_all a (lot5 h ha)) b (lot5 h hb)
  rw [decide_eq_true_eq] at this
  show some (D.int (PySem.Builtin.bitAnd (maskN a : Int) (maskN b : Int))) = _
  rw [this]; rfl
theorem mask_full : ∀ k, k ≤ 5 → maskN (List.range k) = 2 ^ k - 1
  | 0, _ => rfl
  | 1, _ => rfl
  | 2, _ => rfl
  | 3, _ => rfl
  | 4, _ => rfl
  | 5, _ => rfl
  | n + 6, h => by omega
def fm (l : List Nat) : D := nD (maskN l)
theorem p_space (k : Nat) (ls : List (List Nat)) (g : Good k ls) : Pure 3 3 [spD k ls] (spD k ls) := by
  have k1 := g.k1
  have k5 := g.k5
  have ll := good_len g
  refine pure_of fun n st hn => run_of (fd := ⟨1, 9, b_3⟩) rfl rfl ?_
  refine s_cons (s_ifs (t_or (t_not (t_prim (r_p1 (r_v rfl ⟨.bl true, rfl, true, rfl, ?_⟩))))))
  refine t_or (t_prim (r_p2 (r_p1 (r_v rfl ⟨nD 2, rfl, r_lit ⟨.bl false, rfl, false, rfl, ?_⟩⟩))))
  refine t_not (t_call (r_call (rs_cons (r_p2 (r_v rfl (r_lit ⟨nD k, rfl, rs_cons (r_lit (rs_cons (r_glob rfl (rs_nil ((p_isint k 1 9).runs (by omega) ⟨true, ?_, ?_⟩)))))⟩))))))
  · rw [decide_eq_true k1, decide_eq_true (show k ≤ 9 by omega)]; rfl
  refine s_nil (s_cons (s_asg (r_v rfl ⟨_, rfl, ?_⟩)))
  refine s_cons (s_ifs (t_not (t_prim (r_p1 (r_v rfl ⟨.bl true, rfl, true, rfl, s_nil ?_⟩)))))
  refine s_cons (s_for (i_enum (r_v rfl ⟨_, rfl, fun j env s => s = st ∧ ∃ x y, env = [some (false, spD k ls), none, none, some (false, nD k), some (false, tl ls), x, y, none, none], ⟨rfl, none, none, rfl⟩, ?_, ?_⟩)))
  · rintro j d env s hx ⟨rfl, x, y, rfl⟩
    obtain ⟨l, hl, rfl⟩ := enum_map hx
    have lot := g.lots l (List.mem_of_getElem? hl)
    refine ⟨_, rfl, s_cons (s_ifs (t_or (t_not (t_call (r_call (rs_cons (r_v rfl (rs_cons (r_v rfl (rs_nil ((p_islot k k1 (by omega) l lot).runs (by omega) ⟨true, rfl, ?_⟩)))))))))))⟩
    refine t_and (t_prim (r_p2 (r_v rfl (r_lit ⟨_, gt_n j 0, _, rfl, ?_⟩))))
    by_cases hj : 0 < j
    · rw [decide_eq_true hj]
      have hj2 := (List.getElem?_eq_some_iff.mp hl).1
      have hp : ls[j - 1]? = some ls[j - 1] := List.getElem?_eq_getElem (by omega)
      have hlx : lx ls[j - 1] l = true := by
        have e := (List.getElem?_eq_some_iff.mp hl).2
        rw [← e]
        exact List.pairwise_iff_getElem.mp g.up (j - 1) j (by omega) hj2 (by omega)
      refine t_prim (r_p2 (r_p2 (r_v rfl (r_p2 (r_v rfl (r_lit ⟨_, sub_nat (show 1 ≤ j from hj), _, sub_n ti hp, r_v rfl ⟨.bl false, ?_, false, rfl, s_nil (s_nil ⟨rfl, _, _, rfl⟩)⟩⟩))))))
      show (coEv .ge (ti ls[j - 1]) (ti l)).map D.bl = _
      rw [ge_ti, hlx]; rfl
    · rw [decide_eq_false hj]
      exact s_nil (s_nil ⟨rfl, _, _, rfl⟩)
  · rintro env s ⟨rfl, x, y, rfl⟩
    refine s_cons (s_asg (r_lcP ls ti (fun _ => true) fm rfl (by unfold LIM; omega) (fun l hl => ⟨_, rfl, rfl, fun _ => ?_⟩) ⟨_, rfl, ?_⟩))
    · have lot := g.lots l hl
      exact Runs.eq (r_call (rs_cons (r_v rfl (rs_nil ((p_mask l (fun x hx => by have := lot.2 x hx; omega) (by have := lot_len lot; unfold LIM; omega)).runs (by omega) ⟨rfl, rfl⟩)))))
    · rw [filt_true]
      obtain ⟨ks, hks, hmem⟩ := dputs_n (v := .bl true) (ls.map maskN) [] []
      rw [List.map_map] at hks
      have hks : (dputs [] [] (ls.map fun l => (fm l, D.bl true))).1 = ks.map nD := hks
      have hin : ∀ l ∈ ls, maskN l ∈ ks := fun l hl => (hmem _).mpr (.inr (List.mem_map.mpr ⟨l, hl, rfl⟩))
      refine s_cons (s_asg (r_dcP ls fm fm (fun _ => .bl true) rfl (by unfold LIM; omega) (fun l hl => rfl) (fun l hl => ⟨_, rfl, rfl, rfl⟩) ⟨_, rfl, ?_⟩))
      rw [hks]
      generalize (dputs [] [] (ls.map fun l => (fm l, D.bl true))).2 = vs
      refine s_cons (s_ifs (t_or (t_prim (r_p2 (r_lit (r_v rfl ⟨.bl false, ?_, false, rfl, ?_⟩))))))
      · have := dnin_n 0 ks vs (st := s)
        rw [decide_eq_true (show 0 ∈ ks from hin [] g.nil)] at this
        exact this
      refine t_prim (r_p2 (r_p2 (r_p2 (r_lit (r_v rfl ⟨_, shl_n (by omega), r_lit ⟨_, sub_nat (Nat.one_le_two_pow), r_v rfl ⟨.bl false, ?_, false, rfl, ?_⟩⟩⟩)))))
      · have := dnin_n (2 ^ k - 1) ks vs (st := s)
        rw [← mask_full k k5, decide_eq_true (hin _ g.full)] at this
        rw [← mask_full k k5]
        exact this
      refine s_nil (s_cons (s_for (i_enum (r_v rfl ⟨_, rfl, fun j env s' => s' = s ∧ ∃ x y z, env = [some (false, spD k ls), some (false, .lst (ls.map fm)), some (false, .dct (ks.map nD) vs), some (false, nD k), some (false, tl ls), x, y, z, none], ⟨rfl, _, _, _, rfl⟩, ?_, ?_⟩))))
      · rintro j d env s' hx ⟨rfl, x, y, z, rfl⟩
        obtain ⟨l, hl, rfl⟩ := enum_map hx
        have hlm := List.mem_of_getElem? hl
        refine ⟨_, rfl, s_cons (s_ifs (t_not (t_prim (r_p1 (r_lcP (ls.take j) fm (fun _ => true) (fun _ => .bl true) ?_ (by rw [List.length_take]; unfold LIM; omega) (fun o ho => ⟨_, rfl, rfl, fun _ => ?_⟩) ⟨.bl true, ?_, true, rfl, s_nil (s_nil ⟨rfl, _, _, _, rfl⟩)⟩)))))⟩
        · exact Runs.eq (i_ex (r_p2 (r_v rfl (r_v rfl ⟨_, cutl_to fm ls j, _, rfl, rfl, rfl⟩))))
        · have hom := List.mem_of_mem_take ho
          refine Runs.eq (r_p2 (r_p2 (r_v rfl (r_v rfl ⟨_, band_n k5 (g.lots l hlm) (g.lots o hom), r_v rfl ⟨_, din_n _ ks vs, ?_, rfl⟩⟩))))
          rw [decide_eq_true (hin _ (g.cl l hlm o hom))]
        · rw [filt_true]
          have := all_b (fun _ : List Nat => true) (ls.take j) (st := s')
          rw [this]
          congr 2
          simp
      · rintro env s' ⟨rfl, x, y, z, rfl⟩
        exact s_cons (s_ret (r_v rfl ⟨rfl, rfl⟩))
end K21
set_option Elab.async false
set_option linter.all false
set_option maxRecDepth 100000
set_option maxHeartbeats 8000000
/-! Km10: k21: the program takes good systems, words. -/
namespace K21
open Dp

theorem add_tt {α : Type} (f : α → D) (a b : List α) {st : Store} (h : a.length + b.length ≤ LIM) : prEv st (.bo .add) [.tup (a.map f), .tup (b.map f)] = some (.tup ((a ++ b).map f)) := by
  show fits (a.map f ++ b.map f) (.tup (a.map f ++ b.map f)) = _
  unfold fits
  rw [if_pos (by simpa using h), ← List.map_append]
theorem not_all {a b : List Nat} (h : ¬ ∀ x ∈ a, x ∈ b) : (a.all fun p => decide (p ∈ b)) = false := by
  cases e : a.all fun p => decide (p ∈ b) with
  | false => rfl
  | true => exact (h (by simpa using e)).elim
theorem others_ne {ls : List (List Nat)} {j : Nat} {l o : List Nat} (hn : ls.Nodup) (hl : ls[j]? = some l) (ho : o ∈ ls.take j ++ ls.drop (j + 1)) : o ∈ ls ∧ o ≠ l := by
  obtain ⟨hj, e⟩ := List.getElem?_eq_some_iff.mp hl
  have hs : ls = ls.take j ++ l :: ls.drop (j + 1) := by
    rw [← e]
    exact (List.take_append_drop j ls).symm.trans (by rw [List.drop_eq_getElem_cons hj])
  refine ⟨?_, fun z => ?_⟩
  · rcases List.mem_append.mp ho with h | h
    · exact List.mem_of_mem_take h
    · exact List.mem_of_mem_drop h
  · subst z
    rw [hs, List.nodup_append] at hn
    rcases List.mem_append.mp ho with h | h
    · exact hn.2.2 o h o List.mem_cons_self rfl
    · exact (List.nodup_cons.mp hn.2.1).1 h
theorem p_system (t : Nat) (ls : List (List Nat)) (g : Plot t ls) : Pure 5 3 [spD t ls] (spD t ls) := by
  have t1 := g.t1
  have t5 := g.t5
  have ll := plot_len g
  have lp : 1 ≤ ls.length := List.length_pos_iff.mpr g.ne
  refine pure_of fun n st hn => run_of (fd := ⟨1, 7, b_5⟩) rfl rfl ?_
  refine s_cons (s_ifs (t_or (t_not (t_prim (r_p1 (r_v rfl ⟨.bl true, rfl, true, rfl, ?_⟩))))))
  refine t_or (t_prim (r_p2 (r_p1 (r_v rfl ⟨nD 2, rfl, r_lit ⟨.bl false, rfl, false, rfl, ?_⟩⟩))))
  refine t_not (t_call (r_call (rs_cons (r_p2 (r_v rfl (r_lit ⟨nD t, rfl, rs_cons (r_lit (rs_cons (r_glob rfl (rs_nil ((p_isint t 1 8).runs (by omega) ⟨true, ?_, ?_⟩)))))⟩))))))
  · rw [decide_eq_true t1, decide_eq_true (show t ≤ 8 by omega)]; rfl
  refine s_nil (s_cons (s_asg (r_v rfl ⟨_, rfl, ?_⟩)))
  refine s_cons (s_ifs (t_or (t_not (t_prim (r_p1 (r_v rfl ⟨.bl true, rfl, true, rfl, ?_⟩))))))
  refine t_not (t_chain (r_lit (r_p1 (r_v rfl ⟨_, len_n ti ls, true, ?_, r_glob rfl ⟨true, ?_, s_nil ?_⟩⟩))))
  · show some (decide ((1 : Int) ≤ (ls.length : Int))) = _
    rw [decide_eq_true (by omega)]
  · show some (decide ((ls.length : Int) ≤ 70)) = _
    rw [decide_eq_true (by omega)]
  refine s_cons (s_for (i_enum (r_v rfl ⟨_, rfl, fun j env s => s = st ∧ ∃ x y, env = [some (false, spD t ls), some (false, nD t), some (false, tl ls), x, y, none, none], ⟨rfl, none, none, rfl⟩, ?_, ?_⟩)))
  · rintro j d env s hx ⟨rfl, x, y, rfl⟩
    obtain ⟨l, hl, rfl⟩ := enum_map hx
    have lot := g.lots l (List.mem_of_getElem? hl)
    refine ⟨_, rfl, s_cons (s_ifs (t_or (t_not (t_call (r_call (rs_cons (r_v rfl (rs_cons (r_v rfl (rs_nil ((p_islot t t1 (by omega) l lot).runs (by omega) ⟨true, rfl, ?_⟩)))))))))))⟩
    refine t_and (t_prim (r_p2 (r_v rfl (r_lit ⟨_, gt_n j 0, _, rfl, ?_⟩))))
    by_cases hj : 0 < j
    · rw [decide_eq_true hj]
      have hj2 := (List.getElem?_eq_some_iff.mp hl).1
      have hp : ls[j - 1]? = some ls[j - 1] := List.getElem?_eq_getElem (by omega)
      have hlx : lx ls[j - 1] l = true := by
        have e := (List.getElem?_eq_some_iff.mp hl).2
        rw [← e]
        exact List.pairwise_iff_getElem.mp g.up (j - 1) j (by omega) hj2 (by omega)
      refine t_prim (r_p2 (r_p2 (r_v rfl (r_p2 (r_v rfl (r_lit ⟨_, sub_nat (show 1 ≤ j from hj), _, sub_n ti hp, r_v rfl ⟨.bl false, ?_, false, rfl, s_nil (s_nil ⟨rfl, _, _, rfl⟩)⟩⟩))))))
      show (coEv .ge (ti ls[j - 1]) (ti l)).map D.bl = _
      rw [ge_ti, hlx]; rfl
    · rw [decide_eq_false hj]
      exact s_nil (s_nil ⟨rfl, _, _, rfl⟩)
  · rintro env s ⟨rfl, x, y, rfl⟩
    refine s_cons (s_for (i_enum (r_v rfl ⟨_, rfl, fun j env s' => s' = s ∧ ∃ x y z, env = [some (false, spD t ls), some (false, nD t), some (false, tl ls), x, y, z, none], ⟨rfl, _, _, _, rfl⟩, ?_, ?_⟩)))
    · rintro j d env s' hx ⟨rfl, x, y, z, rfl⟩
      obtain ⟨l, hl, rfl⟩ := enum_map hx
      have hlm := List.mem_of_getElem? hl
      have lot := g.lots l hlm
      have lt := lot_len lot
      refine ⟨_, rfl, s_cons (s_asg (r_p2 (r_p2 (r_v rfl (r_v rfl ⟨_, cut_to ti ls j, r_p2 (r_v rfl (r_p2 (r_v rfl (r_lit ⟨_, add_n j 1, _, cut_from ti ls (j + 1), _, add_tt ti (ls.take j) (ls.drop (j + 1)) ?_, _, rfl, ?_⟩))))⟩)))))⟩
      · rw [List.length_take, List.length_drop]; unfold LIM; omega
      · have ho : ∀ o ∈ ls.take j ++ ls.drop (j + 1), o ∈ ls ∧ o ≠ l := fun o ho => others_ne g.up.nodup hl ho
        have hol : (ls.take j ++ ls.drop (j + 1)).length ≤ 64 := by rw [List.length_append, List.length_take, List.length_drop]; omega
        generalize ls.take j ++ ls.drop (j + 1) = os at ho hol
        refine s_cons (s_ifs (t_prim (r_p1 (r_lcP os ti (fun _ => true) (fun _ => .bl false) rfl (by unfold LIM; omega) (fun o hoo => ⟨_, rfl, rfl, fun _ => ?_⟩) ⟨.bl false, ?_, false, rfl, s_nil (s_nil ⟨rfl, _, _, _, rfl⟩)⟩))))
        · obtain ⟨h1, h2⟩ := ho o hoo
          have lo := lot_len (g.lots o h1)
          refine Runs.eq (r_or (r_call (rs_cons (r_v rfl (rs_cons (r_v rfl (rs_nil ((p_hasall l o (by omega)).runs (by omega) ⟨false, ?_, ?_⟩))))))))
          · rw [not_all (g.anti o h1 l hlm h2)]
          · refine r_call (rs_cons (r_v rfl (rs_cons (r_v rfl (rs_nil ((p_hasall o l (by omega)).runs (by omega) ⟨?_, rfl⟩))))))
            rw [not_all (g.anti l hlm o h1 fun z => h2 z.symm)]
        · rw [filt_true]
          have := any_b (fun _ : List Nat => false) os (st := s')
          rw [this]
          congr 2
          simp
    · rintro env s' ⟨rfl, x, y, z, rfl⟩
      exact s_cons (s_ret (r_v rfl ⟨rfl, rfl⟩))
theorem ne_n (a b : Nat) {st : Store} : prEv st (.co .ne) [nD a, nD b] = some (.bl (!decide (a = b))) := by
  show (if eqOk (nD a) (nD b) = true then some (!D.eqb (nD a) (nD b)) else none).map D.bl = _
  rw [ok_n, eqb_n]; rfl
theorem p_told (k t : Nat) (ls pl : List (List Nat)) (ws : List Nat) (g : Good k ls) (p : Plot t pl) (w : Wrd k t ws) : Pure 6 4 [spD k ls, spD t pl, ti ws] (ti ws) := by
  have k1 := g.k1
  have k5 := g.k5
  refine pure_of fun n st hn => run_of (fd := ⟨3, 5, b_6⟩) rfl rfl ?_
  refine s_cons (s_exp (r_call (rs_cons (r_v rfl (rs_nil ((p_space k ls g).runs (by omega) ?_))))))
  refine s_cons (s_exp (r_call (rs_cons (r_v rfl (rs_nil ((p_system t pl p).runs (by omega) ?_))))))
  refine s_cons (s_ifs (t_or (t_not (t_prim (r_p1 (r_v rfl ⟨.bl true, rfl, true, rfl, ?_⟩))))))
  refine t_prim (r_p2 (r_p1 (r_v rfl ⟨_, len_n nD ws, r_p2 (r_v rfl (r_lit ⟨nD t, rfl, _, ne_n _ _, false, ?_, s_nil ?_⟩))⟩)))
  · rw [w.len, decide_eq_true rfl]; rfl
  refine s_cons (s_for (i_enum (r_v rfl ⟨_, rfl, fun j env s => s = st ∧ ∃ x y, env = [some (false, spD k ls), some (false, spD t pl), some (false, ti ws), x, y], ⟨rfl, none, none, rfl⟩, ?_, ?_⟩)))
  · rintro j d env s hx ⟨rfl, x, y, rfl⟩
    obtain ⟨q, hq, rfl⟩ := enum_map hx
    have hlt := w.lt q (List.mem_of_getElem? hq)
    refine ⟨_, rfl, s_cons (s_ifs (t_not (t_call (r_call (rs_cons (r_v rfl (rs_cons (r_lit (rs_cons ?_)))))))))⟩
    refine r_p2 (r_p2 (r_v rfl (r_lit ⟨nD k, rfl, r_lit ⟨_, sub_nat k1, ?_⟩⟩)))
    refine rs_nil ((p_isint q 0 (k - 1)).runs (by omega) ⟨true, ?_, s_nil (s_nil ⟨rfl, _, _, rfl⟩)⟩)
    rw [decide_eq_true (Nat.zero_le q), decide_eq_true (show q ≤ k - 1 by omega)]; rfl
  · rintro env s ⟨rfl, x, y, rfl⟩
    exact s_cons (s_ret (r_v rfl ⟨rfl, rfl⟩))
end K21
set_option Elab.async false
set_option linter.all false
set_option maxRecDepth 100000
set_option maxHeartbeats 8000000
/-! Km11: k21: the program takes good grounds. -/
namespace K21
open Dp

theorem p_allgrounds (k : Nat) (ls : List (List Nat)) (g : Good k ls) : Pure 9 4 [spD k ls] (tl (everyN ls)) := by
  have ll := good_len g
  refine pure_of fun n st hn => run_of (fd := ⟨1, 2, b_9⟩) rfl rfl ?_
  refine s_cons (s_exp (r_call (rs_cons (r_v rfl (rs_nil ((p_space k ls g).runs (by omega) ?_))))))
  refine s_cons (s_ret (r_p1 (r_lcP ls ti (fun l => !decide (l = [])) ti rfl (by unfold LIM; omega) (fun l hl => ⟨_, rfl, ?_, fun _ => rfl⟩) ⟨_, rfl, rfl, rfl⟩)))
  exact Runs.eq (a_one (t_prim (r_p2 (r_v rfl (r_tup (rs_nil ⟨by decide, _, ne_tt l [], _, rfl, rfl, rfl⟩))))))
def shN (l : List Nat) : D := .str (ti l).toP.shown
theorem repr_ti {k : Nat} (hk : k ≤ 10) {l : List Nat} (h : Lot k l) {st : Store} : prEv st (.bi .repr) [ti l] = some (shN l) := by
  refine reprT (st := st) (lay_ti l 19) (fine_ti fun x hx => by have := h.2 x hx; omega) ?_
  have h1 := cnt_ti l
  have h2 := lot_len h
  show 11 * (ti l).cnt ≤ 2 ^ 20
  omega
theorem nin_sh {l : List Nat} {ls : List (List Nat)} (h : l ∈ ls) {st : Store} : prEv st (.co .notin) [shN l, .lst (ls.map shN)] = some (.bl false) := by
  show (if ((ls.map shN).all fun d => eqOk d (shN l)) = true then some (!(ls.map shN).any fun d => D.eqb d (shN l)) else none).map D.bl = _
  have h1 : ((ls.map shN).all fun d => eqOk d (shN l)) = true := by
    simp only [List.all_map, List.all_eq_true, Function.comp]
    intro x _
    unfold eqOk
    rw [show (shN x).scal = true from rfl, show (shN l).scal = true from rfl]
    simp
  have h2 : ((ls.map shN).any fun d => D.eqb d (shN l)) = true := by
    rw [List.any_eq_true]
    refine ⟨shN l, List.mem_map.mpr ⟨l, h, rfl⟩, ?_⟩
    show ((ti l).toP.shown == (ti l).toP.shown) = true
    simp
  rw [if_pos h1, h2]
  rfl
theorem p_fault (k : Nat) (ls gs : List (List Nat)) (g : Good k ls) (h : Grd ls gs) : Pure 10 1 [spD k ls, tl gs] (.lst []) := by
  have ll := good_len g
  have lg := grd_len g h
  have k5 := g.k5
  have up : Up gs := (g.up.sublist List.filter_sublist).sublist h.sub
  have lp : 1 ≤ gs.length := List.length_pos_iff.mpr h.ne
  refine pure_of fun n st hn => run_of (fd := ⟨2, 5, b_10⟩) rfl rfl ?_
  refine s_cons (s_ifs (t_or (t_not (t_prim (r_p1 (r_v rfl ⟨.bl true, rfl, true, rfl, ?_⟩))))))
  refine t_not (t_chain (r_lit (r_p1 (r_v rfl ⟨_, len_n ti gs, true, ?_, r_glob rfl ⟨true, ?_, s_nil ?_⟩⟩))))
  · show some (decide ((1 : Int) ≤ (gs.length : Int))) = _
    rw [decide_eq_true (by omega)]
  · show some (decide ((gs.length : Int) ≤ 511)) = _
    rw [decide_eq_true (by omega)]
  refine s_cons (s_for (i_enum (r_v rfl ⟨_, rfl, fun j env s => s = st ∧ ∃ x y, env = [some (false, spD k ls), some (false, tl gs), x, y, none], ⟨rfl, none, none, rfl⟩, ?_, ?_⟩)))
  · rintro j d env s hx ⟨rfl, x, y, rfl⟩
    obtain ⟨l, hl, rfl⟩ := enum_map hx
    obtain ⟨lot, lne, lls⟩ := grd_lot g h l (List.mem_of_getElem? hl)
    refine ⟨_, rfl, s_cons (s_ifs (t_or (t_not (t_prim (r_p1 (r_v rfl ⟨.bl true, rfl, true, rfl, ?_⟩))))))⟩
    refine t_or (t_prim (r_p2 (r_v rfl (r_tup (rs_nil ⟨by decide, .bl false, ?_, false, rfl, ?_⟩)))))
    · show (coEv .eq (ti l) (ti [])).map D.bl = _
      rw [eq_ti, decide_eq_false lne]; rfl
    refine t_prim (r_p2 (r_p1 (r_v rfl ⟨_, repr_ti (by omega) lot, r_lcP ls ti (fun _ => true) shN rfl (by unfold LIM; omega) (fun o ho => ⟨_, rfl, rfl, fun _ => ?_⟩) ⟨.bl false, ?_, false, rfl, s_nil ?_⟩⟩)))
    · exact Runs.eq (r_p1 (r_v rfl ⟨_, repr_ti (by omega) (g.lots o ho), rfl, rfl⟩))
    · rw [filt_true]; exact nin_sh lls
    refine s_cons (s_ifs (t_and (t_prim (r_p2 (r_v rfl (r_lit ⟨_, gt_n j 0, _, rfl, ?_⟩))))))
    by_cases hj : 0 < j
    · rw [decide_eq_true hj]
      have hj2 := (List.getElem?_eq_some_iff.mp hl).1
      have hp : gs[j - 1]? = some gs[j - 1] := List.getElem?_eq_getElem (by omega)
      have hlx : lx gs[j - 1] l = true := by
        have e := (List.getElem?_eq_some_iff.mp hl).2
        rw [← e]
        exact List.pairwise_iff_getElem.mp up (j - 1) j (by omega) hj2 (by omega)
      refine t_prim (r_p2 (r_v rfl (r_p2 (r_v rfl (r_p2 (r_v rfl (r_lit ⟨_, sub_nat (show 1 ≤ j from hj), _, sub_n ti hp, .bl false, ?_, false, rfl, s_nil (s_nil ⟨rfl, _, _, rfl⟩)⟩)))))))
      show (coEv .le (ti l) (ti gs[j - 1])).map D.bl = _
      rw [le_ti, hlx]; rfl
    · rw [decide_eq_false hj]
      exact s_nil (s_nil ⟨rfl, _, _, rfl⟩)
  · rintro env s ⟨rfl, x, y, rfl⟩
    exact s_cons (s_ret (r_lst (rs_nil ⟨by decide, rfl, rfl⟩)))
theorem p_needgrounds (k : Nat) (ls gs : List (List Nat)) (g : Good k ls) (h : Grd ls gs) : Pure 11 2 [spD k ls, tl gs] .non := by
  refine pure_of fun n st hn => run_of (fd := ⟨2, 3, b_11⟩) rfl rfl ?_
  refine s_cons (s_for (i_ex (r_call (rs_cons (r_v rfl (rs_cons (r_v rfl (rs_nil ((p_fault k ls gs g h).runs hn ⟨[], rfl, fun _ _ s => s = st, rfl, ?_, ?_⟩)))))))))
  · intro j d env s hx
    simp at hx
  · rintro env s rfl
    exact s_nil ⟨rfl, rfl⟩
theorem p_needall (k t : Nat) (ls pl gs : List (List Nat)) (ws : List Nat) (g : Good k ls) (p : Plot t pl) (h : Grd ls gs) (w : Wrd k t ws) : Pure 12 5 [spD k ls, spD t pl, tl gs, ti ws] .non := by
  refine pure_of fun n st hn => run_of (fd := ⟨4, 4, b_12⟩) rfl rfl ?_
  refine s_cons (s_exp (r_call (rs_cons (r_v rfl (rs_nil ((p_space k ls g).runs (by omega) ?_))))))
  refine s_cons (s_exp (r_call (rs_cons (r_v rfl (rs_nil ((p_system t pl p).runs (by omega) ?_))))))
  refine s_cons (s_exp (r_call (rs_cons (r_v rfl (rs_cons (r_v rfl (rs_nil ((p_needgrounds k ls gs g h).runs (by omega) ?_))))))))
  refine s_cons (s_exp (r_call (rs_cons (r_v rfl (rs_cons (r_v rfl (rs_cons (r_v rfl (rs_nil ((p_told k t ls pl ws g p w).runs (by omega) ?_))))))))))
  exact s_nil ⟨rfl, rfl⟩
end K21
set_option Elab.async false
set_option linter.all false
set_option maxRecDepth 100000
set_option maxHeartbeats 8000000
/-! Km12: k21: the program's answers. -/
namespace K21
open Dp

theorem enum_zipIdx {α : Type} (f : α → D) : ∀ (l : List α) (a : Nat), enumFrom (a : Int) (l.map f) = (l.zipIdx a).map fun p => .tup [nD p.2, f p.1]
  | [], a => rfl
  | x :: l, a => by
    have := enum_zipIdx f l (a + 1)
    rw [List.map_cons, List.zipIdx_cons, List.map_cons]
    show D.tup [.int a, f x] :: enumFrom ((a : Int) + 1) (l.map f) = _
    rw [show ((a : Int) + 1) = ((a + 1 : Nat) : Int) by omega, this]
    rfl
theorem enum0 {α : Type} (f : α → D) (l : List α) : enumFrom 0 (l.map f) = l.zipIdx.map fun p => .tup [nD p.2, f p.1] := enum_zipIdx f l 0
/-- who told a point outside -/
def awayN (ground ws : List Nat) : List Nat := (ws.zipIdx.filter fun p => !decide (p.1 ∈ ground)).map (·.2)
theorem away_len (ground ws : List Nat) : (awayN ground ws).length ≤ ws.length := by
  unfold awayN
  rw [List.length_map]
  exact Nat.le_trans (List.length_filter_le _ _) (by simp)
theorem p_outside (ground ws : List Nat) (h : ws.length ≤ 100) : Pure 13 1 [ti ground, ti ws] (ti (awayN ground ws)) := by
  refine pure_of fun n st _ => run_of (fd := ⟨2, 4, b_13⟩) rfl rfl ?_
  refine s_cons (s_ret (r_p1 (r_lcP ws.zipIdx (fun p => .tup [nD p.2, nD p.1]) (fun p => !decide (p.1 ∈ ground)) (fun p => nD p.2) ?_ (by simp; unfold LIM; omega) (fun p hp => ⟨_, rfl, ?_, fun _ => rfl⟩) ⟨ti (awayN ground ws), ?_, rfl, rfl⟩)))
  · exact Runs.eq (i_enum (r_v rfl ⟨_, rfl, enum0 nD ws, rfl⟩))
  · exact Runs.eq (a_one (t_prim (r_p2 (r_v rfl (r_v rfl ⟨_, notin_p p.1 ground, _, rfl, rfl, rfl⟩)))))
  · unfold awayN ti
    rw [List.map_map]
    rfl
def possN (pl gs : List (List Nat)) (ws : List Nat) : List (List Nat) := gs.filter fun g => mayN pl (awayN g ws)
theorem p_possin (t : Nat) (pl gs : List (List Nat)) (ws : List Nat) (hw : ws.length ≤ 100) (hp : pl.length ≤ 1000) (hg : gs.length ≤ 1000) : Pure 14 3 [spD t pl, tl gs, ti ws] (.lst ((possN pl gs ws).map ti)) := by
  refine pure_of fun n st hn => run_of (fd := ⟨3, 4, b_14⟩) rfl rfl ?_
  refine s_cons (s_ret (r_lcP gs ti (fun g => mayN pl (awayN g ws)) ti rfl (by unfold LIM; omega) (fun g hg => ⟨_, rfl, ?_, fun _ => rfl⟩) ⟨rfl, rfl⟩))
  refine Runs.eq (a_one (t_call (r_call (rs_cons (r_p2 (r_v rfl (r_lit ⟨tl pl, rfl, ?_⟩)))))))
  refine rs_cons (r_call (rs_cons (r_v rfl (rs_cons (r_v rfl (rs_nil ((p_outside g ws hw).runs (by omega) ?_)))))))
  exact rs_nil ((p_liars pl (awayN g ws) (Nat.le_trans (away_len g ws) hw) hp).runs (by omega) ⟨_, rfl, rfl, rfl⟩)
/-- in each of them -/
def inAll (some : List (List Nat)) (p : Nat) : Bool := some.all fun g => decide (p ∈ g)
def inAny (some : List (List Nat)) (p : Nat) : Bool := some.any fun g => decide (p ∈ g)
def sureN (k : Nat) (some : List (List Nat)) : D := if some.isEmpty then .non else ti ((List.range k).filter (inAll some))
theorem p_surein (k t : Nat) (ls pl gs : List (List Nat)) (ws : List Nat) (hk : k ≤ 10) (hw : ws.length ≤ 100) (hp : pl.length ≤ 1000) (hg : gs.length ≤ 1000) : Pure 16 4 [spD k ls, spD t pl, tl gs, ti ws] (sureN k (possN pl gs ws)) := by
  refine pure_of fun n st hn => run_of (fd := ⟨4, 7, b_16⟩) rfl rfl ?_
  refine s_cons (s_asg (r_call (rs_cons (r_v rfl (rs_cons (r_v rfl (rs_cons (r_v rfl (rs_nil ((p_possin t pl gs ws hw hp hg).runs (by omega) ⟨_, rfl, ?_⟩))))))))))
  have hs : (possN pl gs ws).length ≤ 1000 := Nat.le_trans (List.length_filter_le _ _) hg
  generalize possN pl gs ws = sm at hs
  refine s_cons (s_ifs (t_prim (r_p2 (r_v rfl (r_lst (rs_nil ⟨by decide, _, eqnil_ti sm, _, rfl, ?_⟩))))))
  unfold sureN
  cases he : sm.isEmpty with
  | true => exact s_cons (s_ret (r_lit ⟨rfl, rfl⟩))
  | false =>
    refine s_nil (s_cons (s_ret (r_p1 (r_lcP (List.range k) nD (inAll sm) nD ?_ (by simp; unfold LIM; omega) (fun p hp => ⟨_, rfl, ?_, fun _ => rfl⟩) ⟨_, rfl, rfl, rfl⟩))))
    · exact Runs.eq (i_rng1 (r_p2 (r_v rfl (r_lit ⟨nD k, rfl, _, rng1_n (by omega), rfl, rfl⟩))))
    · refine Runs.eq (a_one (t_prim (r_p1 (r_lcP sm ti (fun _ => true) (fun g => .bl (decide (p ∈ g))) rfl (by unfold LIM; omega) (fun g hg => ⟨_, rfl, rfl, fun _ => ?_⟩) ⟨.bl (inAll sm p), ?_, _, rfl, rfl, rfl⟩))))
      · exact Runs.eq (r_p2 (r_v rfl (r_v rfl ⟨_, in_p p g, rfl, rfl⟩)))
      · rw [filt_true, all_b]; rfl
end K21
set_option Elab.async false
set_option linter.all false
set_option maxRecDepth 100000
set_option maxHeartbeats 8000000
/-! Km13: k21: the program's answers, asked with all. -/
namespace K21
open Dp

structure In4 (k t : Nat) (ls pl gs : List (List Nat)) (ws : List Nat) : Prop where
  g : Good k ls
  p : Plot t pl
  h : Grd ls gs
  w : Wrd k t ws
variable {k t : Nat} {ls pl gs : List (List Nat)} {ws : List Nat}
theorem In4.wl (i : In4 k t ls pl gs ws) : ws.length ≤ 5 := by rw [i.w.len]; exact i.p.t5
theorem In4.gl (i : In4 k t ls pl gs ws) : gs.length ≤ 32 := grd_len i.g i.h
theorem In4.sl (i : In4 k t ls pl gs ws) : (possN pl gs ws).length ≤ 32 := Nat.le_trans (List.length_filter_le _ _) i.gl
theorem In4.possin (i : In4 k t ls pl gs ws) : Pure 14 3 [spD t pl, tl gs, ti ws] (.lst ((possN pl gs ws).map ti)) := p_possin t pl gs ws (by have := i.wl; omega) (by have := plot_len i.p; omega) (by have := i.gl; omega)
theorem In4.surein (i : In4 k t ls pl gs ws) : Pure 16 4 [spD k ls, spD t pl, tl gs, ti ws] (sureN k (possN pl gs ws)) := p_surein k t ls pl gs ws (by have := i.g.k5; omega) (by have := i.wl; omega) (by have := plot_len i.p; omega) (by have := i.gl; omega)
theorem In4.need (i : In4 k t ls pl gs ws) : Pure 12 5 [spD k ls, spD t pl, tl gs, ti ws] .non := p_needall k t ls pl gs ws i.g i.p i.h i.w
/-- need_all ahead of a body -/
theorem s_need (i : In4 k t ls pl gs ws) {n : Nat} {st : Store} {env : Env} {r : Ss} {Q : SQ} (hn : 5 ≤ n) (h0 : getS env 0 = some (spD k ls)) (h1 : getS env 1 = some (spD t pl)) (h2 : getS env 2 = some (tl gs)) (h3 : getS env 3 = some (ti ws))
    (q : Runs (r.ex ⟨gv, 0, run T gv 0 n⟩ env st) Q) : Runs ((Ss.cons (.exp (.call 12 (.cons (.v 0) (.cons (.v 1) (.cons (.v 2) (.cons (.v 3) .nil)))))) r).ex ⟨gv, 0, run T gv 0 n⟩ env st) Q :=
  s_cons (s_exp (r_call (rs_cons (r_v h0 (rs_cons (r_v h1 (rs_cons (r_v h2 (rs_cons (r_v h3 (rs_nil (i.need.runs hn q)))))))))))
)
theorem p_possible (i : In4 k t ls pl gs ws) : Pure 15 6 [spD k ls, spD t pl, tl gs, ti ws] (tl (possN pl gs ws)) := by
  refine pure_of fun n st hn => run_of (fd := ⟨4, 4, b_15⟩) rfl rfl ?_
  refine s_need i (by omega) rfl rfl rfl rfl ?_
  exact s_cons (s_ret (r_p1 (r_call (rs_cons (r_v rfl (rs_cons (r_v rfl (rs_cons (r_v rfl (rs_nil (i.possin.runs (by omega) ⟨_, rfl, rfl, rfl⟩))))))))))
)
theorem p_sure (i : In4 k t ls pl gs ws) : Pure 17 6 [spD k ls, spD t pl, tl gs, ti ws] (sureN k (possN pl gs ws)) := by
  refine pure_of fun n st hn => run_of (fd := ⟨4, 4, b_17⟩) rfl rfl ?_
  refine s_need i (by omega) rfl rfl rfl rfl ?_
  exact s_cons (s_ret (r_call (rs_cons (r_v rfl (rs_cons (r_v rfl (rs_cons (r_v rfl (rs_cons (r_v rfl (rs_nil (i.surein.runs (by omega) ⟨rfl, rfl⟩))))))))))))
end K21
set_option Elab.async false
set_option linter.all false
set_option maxRecDepth 100000
set_option maxHeartbeats 8000000
/-! Km14: k21: the program's answers, the rest. -/
namespace K21
open Dp

variable {k t : Nat} {ls pl gs : List (List Nat)} {ws : List Nat}
theorem lc_all {P : Par} {sm : List (List Nat)} {env : Env} {st : Store} {i : Nat} {p : Nat} {own : List Nat} {tg : Tg} {it : It} {a b : Ex} {Q : D → Store → Prop} (hs : sm.length ≤ 32) (hi : it.ev P env st = .ok (sm.map ti) st)
    (hb : ∀ g ∈ sm, ∃ env1, tg.put (ti g) (wipeE env own) = some env1 ∧ (Ex.prim (.co .inn) (.cons a (.cons b .nil))).ev P env1 st = .ok (.bl (decide (p ∈ g))) st) (q : Q (.bl (inAll sm p)) st) :
    Runs ((Ex.prim (.bi .all) (.cons (.lc own tg it .nil (.prim (.co .inn) (.cons a (.cons b .nil)))) .nil)).ev P env st) Q := by
  refine r_p1 (r_lcP sm ti (fun _ => true) (fun g => .bl (decide (p ∈ g))) hi (by unfold LIM; omega) (fun g hg => ?_) ⟨.bl (inAll sm p), ?_, q⟩)
  · obtain ⟨env1, h1, h2⟩ := hb g hg
    exact ⟨env1, h1, by unfold Exs.all; rfl, fun _ => h2⟩
  · rw [filt_true, all_b]; rfl
theorem lc_any {P : Par} {sm : List (List Nat)} {env : Env} {st : Store} {i : Nat} {p : Nat} {own : List Nat} {tg : Tg} {it : It} {a b : Ex} {Q : D → Store → Prop} (hs : sm.length ≤ 32) (hi : it.ev P env st = .ok (sm.map ti) st)
    (hb : ∀ g ∈ sm, ∃ env1, tg.put (ti g) (wipeE env own) = some env1 ∧ (Ex.prim (.co .inn) (.cons a (.cons b .nil))).ev P env1 st = .ok (.bl (decide (p ∈ g))) st) (q : Q (.bl (inAny sm p)) st) :
    Runs ((Ex.prim (.bi .any) (.cons (.lc own tg it .nil (.prim (.co .inn) (.cons a (.cons b .nil)))) .nil)).ev P env st) Q := by
  refine r_p1 (r_lcP sm ti (fun _ => true) (fun g => .bl (decide (p ∈ g))) hi (by unfold LIM; omega) (fun g hg => ?_) ⟨.bl (inAny sm p), ?_, q⟩)
  · obtain ⟨env1, h1, h2⟩ := hb g hg
    exact ⟨env1, h1, by unfold Exs.all; rfl, fun _ => h2⟩
  · rw [filt_true, any_b]; rfl
def openN (k : Nat) (sm : List (List Nat)) : List Nat := ((List.range k).filter (inAny sm)).filter fun p => !inAll sm p
theorem p_open (i : In4 k t ls pl gs ws) : Pure 18 6 [spD k ls, spD t pl, tl gs, ti ws] (ti (openN k (possN pl gs ws))) := by
  have k5 := i.g.k5
  refine pure_of fun n st hn => run_of (fd := ⟨4, 8, b_18⟩) rfl rfl ?_
  refine s_need i (by omega) rfl rfl rfl rfl ?_
  refine s_cons (s_asg (r_call (rs_cons (r_v rfl (rs_cons (r_v rfl (rs_cons (r_v rfl (rs_nil (i.possin.runs (by omega) ⟨_, rfl, ?_⟩))))))))))
  have hs := i.sl
  generalize possN pl gs ws = sm at hs
  refine s_cons (s_asg (r_lcP (List.range k) nD (inAny sm) nD ?_ (by simp; unfold LIM; omega) (fun p hp => ⟨_, rfl, ?_, fun _ => rfl⟩) ⟨_, rfl, ?_⟩))
  · exact Runs.eq (i_rng1 (r_p2 (r_v rfl (r_lit ⟨nD k, rfl, _, rng1_n (by omega), rfl, rfl⟩))))
  · exact Runs.eq (a_one (t_prim (lc_any (p := p) (i := 0) hs rfl (fun g hg => ⟨_, rfl, Runs.eq (r_p2 (r_v rfl (r_v rfl ⟨_, in_p p g, rfl, rfl⟩)))⟩) ⟨_, rfl, rfl, rfl⟩)))
  · refine s_cons (s_ret (r_p1 (r_lcP ((List.range k).filter (inAny sm)) nD (fun p => !inAll sm p) nD rfl (Nat.le_trans (List.length_filter_le _ _) (by simp; unfold LIM; omega)) (fun p hp => ⟨_, rfl, ?_, fun _ => rfl⟩) ⟨_, rfl, rfl, rfl⟩)))
    exact Runs.eq (a_one (t_not (t_prim (lc_all (p := p) (i := 0) hs rfl (fun g hg => ⟨_, rfl, Runs.eq (r_p2 (r_v rfl (r_v rfl ⟨_, in_p p g, rfl, rfl⟩)))⟩) ⟨_, rfl, rfl, rfl⟩))))
def tellN (f : Nat → Bool) (ws : List Nat) : List Nat := (ws.zipIdx.filter fun p => f p.1).map (·.2)
def mustN (sm : List (List Nat)) (ws : List Nat) : List Nat := if sm.isEmpty then [] else tellN (fun p => !inAny sm p) ws
def clearN (sm : List (List Nat)) (ws : List Nat) : List Nat := if sm.isEmpty then [] else tellN (inAll sm) ws
theorem p_must (i : In4 k t ls pl gs ws) : Pure 19 6 [spD k ls, spD t pl, tl gs, ti ws] (ti (mustN (possN pl gs ws) ws)) := by
  have hw := i.wl
  refine pure_of fun n st hn => run_of (fd := ⟨4, 8, b_19⟩) rfl rfl ?_
  refine s_need i (by omega) rfl rfl rfl rfl ?_
  refine s_cons (s_asg (r_call (rs_cons (r_v rfl (rs_cons (r_v rfl (rs_cons (r_v rfl (rs_nil (i.possin.runs (by omega) ⟨_, rfl, ?_⟩))))))))))
  have hs := i.sl
  generalize possN pl gs ws = sm at hs
  refine s_cons (s_ifs (t_prim (r_p2 (r_v rfl (r_lst (rs_nil ⟨by decide, _, eqnil_ti sm, _, rfl, ?_⟩))))))
  unfold mustN
  cases he : sm.isEmpty with
  | true => exact s_cons (s_ret (r_tup (rs_nil ⟨by decide, rfl, rfl⟩)))
  | false =>
    refine s_nil (s_cons (s_ret (r_p1 (r_lcP ws.zipIdx (fun p => .tup [nD p.2, nD p.1]) (fun p => !inAny sm p.1) (fun p => nD p.2) ?_ (by simp; unfold LIM; omega) (fun p hp => ⟨_, rfl, ?_, fun _ => rfl⟩) ⟨ti (tellN (fun p => !inAny sm p) ws), ?_, rfl, rfl⟩))))
    · exact Runs.eq (i_enum (r_v rfl ⟨_, rfl, enum0 nD ws, rfl⟩))
    · exact Runs.eq (a_one (t_not (t_prim (lc_any (p := p.1) (i := 0) hs rfl (fun g hg => ⟨_, rfl, Runs.eq (r_p2 (r_v rfl (r_v rfl ⟨_, in_p p.1 g, rfl, rfl⟩)))⟩) ⟨_, rfl, rfl, rfl⟩))))
    · unfold tellN ti
      rw [List.map_map]
      rfl
theorem p_clear (i : In4 k t ls pl gs ws) : Pure 20 6 [spD k ls, spD t pl, tl gs, ti ws] (ti (clearN (possN pl gs ws) ws)) := by
  have hw := i.wl
  refine pure_of fun n st hn => run_of (fd := ⟨4, 8, b_20⟩) rfl rfl ?_
  refine s_need i (by omega) rfl rfl rfl rfl ?_
  refine s_cons (s_asg (r_call (rs_cons (r_v rfl (rs_cons (r_v rfl (rs_cons (r_v rfl (rs_nil (i.possin.runs (by omega) ⟨_, rfl, ?_⟩))))))))))
  have hs := i.sl
  generalize possN pl gs ws = sm at hs
  refine s_cons (s_ifs (t_prim (r_p2 (r_v rfl (r_lst (rs_nil ⟨by decide, _, eqnil_ti sm, _, rfl, ?_⟩))))))
  unfold clearN
  cases he : sm.isEmpty with
  | true => exact s_cons (s_ret (r_tup (rs_nil ⟨by decide, rfl, rfl⟩)))
  | false =>
    refine s_nil (s_cons (s_ret (r_p1 (r_lcP ws.zipIdx (fun p => .tup [nD p.2, nD p.1]) (fun p => inAll sm p.1) (fun p => nD p.2) ?_ (by simp; unfold LIM; omega) (fun p hp => ⟨_, rfl, ?_, fun _ => rfl⟩) ⟨ti (tellN (inAll sm) ws), ?_, rfl, rfl⟩))))
    · exact Runs.eq (i_enum (r_v rfl ⟨_, rfl, enum0 nD ws, rfl⟩))
    · exact Runs.eq (a_one (t_prim (lc_all (p := p.1) (i := 0) hs rfl (fun g hg => ⟨_, rfl, Runs.eq (r_p2 (r_v rfl (r_v rfl ⟨_, in_p p.1 g, rfl, rfl⟩)))⟩) ⟨_, rfl, rfl, rfl⟩)))
    · unfold tellN ti
      rw [List.map_map]
      rfl
def minD : List Nat → D
  | [] => .non
  | i :: r => .int (minsI i (r.map Int.ofNat))
theorem min1_n {l : List Nat} (h : l ≠ []) {st : Store} : prEv st (.bi .min1) [.lst (l.map nD)] = some (minD l) := by
  cases l with
  | nil => exact (h rfl).elim
  | cons x l =>
    show (intsOf ((x :: l).map nD)).bind _ = _
    rw [intsOf_n]
    rfl
def fewN (sm : List (List Nat)) (ws : List Nat) : D := minD (sm.map fun g => (awayN g ws).length)
theorem p_few (i : In4 k t ls pl gs ws) : Pure 21 6 [spD k ls, spD t pl, tl gs, ti ws] (fewN (possN pl gs ws) ws) := by
  have hw := i.wl
  refine pure_of fun n st hn => run_of (fd := ⟨4, 6, b_21⟩) rfl rfl ?_
  refine s_need i (by omega) rfl rfl rfl rfl ?_
  have hs := i.sl
  have pin := i.possin
  generalize possN pl gs ws = sm at hs pin
  refine s_cons (s_asg (r_lcP sm ti (fun _ => true) (fun g => nD (awayN g ws).length) ?_ (by unfold LIM; omega) (fun g hg => ⟨_, rfl, rfl, fun _ => ?_⟩) ⟨_, rfl, ?_⟩))
  · exact Runs.eq (i_ex (r_call (rs_cons (r_v rfl (rs_cons (r_v rfl (rs_cons (r_v rfl (rs_nil (pin.runs (by omega) ⟨_, rfl, rfl, rfl⟩)))))))))
)
  · exact Runs.eq (r_p1 (r_call (rs_cons (r_v rfl (rs_cons (r_v rfl (rs_nil ((p_outside g ws (by omega)).runs (by omega) ⟨_, len_n nD _, rfl, rfl⟩))))))))
  · rw [filt_true]
    have e : (sm.map fun g => nD (awayN g ws).length) = (sm.map fun g => (awayN g ws).length).map nD := by rw [List.map_map]; rfl
    rw [e]
    unfold fewN
    refine s_cons (s_ret (r_ife (t_prim (r_p2 (r_v rfl (r_lst (rs_nil ⟨by decide, _, nenil_n _, _, rfl, ?_⟩)))))))
    generalize (sm.map fun g => (awayN g ws).length) = l
    cases l with
    | nil => exact r_lit ⟨rfl, rfl⟩
    | cons x r => exact r_p1 (r_v rfl ⟨_, min1_n (by simp), rfl, rfl⟩)
end K21
set_option Elab.async false
set_option linter.all false
set_option maxRecDepth 100000
set_option maxHeartbeats 8000000
/-! Km15: k21: the law's own answers. -/
namespace K21
open Dp

variable {k t : Nat} {ls pl gs : List (List Nat)} {ws : List Nat}
theorem p_away (ground ws : List Nat) (h : ws.length ≤ 100) : Pure 38 1 [ti ground, ti ws] (ti (awayN ground ws)) := by
  refine pure_of fun n st _ => run_of (fd := ⟨2, 4, b_38⟩) rfl rfl ?_
  refine s_cons (s_ret (r_p1 (r_lcP ws.zipIdx (fun p => .tup [nD p.2, nD p.1]) (fun p => !decide (p.1 ∈ ground)) (fun p => nD p.2) ?_ (by simp; unfold LIM; omega) (fun p hp => ⟨_, rfl, ?_, fun _ => rfl⟩) ⟨ti (awayN ground ws), ?_, rfl, rfl⟩)))
  · exact Runs.eq (i_enum (r_v rfl ⟨_, rfl, enum0 nD ws, rfl⟩))
  · exact Runs.eq (a_one (t_prim (r_p2 (r_v rfl (r_v rfl ⟨_, notin_p p.1 ground, _, rfl, rfl, rfl⟩)))))
  · unfold awayN ti
    rw [List.map_map]
    rfl
theorem tell_lot (f : Nat → Bool) (ws : List Nat) : Lot ws.length (tellN f ws) := by
  have hs : (tellN f ws).Sublist (List.range ws.length) := by
    unfold tellN
    have := (List.filter_sublist (l := ws.zipIdx) (p := fun p => f p.1)).map (·.2)
    rw [show ws.zipIdx.map (·.2) = List.range ws.length by
      rw [show (fun p : Nat × Nat => p.2) = Prod.snd from rfl, List.zipIdx_map_snd, List.range_eq_range']] at this
    exact this
  exact ⟨List.pairwise_lt_range.sublist hs, fun x hx => List.mem_range.mp (hs.subset hx)⟩
theorem away_lot (ground ws : List Nat) : Lot ws.length (awayN ground ws) := tell_lot (fun p => !decide (p ∈ ground)) ws
def liarsN (t : Nat) (pl : List (List Nat)) : List (List Nat) := (srt (rows t)).filter (mayN pl)
theorem p_lawliars (t : Nat) (pl : List (List Nat)) (ht : t ≤ 5) (hp : pl.length ≤ 1000) : Pure 35 2 [spD t pl] (.lst ((liarsN t pl).map ti)) := by
  have lr : (srt (rows t)).length ≤ 1024 := by rw [len_srt, len_rows]; exact pow_lim (by omega)
  refine pure_of fun n st hn => run_of (fd := ⟨1, 3, b_35⟩) rfl rfl ?_
  refine s_cons (s_ret (r_lcP (srt (rows t)) ti (mayN pl) ti ?_ (by unfold LIM; omega) (fun c hc => ⟨_, rfl, ?_, fun _ => rfl⟩) ⟨rfl, rfl⟩))
  · exact Runs.eq (i_ex (r_call (rs_cons (r_p2 (r_v rfl (r_lit ⟨nD t, rfl, rs_nil ((p_lots t (by omega)).runs (by omega) ⟨_, rfl, rfl, rfl⟩)⟩))))))
  · have lc : c.length ≤ 100 := by have := lot_len (mem_rows.mp (mem_srt.mp hc)); omega
    refine Runs.eq (a_one (t_prim (r_p2 (r_lcP pl ti (fun g => c.all fun p => decide (p ∈ g)) ti ?_ (by unfold LIM; omega) (fun g hg => ⟨_, rfl, ?_, fun _ => rfl⟩) (r_lst (rs_nil ⟨by decide, _, nenil_ti _, mayN pl c, ?_, rfl, rfl⟩))))))
    · exact Runs.eq (i_ex (r_p2 (r_v rfl (r_lit ⟨tl pl, rfl, _, rfl, rfl, rfl⟩))))
    · exact Runs.eq (a_one (t_call (r_call (rs_cons (r_v rfl (rs_cons (r_v rfl (rs_nil (has_runs (by omega) lc ⟨_, rfl, rfl, rfl⟩)))))))))
    · show some (!(pl.filter fun g => c.all fun p => decide (p ∈ g)).isEmpty) = _
      unfold mayN
      congr 1
      rw [Bool.eq_iff_iff]
      simp [List.isEmpty_iff, List.filter_eq_nil_iff]
theorem p_lawposs (t : Nat) (pl gs : List (List Nat)) (ws : List Nat) (ht : t ≤ 5) (hw : ws.length = t) (hp : pl.length ≤ 1000) (hg : gs.length ≤ 1000) : Pure 39 3 [spD t pl, tl gs, ti ws] (.lst ((possN pl gs ws).map ti)) := by
  refine pure_of fun n st hn => run_of (fd := ⟨3, 5, b_39⟩) rfl rfl ?_
  refine s_cons (s_asg (r_call (rs_cons (r_v rfl (rs_nil ((p_lawliars t pl ht hp).runs (by omega) ⟨_, rfl, ?_⟩))))))
  refine s_cons (s_ret (r_lcP gs ti (fun g => mayN pl (awayN g ws)) ti rfl (by unfold LIM; omega) (fun g hg => ⟨_, rfl, ?_, fun _ => rfl⟩) ⟨rfl, rfl⟩))
  refine Runs.eq (a_one (t_prim (r_p2 (r_call (rs_cons (r_v rfl (rs_cons (r_v rfl (rs_nil ((p_away g ws (by omega)).runs (by omega) (r_v rfl ⟨.bl (decide (awayN g ws ∈ liarsN t pl)), ?_, _, rfl, ?_, rfl⟩)))))))))))
  · show (coEv .inn (ti (awayN g ws)) (.lst ((liarsN t pl).map ti))).map D.bl = _
    rw [in_ti]; rfl
  · rw [Bool.eq_iff_iff, decide_eq_true_eq]
    unfold liarsN
    rw [List.mem_filter, mem_srt, mem_rows]
    have := away_lot g ws
    rw [hw] at this
    exact ⟨fun h => h.2, fun h => ⟨this, h⟩⟩
end K21
set_option Elab.async false
set_option linter.all false
set_option maxRecDepth 100000
set_option maxHeartbeats 8000000
/-! Km16: k21: the law's own sure and safe points. -/
namespace K21
open Dp

variable {k t : Nat} {ls pl gs : List (List Nat)} {ws : List Nat}
theorem p_lawsure (k : Nat) (sm : List (List Nat)) (hk : k ≤ 10) (hs : sm.length ≤ 1000) : Pure 40 1 [nD k, .lst (sm.map ti)] (sureN k sm) := by
  refine pure_of fun n st hn => run_of (fd := ⟨2, 4, b_40⟩) rfl rfl ?_
  refine s_cons (s_ifs (t_prim (r_p2 (r_v rfl (r_lst (rs_nil ⟨by decide, _, eqnil_ti sm, _, rfl, ?_⟩))))))
  unfold sureN
  cases he : sm.isEmpty with
  | true => exact s_cons (s_ret (r_lit ⟨rfl, rfl⟩))
  | false =>
    refine s_nil (s_cons (s_ret (r_p1 (r_lcP (List.range k) nD (inAll sm) nD ?_ (by simp; unfold LIM; omega) (fun p hp => ⟨_, rfl, ?_, fun _ => rfl⟩) ⟨_, rfl, rfl, rfl⟩))))
    · exact Runs.eq (i_rng1 (r_v rfl ⟨_, rng1_n (by omega), rfl, rfl⟩))
    · refine Runs.eq (a_one (t_prim (r_p2 (r_lcP sm ti (fun g => !decide (p ∈ g)) ti rfl (by unfold LIM; omega) (fun g hg => ⟨_, rfl, ?_, fun _ => rfl⟩) (r_lst (rs_nil ⟨by decide, _, eqnil_ti _, inAll sm p, ?_, rfl, rfl⟩))))))
      · exact Runs.eq (a_one (t_prim (r_p2 (r_v rfl (r_v rfl ⟨_, notin_p p g, _, rfl, rfl, rfl⟩)))))
      · show some (sm.filter fun g => !decide (p ∈ g)).isEmpty = _
        unfold inAll
        congr 1
        rw [Bool.eq_iff_iff]
        simp [List.isEmpty_iff, List.filter_eq_nil_iff]
/-- what those outside a gang told -/
def restN (gang ws : List Nat) : List Nat := ssetN ((ws.zipIdx.filter fun p => !decide (p.2 ∈ gang)).map (·.1))
def safeS (k : Nat) (ls : List (List Nat)) (ws found gang : List Nat) : List Nat := meet found (spanN k ls (restN gang ws))
def safeN (k : Nat) (ls pl : List (List Nat)) (ws : List Nat) : List Nat := pl.foldl (safeS k ls ws) (List.range k)
theorem safeN_lot (k : Nat) (ls pl : List (List Nat)) (ws : List Nat) : Lot k (safeN k ls pl ws) := by
  have : ∀ (pl : List (List Nat)) (f : List Nat), Lot k f → Lot k (pl.foldl (safeS k ls ws) f) := by
    intro pl
    induction pl with
    | nil => intro f h; exact h
    | cons c pl ih => intro f h; exact ih _ h.meet
  exact this pl _ Lot.full
theorem mem_safe {x : Nat} : ∀ {pl : List (List Nat)}, x ∈ safeN k ls pl ws ↔ x < k ∧ ∀ g ∈ pl, x ∈ spanN k ls (restN g ws) := by
  have : ∀ (pl : List (List Nat)) (f : List Nat), x ∈ pl.foldl (safeS k ls ws) f ↔ x ∈ f ∧ ∀ g ∈ pl, x ∈ spanN k ls (restN g ws) := by
    intro pl
    induction pl with
    | nil => intro f; simp
    | cons c pl ih =>
      intro f
      rw [List.foldl_cons, ih]
      unfold safeS
      rw [mem_meet]
      simp only [List.mem_cons, forall_eq_or_imp, and_assoc]
  intro pl
  unfold safeN
  rw [this, List.mem_range]
theorem mem_span {x : Nat} {lot : List Nat} : x ∈ spanN k ls lot ↔ x < k ∧ ∀ c ∈ ls, (∀ p ∈ lot, p ∈ c) → x ∈ c := by
  have : ∀ (ls : List (List Nat)) (f : List Nat), x ∈ ls.foldl (spanS lot) f ↔ x ∈ f ∧ ∀ c ∈ ls, (∀ p ∈ lot, p ∈ c) → x ∈ c := by
    intro ls
    induction ls with
    | nil => intro f; simp
    | cons c ls ih =>
      intro f
      rw [List.foldl_cons, ih]
      unfold spanS
      simp only [List.mem_cons, forall_eq_or_imp]
      by_cases h : ∀ p ∈ lot, p ∈ c
      · rw [if_pos (by simpa using h), mem_meet]
        constructor
        · rintro ⟨⟨h1, h2⟩, h3⟩; exact ⟨h1, fun _ => h2, h3⟩
        · rintro ⟨h1, h2, h3⟩; exact ⟨⟨h1, h2 h⟩, h3⟩
      · rw [if_neg (by simpa using h)]
        constructor
        · rintro ⟨h1, h3⟩; exact ⟨h1, fun z => (h z).elim, h3⟩
        · rintro ⟨h1, _, h3⟩; exact ⟨h1, h3⟩
  unfold spanN
  rw [this, List.mem_range]
theorem mem_rest {x : Nat} {gang : List Nat} : x ∈ restN gang ws ↔ ∃ i, ws[i]? = some x ∧ i ∉ gang := by
  unfold restN
  rw [mem_sset, List.mem_map]
  constructor
  · rintro ⟨⟨w, i⟩, h, rfl⟩
    have := List.mem_filter.mp h
    exact ⟨i, (List.mem_zipIdx_iff_getElem?.mp this.1), by simpa using this.2⟩
  · rintro ⟨i, h1, h2⟩
    exact ⟨(x, i), List.mem_filter.mpr ⟨List.mem_zipIdx_iff_getElem?.mpr h1, by simpa using h2⟩, rfl⟩
end K21
set_option Elab.async false
set_option linter.all false
set_option maxRecDepth 100000
set_option maxHeartbeats 8000000
/-! Km17: k21: safe is sure. -/
namespace K21
open Dp

variable {k t : Nat} {ls pl gs : List (List Nat)} {ws : List Nat}
theorem mem_away {g : List Nat} {i : Nat} : i ∈ awayN g ws ↔ ∃ x, ws[i]? = some x ∧ x ∉ g := by
  unfold awayN
  rw [List.mem_map]
  constructor
  · rintro ⟨⟨w, j⟩, h, rfl⟩
    have := List.mem_filter.mp h
    exact ⟨w, List.mem_zipIdx_iff_getElem?.mp this.1, by simpa using this.2⟩
  · rintro ⟨x, h1, h2⟩
    exact ⟨(x, i), List.mem_filter.mpr ⟨List.mem_zipIdx_iff_getElem?.mpr h1, by simpa using h2⟩, rfl⟩
theorem may_iff {c : List Nat} : mayN pl c = true ↔ ∃ g ∈ pl, ∀ i ∈ c, i ∈ g := by simp [mayN]
/-- a ground is possible: the words of those outside a gang lie in it -/
theorem poss_iff {g : List Nat} : mayN pl (awayN g ws) = true ↔ ∃ q ∈ pl, ∀ x ∈ restN q ws, x ∈ g := by
  rw [may_iff]
  refine exists_congr fun q => and_congr_right fun _ => ?_
  constructor
  · intro h x hx
    obtain ⟨i, h1, h2⟩ := mem_rest.mp hx
    exact Classical.byContradiction fun hn => h2 (h i (mem_away.mpr ⟨x, h1, hn⟩))
  · intro h i hi
    obtain ⟨x, h1, h2⟩ := mem_away.mp hi
    exact Classical.byContradiction fun hn => h2 (h x (mem_rest.mpr ⟨i, h1, hn⟩))
theorem safe_sure (g : Good k ls) (p : Plot t pl) (w : Wrd k t ws) (hno : List.range t ∉ pl) : sureN k (possN pl (everyN ls) ws) = ti (safeN k ls pl ws) := by
  have full : List.range k ∈ possN pl (everyN ls) ws := by
    have k1 := g.k1
    refine List.mem_filter.mpr ⟨List.mem_filter.mpr ⟨g.full, by simp; omega⟩, poss_iff.mpr ?_⟩
    obtain ⟨q, hq⟩ := List.exists_mem_of_ne_nil pl p.ne
    refine ⟨q, hq, fun x hx => ?_⟩
    obtain ⟨i, h1, _⟩ := mem_rest.mp hx
    exact List.mem_range.mpr (w.lt x (List.mem_of_getElem? h1))
  have ne : (possN pl (everyN ls) ws).isEmpty = false := by
    cases e : possN pl (everyN ls) ws with
    | nil => rw [e] at full; simp at full
    | cons _ _ => rfl
  unfold sureN
  rw [ne, if_neg Bool.false_ne_true]
  congr 1
  refine lot_ext (k := k) ⟨List.pairwise_lt_range.sublist List.filter_sublist, fun x hx => List.mem_range.mp (List.mem_filter.mp hx).1⟩ (safeN_lot k ls pl ws) fun x => ?_
  rw [List.mem_filter, List.mem_range, mem_safe]
  refine and_congr_right fun hx => ?_
  have ia : inAll (possN pl (everyN ls) ws) x = true ↔ ∀ c ∈ ls, c ≠ [] → (∃ q ∈ pl, ∀ y ∈ restN q ws, y ∈ c) → x ∈ c := by
    unfold inAll possN everyN
    simp only [List.all_eq_true, List.mem_filter, decide_eq_true_eq, Bool.not_eq_true', decide_eq_false_iff_not, poss_iff]
    exact ⟨fun h c hc hn hq => h c ⟨⟨hc, hn⟩, hq⟩, fun h c hc => h c hc.1.1 hc.1.2 hc.2⟩
  rw [ia]
  constructor
  · intro h q hq
    refine mem_span.mpr ⟨hx, fun c hc hsub => h c hc (fun z => ?_) ⟨q, hq, hsub⟩⟩
    -- someone is outside the gang
    have lot := p.lots q hq
    have : ∃ i, i < t ∧ i ∉ q := Classical.byContradiction fun hn => hno (by
      have e : q = List.range t := lot_ext lot Lot.full fun i => ⟨fun hi => List.mem_range.mpr (lot.2 i hi), fun hi => Classical.byContradiction fun hq => hn ⟨i, List.mem_range.mp hi, hq⟩⟩
      rw [← e]; exact hq)
    obtain ⟨i, hi, hq2⟩ := this
    have hw : ws[i]? = some (ws[i]'(by rw [w.len]; exact hi)) := List.getElem?_eq_getElem _
    have := hsub _ (mem_rest.mpr ⟨i, hw, hq2⟩)
    rw [z] at this
    simp at this
  · rintro h c hc _ ⟨q, hq, hsub⟩
    exact (mem_span.mp (h q hq)).2 c hc hsub
end K21
set_option Elab.async false
set_option linter.all false
set_option maxRecDepth 100000
set_option maxHeartbeats 8000000
/-! Km18: k21: the law's own safe points, by the def. -/
namespace K21
open Dp

variable {k t : Nat} {ls pl gs : List (List Nat)} {ws : List Nat}
theorem len_insN (i : Nat) : ∀ l : List Nat, (insN i l).length ≤ l.length + 1
  | [] => by simp [insN]
  | j :: r => by
    unfold insN
    split
    · simp
    · split
      · simp
      · have := len_insN i r
        simp only [List.length_cons]
        omega
theorem len_sset : ∀ l : List Nat, (ssetN l).length ≤ l.length
  | [] => Nat.le_refl _
  | i :: r => by
    have h1 := len_insN i (ssetN r)
    have h2 := len_sset r
    show (insN i (ssetN r)).length ≤ _
    simp only [List.length_cons]
    omega
theorem p_safe (hk : k ≤ 10) (hw : ws.length ≤ 20) : Pure 43 3 [spD k ls, spD t pl, ti ws] (ti (safeN k ls pl ws)) := by
  refine pure_of fun n st hn => run_of (fd := ⟨3, 8, b_43⟩) rfl rfl ?_
  refine s_cons (s_asg (r_rngx (r_lit (r_p2 (r_v rfl (r_lit ⟨nD k, rfl, _, rngx0_n (by omega), _, rfl, ?_⟩))))))
  refine s_cons (s_for (i_ex (r_p2 (r_v rfl (r_lit ⟨tl pl, rfl, _, rfl, fun j env s => s = st ∧ ∃ f x y, f = safeN k ls (pl.take j) ws ∧ env = [some (false, spD k ls), some (false, spD t pl), some (false, ti ws), some (false, ti f), x, y, none, none], ⟨rfl, _, none, none, rfl, rfl⟩, ?_, ?_⟩)))))
  · rintro j x env s hx ⟨rfl, f, y, z, ef, rfl⟩
    obtain ⟨q, hq, rfl⟩ := map_get hx
    have lf : f.length ≤ 10 := by rw [ef]; exact Nat.le_trans (lot_len (safeN_lot k ls _ ws)) hk
    have en : safeN k ls (pl.take (j + 1)) ws = safeS k ls ws f q := by
      rw [tk_succ hq, ef]
      unfold safeN
      rw [List.foldl_append]
      rfl
    have fl : ((ws.zipIdx.filter fun p => !decide (p.2 ∈ q)).map (·.1)).length ≤ 20 := by
      rw [List.length_map]
      exact Nat.le_trans (List.length_filter_le _ _) (by simpa using hw)
    refine ⟨_, rfl, s_cons (s_asg (r_p1 (r_p1 (r_lcP ws.zipIdx (fun p => .tup [nD p.2, nD p.1]) (fun p => !decide (p.2 ∈ q)) (fun p => nD p.1) ?_ (by simp; unfold LIM; omega) (fun p hp => ⟨_, rfl, ?_, fun _ => rfl⟩) ⟨.lst ((restN q ws).map nD), ?_, ti (restN q ws), rfl, _, rfl, ?_⟩))))⟩
    · exact Runs.eq (i_enum (r_v rfl ⟨_, rfl, enum0 nD ws, rfl⟩))
    · exact Runs.eq (a_one (t_prim (r_p2 (r_v rfl (r_v rfl ⟨_, notin_p p.2 q, _, rfl, rfl, rfl⟩)))))
    · have := ssetEv_n (st := s) ((ws.zipIdx.filter fun p => !decide (p.2 ∈ q)).map (·.1)) (by omega)
      rw [List.map_map] at this
      exact this
    · have lr : (restN q ws).length ≤ 20 := Nat.le_trans (len_sset _) fl
      refine s_cons (s_asg (r_call (rs_cons (r_v rfl (rs_cons (r_call (rs_cons (r_v rfl (rs_cons (r_v rfl (rs_nil ((p_span k hk ls (restN q ws) (by omega)).runs (by omega) ?_)))))))))))
)
      exact rs_nil ((p_common f (spanN k ls (restN q ws)) (by unfold LIM; omega)).runs (by omega) ⟨_, rfl, s_nil ⟨rfl, _, _, _, en.symm, rfl⟩⟩)
  · rintro env s ⟨rfl, f, x, y, ef, rfl⟩
    rw [List.length_map, List.take_length] at ef
    subst ef
    exact s_cons (s_ret (r_v rfl ⟨rfl, rfl⟩))
end K21
set_option Elab.async false
set_option linter.all false
set_option maxRecDepth 100000
set_option maxHeartbeats 8000000
/-! Km19: k21: what is due. -/
namespace K21
open Dp

variable {k t : Nat} {ls pl gs : List (List Nat)} {ws : List Nat}
theorem p_begin (ns : List Int) (h : ns.length ≤ 63) {n : Nat} (hn : 1 ≤ n) {Q : D → Store → Prop} (q : ∀ st, StAt 0 st → Q (.ref 1) st) : Runs (run T gv 0 n 23 [.lst (ns.map .int)] []) Q := by
  obtain ⟨n, rfl⟩ : ∃ j, n = j + 1 := ⟨n - 1, by omega⟩
  have go : ∀ cs : List Int, 0 < cs.length → cs.length ≤ 64 → Runs ((Ss.cons (.ret (.new (.dict (.cons (.lit (.str "cells")) (.cons (.lit (.str "lefts")) (.cons (.lit (.str "at")) (.cons (.lit (.str "room")) .nil)))) (.cons (.v 1) (.cons (.new (.lc [2] (.name 2) (.ex (.v 1)) .nil (.ife (.prim (.co .ge) (.cons (.v 2) (.cons (.prim (.bo .pow) (.cons (.lit (.int 10)) (.cons (.lit (.int 18)) .nil))) .nil))) (.v 2) (.lit (.int 0))))) (.cons (.lit (.int 0)) (.cons (.lit (.int 0)) .nil))))))) .nil).ex ⟨gv, 0, run T gv 0 n⟩ [some (false, .lst (ns.map .int)), some (false, .lst (cs.map .int)), none] []) fun p st1 => match p.1 with
    | .next => Q .non st1
    | .ret d => Q d st1
    | _ => False := by
    intro cs h0 h1
    have hlc : (Ex.lc [2] (.name 2) (.ex (.v 1)) .nil (.ife (.prim (.co .ge) (.cons (.v 2) (.cons (.prim (.bo .pow) (.cons (.lit (.int 10)) (.cons (.lit (.int 18)) .nil))) .nil))) (.v 2) (.lit (.int 0)))).ev ⟨gv, 0, run T gv 0 n⟩ [some (false, .lst (ns.map .int)), some (false, .lst (cs.map .int)), none] [] = .ok (.lst ((cs.map fun c => if 10 ^ 18 ≤ c then c else 0).map .int)) [] := by
      refine Runs.eq (r_lcP cs D.int (fun _ => true) (fun c => .int (if 10 ^ 18 ≤ c then c else 0)) rfl (by unfold LIM; omega) (fun c hc => ⟨_, rfl, rfl, fun _ => ?_⟩) ⟨?_, rfl⟩)
      · refine Runs.eq (r_ife (t_prim (r_p2 (r_v rfl (r_p2 (r_lit (r_lit ⟨.int (10 ^ 18), rfl, .bl (decide ((10 : Int) ^ 18 ≤ c)), rfl, _, rfl, ?_⟩)))))))
        by_cases hcc : (10 : Int) ^ 18 ≤ c
        · rw [decide_eq_true hcc, if_pos hcc]; exact r_v rfl ⟨rfl, rfl⟩
        · rw [decide_eq_false hcc, if_neg hcc]; exact r_lit ⟨rfl, rfl⟩
      · rw [filt_true, List.map_map]; rfl
    refine s_cons (s_ret (r_new ?_))
    refine runs_of (a := stD cs 0) (st := [.lst ((cs.map fun c => if 10 ^ 18 ≤ c then c else 0).map .int)]) ?_ (.inr ⟨_, _, rfl, ?_⟩)
    · refine Runs.eq ?_
      unfold Ex.ev
      refine runs_bind (rs_cons (r_lit (rs_cons (r_lit (rs_cons (r_lit (rs_cons (r_lit (rs_nil ?_)))))))))
      refine runs_bind (rs_cons (r_v rfl (rs_cons (r_new (runs_of hlc (.inl ⟨_, rfl, rs_cons (r_lit (rs_cons (r_lit (rs_nil ?_))))⟩))))))
      exact runs_opt rfl ⟨rfl, rfl⟩
    · exact q _ ⟨cs, _, 0, rfl, by simp, h0, Nat.le_refl _⟩
  refine run_of (fd := ⟨1, 3, b_23⟩) rfl rfl ?_
  have lay : ∀ d ∈ ns.map D.int, D.lay 19 d = true := fun d hd => by
    obtain ⟨i, _, rfl⟩ := List.mem_map.mp hd
    rfl
  refine s_cons (s_asg (r_ife (t_prim (r_p2 (r_v rfl (r_lst (rs_nil ⟨by decide, .bl (!(ns.map D.int).isEmpty), ?_, _, rfl, ?_⟩)))))))
  · show (coEv .ne (.lst (ns.map D.int)) (.lst [])).map D.bl = _
    rw [ne_nil lay]; rfl
  · cases ns with
    | nil => exact r_lst (rs_cons (r_lit (rs_nil ⟨one_lim, _, rfl, go [0] (by decide) (by decide)⟩)))
    | cons i r => exact r_p1 (r_v rfl ⟨_, rfl, _, rfl, go (i :: r) (by simp) (by omega)⟩)
end K21
set_option Elab.async false
set_option linter.all false
set_option maxRecDepth 100000
set_option maxHeartbeats 8000000
/-! Km20: k21: what is due. -/
namespace K21
open Dp

variable {k t : Nat} {ls pl gs : List (List Nat)} {ws : List Nat}
def dueN (k : Nat) (sm : List (List Nat)) (ws : List Nat) : List D := [tl sm, sureN k sm, ti (openN k sm), ti (mustN sm ws), ti (clearN sm ws), fewN sm ws]
def heldN (k : Nat) (sm : List (List Nat)) : List Nat := (List.range k).filter (inAny sm)
theorem sure_of {sm : List (List Nat)} (h : sm.isEmpty = false) : sureN k sm = ti ((List.range k).filter (inAll sm)) := by unfold sureN; rw [h]; rfl
theorem open_eq {sm : List (List Nat)} : (heldN k sm).filter (fun p => !decide (p ∈ (List.range k).filter (inAll sm))) = openN k sm := by
  unfold heldN openN
  refine List.filter_congr fun p hp => ?_
  have hk := (List.mem_filter.mp hp).1
  have e : decide (p ∈ (List.range k).filter (inAll sm)) = inAll sm p := by
    rw [Bool.eq_iff_iff, decide_eq_true_eq, List.mem_filter]
    exact ⟨fun h => h.2, fun h => ⟨hk, h⟩⟩
  rw [e]
theorem tell_congr {f g : Nat → Bool} (h : ∀ x ∈ ws, f x = g x) : tellN f ws = tellN g ws := by
  unfold tellN
  congr 1
  refine List.filter_congr fun p hp => ?_
  exact h p.1 (List.mem_of_getElem? (List.mem_zipIdx_iff_getElem?.mp hp))
end K21
set_option Elab.async false
set_option linter.all false
set_option maxRecDepth 100000
set_option maxHeartbeats 8000000
/-! Km21: k21: what is due, by the def. -/
namespace K21
open Dp

variable {k t : Nat} {ls pl gs : List (List Nat)} {ws : List Nat}
theorem tell_ti (f : Nat → Bool) (ws : List Nat) {st : Store} : prEv st (.bi .tuple) [.lst ((ws.zipIdx.filter fun p => f p.1).map fun p => nD p.2)] = some (ti (tellN f ws)) := by
  unfold tellN ti
  rw [List.map_map]
  rfl
theorem ninl_p (p : Nat) (l : List Nat) {st : Store} : prEv st (.co .notin) [nD p, .lst (l.map nD)] = some (.bl (!decide (p ∈ l))) := by
  show (coEv .notin (nD p) (.lst (l.map nD))).map D.bl = _
  rw [ninl_n]; rfl
theorem must_eq {sm : List (List Nat)} (h : sm.isEmpty = false) (hw : ∀ w ∈ ws, w < k) : mustN sm ws = tellN (fun p => !decide (p ∈ heldN k sm)) ws := by
  unfold mustN
  rw [h, if_neg Bool.false_ne_true]
  refine tell_congr fun x hx => ?_
  congr 1
  rw [Bool.eq_iff_iff, decide_eq_true_eq]
  unfold heldN
  rw [List.mem_filter, List.mem_range]
  exact ⟨fun q => ⟨hw x hx, q⟩, fun q => q.2⟩
theorem clear_eq {sm : List (List Nat)} (h : sm.isEmpty = false) (hw : ∀ w ∈ ws, w < k) : clearN sm ws = tellN (fun p => decide (p ∈ (List.range k).filter (inAll sm))) ws := by
  unfold clearN
  rw [h, if_neg Bool.false_ne_true]
  refine tell_congr fun x hx => ?_
  rw [Bool.eq_iff_iff, decide_eq_true_eq, List.mem_filter, List.mem_range]
  exact ⟨fun q => ⟨hw x hx, q⟩, fun q => q.2⟩
theorem p_due (i : In4 k t ls pl gs ws) : Pure 44 4 [spD k ls, spD t pl, tl gs, ti ws] (.lst (dueN k (possN pl gs ws) ws)) := by
  have k5 := i.g.k5
  have hw := i.wl
  have t5 := i.p.t5
  refine pure_of fun n st hn => run_of (fd := ⟨4, 11, b_44⟩) rfl rfl ?_
  have pin := p_lawposs t pl gs ws t5 i.w.len (by have := plot_len i.p; omega) (by have := i.gl; omega)
  refine s_cons (s_asg (r_call (rs_cons (r_v rfl (rs_cons (r_v rfl (rs_cons (r_v rfl (rs_nil (pin.runs (by omega) ⟨_, rfl, ?_⟩))))))))))
  have hs := i.sl
  generalize possN pl gs ws = sm at hs
  refine s_cons (s_own (r_lst (rs_cons (r_p1 (r_v rfl ⟨tl sm, rfl, ?_⟩)))))
  refine rs_cons (r_call (rs_cons (r_p2 (r_v rfl (r_lit ⟨nD k, rfl, rs_cons (r_v rfl (rs_nil ((p_lawsure k sm (by omega) (by omega)).runs (by omega) ?_)))⟩)))))
  refine rs_nil ⟨two_lim, ?_⟩
  refine s_cons (s_asg (r_lcP (List.range k) nD (inAny sm) nD ?_ (by simp; unfold LIM; omega) (fun p hp => ⟨_, rfl, ?_, fun _ => rfl⟩) ⟨_, rfl, ?_⟩))
  · exact Runs.eq (i_rng1 (r_p2 (r_v rfl (r_lit ⟨nD k, rfl, _, rng1_n (by omega), rfl, rfl⟩))))
  · refine Runs.eq (a_one (t_prim (r_p2 (r_lcP sm ti (fun g => decide (p ∈ g)) ti rfl (by unfold LIM; omega) (fun g hg => ⟨_, rfl, ?_, fun _ => rfl⟩) (r_lst (rs_nil ⟨by decide, _, nenil_ti _, inAny sm p, ?_, rfl, rfl⟩))))))
    · exact Runs.eq (a_one (t_prim (r_p2 (r_v rfl (r_v rfl ⟨_, in_p p g, _, rfl, rfl, rfl⟩)))))
    · show some (!(sm.filter fun g => decide (p ∈ g)).isEmpty) = _
      unfold inAny
      congr 1
      rw [Bool.eq_iff_iff]
      simp [List.isEmpty_iff, List.filter_eq_nil_iff]
  · refine s_cons (s_app (r_ife (t_prim (r_p2 (r_v rfl (r_lst (rs_nil ⟨by decide, _, nenil_ti sm, _, rfl, ?_⟩)))))))
    cases he : sm.isEmpty with
    | true =>
      have e := List.isEmpty_iff.mp he
      subst e
      refine r_tup (rs_nil ⟨by decide, _, rfl, by unfold LIM; simp, ?_⟩)
      refine s_cons (s_ifs (t_prim (r_p2 (r_v rfl (r_lst (rs_nil ⟨by decide, _, eqnil_ti [], _, rfl, ?_⟩))))))
      refine s_cons (s_ret (r_p2 (r_bor rfl (r_lst (rs_cons (r_tup (rs_nil ⟨by decide, ?_⟩)))))))
      refine rs_cons (r_tup (rs_nil ⟨by decide, rs_cons (r_lit (rs_nil ⟨by unfold LIM; simp, .lst (dueN k [] ws), ?_, rfl, rfl⟩))⟩))
      have eo : openN k [] = [] := by simp [openN, inAny]
      unfold dueN
      rw [eo]
      rfl
    | false =>
      have hwl := i.w.lt
      refine r_p1 (r_lcP ((List.range k).filter (inAny sm)) nD (fun p => !decide (p ∈ (List.range k).filter (inAll sm))) nD rfl (Nat.le_trans (List.length_filter_le _ _) (by simp; unfold LIM; omega)) (fun p hp => ⟨_, rfl, ?_, fun _ => rfl⟩) ⟨ti (openN k sm), ?_, _, rfl, by unfold LIM; simp, ?_⟩)
      · refine Runs.eq (a_one (t_prim (r_p2 (r_v rfl (r_p2 (r_bor rfl (r_lit ⟨sureN k sm, rfl, ?_⟩)))))))
        rw [sure_of he]
        exact ⟨_, notin_p _ _, _, rfl, rfl, rfl⟩
      · show prEv _ (.bi .tuple) [.lst (((heldN k sm).filter fun p => !decide (p ∈ (List.range k).filter (inAll sm))).map nD)] = _
        rw [open_eq]
        rfl
      refine s_cons (s_ifs (t_prim (r_p2 (r_v rfl (r_lst (rs_nil ⟨by decide, _, eqnil_ti sm, _, rfl, ?_⟩))))))
      rw [he]
      refine s_nil ?_
      refine s_cons (s_app (r_p1 (r_lcP ws.zipIdx (fun p => .tup [nD p.2, nD p.1]) (fun p => !decide (p.1 ∈ heldN k sm)) (fun p => nD p.2) ?_ (by simp; unfold LIM; omega) (fun p hp => ⟨_, rfl, ?_, fun _ => rfl⟩) ⟨ti (mustN sm ws), ?_, _, rfl, by unfold LIM; simp, ?_⟩)))
      · exact Runs.eq (i_enum (r_v rfl ⟨_, rfl, enum0 nD ws, rfl⟩))
      · exact Runs.eq (a_one (t_prim (r_p2 (r_v rfl (r_v rfl ⟨.bl (!decide (p.1 ∈ heldN k sm)), by rw [← ninl_p]; rfl, _, rfl, rfl, rfl⟩)))))
      · rw [must_eq he hwl]; exact tell_ti (fun p => !decide (p ∈ heldN k sm)) ws
      refine s_cons (s_app (r_p1 (r_lcP ws.zipIdx (fun p => .tup [nD p.2, nD p.1]) (fun p => decide (p.1 ∈ (List.range k).filter (inAll sm))) (fun p => nD p.2) ?_ (by simp; unfold LIM; omega) (fun p hp => ⟨_, rfl, ?_, fun _ => rfl⟩) ⟨ti (clearN sm ws), ?_, _, rfl, by unfold LIM; simp, ?_⟩)))
      · exact Runs.eq (i_enum (r_v rfl ⟨_, rfl, enum0 nD ws, rfl⟩))
      · refine Runs.eq (a_one (t_prim (r_p2 (r_v rfl (r_p2 (r_bor rfl (r_lit ⟨sureN k sm, rfl, ?_⟩)))))))
        rw [sure_of he]
        exact ⟨_, in_p _ _, _, rfl, rfl, rfl⟩
      · rw [clear_eq he hwl]; exact tell_ti (fun p => decide (p ∈ (List.range k).filter (inAll sm))) ws
      have hne : (sm.map fun g => (awayN g ws).length) ≠ [] := fun z => by
        have e := List.map_eq_nil_iff.mp z
        rw [e] at he
        cases he
      refine s_cons (s_ret (r_p2 (r_bor rfl (r_lst (rs_cons (r_p1 (r_lcP sm ti (fun _ => true) (fun g => nD (awayN g ws).length) rfl (by unfold LIM; omega) (fun g hg => ⟨_, rfl, rfl, fun _ => ?_⟩) ⟨fewN sm ws, ?_, ?_⟩)))))))
      · exact Runs.eq (r_p1 (r_call (rs_cons (r_v rfl (rs_cons (r_v rfl (rs_nil ((p_away g ws (by omega)).runs (by omega) ⟨_, len_n nD _, rfl, rfl⟩))))))))
      · rw [filt_true]
        have e : (sm.map fun g => nD (awayN g ws).length) = (sm.map fun g => (awayN g ws).length).map nD := by rw [List.map_map]; rfl
        rw [e]
        exact min1_n hne
      · exact rs_nil ⟨one_lim, .lst (dueN k sm ws), rfl, rfl, rfl⟩
end K21
set_option Elab.async false
set_option linter.all false
set_option maxRecDepth 100000
set_option maxHeartbeats 8000000
/-! Km22: k21: what may be shown. -/
namespace K21
open Dp

variable {k t : Nat} {ls pl gs : List (List Nat)} {ws : List Nat}
/-- small enough to be shown -/
structure Sm (m : Nat) (d : D) : Prop where
  f : d.fine = true
  c : d.cnt ≤ m
  l : D.lay 19 d = true
theorem cnts_le {m : Nat} : ∀ ds : List D, (∀ d ∈ ds, d.cnt ≤ m) → D.cnts ds ≤ m * ds.length
  | [], _ => by simp [D.cnts]
  | d :: ds, h => by
    have h1 := h d List.mem_cons_self
    have h2 := cnts_le ds fun y hy => h y (List.mem_cons_of_mem _ hy)
    simp only [D.cnts, List.length_cons, Nat.mul_add, Nat.mul_one]
    omega
theorem shown_l {m : Nat} {ds : List D} (h : ∀ d ∈ ds, Sm m d) (hm : m * ds.length ≤ 90000) {st : Store} : prEv st (.bi .repr) [.lst ds] = some (.str (D.lst ds).toP.shown) := by
  refine reprL (st := st) (lay_lst fun d hd => (h d hd).l) ?_ ?_
  · show D.fines ds = true
    rw [fines_all, List.all_eq_true]
    exact fun d hd => (h d hd).f
  · have := cnts_le ds fun d hd => (h d hd).c
    show 11 * (D.cnts ds + 1) ≤ _
    omega
theorem shown_t {m : Nat} {ds : List D} (h : ∀ d ∈ ds, Sm m d) (hm : m * ds.length ≤ 90000) {st : Store} : prEv st (.bi .repr) [.tup ds] = some (.str (D.tup ds).toP.shown) := by
  refine reprT (st := st) (lay_tup fun d hd => (h d hd).l) ?_ ?_
  · show D.fines ds = true
    rw [fines_all, List.all_eq_true]
    exact fun d hd => (h d hd).f
  · have := cnts_le ds fun d hd => (h d hd).c
    show 11 * (D.cnts ds + 1) ≤ _
    omega
theorem ne_str (s : PySem.Str) {st : Store} : prEv st (.co .ne) [.str s, .str s] = some (.bl false) := by
  show (if eqOk (.str s) (.str s) = true then some (!D.eqb (.str s) (.str s)) else none).map D.bl = _
  have h1 : eqOk (.str s) (.str s) = true := by unfold eqOk; simp [D.scal]
  have h2 : D.eqb (.str s) (.str s) = true := by unfold D.eqb; simp
  rw [h1, h2]; rfl
theorem sm_n {n : Nat} (h : n < 1000) : Sm 1 (nD n) := ⟨fine_n h, Nat.le_refl _, lay_n _ _⟩
theorem sm_non : Sm 1 .non := ⟨rfl, Nat.le_refl _, rfl⟩
theorem Sm.mono {m m' : Nat} {d : D} (h : Sm m d) (k : m ≤ m') : Sm m' d := ⟨h.f, Nat.le_trans h.c k, h.l⟩
theorem sm_ti {l : List Nat} {m : Nat} (h : ∀ x ∈ l, x < 1000) (hl : l.length ≤ m) : Sm (m + 1) (ti l) := ⟨fine_ti h, by have := cnt_ti l; omega, lay_ti l 18⟩
theorem sm_tl {ls : List (List Nat)} {m c : Nat} (h : ∀ l ∈ ls, (∀ x ∈ l, x < 1000) ∧ l.length ≤ m) (hl : ls.length ≤ c) : Sm ((m + 1) * c + 1) (tl ls) := by
  refine ⟨fine_tl fun l hl => (h l hl).1, ?_, lay_tl ls 17⟩
  have := cnt_tl fun l hl => (h l hl).2
  have : (m + 1) * ls.length ≤ (m + 1) * c := Nat.mul_le_mul_left _ hl
  omega
theorem sm_lots {k : Nat} (hk : k ≤ 5) {ls : List (List Nat)} (h : ∀ l ∈ ls, Lot k l) (hl : ls.length ≤ 32) : Sm 193 (tl ls) :=
  sm_tl (m := 5) (c := 32) (fun l q => ⟨fun x hx => by have := (h l q).2 x hx; omega, by have := lot_len (h l q); omega⟩) hl
theorem sm_sp {k : Nat} (hk : k ≤ 5) {ls : List (List Nat)} (h : ∀ l ∈ ls, Lot k l) (hl : ls.length ≤ 32) : Sm 200 (spD k ls) := by
  have h1 := sm_n (n := k) (by omega)
  have h2 := sm_lots hk h hl
  refine ⟨?_, ?_, ?_⟩
  · show ((nD k).fine && ((tl ls).fine && true)) = true
    rw [h1.f, h2.f]; rfl
  · show (nD k).cnt + ((tl ls).cnt + 0) + 1 ≤ 200
    have := h1.c; have := h2.c
    omega
  · refine lay_tup fun d hd => ?_
    simp at hd
    rcases hd with rfl | rfl
    · exact lay_n _ _
    · exact lay_tl ls 16
theorem sm_filter {k : Nat} (hk : k ≤ 5) (p : Nat → Bool) : Sm 6 (ti ((List.range k).filter p)) :=
  sm_ti (m := 5) (fun x hx => by have := List.mem_range.mp (List.mem_filter.mp hx).1; omega) (Nat.le_trans (List.length_filter_le _ _) (by simp; omega))
theorem sm_sure {k : Nat} (hk : k ≤ 5) (sm : List (List Nat)) : Sm 6 (sureN k sm) := by
  unfold sureN
  cases sm.isEmpty with
  | true => exact sm_non.mono (by decide)
  | false => exact sm_filter hk _
theorem sm_lot {k : Nat} (hk : k ≤ 5) {l : List Nat} (h : Lot k l) : Sm 6 (ti l) := sm_ti (m := 5) (fun x hx => by have := h.2 x hx; omega) (Nat.le_trans (lot_len h) hk)
theorem mins_mem : ∀ (l : List Nat) (i : Nat), ∃ j : Nat, minsI (i : Int) (l.map Int.ofNat) = (j : Int) ∧ (j = i ∨ j ∈ l)
  | [], i => ⟨i, rfl, .inl rfl⟩
  | x :: l, i => by
    show ∃ j : Nat, minsI (if (x : Int) < (i : Int) then (x : Int) else (i : Int)) (l.map Int.ofNat) = (j : Int) ∧ _
    by_cases h : (x : Int) < (i : Int)
    · rw [if_pos h]
      obtain ⟨j, e, q⟩ := mins_mem l x
      exact ⟨j, e, .inr (by rcases q with q | q <;> simp [q])⟩
    · rw [if_neg h]
      obtain ⟨j, e, q⟩ := mins_mem l i
      exact ⟨j, e, by rcases q with q | q <;> simp [q]⟩
theorem sm_min {l : List Nat} (h : ∀ x ∈ l, x < 1000) : Sm 1 (minD l) := by
  cases l with
  | nil => exact sm_non
  | cons i r =>
    obtain ⟨j, e, q⟩ := mins_mem r i
    show Sm 1 (.int (minsI i (r.map Int.ofNat)))
    rw [e]
    refine sm_n ?_
    rcases q with q | q
    · subst q; exact h _ List.mem_cons_self
    · exact h _ (List.mem_cons_of_mem _ q)
theorem In4.sml (i : In4 k t ls pl gs ws) : ∀ l ∈ possN pl gs ws, Lot k l := fun l hl => (grd_lot i.g i.h l (List.mem_filter.mp hl).1).1
theorem In4.due (i : In4 k t ls pl gs ws) : ∀ d ∈ dueN k (possN pl gs ws) ws, Sm 193 d := by
  have k5 := i.g.k5
  have t5 := i.p.t5
  have hw := i.w.len
  have tell : ∀ f, Sm 6 (ti (tellN f ws)) := fun f => sm_lot (k := ws.length) (by omega) (tell_lot f ws)
  intro d hd
  unfold dueN at hd
  simp only [List.mem_cons, List.not_mem_nil, or_false] at hd
  rcases hd with rfl | rfl | rfl | rfl | rfl | rfl
  · exact sm_lots k5 i.sml i.sl
  · exact (sm_sure k5 _).mono (m' := 193) (by decide)
  · unfold openN
    rw [List.filter_filter]
    exact (sm_filter k5 _).mono (m' := 193) (by decide)
  · unfold mustN
    cases (possN pl gs ws).isEmpty with
    | true => exact (sm_lot (k := 0) (by decide) Lot.nil).mono (m' := 193) (by decide)
    | false =>
      rw [if_neg Bool.false_ne_true]
      exact Sm.mono (m' := 193) (tell _) (by decide)
  · unfold clearN
    cases (possN pl gs ws).isEmpty with
    | true => exact (sm_lot (k := 0) (by decide) Lot.nil).mono (m' := 193) (by decide)
    | false =>
      rw [if_neg Bool.false_ne_true]
      exact Sm.mono (m' := 193) (tell _) (by decide)
  · refine (sm_min fun x hx => ?_).mono (m' := 193) (by decide)
    obtain ⟨g, _, rfl⟩ := List.mem_map.mp hx
    have := away_len g ws
    omega
theorem eqb_tl : ∀ a b : List (List Nat), D.eqbs (a.map ti) (b.map ti) = decide (a = b)
  | [], [] => rfl
  | [], _ :: _ => by simp [D.eqbs]
  | _ :: _, [] => by simp [D.eqbs]
  | x :: a, y :: b => by
    simp only [List.map_cons, D.eqbs, eqb_ti, eqb_tl a b]
    rw [Bool.eq_iff_iff]
    simp
theorem eq_tl (a b : List (List Nat)) {st : Store} : prEv st (.co .eq) [tl a, tl b] = some (.bl (decide (a = b))) := by
  show (if eqOk (tl a) (tl b) = true then some (D.eqb (tl a) (tl b)) else none).map D.bl = _
  have h1 : eqOk (tl a) (tl b) = true := by unfold eqOk; rw [lay_tl a 18, lay_tl b 18]; rfl
  rw [h1, if_pos rfl]
  show some (D.bl (D.eqbs (a.map ti) (b.map ti))) = _
  rw [eqb_tl]
theorem eq_t (a b : List Nat) {st : Store} : prEv st (.co .eq) [ti a, ti b] = some (.bl (decide (a = b))) := by
  show (coEv .eq (ti a) (ti b)).map D.bl = _
  rw [eq_ti]; rfl
end K21
set_option Elab.async false
set_option linter.all false
set_option maxRecDepth 100000
set_option maxHeartbeats 8000000
/-! Km23: k21: all is told. -/
namespace K21
open Dp

variable {k t : Nat} {ls pl gs : List (List Nat)} {ws : List Nat}
theorem r_ask {f m : Nat} {a b c e d : D} (p : Pure f m [a, b, c, e] d) {n : Nat} {env : Env} {st : Store} {Q : D → Store → Prop} (hn : m ≤ n) (h0 : getS env 0 = some a) (h1 : getS env 1 = some b) (h2 : getS env 2 = some c) (h3 : getS env 3 = some e) (q : Q d st) :
    Runs ((Ex.call f (.cons (.v 0) (.cons (.v 1) (.cons (.v 2) (.cons (.v 3) .nil))))).ev ⟨gv, 0, run T gv 0 n⟩ env st) Q :=
  r_call (rs_cons (r_v h0 (rs_cons (r_v h1 (rs_cons (r_v h2 (rs_cons (r_v h3 (rs_nil (p.runs hn q))))))))))
theorem p_right (i : In4 k t ls pl gs ws) : Pure 45 7 [spD k ls, spD t pl, tl gs, ti ws] (.bl true) := by
  have k5 := i.g.k5
  have t5 := i.p.t5
  have ll := good_len i.g
  refine pure_of fun n st hn => run_of (fd := ⟨4, 9, b_45⟩) rfl rfl ?_
  refine s_cons (s_asg (r_ask (p_due i) (by omega) rfl rfl rfl rfl ⟨_, rfl, ?_⟩))
  have sh : ∀ st, prEv st (.bi .repr) [.lst (dueN k (possN pl gs ws) ws)] = some (.str (D.lst (dueN k (possN pl gs ws) ws)).toP.shown) := fun st => shown_l i.due (by show 193 * 6 ≤ _; decide)
  refine s_cons (s_for (i_rng1 (r_lit ⟨_, rng1_n (b := 2) (by omega), fun j env s => s = st ∧ ∃ x y, env = [some (false, spD k ls), some (false, spD t pl), some (false, tl gs), some (false, ti ws), some (false, .lst (dueN k (possN pl gs ws) ws)), x, none, y, none], ⟨rfl, none, none, rfl⟩, ?_, ?_⟩)))
  · rintro j x env s hx ⟨rfl, y, z, rfl⟩
    refine ⟨_, rfl, s_cons (s_asg (r_lst (rs_cons (r_ask (p_possible i) (by omega) rfl rfl rfl rfl (rs_cons (r_ask (p_sure i) (by omega) rfl rfl rfl rfl (rs_nil ⟨two_lim, _, rfl, ?_⟩)))))))⟩
    refine s_cons (s_asg (r_p2 (r_v rfl (r_lst (rs_cons (r_ask (p_open i) (by omega) rfl rfl rfl rfl (rs_cons (r_ask (p_must i) (by omega) rfl rfl rfl rfl (rs_nil ⟨two_lim, _, rfl, _, rfl, ?_⟩)))))))))
    refine s_cons (s_asg (r_p2 (r_v rfl (r_lst (rs_cons (r_ask (p_clear i) (by omega) rfl rfl rfl rfl (rs_cons (r_ask (p_few i) (by omega) rfl rfl rfl rfl (rs_nil ⟨two_lim, .lst (dueN k (possN pl gs ws) ws), rfl, _, rfl, ?_⟩)))))))))
    refine s_cons (s_ifs (t_prim (r_p2 (r_p1 (r_v rfl ⟨_, sh s, r_p1 (r_v rfl ⟨_, sh s, _, ne_str _, _, rfl, ?_⟩)⟩)))))
    exact s_nil (s_nil ⟨rfl, _, _, rfl⟩)
  · rintro env s ⟨rfl, x, y, rfl⟩
    refine s_cons (s_asg (r_p1 (r_lcP ls ti (fun l => !decide (l = [])) ti ?_ (by unfold LIM; omega) (fun l hl => ⟨_, rfl, ?_, fun _ => rfl⟩) ⟨tl (everyN ls), rfl, _, rfl, ?_⟩)))
    · exact Runs.eq (i_ex (r_p2 (r_v rfl (r_lit ⟨tl ls, rfl, _, rfl, rfl, rfl⟩))))
    · exact Runs.eq (a_one (t_prim (r_p2 (r_v rfl (r_tup (rs_nil ⟨by decide, _, ne_tt l [], _, rfl, rfl, rfl⟩))))))
    refine s_cons (s_ifs (t_and (t_prim (r_p2 (r_v rfl (r_v rfl ⟨_, eq_tl gs (everyN ls), _, rfl, ?_⟩))))))
    by_cases e : gs = everyN ls
    · rw [decide_eq_true e]
      refine t_prim (r_p2 (r_rngx (r_lit (r_p2 (r_v rfl (r_lit ⟨nD t, rfl, _, rngx0_n (by omega), r_p2 (r_v rfl (r_lit ⟨tl pl, rfl, .bl (!decide (List.range t ∈ pl)), ?_, _, rfl, ?_⟩))⟩))))))
      · show (coEv .notin (ti (List.range t)) (tl pl)).map D.bl = _
        rw [nin_tt]; rfl
      · by_cases e2 : List.range t ∈ pl
        · rw [decide_eq_true e2]
          exact s_nil (s_cons (s_ret (r_lit ⟨rfl, rfl⟩)))
        · rw [decide_eq_false e2]
          refine s_cons <| s_ret <| r_p2 <| r_p2 <| r_v rfl <| r_lit ⟨sureN k (possN pl gs ws), rfl, r_call <| rs_cons <| r_v rfl <| rs_cons <| r_v rfl <| rs_cons <| r_v rfl <| rs_nil <| (p_safe (k := k) (t := t) (ls := ls) (pl := pl) (ws := ws) (by omega) (by have := i.wl; omega)).runs (by omega) ⟨.bl true, ?_, rfl, rfl⟩⟩
          rw [e, safe_sure i.g i.p i.w e2, eq_t]
          simp
    · rw [decide_eq_false e]
      exact s_nil (s_cons (s_ret (r_lit ⟨rfl, rfl⟩)))
end K21
set_option Elab.async false
set_option linter.all false
set_option maxRecDepth 100000
set_option maxHeartbeats 8000000
/-! Km24: k21: by hand. -/
namespace K21
open Dp

theorem up_ext : ∀ {a b : List (List Nat)}, Up a → Up b → (∀ x, x ∈ a ↔ x ∈ b) → a = b
  | [], [], _, _, _ => rfl
  | [], y :: b, _, _, h => absurd ((h y).mpr List.mem_cons_self) (by simp)
  | x :: a, [], _, _, h => absurd ((h x).mp List.mem_cons_self) (by simp)
  | x :: a, y :: b, ha, hb, h => by
    have ha' := List.pairwise_cons.mp ha
    have hb' := List.pairwise_cons.mp hb
    have e : x = y := Classical.byContradiction fun ne => by
      have h1 : x ∈ b := by
        rcases List.mem_cons.mp ((h x).mp List.mem_cons_self) with q | q
        · exact (ne q).elim
        · exact q
      have h2 : y ∈ a := by
        rcases List.mem_cons.mp ((h y).mpr List.mem_cons_self) with q | q
        · exact (ne q.symm).elim
        · exact q
      have := lx_trans (ha'.1 y h2) (hb'.1 x h1)
      rw [lx_irr] at this
      cases this
    subst e
    congr 1
    refine up_ext ha'.2 hb'.2 fun z => ⟨fun hz => ?_, fun hz => ?_⟩
    · rcases List.mem_cons.mp ((h z).mp (List.mem_cons_of_mem _ hz)) with q | q
      · subst q
        have := ha'.1 z hz
        rw [lx_irr] at this
        cases this
      · exact q
    · rcases List.mem_cons.mp ((h z).mpr (List.mem_cons_of_mem _ hz)) with q | q
      · subst q
        have := hb'.1 z hz
        rw [lx_irr] at this
        cases this
      · exact q
def L5 : List (List Nat) := [[], [0], [0, 1], [0, 1, 2], [0, 1, 2, 3], [0, 1, 2, 3, 4], [1], [1, 2], [1, 2, 3], [1, 2, 3, 4], [2], [2, 3], [2, 3, 4], [3], [3, 4], [4]]
theorem line5 : lineN 5 = L5 := by
  have h1 : ((metN 5 (lineR 5 5)).all fun x => decide (x ∈ L5)) = true := by decide +kernel
  have h2 : (L5.all fun x => decide (x ∈ metN 5 (lineR 5 5))) = true := by decide +kernel
  refine up_ext (up_srt (nodup_once _ _ (by simp))) (by unfold Up L5; decide) fun x => ?_
  show x ∈ srt (once [] (metN 5 (lineR 5 5))) ↔ _
  rw [mem_srt, mem_once]
  constructor
  · rintro (h | h)
    · cases h
    · simpa using List.all_eq_true.mp h1 x h
  · exact fun h => .inr (by simpa using List.all_eq_true.mp h2 x h)
def P3 : List (List Nat) := [[0], [1], [2]]
theorem plot3 : Plot 3 P3 := ⟨by decide, by decide, by decide, by unfold Up P3; decide, by unfold Lot P3; decide, by unfold P3; decide⟩
theorem good5 : Good 5 L5 := line5 ▸ good_line (by decide) (by decide)
theorem in_all {ws : List Nat} (h : ws.length = 3) (h2 : ∀ w ∈ ws, w < 5) : In4 5 3 L5 P3 (everyN L5) ws := ⟨good5, plot3, ⟨every_ne good5, List.Sublist.refl _⟩, ⟨h, h2⟩⟩
def H2 : List (List Nat) := [[0, 1], [3, 4]]
theorem in_half {ws : List Nat} (h : ws.length = 3) (h2 : ∀ w ∈ ws, w < 5) : In4 5 3 L5 P3 H2 ws := ⟨good5, plot3, ⟨by decide, by unfold H2 L5 everyN; decide⟩, ⟨h, h2⟩⟩
theorem good1 : Good 1 [[], [0]] := ⟨by decide, by decide, by unfold Up; decide, by unfold Lot; decide, by decide, by decide, by decide⟩
/-- a tuple of three numbers of the text -/
theorem r_t3 {P : Par} {env : Env} {st : Store} {a b c : Nat} {Q : D → Store → Prop} (q : Q (ti [a, b, c]) st) : Runs ((Ex.tup (.cons (.lit (.int a)) (.cons (.lit (.int b)) (.cons (.lit (.int c)) .nil)))).ev P env st) Q :=
  r_tup (rs_cons (r_lit (rs_cons (r_lit (rs_cons (r_lit (rs_nil ⟨by show 3 ≤ LIM; decide, q⟩)))))))
theorem r_t2 {P : Par} {env : Env} {st : Store} {a b : Nat} {Q : D → Store → Prop} (q : Q (ti [a, b]) st) : Runs ((Ex.tup (.cons (.lit (.int a)) (.cons (.lit (.int b)) .nil))).ev P env st) Q :=
  r_tup (rs_cons (r_lit (rs_cons (r_lit (rs_nil ⟨by show 2 ≤ LIM; decide, q⟩)))))
theorem r_t1 {P : Par} {env : Env} {st : Store} {a : Nat} {Q : D → Store → Prop} (q : Q (ti [a]) st) : Runs ((Ex.tup (.cons (.lit (.int a)) .nil)).ev P env st) Q :=
  r_tup (rs_cons (r_lit (rs_nil ⟨by show 1 ≤ LIM; decide, q⟩)))
theorem r_t0 {P : Par} {env : Env} {st : Store} {Q : D → Store → Prop} (q : Q (ti []) st) : Runs ((Ex.tup .nil).ev P env st) Q :=
  r_tup (rs_nil ⟨by show 0 ≤ LIM; decide, q⟩)
section
variable {f m n e : Nat} {a b c : Nat} {gs : List (List Nat)} {env : Env} {st : Store} {Q : D → Store → Prop} {d : D}
theorem r_asc (p : Pure f m [spD 5 L5, spD 3 P3, tl gs, ti [a, b, c]] d) (hn : m ≤ n) (h2 : getS env 2 = some (spD 5 L5)) (h3 : getS env 3 = some (spD 3 P3)) (h0 : getS env e = some (tl gs)) (q : Q d st) :
    Runs ((Ex.call f (.cons (.v 2) (.cons (.v 3) (.cons (.v e) (.cons (.tup (.cons (.lit (.int a)) (.cons (.lit (.int b)) (.cons (.lit (.int c)) .nil)))) .nil))))).ev ⟨gv, 0, run T gv 0 n⟩ env st) Q :=
  r_call (rs_cons (r_v h2 (rs_cons (r_v h3 (rs_cons (r_v h0 (rs_cons (r_t3 (rs_nil (p.runs hn q))))))))))
end
theorem ne_t (a : List Nat) {st : Store} : prEv st (.co .ne) [ti a, ti a] = some (.bl false) := by rw [ne_tt]; simp
theorem p_hand : Pure 46 7 [] (.bl true) := by
  refine pure_of fun n st hn => run_of (fd := ⟨0, 4, b_46⟩) rfl rfl ?_
  refine s_cons <| s_par <| rs_cons <| r_call <| rs_cons <| r_lit <| rs_nil <| (p_line 5 (by decide) (by decide)).runs (by omega) ?_
  rw [line5]
  refine rs_cons <| r_tup <| rs_cons <| r_lit <| rs_cons <| r_tup <| rs_cons <| r_t1 <| rs_cons <| r_t1 <| rs_cons <| r_t1 <| rs_nil ⟨by show 3 ≤ LIM; decide, rs_nil ⟨two_lim, rs_nil ⟨_, rfl, ?_⟩⟩⟩
  refine s_cons <| s_asg <| r_call <| rs_cons <| r_v (d := spD 5 L5) rfl <| rs_nil <| (p_allgrounds 5 L5 good5).runs (by omega) ⟨_, rfl, ?_⟩
  have i0 : In4 5 3 L5 P3 (everyN L5) [0, 2, 4] := in_all rfl (by decide)
  have ih : ∀ {ws : List Nat}, ws.length = 3 → (∀ w ∈ ws, w < 5) → In4 5 3 L5 P3 H2 ws := fun h h2 => in_half h h2
  refine s_cons <| s_ifs <| t_or <| t_prim <| r_p2 <| r_p1 <| r_v rfl ⟨_, len_n ti (everyN L5), r_lit ⟨.bl false, rfl, false, rfl, ?_⟩⟩
  refine t_prim <| r_p2 <| r_asc (p_sure i0) (by omega) rfl rfl rfl <| r_t1 ⟨.bl false, ne_t [2], false, rfl, ?_⟩
  refine s_nil <| s_cons <| s_ifs <| t_prim <| r_p2 <| r_asc (p_open i0) (by omega) rfl rfl rfl ?_
  refine r_tup <| rs_cons <| r_lit <| rs_cons <| r_lit <| rs_cons <| r_lit <| rs_cons <| r_lit <| rs_nil ⟨by show 4 ≤ LIM; decide, .bl false, ne_t [0, 1, 3, 4], false, rfl, ?_⟩
  refine s_nil <| s_cons <| s_ifs <| t_or <| t_prim <| r_p2 <| r_asc (p_must i0) (by omega) rfl rfl rfl <| r_t0 ⟨.bl false, ne_t [], false, rfl, ?_⟩
  refine t_prim <| r_p2 <| r_asc (p_clear i0) (by omega) rfl rfl rfl <| r_t1 ⟨.bl false, ne_t [1], false, rfl, ?_⟩
  refine s_nil <| s_cons <| s_asg <| r_tup <| rs_cons <| r_t2 <| rs_cons <| r_t2 <| rs_nil ⟨two_lim, _, rfl, ?_⟩
  refine s_cons <| s_ifs <| t_or <| t_prim <| r_p2 <| r_asc (gs := H2) (p_possible (ih rfl (by decide))) (by omega) rfl rfl rfl <| r_tup <| rs_cons <| r_t2 <| rs_nil ⟨one_lim, .bl false, ?_, false, rfl, ?_⟩
  · show prEv st (.co .ne) [tl [[0, 1]], tl [[0, 1]]] = _
    rfl
  refine t_prim <| r_p2 <| r_asc (gs := H2) (p_must (ih rfl (by decide))) (by omega) rfl rfl rfl <| r_t1 ⟨.bl false, ne_t [2], false, rfl, ?_⟩
  refine s_nil <| s_cons <| s_ifs <| t_or <| t_prim <| r_p2 <| r_asc (gs := H2) (p_sure (ih rfl (by decide))) (by omega) rfl rfl rfl <| r_lit ⟨.bl false, rfl, false, rfl, ?_⟩
  refine t_prim <| r_p2 <| r_asc (gs := H2) (p_few (ih rfl (by decide))) (by omega) rfl rfl rfl <| r_lit ⟨.bl false, rfl, false, rfl, ?_⟩
  refine s_nil <| s_cons <| s_ret <| r_and <| r_p2 <| r_asc (gs := H2) (p_few (ih rfl (by decide))) (by omega) rfl rfl rfl <| r_lit ⟨.bl true, rfl, true, rfl, ?_⟩
  refine r_p2 <| r_call <| rs_cons <| r_tup <| rs_cons <| r_lit <| rs_cons <| r_tup <| rs_cons <| r_t0 <| rs_cons <| r_t1 <| rs_nil ⟨two_lim, rs_nil ⟨two_lim, rs_nil ((p_allgrounds 1 [[], [0]] good1).runs (by omega) ?_)⟩⟩
  exact r_tup <| rs_cons <| r_t1 <| rs_nil ⟨one_lim, .bl true, eq_tl [[0]] [[0]], rfl, rfl⟩
end K21
set_option Elab.async false
set_option linter.all false
set_option maxRecDepth 100000
set_option maxHeartbeats 8000000
/-! Km25: k21: the law. -/
namespace K21
open Dp

theorem min2_n (a b : Nat) {st : Store} : prEv st (.bi .min2) [nD a, nD b] = some (nD (if b < a then b else a)) := by
  show some (D.int (if (b : Int) < (a : Int) then (b : Int) else (a : Int))) = _
  by_cases h : b < a
  · rw [if_pos h, if_pos (by omega)]; rfl
  · rw [if_neg h, if_neg (by omega)]; rfl
abbrev envL (ns : List Int) (x y z w u v q : Slot) : Env := [some (false, .lst (ns.map .int)), some (false, .ref 1), x, y, z, w, u, v, q, none]
theorem hevN (n : Nat) (hn : 11 ≤ n) (ns : List Int) (hns : ns.length ≤ 63) : Runs (run T gv 0 (n + 1) 47 [.lst (ns.map .int)] []) fun d _ => d = .bl true := by
  refine run_of (fd := ⟨1, 10, b_47⟩) rfl rfl ?_
  refine s_cons <| s_asg <| r_call <| rs_cons <| r_v rfl <| rs_nil <| p_begin ns hns (by omega) fun st hs => ⟨_, rfl, ?_⟩
  refine s_cons <| s_for <| i_rng1 <| r_p2 <| r_lit <| r_p2 <| r_p1 <| r_v rfl ⟨_, lenl_n .int ns, r_lit ⟨_, min2_n ns.length 5, _, add_n 3 _, _, rng1_n (by split <;> omega), fun j env s => StAt (j * 300) s ∧ ∃ x y z w u v q, env = envL ns x y z w u v q, ⟨by simpa using hs, none, none, none, none, none, none, none, rfl⟩, ?_, ?_⟩⟩
  · rintro j x env s hx ⟨hst, a, b, c, d, e, f, g, rfl⟩
    obtain ⟨hj, rfl⟩ := rg_get hx
    have hj8 : j ≤ 8 := by
      have : (if 5 < ns.length then 5 else ns.length) ≤ 5 := by split <;> omega
      omega
    refine ⟨_, rfl, s_cons <| s_asg <| r_call <| rs_cons <| r_v rfl <| rs_cons <| r_p2 <| r_lit <| r_call <| rs_cons <| r_v rfl <| rs_cons <| r_lit <| rs_nil <| r_draw (many := 5) (by omega) hst (by omega) (by decide) (by decide) fun r s1 hr hs1 => ⟨_, add_n 1 r, rs_nil <| r_dspace (by omega) hs1 (by omega) (by omega) (by omega) fun ls s2 gd hs2 => ⟨_, rfl, ?_⟩⟩⟩
    have k5 := gd.k5
    have ll := good_len gd
    have le : (everyN ls).length ≤ 32 := Nat.le_trans (List.length_filter_le _ _) ll
    have smE : ∀ l ∈ everyN ls, Lot (1 + r) l := fun l hl => gd.lots l (List.mem_filter.mp hl).1
    have she : ∀ st, prEv st (.bi .repr) [tl (everyN ls)] = some (.str (tl (everyN ls)).toP.shown) := fun st => shown_t (m := 6) (ds := (everyN ls).map ti) (fun d hd => by
      obtain ⟨l, hl, rfl⟩ := List.mem_map.mp hd
      exact sm_lot k5 (smE l hl)) (by rw [List.length_map]; omega)
    refine s_cons <| s_ifs <| t_prim <| r_p2 <| r_p1 <| r_call <| rs_cons <| r_v rfl <| rs_nil <| (p_allgrounds (1 + r) ls gd).runs (by omega) ⟨_, she _, ?_⟩
    refine r_p1 <| r_p1 <| r_lcP ls ti (fun l => !decide (l = [])) ti ?_ (by unfold LIM; omega) (fun l hl => ⟨_, rfl, ?_, fun _ => rfl⟩) ⟨tl (everyN ls), rfl, _, she _, _, ne_str _, false, rfl, ?_⟩
    · exact Runs.eq <| i_ex <| r_p2 <| r_v rfl <| r_lit ⟨tl ls, rfl, _, rfl, rfl, rfl⟩
    · exact Runs.eq <| a_one <| t_prim <| r_p2 <| r_v rfl <| r_tup <| rs_nil ⟨by decide, _, ne_tt l [], _, rfl, rfl, rfl⟩
    refine s_nil <| s_cons <| s_for <| i_rng1 <| r_lit ⟨_, rng1_n (b := 2) (by omega), fun i env s => StAt (j * 300 + 51 + i * 100) s ∧ ∃ z w u v q, env = envL ns (some (false, nD j)) (some (false, spD (1 + r) ls)) z w u v q, ⟨hs2.mono (by omega), c, d, e, f, g, rfl⟩, ?_, ?_⟩
    · rintro i x env s hx ⟨hst, a, b, c, d, e, rfl⟩
      obtain ⟨hi, rfl⟩ := rg_get hx
      refine ⟨_, rfl, s_cons <| s_par <| rs_cons <| r_call <| rs_cons <| r_v rfl <| rs_cons <| r_p2 <| r_lit <| r_call <| rs_cons <| r_v rfl <| rs_cons <| r_lit <| rs_nil <| r_draw (many := 5) (by omega) hst (by omega) (by decide) (by decide) fun t s3 ht hs3 => ⟨_, add_n 1 t, rs_nil <| r_bplot (by omega) hs3 (by omega) (by omega) (by omega) fun pl s4 pp hs4 => ?_⟩⟩
      refine rs_cons <| r_call <| rs_cons <| r_v rfl <| rs_cons <| r_v rfl <| rs_nil <| r_grounds (by omega) hs4 (by omega) gd fun gs s5 hg hs5 => rs_nil ⟨_, rfl, ?_⟩
      refine s_cons <| s_asg <| r_call <| rs_cons <| r_v rfl <| rs_cons <| r_p2 <| r_v rfl <| r_lit ⟨nD (1 + r), rfl, rs_cons <| r_v rfl <| rs_cons <| r_v rfl <| rs_nil <| r_words (by omega) hs5 (by omega) gd hg pp fun ws s6 hw hs6 => ⟨_, rfl, ?_⟩⟩
      have i4 : In4 (1 + r) (1 + t) ls pl gs ws := ⟨gd, pp, hg, hw⟩
      have sh : ∀ st, prEv st (.bi .repr) [.lst [spD (1 + r) ls, spD (1 + t) pl, tl gs, ti ws]] = some (.str (D.lst [spD (1 + r) ls, spD (1 + t) pl, tl gs, ti ws]).toP.shown) := fun st => shown_l (m := 200) (fun d hd => by
        simp only [List.mem_cons, List.not_mem_nil, or_false] at hd
        rcases hd with rfl | rfl | rfl | rfl
        · exact sm_sp k5 gd.lots ll
        · exact sm_sp pp.t5 pp.lots (plot_len pp)
        · exact (sm_lots k5 (fun l hl => (grd_lot gd hg l hl).1) i4.gl).mono (by decide)
        · exact (sm_ti (m := 5) (fun x hx => by have := hw.lt x hx; omega) i4.wl).mono (by decide)) (by show 200 * 4 ≤ _; decide)
      refine s_cons <| s_asg <| r_p1 <| r_lst <| rs_cons <| r_v rfl <| rs_cons <| r_v rfl <| rs_cons <| r_v rfl <| rs_cons <| r_v rfl <| rs_nil ⟨by show 4 ≤ LIM; decide, _, sh _, _, rfl, ?_⟩
      refine s_cons <| s_ifs <| t_or <| t_not <| t_call <| r_call <| rs_cons <| r_v rfl <| rs_cons <| r_v rfl <| rs_cons <| r_v rfl <| rs_cons <| r_v rfl <| rs_nil <| (p_right i4).runs (by omega) ⟨true, rfl, ?_⟩
      refine t_prim <| r_p2 <| r_p1 <| r_lst <| rs_cons <| r_v rfl <| rs_cons <| r_v rfl <| rs_cons <| r_v rfl <| rs_cons <| r_v rfl <| rs_nil ⟨by show 4 ≤ LIM; decide, _, sh _, r_v rfl ⟨_, ne_str _, false, rfl, ?_⟩⟩
      exact s_nil <| s_nil ⟨hs6.mono (by omega), _, _, _, _, _, rfl⟩
    · rintro env s ⟨hst, a, b, c, d, e, rfl⟩
      rw [List.length_map, List.length_range] at hst
      exact s_nil ⟨hst.mono (by omega), _, _, _, _, _, _, _, rfl⟩
  · rintro env s ⟨hst, a, b, c, d, e, f, g, rfl⟩
    exact s_cons <| s_ret <| r_call <| rs_nil <| p_hand.runs (by omega) rfl
theorem hev : ∀ ns : List Int, ns.length ≤ 63 → ∃ st', run T gv 0 12 47 [.lst (ns.map .int)] [] = .ok (.bl true) st' := by
  intro ns hns
  obtain ⟨d, st, e, rfl⟩ := hevN 11 (by decide) ns hns
  exact ⟨st, e⟩
end K21
set_option Elab.async false
set_option linter.all false
set_option maxRecDepth 100000
namespace K21
theorem tab_ok : Dp.tabOk bn (ds.map (·.name)) gn ds T = true := by
  have a : ∀ (d : Dp.Df) (f : Dp.Fd) (ds2 : List Dp.Df) (T2 : List Dp.Fd), Dp.dfOk bn (ds.map (·.name)) gn d f = true → Dp.tabOk bn (ds.map (·.name)) gn ds2 T2 = true → Dp.tabOk bn (ds.map (·.name)) gn (d :: ds2) (f :: T2) = true := fun d f ds2 T2 h1 h2 => by
    show (Dp.dfOk bn (ds.map (·.name)) gn d f && Dp.tabOk bn (ds.map (·.name)) gn ds2 T2) = true
    rw [h1, h2]; rfl
  exact a _ _ _ _ ok_0 (a _ _ _ _ ok_1 (a _ _ _ _ ok_2 (a _ _ _ _ ok_3 (a _ _ _ _ ok_4 (a _ _ _ _ ok_5 (a _ _ _ _ ok_6 (a _ _ _ _ ok_7 (a _ _ _ _ ok_8 (a _ _ _ _ ok_9 (a _ _ _ _ ok_10 (a _ _ _ _ ok_11 (a _ _ _ _ ok_12 (a _ _ _ _ ok_13 (a _ _ _ _ ok_14 (a _ _ _ _ ok_15 (a _ _ _ _ ok_16 (a _ _ _ _ ok_17 (a _ _ _ _ ok_18 (a _ _ _ _ ok_19 (a _ _ _ _ ok_20 (a _ _ _ _ ok_21 (a _ _ _ _ ok_22 (a _ _ _ _ ok_23 (a _ _ _ _ ok_24 (a _ _ _ _ ok_25 (a _ _ _ _ ok_26 (a _ _ _ _ ok_27 (a _ _ _ _ ok_28 (a _ _ _ _ ok_29 (a _ _ _ _ ok_30 (a _ _ _ _ ok_31 (a _ _ _ _ ok_32 (a _ _ _ _ ok_33 (a _ _ _ _ ok_34 (a _ _ _ _ ok_35 (a _ _ _ _ ok_36 (a _ _ _ _ ok_37 (a _ _ _ _ ok_38 (a _ _ _ _ ok_39 (a _ _ _ _ ok_40 (a _ _ _ _ ok_41 (a _ _ _ _ ok_42 (a _ _ _ _ ok_43 (a _ _ _ _ ok_44 (a _ _ _ _ ok_45 (a _ _ _ _ ok_46 (a _ _ _ _ ok_47 (rfl))))))))))))))))))))))))))))))))))))))))))))))))
end K21
set_option maxHeartbeats 0 in
theorem PySem.Challenge.cw_safeground_k21_whole_grounds_holds : PySem.Challenge.rw_safeground_k21_whole_grounds.Holds := by
  w_on; o_law; k_head; (case hw => w_witness2)
  k_fill
  refine Dp.walk_ofD (n := 63) (k := 12) (i := 47) (ds := K21.ds) (bn := K21.bn) (gn := K21.gn) (gv := K21.gv) (T := K21.T) (wf := 0) rfl (by decide) rfl ⟨rfl, by decide, by decide⟩ (fun w h Y => PySem.W.kIn_of Y) rfl rfl K21.tab_ok ?F K21.hev
  case F =>
    intro w mg h KX G
    refine ⟨?nl, Dp.md_of (ds := K21.ds) ?fns ?gls ?nos, _, rfl⟩
    case nl => rfl
    case fns =>
      refine' And.intro (Dp.fn_at KX G ?a ?l ?c ?k fun _ _ _ _ _ _ us hl => match us, hl with | [_, _, _], _ => rfl) ?_
      (case a => k_is); (case l => k_is); (case c => k_is); (case k => k_is)
      refine' And.intro (Dp.fn_at KX G ?a ?l ?c ?k fun _ _ _ _ _ _ us hl => match us, hl with | [_, _], _ => rfl) ?_
      (case a => k_is); (case l => k_is); (case c => k_is); (case k => k_is)
      refine' And.intro (Dp.fn_at KX G ?a ?l ?c ?k fun _ _ _ _ _ _ us hl => match us, hl with | [_], _ => rfl) ?_
      (case a => k_is); (case l => k_is); (case c => k_is); (case k => k_is)
      refine' And.intro (Dp.fn_at KX G ?a ?l ?c ?k fun _ _ _ _ _ _ us hl => match us, hl with | [_], _ => rfl) ?_
      (case a => k_is); (case l => k_is); (case c => k_is); (case k => k_is)
      refine' And.intro (Dp.fn_at KX G ?a ?l ?c ?k fun _ _ _ _ _ _ us hl => match us, hl with | [_, _], _ => rfl) ?_
      (case a => k_is); (case l => k_is); (case c => k_is); (case k => k_is)
      refine' And.intro (Dp.fn_at KX G ?a ?l ?c ?k fun _ _ _ _ _ _ us hl => match us, hl with | [_], _ => rfl) ?_
      (case a => k_is); (case l => k_is); (case c => k_is); (case k => k_is)
      refine' And.intro (Dp.fn_at KX G ?a ?l ?c ?k fun _ _ _ _ _ _ us hl => match us, hl with | [_, _, _], _ => rfl) ?_
      (case a => k_is); (case l => k_is); (case c => k_is); (case k => k_is)
      refine' And.intro (Dp.fn_at KX G ?a ?l ?c ?k fun _ _ _ _ _ _ us hl => match us, hl with | [_, _], _ => rfl) ?_
      (case a => k_is); (case l => k_is); (case c => k_is); (case k => k_is)
      refine' And.intro (Dp.fn_at KX G ?a ?l ?c ?k fun _ _ _ _ _ _ us hl => match us, hl with | [_, _], _ => rfl) ?_
      (case a => k_is); (case l => k_is); (case c => k_is); (case k => k_is)
      refine' And.intro (Dp.fn_at KX G ?a ?l ?c ?k fun _ _ _ _ _ _ us hl => match us, hl with | [_], _ => rfl) ?_
      (case a => k_is); (case l => k_is); (case c => k_is); (case k => k_is)
      refine' And.intro (Dp.fn_at KX G ?a ?l ?c ?k fun _ _ _ _ _ _ us hl => match us, hl with | [_, _], _ => rfl) ?_
      (case a => k_is); (case l => k_is); (case c => k_is); (case k => k_is)
      refine' And.intro (Dp.fn_at KX G ?a ?l ?c ?k fun _ _ _ _ _ _ us hl => match us, hl with | [_, _], _ => rfl) ?_
      (case a => k_is); (case l => k_is); (case c => k_is); (case k => k_is)
      refine' And.intro (Dp.fn_at KX G ?a ?l ?c ?k fun _ _ _ _ _ _ us hl => match us, hl with | [_, _, _, _], _ => rfl) ?_
      (case a => k_is); (case l => k_is); (case c => k_is); (case k => k_is)
      refine' And.intro (Dp.fn_at KX G ?a ?l ?c ?k fun _ _ _ _ _ _ us hl => match us, hl with | [_, _], _ => rfl) ?_
      (case a => k_is); (case l => k_is); (case c => k_is); (case k => k_is)
      refine' And.intro (Dp.fn_at KX G ?a ?l ?c ?k fun _ _ _ _ _ _ us hl => match us, hl with | [_, _, _], _ => rfl) ?_
      (case a => k_is); (case l => k_is); (case c => k_is); (case k => k_is)
      refine' And.intro (Dp.fn_at KX G ?a ?l ?c ?k fun _ _ _ _ _ _ us hl => match us, hl with | [_, _, _, _], _ => rfl) ?_
      (case a => k_is); (case l => k_is); (case c => k_is); (case k => k_is)
      refine' And.intro (Dp.fn_at KX G ?a ?l ?c ?k fun _ _ _ _ _ _ us hl => match us, hl with | [_, _, _, _], _ => rfl) ?_
      (case a => k_is); (case l => k_is); (case c => k_is); (case k => k_is)
      refine' And.intro (Dp.fn_at KX G ?a ?l ?c ?k fun _ _ _ _ _ _ us hl => match us, hl with | [_, _, _, _], _ => rfl) ?_
      (case a => k_is); (case l => k_is); (case c => k_is); (case k => k_is)
      refine' And.intro (Dp.fn_at KX G ?a ?l ?c ?k fun _ _ _ _ _ _ us hl => match us, hl with | [_, _, _, _], _ => rfl) ?_
      (case a => k_is); (case l => k_is); (case c => k_is); (case k => k_is)
      refine' And.intro (Dp.fn_at KX G ?a ?l ?c ?k fun _ _ _ _ _ _ us hl => match us, hl with | [_, _, _, _], _ => rfl) ?_
      (case a => k_is); (case l => k_is); (case c => k_is); (case k => k_is)
      refine' And.intro (Dp.fn_at KX G ?a ?l ?c ?k fun _ _ _ _ _ _ us hl => match us, hl with | [_, _, _, _], _ => rfl) ?_
      (case a => k_is); (case l => k_is); (case c => k_is); (case k => k_is)
      refine' And.intro (Dp.fn_at KX G ?a ?l ?c ?k fun _ _ _ _ _ _ us hl => match us, hl with | [_, _, _, _], _ => rfl) ?_
      (case a => k_is); (case l => k_is); (case c => k_is); (case k => k_is)
      refine' And.intro (Dp.fn_at KX G ?a ?l ?c ?k fun _ _ _ _ _ _ us hl => match us, hl with | [_, _], _ => rfl) ?_
      (case a => k_is); (case l => k_is); (case c => k_is); (case k => k_is)
      refine' And.intro (Dp.fn_at KX G ?a ?l ?c ?k fun _ _ _ _ _ _ us hl => match us, hl with | [_], _ => rfl) ?_
      (case a => k_is); (case l => k_is); (case c => k_is); (case k => k_is)
      refine' And.intro (Dp.fn_at KX G ?a ?l ?c ?k fun _ _ _ _ _ _ us hl => match us, hl with | [_, _], _ => rfl) ?_
      (case a => k_is); (case l => k_is); (case c => k_is); (case k => k_is)
      refine' And.intro (Dp.fn_at KX G ?a ?l ?c ?k fun _ _ _ _ _ _ us hl => match us, hl with | [_, _], _ => rfl) ?_
      (case a => k_is); (case l => k_is); (case c => k_is); (case k => k_is)
      refine' And.intro (Dp.fn_at KX G ?a ?l ?c ?k fun _ _ _ _ _ _ us hl => match us, hl with | [_], _ => rfl) ?_
      (case a => k_is); (case l => k_is); (case c => k_is); (case k => k_is)
      refine' And.intro (Dp.fn_at KX G ?a ?l ?c ?k fun _ _ _ _ _ _ us hl => match us, hl with | [_, _], _ => rfl) ?_
      (case a => k_is); (case l => k_is); (case c => k_is); (case k => k_is)
      refine' And.intro (Dp.fn_at KX G ?a ?l ?c ?k fun _ _ _ _ _ _ us hl => match us, hl with | [_, _], _ => rfl) ?_
      (case a => k_is); (case l => k_is); (case c => k_is); (case k => k_is)
      refine' And.intro (Dp.fn_at KX G ?a ?l ?c ?k fun _ _ _ _ _ _ us hl => match us, hl with | [_, _], _ => rfl) ?_
      (case a => k_is); (case l => k_is); (case c => k_is); (case k => k_is)
      refine' And.intro (Dp.fn_at KX G ?a ?l ?c ?k fun _ _ _ _ _ _ us hl => match us, hl with | [_, _], _ => rfl) ?_
      (case a => k_is); (case l => k_is); (case c => k_is); (case k => k_is)
      refine' And.intro (Dp.fn_at KX G ?a ?l ?c ?k fun _ _ _ _ _ _ us hl => match us, hl with | [_, _], _ => rfl) ?_
      (case a => k_is); (case l => k_is); (case c => k_is); (case k => k_is)
      refine' And.intro (Dp.fn_at KX G ?a ?l ?c ?k fun _ _ _ _ _ _ us hl => match us, hl with | [_, _], _ => rfl) ?_
      (case a => k_is); (case l => k_is); (case c => k_is); (case k => k_is)
      refine' And.intro (Dp.fn_at KX G ?a ?l ?c ?k fun _ _ _ _ _ _ us hl => match us, hl with | [_], _ => rfl) ?_
      (case a => k_is); (case l => k_is); (case c => k_is); (case k => k_is)
      refine' And.intro (Dp.fn_at KX G ?a ?l ?c ?k fun _ _ _ _ _ _ us hl => match us, hl with | [_, _], _ => rfl) ?_
      (case a => k_is); (case l => k_is); (case c => k_is); (case k => k_is)
      refine' And.intro (Dp.fn_at KX G ?a ?l ?c ?k fun _ _ _ _ _ _ us hl => match us, hl with | [_], _ => rfl) ?_
      (case a => k_is); (case l => k_is); (case c => k_is); (case k => k_is)
      refine' And.intro (Dp.fn_at KX G ?a ?l ?c ?k fun _ _ _ _ _ _ us hl => match us, hl with | [_, _], _ => rfl) ?_
      (case a => k_is); (case l => k_is); (case c => k_is); (case k => k_is)
      refine' And.intro (Dp.fn_at KX G ?a ?l ?c ?k fun _ _ _ _ _ _ us hl => match us, hl with | [_, _], _ => rfl) ?_
      (case a => k_is); (case l => k_is); (case c => k_is); (case k => k_is)
      refine' And.intro (Dp.fn_at KX G ?a ?l ?c ?k fun _ _ _ _ _ _ us hl => match us, hl with | [_, _], _ => rfl) ?_
      (case a => k_is); (case l => k_is); (case c => k_is); (case k => k_is)
      refine' And.intro (Dp.fn_at KX G ?a ?l ?c ?k fun _ _ _ _ _ _ us hl => match us, hl with | [_, _, _], _ => rfl) ?_
      (case a => k_is); (case l => k_is); (case c => k_is); (case k => k_is)
      refine' And.intro (Dp.fn_at KX G ?a ?l ?c ?k fun _ _ _ _ _ _ us hl => match us, hl with | [_, _], _ => rfl) ?_
      (case a => k_is); (case l => k_is); (case c => k_is); (case k => k_is)
      refine' And.intro (Dp.fn_at KX G ?a ?l ?c ?k fun _ _ _ _ _ _ us hl => match us, hl with | [_, _, _, _], _ => rfl) ?_
      (case a => k_is); (case l => k_is); (case c => k_is); (case k => k_is)
      refine' And.intro (Dp.fn_at KX G ?a ?l ?c ?k fun _ _ _ _ _ _ us hl => match us, hl with | [_, _], _ => rfl) ?_
      (case a => k_is); (case l => k_is); (case c => k_is); (case k => k_is)
      refine' And.intro (Dp.fn_at KX G ?a ?l ?c ?k fun _ _ _ _ _ _ us hl => match us, hl with | [_, _, _], _ => rfl) ?_
      (case a => k_is); (case l => k_is); (case c => k_is); (case k => k_is)
      refine' And.intro (Dp.fn_at KX G ?a ?l ?c ?k fun _ _ _ _ _ _ us hl => match us, hl with | [_, _, _, _], _ => rfl) ?_
      (case a => k_is); (case l => k_is); (case c => k_is); (case k => k_is)
      refine' And.intro (Dp.fn_at KX G ?a ?l ?c ?k fun _ _ _ _ _ _ us hl => match us, hl with | [_, _, _, _], _ => rfl) ?_
      (case a => k_is); (case l => k_is); (case c => k_is); (case k => k_is)
      refine' And.intro (Dp.fn_at KX G ?a ?l ?c ?k fun _ _ _ _ _ _ us hl => match us, hl with | [], _ => rfl) ?_
      (case a => k_is); (case l => k_is); (case c => k_is); (case k => k_is)
      refine' And.intro (Dp.fn_at KX G ?a ?l ?c ?k fun _ _ _ _ _ _ us hl => match us, hl with | [_], _ => rfl) ?_
      (case a => k_is); (case l => k_is); (case c => k_is); (case k => k_is)
      exact True.intro
    case gls =>
      refine' And.intro (Dp.gl_int KX G ?a ?r) ?_
      (case a => k_is); (case r => exact ⟨_, rfl⟩)
      refine' And.intro (Dp.gl_int KX G ?a ?r) ?_
      (case a => k_is); (case r => exact ⟨_, rfl⟩)
      refine' And.intro (Dp.gl_int KX G ?a ?r) ?_
      (case a => k_is); (case r => exact ⟨_, rfl⟩)
      refine' And.intro (Dp.gl_int KX G ?a ?r) ?_
      (case a => k_is); (case r => exact ⟨_, rfl⟩)
      exact True.intro
    case nos =>
      refine' And.intro (Dp.no_at KX G ?a) ?_
      (case a => k_is)
      refine' And.intro (Dp.no_at KX G ?a) ?_
      (case a => k_is)
      refine' And.intro (Dp.no_at KX G ?a) ?_
      (case a => k_is)
      refine' And.intro (Dp.no_at KX G ?a) ?_
      (case a => k_is)
      refine' And.intro (Dp.no_at KX G ?a) ?_
      (case a => k_is)
      refine' And.intro (Dp.no_at KX G ?a) ?_
      (case a => k_is)
      refine' And.intro (Dp.no_at KX G ?a) ?_
      (case a => k_is)
      refine' And.intro (Dp.no_at KX G ?a) ?_
      (case a => k_is)
      refine' And.intro (Dp.no_at KX G ?a) ?_
      (case a => k_is)
      refine' And.intro (Dp.no_at KX G ?a) ?_
      (case a => k_is)
      refine' And.intro (Dp.no_at KX G ?a) ?_
      (case a => k_is)
      refine' And.intro (Dp.no_at KX G ?a) ?_
      (case a => k_is)
      refine' And.intro (Dp.no_at KX G ?a) ?_
      (case a => k_is)
      refine' And.intro (Dp.no_at KX G ?a) ?_
      (case a => k_is)
      refine' And.intro (Dp.no_at KX G ?a) ?_
      (case a => k_is)
      refine' And.intro (Dp.no_at KX G ?a) ?_
      (case a => k_is)
      refine' And.intro (Dp.no_at KX G ?a) ?_
      (case a => k_is)
      exact True.intro
