import PyProof.Rows.All
import Wide.All
import OpenK.AllK
import Wide.FinOn
import KE.SortData
import HandS.ForMost
import HandS.ForExc
import HandS.Deep
import HandS.Flow
import HandS.TupAny
import HandS.TupMul
import HandS.Conv
import KE.KDictKeyed
import KE.KDictPairs
import KE.KDictZip
import KE.KDictWalk
import KE.KDictCopyH
import KE.KDictLaw
import HandS.Nested
import HandS.ExcInit
import HandS.TupLe
import KE.KEqDict
import KE.DataCmp
import HandS.IsInst
import KE.DataMinMax
import HandS.RaiseMore
import HandS.Zip
import KE.GoesEnum
import KE.KDictItemsList
import KE.GoesMore
import PyProof.Draws
import KE.GoesNewDict
import HandS.Star
import HandS.DictComp
import PyProof.Rows.TupDisplay
import PyProof.DictDisplay
import HandS.Exc
import HandS.SetFor
import HandS.Strs
import KE.SortKeyHeap
import KE.KSortKey
import HandS.SortKw
import HandS.Base
import HandS.Call
import HandS.Words
import KE.KExcSuper
import HandS.ExcField
import HandS.Lambda
import PyProof.FactsAll.zip_1
import HandS.Style
import KE.KTryMore
import HandS.ExcIs
import HandS.TryMany
import KE.KLam
import KE.KExcIs
import HandS.Small
import HandS.Ends
import KE.KNestM
import KE.KIntText
import HandS.CallRecv
import HandS.HeadWalk
import PySem.Challenge.RW_safeground_k37_errors_by_hand
set_option Elab.async false
set_option linter.all false
set_option maxRecDepth 100000
namespace Dp
open PySem
/-- a pure value; ref n: the n-th cell of the store -/
inductive D where
  | non | bl (b : Bool) | int (i : Int) | str (s : Str)
  | tup (ds : List D) | lst (ds : List D) | dct (ks vs : List D) | ref (n : Nat) | fn (k : Nat) | tpx (ds : List D) | er (k : Nat) (ds : List D)
  deriving Inhabited
abbrev LIM : Nat := 16777216
mutual
/-- Python's == of plain data -/
def D.eqb : D → D → Bool
  | .non, .non => true
  | .bl a, .bl b => a == b
  | .bl a, .int j => (if a then 1 else 0) == j
  | .int i, .bl b => i == (if b then 1 else 0)
  | .int i, .int j => i == j
  | .str x, .str y => x == y
  | .tup xs, .tup ys => D.eqbs xs ys
  | .lst xs, .lst ys => D.eqbs xs ys
  | _, _ => false
def D.eqbs : List D → List D → Bool
  | [], [] => true
  | x :: xs, y :: ys => D.eqb x y && D.eqbs xs ys
  | _, _ => false
end
mutual
def D.toP : D → PyData
  | .non => .none
  | .bl b => .bool b
  | .int i => .int i
  | .str s => .str s
  | .tup ds => .tuple (D.toPs ds)
  | .lst ds => .list (D.toPs ds)
  | .dct _ _ => .dict []
  | .ref _ => .none
  | .fn _ => .none
  | .tpx _ => .none
  | .er _ _ => .none
def D.toPs : List D → List PyData
  | [] => []
  | d :: ds => D.toP d :: D.toPs ds
end
/-- plain data of at most so many levels -/
def D.lay : Nat → D → Bool
  | _, .non => true
  | _, .bl _ => true
  | _, .int _ => true
  | _, .str s => PyData.strOk s
  | n + 1, .tup ds => ds.all (D.lay n)
  | n + 1, .lst ds => ds.all (D.lay n)
  | _, _ => false
abbrev DEEP : Nat := 30
/-- a dict's look-up by == -/
def dlook : List D → List D → D → Option D
  | k :: ks, v :: vs, x => if D.eqb k x then some v else dlook ks vs x
  | _, _, _ => none
def dhas (ks : List D) (x : D) : Bool := ks.any fun k => D.eqb k x
/-- values behind d[x] = v, x being there -/
def dset : List D → List D → D → D → List D
  | k :: ks, w :: vs, x, v => (if D.eqb k x then v else w) :: dset ks vs x v
  | _, vs, _, _ => vs
def dput (ks vs : List D) (x v : D) : List D × List D := if dhas ks x then (ks, dset ks vs x v) else (ks ++ [x], vs ++ [v])
def dputs : List D → List D → List (D × D) → List D × List D
  | ks, vs, [] => (ks, vs)
  | ks, vs, (k, v) :: r => dputs (dput ks vs k v).1 (dput ks vs k v).2 r
/-- a cell of the store: a list or a dict -/
abbrev Cell := D
abbrev Store := List Cell
inductive Res (α : Type) where
  | ok (a : α) (st : Store) | exc (c : Nat) (ds : List D) (st : Store) | stuck
def Res.bind {α β : Type} : Res α → (α → Store → Res β) → Res β
  | .ok a st, f => f a st
  | .exc c ds st, _ => .exc c ds st
  | .stuck, _ => .stuck
@[simp] theorem Res.bind_ok {α β : Type} (a : α) (st : Store) (f : α → Store → Res β) : (Res.ok a st).bind f = f a st := rfl
@[simp] theorem Res.bind_exc {α β : Type} (c : Nat) (ds : List D) (st : Store) (f : α → Store → Res β) : (Res.exc c ds st : Res α).bind f = .exc c ds st := rfl
@[simp] theorem Res.bind_stuck {α β : Type} (f : α → Store → Res β) : (Res.stuck : Res α).bind f = .stuck := rfl
/-- eager operations -/
inductive Bo where
  | add | sub | mul | fdiv | mod | pow | shl | shr | band | bor | bxor
  deriving DecidableEq
inductive Co where
  | eq | ne | lt | le | gt | ge | inn | notin | isn | isnot | eqn | nen | nel | ltd
  deriving DecidableEq
inductive Bi where
  | len | sum | all | any | tuple | list | sorted | dict | set | repr | int | str | min1 | max1 | min2 | max2
  | sset | isint | isbool | istup | isstr | maxd | lset | tupx | dicx | mind | reprl
  deriving DecidableEq
inductive Pr where
  | bo (o : Bo) | co (o : Co) | bi (b : Bi) | sub | cut (lo hi : Bool) | rev | neg | get1 | get2
  | hasr (ng : Bool)                  -- a in e, a not in e: e a dict of the store
  deriving DecidableEq
abbrev Slot := Option (Bool × D)
abbrev Env := List Slot
/-- targets -/
inductive Tg where
  | name (i : Nat) | pair (a b : Tg) | trip (a b c : Tg) | quad (a b c d : Tg)
/-- what is made of an error's fields -/
inductive Tpi where
  | lit (s : Str) | fld (i : Nat) | rep (i : Nat) | txt (s : Str)
  deriving DecidableEq
structure Tpl where
  tup : Bool
  items : List Tpi
  deriving DecidableEq
/-- how a def hears: what it tells of what is told (none: just that); what it makes of errors, by their classes -/
structure Hd where
  told : Option Str
  cls : List (Nat × Tpl)
  deriving DecidableEq
mutual
inductive Ex where
  | v (i : Nat)                       -- a slot that is read
  | bor (i : Nat)                     -- a slot, owned or not, whose value is not kept
  | lit (d : D)                       -- a constant of the text: None, a bool, an int, a str
  | glob (k : Nat)                    -- a constant of the module
  | tup (es : Exs) | lst (es : Exs)
  | prim (p : Pr) (es : Exs)
  | and (a b : Ex) | or (a b : Ex) | not (a : Ex) | ife (c a b : Ex)
  | chain (o o' : Co) (a b c : Ex)
  | call (f : Nat) (es : Exs)
  | callX (f : Nat) (es : Exs)        -- .. that may raise
  | lc (own : List Nat) (tg : Tg) (it : It) (ts : Exs) (e : Ex)
  | lc2 (own own2 : List Nat) (tg : Tg) (it : It) (ts : Exs) (tg2 : Tg) (it2 : It) (ts2 : Exs) (e : Ex)
  | dc (own : List Nat) (tg : Tg) (it : It) (ts : Exs) (k e : Ex)
  | dc2 (own own2 : List Nat) (tg : Tg) (it : It) (ts : Exs) (tg2 : Tg) (it2 : It) (ts2 : Exs) (k e : Ex)
  | dict (ks vs : Exs)
  | dict1 (k e : Ex)                  -- {k: e}
  | dict2 (k e k2 e2 : Ex)            -- {k: e, k2: e2}
  | rngx (t one : Bool) (a b : Ex)    -- tuple(range(..)), list(range(..))
  | srtl (e : Ex)                     -- sorted(e, key=len), e a list of tuples
  | lzip (a b : Ex)                   -- list(zip(a, b))
  | dzip (a b : Ex)                   -- dict(zip(a, b)), keys of ints or texts
  | dmer (a b : Ex)                   -- {**a, **b}
  | dmerk (a k e : Ex)                -- {**a, k: e}
  | ditm (e : Ex)                     -- list(e.items())
  | sitm (e : Ex)                     -- sorted(e.items())
  | unx (e : Ex)                      -- a tuple known to be its own, as any
  | lidx (a e : Ex)                   -- a.index(e), e there
  | ggt (a : Nat) (e : Ex)            -- A.get(e), A a dict of the module
  | gmer (a b : Nat)                  -- {**A, **B}, A and B dicts of the module
  | srtk (t k : Nat) (e : Ex)         -- sorted(e, key=the k-th def as a lambda)
  | new (e : Ex)                      -- a fresh list or dict, held by the store from now on
  | lam (t k : Nat)                   -- the k-th def as a lambda; t: the table of this def's code
  | callv (i : Nat) (es : Exs)        -- i(..), i a name that holds a lambda
  | fld (c k : Nat) (e : Ex)          -- e's k-th attribute, e an instance of the c-th class
  | meth (c f : Nat) (o : Ex) (es : Exs) -- o.f(..), o such an instance, f a method's def
  | mkob (c f : Nat) (es : Exs)       -- a new instance of the c-th class, f its __init__
  | mke (k m : Nat) (es : Exs)        -- an error of the k-th class, of m fields, as a value
  | efld (n : Str) (ks : List Nat) (j : Nat) (e : Ex) -- an error's attribute n, its j-th; ks: the classes that have it there
  | isx (n : Str) (ks : List Nat) (e : Ex) -- isinstance(e, n), e an error; ks: the classes that are n
  | heard (t : Nat) (hd : Hd) (h f : Nat) (es : Exs) -- what is heard of f by the h-th def that hears; t: the table of this def's code
inductive Exs where
  | nil | cons (e : Ex) (es : Exs) | star (e : Ex) (es : Exs)
  | starz (a b : Ex) (es : Exs)       -- *zip(a, b), ..
/-- what is walked -/
inductive It where
  | ex (e : Ex) | rng1 (a : Ex) | rng2 (a b : Ex) | enum (e : Ex) | zip (a b : Ex) | items (e : Ex) | zipr (a b e : Ex) -- zip(range(a, b), e)

end
mutual
inductive St where
  | asg (tg : Tg) (e : Ex)
  | own (i : Nat) (e : Ex)            -- i is the one name of the new list or dict
  | par (is : List (Nat × Bool)) (es : Exs)
  | put (a k e : Ex)                  -- a[k] = e, a in the store
  | putO (i : Nat) (k e : Ex)         -- .. a the owned slot i
  | fset (c k : Nat) (o e : Ex)       -- o's k-th attribute = e
  | aug (i : Nat) (o : Bo) (e : Ex)
  | app (i : Nat) (e : Ex) | ext (i : Nat) (e : Ex)
  | exp (e : Ex)
  | expC (f : Nat) (es : Exs)         -- a call, nothing kept; it may raise
  | ifs (c : Ex) (a b : Ss)
  | for (tg : Tg) (it : It) (b : Ss)
  | whl (c : Ex) (b : Ss)
  | ret (e : Ex)
  | retX (cs : Exs) (e : Ex)          -- return e; the calls cs are the ones in it that may raise, in order
  | pass | brk | cont
  | raise                             -- is not reached
  | raise1 (c : Nat) (e : Ex)         -- raise of the class c with one value
  | frz (i : Nat)
  | pop (tg : Tg) (i : Nat)           -- tg = i.pop(), i owned
  | appPop (j i : Nat)                -- j.append(i.pop())
  | popT (j i : Nat) (e : Ex)         -- j = j + (i.pop(e),)
  | tryR (k f i : Nat) (es : Exs)     -- try: return [f(es)] / except of the class k as i: return its field
inductive Ss where
  | nil | cons (s : St) (r : Ss)
end
inductive Flow where
  | next | brk | cont | ret (d : D)
def intOf : D → Option Int
  | .int i => some i
  | _ => none
def intsOf : List D → Option (List Int)
  | [] => some []
  | .int i :: r => (intsOf r).map (i :: ·)
  | _ => none
def blsOf : List D → Option (List Bool)
  | [] => some []
  | .bl b :: r => (blsOf r).map (b :: ·)
  | _ => none
def blOf : D → Option Bool
  | .bl b => some b
  | _ => none
/-- its truth -/
def D.tru : D → Option Bool
  | .non => some false
  | .bl b => some b
  | .int i => some (i != 0)
  | .str s => if s.length ≤ LIM then some ((s.length : Int) != 0) else none
  | .tup ds => some (!ds.isEmpty)
  | .lst ds => some (!ds.isEmpty)
  | _ => none
def fits (ds : List D) (d : D) : Option D := if ds.length ≤ LIM then some d else none
def repD (ds : List D) (n : Nat) : List D := (List.replicate n ds).flatten
def boEv : Bo → D → D → Option D
  | .add, .int i, .int j => some (.int (i + j))
  | .add, .tup a, .tup b => fits (a ++ b) (.tup (a ++ b))
  | .add, .lst a, .lst b => fits (a ++ b) (.lst (a ++ b))
  | .add, .str a, .str b => if a.length + b.length ≤ LIM then some (.str (a ++ b)) else none
  | .sub, .int i, .int j => some (.int (i - j))
  | .mul, .int i, .int j => if (-(2 ^ 64) < i ∧ i < 2 ^ 64) ∨ (-(2 ^ 64) < j ∧ j < 2 ^ 64) then some (.int (i * j)) else none
  | .fdiv, .int i, .int j => if 0 < j ∧ j < 1073741824 then some (.int (i / j)) else none
  | .mod, .int i, .int j => if 0 < j then some (.int (i % j)) else none
  | .mul, .lst ds, .int n => if 0 ≤ n ∧ n ≤ 4096 then fits (repD ds n.toNat) (.lst (repD ds n.toNat)) else none
  | .mul, .tup ds, .int n => if ds ≠ [] ∧ 2 ≤ n ∧ n ≤ 1000 ∧ ds.length ≤ 1000 then some (.tup (repD ds n.toNat)) else none
  | .pow, .int i, .int j => if 0 ≤ j ∧ j ≤ 1000000 ∧ i.natAbs < 2 ^ 64 then some (.int (i ^ j.toNat)) else none
  | .shl, .int i, .int j => if 0 ≤ j ∧ j ≤ 1000000 ∧ i.natAbs < 2 ^ 64 then some (.int (i * 2 ^ j.toNat)) else none
  | .shr, .int i, .int j => if 0 ≤ j then some (.int (i / 2 ^ j.toNat)) else none
  | .band, .int i, .int j => some (.int (Builtin.bitAnd i j))
  | .bor, .int i, .int j => some (.int (Builtin.bitOr i j))
  | .bxor, .int i, .int j => some (.int (Builtin.bitXor i j))
  | _, _, _ => none
def D.scal : D → Bool
  | .non => true
  | .bl _ => true
  | .int _ => true
  | .str _ => true
  | _ => false
/-- tuples of such, no lists; the empty dict too -/
def D.shT : Nat → D → Bool
  | _, .non => true
  | _, .bl _ => true
  | _, .int _ => true
  | _, .str s => PyData.strOk s
  | n + 1, .tup ds => ds.all (D.shT n)
  | _ + 1, .dct ks _ => ks.isEmpty
  | _, _ => false
def reprOk (d : D) : Bool := (D.lay DEEP d || D.shT DEEP d) && d.toP.showable && ((d.toP.intsShort 13 && decide (d.toP.weight ≤ 2 ^ 20)) || (d.toP.intsShort 200 && decide (d.toP.weight ≤ 2 ^ 16)))
/-- the ints of a list in order, each once -/
def insI (i : Int) : List Int → List Int
  | [] => [i]
  | j :: r => if i < j then i :: j :: r else if i = j then j :: r else j :: insI i r
def ssetI : List Int → List Int
  | [] => []
  | i :: r => insI i (ssetI r)
def D.isTup : D → Bool
  | .tup _ => true
  | _ => false
/-- tuples of scalars and such tuples, at most so deep -/
def D.hsh : Nat → D → Bool
  | _, .non => true
  | _, .bl _ => true
  | _, .int _ => true
  | _, .str _ => true
  | n + 1, .tup ds => ds.all (D.hsh n)
  | _, _ => false
abbrev KDEEP : Nat := 7
/-- a key that is an int or a text -/
def D.skey : D → Bool
  | .int _ => true
  | .str _ => true
  | _ => false
def D.dkey : D → L2.Key
  | .int i => .inl i
  | .str s => .inr s
  | _ => .inl 0
def D.tkey (d : D) : Bool := d.isTup && d.hsh KDEEP
/-- keys of one of the two sorts -/
def keysOk (ks : List D) : Bool := ks.all D.skey || ks.all D.tkey
/-- == may be asked of the two -/
def eqOk (a b : D) : Bool := (D.lay DEEP a && D.lay DEEP b) || (a.scal && b.scal)
def D.eqNone : D → Bool
  | .non => true
  | _ => false
/-- order of rows of ints -/
def lexI : List Int → List Int → Bool
  | x :: xs, y :: ys => if x = y then lexI xs ys else decide (x < y)
  | [], _ :: _ => true
  | _, _ => false
def tupI (f : List Int → List Int → Bool) (a b : List D) : Option Bool := (intsOf a).bind fun x => (intsOf b).map fun y => f x y
/-- a tuple of anything beside the empty one; a dict beside a tuple -/
def tupNil : D → D → Option Bool
  | .tup a, .tup [] => some a.isEmpty
  | .dct _ _, .tup _ => some false
  | _, _ => none
theorem tupNil_inv {d e : D} {c : Bool} (h : tupNil d e = some c) : (∃ ds, d = .tup ds ∧ e = .tup [] ∧ c = ds.isEmpty) ∨ ∃ ks vs ds, d = .dct ks vs ∧ e = .tup ds ∧ c = false := by
  unfold tupNil at h
  split at h
  · cases h
    exact .inl ⟨_, rfl, rfl, rfl⟩
  · cases h
    exact .inr ⟨_, _, _, rfl, rfl, rfl⟩
  · cases h
/-- a dict beside the empty one -/
def dctNil : D → D → Option Bool
  | .dct ks _, .dct [] _ => if ks.all D.skey = true then some (!ks.isEmpty) else none
  | _, _ => none
theorem dctNil_inv {d e : D} {c : Bool} (h : dctNil d e = some c) : ∃ ks vs us, d = .dct ks vs ∧ e = .dct [] us ∧ ks.all D.skey = true ∧ c = !ks.isEmpty := by
  unfold dctNil at h
  split at h
  · split at h
    · cases h
      exact ⟨_, _, _, rfl, rfl, by assumption, rfl⟩
    · cases h
  · cases h
def D.ltb (a b : D) : Bool := PySem.W.dataLt a.toP b.toP
def D.leb (a b : D) : Bool := !D.ltb b a
def D.ali (a b : D) : Bool := PySem.W.alike a.toP b.toP
def D.isNon : D → Bool
  | .non => true
  | _ => false
/-- x != [], x any list -/
def lstNil : D → D → Option Bool
  | .lst a, .lst [] => some (!a.isEmpty)
  | _, _ => none
theorem lstNil_inv {d e : D} {c : Bool} (h : lstNil d e = some c) : ∃ a, d = .lst a ∧ e = .lst [] ∧ c = !a.isEmpty := by
  unfold lstNil at h
  split at h
  · cases h
    exact ⟨_, rfl, rfl, rfl⟩
  · cases h
/-- a < b, alike data -/
def ltdE (a b : D) : Option Bool := if D.lay DEEP a && D.lay DEEP b && D.ali a b && !a.isNon then some (D.ltb a b) else none
def coEv : Co → D → D → Option Bool
  | .eqn, a, b => if eqOk a b then some (D.eqb a b) else tupNil a b
  | .nen, a, b => dctNil a b
  | .nel, a, b => lstNil a b
  | .ltd, a, b => ltdE a b
  | .lt, .tup a, .tup b => tupI lexI a b
  | .gt, .tup a, .tup b => tupI (fun x y => lexI y x) a b
  | .le, .tup a, .tup b => tupI (fun x y => !lexI y x) a b
  | .ge, .tup a, .tup b => tupI (fun x y => !lexI x y) a b
  | .eq, a, b => if eqOk a b then some (D.eqb a b) else none
  | .ne, a, b => if eqOk a b then some (!D.eqb a b) else none
  | .lt, .int i, .int j => some (decide (i < j))
  | .le, .int i, .int j => some (decide (i ≤ j))
  | .gt, .int i, .int j => some (decide (j < i))
  | .ge, .int i, .int j => some (decide (j ≤ i))
  | .inn, x, .tup ds => if ds.all fun d => eqOk d x then some (ds.any fun d => D.eqb d x) else none
  | .inn, x, .lst ds => if ds.all fun d => eqOk d x then some (ds.any fun d => D.eqb d x) else none
  | .notin, x, .tup ds => if ds.all fun d => eqOk d x then some (!ds.any fun d => D.eqb d x) else none
  | .notin, x, .lst ds => if ds.all fun d => eqOk d x then some (!ds.any fun d => D.eqb d x) else none
  | .inn, x, .dct ks _ => if keysOk (x :: ks) then some (dhas ks x) else none
  | .notin, x, .dct ks _ => if keysOk (x :: ks) then some (!dhas ks x) else none
  | .isn, x, .non => some x.eqNone
  | .isnot, x, .non => some (!x.eqNone)
  | _, _, _ => none
/-- the place of an index -/
def ixOf (n : Nat) (i : Int) : Option Nat := if 0 ≤ i then (if i < n then some i.toNat else none) else if -(n : Int) ≤ i then some (i + n).toNat else none
def atD (ds : List D) (i : Int) : Option D := (ixOf ds.length i).bind fun j => ds[j]?
/-- where a cut begins or ends -/
def cutAt (n d : Nat) : Option Int → Nat
  | none => d
  | some v => if v < 0 then (v + (n : Int)).toNat else min v.toNat n
def cutD (ds : List D) (lo hi : Option Int) : List D := (ds.drop (cutAt ds.length 0 lo)).take (cutAt ds.length ds.length hi - cutAt ds.length 0 lo)
def sortOk (ds : List D) : Bool := ds.all fun a => D.lay DEEP a && !a.isNon && ds.all fun b => D.ali a b
/-- List.merge, List.mergeSort, so that the kernel can reckon them -/
def mergeF {α : Type} (le : α → α → Bool) : Nat → List α → List α → List α
  | 0, xs, ys => xs ++ ys
  | _ + 1, [], ys => ys
  | _ + 1, xs, [] => xs
  | n + 1, x :: xs, y :: ys => if le x y then x :: mergeF le n xs (y :: ys) else y :: mergeF le n (x :: xs) ys
theorem mergeF_eq {α : Type} (le : α → α → Bool) : ∀ (n : Nat) (xs ys : List α), xs.length + ys.length ≤ n → mergeF le n xs ys = List.merge xs ys le
  | 0, [], [], _ => by simp [mergeF]
  | 0, _ :: _, _, h => by simp at h
  | 0, _, _ :: _, h => by simp at h
  | n + 1, [], ys, _ => by simp [mergeF]
  | n + 1, x :: xs, [], _ => by simp [mergeF]
  | n + 1, x :: xs, y :: ys, h => by
    simp only [List.length_cons] at h
    rw [List.merge, mergeF, mergeF_eq le n xs (y :: ys) (by simp only [List.length_cons]; omega), mergeF_eq le n (x :: xs) ys (by simp only [List.length_cons]; omega)]
def msF {α : Type} (le : α → α → Bool) : Nat → List α → List α
  | 0, xs => xs
  | _ + 1, [] => []
  | _ + 1, [a] => [a]
  | n + 1, a :: b :: xs => mergeF le (xs.length + 2) (msF le n ((a :: b :: xs).take ((xs.length + 2 + 1) / 2))) (msF le n ((a :: b :: xs).drop ((xs.length + 2 + 1) / 2)))
theorem msF_eq {α : Type} (le : α → α → Bool) : ∀ (n : Nat) (xs : List α), xs.length ≤ n → msF le n xs = xs.mergeSort le
  | 0, [], _ => by simp [msF]
  | 0, _ :: _, h => by simp at h
  | n + 1, [], _ => by simp [msF]
  | n + 1, [a], _ => by simp [msF]
  | n + 1, a :: b :: xs, h => by
    simp only [List.length_cons] at h
    rw [msF, List.mergeSort]
    rw [msF_eq le n _ (by simp only [List.length_take, List.length_cons]; omega), msF_eq le n _ (by simp only [List.length_drop, List.length_cons]; omega), mergeF_eq le _ _ _ (by simp only [List.length_mergeSort, List.length_take, List.length_drop, List.length_cons]; omega)]
    simp [List.MergeSort.Internal.splitInTwo_fst, List.MergeSort.Internal.splitInTwo_snd]
def sortD (ds : List D) : List D := msF D.leb ds.length ds
theorem sortD_eq (ds : List D) : sortD ds = ds.mergeSort D.leb := msF_eq _ _ _ (Nat.le_refl _)
def pairsOf : List D → Option (List (D × D))
  | [] => some []
  | .tup [k, v] :: r => (pairsOf r).map ((k, v) :: ·)
  | _ => none
def minsI : Int → List Int → Int
  | m, [] => m
  | m, i :: r => minsI (if i < m then i else m) r
def maxsI : Int → List Int → Int
  | m, [] => m
  | m, i :: r => maxsI (if m < i then i else m) r
/-- the name of its class -/
def D.tyn : D → Option String
  | .non => some "NoneType"
  | .bl _ => some "bool"
  | .int _ => some "int"
  | .str _ => some "str"
  | .tup _ => some "tuple"
  | .lst _ => some "list"
  | .dct _ _ => some "dict"
  | .ref _ => none
  | .fn _ => none
  | .tpx _ => none
  | .er _ _ => none
def lenEv (st : Store) : List D → Option D
  | [.tup ds] => some (.int ds.length)
  | [.lst ds] => some (.int ds.length)
  | [.dct ks _] => some (.int ks.length)
  | [.str s] => if s.length ≤ LIM then some (.int s.length) else none
  | [.ref n] => match st[n]? with
    | some (.lst ds) => some (.int ds.length)
    | _ => none
  | _ => none
def sumEv (_ : Store) : List D → Option D
  | [.lst ds] => (intsOf ds).map fun is => .int is.sum
  | _ => none
def allEv (_ : Store) : List D → Option D
  | [.lst ds] => (blsOf ds).map fun bs => .bl (bs.all id)
  | _ => none
def anyEv (_ : Store) : List D → Option D
  | [.lst ds] => (((blsOf ds).map fun bs => bs.any id).or ((intsOf ds).map fun is => is.any fun i => i != 0)).map D.bl
  | _ => none
def tupEv (_ : Store) : List D → Option D
  | [.tup ds] => some (.tup ds)
  | [.lst ds] => some (.tup ds)
  | _ => none
def ldEv (_ : Store) : List D → Option D
  | [.tup ds] => some (.lst ds)
  | [.lst ds] => some (.lst ds)
  | [.dct ks _] => some (.lst ks)
  | _ => none
def intEv (_ : Store) : List D → Option D
  | [.int i] => some (.int i)
  | [.bl b] => some (.int (if b then 1 else 0))
  | _ => none
def min2Ev (_ : Store) : List D → Option D
  | [.int i, .int j] => some (.int (if j < i then j else i))
  | _ => none
def max2Ev (_ : Store) : List D → Option D
  | [.int i, .int j] => some (.int (if j > i then j else i))
  | _ => none
def min1Ev (_ : Store) : List D → Option D
  | [.lst ds] => (intsOf ds).bind fun is => match is with | [] => none | i :: r => some (.int (minsI i r))
  | _ => none
def max1Ev (_ : Store) : List D → Option D
  | [.lst ds] => (intsOf ds).bind fun is => match is with | [] => none | i :: r => some (.int (maxsI i r))
  | _ => none
def isEv (f : String → Bool) (_ : Store) : List D → Option D
  | [d] => d.tyn.map fun t => .bl (f t)
  | _ => none
def srtEv (_ : Store) : List D → Option D
  | [.lst ds] => if sortOk ds then some (.lst (sortD ds)) else none
  | [.tup ds] => if sortOk ds then some (.lst (sortD ds)) else none
  | [.dct ks _] => if sortOk ks then some (.lst (sortD ks)) else none
  | _ => none
/-- the first of the greatest of alike data -/
def maxDs (d : D) (ds : List D) : D := ds.foldl (fun a y => if D.ltb a y then y else a) d
def maxdEv (_ : Store) : List D → Option D
  | [.lst (d :: ds)] => if sortOk (d :: ds) then some (maxDs d ds) else none
  | _ => none
/-- the first of the least of alike data -/
def minDs (d : D) (ds : List D) : D := ds.foldl (fun a y => if D.ltb y a then y else a) d
/-- repr of a list of things, empty dicts among them -/
def reprLOk (ds : List D) : Bool := (ds.all fun d => D.lay 28 d || D.shT 28 d) && (D.lst ds).toP.showable && ((D.lst ds).toP.intsShort 200 && decide ((D.lst ds).toP.weight ≤ 2 ^ 16))
def reprlEv (_ : Store) : List D → Option D
  | [.lst ds] => if reprLOk ds = true then some (.str (D.lst ds).toP.shown) else none
  | _ => none
def mindEv (_ : Store) : List D → Option D
  | [.lst (d :: ds)] => if sortOk (d :: ds) then some (minDs d ds) else none
  | _ => none
/-- len(set(tuple of ints)) -/
def lsetEv (_ : Store) : List D → Option D
  | [.tup ds] => (intsOf ds).bind fun is => if is.length < 64 then some (.int (ssetI is).length) else none
  | _ => none
def D.tlen : D → Int
  | .tup ds => ds.length
  | _ => 0
def srtlEv : D → Option D
  | .lst ds => if ds.all D.isTup then some (.lst (ds.mergeSort fun a b => decide (a.tlen ≤ b.tlen))) else none
  | _ => none
def ssetEv (_ : Store) : List D → Option D
  | [.lst ds] => (intsOf ds).bind fun is => if is.length < 64 then some (.lst ((ssetI is).map .int)) else none
  | _ => none
def reprEv (_ : Store) : List D → Option D
  | [.tup ds] => if reprOk (.tup ds) then some (.str (D.tup ds).toP.shown) else none
  | [.lst ds] => if reprOk (.lst ds) then some (.str (D.lst ds).toP.shown) else none
  | [.int i] => if reprOk (.int i) then some (.str (D.int i).toP.shown) else none
  | [.str s] => if reprOk (.str s) then some (.str (D.str s).toP.shown) else none
  | [.bl b] => some (.str (D.bl b).toP.shown)
  | [.dct ks vs] => if reprOk (.dct ks vs) then some (.str (D.dct ks vs).toP.shown) else none
  | [.non] => some (.str (D.non).toP.shown)
  | _ => none
def dictEv (_ : Store) : List D → Option D
  | [.lst ds] => (pairsOf ds).bind fun ps => if keysOk (ps.map (·.1)) = true then some (.dct (dputs [] [] ps).1 (dputs [] [] ps).2) else none
  | _ => none
/-- tuple(list), known to be a tuple of its own -/
def tupxEv (_ : Store) : List D → Option D
  | [.lst ds] => some (.tpx ds)
  | _ => none
/-- dict(such a tuple) -/
def dicxEv (_ : Store) : List D → Option D
  | [.tpx ds] => (pairsOf ds).bind fun ps => if keysOk (ps.map (·.1)) = true then some (.dct (dputs [] [] ps).1 (dputs [] [] ps).2) else none
  | _ => none
/-- an error's attribute -/
def efldE (ks : List Nat) (j : Nat) : D → Option D
  | .er k vs => if ks.contains k = true then vs[j]? else none
  | _ => none
def isxE (ks : List Nat) : D → Option D
  | .er k _ => some (.bl (ks.contains k))
  | _ => none
def unxE : D → Option D
  | .tpx ds => some (.tup ds)
  | _ => none
def isT : Bi → String → Bool
  | .isint, t => t == "int" || t == "bool"
  | .isbool, t => t == "bool"
  | .istup, t => t == "tuple"
  | .isstr, t => t == "str"
  | _, _ => false
def biEv (st : Store) : Bi → List D → Option D
  | .len => lenEv st
  | .sum => sumEv st
  | .all => allEv st
  | .any => anyEv st
  | .tuple => tupEv st
  | .list => ldEv st
  | .sorted => srtEv st
  | .sset => ssetEv st
  | .dict => dictEv st
  | .repr => reprEv st
  | .int => intEv st
  | .min1 => min1Ev st
  | .max1 => max1Ev st
  | .min2 => min2Ev st
  | .max2 => max2Ev st
  | .maxd => maxdEv st
  | .mind => mindEv st
  | .reprl => reprlEv st
  | .lset => lsetEv st
  | .tupx => tupxEv st
  | .dicx => dicxEv st
  | .isint => isEv (isT .isint) st
  | .isbool => isEv (isT .isbool) st
  | .istup => isEv (isT .istup) st
  | .isstr => isEv (isT .isstr) st
  | _ => fun _ => none
def subEv (st : Store) : D → D → Option D
  | .tup ds, .int i => atD ds i
  | .lst ds, .int i => atD ds i
  | .dct ks vs, k => if keysOk (k :: ks) then dlook ks vs k else none
  | .ref n, k => match st[n]? with
    | some (.lst ds) => match k with | .int i => atD ds i | _ => none
    | some (.dct ks vs) => if keysOk (k :: ks) then dlook ks vs k else none
    | _ => none
  | _, _ => none
def getEv (st : Store) (d k x : D) : Option D := match d with
  | .dct ks vs => if keysOk (k :: ks) then some ((dlook ks vs k).getD x) else none
  | _ => none
def cutEv : D → Option Int → Option Int → Option D
  | .tup ds, lo, hi => some (.tup (cutD ds lo hi))
  | .lst ds, lo, hi => some (.lst (cutD ds lo hi))
  | _, _, _ => none
def revEv : D → Option D
  | .tup ds => some (.tup ds.reverse)
  | .lst ds => some (.lst ds.reverse)
  | _ => none
def negEv : D → Option D
  | .int i => some (.int (-i))
  | _ => none
def oneD (f : D → Option D) : List D → Option D
  | [a] => f a
  | _ => none
def twoD (f : D → D → Option D) : List D → Option D
  | [a, b] => f a b
  | _ => none
def threeD (f : D → D → D → Option D) : List D → Option D
  | [a, b, c] => f a b c
  | _ => none
def hasrE (st : Store) (ng : Bool) (x d : D) : Option D := match d with
  | .ref n => match st[n]? with
    | some (.dct ks _) => if keysOk (x :: ks) then some (.bl (if ng then !dhas ks x else dhas ks x)) else none
    | _ => none
  | _ => none
def prEv (st : Store) : Pr → List D → Option D
  | .bo o => twoD (boEv o)
  | .co o => twoD fun a b => (coEv o a b).map .bl
  | .bi b => biEv st b
  | .sub => twoD (subEv st)
  | .cut true true => threeD fun a i j => (intOf i).bind fun i => (intOf j).bind fun j => cutEv a (some i) (some j)
  | .cut true false => twoD fun a i => (intOf i).bind fun i => cutEv a (some i) none
  | .cut false true => twoD fun a j => (intOf j).bind fun j => cutEv a none (some j)
  | .cut false false => oneD fun a => cutEv a none none
  | .rev => oneD revEv
  | .neg => oneD negEv
  | .get1 => twoD fun d k => getEv st d k .non
  | .get2 => threeD (getEv st)
  | .hasr ng => twoD (hasrE st ng)
def ofOpt {α : Type} (o : Option α) (st : Store) : Res α := match o with
  | some a => .ok a st
  | none => .stuck
structure Par where
  glob : List D
  wf : Nat
  call : Nat → List D → Store → Res D
  /-- so deep may calls still go -/
  dep : Nat
def getS (env : Env) (i : Nat) : Option D := match env[i]? with
  | some (some (false, d)) => some d
  | _ => none
def getW (env : Env) (i : Nat) : Option D := match env[i]? with
  | some (some (_, d)) => some d
  | _ => none
def wipeE (env : Env) : List Nat → Env
  | [] => env
  | v :: vs => (wipeE env vs).set v none
/-- the slots a target stores to -/
def Tg.ixs : Tg → List Nat
  | .name i => [i]
  | .pair a b => a.ixs ++ b.ixs
  | .trip a b c => a.ixs ++ (b.ixs ++ c.ixs)
  | .quad a b c d => a.ixs ++ (b.ixs ++ (c.ixs ++ d.ixs))
/-- a target's stores -/
def Tg.put : Tg → D → Env → Option Env
  | .name i, d, env => some (env.set i (some (false, d)))
  | .pair a b, d, env => match d with
    | .tup [x, y] => (a.put x env).bind fun e => b.put y e
    | _ => none
  | .trip a b c, d, env => match d with
    | .tup [x, y, z] => (a.put x env).bind fun e => (b.put y e).bind fun e' => c.put z e'
    | _ => none
  | .quad a b c f, d, env => match d with
    | .tup [x, y, z, u] => (a.put x env).bind fun e => (b.put y e).bind fun e' => (c.put z e').bind fun e'' => f.put u e''
    | _ => none
def enumFrom : Int → List D → List D
  | _, [] => []
  | n, d :: r => .tup [.int n, d] :: enumFrom (n + 1) r
def rngFrom (lo : Int) : Nat → List D
  | 0 => []
  | n + 1 => .int lo :: rngFrom (lo + 1) n
def rngD (lo hi : Int) : List D := rngFrom lo (hi - lo).toNat
def okR (i : Int) : Bool := decide (-(2 ^ 62) ≤ i) && decide (i < 2 ^ 62)
def zipD : List D → List D → List D
  | a :: r, b :: s => .tup [a, b] :: zipD r s
  | _, _ => []
def zipE : D → D → Option (List D)
  | .tup xs, .tup ys => some (zipD xs ys)
  | .lst xs, .lst ys => some (zipD xs ys)
  | .tup xs, .lst ys => some (zipD xs ys)
  | .lst xs, .tup ys => some (zipD xs ys)
  | _, _ => none
def rng2E : D → D → Option (List D)
  | .int i, .int j => if okR i && okR j then some (rngD i j) else none
  | _, _ => none
/-- tuple(range(..)), list(range(..)) -/
def rngxE (t : Bool) : D → D → Option D
  | .int i, .int j => if okR i && okR j && decide ((j - i).toNat ≤ LIM) then some (if t then .tup (rngD i j) else .lst (rngD i j)) else none
  | _, _ => none
def itemsOf : D → Option (List D)
  | .tup ds => some ds
  | .lst ds => some ds
  | .dct ks _ => some ks
  | _ => none
/-- a dict's pairs -/
def itmsE : D → Option (List D)
  | .dct ks vs => some (zipD ks vs)
  | _ => none
def seqOf : D → Option (List D)
  | .tup ds => some ds
  | .lst ds => some ds
  | _ => none
def ziprE : D → D → D → Option (List D)
  | .int i, .int j, d => if 0 ≤ i ∧ i ≤ j ∧ j ≤ 1000000 then (seqOf d).map fun xs => zipD (rngFrom i (j - i).toNat) xs else none
  | _, _, _ => none
/-- dict(zip(..)) -/
def dzipE (d e : D) : Option D := (zipE d e).bind fun xs => (pairsOf xs).bind fun ps => if (ps.map (·.1)).all D.skey = true ∧ xs.length ≤ LIM then some (.dct (dputs [] [] ps).1 (dputs [] [] ps).2) else none
/-- {**a, **b} -/
def dmerE : D → D → Option D
  | .dct k1 w1, .dct k2 w2 => if (k1 ++ k2).all D.skey = true ∧ k1.length + k2.length ≤ LIM then some (.dct (dputs [] [] (k1.zip w1 ++ k2.zip w2)).1 (dputs [] [] (k1.zip w1 ++ k2.zip w2)).2) else none
  | _, _ => none
def dmerkE : D → D → D → Option D
  | .dct k1 w1, k, e => if (k1 ++ [k]).all D.skey = true ∧ k1.length < LIM then some (.dct (dputs [] [] (k1.zip w1 ++ [(k, e)])).1 (dputs [] [] (k1.zip w1 ++ [(k, e)])).2) else none
  | _, _, _ => none
/-- list(d.items()) -/
def ditmE (d : D) : Option D := (itmsE d).bind fun xs => fits xs (.lst xs)
def lidxE : D → D → Option D
  | .lst ds, e => if D.lay DEEP (.lst ds) = true ∧ D.lay DEEP e = true ∧ ds.any (fun d => D.eqb d e) = true then some (.int (ds.findIdx fun d => D.eqb d e)) else none
  | _, _ => none
/-- the turns of a comprehension -/
def lcLoop (f : D → Store → Res (List D)) : List D → Store → Res (List D)
  | [], st => .ok [] st
  | d :: r, st => (f d st).bind fun ys st1 => (lcLoop f r st1).bind fun zs st2 => .ok (ys ++ zs) st2
def noExc {α : Type} : Res α → Res α
  | .ok a st => .ok a st
  | _ => .stuck
mutual
/-- what may raise -/
def Ex.mx : Ex → Bool
  | .callX _ _ => true
  | .tup es => es.mx
  | .lst es => es.mx
  | .prim .sub (.cons a (.cons b .nil)) => a.mx && !b.mx
  | .prim (.bi .len) (.cons a .nil) => a.mx
  | .prim (.bi .tuple) (.cons a .nil) => a.mx
  | _ => false
def Exs.mx : Exs → Bool
  | .nil => false
  | .cons e es => e.mx || es.mx
  | .star _ es => es.mx
  | .starz _ _ _ => false
end
/-- what may raise -/
def St.mayX : St → Bool
  | .expC _ _ => true
  | .raise1 _ _ => true
  | .ifs _ _ _ => true
  | .for _ _ _ => true
  | .whl _ _ => true
  | .ret e => e.mx
  | .asg _ e => e.mx
  | .own _ e => e.mx
  | .par _ es => es.mx
  | .app _ e => e.mx
  | .exp e => e.mx
  | .retX _ _ => true
  | _ => false
/-- raised by what may not raise: nothing is told -/
def gx {α : Type} (b : Bool) (r : Res α) : Res α := if b then r else noExc r
def Tpi.ev (ds : List D) : Tpi → Option D
  | .lit s => some (.str s)
  | .fld i => ds[i]?
  | .rep i => ds[i]?.bind fun d => reprEv [] [d]
  | .txt s => some (.str s)
def tisEv (ds : List D) : List Tpi → Option (List D)
  | [] => some []
  | t :: r => (t.ev ds).bind fun d => (tisEv ds r).map (d :: ·)
/-- one text alone, or a row -/
def Tpl.ev (t : Tpl) (ds : List D) : Option D := match t.items with
  | [.txt s] => some (.str s)
  | is => (tisEv ds is).map fun xs => if t.tup then .tup xs else .lst xs
def heardOf (hd : Hd) : Res D → Res D
  | .ok d st => .ok (match hd.told with | some s => .str s | none => d) st
  | .exc c ds st => match hd.cls.lookup c with
    | some t => ofOpt (t.ev ds) st
    | none => .stuck
  | .stuck => .stuck
/-- the attributes of an instance of the c-th class -/
def obAt (st : Store) (c : Nat) : D → Option (List D)
  | .ref n => match st[n]? with
    | some (.tup (.int i :: fs)) => if i = (c : Int) then some fs else none
    | _ => none
  | _ => none
def fldOf (st : Store) (c k : Nat) (d : D) : Option D := (obAt st c d).bind fun fs => fs[k]?
def setF (fs : List D) (k : Nat) (x : D) : List D := if k = fs.length then fs ++ [x] else fs.set k x
def obSet (st : Store) (c k : Nat) (d x : D) : Option Store := match d with
  | .ref n => match obAt st c (.ref n) with
    | some fs => if k ≤ fs.length then some (st.set n (.tup (.int c :: setF fs k x))) else none
    | none => none
  | _ => none
def nonR (r : Res D) (x : D) : Res D := match r with
  | .ok .non st => .ok x st
  | _ => .stuck
/-- a constant of the module that is no dict -/
def globOf (g : List D) (k : Nat) : Option D := match g[k]? with
  | some (.dct _ _) => none
  | o => o
def ggtE (g : List D) (a : Nat) (e : D) : Option D := match g[a]? with
  | some (.dct ks vs) => if ks.all D.skey && e.skey then some ((dlook ks vs e).getD .non) else none
  | _ => none
def gmerE (g : List D) (a b : Nat) : Option D := match g[a]?, g[b]? with
  | some (.dct k1 w1), some (.dct k2 w2) => if (k1 ++ k2).all D.skey = true ∧ k1.length + k2.length ≤ LIM then some (.dct (dputs [] [] (k1.zip w1 ++ k2.zip w2)).1 (dputs [] [] (k1.zip w1 ++ k2.zip w2)).2) else none
  | _, _ => none
/-- the keys of some values -/
def keysBy (f : D → Store → Res D) : List D → Store → Res (List D)
  | [], st => .ok [] st
  | d :: r, st => (noExc (f d st)).bind fun k st1 => if k.lay DEEP then (keysBy f r st1).bind fun ks st2 => .ok (k :: ks) st2 else .stuck
/-- sorted by keys that are alike -/
def srtkE (ds ks : List D) : Option D := if sortOk ks = true ∧ ks.length = ds.length then some (.lst ((msF (fun (a b : D × D) => D.leb a.1 b.1) (ks.zip ds).length (ks.zip ds)).map (·.2))) else none
/-- the table t is known -/
def tabHas (st : Store) (t : Nat) : Bool := match st[t]? with
  | some (.ref j) => j == t
  | _ => false
theorem noExc_ok {α : Type} {r : Res α} {a : α} {st : Store} (h : noExc r = .ok a st) : r = .ok a st := by
  cases r <;> first | exact h | cases h
theorem gx_ok {α : Type} {b : Bool} {r : Res α} {a : α} {st : Store} (h : gx b r = .ok a st) : r = .ok a st := by
  unfold gx at h
  split at h
  · exact h
  · exact noExc_ok h
theorem mayX_ok {α : Type} {b : Bool} {r : Res α} {a : α} {st : Store} (h : (if b = true then r else noExc r) = .ok a st) : r = .ok a st := by
  cases b
  · exact noExc_ok h
  · exact h
def newCell (st : Store) : D → Res D
  | .lst ds => .ok (.ref st.length) (st ++ [.lst ds])
  | .dct ks vs => .ok (.ref st.length) (st ++ [.dct ks vs])
  | _ => .stuck
section
variable (P : Par)
mutual
def Ex.ev : Ex → Env → Store → Res D
  | .v i, env, st => ofOpt (getS env i) st
  | .bor i, env, st => ofOpt (getW env i) st
  | .lit d, _, st => .ok d st
  | .glob k, _, st => ofOpt (globOf P.glob k) st
  | .tup es, env, st => (es.ev env st).bind fun ds st1 => ofOpt (fits ds (.tup ds)) st1
  | .lst es, env, st => (es.ev env st).bind fun ds st1 => ofOpt (fits ds (.lst ds)) st1
  | .prim p es, env, st => (es.ev env st).bind fun ds st1 => ofOpt (prEv st1 p ds) st1
  | .and a b, env, st => (a.ev env st).bind fun d st1 => (ofOpt (blOf d) st1).bind fun t st2 => if t then b.ev env st2 else .ok (.bl false) st2
  | .or a b, env, st => (a.ev env st).bind fun d st1 => (ofOpt (blOf d) st1).bind fun t st2 => if t then .ok (.bl true) st2 else b.ev env st2
  | .not a, env, st => (a.ev env st).bind fun d st1 => (ofOpt d.tru st1).bind fun b st2 => .ok (.bl (!b)) st2
  | .ife c a b, env, st => (c.test env st).bind fun t st1 => if t then a.ev env st1 else b.ev env st1
  | .chain o o' a b c, env, st => (a.ev env st).bind fun x st1 => (b.ev env st1).bind fun y st2 => (ofOpt (coEv o x y) st2).bind fun t st3 => if t then (c.ev env st3).bind fun z st4 => ofOpt ((coEv o' y z).map .bl) st4 else .ok (.bl false) st3
  | .call f es, env, st => (es.ev env st).bind fun ds st1 => noExc (P.call f ds st1)
  | .callX f es, env, st => (es.ev env st).bind fun ds st1 => P.call f ds st1
  | .ggt a e, env, st => (e.ev env st).bind fun d st1 => ofOpt (ggtE P.glob a d) st1
  | .gmer a b, _, st => ofOpt (gmerE P.glob a b) st
  | .lc own tg it ts e, env, st => (it.ev env st).bind fun xs st1 =>
    (noExc (lcLoop (fun x st => match tg.put x (wipeE env own) with
      | some env1 => (ts.all env1 st).bind fun t st2 => if t then (e.ev env1 st2).bind fun y st3 => .ok [y] st3 else .ok [] st2
      | none => .stuck) xs st1)).bind fun ys st2 => ofOpt (fits ys (.lst ys)) st2
  | .lc2 own own2 tg it ts tg2 it2 ts2 e, env, st => (it.ev env st).bind fun xs st1 =>
    (noExc (lcLoop (fun x st => match tg.put x (wipeE env own) with
      | some env1 => (ts.all env1 st).bind fun t st2 => if t then (it2.ev env1 st2).bind fun xs2 st3 =>
          lcLoop (fun x2 st => match tg2.put x2 (wipeE env1 own2) with
            | some env2 => (ts2.all env2 st).bind fun t st2 => if t then (e.ev env2 st2).bind fun y st3 => .ok [y] st3 else .ok [] st2
            | none => .stuck) xs2 st3 else .ok [] st2
      | none => .stuck) xs st1)).bind fun ys st2 => ofOpt (fits ys (.lst ys)) st2
  | .dc own tg it ts k e, env, st => (it.ev env st).bind fun xs st1 =>
    (noExc (lcLoop (fun x st => match tg.put x (wipeE env own) with
      | some env1 => (ts.all env1 st).bind fun t st2 => if t then (k.ev env1 st2).bind fun kd st3 => (e.ev env1 st3).bind fun y st4 => .ok [.tup [kd, y]] st4 else .ok [] st2
      | none => .stuck) xs st1)).bind fun ys st2 => ofOpt ((pairsOf ys).bind fun ps => if keysOk (ps.map (·.1)) && decide (ys.length ≤ LIM) then some (.dct (dputs [] [] ps).1 (dputs [] [] ps).2) else none) st2
  | .dc2 own own2 tg it ts tg2 it2 ts2 k e, env, st => (it.ev env st).bind fun xs st1 =>
    (noExc (lcLoop (fun x st => match tg.put x (wipeE env own) with
      | some env1 => (ts.all env1 st).bind fun t st2 => if t then (it2.ev env1 st2).bind fun xs2 st3 =>
          lcLoop (fun x2 st => match tg2.put x2 (wipeE env1 own2) with
            | some env2 => (ts2.all env2 st).bind fun t st2 => if t then (k.ev env2 st2).bind fun kd st3 => (e.ev env2 st3).bind fun y st4 => .ok [.tup [kd, y]] st4 else .ok [] st2
            | none => .stuck) xs2 st3 else .ok [] st2
      | none => .stuck) xs st1)).bind fun ys st2 => ofOpt ((pairsOf ys).bind fun ps => if keysOk (ps.map (·.1)) && decide (ys.length ≤ LIM) then some (.dct (dputs [] [] ps).1 (dputs [] [] ps).2) else none) st2
  | .dict ks vs, env, st => (ks.ev env st).bind fun kd st1 => (vs.ev env st1).bind fun vd st2 =>
    ofOpt (if kd.all D.skey && decide (kd.length = vd.length) && decide (kd.length ≤ 15) then some (.dct (dputs [] [] (kd.zip vd)).1 (dputs [] [] (kd.zip vd)).2) else none) st2
  | .dict1 k e, env, st => (k.ev env st).bind fun kd st1 => (e.ev env st1).bind fun y st2 => ofOpt (if keysOk [kd] = true then some (.dct (dput [] [] kd y).1 (dput [] [] kd y).2) else none) st2
  | .dict2 k e k2 e2, env, st => (k.ev env st).bind fun kd st1 => (e.ev env st1).bind fun y st2 => (k2.ev env st2).bind fun kd2 st3 => (e2.ev env st3).bind fun y2 st4 => ofOpt (if (keysOk [kd] && keysOk (kd2 :: (dput [] [] kd y).1)) = true then some (.dct (dput (dput [] [] kd y).1 (dput [] [] kd y).2 kd2 y2).1 (dput (dput [] [] kd y).1 (dput [] [] kd y).2 kd2 y2).2) else none) st4
  | .rngx t _ a b, env, st => (a.ev env st).bind fun d st1 => (b.ev env st1).bind fun d2 st2 => ofOpt (rngxE t d d2) st2
  | .srtl e, env, st => (e.ev env st).bind fun d st1 => ofOpt (srtlEv d) st1
  | .lzip a b, env, st => (a.ev env st).bind fun d st1 => (b.ev env st1).bind fun d2 st2 => ofOpt ((zipE d d2).bind fun xs => fits xs (.lst xs)) st2
  | .dzip a b, env, st => (a.ev env st).bind fun d st1 => (b.ev env st1).bind fun d2 st2 => ofOpt (dzipE d d2) st2
  | .dmer a b, env, st => (a.ev env st).bind fun d st1 => (b.ev env st1).bind fun d2 st2 => ofOpt (dmerE d d2) st2
  | .dmerk a k e, env, st => (a.ev env st).bind fun d st1 => (k.ev env st1).bind fun d2 st2 => (e.ev env st2).bind fun d3 st3 => ofOpt (dmerkE d d2 d3) st3
  | .unx e, env, st => (e.ev env st).bind fun d st1 => ofOpt (unxE d) st1
  | .ditm e, env, st => (e.ev env st).bind fun d st1 => ofOpt (ditmE d) st1
  | .sitm e, env, st => (e.ev env st).bind fun d st1 => ofOpt ((itmsE d).bind fun xs => if sortOk xs = true ∧ xs.length ≤ LIM then some (.lst (sortD xs)) else none) st1
  | .lidx a e, env, st => (a.ev env st).bind fun d st1 => (e.ev env st1).bind fun d2 st2 => ofOpt (lidxE d d2) st2
  | .srtk t k e, env, st => (e.ev env st).bind fun d st1 => if tabHas st1 t then (match d with | .lst ds => (keysBy (fun x st => P.call k [x] st) ds st1).bind fun ks st2 => ofOpt (srtkE ds ks) st2 | _ => .stuck) else .stuck
  | .new e, env, st => (e.ev env st).bind fun d st1 => newCell st1 d
  | .lam t k, _, st => if tabHas st t then .ok (.fn k) st else .stuck
  | .callv i es, env, st => (es.ev env st).bind fun ds st1 => match getS env i with
    | some (.fn k) => noExc (P.call k ds st1)
    | _ => .stuck
  | .fld c k e, env, st => (e.ev env st).bind fun d st1 => ofOpt (fldOf st1 c k d) st1
  | .meth c f o es, env, st => (o.ev env st).bind fun d st1 => (ofOpt (obAt st1 c d) st1).bind fun _ st2 => (es.ev env st2).bind fun ds st3 => noExc (P.call f (d :: ds) st3)
  | .mke k m es, env, st => (es.ev env st).bind fun ds st1 => ofOpt (if ds.length = m then some (.er k ds) else none) st1
  | .efld _ ks j e, env, st => (e.ev env st).bind fun d st1 => ofOpt (efldE ks j d) st1
  | .isx _ ks e, env, st => (e.ev env st).bind fun d st1 => ofOpt (isxE ks d) st1
  | .mkob c f es, env, st => (es.ev env st).bind fun ds st1 => nonR (P.call f (.ref st1.length :: ds) (st1 ++ [.tup [.int c]])) (.ref st1.length)
  | .heard t hd _ f es, env, st => if tabHas st t then heardOf hd ((noExc (es.ev env st)).bind fun ds st1 => P.call f ds st1) else .stuck
/-- as a test -/
def Ex.test : Ex → Env → Store → Res Bool
  | .and a b, env, st => (a.test env st).bind fun t st1 => if t then b.test env st1 else .ok false st1
  | .or a b, env, st => (a.test env st).bind fun t st1 => if t then .ok true st1 else b.test env st1
  | .not a, env, st => (a.test env st).bind fun t st1 => .ok (!t) st1
  | .ife c a b, env, st => (c.test env st).bind fun t st1 => if t then a.test env st1 else b.test env st1
  | .v i, env, st => ofOpt ((getS env i).bind D.tru) st
  | .bor i, env, st => ofOpt ((getW env i).bind D.tru) st
  | .lit d, _, st => ofOpt d.tru st
  | .prim p es, env, st => (es.ev env st).bind fun ds st1 => (ofOpt (prEv st1 p ds) st1).bind fun d st2 => ofOpt d.tru st2
  | .chain o o' a b c, env, st => (a.ev env st).bind fun x st1 => (b.ev env st1).bind fun y st2 => (ofOpt (coEv o x y) st2).bind fun t st3 => if t then (c.ev env st3).bind fun z st4 => ofOpt (coEv o' y z) st4 else .ok false st3
  | .call f es, env, st => (es.ev env st).bind fun ds st1 => (noExc (P.call f ds st1)).bind fun d st2 => ofOpt d.tru st2
  | .callv i es, env, st => (es.ev env st).bind fun ds st1 => match getS env i with
    | some (.fn k) => (noExc (P.call k ds st1)).bind fun d st2 => ofOpt d.tru st2
    | _ => .stuck
  | _, _, _ => .stuck
def Exs.ev : Exs → Env → Store → Res (List D)
  | .nil, _, st => .ok [] st
  | .cons e es, env, st => (gx e.mx (e.ev env st)).bind fun d st1 => (es.ev env st1).bind fun ds st2 => .ok (d :: ds) st2
  | .star e es, env, st => (noExc (e.ev env st)).bind fun d st1 => (ofOpt (seqOf d) st1).bind fun xs st2 => (es.ev env st2).bind fun ds st3 => .ok (xs ++ ds) st3
  | .starz a b es, env, st => (noExc (a.ev env st)).bind fun d st1 => (noExc (b.ev env st1)).bind fun d2 st2 => (ofOpt ((zipE d d2).bind fun xs => if xs.length ≤ LIM then some xs else none) st2).bind fun xs st3 => (noExc (es.ev env st3)).bind fun ds st4 => .ok (xs ++ ds) st4
def Exs.all : Exs → Env → Store → Res Bool
  | .nil, _, st => .ok true st
  | .cons e es, env, st => (e.test env st).bind fun t st1 => if t then es.all env st1 else .ok false st1
  | .star _ _, _, _ => .stuck
  | .starz _ _ _, _, _ => .stuck
def It.ev : It → Env → Store → Res (List D)
  | .ex e, env, st => (e.ev env st).bind fun d st1 => ofOpt (itemsOf d) st1
  | .rng1 a, env, st => (a.ev env st).bind fun d st1 => ofOpt (rng2E (.int 0) d) st1
  | .rng2 a b, env, st => (a.ev env st).bind fun d st1 => (b.ev env st1).bind fun d2 st2 => ofOpt (rng2E d d2) st2
  | .enum e, env, st => (e.ev env st).bind fun d st1 => ofOpt ((seqOf d).map (enumFrom 0)) st1
  | .zip a b, env, st => (a.ev env st).bind fun d st1 => (b.ev env st1).bind fun d2 st2 => ofOpt (zipE d d2) st2
  | .zipr a b e, env, st => (a.ev env st).bind fun d st1 => (b.ev env st1).bind fun d2 st2 => (e.ev env st2).bind fun d3 st3 => ofOpt (ziprE d d2 d3) st3
  | .items e, env, st => (e.ev env st).bind fun d st1 => ofOpt (itmsE d) st1
end
def forLoop (tg : Tg) (f : Env → Store → Res (Flow × Env)) : List D → Env → Store → Res (Flow × Env)
  | [], env, st => .ok (.next, env) st
  | d :: r, env, st => match tg.put d env with
    | none => .stuck
    | some env1 => (f env1 st).bind fun (fl, env2) st1 => match fl with
      | .next => forLoop tg f r env2 st1
      | .cont => forLoop tg f r env2 st1
      | .brk => .ok (.next, env2) st1
      | .ret d => .ok (.ret d, env2) st1
def whlLoop (c : Env → Store → Res Bool) (f : Env → Store → Res (Flow × Env)) : Nat → Env → Store → Res (Flow × Env)
  | 0, _, _ => .stuck
  | n + 1, env, st => (noExc (c env st)).bind fun t st1 => if t then (f env st1).bind fun (fl, env2) st2 => match fl with
      | .next => whlLoop c f n env2 st2
      | .cont => whlLoop c f n env2 st2
      | .brk => .ok (.next, env2) st2
      | .ret d => .ok (.ret d, env2) st2
    else .ok (.next, env) st1
def D.isCell : D → Bool
  | .lst _ => true
  | .dct _ _ => true
  | _ => false
def parPut : List (Nat × Bool) → List D → Env → Option Env
  | [], [], env => some env
  | (i, o) :: is, d :: ds, env => if !o || d.isCell then parPut is ds (env.set i (some (o, d))) else none
  | _, _, _ => none
def putCell (st : Store) : D → D → D → Option Store
  | .ref n, k, v => match st[n]? with
    | some (.lst ds) => match k with
      | .int i => (ixOf ds.length i).map fun j => st.set n (.lst (ds.set j v))
      | _ => none
    | some (.dct ks vs) => if keysOk (k :: ks) && decide (ks.length < LIM) then some (st.set n (.dct (dput ks vs k v).1 (dput ks vs k v).2)) else none
    | _ => none
  | _, _, _ => none
def putOwn : D → D → D → Option D
  | .lst ds, .int i, v => (ixOf ds.length i).map fun j => .lst (ds.set j v)
  | .dct ks vs, k, v => if keysOk (k :: ks) && decide (ks.length < LIM) then some (.dct (dput ks vs k v).1 (dput ks vs k v).2) else none
  | _, _, _ => none
def ownAt (env : Env) (i : Nat) : Option D := match env[i]? with
  | some (some (true, d)) => some d
  | _ => none
/-- the i-th slot owns a list -/
def ownL (env : Env) (i : Nat) : Bool := match ownAt env i with
  | some (.lst _) => true
  | _ => false
/-- the first of some calls that raises; nothing else of them is told -/
def preX : Exs → Env → Store → Res Unit
  | .nil, _, st => .ok () st
  | .cons (.call f es) r, env, st => match (noExc (es.ev P env st)).bind fun ds st1 => P.call f ds st1 with
    | .exc c ds st1 => .exc c ds st1
    | .ok _ _ => preX r env st
    | .stuck => .stuck
  | _, _, _ => .stuck
mutual
def St.ex : St → Env → Store → Res (Flow × Env)
  | .asg tg e, env, st => (gx e.mx (e.ev P env st)).bind fun d st1 => match tg.put d env with
    | some env1 => .ok (.next, env1) st1
    | none => .stuck
  | .own i e, env, st => (gx e.mx (e.ev P env st)).bind fun d st1 => if d.isCell then .ok (.next, env.set i (some (true, d))) st1 else .stuck
  | .par is es, env, st => (es.ev P env st).bind fun ds st1 => match parPut is ds env with
    | some env1 => .ok (.next, env1) st1
    | none => .stuck
  | .put a k e, env, st => (e.ev P env st).bind fun v st1 => (a.ev P env st1).bind fun o st2 => (k.ev P env st2).bind fun kd st3 => match putCell st3 o kd v with
    | some st4 => .ok (.next, env) st4
    | none => .stuck
  | .fset c k o e, env, st => (e.ev P env st).bind fun v st1 => (o.ev P env st1).bind fun od st2 => match obSet st2 c k od v with
    | some st3 => .ok (.next, env) st3
    | none => .stuck
  | .putO i k e, env, st => (e.ev P env st).bind fun v st1 => (k.ev P env st1).bind fun kd st2 => match (ownAt env i).bind fun o => putOwn o kd v with
    | some d => .ok (.next, env.set i (some (true, d))) st2
    | none => .stuck
  | .aug i o e, env, st => (e.ev P env st).bind fun v st1 => match env[i]? with
    | some (some (false, d)) => match d, v, o with
      | .int x, .int y, .add => .ok (.next, env.set i (some (false, .int (x + y)))) st1
      | _, _, _ => .stuck
    | _ => .stuck
  | .app i e, env, st => if ownL env i then (gx e.mx (e.ev P env st)).bind fun v st1 => match ownAt env i with
    | some (.lst ds) => if ds.length < LIM then .ok (.next, env.set i (some (true, .lst (ds ++ [v])))) st1 else .stuck
    | _ => .stuck else .stuck
  | .ext i e, env, st => (e.ev P env st).bind fun v st1 => match ownAt env i, v with
    | some (.lst ds), .lst xs => if ds.length + xs.length ≤ LIM then .ok (.next, env.set i (some (true, .lst (ds ++ xs)))) st1 else .stuck
    | _, _ => .stuck
  | .exp e, env, st => (gx e.mx (e.ev P env st)).bind fun _ st1 => .ok (.next, env) st1
  | .expC f es, env, st => (noExc (es.ev P env st)).bind fun ds st1 => (P.call f ds st1).bind fun _ st2 => .ok (.next, env) st2
  | .ifs c a b, env, st => (noExc (c.test P env st)).bind fun t st1 => if t then a.ex env st1 else b.ex env st1
  | .for tg it b, env, st => (noExc (it.ev P env st)).bind fun xs st1 => forLoop tg (fun env st => b.ex env st) xs env st1
  | .whl c b, env, st => whlLoop (fun env st => c.test P env st) (fun env st => b.ex env st) P.wf env st
  | .ret e, env, st => (gx e.mx (e.ev P env st)).bind fun d st1 => .ok (.ret d, env) st1
  | .retX cs e, env, st => match preX P cs env st with
    | .exc c ds st1 => .exc c ds st1
    | .ok _ _ => (noExc (e.ev P env st)).bind fun d st1 => .ok (.ret d, env) st1
    | .stuck => .stuck
  | .pass, env, st => .ok (.next, env) st
  | .brk, env, st => .ok (.brk, env) st
  | .cont, env, st => .ok (.cont, env) st
  | .raise, _, _ => .stuck
  | .raise1 c e, env, st => (noExc (e.ev P env st)).bind fun d st1 => .exc c [d] st1
  | .frz i, env, st => match env[i]? with
    | some (some (_, d)) => .ok (.next, env.set i (some (false, d))) st
    | _ => .stuck
  | .pop tg i, env, st => match ownAt env i with
    | some (.lst ds) => match ds[ds.length - 1]? with
      | some d => match tg.put d (env.set i (some (true, .lst ds.dropLast))) with
        | some env1 => .ok (.next, env1) st
        | none => .stuck
      | none => .stuck
    | _ => .stuck
  | .appPop j i, env, st => match ownAt env i with
    | some (.lst ds) => match ds[ds.length - 1]? with
      | some d => match ownAt (env.set i (some (true, .lst ds.dropLast))) j with
        | some (.lst xs) => if xs.length < LIM ∧ i ≠ j then .ok (.next, (env.set i (some (true, .lst ds.dropLast))).set j (some (true, .lst (xs ++ [d])))) st else .stuck
        | _ => .stuck
      | none => .stuck
    | _ => .stuck
  | .popT j i e, env, st => match getS env j with
    | some (.tup xs) => (e.ev P env st).bind fun d st1 => match ownAt env i with
      | some (.lst ds) => match d with
        | .int n => match ixOf ds.length n with
          | some m => match ds[m]? with
            | some x => if i ≠ j ∧ xs.length < LIM ∧ ds.length ≤ LIM then .ok (.next, (env.set i (some (true, .lst (ds.eraseIdx m)))).set j (some (false, .tup (xs ++ [x])))) st1 else .stuck
            | none => .stuck
          | none => .stuck
        | _ => .stuck
      | _ => .stuck
    | _ => .stuck
  | .tryR k f _ es, env, st => (noExc (es.ev P env st)).bind fun ds st1 => match P.call f ds st1 with
    | .ok d st2 => .ok (.ret (.lst [d]), env) st2
    | .exc c [v] st2 => if c = k then .ok (.ret v, env) st2 else .stuck
    | _ => .stuck
def Ss.ex : Ss → Env → Store → Res (Flow × Env)
  | .nil, env, st => .ok (.next, env) st
  | .cons s r, env, st => (if s.mayX then s.ex env st else noExc (s.ex env st)).bind fun (fl, env1) st1 => match fl with
    | .next => r.ex env1 st1
    | fl => .ok (fl, env1) st1
end
end
/-- a def: how many parameters, how many slots, its body -/
structure Fd where
  np : Nat
  ns : Nat
  body : Ss
def endOf : Res (Flow × Env) → Res D
  | .ok (.ret d, _) st => .ok d st
  | .ok (.next, _) st => .ok .non st
  | .ok _ _ => .stuck
  | .exc c ds st => .exc c ds st
  | .stuck => .stuck
/-- a run of the k-th def, calls at most n deep -/
def run (T : List Fd) (G : List D) (wf : Nat) : Nat → Nat → List D → Store → Res D
  | 0, _, _, _ => .stuck
  | n + 1, k, ds, st => match T[k]? with
    | some fd => if ds.length = fd.np then endOf (fd.body.ex ⟨G, wf, run T G wf n, n⟩ (ds.map (fun d => some (false, d)) ++ List.replicate (fd.ns - fd.np) none) st) else .stuck
    | none => .stuck
end Dp
set_option Elab.async false
set_option linter.all false
set_option maxRecDepth 100000
set_option maxHeartbeats 4000000
namespace Dp
open PySem PySem.Spec PyProof.Rows L2
/-- the object at f is the lambda F with the body b -/
def LmO (f : Addr) (F : NdefX.NF) (b : Expr) : HO := .ext fun h => ∃ pm ctv : Value, h.get? f = some (PySem.W.kla_obj "<lambda>" F.qual F.params b F.scope F.cl pm F.c ctv)
section
variable {f : Addr} {F : NdefX.NF} {b : Expr}
theorem lmO_at {P : Program} {w : World} {H : Hp} {h : Heap} (hok : HOk P w H h) (e : H f = some (LmO f F b)) : ∃ pm ctv : Value, h.get? f = some (PySem.W.kla_obj "<lambda>" F.qual F.params b F.scope F.cl pm F.c ctv) := by
  obtain ⟨z, _, _⟩ := hok f _ e
  exact z
end
/-- a lambda runs -/
theorem lm_run {CX : CXT} {P : Program} {w : World} {K : PySem.W.Frag} {mg : Str → Option Value} {base : Heap} {N ps : List Str} {F : NdefX.NF} {b : Expr} {f : Addr} {k : Nat} {t : TE} (S : NdefX.NScope N ps [] F.scope) (hcl : F.cl = [])
    (hb : ∀ (pm ctv : Value) (us : List Value), us.length = ps.length → bindArgs (PySem.W.kla_fn "<lambda>" F.qual F.params b F.scope F.cl pm (.ref F.c) ctv) ⟨us, []⟩ = pure (ps.zip us))
    {A : Around} {outer : List PySem.Env} {s : Shared} {H : Hp} {us : List Value} {vs : List V} {Q : VK} {E : XK} (hr : Room (k + 1) A) (e0 : Env0 P w K mg base A outer s H) (hf : H f = some (LmO f F b)) (hc : H F.c = some (LamX.CodeO F.c F.qual)) (r : Vals vs us) (hl : vs.length = ps.length)
    (hbody : PE (NdefX.ncx CX P w K mg base N F f A outer s H E) b t) (hq : t (NdefX.startF N vs []) H Q) :
    codeAny (model P w) A (.call (.ref f) ⟨us, []⟩) (CR CX outer P w H s Q E) s := by
  have lim : s.heap.NoLimit := e0.mod.nolimit.keeps fun b o e => (e0.bs b o e).1
  obtain ⟨pm, ctv, ho⟩ := lmO_at e0.hok hf
  have C : NdefX.CellsAt F.cl [] [] s.heap H := by
    rw [hcl]
    exact ⟨rfl, by simp, by simp, by simp⟩
  refine PySem.W.kla_callFunE hr.depth ho rfl S.co S.gen rfl (NdefX.codeO_at e0.hok hc) ?_
  rw [hb pm ctv us (by rw [← r.length]; exact hl)]
  refine wpAny_pure (wpAny_newFunctionEnv S.nocell (fun ⟨n, _⟩ hy => S.par n (List.of_mem_zip hy).1) (fun h₁ hns hsb => ⟨lim.fresh _ hsb, ?_⟩) S.kind)
  show codeAny _ _ (.expr b (NdefX.envF F f s.heap.objs.size)) _ _
  have kp : ∀ b o, s.heap.get? b = some o → h₁.get? b = some o := fun b o e => hsb.extBut b o (Nat.ne_of_lt (Heap.lt_size e)) (Heap.get?_push_of_some _ e)
  have I : Inv (NdefX.ncx CX P w K mg base N F f A outer s H E) [] (NdefX.startF N vs []) H { s with heap := h₁, toks := s.toks + (ps.zip us).length } := NdefX.inv_startN S hr.hd e0 hl r C hns kp
  refine PySem.W.kla_codeExpr (wpAny_mono (hbody.run [] _ _ H Q I hq) (fun v s' hq => ?_) fun e s' hq => hq)
  obtain ⟨w', H', J', rv, q⟩ := hq
  exact ⟨w', H', J'.os, J'.bare, J'.base, J'.hok, rv, q⟩
end Dp
set_option Elab.async false
set_option linter.all false
set_option maxRecDepth 100000
set_option maxHeartbeats 2000000
namespace Dp
open PySem PySem.Spec PyProof.Rows L2
mutual
/-- a key, up to == -/
def D.nk : D → NestedKey
  | .non => .none
  | .bl b => .num (if b then 1 else 0)
  | .int i => .num i
  | .str s => .text s
  | .tup ds => .tup (D.nks ds)
  | .lst _ => .none
  | .dct _ _ => .none
  | .ref _ => .none
  | .fn _ => .none
  | .tpx _ => .none
  | .er _ _ => .none
def D.nks : List D → List NestedKey
  | [] => []
  | d :: ds => D.nk d :: D.nks ds
end
/-- a dict's own object, by its entries -/
def rawD (a : Addr) (es : List DictEntry × Nat) : Heap → Prop := fun h => ∃ o, h.get? a = some o ∧ o.ExactDict ∧ o.data = .dict es.1.toArray es.2 ∧ (a == sysModules) = false
structure Gx where
  K : PySem.W.Frag
  w : World
  /-- the error classes: where each lies, its fields -/
  et : List (Addr × List Str)
  /-- the classes of instances: where each lies, its attributes in order -/
  oc : List (Addr × List Str) := []
  /-- the tables of the code that makes lambdas: where each lies, what its code is called -/
  tb : List (Addr × Str) := []
  /-- what the lambdas look like that are values -/
  ls : Nat → Arguments → Expr → Scope → Bool := fun _ _ _ _ => false
variable (G : Gx)
mutual
def DV (M ρ : List Addr) (H : Hp) : D → V → Prop
  | .non, v => v = .non
  | .bl b, v => v = .bl b
  | .int i, v => v = .int i
  | .str s, v => v = .str s
  | .tup ds, v => ∃ a vs, v = .ref a ∧ SqT G.K H a vs ∧ DVs M ρ H ds vs
  | .lst ds, v => ∃ a vs, v = .ref a ∧ Rd H a (.lst vs) ∧ a ∉ M ∧ DVs M ρ H ds vs
  | .dct ks vs, v => ∃ a, v = .ref a ∧ a ∉ M ∧ ∃ es kv vv, H a = some (.ext (rawD a es)) ∧ Vals kv (es.1.map (·.key)) ∧ Vals vv (es.1.map (·.val)) ∧
      es.1.map (·.hash) = ks.map (fun k => k.nk.hash G.w) ∧ keysOk ks = true ∧ (ks.map D.nk).Nodup ∧ es.1.length ≤ LIM ∧ DVs M ρ H ks kv ∧ DVs M ρ H vs vv
  | .ref n, v => ∃ a, ρ[n]? = some a ∧ v = .ref a
  | .fn k, v => ∃ (f : Addr) (F : NdefX.NF) (b : Expr), v = .ref f ∧ H f = some (LmO f F b) ∧ H F.c = some (LamX.CodeO F.c F.qual) ∧ F.cl = [] ∧ G.ls k F.params b F.scope = true
  | .tpx ds, v => ∃ a vs o, v = .ref a ∧ H a = some (.frz o (.tup vs)) ∧ o.dict = none ∧ DVs M ρ H ds vs
  | .er k ds, v => ∃ (a dx C : Addr) (fs : List Str) (vs : List V), v = .ref a ∧ G.et[k]? = some (C, fs) ∧ a ∉ M ∧ dx ∉ M ∧ H a = some (exo a C (some dx)) ∧ H dx = some (exd dx (fs.zip vs)) ∧ vs.length = fs.length ∧ DVs M ρ H ds vs
def DVs (M ρ : List Addr) (H : Hp) : List D → List V → Prop
  | [], vs => vs = []
  | d :: ds, vs => ∃ v r, vs = v :: r ∧ DV M ρ H d v ∧ DVs M ρ H ds r
end
/-- a list or a dict that one name or the store alone holds -/
def DW (M ρ : List Addr) (H : Hp) : D → Addr → Prop
  | .lst ds, a => ∃ vs, H a = some (.lst vs) ∧ DVs G M ρ H ds vs
  | .dct ks vs, a => ∃ es kv vv, H a = some (.ext (rawD a es)) ∧ Vals kv (es.1.map (·.key)) ∧ Vals vv (es.1.map (·.val)) ∧
      es.1.map (·.hash) = ks.map (fun k => k.nk.hash G.w) ∧ keysOk ks = true ∧ (ks.map D.nk).Nodup ∧ es.1.length ≤ LIM ∧ DVs G M ρ H ks kv ∧ DVs G M ρ H vs vv
  | _, _ => False
/-- an instance -/
def DOb (M ρ : List Addr) (H : Hp) (a : Addr) : List D → Prop
  | .int i :: ds => ∃ (c : Nat) (C : Addr) (fl : List Str) (dx : Addr) (vs : List V), i = (c : Int) ∧ G.oc[c]? = some (C, fl) ∧ H a = some (.ins C dx (fl.zip vs)) ∧ vs.length ≤ fl.length ∧ DVs G M ρ H ds vs
  | _ => False
/-- a cell of the store: such a list or dict, a table, or an instance -/
def DC (M ρ : List Addr) (H : Hp) : D → Addr → Prop
  | .ref i, a => ∃ q ps, G.tb[i]? = some (a, q) ∧ H a = some (.tbl ps) ∧ TriplesOk ps.toList ∧ ∀ (pos : Pos) (cv : Value), codeAmong pos ps.toList = some cv → ∃ c, cv = .ref c ∧ H c = some (LamX.CodeO c q)
  | .lst ds, a => DW G M ρ H (.lst ds) a
  | .dct ks vs, a => DW G M ρ H (.dct ks vs) a
  | .tup ds, a => DOb G M ρ H a ds
  | _, _ => False
/-- what may change -/
def Mt : HO → Prop
  | .lst _ => True
  | .ext R => ∃ a es, R = rawD a es
  | .dK _ => True
  | .ins _ _ _ => True
  | .tbl _ => True
  | _ => False
/-- a step of the heap: the store's own objects may change and come anew -/
structure Stp (ρ : List Addr) (H : Hp) (ρ' : List Addr) (H' : Hp) : Prop where
  pres : ∀ a o, H a = some o → a ∉ ρ → H' a = some o
  out : ∀ a o, H a = some o → a ∉ ρ → a ∉ ρ'
  refs : ∀ (n : Nat) a, ρ[n]? = some a → ρ'[n]? = some a
def Mk (M : List Addr) (H : Hp) : Prop := ∀ m ∈ M, ∃ o, H m = some o ∧ Mt o
/-- a code object does not change -/
theorem not_mt_code {c : Addr} {q : Str} : ¬ Mt (LamX.CodeO c q) := by
  rintro ⟨a, es, e⟩
  have e' : (fun h : Heap => ∃ (oc : Obj) (vs : Array Value) (t : Tok), h.get? c = some oc ∧ oc.data = .fields vs ∧ vs[1]? = some (.str q t)) = rawD a es := e
  have hg : ({ objs := Array.replicate (c + 1) { cls := .none, data := .fields #[.none, .str q default] } } : Heap).get? c = some { cls := .none, data := .fields #[.none, .str q default] } := by
    unfold Heap.get?
    simp
  have k := congrFun e' { objs := Array.replicate (c + 1) { cls := .none, data := .fields #[.none, .str q default] } }
  obtain ⟨o, g1, _, g2, _⟩ := k.mp ⟨_, _, _, hg, rfl, rfl⟩
  unfold Heap.get? at g1
  simp only [Array.getElem?_replicate] at g1
  split at g1
  · cases g1
  · split at g1
    · cases g1
      cases g2
    · cases g1
theorem mk_code {M : List Addr} {H : Hp} {c : Addr} {q : Str} (mk : Mk M H) (h : H c = some (LamX.CodeO c q)) : c ∉ M := fun z => by
  obtain ⟨o, e, t⟩ := mk c z
  rw [h] at e
  cases e
  exact not_mt_code t
theorem not_mt_lm {f : Addr} {F : NdefX.NF} {b : Expr} : ¬ Mt (LmO f F b) := by
  rintro ⟨a, es, e⟩
  have e' : (fun h : Heap => ∃ pm ctv : Value, h.get? f = some (PySem.W.kla_obj "<lambda>" F.qual F.params b F.scope F.cl pm F.c ctv)) = rawD a es := e
  have hg : ({ objs := Array.replicate (f + 1) (PySem.W.kla_obj "<lambda>" F.qual F.params b F.scope F.cl .none F.c .none) } : Heap).get? f = some (PySem.W.kla_obj "<lambda>" F.qual F.params b F.scope F.cl .none F.c .none) := by
    unfold Heap.get?
    simp
  have k := congrFun e' { objs := Array.replicate (f + 1) (PySem.W.kla_obj "<lambda>" F.qual F.params b F.scope F.cl .none F.c .none) }
  obtain ⟨o, g1, _, g2, _⟩ := k.mp ⟨_, _, hg⟩
  unfold Heap.get? at g1
  simp only [Array.getElem?_replicate] at g1
  split at g1
  · cases g1
  · split at g1
    · cases g1
      cases g2
    · cases g1
theorem mk_lm {M : List Addr} {H : Hp} {f : Addr} {F : NdefX.NF} {b : Expr} (mk : Mk M H) (h : H f = some (LmO f F b)) : f ∉ M := fun z => by
  obtain ⟨o, e, t⟩ := mk f z
  rw [h] at e
  cases e
  exact not_mt_lm t
theorem Stp.refl (ρ : List Addr) (H : Hp) : Stp ρ H ρ H := ⟨fun _ _ h _ => h, fun _ _ _ h => h, fun _ _ h => h⟩
theorem Stp.trans {ρ ρ1 ρ2 : List Addr} {H H1 H2 : Hp} (a : Stp ρ H ρ1 H1) (b : Stp ρ1 H1 ρ2 H2) : Stp ρ H ρ2 H2 :=
  ⟨fun x o h n => b.pres x o (a.pres x o h n) (a.out x o h n), fun x o h n => b.out x o (a.pres x o h n) (a.out x o h n), fun n x h => b.refs n x (a.refs n x h)⟩
/-- something new is laid -/
theorem Stp.laid {ρ : List Addr} {H : Hp} {p : Addr} {o : HO} (hp : H p = none) : Stp ρ H ρ (upd H p o) :=
  ⟨fun a u h _ => by rw [upd_ne (ne_of_none h hp)]; exact h, fun _ _ _ h => h, fun _ _ h => h⟩
variable {G}
theorem not_mt_tup {M : List Addr} {H : Hp} (mk : Mk M H) {a : Addr} {vs : List V} (h : Rd H a (.tup vs)) : a ∉ M := fun hm => by
  obtain ⟨o, e, t⟩ := mk a hm
  rcases h with h | ⟨u, h⟩
  · rw [h] at e; cases e; exact t
  · rw [h] at e; cases e; exact t
theorem rd_keep {H H' : Hp} {a : Addr} {u : HO} (h : Rd H a u) (k : ∀ o, H a = some o → H' a = some o) : Rd H' a u := by
  rcases h with h | ⟨o, h⟩
  · exact .inl (k _ h)
  · exact .inr ⟨o, k _ h⟩
theorem rd_some {H : Hp} {a : Addr} {u : HO} (h : Rd H a u) : ∃ o, H a = some o := by
  rcases h with h | ⟨o, h⟩
  · exact ⟨_, h⟩
  · exact ⟨_, h⟩
/-- all stays, and no new table is laid -/
def Sm (H H' : Hp) : Prop := (∀ b o, H b = some o → H' b = some o) ∧ ∀ b ps, H' b = some (.tbl ps) → H b = some (.tbl ps)
theorem Sm.refl (H : Hp) : Sm H H := ⟨fun _ _ h => h, fun _ _ h => h⟩
theorem Sm.trans {H H1 H2 : Hp} (a : Sm H H1) (b : Sm H1 H2) : Sm H H2 := ⟨fun c o h => b.1 c o (a.1 c o h), fun c o h => a.2 c o (b.2 c o h)⟩
theorem tb_upd {H : Hp} {p : Addr} {o : HO} {S : List Addr} (h : ∀ a ps, H a = some (.tbl ps) → a ∈ S) (ho : (∀ ps, o ≠ .tbl ps) ∨ p ∈ S) : ∀ a ps, upd H p o a = some (.tbl ps) → a ∈ S := fun a ps e => by
  by_cases q : a = p
  · subst q
    rw [upd_same] at e
    cases e
    exact ho.elim (fun z => absurd rfl (z ps)) id
  · rw [upd_ne q] at e
    exact h a ps e
mutual
/-- what is told stays told -/
theorem DV.keep {M M' ρ ρ' : List Addr} {H H' : Hp} (mk : Mk M H) (hp : ∀ a o, H a = some o → a ∉ M → H' a = some o) (hm : ∀ a o, H a = some o → a ∉ M → a ∉ M')
    (hr : ∀ (n : Nat) a, ρ[n]? = some a → ρ'[n]? = some a) : ∀ (d : D) (v : V), DV G M ρ H d v → DV G M' ρ' H' d v
  | .non, _, h => h
  | .bl _, _, h => h
  | .int _, _, h => h
  | .str _, _, h => h
  | .tup ds, v, h => by
    obtain ⟨a, vs, e, hq, hs⟩ := h
    refine ⟨a, vs, e, ?_, DVs.keep mk hp hm hr ds vs hs⟩
    rcases hq with hq | hq
    · exact .inl (rd_keep hq fun o ho => hp a o ho (not_mt_tup mk hq))
    · exact .inr hq
  | .lst ds, v, h => by
    obtain ⟨a, vs, e, hq, ha, hs⟩ := h
    obtain ⟨o, ho⟩ := rd_some hq
    exact ⟨a, vs, e, rd_keep hq fun o ho => hp a o ho ha, hm a o ho ha, DVs.keep mk hp hm hr ds vs hs⟩
  | .dct ks ws, v, h => by
    obtain ⟨a, e, ha, es, kv, vv, hq, h1, h2, h3, h4, h5, h6, h7, h8⟩ := h
    exact ⟨a, e, hm a _ hq ha, es, kv, vv, hp a _ hq ha, h1, h2, h3, h4, h5, h6, DVs.keep mk hp hm hr ks kv h7, DVs.keep mk hp hm hr ws vv h8⟩
  | .ref n, v, h => by
    obtain ⟨a, h1, h2⟩ := h
    exact ⟨a, hr n a h1, h2⟩
  | .fn k, v, h => by
    obtain ⟨f, F, b, e, h1, h2, h3⟩ := h
    exact ⟨f, F, b, e, hp f _ h1 (mk_lm mk h1), hp _ _ h2 (mk_code mk h2), h3⟩
  | .tpx ds, v, h => by
    obtain ⟨a, vs, o, e, h1, h2, hs⟩ := h
    exact ⟨a, vs, o, e, hp a _ h1 (not_mt_tup mk (.inr ⟨o, h1⟩)), h2, DVs.keep mk hp hm hr ds vs hs⟩
  | .er k ds, v, h => by
    obtain ⟨a, dx, C, fs, vs, e, h1, ha, hd, h2, h3, h4, hs⟩ := h
    exact ⟨a, dx, C, fs, vs, e, h1, hm a _ h2 ha, hm dx _ h3 hd, hp a _ h2 ha, hp dx _ h3 hd, h4, DVs.keep mk hp hm hr ds vs hs⟩
theorem DVs.keep {M M' ρ ρ' : List Addr} {H H' : Hp} (mk : Mk M H) (hp : ∀ a o, H a = some o → a ∉ M → H' a = some o) (hm : ∀ a o, H a = some o → a ∉ M → a ∉ M')
    (hr : ∀ (n : Nat) a, ρ[n]? = some a → ρ'[n]? = some a) : ∀ (ds : List D) (vs : List V), DVs G M ρ H ds vs → DVs G M' ρ' H' ds vs
  | [], _, h => h
  | d :: ds, vs, h => by
    obtain ⟨v, r, e, h1, h2⟩ := h
    exact ⟨v, r, e, DV.keep mk hp hm hr d v h1, DVs.keep mk hp hm hr ds r h2⟩
end
section
variable {B M ρ ρ' : List Addr} {H H' : Hp} {d : D} {ds : List D} {v : V} {vs : List V}
theorem stp_out (s : Stp ρ H ρ' H') : ∀ a o, H a = some o → a ∉ ρ ++ B → a ∉ ρ' ++ B := fun a o e n z => by
  rcases List.mem_append.mp z with z | z
  · exact s.out a o e (fun q => n (List.mem_append_left _ q)) z
  · exact n (List.mem_append_right _ z)
theorem DV.stp (mk : Mk (ρ ++ B) H) (s : Stp ρ H ρ' H') (h : DV G (ρ ++ B) ρ H d v) : DV G (ρ' ++ B) ρ' H' d v :=
  DV.keep mk (fun a o e n => s.pres a o e fun q => n (List.mem_append_left _ q)) (stp_out s) s.refs d v h
theorem DVs.stp (mk : Mk (ρ ++ B) H) (s : Stp ρ H ρ' H') (h : DVs G (ρ ++ B) ρ H ds vs) : DVs G (ρ' ++ B) ρ' H' ds vs :=
  DVs.keep mk (fun a o e n => s.pres a o e fun q => n (List.mem_append_left _ q)) (stp_out s) s.refs ds vs h
theorem DV.laid {p : Addr} {o : HO} (mk : Mk M H) (hp : H p = none) (h : DV G M ρ H d v) : DV G M ρ (upd H p o) d v :=
  DV.keep mk (fun a u e _ => by rw [upd_ne (ne_of_none e hp)]; exact e) (fun _ _ _ h => h) (fun _ _ h => h) d v h
theorem DVs.laid {p : Addr} {o : HO} (mk : Mk M H) (hp : H p = none) (h : DVs G M ρ H ds vs) : DVs G M ρ (upd H p o) ds vs :=
  DVs.keep mk (fun a u e _ => by rw [upd_ne (ne_of_none e hp)]; exact e) (fun _ _ _ h => h) (fun _ _ h => h) ds vs h
/-- a blocked object changes -/
theorem DV.chg {p : Addr} {o : HO} (mk : Mk M H) (hp : p ∈ M) (h : DV G M ρ H d v) : DV G M ρ (upd H p o) d v :=
  DV.keep mk (fun a u e n => by rw [upd_ne (show a ≠ p from fun z => n (by rw [z]; exact hp))]; exact e) (fun _ _ _ h => h) (fun _ _ h => h) d v h
theorem DVs.chg {p : Addr} {o : HO} (mk : Mk M H) (hp : p ∈ M) (h : DVs G M ρ H ds vs) : DVs G M ρ (upd H p o) ds vs :=
  DVs.keep mk (fun a u e n => by rw [upd_ne (show a ≠ p from fun z => n (by rw [z]; exact hp))]; exact e) (fun _ _ _ h => h) (fun _ _ h => h) ds vs h
theorem DVs.length : ∀ {ds : List D} {vs : List V}, DVs G M ρ H ds vs → vs.length = ds.length
  | [], vs, h => by have h : vs = [] := h; rw [h]; rfl
  | d :: ds, vs, h => by
    obtain ⟨v, r, e, _, h2⟩ := h
    rw [e, List.length_cons, List.length_cons, DVs.length h2]
theorem DVs.nil : DVs G M ρ H [] [] := rfl
theorem DVs.cons (h : DV G M ρ H d v) (t : DVs G M ρ H ds vs) : DVs G M ρ H (d :: ds) (v :: vs) := ⟨v, vs, rfl, h, t⟩
theorem DVs.one (h : DVs G M ρ H [d] [v]) : DV G M ρ H d v := by
  obtain ⟨_, _, e, h1, _⟩ := h
  cases e
  exact h1
theorem DVs.append : ∀ {ds es : List D} {vs ws : List V}, DVs G M ρ H ds vs → DVs G M ρ H es ws → DVs G M ρ H (ds ++ es) (vs ++ ws)
  | [], _, vs, _, h, t => by have h : vs = [] := h; rw [h]; exact t
  | d :: ds, _, vs, _, h, t => by
    obtain ⟨v, r, e, h1, h2⟩ := h
    rw [e]
    exact DVs.cons h1 (DVs.append h2 t)
theorem DVs.get : ∀ {ds : List D} {vs : List V} {i : Nat} {d : D}, DVs G M ρ H ds vs → ds[i]? = some d → ∃ v, vs[i]? = some v ∧ DV G M ρ H d v
  | [], _, _, _, _, e => by simp at e
  | d :: ds, vs, 0, _, h, e => by
    obtain ⟨v, r, e1, h1, _⟩ := h
    simp at e
    subst e e1
    exact ⟨v, rfl, h1⟩
  | d :: ds, vs, i + 1, _, h, e => by
    obtain ⟨v, r, e1, _, h2⟩ := h
    subst e1
    obtain ⟨u, q1, q2⟩ := DVs.get h2 (i := i) (by simpa using e)
    exact ⟨u, by simpa using q1, q2⟩
theorem DVs.take : ∀ {ds : List D} {vs : List V} (n : Nat), DVs G M ρ H ds vs → DVs G M ρ H (ds.take n) (vs.take n)
  | _, _, 0, _ => rfl
  | [], vs, n + 1, h => by have h : vs = [] := h; rw [h]; rfl
  | d :: ds, vs, n + 1, h => by
    obtain ⟨v, r, e1, h1, h2⟩ := h
    subst e1
    exact DVs.cons h1 (DVs.take n h2)
theorem DVs.drop : ∀ {ds : List D} {vs : List V} (n : Nat), DVs G M ρ H ds vs → DVs G M ρ H (ds.drop n) (vs.drop n)
  | _, _, 0, h => h
  | [], vs, n + 1, h => by have h : vs = [] := h; rw [h]; rfl
  | d :: ds, vs, n + 1, h => by
    obtain ⟨v, r, e1, _, h2⟩ := h
    subst e1
    exact DVs.drop n h2
theorem DVs.set {u : V} {e : D} (hu : DV G M ρ H e u) : ∀ {ds : List D} {vs : List V} (n : Nat), DVs G M ρ H ds vs → DVs G M ρ H (ds.set n e) (vs.set n u)
  | [], vs, _, h => by have h : vs = [] := h; rw [h]; rfl
  | d :: ds, vs, 0, h => by
    obtain ⟨v, r, e1, _, h2⟩ := h
    subst e1
    exact DVs.cons hu h2
  | d :: ds, vs, n + 1, h => by
    obtain ⟨v, r, e1, h1, h2⟩ := h
    subst e1
    exact DVs.cons h1 (DVs.set hu n h2)
theorem DVs.reverse : ∀ {ds : List D} {vs : List V}, DVs G M ρ H ds vs → DVs G M ρ H ds.reverse vs.reverse
  | [], vs, h => by have h : vs = [] := h; rw [h]; rfl
  | d :: ds, vs, h => by
    obtain ⟨v, r, e1, h1, h2⟩ := h
    subst e1
    rw [List.reverse_cons, List.reverse_cons]
    exact DVs.append (DVs.reverse h2) (DVs.cons h1 DVs.nil)
end
/-- the store, the slots -/
structure RS (B : List Addr) (st : Store) (ρ : List Addr) (H : Hp) : Prop where
  mt : Mk (ρ ++ B) H
  len : st.length = ρ.length
  nd : ρ.Nodup
  off : ∀ b ∈ B, b ∉ ρ
  tb : ∀ a ps, H a = some (.tbl ps) → a ∈ ρ
  cel : ∀ (n : Nat) c a, st[n]? = some c → ρ[n]? = some a → DC G (ρ ++ B) ρ H c a
structure RE (B : List Addr) (env : Env) (ρ : List Addr) (σ : L2.St) (H : Hp) : Prop where
  len : σ.length = env.length
  fre : ∀ (i : Nat) d, env[i]? = some (some (false, d)) → ∃ v, σ[i]? = some (some v) ∧ DV G (ρ ++ B) ρ H d v
  own : ∀ (i : Nat) d, env[i]? = some (some (true, d)) → ∃ a, σ[i]? = some (some (.ref a)) ∧ a ∈ B ∧ DW G (ρ ++ B) ρ H d a
end Dp
set_option Elab.async false
set_option linter.all false
set_option maxRecDepth 100000
set_option maxHeartbeats 4000000
namespace Dp
open PySem PySem.Spec PyProof.Rows L2
/-- what a body's context must be -/
structure XA (G : Gx) (X : Cx) : Prop where
  K : X.K = G.K
  w : X.w = G.w
  calm : X.calm = true
  un : X.A.units + 100 < cLine
  gd : X.A.guards = some []
section
variable {G : Gx}
/-- a value that is looked at alone: it may be one that a name owns -/
def DB (G : Gx) (B ρ : List Addr) (H : Hp) (d : D) (v : V) : Prop := DV G (ρ ++ B) ρ H d v ∨ ∃ a, v = .ref a ∧ a ∈ B ∧ DW G (ρ ++ B) ρ H d a
/-- behind an eager operation: all that was tracked is as it was -/
def Fin (G : Gx) (B ρ : List Addr) (H : Hp) (Q : VK) (d : D) : Prop := ∀ v H', Sm H H' → DV G (ρ ++ B) ρ H' d v → Q v H'
variable {B ρ : List Addr} {H H' : Hp} {d : D} {ds : List D} {v : V} {st : Store} {env : Env} {σ : L2.St} {Q : VK} {X : Cx}
theorem same_stp (s : Sm H H') : Stp ρ H ρ H' := ⟨fun a o h _ => s.1 a o h, fun _ _ _ h => h, fun _ _ h => h⟩
theorem same_laid {p : Addr} {o : HO} (hp : H p = none) (ho : ∀ ps, o ≠ .tbl ps := by intro _ z; cases z) : Sm H (upd H p o) := ⟨fun a u h => by rw [upd_ne (ne_of_none h hp)]; exact h, fun a ps e => by
  by_cases q : a = p
  · subst q; rw [upd_same] at e; cases e; exact absurd rfl (ho ps)
  · rwa [upd_ne q] at e⟩
theorem Mk.same (m : Mk ρ H) (s : Sm H H') : Mk ρ H' := fun a ha => by
  obtain ⟨o, e, t⟩ := m a ha
  exact ⟨o, s.1 a o e, t⟩
theorem DV.same (m : Mk (ρ ++ B) H) (s : Sm H H') (h : DV G (ρ ++ B) ρ H d v) : DV G (ρ ++ B) ρ H' d v := h.stp m (same_stp s)
theorem DVs.same {vs : List V} (m : Mk (ρ ++ B) H) (s : Sm H H') (h : DVs G (ρ ++ B) ρ H ds vs) : DVs G (ρ ++ B) ρ H' ds vs := h.stp m (same_stp s)
theorem DW.stp {ρ' : List Addr} {a : Addr} (mk : Mk (ρ ++ B) H) (s : Stp ρ H ρ' H') (k : ∀ o, H a = some o → H' a = some o) (h : DW G (ρ ++ B) ρ H d a) : DW G (ρ' ++ B) ρ' H' d a := by
  cases d with
  | lst ds =>
    obtain ⟨vs, e, h1⟩ := h
    exact ⟨vs, k _ e, h1.stp mk s⟩
  | dct ks vs =>
    obtain ⟨es, kv, vv, e, h1, h2, h3, h4, h5, h6, h7, h8⟩ := h
    exact ⟨es, kv, vv, k _ e, h1, h2, h3, h4, h5, h6, h7.stp mk s, h8.stp mk s⟩
  | _ => exact h
theorem DOb.keep {M M' ρ' : List Addr} {a : Addr} (mk : Mk M H) (hp : ∀ a o, H a = some o → a ∉ M → H' a = some o) (hm : ∀ a o, H a = some o → a ∉ M → a ∉ M') (hr : ∀ (n : Nat) a, ρ[n]? = some a → ρ'[n]? = some a) (k : ∀ o, H a = some o → H' a = some o) (h : DOb G M ρ H a ds) : DOb G M' ρ' H' a ds := by
  unfold DOb at h
  split at h
  · obtain ⟨c, C, fl, dx, vs, e1, e2, e3, e4, e5⟩ := h
    exact ⟨c, C, fl, dx, vs, e1, e2, k _ e3, e4, DVs.keep mk hp hm hr _ _ e5⟩
  · exact h.elim
theorem DC.stp {ρ' : List Addr} {a : Addr} (mk : Mk (ρ ++ B) H) (s : Stp ρ H ρ' H') (k : ∀ o, H a = some o → H' a = some o) (h : DC G (ρ ++ B) ρ H d a) : DC G (ρ' ++ B) ρ' H' d a := by
  cases d with
  | ref i =>
    obtain ⟨q, ps, e1, e2, e3, e4⟩ := h
    refine ⟨q, ps, e1, k _ e2, e3, fun pos cv z => ?_⟩
    obtain ⟨c, z1, z2⟩ := e4 pos cv z
    exact ⟨c, z1, s.pres c _ z2 fun w => mk_code mk z2 (List.mem_append_left _ w)⟩
  | lst ds => exact DW.stp (d := .lst ds) mk s k h
  | tup ds => exact DOb.keep mk (fun a o e n => s.pres a o e fun q => n (List.mem_append_left _ q)) (stp_out s) s.refs k h
  | dct ks vs => exact DW.stp (d := .dct ks vs) mk s k h
  | _ => exact h
theorem DC.of {M : List Addr} {a : Addr} (h : DW G M ρ H d a) : DC G M ρ H d a := by
  cases d <;> first | exact h | exact h.elim
theorem DB.stp {ρ' : List Addr} (mk : Mk (ρ ++ B) H) (off : ∀ b ∈ B, b ∉ ρ) (s : Stp ρ H ρ' H') (h : DB G B ρ H d v) : DB G B ρ' H' d v := by
  rcases h with h | ⟨a, e, hb, h⟩
  · exact .inl (h.stp mk s)
  · exact .inr ⟨a, e, hb, h.stp mk s fun o ho => s.pres a o ho (off a hb)⟩
theorem RS.same (r : RS (G := G) B st ρ H) (s : Sm H H') : RS (G := G) B st ρ H' :=
  ⟨r.mt.same s, r.len, r.nd, r.off, fun a ps e => r.tb a ps (s.2 a ps e), fun n c a e1 e2 => (r.cel n c a e1 e2).stp r.mt (same_stp s) fun o ho => s.1 a o ho⟩
theorem RE.stp {ρ' : List Addr} (r : RE (G := G) B env ρ σ H) (mk : Mk (ρ ++ B) H) (off : ∀ b ∈ B, b ∉ ρ) (s : Stp ρ H ρ' H') : RE (G := G) B env ρ' σ H' :=
  ⟨r.len, fun i d e => by
    obtain ⟨v, h1, h2⟩ := r.fre i d e
    exact ⟨v, h1, h2.stp mk s⟩, fun i d e => by
    obtain ⟨a, h1, h2, h3⟩ := r.own i d e
    exact ⟨a, h1, h2, h3.stp mk s fun o ho => s.pres a o ho (off a h2)⟩⟩
theorem DB.non (h : DB G B ρ H .non v) : v = .non := by
  rcases h with h | ⟨a, _, _, h⟩
  · exact h
  · exact h.elim
theorem DB.bl {b : Bool} (h : DB G B ρ H (.bl b) v) : v = .bl b := by
  rcases h with h | ⟨a, _, _, h⟩
  · exact h
  · exact h.elim
theorem DB.int {i : Int} (h : DB G B ρ H (.int i) v) : v = .int i := by
  rcases h with h | ⟨a, _, _, h⟩
  · exact h
  · exact h.elim
theorem DB.str {x : Str} (h : DB G B ρ H (.str x) v) : v = .str x := by
  rcases h with h | ⟨a, _, _, h⟩
  · exact h
  · exact h.elim
theorem DB.ref {n : Nat} (h : DB G B ρ H (.ref n) v) : ∃ a, ρ[n]? = some a ∧ v = .ref a := by
  rcases h with h | ⟨a, _, _, h⟩
  · exact h
  · exact h.elim
theorem DB.fn {k : Nat} (h : DB G B ρ H (.fn k) v) : ∃ (f : Addr) (F : NdefX.NF) (b : Expr), v = .ref f ∧ H f = some (LmO f F b) ∧ H F.c = some (LamX.CodeO F.c F.qual) ∧ F.cl = [] ∧ G.ls k F.params b F.scope = true := by
  rcases h with h | ⟨a, _, _, h⟩
  · exact h
  · exact h.elim
theorem DB.er {k : Nat} (h : DB G B ρ H (.er k ds) v) : ∃ (a dx C : Addr) (fs : List Str) (vs : List V), v = .ref a ∧ G.et[k]? = some (C, fs) ∧ a ∉ ρ ++ B ∧ dx ∉ ρ ++ B ∧ H a = some (exo a C (some dx)) ∧ H dx = some (exd dx (fs.zip vs)) ∧ vs.length = fs.length ∧ DVs G (ρ ++ B) ρ H ds vs := by
  rcases h with h | ⟨a, _, _, h⟩
  · exact h
  · exact h.elim
theorem DB.tpx (h : DB G B ρ H (.tpx ds) v) : ∃ a vs o, v = .ref a ∧ H a = some (.frz o (.tup vs)) ∧ o.dict = none ∧ DVs G (ρ ++ B) ρ H ds vs := by
  rcases h with h | ⟨a, _, _, h⟩
  · exact h
  · exact h.elim
theorem DB.tup (h : DB G B ρ H (.tup ds) v) : ∃ a vs, v = .ref a ∧ SqT G.K H a vs ∧ DVs G (ρ ++ B) ρ H ds vs := by
  rcases h with h | ⟨a, _, _, h⟩
  · exact h
  · exact h.elim
theorem DB.lst (h : DB G B ρ H (.lst ds) v) : ∃ a vs, v = .ref a ∧ Rd H a (.lst vs) ∧ DVs G (ρ ++ B) ρ H ds vs := by
  rcases h with h | ⟨a, e, _, h⟩
  · obtain ⟨a, vs, e, h1, _, h2⟩ := h
    exact ⟨a, vs, e, h1, h2⟩
  · obtain ⟨vs, h1, h2⟩ := h
    exact ⟨a, vs, e, .inl h1, h2⟩
/-- a dict's entries -/
def DctAt (G : Gx) (M ρ : List Addr) (H : Hp) (ks vs : List D) (a : Addr) : Prop := DW G M ρ H (.dct ks vs) a
theorem DB.dct {ks vs : List D} (h : DB G B ρ H (.dct ks vs) v) : ∃ a, v = .ref a ∧ DctAt G (ρ ++ B) ρ H ks vs a := by
  rcases h with h | ⟨a, e, _, h⟩
  · obtain ⟨a, e, _, h1⟩ := h
    exact ⟨a, e, h1⟩
  · exact ⟨a, e, h⟩
mutual
theorem dp_of {M : List Addr} (n : Nat) : ∀ (d : D) (v : V), D.lay n d = true → DV G M ρ H d v → Dp G.K H v d.toP
  | .non, v, _, h => by have h : v = .non := h; subst h; exact .non
  | .bl b, v, _, h => by have h : v = .bl b := h; subst h; exact .bl b
  | .int i, v, _, h => by have h : v = .int i := h; subst h; exact .int i
  | .str x, v, _, h => by have h : v = .str x := h; subst h; exact .str x
  | .tup ds, v, l, h => by
    obtain ⟨a, vs, e, h1, h2⟩ := h
    subst e
    cases n with
    | zero => simp [D.lay] at l
    | succ n => exact .tup h1 (dps_of n ds vs (by simpa [D.lay] using l) h2)
  | .lst ds, v, l, h => by
    obtain ⟨a, vs, e, h1, _, h2⟩ := h
    subst e
    cases n with
    | zero => simp [D.lay] at l
    | succ n => exact .lst (.inl h1) (dps_of n ds vs (by simpa [D.lay] using l) h2)
  | .dct _ _, _, l, _ => by cases n <;> simp [D.lay] at l
  | .ref _, _, l, _ => by cases n <;> simp [D.lay] at l
  | .fn _, _, l, _ => by cases n <;> simp [D.lay] at l
  | .tpx _, _, l, _ => by cases n <;> simp [D.lay] at l
  | .er _ _, _, l, _ => by cases n <;> simp [D.lay] at l
theorem dps_of {M : List Addr} (n : Nat) : ∀ (ds : List D) (vs : List V), (∀ d ∈ ds, D.lay n d = true) → DVs G M ρ H ds vs → DpAll G.K H vs (D.toPs ds)
  | [], vs, _, h => by have h : vs = [] := h; subst h; exact .nil
  | d :: ds, vs, l, h => by
    obtain ⟨v, r, e, h1, h2⟩ := h
    subst e
    exact .cons (dp_of n d v (l d List.mem_cons_self) h1) (dps_of n ds r (fun x hx => l x (List.mem_cons_of_mem _ hx)) h2)
end
theorem DB.dp {n : Nat} (l : D.lay n d = true) (h : DB G B ρ H d v) : Dp G.K H v d.toP := by
  rcases h with h | ⟨a, e, _, h⟩
  · exact dp_of n d v l h
  · subst e
    cases d with
    | lst ds =>
      obtain ⟨vs, h1, h2⟩ := h
      cases n with
      | zero => simp [D.lay] at l
      | succ n => exact .lst (.inl (.inl h1)) (dps_of n ds vs (by simpa [D.lay] using l) h2)
    | dct ks vs => cases n <;> simp [D.lay] at l
    | _ => exact h.elim
mutual
theorem canLay_of (n : Nat) : ∀ d : D, D.lay n d = true → d.toP.canLay0 = true
  | .non, _ => by simp [D.toP, PyData.canLay0]
  | .bl _, _ => by simp [D.toP, PyData.canLay0]
  | .int _, _ => by simp [D.toP, PyData.canLay0]
  | .str x, l => by cases n <;> simpa [D.toP, PyData.canLay0, D.lay] using l
  | .tup ds, l => by
    cases n with
    | zero => simp [D.lay] at l
    | succ n => simpa [D.toP, PyData.canLay0] using canLays_of n ds (by simpa [D.lay] using l)
  | .lst ds, l => by
    cases n with
    | zero => simp [D.lay] at l
    | succ n => simpa [D.toP, PyData.canLay0] using canLays_of n ds (by simpa [D.lay] using l)
  | .dct _ _, l => by cases n <;> simp [D.lay] at l
  | .ref _, l => by cases n <;> simp [D.lay] at l
  | .fn _, l => by cases n <;> simp [D.lay] at l
  | .tpx _, l => by cases n <;> simp [D.lay] at l
  | .er _ _, l => by cases n <;> simp [D.lay] at l
theorem canLays_of (n : Nat) : ∀ ds : List D, (∀ d ∈ ds, D.lay n d = true) → PyData.canLayAll0 (D.toPs ds) = true
  | [], _ => by simp [D.toPs, PyData.canLayAll0]
  | d :: ds, l => by
    simp only [D.toPs, PyData.canLayAll0, Bool.and_eq_true]
    exact ⟨canLay_of n d (l d List.mem_cons_self), canLays_of n ds fun x hx => l x (List.mem_cons_of_mem _ hx)⟩
end
mutual
theorem depth_of (n : Nat) : ∀ d : D, D.lay n d = true → d.toP.depth ≤ n
  | .non, _ => by simp [D.toP, PyData.depth]
  | .bl _, _ => by simp [D.toP, PyData.depth]
  | .int _, _ => by simp [D.toP, PyData.depth]
  | .str x, l => by simp [D.toP, PyData.depth]
  | .tup ds, l => by
    cases n with
    | zero => simp [D.lay] at l
    | succ n =>
      have := depths_of n ds (by simpa [D.lay] using l)
      simp only [D.toP, PyData.depth]
      omega
  | .lst ds, l => by
    cases n with
    | zero => simp [D.lay] at l
    | succ n =>
      have := depths_of n ds (by simpa [D.lay] using l)
      simp only [D.toP, PyData.depth]
      omega
  | .dct _ _, l => by cases n <;> simp [D.lay] at l
  | .ref _, l => by cases n <;> simp [D.lay] at l
  | .fn _, l => by cases n <;> simp [D.lay] at l
  | .tpx _, l => by cases n <;> simp [D.lay] at l
  | .er _ _, l => by cases n <;> simp [D.lay] at l
theorem depths_of (n : Nat) : ∀ ds : List D, (∀ d ∈ ds, D.lay n d = true) → PyData.depthAll (D.toPs ds) ≤ n
  | [], _ => by simp [D.toPs, PyData.depthAll]
  | d :: ds, l => by
    have h1 := depth_of n d (l d List.mem_cons_self)
    have h2 := depths_of n ds fun x hx => l x (List.mem_cons_of_mem _ hx)
    simp only [D.toPs, PyData.depthAll]
    omega
end
theorem shaped_of (l : D.lay DEEP d = true) : SeqAt.shaped d.toP = true := by
  unfold SeqAt.shaped
  rw [canLay_of _ d l, Bool.true_and]
  have h1 := depth_of _ d l
  have h2 : DEEP = 30 := rfl
  exact decide_eq_true (by omega)
mutual
theorem eqb_toP : ∀ a b : D, ∀ n, D.lay n a = true → ∀ m, D.lay m b = true → PyData.eqv a.toP b.toP = D.eqb a b
  | .non, b, n, la, m, lb => by cases b <;> first | rfl | (simp [D.toP, PyData.eqv, D.eqb]; done) | (cases m <;> simp [D.lay] at lb)
  | .bl _, b, n, la, m, lb => by cases b <;> first | rfl | (simp [D.toP, PyData.eqv, D.eqb]; done) | (cases m <;> simp [D.lay] at lb)
  | .int _, b, n, la, m, lb => by cases b <;> first | rfl | (simp [D.toP, PyData.eqv, D.eqb]; done) | (cases m <;> simp [D.lay] at lb)
  | .str _, b, n, la, m, lb => by cases b <;> first | rfl | (simp [D.toP, PyData.eqv, D.eqb]; done) | (cases m <;> simp [D.lay] at lb)
  | .tup xs, b, n, la, m, lb => by
    cases b with
    | tup ys =>
      cases n with
      | zero => simp [D.lay] at la
      | succ n =>
        cases m with
        | zero => simp [D.lay] at lb
        | succ m =>
          simp only [D.toP, PyData.eqv, D.eqb]
          exact eqbs_toP xs ys n (by simpa [D.lay] using la) m (by simpa [D.lay] using lb)
    | dct _ _ => cases m <;> simp [D.lay] at lb
    | ref _ => cases m <;> simp [D.lay] at lb
    | fn _ => cases m <;> simp [D.lay] at lb
    | tpx _ => cases m <;> simp [D.lay] at lb
    | _ => simp [D.toP, PyData.eqv, D.eqb]
  | .lst xs, b, n, la, m, lb => by
    cases b with
    | lst ys =>
      cases n with
      | zero => simp [D.lay] at la
      | succ n =>
        cases m with
        | zero => simp [D.lay] at lb
        | succ m =>
          simp only [D.toP, PyData.eqv, D.eqb]
          exact eqbs_toP xs ys n (by simpa [D.lay] using la) m (by simpa [D.lay] using lb)
    | dct _ _ => cases m <;> simp [D.lay] at lb
    | ref _ => cases m <;> simp [D.lay] at lb
    | fn _ => cases m <;> simp [D.lay] at lb
    | tpx _ => cases m <;> simp [D.lay] at lb
    | _ => simp [D.toP, PyData.eqv, D.eqb]
  | .dct _ _, b, n, la, m, lb => by cases n <;> simp [D.lay] at la
  | .ref _, b, n, la, m, lb => by cases n <;> simp [D.lay] at la
  | .fn _, b, n, la, m, lb => by cases n <;> simp [D.lay] at la
  | .tpx _, b, n, la, m, lb => by cases n <;> simp [D.lay] at la
  | .er _ _, b, n, la, m, lb => by cases n <;> simp [D.lay] at la
theorem eqbs_toP : ∀ as bs : List D, ∀ n, (∀ d ∈ as, D.lay n d = true) → ∀ m, (∀ d ∈ bs, D.lay m d = true) → PyData.eqvAll (D.toPs as) (D.toPs bs) = D.eqbs as bs
  | [], [], _, _, _, _ => by simp [D.toPs, PyData.eqvAll, D.eqbs]
  | [], _ :: _, _, _, _, _ => by simp [D.toPs, PyData.eqvAll, D.eqbs]
  | _ :: _, [], _, _, _, _ => by simp [D.toPs, PyData.eqvAll, D.eqbs]
  | a :: as, b :: bs, n, la, m, lb => by
    simp only [D.toPs, PyData.eqvAll, D.eqbs]
    rw [eqb_toP a b n (la a List.mem_cons_self) m (lb b List.mem_cons_self), eqbs_toP as bs n (fun x hx => la x (List.mem_cons_of_mem _ hx)) m (fun x hx => lb x (List.mem_cons_of_mem _ hx))]
end
end
end Dp
set_option Elab.async false
set_option linter.all false
set_option maxRecDepth 100000
set_option maxHeartbeats 4000000
namespace Dp
open PySem PySem.Spec PyProof.Rows L2 PySem.W PySem.SeqAt
section
variable {G : Gx} {X : Cx}
mutual
theorem nk_beq : ∀ (n : Nat) (a b : D), D.hsh n a = true → ∀ m, D.hsh m b = true → NestedKey.beq a.nk b.nk = D.eqb a b
  | n, .non, b, la, m, lb => by cases b <;> first | rfl | (simp [D.nk, NestedKey.beq, D.eqb]; done) | (cases m <;> simp [D.hsh] at lb)
  | n, .bl x, b, la, m, lb => by
    cases b <;> first | (cases m <;> simp [D.hsh] at lb; done) | skip
    · simp [D.nk, NestedKey.beq, D.eqb]
    · rename_i y; cases x <;> cases y <;> rfl
    · rename_i y; cases x <;> simp [D.nk, NestedKey.beq, D.eqb] <;> exact decide_eq_decide.mpr Iff.rfl
    · simp [D.nk, NestedKey.beq, D.eqb]
    · simp [D.nk, NestedKey.beq, D.eqb]
  | n, .int x, b, la, m, lb => by
    cases b <;> first | (cases m <;> simp [D.hsh] at lb; done) | skip
    · simp [D.nk, NestedKey.beq, D.eqb]
    · rename_i y; cases y <;> simp [D.nk, NestedKey.beq, D.eqb] <;> exact decide_eq_decide.mpr Iff.rfl
    · simp only [D.nk, NestedKey.beq, D.eqb]; exact (Bool.beq_eq_decide_eq _ _).symm
    · simp [D.nk, NestedKey.beq, D.eqb]
    · simp [D.nk, NestedKey.beq, D.eqb]
  | n, .str x, b, la, m, lb => by
    cases b <;> first | (cases m <;> simp [D.hsh] at lb; done) | skip
    · simp [D.nk, NestedKey.beq, D.eqb]
    · simp [D.nk, NestedKey.beq, D.eqb]
    · simp [D.nk, NestedKey.beq, D.eqb]
    · rename_i y
      simp only [D.nk, NestedKey.beq, D.eqb]
      by_cases q : x = y
      · subst q; simp
      · simp [q]
    · simp [D.nk, NestedKey.beq, D.eqb]
  | 0, .tup xs, b, la, m, lb => by simp [D.hsh] at la
  | n + 1, .tup xs, b, la, m, lb => by
    cases b with
    | tup ys =>
      cases m with
      | zero => simp [D.hsh] at lb
      | succ m =>
        simp only [D.nk, NestedKey.beq, D.eqb]
        exact nks_beq n xs ys (by simpa [D.hsh] using la) m (by simpa [D.hsh] using lb)
    | lst _ => cases m <;> simp [D.hsh] at lb
    | dct _ _ => cases m <;> simp [D.hsh] at lb
    | ref _ => cases m <;> simp [D.hsh] at lb
    | fn _ => cases m <;> simp [D.hsh] at lb
    | tpx _ => cases m <;> simp [D.hsh] at lb
    | er _ _ => cases m <;> simp [D.hsh] at lb
    | _ => simp [D.nk, NestedKey.beq, D.eqb]
  | n, .lst _, b, la, m, lb => by cases n <;> simp [D.hsh] at la
  | n, .dct _ _, b, la, m, lb => by cases n <;> simp [D.hsh] at la
  | n, .ref _, b, la, m, lb => by cases n <;> simp [D.hsh] at la
  | n, .fn _, b, la, m, lb => by cases n <;> simp [D.hsh] at la
  | n, .tpx _, b, la, m, lb => by cases n <;> simp [D.hsh] at la
  | n, .er _ _, b, la, m, lb => by cases n <;> simp [D.hsh] at la
theorem nks_beq : ∀ (n : Nat) (as bs : List D), (∀ d ∈ as, D.hsh n d = true) → ∀ m, (∀ d ∈ bs, D.hsh m d = true) → NestedKey.beqAll (D.nks as) (D.nks bs) = D.eqbs as bs
  | _, [], [], _, _, _ => rfl
  | _, [], _ :: _, _, _, _ => rfl
  | _, _ :: _, [], _, _, _ => rfl
  | n, a :: as, b :: bs, la, m, lb => by
    simp only [D.nks, NestedKey.beqAll, D.eqbs]
    rw [nk_beq n a b (la a List.mem_cons_self) m (lb b List.mem_cons_self), nks_beq n as bs (fun x hx => la x (List.mem_cons_of_mem _ hx)) m (fun x hx => lb x (List.mem_cons_of_mem _ hx))]
end
mutual
theorem nk_depth : ∀ (n : Nat) (d : D), D.hsh n d = true → d.nk.depth ≤ n
  | n, .non, _ => by simp [D.nk, NestedKey.depth]
  | n, .bl _, _ => by simp [D.nk, NestedKey.depth]
  | n, .int _, _ => by simp [D.nk, NestedKey.depth]
  | n, .str _, _ => by simp [D.nk, NestedKey.depth]
  | 0, .tup _, l => by simp [D.hsh] at l
  | n + 1, .tup ds, l => by
    have := nks_depth n ds (by simpa [D.hsh] using l)
    simp only [D.nk, NestedKey.depth]
    omega
  | n, .lst _, l => by cases n <;> simp [D.hsh] at l
  | n, .dct _ _, l => by cases n <;> simp [D.hsh] at l
  | n, .ref _, l => by cases n <;> simp [D.hsh] at l
  | n, .fn _, l => by cases n <;> simp [D.hsh] at l
  | n, .tpx _, l => by cases n <;> simp [D.hsh] at l
  | n, .er _ _, l => by cases n <;> simp [D.hsh] at l
theorem nks_depth : ∀ (n : Nat) (ds : List D), (∀ d ∈ ds, D.hsh n d = true) → NestedKey.depthAll (D.nks ds) ≤ n
  | _, [], _ => by simp [D.nks, NestedKey.depthAll]
  | n, d :: ds, l => by
    have h1 := nk_depth n d (l d List.mem_cons_self)
    have h2 := nks_depth n ds fun x hx => l x (List.mem_cons_of_mem _ hx)
    simp only [D.nks, NestedKey.depthAll]
    omega
end
section
variable {pins : List (Addr × Obj)} {s : Shared} {σ : L2.St} {H : Hp} {B ρ : List Addr}
mutual
theorem nested_of (xa : XA G X) (I : Inv X pins σ H s) : ∀ (n : Nat) (d : D) (v : V) (u : Value), D.hsh n d = true → DV G (ρ ++ B) ρ H d v → RelV v u → NestedIs s.heap d.nk u
  | n, .non, v, u, _, h, r => by have h : v = .non := h; subst h; cases r; exact .none
  | n, .bl b, v, u, _, h, r => by have h : v = .bl b := h; subst h; cases r; exact .bool rfl
  | n, .int i, v, u, _, h, r => by have h : v = .int i := h; subst h; obtain ⟨t, rfl⟩ := r; exact .int _ _
  | n, .str x, v, u, _, h, r => by have h : v = .str x := h; subst h; obtain ⟨t, rfl⟩ := r; exact .text _ _
  | 0, .tup _, _, _, l, _, _ => by simp [D.hsh] at l
  | n + 1, .tup ds, v, u, l, h, r => by
    obtain ⟨a, vs, rfl, h1, h2⟩ := h
    cases r
    rw [← xa.K] at h1
    obtain ⟨its, rv, ⟨o, g1, g2, m, g3⟩, hz⟩ := I.tuple h1
    exact .tup g1 g2 g3 (by simpa using nesteds_of xa I n ds vs its (by simpa [D.hsh] using l) h2 rv)
  | n, .lst _, _, _, l, _, _ => by cases n <;> simp [D.hsh] at l
  | n, .dct _ _, _, _, l, _, _ => by cases n <;> simp [D.hsh] at l
  | n, .ref _, _, _, l, _, _ => by cases n <;> simp [D.hsh] at l
  | n, .fn _, _, _, l, _, _ => by cases n <;> simp [D.hsh] at l
  | n, .tpx _, _, _, l, _, _ => by cases n <;> simp [D.hsh] at l
  | n, .er _ _, _, _, l, _, _ => by cases n <;> simp [D.hsh] at l
theorem nesteds_of (xa : XA G X) (I : Inv X pins σ H s) : ∀ (n : Nat) (ds : List D) (vs : List V) (us : List Value), (∀ d ∈ ds, D.hsh n d = true) → DVs G (ρ ++ B) ρ H ds vs → Vals vs us → NestedAll s.heap (D.nks ds) us
  | _, [], vs, us, _, h, r => by
    have h : vs = [] := h
    subst h
    cases r
    exact .nil
  | n, d :: ds, vs, us, l, h, r => by
    obtain ⟨v, t, e, h1, h2⟩ := h
    subst e
    cases r with
    | cons r1 r2 => exact .cons (nested_of xa I n d v _ (l d List.mem_cons_self) h1 r1) (nesteds_of xa I n ds t _ (fun x hx => l x (List.mem_cons_of_mem _ hx)) h2 r2)
end
end
/-- entries and what they stand for -/
inductive Tr (G : Gx) (M ρ : List Addr) (H : Hp) : List (NestedKey × Addr × Value) → List D → List D → Prop
  | nil : Tr G M ρ H [] [] []
  | cons {x : NestedKey × Addr × Value} {k d : D} {v : V} {xs : List (NestedKey × Addr × Value)} {ks vs : List D} : x.1 = k.nk → k.tkey = true → DV G M ρ H k (.ref x.2.1) → RelV v x.2.2 → DV G M ρ H d v → Tr G M ρ H xs ks vs → Tr G M ρ H (x :: xs) (k :: ks) (d :: vs)
variable {M ρ : List Addr} {H : Hp} {xs : List (NestedKey × Addr × Value)} {ks vs : List D}
theorem tkey_hsh {k : D} (h : k.tkey = true) : D.hsh KDEEP k = true := by
  simp only [D.tkey, Bool.and_eq_true] at h
  exact h.2
theorem nk_eq {k q : D} (h : k.tkey = true) (g : q.tkey = true) : decide (k.nk = q.nk) = D.eqb k q := by
  rw [NestedKey.decide_eq]
  exact nk_beq _ k q (tkey_hsh h) _ (tkey_hsh g)
theorem Tr.has {q : D} (hq : q.tkey = true) (t : Tr G M ρ H xs ks vs) : (atKey xs q.nk).isSome = dhas ks q := by
  induction t with
  | nil => rfl
  | @cons x k d v xs ks vs h1 h2 h3 h4 h5 t ih =>
    have e := nk_eq h2 hq
    rw [← h1] at e
    by_cases c : x.1 = q.nk
    · rw [decide_eq_true c] at e
      simp [atKey, List.find?_cons, c, dhas, ← e]
    · rw [decide_eq_false c] at e
      have : atKey (x :: xs) q.nk = atKey xs q.nk := by simp [atKey, List.find?_cons, c]
      rw [this, ih]
      simp [dhas, ← e]
theorem Tr.set {q d : D} {v : V} {u : Value} (hq : q.tkey = true) (rv : RelV v u) (hd : DV G M ρ H d v) (t : Tr G M ρ H xs ks vs) : Tr G M ρ H (xs.map (putAt q.nk u)) ks (dset ks vs q d) := by
  induction t with
  | nil => exact .nil
  | @cons x k d' v' xs ks vs h1 h2 h3 h4 h5 t ih =>
    have e := nk_eq h2 hq
    rw [← h1] at e
    rw [List.map_cons]
    unfold putAt dset
    by_cases c : x.1 = q.nk
    · rw [decide_eq_true c] at e
      rw [if_pos c, ← e, if_pos rfl]
      exact .cons h1 h2 h3 rv hd ih
    · rw [decide_eq_false c] at e
      rw [if_neg c, ← e, if_neg (by simp)]
      exact .cons h1 h2 h3 h4 h5 ih
theorem Tr.snoc {q d : D} {a : Addr} {v : V} {u : Value} (hq : q.tkey = true) (ha : DV G M ρ H q (.ref a)) (rv : RelV v u) (hd : DV G M ρ H d v) (t : Tr G M ρ H xs ks vs) : Tr G M ρ H (xs ++ [(q.nk, a, u)]) (ks ++ [q]) (vs ++ [d]) := by
  induction t with
  | nil => exact .cons rfl hq ha rv hd .nil
  | cons h1 h2 h3 h4 h5 t ih => exact .cons h1 h2 h3 h4 h5 ih
theorem Tr.put {q d : D} {a : Addr} {v : V} {u : Value} (hq : q.tkey = true) (ha : DV G M ρ H q (.ref a)) (rv : RelV v u) (hd : DV G M ρ H d v) (t : Tr G M ρ H xs ks vs) : Tr G M ρ H (storedH xs q.nk a u) (dput ks vs q d).1 (dput ks vs q d).2 := by
  unfold storedH dput
  rw [t.has hq]
  cases dhas ks q with
  | true => exact t.set hq rv hd
  | false => exact t.snoc hq ha rv hd
/-- the pairs to be put, one behind the other -/
theorem Tr.puts : ∀ {ps : List (D × D)} {qs ys : List (NestedKey × Addr × Value)} {ks vs : List D}, Tr G M ρ H qs (ps.map (·.1)) (ps.map (·.2)) → Tr G M ρ H ys ks vs → Tr G M ρ H (storedAllH ys qs) (dputs ks vs ps).1 (dputs ks vs ps).2
  | [], _, _, _, _, t, y => by
    cases t
    exact y
  | (k, d) :: ps, _, ys, ks, vs, t, y => by
    cases t with
    | @cons x _ _ v xs _ _ h1 h2 h3 h4 h5 t =>
      have := y.put h2 h3 h4 h5
      rw [← h1] at this
      show Tr G M ρ H (storedAllH (storedH ys x.1 x.2.1 x.2.2) xs) _ _
      exact Tr.puts (ps := ps) t this
theorem Tr.keys (t : Tr G M ρ H xs ks vs) : DVs G M ρ H ks (xs.map fun x => V.ref x.2.1) ∧ ks.all D.tkey = true ∧ xs.map (·.1) = ks.map D.nk ∧ ∃ vv, Vals vv (xs.map (·.2.2)) ∧ DVs G M ρ H vs vv := by
  induction t with
  | nil => exact ⟨rfl, rfl, rfl, [], .nil, rfl⟩
  | cons h1 h2 h3 h4 h5 t ih =>
    obtain ⟨i1, i2, i3, vv, i4, i5⟩ := ih
    refine ⟨.cons h3 i1, by simp [h2, i2], by simp [h1, i3], _ :: vv, .cons h4 i4, .cons h5 i5⟩
theorem Tr.get {q d : D} (hq : q.tkey = true) (t : Tr G M ρ H xs ks vs) (h : dlook ks vs q = some d) : ∃ a u v, atKey xs q.nk = some (a, u) ∧ RelV v u ∧ DV G M ρ H d v := by
  induction t with
  | nil => simp [dlook] at h
  | @cons x k d' v xs ks vs h1 h2 h3 h4 h5 t ih =>
    have e := nk_eq h2 hq
    rw [← h1] at e
    unfold dlook at h
    by_cases c : x.1 = q.nk
    · rw [decide_eq_true c] at e
      rw [← e, if_pos rfl] at h
      cases h
      exact ⟨x.2.1, x.2.2, v, by simp [atKey, List.find?_cons, c], h4, h5⟩
    · rw [decide_eq_false c] at e
      rw [← e, if_neg (by simp)] at h
      obtain ⟨a, u, w, i1, i2, i3⟩ := ih h
      exact ⟨a, u, w, by rw [← i1]; simp [atKey, List.find?_cons, c], i2, i3⟩
theorem Tr.none {q : D} (hq : q.tkey = true) (t : Tr G M ρ H xs ks vs) (h : dlook ks vs q = none) : atKey xs q.nk = none := by
  induction t with
  | nil => rfl
  | @cons x k d' v xs ks vs h1 h2 h3 h4 h5 t ih =>
    have e := nk_eq h2 hq
    rw [← h1] at e
    unfold dlook at h
    by_cases c : x.1 = q.nk
    · rw [decide_eq_true c] at e
      rw [← e, if_pos rfl] at h
      cases h
    · rw [decide_eq_false c] at e
      rw [← e, if_neg (by simp)] at h
      rw [← ih h]
      simp [atKey, List.find?_cons, c]
theorem tkey_ref {q : D} {v : V} (hq : q.tkey = true) (h : DV G M ρ H q v) : ∃ a, v = .ref a := by
  cases q <;> simp [D.tkey, D.isTup] at hq
  obtain ⟨a, _, e, _⟩ := h
  exact ⟨a, e⟩
theorem tkey_db {B : List Addr} {q : D} {v : V} (hq : q.tkey = true) (h : DB G B ρ H q v) : DV G (ρ ++ B) ρ H q v := by
  rcases h with h | ⟨a, _, _, h⟩
  · exact h
  · cases q <;> simp [D.tkey, D.isTup] at hq
    exact h.elim
section
variable {pins : List (Addr × Obj)} {s : Shared} {σ : L2.St} {B : List Addr}
theorem key_is (xa : XA G X) (I : Inv X pins σ H s) {q : D} {a : Addr} (hq : q.tkey = true) (h : DV G (ρ ++ B) ρ H q (.ref a)) : (nestedKind X.prog X.w).is s.heap q.nk a := by
  refine ⟨nested_of xa I _ _ _ _ (tkey_hsh hq) h rfl, ?_⟩
  have h1 := nk_depth _ _ (tkey_hsh hq)
  have h2 : KDEEP = 7 := rfl
  omega
theorem tr_mk (xa : XA G X) (I : Inv X pins σ H s) : ∀ (es : List DictEntry) (ks ws : List D) (kv vv : List V), Vals kv (es.map (·.key)) → Vals vv (es.map (·.val)) → es.map (·.hash) = ks.map (fun k => k.nk.hash G.w) → ks.all D.tkey = true → DVs G (ρ ++ B) ρ H ks kv → DVs G (ρ ++ B) ρ H ws vv →
    ∃ xs, Tr G (ρ ++ B) ρ H xs ks ws ∧ es = xs.map (entryOfKey (nestedKind X.prog X.w)) ∧ ∀ x ∈ xs, (nestedKind X.prog X.w).is s.heap x.1 x.2.1
  | [], ks, ws, kv, vv, h1, h2, h3, h4, h5, h6 => by
    cases h1
    cases h2
    cases ks with
    | nil =>
      cases ws with
      | nil => exact ⟨[], .nil, rfl, by simp⟩
      | cons _ _ => obtain ⟨_, _, e, _⟩ := h6; cases e
    | cons _ _ => simp at h3
  | e :: es, ks, ws, kv, vv, h1, h2, h3, h4, h5, h6 => by
    cases ks with
    | nil => simp at h3
    | cons k ks =>
      simp only [List.map_cons, List.cons.injEq] at h3
      simp only [List.all_cons, Bool.and_eq_true] at h4
      cases h1 with
      | @cons x _ xs _ r1 r2 =>
      cases h2 with
      | @cons y _ ys _ r3 r4 =>
      obtain ⟨v1, w1, e1, g1, g2⟩ := h5
      cases e1
      cases ws with
      | nil => cases h6
      | cons d ws =>
      obtain ⟨v2, w2, e2, g3, g4⟩ := h6
      cases e2
      obtain ⟨a, rfl⟩ := tkey_ref h4.1 g1
      have ek : e.key = .ref a := r1
      obtain ⟨xs, i1, i2, i3⟩ := tr_mk xa I es ks ws _ _ r2 r4 h3.2 h4.2 g2 g4
      refine ⟨(k.nk, a, e.val) :: xs, .cons rfl h4.1 g1 r3 g3 i1, ?_, fun x hx => ?_⟩
      · rw [List.map_cons, ← i2]
        congr 1
        obtain ⟨eh, ekk, ev⟩ := e
        cases ek
        have : eh = k.nk.hash G.w := h3.1
        rw [this, ← xa.w]
        rfl
      · rcases List.mem_cons.mp hx with rfl | hx
        · exact key_is xa I h4.1 g1
        · exact i3 x hx
theorem Tr.len (t : Tr G M ρ H xs ks vs) : xs.length = ks.length := by
  induction t with
  | nil => rfl
  | cons _ _ _ _ _ _ ih => simp [ih]
/-- a dict of such keys, as the library tells it -/
theorem dctH (xa : XA G X) {ws : List D} {p : Addr} (I : Inv X pins σ H s) (h : DctAt G (ρ ++ B) ρ H ks ws p) (hk : ks.all D.tkey = true) :
    ∃ xs, Tr G (ρ ++ B) ρ H xs ks ws ∧ s.heap.DictOfH (nestedKind X.prog X.w) p xs ∧ (p == sysModules) = false ∧ xs.length ≤ sizeLine ∧ Mut (H p) := by
  obtain ⟨es, kv, vv, h2, h3, h4, h5, h6, h7, h8, h9, h10⟩ := h
  obtain ⟨⟨o, g1, g2, g3, hm⟩, _⟩ := (show ObjOk X.prog X.w H s.heap p (.ext (rawD p es)) from I.hok p _ h2)
  obtain ⟨xs, i1, i2, i3⟩ := tr_mk xa I es.1 ks ws kv vv h3 h4 h5 hk h9 h10
  refine ⟨xs, i1, ⟨o, es.1.toArray, es.2, g1, g2, g3, by simpa using i2, i3, ?_⟩, hm, ?_, by rw [h2]; exact True.intro⟩
  · rw [i1.keys.2.2.1]
    exact h7
  · have : es.1.length = xs.length := by rw [i2]; simp
    rw [← this, sizeLine_eq]
    exact h8
/-- entries of the library, laid as a raw dict -/
theorem dct_raw_mk {ws : List D} {p : Addr} {h' : Heap} {prog : Program} (t : Tr G M ρ H xs ks ws) (hd : h'.DictOfH (nestedKind prog G.w) p xs) (hm : (p == sysModules) = false) (hl : ks.length ≤ LIM) :
    ∃ es : List DictEntry × Nat, rawD p es h' ∧ ∃ kv vv, Vals kv (es.1.map (·.key)) ∧ Vals vv (es.1.map (·.val)) ∧ es.1.map (·.hash) = ks.map (fun k => k.nk.hash G.w) ∧ keysOk ks = true ∧ (ks.map D.nk).Nodup ∧ es.1.length ≤ LIM ∧ DVs G M ρ H ks kv ∧ DVs G M ρ H ws vv := by
  obtain ⟨o, es, ep, g1, g2, g3, g4, g5, g6⟩ := hd
  obtain ⟨k1, k2, k3, vv, k4, k5⟩ := t.keys
  have hv : ∀ l : List (NestedKey × Addr × Value), Vals (l.map fun x => V.ref x.2.1) (l.map fun x => Value.ref x.2.1) := by
    intro l
    induction l with
    | nil => exact .nil
    | cons a l ih => exact .cons rfl ih
  refine ⟨(es.toList, ep), ⟨o, g1, g2, by simpa using g3, hm⟩, _, vv, ?_, ?_, ?_, ?_, by rw [← k3]; exact g6, ?_, k1, k5⟩
  · show Vals _ (es.toList.map (·.key))
    rw [g4, List.map_map]
    exact hv xs
  · show Vals _ (es.toList.map (·.val))
    rw [g4, List.map_map]
    exact k4
  · show es.toList.map (·.hash) = _
    rw [g4, List.map_map]
    have : ((fun x : DictEntry => x.hash) ∘ entryOfKey (nestedKind prog G.w)) = fun x : NestedKey × Addr × Value => x.1.hash G.w := rfl
    rw [this]
    have e1 : xs.map (fun x => x.1.hash G.w) = (xs.map (·.1)).map (fun k => k.hash G.w) := by rw [List.map_map]; rfl
    rw [e1, k3, List.map_map]
    rfl
  · unfold keysOk
    rw [k2, Bool.or_true]
  · show es.toList.length ≤ LIM
    rw [g4, List.length_map, t.len]
    exact hl
variable {A : Around} {E : Value → Shared → Prop} {ws : List D} {p : Addr} {q : D} {v : V} {u : Value}
theorem t_room {k : Nat} (hu : A.units + 10 < cLine) : (nestedKind X.prog X.w).room A.in1 := by
  show A.units + 1 + 8 < cLine
  omega
theorem t_in (xa : XA G X) (hu : A.units + 10 < cLine) (I : Inv X pins σ H s) (hd : DctAt G (ρ ++ B) ρ H ks ws p) (hk : (q :: ks).all D.tkey = true) (hq : DV G (ρ ++ B) ρ H q v) (ru : RelV v u) {Q : Value → Shared → Prop} (h : ∀ s', Inv X pins σ H s' → Q (.bool (dhas ks q)) s') :
    wpAny (model X.prog X.w) A (compareOp .In u (.ref p)) Q E s := by
  simp only [List.all_cons, Bool.and_eq_true] at hk
  obtain ⟨a, rfl⟩ := tkey_ref hk.1 hq
  cases ru
  obtain ⟨xs, t, dd, hm, _, _⟩ := dctH xa I hd hk.2
  refine wpAny_in_heap (t_room (k := 0) hu) (key_is xa I hk.1 hq) hm dd ?_
  rw [t.has hk.1]
  exact h _ (I.tok _)
theorem t_notIn (xa : XA G X) (hu : A.units + 10 < cLine) (I : Inv X pins σ H s) (hd : DctAt G (ρ ++ B) ρ H ks ws p) (hk : (q :: ks).all D.tkey = true) (hq : DV G (ρ ++ B) ρ H q v) (ru : RelV v u) {Q : Value → Shared → Prop} (h : ∀ s', Inv X pins σ H s' → Q (.bool (!dhas ks q)) s') :
    wpAny (model X.prog X.w) A (compareOp .NotIn u (.ref p)) Q E s := by
  simp only [List.all_cons, Bool.and_eq_true] at hk
  obtain ⟨a, rfl⟩ := tkey_ref hk.1 hq
  cases ru
  obtain ⟨xs, t, dd, hm, _, _⟩ := dctH xa I hd hk.2
  refine wpAny_notIn_heap (t_room (k := 0) hu) (key_is xa I hk.1 hq) hm dd ?_
  rw [t.has hk.1]
  exact h _ (I.tok _)
theorem t_getItem (xa : XA G X) (hu : A.units + 10 < cLine) (I : Inv X pins σ H s) (hd : DctAt G (ρ ++ B) ρ H ks ws p) (hk : (q :: ks).all D.tkey = true) (hq : DV G (ρ ++ B) ρ H q v) (ru : RelV v u) {d : D} (hl : dlook ks ws q = some d) {Q : Value → Shared → Prop}
    (h : ∀ w w' s', Inv X pins σ H s' → RelV w w' → DV G (ρ ++ B) ρ H d w → Q w' s') : wpAny (model X.prog X.w) A (getItem (.ref p) u) Q E s := by
  simp only [List.all_cons, Bool.and_eq_true] at hk
  obtain ⟨a, rfl⟩ := tkey_ref hk.1 hq
  cases ru
  obtain ⟨xs, t, dd, hm, _, _⟩ := dctH xa I hd hk.2
  obtain ⟨b, w', w, i1, i2, i3⟩ := t.get hk.1 hl
  exact wpAny_getItem_heap (t_room (k := 0) hu) (key_is xa I hk.1 hq) dd i1 (h w w' _ (I.tok _) i2 i3)
theorem dput_len {k x : D} : (dput ks ws k x).1.length ≤ ks.length + 1 := by
  unfold dput
  split
  · simp
  · simp
theorem t_setItem (xa : XA G X) (hu : A.units + 10 < cLine) (I : Inv X pins σ H s) (mk : Mk (ρ ++ B) H) (hp : p ∈ ρ ++ B) (hd : DctAt G (ρ ++ B) ρ H ks ws p) (hk : (q :: ks).all D.tkey = true) (hq : DV G (ρ ++ B) ρ H q v) (ru : RelV v u) {x : D} {xv : V} {xu : Value} (hx : DV G (ρ ++ B) ρ H x xv) (rx : RelV xv xu) (hl : ks.length < LIM)
    {Q : Unit → Shared → Prop} (h : ∀ (o : HO) (s' : Shared), Mt o → Inv X pins σ (upd H p o) s' → DW G (ρ ++ B) ρ (upd H p o) (.dct (dput ks ws q x).1 (dput ks ws q x).2) p → Q () s') : wpAny (model X.prog X.w) A (setItem (.ref p) u xu) Q E s := by
  simp only [List.all_cons, Bool.and_eq_true] at hk
  obtain ⟨a, rfl⟩ := tkey_ref hk.1 hq
  cases ru
  obtain ⟨xs, t, dd, hm, hz, mu⟩ := dctH xa I hd hk.2
  refine wpAny_setItem_heap (hsz := hz) (t_room (k := 0) hu) (key_is xa I hk.1 hq) dd fun h' dd' hs => ?_
  have tp := t.put hk.1 hq rx hx
  have hlen := dput_len (ks := ks) (ws := ws) (k := q) (x := x)
  obtain ⟨es, raw, kv, vv, j1, j2, j3, j4, j5, j6, j7, j8⟩ := dct_raw_mk (prog := X.prog) tp (by rw [← xa.w]; exact dd') hm (by omega)
  have keep : ∀ b o, H b = some o → b ∉ ρ ++ B → upd H p (.ext (rawD p es)) b = some o := fun b o e n => by
    rw [upd_ne (fun z => n (by rw [z]; exact hp))]
    exact e
  have he : ∃ q, h'.get? p = some q := let ⟨q, hq, _⟩ := raw; ⟨q, hq⟩
  refine h (.ext (rawD p es)) _ ⟨_, _, rfl⟩ (d_write I mu hs he ⟨raw, he, ?_⟩) ⟨es, kv, vv, upd_same, j1, j2, j3, j4, j5, j6, ?_, ?_⟩
  · rintro h1 h2 ⟨o', w1, w2, w3, w4⟩ k
    exact ⟨o', k o' w1, w2, w3, w4⟩
  · exact DVs.keep mk keep (fun _ _ _ n => n) (fun _ _ h => h) _ _ j7
  · exact DVs.keep mk keep (fun _ _ _ n => n) (fun _ _ h => h) _ _ j8
theorem skey_nk {k : D} (h : k.skey = true) (w : World) : k.nk.hash w = keyH w k.dkey := by
  cases k <;> simp [D.skey] at h <;> rfl
theorem skey_eq {k q : D} (h : k.skey = true) (g : q.skey = true) : decide (k.dkey = q.dkey) = D.eqb k q := by
  cases k <;> simp [D.skey] at h <;> cases q <;> simp [D.skey] at g <;> simp [D.dkey, D.eqb] <;> first | rfl | (rw [Bool.eq_iff_iff]; simp)
theorem skey_nkeq {k q : D} (h : k.skey = true) (g : q.skey = true) : k.nk = q.nk ↔ k.dkey = q.dkey := by
  cases k <;> simp [D.skey] at h <;> cases q <;> simp [D.skey] at g <;> simp [D.dkey, D.nk]
inductive Ts (G : Gx) (M ρ : List Addr) (H : Hp) : List (L2.Key × Value) → List D → List D → Prop
  | nil : Ts G M ρ H [] [] []
  | cons {x : L2.Key × Value} {k d : D} {v : V} {xs : List (L2.Key × Value)} {ks vs : List D} : x.1 = k.dkey → k.skey = true → RelV v x.2 → DV G M ρ H d v → Ts G M ρ H xs ks vs → Ts G M ρ H (x :: xs) (k :: ks) (d :: vs)
variable {ys : List (L2.Key × Value)}
theorem valueAt_cons (x : L2.Key × Value) (xs : List (L2.Key × Value)) (k : L2.Key) : valueAt (x :: xs) k = if x.1 = k then some x.2 else valueAt xs k := by
  unfold valueAt
  rw [List.find?_cons]
  by_cases c : x.1 = k
  · simp [c]
  · simp [c]
theorem Ts.look {q : D} (hq : q.skey = true) (t : Ts G M ρ H ys ks vs) : (valueAt ys q.dkey).isSome = dhas ks q ∧ (∀ d, dlook ks vs q = some d → ∃ u v, valueAt ys q.dkey = some u ∧ RelV v u ∧ DV G M ρ H d v) ∧ (dlook ks vs q = none → valueAt ys q.dkey = none) := by
  induction t with
  | nil => exact ⟨rfl, fun d h => by simp [dlook] at h, fun _ => rfl⟩
  | @cons x k d' v xs ks vs h1 h2 h3 h4 t ih =>
    obtain ⟨i1, i2, i3⟩ := ih
    have e := skey_eq h2 hq
    rw [← h1] at e
    rw [valueAt_cons]
    unfold dlook
    by_cases c : x.1 = q.dkey
    · rw [decide_eq_true c] at e
      rw [if_pos c, ← e]
      refine ⟨by simp [dhas, ← e], fun d h => ?_, fun h => ?_⟩
      · rw [if_pos rfl] at h
        cases h
        exact ⟨_, v, rfl, h3, h4⟩
      · rw [if_pos rfl] at h
        cases h
    · rw [decide_eq_false c] at e
      rw [if_neg c, ← e]
      refine ⟨by rw [i1]; simp [dhas, ← e], fun d h => ?_, fun h => ?_⟩
      · rw [if_neg (by simp)] at h
        exact i2 d h
      · rw [if_neg (by simp)] at h
        exact i3 h
theorem Ts.keys (t : Ts G M ρ H ys ks vs) : ks.all D.skey = true ∧ ys.map (·.1) = ks.map D.dkey ∧ ys.length = ks.length ∧ ∃ vv, Vals vv (ys.map (·.2)) ∧ DVs G M ρ H vs vv := by
  induction t with
  | nil => exact ⟨rfl, rfl, rfl, [], .nil, rfl⟩
  | cons h1 h2 h3 h4 t ih =>
    obtain ⟨i1, i2, i3, vv, i4, i5⟩ := ih
    exact ⟨by simp [h2, i1], by simp [h1, i2], by simp [i3], _ :: vv, .cons h3 i4, .cons h4 i5⟩
theorem Ts.set {q d : D} {v : V} {u : Value} (hq : q.skey = true) (rv : RelV v u) (hd : DV G M ρ H d v) (t : Ts G M ρ H ys ks vs) : Ts G M ρ H (ys.map fun kv => if kv.1 = q.dkey then (kv.1, u) else kv) ks (dset ks vs q d) := by
  induction t with
  | nil => exact .nil
  | @cons x k d' v' xs ks vs h1 h2 h3 h4 t ih =>
    have e := skey_eq h2 hq
    rw [← h1] at e
    rw [List.map_cons]
    unfold dset
    by_cases c : x.1 = q.dkey
    · rw [decide_eq_true c] at e
      rw [if_pos c, ← e, if_pos rfl]
      exact .cons h1 h2 rv hd ih
    · rw [decide_eq_false c] at e
      rw [if_neg c, ← e, if_neg (by simp)]
      exact .cons h1 h2 h3 h4 ih
theorem Ts.snoc {q d : D} {v : V} {u : Value} (hq : q.skey = true) (rv : RelV v u) (hd : DV G M ρ H d v) (t : Ts G M ρ H ys ks vs) : Ts G M ρ H (ys ++ [(q.dkey, u)]) (ks ++ [q]) (vs ++ [d]) := by
  induction t with
  | nil => exact .cons rfl hq rv hd .nil
  | cons h1 h2 h3 h4 t ih => exact .cons h1 h2 h3 h4 ih
theorem Ts.any {q : D} (hq : q.skey = true) (t : Ts G M ρ H ys ks vs) : (ys.any fun kv => decide (kv.1 = q.dkey)) = dhas ks q := by
  induction t with
  | nil => rfl
  | @cons x k d' v xs ks vs h1 h2 h3 h4 t ih =>
    have e := skey_eq h2 hq
    rw [← h1] at e
    rw [List.any_cons, ih, e]
    rfl
theorem Ts.put {q d : D} {v : V} {u : Value} (hq : q.skey = true) (rv : RelV v u) (hd : DV G M ρ H d v) (t : Ts G M ρ H ys ks vs) : Ts G M ρ H (stored ys q.dkey u) (dput ks vs q d).1 (dput ks vs q d).2 := by
  unfold stored dput
  rw [t.any hq]
  cases dhas ks q with
  | true => exact t.set hq rv hd
  | false => exact t.snoc hq rv hd
theorem skey_rel (X : Cx) {d : D} {v : V} {u : Value} (hs : d.skey = true) (h : DV G M ρ H d v) (r : RelV v u) : keyIs d.dkey u = true := by
  have e : v = kV d.dkey := by
    cases d <;> simp [D.skey] at hs <;> exact h
  subst e
  exact kV_is (P := X.prog) (w := X.w) r
theorem ts_mk (xa : XA G X) : ∀ (es : List DictEntry) (ks ws : List D) (kv vv : List V), Vals kv (es.map (·.key)) → Vals vv (es.map (·.val)) → es.map (·.hash) = ks.map (fun k => k.nk.hash G.w) → ks.all D.skey = true → DVs G (ρ ++ B) ρ H ks kv → DVs G (ρ ++ B) ρ H ws vv →
    ∃ xs, Ts G (ρ ++ B) ρ H xs ks ws ∧ Pairs (mixKind X.prog X.w) es xs ∧ ∀ e ∈ es, ∃ k, (mixKind X.prog X.w).is k e.key = true ∧ e.hash = (mixKind X.prog X.w).hash k
  | [], ks, ws, kv, vv, h1, h2, h3, h4, h5, h6 => by
    cases h1
    cases h2
    cases ks with
    | nil =>
      cases ws with
      | nil => exact ⟨[], .nil, .nil, by simp⟩
      | cons _ _ => obtain ⟨_, _, e, _⟩ := h6; cases e
    | cons _ _ => simp at h3
  | e :: es, ks, ws, kv, vv, h1, h2, h3, h4, h5, h6 => by
    cases ks with
    | nil => simp at h3
    | cons k ks =>
      simp only [List.map_cons, List.cons.injEq] at h3
      simp only [List.all_cons, Bool.and_eq_true] at h4
      cases h1 with
      | @cons x _ xs _ r1 r2 =>
      cases h2 with
      | @cons y _ ys _ r3 r4 =>
      obtain ⟨v1, w1, e1, g1, g2⟩ := h5
      cases e1
      cases ws with
      | nil => cases h6
      | cons d ws =>
      obtain ⟨v2, w2, e2, g3, g4⟩ := h6
      cases e2
      obtain ⟨xs, i1, i2, i3⟩ := ts_mk xa es ks ws _ _ r2 r4 h3.2 h4.2 g2 g4
      have kk : keyIs k.dkey e.key = true := skey_rel X h4.1 g1 r1
      refine ⟨(k.dkey, e.val) :: xs, .cons rfl h4.1 r3 g3 i1, .cons kk rfl i2, fun y hy => ?_⟩
      rcases List.mem_cons.mp hy with rfl | hy
      · exact ⟨k.dkey, kk, by rw [h3.1, skey_nk h4.1, ← xa.w]; rfl⟩
      · exact i3 y hy
theorem nd_map {α β γ : Type} (f : α → β) (g : α → γ) : ∀ (l : List α), (∀ a ∈ l, ∀ b ∈ l, f a = f b → g a = g b) → (l.map g).Nodup → (l.map f).Nodup
  | [], _, _ => by simp
  | a :: l, h, n => by
    rw [List.map_cons, List.nodup_cons] at n ⊢
    refine ⟨fun z => ?_, nd_map f g l (fun x hx y hy => h x (List.mem_cons_of_mem _ hx) y (List.mem_cons_of_mem _ hy)) n.2⟩
    obtain ⟨b, hb, e⟩ := List.mem_map.mp z
    exact n.1 (List.mem_map.mpr ⟨b, hb, (h a List.mem_cons_self b (List.mem_cons_of_mem _ hb) e.symm).symm⟩)
theorem dctS (xa : XA G X) {ws : List D} {p : Addr} (I : Inv X pins σ H s) (h : DctAt G (ρ ++ B) ρ H ks ws p) (hk : ks.all D.skey = true) :
    ∃ xs, Ts G (ρ ++ B) ρ H xs ks ws ∧ s.heap.DictOf (mixKind X.prog X.w) p xs ∧ (p == sysModules) = false ∧ xs.length ≤ sizeLine ∧ Mut (H p) := by
  obtain ⟨es, kv, vv, h2, h3, h4, h5, h6, h7, h8, h9, h10⟩ := h
  obtain ⟨⟨o, g1, g2, g3, hm⟩, _⟩ := (show ObjOk X.prog X.w H s.heap p (.ext (rawD p es)) from I.hok p _ h2)
  obtain ⟨xs, i1, i2, i3⟩ := ts_mk xa es.1 ks ws kv vv h3 h4 h5 hk h9 h10
  refine ⟨xs, i1, ⟨o, es.1.toArray, es.2, g1, g2, g3, fun e he => i3 e (by simpa using he), by simpa using i2, ?_⟩, hm, ?_, by rw [h2]; exact True.intro⟩
  · rw [i1.keys.2.1]
    refine nd_map D.dkey D.nk ks (fun a ha b hb e => ?_) h7
    exact (skey_nkeq (List.all_eq_true.mp hk a ha) (List.all_eq_true.mp hk b hb)).mpr e
  · have : es.1.length = xs.length := i2.length
    rw [← this, sizeLine_eq]
    exact h8
theorem dct_raw_mkS {ws : List D} {p : Addr} {h' : Heap} {prog : Program} (t : Ts G M ρ H ys ks ws) (hd : h'.DictOf (mixKind prog G.w) p ys) (hm : (p == sysModules) = false) (hl : ks.length ≤ LIM) :
    ∃ es : List DictEntry × Nat, rawD p es h' ∧ ∃ kv vv, Vals kv (es.1.map (·.key)) ∧ Vals vv (es.1.map (·.val)) ∧ es.1.map (·.hash) = ks.map (fun k => k.nk.hash G.w) ∧ keysOk ks = true ∧ (ks.map D.nk).Nodup ∧ es.1.length ≤ LIM ∧ DVs G M ρ H ks kv ∧ DVs G M ρ H ws vv := by
  obtain ⟨o, es, ep, g1, g2, g3, g4, g5, g6⟩ := hd
  obtain ⟨k1, k2, k3, vv, k4, k5⟩ := t.keys
  have g4 : ∀ e ∈ es.toList, ∃ k, (mixKind prog G.w).is k e.key = true ∧ e.hash = (mixKind prog G.w).hash k := fun e he => g4 e (by simpa using he)
  have key : ∀ (es : List DictEntry) (xs : List (L2.Key × Value)) (ks : List D), Pairs (mixKind prog G.w) es xs → (∀ e ∈ es, ∃ k, (mixKind prog G.w).is k e.key = true ∧ e.hash = (mixKind prog G.w).hash k) → xs.map (·.1) = ks.map D.dkey → ks.all D.skey = true →
      ∃ kv, DVs G M ρ H ks kv ∧ Vals kv (es.map (·.key)) ∧ es.map (·.hash) = ks.map (fun k => k.nk.hash G.w) ∧ es.map (·.val) = xs.map (·.2) := by
    intro es xs
    induction xs generalizing es with
    | nil =>
      intro ks pr _ e _
      cases pr
      cases ks with
      | nil => exact ⟨[], rfl, .nil, rfl, rfl⟩
      | cons _ _ => simp at e
    | cons x xs ih =>
      intro ks pr hh e hs
      cases ks with
      | nil => simp at e
      | cons k ks =>
        simp only [List.map_cons, List.cons.injEq] at e
        simp only [List.all_cons, Bool.and_eq_true] at hs
        cases pr with
        | @cons en _ es _ q1 q2 q3 =>
        obtain ⟨kv, r1, r2, r3, r4⟩ := ih es ks q3 (fun y hy => hh y (List.mem_cons_of_mem _ hy)) e.2 hs.2
        have kk : keyIs k.dkey en.key = true := by rw [← e.1]; exact q1
        obtain ⟨k', hk', hh'⟩ := hh en List.mem_cons_self
        have ek : k' = k.dkey := (mixKind prog G.w).inj en.key _ _ hk' kk
        refine ⟨kV k.dkey :: kv, .cons ?_ r1, .cons (relV_key kk) r2, ?_, ?_⟩
        · have := hs.1
          cases k <;> simp [D.skey] at this <;> rfl
        · rw [List.map_cons, List.map_cons, r3, hh', ek, skey_nk hs.1]
          rfl
        · rw [List.map_cons, List.map_cons, r4, q2]
  obtain ⟨kv, r1, r2, r3, r4⟩ := key _ _ _ g5 g4 k2 k1
  refine ⟨(es.toList, ep), ⟨o, g1, g2, by simpa using g3, hm⟩, kv, vv, r2, ?_, r3, ?_, ?_, ?_, r1, k5⟩
  · show Vals vv (es.toList.map (·.val))
    rw [r4]
    exact k4
  · unfold keysOk
    rw [k1, Bool.true_or]
  · rw [k2] at g6
    refine nd_map D.nk D.dkey ks (fun a ha b hb e => ?_) g6
    exact (skey_nkeq (List.all_eq_true.mp k1 a ha) (List.all_eq_true.mp k1 b hb)).mp e
  · show es.toList.length ≤ LIM
    rw [g5.length, k3]
    exact hl
end
end
end Dp
set_option Elab.async false
set_option linter.all false
set_option maxRecDepth 100000
set_option maxHeartbeats 4000000
namespace Dp
open PySem PySem.Spec PyProof.Rows L2 PySem.W PySem.SeqAt
section
variable {G : Gx} {X : Cx} {M ρ B : List Addr} {H : Hp} {ks ws : List D} {pins : List (Addr × Obj)} {s : Shared} {σ : L2.St} {A : Around} {E : Value → Shared → Prop} {p : Addr} {q : D} {v : V} {u : Value}
/-- what a new thing at a is -/
def Cont (G : Gx) (M ρ : List Addr) (H : Hp) (a : Addr) : D → HO → Prop
  | .lst ds, o => ∃ vs, o = .lst vs ∧ DVs G M ρ H ds vs
  | .dct ks vs, o => ∃ es kv vv, o = .ext (rawD a es) ∧ Vals kv (es.1.map (·.key)) ∧ Vals vv (es.1.map (·.val)) ∧
      es.1.map (·.hash) = ks.map (fun k => k.nk.hash G.w) ∧ keysOk ks = true ∧ (ks.map D.nk).Nodup ∧ es.1.length ≤ LIM ∧ DVs G M ρ H ks kv ∧ DVs G M ρ H vs vv
  | _, _ => False
theorem skey_db {v : V} (hx : q.skey = true) (h : DB G B ρ H q v) : DV G (ρ ++ B) ρ H q v := by
  rcases h with h | ⟨a, _, _, h⟩
  · exact h
  · cases q <;> simp [D.skey] at hx <;> exact h.elim
theorem keys_split (h : keysOk (q :: ks) = true) : (q.skey = true ∧ ks.all D.skey = true) ∨ (q :: ks).all D.tkey = true := by
  rcases (Bool.or_eq_true _ _).mp h with h | h
  · simp only [List.all_cons, Bool.and_eq_true] at h
    exact .inl h
  · exact .inr h
theorem key_db (hk : keysOk (q :: ks) = true) (h : DB G B ρ H q v) : DV G (ρ ++ B) ρ H q v := by
  rcases keys_split hk with hk | hk
  · exact skey_db hk.1 h
  · simp only [List.all_cons, Bool.and_eq_true] at hk
    exact tkey_db hk.1 h
theorem dct_typeIs (I : Inv X pins σ H s) (hd : DctAt G M ρ H ks ws p) : s.TypeIs (.ref p) "dict" := by
  obtain ⟨es, kv, vv, h2, _⟩ := hd
  obtain ⟨⟨o, g1, g2, _⟩, _⟩ := (show ObjOk X.prog X.w H s.heap p (.ext (rawD p es)) from I.hok p _ h2)
  exact ⟨o, g1, g2.1⟩
theorem k_in (xa : XA G X) (hu : A.units + 10 < cLine) (I : Inv X pins σ H s) (hd : DctAt G (ρ ++ B) ρ H ks ws p) (hk : keysOk (q :: ks) = true) (hq : DV G (ρ ++ B) ρ H q v) (ru : RelV v u) {Q : Value → Shared → Prop} (h : ∀ s', Inv X pins σ H s' → Q (.bool (dhas ks q)) s') :
    wpAny (model X.prog X.w) A (compareOp .In u (.ref p)) Q E s := by
  rcases keys_split hk with hk | hk
  · obtain ⟨xs, t, dd, hm, _, _⟩ := dctS xa I hd hk.2
    refine wpAny_in_of (knd := mixKind X.prog X.w) (skey_rel X hk.1 hq ru) hm dd.mapOf ?_
    rw [(t.look hk.1).1]
    exact h _ (I.tok _)
  · exact t_in xa hu I hd hk hq ru h
theorem k_notIn (xa : XA G X) (hu : A.units + 10 < cLine) (I : Inv X pins σ H s) (hd : DctAt G (ρ ++ B) ρ H ks ws p) (hk : keysOk (q :: ks) = true) (hq : DV G (ρ ++ B) ρ H q v) (ru : RelV v u) {Q : Value → Shared → Prop} (h : ∀ s', Inv X pins σ H s' → Q (.bool (!dhas ks q)) s') :
    wpAny (model X.prog X.w) A (compareOp .NotIn u (.ref p)) Q E s := by
  rcases keys_split hk with hk | hk
  · obtain ⟨xs, t, dd, hm, _, _⟩ := dctS xa I hd hk.2
    refine wpAny_notIn_of (knd := mixKind X.prog X.w) (skey_rel X hk.1 hq ru) hm dd.mapOf ?_
    rw [(t.look hk.1).1]
    exact h _ (I.tok _)
  · exact t_notIn xa hu I hd hk hq ru h
theorem k_getItem (xa : XA G X) (hu : A.units + 10 < cLine) (I : Inv X pins σ H s) (hd : DctAt G (ρ ++ B) ρ H ks ws p) (hk : keysOk (q :: ks) = true) (hq : DV G (ρ ++ B) ρ H q v) (ru : RelV v u) {d : D} (hl : dlook ks ws q = some d) {Q : Value → Shared → Prop}
    (h : ∀ w w' s', Inv X pins σ H s' → RelV w w' → DV G (ρ ++ B) ρ H d w → Q w' s') : wpAny (model X.prog X.w) A (getItem (.ref p) u) Q E s := by
  rcases keys_split hk with hk | hk
  · obtain ⟨xs, t, dd, hm, _, _⟩ := dctS xa I hd hk.2
    obtain ⟨w', w, i1, i2, i3⟩ := (t.look hk.1).2.1 d hl
    exact wpAny_getItem_of (knd := mixKind X.prog X.w) (skey_rel X hk.1 hq ru) dd.mapOf i1 (h w w' _ (I.tok _) i2 i3)
  · exact t_getItem xa hu I hd hk hq ru hl h
theorem k_setItem (xa : XA G X) (hu : A.units + 10 < cLine) (I : Inv X pins σ H s) (mk : Mk (ρ ++ B) H) (hp : p ∈ ρ ++ B) (hd : DctAt G (ρ ++ B) ρ H ks ws p) (hk : keysOk (q :: ks) = true) (hq : DV G (ρ ++ B) ρ H q v) (ru : RelV v u) {x : D} {xv : V} {xu : Value} (hx : DV G (ρ ++ B) ρ H x xv) (rx : RelV xv xu) (hl : ks.length < LIM)
    {Q : Unit → Shared → Prop} (h : ∀ (o : HO) (s' : Shared), Mt o → Inv X pins σ (upd H p o) s' → DW G (ρ ++ B) ρ (upd H p o) (.dct (dput ks ws q x).1 (dput ks ws q x).2) p → Q () s') : wpAny (model X.prog X.w) A (setItem (.ref p) u xu) Q E s := by
  rcases keys_split hk with hk | hk
  · obtain ⟨xs, t, dd, hm, hz, mu⟩ := dctS xa I hd hk.2
    refine wpAny_setItem_pairs (hsz := hz) (knd := mixKind X.prog X.w) (skey_rel X hk.1 hq ru) dd fun h' dd' hs => ?_
    have tp := t.put hk.1 rx hx
    have hlen := dput_len (ks := ks) (ws := ws) (k := q) (x := x)
    obtain ⟨es, raw, kv, vv, j1, j2, j3, j4, j5, j6, j7, j8⟩ := dct_raw_mkS (prog := X.prog) tp (by rw [← xa.w]; exact dd') hm (by omega)
    have keep : ∀ b o, H b = some o → b ∉ ρ ++ B → upd H p (.ext (rawD p es)) b = some o := fun b o e n => by
      rw [upd_ne (fun z => n (by rw [z]; exact hp))]
      exact e
    have he : ∃ q, h'.get? p = some q := let ⟨q, hq, _⟩ := raw; ⟨q, hq⟩
    refine h (.ext (rawD p es)) _ ⟨_, _, rfl⟩ (d_write I mu hs he ⟨raw, he, ?_⟩) ⟨es, kv, vv, upd_same, j1, j2, j3, j4, j5, j6, ?_, ?_⟩
    · rintro h1 h2 ⟨o', w1, w2, w3, w4⟩ k
      exact ⟨o', k o' w1, w2, w3, w4⟩
    · exact DVs.keep mk keep (fun _ _ _ n => n) (fun _ _ h => h) _ _ j7
    · exact DVs.keep mk keep (fun _ _ _ n => n) (fun _ _ h => h) _ _ j8
  · exact t_setItem xa hu I mk hp hd hk hq ru hx rx hl h
/-- a dict of the hand layer, told anew as a raw one -/
theorem retell {kvs : List (L2.Key × V)} (I : Inv X pins σ (upd H p (.dK kvs)) s) :
    ∃ es : List DictEntry × Nat, Inv X pins σ (upd H p (.ext (rawD p es))) s ∧ ∃ xs, KV kvs xs ∧ s.heap.DictOf (mixKind X.prog X.w) p xs ∧ (p == sysModules) = false ∧ rawD p es s.heap ∧ kvs.length ≤ sizeLine := by
  obtain ⟨z, hm, vs, rel, dd⟩ := (show ObjOk X.prog X.w (upd H p (.dK kvs)) s.heap p (.dK kvs) from I.hok p _ upd_same)
  obtain ⟨o, es, ep, g1, g2, g3, _⟩ := id dd
  have raw : rawD p (es.toList, ep) s.heap := ⟨o, g1, g2, by simpa using g3, hm⟩
  have e : upd (upd H p (.dK kvs)) p (.ext (rawD p (es.toList, ep))) = upd H p (.ext (rawD p (es.toList, ep))) := by
    funext b
    unfold upd
    by_cases q : b = p
    · rw [if_pos q, if_pos q]
    · rw [if_neg q, if_neg q, if_neg q]
  refine ⟨(es.toList, ep), ?_, vs, rel, dd, hm, raw, z⟩
  have := I.write (x := p) (e := p) (o := .ext (rawD p (es.toList, ep))) (t' := s.toks) (h' := s.heap) (by rw [upd_same]; exact True.intro) (.inl rfl) (fun _ _ _ e => e) ⟨o, g1⟩ ⟨raw, ⟨o, g1⟩, by
    rintro h1 h2 ⟨o', w1, w2, w3, w4⟩ k
    exact ⟨o', k o' w1, w2, w3, w4⟩⟩
  rw [e] at this
  exact this
end
end Dp
set_option Elab.async false
set_option linter.all false
set_option maxRecDepth 100000
set_option maxHeartbeats 4000000
namespace Dp
open PySem PySem.Spec PyProof.Rows L2 PySem.SeqAt PySem.MeetsSeq
theorem dict_eq_no_tuple (l b : Addr) (es : Array DictEntry) (ep : Nat) (items2 : Array Value) (n2 : Nat) (dd dd2 : Option Addr) (sl sl2 : Array (Option Value)) :
    Meets (Builtin.«dict.__eq__» ⟨[.ref l, .ref b], []⟩) (fun _ R s => s.heap.get? l = some { cls := .type "dict", dict := dd, data := .dict es ep, slots := sl } ∧ s.heap.get? b = some { cls := .type "tuple", dict := dd2, data := .seq items2 n2, slots := sl2 } ∧ R (.ok (.ret .notImplemented)) s) :=
  .of_wp fun prog w A R s h => by
    obtain ⟨hp, g, d, tk, os⟩ := s
    obtain ⟨hl, hb, h⟩ := h
    have f1 := F.sub_tuple_dict
    wp_walk using wpAny_loadPart' hl, wpAny_loadPart' hb
    exact ⟨_, rfl, h⟩
theorem tuple_eq_no_dict (l b : Addr) (es : Array DictEntry) (ep : Nat) (items2 : Array Value) (n2 : Nat) (dd dd2 : Option Addr) (sl sl2 : Array (Option Value)) :
    Meets (Builtin.«tuple.__eq__» ⟨[.ref b, .ref l], []⟩) (fun _ R s => s.heap.get? l = some { cls := .type "dict", dict := dd, data := .dict es ep, slots := sl } ∧ s.heap.get? b = some { cls := .type "tuple", dict := dd2, data := .seq items2 n2, slots := sl2 } ∧ R (.ok (.ret .notImplemented)) s) :=
  .of_wp fun prog w A R s h => by
    obtain ⟨hp, g, d, tk, os⟩ := s
    obtain ⟨hl, hb, h⟩ := h
    have f1 := F.sub_dict_tuple
    wp_walk using wpAny_loadPart' hl, wpAny_loadPart' hb
    exact ⟨_, rfl, h⟩
theorem rc_dict_tuple {A : Around} {s : Shared} {l b : Addr} {o : Obj} {es : Array DictEntry} {ep : Nat} {items : Array Value} (ho : s.heap.get? l = some o) (hx : o.ExactDict) (hd : o.data = .dict es ep) (hb : s.heap.IsTuple b items) (hu : A.units < cLine) : RcAt A s (.ref l) (.ref b) false := fun prog w E Q h => by
  obtain ⟨c, dd, dat, sl⟩ := o
  obtain ⟨z1, z2, z3⟩ := hx
  simp only at z1 z2 z3 hd
  subst z1 z2 z3 hd
  obtain ⟨⟨cls2, dd2, data2, sl2⟩, ho2, hc2, n2, hd2⟩ := id hb
  simp only at hc2 hd2
  subst hc2 hd2
  have hne : l ≠ b := fun e => by
    subst e
    rw [ho] at ho2
    simp at ho2
  exact (rc_eq_decline_or (k := false) ⟨_, ho, rfl⟩ ⟨_, ho2, rfl⟩ (by decide) F.sub_tuple_dict F.slot_dict_eq F.slot_tuple_eq_refl
    (fun _ hq => call_meets F.slot_dict_eq ⟨_, ho, rfl⟩ F.entry_dict_eq (F.args_dict_eq_2 _ _) (dict_eq_no_tuple l b es ep items n2 none dd2 #[] sl2) ⟨ho, ho2, hq⟩)
    (fun _ hq => call_meets F.slot_tuple_eq_refl ⟨_, ho2, rfl⟩ F.entry_tuple_eq (F.args_tuple_eq_2 _ _) (tuple_eq_no_dict l b es ep items n2 none dd2 #[] sl2) ⟨ho, ho2, hq⟩)
    (fun _ hq => wpAny_isSame_ref_other hne ho ho2 (by simp) hq) (.inr hu) h)
end Dp
set_option Elab.async false
set_option linter.all false
set_option maxRecDepth 100000
set_option maxHeartbeats 4000000
namespace Dp
open PySem PySem.Spec PyProof.Rows L2
section
variable {G : Gx} {X : Cx}
def r2D (G : Gx) (f : D → D → Option D) : R2 := fun x y H Q => ∃ B ρ st d e r, RS (G := G) B st ρ H ∧ DB G B ρ H d x ∧ DB G B ρ H e y ∧ f d e = some r ∧ Fin G B ρ H Q r
theorem Fin.now {B ρ : List Addr} {H : Hp} {Q : VK} {d : D} {v : V} (f : Fin G B ρ H Q d) (h : DV G (ρ ++ B) ρ H d v) : Q v H := f v H (Sm.refl H) h
theorem fits_some {ds : List D} {d r : D} (h : fits ds d = some r) : ds.length ≤ LIM ∧ r = d := by
  unfold fits at h
  split at h
  · exact ⟨by assumption, (Option.some.inj h).symm⟩
  · cases h
theorem lim_line : LIM = sizeLine := sizeLine_eq.symm
theorem fresh_notin {B ρ : List Addr} {st : Store} {H : Hp} {p : Addr} (r : RS (G := G) B st ρ H) (hp : H p = none) : p ∉ ρ ++ B := fun hm => by
  obtain ⟨o, e, _⟩ := r.mt p hm
  rw [hp] at e; cases e
/-- a new tuple, a new list -/
theorem Fin.tup {B ρ : List Addr} {st : Store} {H : Hp} {Q : VK} {ds : List D} {vs : List V} {p : Addr} (r : RS (G := G) B st ρ H) (f : Fin G B ρ H Q (.tup ds)) (h : DVs G (ρ ++ B) ρ H ds vs) (hp : H p = none) : Q (.ref p) (upd H p (.tup vs)) :=
  f _ _ (same_laid hp) ⟨p, vs, rfl, .inl (.inl upd_same), h.laid r.mt hp⟩
theorem Fin.lst {B ρ : List Addr} {st : Store} {H : Hp} {Q : VK} {ds : List D} {vs : List V} {p : Addr} (r : RS (G := G) B st ρ H) (f : Fin G B ρ H Q (.lst ds)) (h : DVs G (ρ ++ B) ρ H ds vs) (hp : H p = none) : Q (.ref p) (upd H p (.lst vs)) :=
  f _ _ (same_laid hp) ⟨p, vs, rfl, .inl upd_same, fresh_notin r hp, h.laid r.mt hp⟩
section
variable {P : Par}
theorem Cont.mt {M ρ : List Addr} {H : Hp} {d : D} {a : Addr} {o : HO} (c : Cont G M ρ H a d o) : Mt o := by
  cases d <;> first | exact c.elim | skip
  · obtain ⟨vs, rfl, _⟩ := c; exact True.intro
  · obtain ⟨es, kv, vv, rfl, _⟩ := c; exact ⟨_, _, rfl⟩
theorem Cont.nt {M ρ : List Addr} {H : Hp} {d : D} {a : Addr} {o : HO} (c : Cont G M ρ H a d o) : ∀ ps, o ≠ .tbl ps := by
  cases d <;> first | exact c.elim | skip
  · obtain ⟨vs, rfl, _⟩ := c; intro _ z; cases z
  · obtain ⟨es, kv, vv, rfl, _⟩ := c; intro _ z; cases z
theorem Cont.dw {M M' ρ ρ' : List Addr} {H H' : Hp} {d : D} {o : HO} {a : Addr} (mk : Mk M H) (hp : ∀ b u, H b = some u → b ∉ M → H' b = some u) (hm : ∀ b u, H b = some u → b ∉ M → b ∉ M') (hr : ∀ (n : Nat) b, ρ[n]? = some b → ρ'[n]? = some b) (ha : H' a = some o) (c : Cont G M ρ H a d o) : DW G M' ρ' H' d a := by
  cases d <;> first | exact c.elim | skip
  · obtain ⟨vs, rfl, h⟩ := c
    exact ⟨vs, ha, DVs.keep mk hp hm hr _ _ h⟩
  · obtain ⟨es, kv, vv, rfl, h1, h2, h3, h4, h5, h6, h7, h8⟩ := c
    exact ⟨es, kv, vv, ha, h1, h2, h3, h4, h5, h6, DVs.keep mk hp hm hr _ _ h7, DVs.keep mk hp hm hr _ _ h8⟩
theorem Cont.dv {B ρ : List Addr} {st : Store} {H : Hp} {d : D} {o : HO} {a : Addr} (rs : RS (G := G) B st ρ H) (ha : H a = none) (c : Cont G (ρ ++ B) ρ H a d o) : DV G (ρ ++ B) ρ (upd H a o) d (.ref a) := by
  have hn := fresh_notin rs ha
  cases d <;> first | exact c.elim | skip
  · obtain ⟨vs, rfl, h⟩ := c
    exact ⟨a, vs, rfl, .inl upd_same, hn, h.laid rs.mt ha⟩
  · obtain ⟨es, kv, vv, rfl, h1, h2, h3, h4, h5, h6, h7, h8⟩ := c
    exact ⟨a, rfl, hn, es, kv, vv, upd_same, h1, h2, h3, h4, h5, h6, h7.laid rs.mt ha, h8.laid rs.mt ha⟩
end
/-- .. what is new is laid at a fresh place -/
def FinF (G : Gx) (B ρ : List Addr) (H : Hp) (Q : VK) (d : D) : Prop := ∀ p o, H p = none → Cont G (ρ ++ B) ρ H p d o → Q (.ref p) (upd H p o)
theorem Fin.f {B ρ : List Addr} {st : Store} {H : Hp} {Q : VK} {d : D} (r : RS (G := G) B st ρ H) (f : Fin G B ρ H Q d) : FinF G B ρ H Q d := fun p o hp c => f _ _ (same_laid hp c.nt) (c.dv r hp)
theorem FinF.lst {B ρ : List Addr} {H : Hp} {Q : VK} {ds : List D} {vs : List V} {p : Addr} (f : FinF G B ρ H Q (.lst ds)) (h : DVs G (ρ ++ B) ρ H ds vs) (hp : H p = none) : Q (.ref p) (upd H p (.lst vs)) := f p _ hp ⟨vs, rfl, h⟩
def r2F (G : Gx) (f : D → D → Option D) : R2 := fun x y H Q => ∃ B ρ st d e r, RS (G := G) B st ρ H ∧ DB G B ρ H d x ∧ DB G B ρ H e y ∧ f d e = some r ∧ r.isCell = true ∧ FinF G B ρ H Q r
theorem rdLst {pins : List (Addr × Obj)} {σ : L2.St} {H : Hp} {s : Shared} {a : Addr} {xs : List V} (I : Inv X pins σ H s) (h : Rd H a (.lst xs)) :
    xs.length ≤ sizeLine ∧ ∃ (its : List Value) (n : Nat), Vals xs its ∧ xs.length = its.length ∧ s.heap.get? a = some { cls := .type "list", data := .seq its.toArray n } := by
  obtain ⟨z, its, n, r, e⟩ := h.ok I.hok
  exact ⟨z, its, n, r, r.length, e⟩
/-- list + list -/
def rCatR : R2 := fun x y H Q => ∃ l b xs zs, x = .ref l ∧ y = .ref b ∧ Rd H l (.lst xs) ∧ Rd H b (.lst zs) ∧ xs.length + zs.length ≤ sizeLine ∧ ∀ p, H p = none → Q (.ref p) (upd H p (.lst (xs ++ zs)))
theorem op_catR : OpR X (binaryOp .Add) rCatR := by
  intro pins s σ H x y v u Q I rx ry h
  obtain ⟨l, b, xs, zs, rfl, rfl, h1, h2, hz, q⟩ := h
  cases rx
  cases ry
  obtain ⟨_, is, n, r, e1, g1⟩ := rdLst I h1
  obtain ⟨_, js, m, r2, e2, g2⟩ := rdLst I h2
  have hsz : is.toArray.size + js.toArray.size ≤ sizeLine := by
    rw [List.size_toArray, List.size_toArray, ← e1, ← e2]
    exact hz
  refine PySem.P.add_list g1 g2 ?_ hsz
  rw [show is.toArray ++ js.toArray = (is ++ js).toArray by simp]
  have hl : (xs ++ zs).length ≤ sizeLine := by rw [List.length_append]; exact hz
  exact ⟨.ref s.heap.objs.size, _, I.lnew (t' := s.toks) (r.append r2) hl, rfl, q _ I.fresh⟩
/-- list * int -/
def rRepR : R2 := fun x y H Q => ∃ l k xs, x = .ref l ∧ y = .int k ∧ Rd H l (.lst xs) ∧ -(2 ^ 63) ≤ k ∧ k < 2 ^ 63 ∧ xs.length * k.toNat ≤ sizeLine ∧
  ∀ p, H p = none → Q (.ref p) (upd H p (.lst (List.replicate k.toNat xs).flatten))
theorem op_repR : OpR X (binaryOp .Mult) rRepR := by
  intro pins s σ H x y v u Q I rx ry h
  obtain ⟨l, k, xs, rfl, rfl, hR, h1, h2, hz, q⟩ := h
  cases rx
  obtain ⟨t, rfl⟩ := ry
  obtain ⟨z, its, n, r, hl, e⟩ := rdLst I hR
  have hlen : its.toArray.size * k.toNat ≤ sizeLine := by rw [List.size_toArray, ← hl]; exact hz
  have hcap : ¬ its.toArray.size * k.toNat > (2 ^ 63 - 1) / 8 := by
    have : (sizeLine : Nat) ≤ (2 ^ 63 - 1) / 8 := by decide
    omega
  have hfit : ¬ (!Builtin.List.listFitsIndex k) = true := by
    rw [fitsIndex_both h1 h2]
    exact Bool.false_ne_true
  have hlong : ¬ Builtin.List.listTooLong (its.toArray.size * k.toNat) = true := by
    rw [notLongL hlen]
    exact Bool.false_ne_true
  have hnew : List.foldl (fun x1 x2 => x1 ++ x2) #[] (List.replicate (if its.toArray.isEmpty = true then 0 else k.toNat) its.toArray) = (List.replicate k.toNat its).flatten.toArray := by
    have f0 : ∀ m : Nat, List.foldl (fun x1 x2 => x1 ++ x2) #[] (List.replicate m its.toArray) = (List.replicate m its).flatten.toArray := fun m => by
      have := foldl_rep its m []
      rw [List.nil_append] at this
      exact this
    rw [f0]
    cases its with
    | nil => simp
    | cons a r' => rw [if_neg (by simp)]
  refine wpAny_binaryOp_repeat_ref (T := "list") (U := "int") (by decide) ⟨_, e, rfl⟩ (fun s' => typeIs_int s' k t) noFill_list_mul F.fills_int_mul F.slot_int_rmul repeat_list F.slot_int_index.lookup
    (call_meets F.slot_int_rmul (typeIs_int s k t) F.entry_int_rmul (F.args_int_rmul_2 _ _) (int___rmul___int_list k t l its.toArray n)
      ⟨e, rfl, ⟨_, e, rfl⟩, call_meets F.slot_list_mul ⟨_, e, rfl⟩ F.entry_list_mul (F.args_list_mul_2 _ _) (AutoListH.list___mul___list_int_3 l its.toArray n k t hfit hcap hlong) ⟨e, ?_⟩⟩)
  rw [hnew]
  exact ⟨.ref _, _, I.lnew (t' := s.toks) (r.rep k.toNat) (by rw [PyProof.Rows.lm_len_rep_flat, Nat.mul_comm]; exact hz), rfl, q _ I.fresh⟩
theorem DVs.rep {M ρ : List Addr} {H : Hp} {ds : List D} {vs : List V} (h : DVs G M ρ H ds vs) : ∀ n : Nat, DVs G M ρ H (List.replicate n ds).flatten (List.replicate n vs).flatten
  | 0 => rfl
  | n + 1 => by
    rw [List.replicate_succ, List.replicate_succ, List.flatten_cons, List.flatten_cons]
    exact h.append (DVs.rep h n)
def boOp : Bo → Operator
  | .add => .Add | .sub => .Sub | .mul => .Mult | .fdiv => .FloorDiv | .mod => .Mod | .pow => .Pow
  | .shl => .LShift | .shr => .RShift | .band => .BitAnd | .bor => .BitOr | .bxor => .BitXor
theorem bo_ok (xa : XA G X) (o : Bo) : OpR X (binaryOp (boOp o)) (r2D G (boEv o)) := by
  intro pins s σ H x y v u Q I rx ry h
  obtain ⟨B, ρ, st, d, e, r, rs, hd, he, hf, fin⟩ := h
  have i2 : ∀ {i j : Int}, d = .int i → e = .int j → x = .int i ∧ y = .int j := fun e1 e2 => by
    subst e1 e2
    exact ⟨hd.int, he.int⟩
  cases o with
  | add =>
    cases d <;> cases e <;> simp only [boEv, reduceCtorEq] at hf
    case int.int i j =>
      obtain ⟨rfl, rfl⟩ := i2 rfl rfl
      cases hf
      exact op_add pins s σ H _ _ v u Q I rx ry ⟨i, j, rfl, rfl, fin.now rfl⟩
    case str.str a b =>
      split at hf
      · cases hf
        have hx := hd.str
        have hy := he.str
        subst hx hy
        exact op_add_str pins s σ H _ _ v u Q I rx ry ⟨a, b, rfl, rfl, by rw [← lim_line]; assumption, fin.now rfl⟩
      · cases hf
    case tup.tup a b =>
      obtain ⟨hl, rfl⟩ := fits_some hf
      obtain ⟨p, vs, rfl, h1, h2⟩ := hd.tup
      obtain ⟨q, ws, rfl, h3, h4⟩ := he.tup
      have hn : vs.length + ws.length ≤ sizeLine := by rw [h2.length, h4.length, ← List.length_append, ← lim_line]; exact hl
      refine op_catA pins s σ H _ _ v u Q I rx ry ⟨p, q, vs, ws, rfl, rfl, by rw [xa.K]; exact h1, by rw [xa.K]; exact h3, hn, fun e0 => ?_, fun _ e1 => ?_, fun _ _ r hr => Fin.tup rs fin (h2.append h4) hr⟩
      · subst e0
        have : a = [] := List.length_eq_zero_iff.mp (by rw [← h2.length]; rfl)
        subst this
        exact fin.now ⟨q, ws, rfl, h3, h4⟩
      · subst e1
        have : b = [] := List.length_eq_zero_iff.mp (by rw [← h4.length]; rfl)
        subst this
        rw [List.append_nil] at fin
        exact fin.now ⟨p, vs, rfl, h1, h2⟩
    case lst.lst a b =>
      obtain ⟨hl, rfl⟩ := fits_some hf
      obtain ⟨p, vs, rfl, h1, h2⟩ := hd.lst
      obtain ⟨q, ws, rfl, h3, h4⟩ := he.lst
      have hn : vs.length + ws.length ≤ sizeLine := by rw [h2.length, h4.length, ← List.length_append, ← lim_line]; exact hl
      exact op_catR pins s σ H _ _ v u Q I rx ry ⟨p, q, vs, ws, rfl, rfl, h1, h3, hn, fun r hr => Fin.lst rs fin (h2.append h4) hr⟩
  | sub =>
    cases d <;> cases e <;> simp only [boEv, reduceCtorEq] at hf
    case int.int i j =>
      obtain ⟨rfl, rfl⟩ := i2 rfl rfl
      cases hf
      exact op_sub pins s σ H _ _ v u Q I rx ry ⟨i, j, rfl, rfl, fin.now rfl⟩
  | mul =>
    cases d <;> cases e <;> simp only [boEv, reduceCtorEq] at hf
    case int.int i j =>
      split at hf
      · obtain ⟨rfl, rfl⟩ := i2 rfl rfl
        cases hf
        exact op_mul pins s σ H _ _ v u Q I rx ry ⟨i, j, rfl, rfl, by assumption, fin.now rfl⟩
      · cases hf
    case tup.int ds k =>
      split at hf
      · rename_i hk
        cases hf
        obtain ⟨p, vs, rfl, h1, h2⟩ := hd.tup
        have hy := he.int
        subst hy
        have hn : vs ≠ [] := fun e0 => hk.1 (by
          subst e0
          exact List.length_eq_zero_iff.mp (by rw [← h2.length]; rfl))
        exact op_repT pins s σ H _ _ v u Q I rx ry ⟨p, k, vs, rfl, rfl, by rw [xa.K]; exact h1, hn, hk.2.1, hk.2.2.1, by rw [h2.length]; exact hk.2.2.2, fun r hr => Fin.tup rs fin (h2.rep k.toNat) hr⟩
      · cases hf
    case lst.int ds k =>
      split at hf
      · rename_i hk
        obtain ⟨hl, rfl⟩ := fits_some hf
        obtain ⟨p, vs, rfl, h1, h2⟩ := hd.lst
        have hy := he.int
        subst hy
        have hlen : vs.length * k.toNat ≤ sizeLine := by
          unfold repD at hl
          rw [PyProof.Rows.lm_len_rep_flat] at hl
          rw [h2.length, ← lim_line, Nat.mul_comm]
          exact hl
        exact op_repR pins s σ H _ _ v u Q I rx ry ⟨p, k, vs, rfl, rfl, h1, by omega, by omega, hlen, fun r hr => Fin.lst rs fin (h2.rep k.toNat) hr⟩
      · cases hf
  | fdiv =>
    cases d <;> cases e <;> simp only [boEv, reduceCtorEq] at hf
    case int.int i j =>
      split at hf
      · obtain ⟨rfl, rfl⟩ := i2 rfl rfl
        cases hf
        exact op_fdiv pins s σ H _ _ v u Q I rx ry ⟨i, j, rfl, rfl, by assumption, fin.now rfl⟩
      · cases hf
  | mod =>
    cases d <;> cases e <;> simp only [boEv, reduceCtorEq] at hf
    case int.int i j =>
      split at hf
      · obtain ⟨rfl, rfl⟩ := i2 rfl rfl
        cases hf
        exact op_mod pins s σ H _ _ v u Q I rx ry ⟨i, j, rfl, rfl, by assumption, fin.now rfl⟩
      · cases hf
  | pow =>
    cases d <;> cases e <;> simp only [boEv, reduceCtorEq] at hf
    case int.int i j =>
      split at hf
      · obtain ⟨rfl, rfl⟩ := i2 rfl rfl
        cases hf
        exact op_pow pins s σ H _ _ v u Q I rx ry ⟨i, j, rfl, rfl, by assumption, fin.now rfl⟩
      · cases hf
  | shl =>
    cases d <;> cases e <;> simp only [boEv, reduceCtorEq] at hf
    case int.int i j =>
      split at hf
      · obtain ⟨rfl, rfl⟩ := i2 rfl rfl
        cases hf
        exact op_shl pins s σ H _ _ v u Q I rx ry ⟨i, j, rfl, rfl, by assumption, fin.now rfl⟩
      · cases hf
  | shr =>
    cases d <;> cases e <;> simp only [boEv, reduceCtorEq] at hf
    case int.int i j =>
      split at hf
      · obtain ⟨rfl, rfl⟩ := i2 rfl rfl
        cases hf
        exact op_shr pins s σ H _ _ v u Q I rx ry ⟨i, j, rfl, rfl, by assumption, fin.now rfl⟩
      · cases hf
  | band =>
    cases d <;> cases e <;> simp only [boEv, reduceCtorEq] at hf
    case int.int i j =>
      obtain ⟨rfl, rfl⟩ := i2 rfl rfl
      cases hf
      exact op_and pins s σ H _ _ v u Q I rx ry ⟨i, j, rfl, rfl, fin.now rfl⟩
  | bor =>
    cases d <;> cases e <;> simp only [boEv, reduceCtorEq] at hf
    case int.int i j =>
      obtain ⟨rfl, rfl⟩ := i2 rfl rfl
      cases hf
      exact op_or pins s σ H _ _ v u Q I rx ry ⟨i, j, rfl, rfl, fin.now rfl⟩
  | bxor =>
    cases d <;> cases e <;> simp only [boEv, reduceCtorEq] at hf
    case int.int i j =>
      obtain ⟨rfl, rfl⟩ := i2 rfl rfl
      cases hf
      exact op_xor pins s σ H _ _ v u Q I rx ry ⟨i, j, rfl, rfl, fin.now rfl⟩
theorem scal_flat {B ρ : List Addr} {H : Hp} {d : D} {v : V} (h : DB G B ρ H d v) (hs : d.scal = true) : flatV v = true := by
  cases d with
  | non => rw [h.non]; rfl
  | bl _ => rw [h.bl]; rfl
  | int _ => rw [h.int]; rfl
  | str _ => rw [h.str]; rfl
  | _ => simp [D.scal] at hs
theorem scal_eqV {B ρ : List Addr} {H : Hp} {d e : D} {v u : V} (h : DB G B ρ H d v) (g : DB G B ρ H e u) (hd : d.scal = true) (he : e.scal = true) : eqV v u = D.eqb d e := by
  cases d <;> cases e <;> first
    | (exfalso; simp [D.scal] at hd; done)
    | (exfalso; simp [D.scal] at he; done)
    | (try rw [h.non]); (try rw [h.bl]); (try rw [h.int]); (try rw [h.str]); (try rw [g.non]); (try rw [g.bl]); (try rw [g.int]); (try rw [g.str]); rfl
/-- == of two values that may be asked -/
theorem eqAt_ok (xa : XA G X) {pins : List (Addr × Obj)} {s : Shared} {σ : L2.St} {B ρ : List Addr} {H : Hp} {d e : D} {v u : V} {vv uu : Value} {A : Around} (hA : A.units ≤ X.A.units + 1) (I : Inv X pins σ H s) (h : DB G B ρ H d v) (g : DB G B ρ H e u) (rv : RelV v vv) (ru : RelV u uu)
    (ok : eqOk d e = true) : SeqAt.EqAt A s vv uu (D.eqb d e) := by
  unfold eqOk at ok
  rw [Bool.or_eq_true, Bool.and_eq_true, Bool.and_eq_true] at ok
  have hu := xa.un
  rcases ok with ⟨l1, l2⟩ | ⟨s1, s2⟩
  · have p1 := h.dp l1
    have p2 := g.dp l2
    rw [← xa.K] at p1 p2
    obtain ⟨as, r1⟩ := Dp.reads I _ _ _ p1 rv
    obtain ⟨bs, r2⟩ := Dp.reads I _ _ _ p2 ru
    have d1 := depth_of _ d l1
    have hD : DEEP = 30 := rfl
    have := SeqAt.eqAt_reads _ _ A s _ _ _ _ r1 r2 (canLay_of _ d l1) (canLay_of _ e l2) (by have : min d.toP.depth e.toP.depth ≤ d.toP.depth := Nat.min_le_left _ _; omega)
    rw [eqb_toP d e _ l1 _ l2] at this
    exact this
  · rw [← scal_eqV h g s1 s2]
    exact eqAt_V rv ru (scal_flat h s1) (scal_flat g s2)
def lexG (rel : Int → Int → Bool) (z : Bool) : List Int → List Int → Bool
  | x :: xs, y :: ys => if x = y then lexG rel z xs ys else rel x y
  | _, _ => z
theorem lexAt_shift {rel : Int → Int → Bool} {z : Bool} (x y : Int) (xs ys : List Int) : ∀ k i, Ob.lexAt (fun j => decide ((x :: xs).getD j 0 = (y :: ys).getD j 0)) (fun j => rel ((x :: xs).getD j 0) ((y :: ys).getD j 0)) z (i + 1) k =
    Ob.lexAt (fun j => decide (xs.getD j 0 = ys.getD j 0)) (fun j => rel (xs.getD j 0) (ys.getD j 0)) z i k
  | 0, _ => rfl
  | k + 1, i => by
    rw [Ob.lexAt_succ, Ob.lexAt_succ, lexAt_shift x y xs ys k (i + 1)]
    simp only [List.getD_cons_succ]
theorem lexAt_lexG {rel : Int → Int → Bool} {z : Bool} : ∀ ns ms : List Int, Ob.lexAt (fun j => decide (ns.getD j 0 = ms.getD j 0)) (fun j => rel (ns.getD j 0) (ms.getD j 0)) z 0 (min ns.length ms.length) = lexG rel z ns ms
  | [], ms => by simp [lexG, Ob.lexAt_zero]
  | _ :: _, [] => by simp [lexG, Ob.lexAt_zero]
  | x :: xs, y :: ys => by
    rw [show min (x :: xs).length (y :: ys).length = min xs.length ys.length + 1 by simp only [List.length_cons]; omega, Ob.lexAt_succ, lexAt_shift, lexAt_lexG xs ys]
    simp only [List.getD_cons_zero, decide_eq_true_eq, lexG]
theorem lexG_lt : ∀ ns ms : List Int, ∀ k, lexG (fun a b => decide (a < b)) (decide (ns.length + k < ms.length + k)) ns ms = lexI ns ms
  | [], [], _ => by simp [lexG, lexI]
  | [], _ :: _, _ => by simp [lexG, lexI]
  | _ :: _, [], _ => by simp [lexG, lexI]
  | x :: xs, y :: ys, k => by
    have := lexG_lt xs ys (k + 1)
    have e1 : decide ((x :: xs).length + k < (y :: ys).length + k) = decide (xs.length + (k + 1) < ys.length + (k + 1)) := by
      rw [Bool.eq_iff_iff, decide_eq_true_eq, decide_eq_true_eq, List.length_cons, List.length_cons]
      omega
    rw [e1]
    simp only [lexG, lexI]
    rw [this]
theorem lexG_le : ∀ ns ms : List Int, ∀ k, lexG (fun a b => decide (a ≤ b)) (decide (ns.length + k ≤ ms.length + k)) ns ms = !lexI ms ns
  | [], [], _ => by simp [lexG, lexI]
  | [], _ :: _, _ => by simp [lexG, lexI]
  | _ :: _, [], _ => by simp [lexG, lexI]
  | x :: xs, y :: ys, k => by
    have := lexG_le xs ys (k + 1)
    have e1 : decide ((x :: xs).length + k ≤ (y :: ys).length + k) = decide (xs.length + (k + 1) ≤ ys.length + (k + 1)) := by
      rw [Bool.eq_iff_iff, decide_eq_true_eq, decide_eq_true_eq, List.length_cons, List.length_cons]
      omega
    rw [e1]
    simp only [lexG, lexI]
    rw [this]
    by_cases h : x = y
    · rw [if_pos h, if_pos h.symm]
    · rw [if_neg h, if_neg (fun q => h q.symm)]
      by_cases h2 : y < x
      · simp [h2]
      · simp [h2]; omega
theorem lexG_gt : ∀ ns ms : List Int, ∀ k, lexG (fun a b => decide (b < a)) (decide (ns.length + k > ms.length + k)) ns ms = lexI ms ns
  | [], [], _ => by simp [lexG, lexI]
  | [], _ :: _, _ => by simp [lexG, lexI]
  | _ :: _, [], _ => by simp [lexG, lexI]
  | x :: xs, y :: ys, k => by
    have := lexG_gt xs ys (k + 1)
    have e1 : decide ((x :: xs).length + k > (y :: ys).length + k) = decide (xs.length + (k + 1) > ys.length + (k + 1)) := by
      rw [Bool.eq_iff_iff, decide_eq_true_eq, decide_eq_true_eq, List.length_cons, List.length_cons]
      omega
    rw [e1]
    simp only [lexG, lexI]
    rw [this]
    by_cases h : x = y
    · rw [if_pos h, if_pos h.symm]
    · rw [if_neg h, if_neg (fun q => h q.symm)]
theorem lexG_ge : ∀ ns ms : List Int, ∀ k, lexG (fun a b => decide (b ≤ a)) (decide (ns.length + k ≥ ms.length + k)) ns ms = !lexI ns ms
  | [], [], _ => by simp [lexG, lexI]
  | [], _ :: _, _ => by simp [lexG, lexI]
  | _ :: _, [], _ => by simp [lexG, lexI]
  | x :: xs, y :: ys, k => by
    have := lexG_ge xs ys (k + 1)
    have e1 : decide ((x :: xs).length + k ≥ (y :: ys).length + k) = decide (xs.length + (k + 1) ≥ ys.length + (k + 1)) := by
      rw [Bool.eq_iff_iff, decide_eq_true_eq, decide_eq_true_eq, List.length_cons, List.length_cons]
      omega
    rw [e1]
    simp only [lexG, lexI]
    rw [this]
    by_cases h : x = y
    · rw [if_pos h, if_pos h]
    · rw [if_neg h, if_neg h]
      by_cases h2 : x < y
      · simp [h2]
      · simp [h2]; omega
theorem ints_of : ∀ {ds : List D} {is : List Int}, intsOf ds = some is → ds = is.map D.int
  | [], is, h => by cases h; rfl
  | d :: ds, is, h => by
    cases d <;> simp only [intsOf, reduceCtorEq] at h
    rename_i i
    cases e : intsOf ds with
    | none => rw [e] at h; cases h
    | some js =>
      rw [e] at h
      cases h
      rw [ints_of e]
      rfl
theorem dvs_ints {M ρ : List Addr} {H : Hp} : ∀ {is : List Int} {vs : List V}, DVs G M ρ H (is.map D.int) vs → vs = is.map V.int
  | [], vs, h => h
  | i :: is, vs, h => by
    obtain ⟨v, r, e, h1, h2⟩ := h
    have h1 : v = .int i := h1
    rw [e, h1, dvs_ints h2]
    rfl
theorem tupI_ok (xa : XA G X) {pins : List (Addr × Obj)} {s : Shared} {σ : L2.St} {B ρ : List Addr} {H : Hp} {Q : VK} {a b : List D} {x y : V} {v u : Value} {op : CmpOp} {rel : Int → Int → Bool} {f : List Int → List Int → Bool} {c : Bool} (I : Inv X pins σ H s)
    (ha : DB G B ρ H (.tup a) x) (hb : DB G B ρ H (.tup b) y) (rx : RelV x v) (ry : RelV y u) (hf : tupI f a b = some c) (q : Q (.bl c) H)
    (hop : ∀ {M : Model} {A : Around} {E : Value → Shared → Prop} {s : Shared} {p r : Addr} {Q : Value → Shared → Prop}, wpAny M A (richCompare op (.ref p) (.ref r)) Q E s → wpAny M A (compareOp op (.ref p) (.ref r)) Q E s)
    (hr : ∀ (A : Around) (s : Shared) (i j : Int) (t t' : Tok), Ob.RcOp op A s (.int i t) (.int j t') (rel i j)) (z : Nat → Nat → Bool) (hz : ∀ ns ms, lexG rel (z ns.length ms.length) ns ms = f ns ms)
    (T : ∀ {l b : Addr} {is js : Array Value} {e r : Nat → Bool}, s.heap.IsTuple l is → s.heap.IsTuple b js → (∀ j (h1 : j < is.size) (h2 : j < js.size), SeqAt.EqAt X.A.in1 s is[j] js[j] (e j)) →
      (∀ j (h1 : j < is.size) (h2 : j < js.size), e j = false → Ob.RcOp op X.A.in1 s is[j] js[j] (r j)) → Ob.RcOp op X.A s (.ref l) (.ref b) (Ob.lexAt e r (z is.size js.size) 0 (min is.size js.size))) :
    wpAny (model X.prog X.w) X.A (compareOp op v u) (EP X pins σ Q) X.xe s := by
  obtain ⟨p, vs, rfl, h1, h2⟩ := ha.tup
  obtain ⟨r, ws, rfl, h3, h4⟩ := hb.tup
  cases rx
  cases ry
  unfold tupI at hf
  cases e1 : intsOf a with
  | none => rw [e1] at hf; cases hf
  | some ns =>
    cases e2 : intsOf b with
    | none => rw [e1, e2] at hf; cases hf
    | some ms =>
      rw [e1, e2] at hf
      cases hf
      have ea := ints_of e1
      have eb := ints_of e2
      subst ea eb
      have ev := dvs_ints h2
      have ew := dvs_ints h4
      subst ev ew
      rw [← xa.K] at h1 h3
      obtain ⟨its, r1, p1, _⟩ := I.tuple h1
      obtain ⟨jts, r2, p2, _⟩ := I.tuple h3
      have i1 : IntsAre its ns := Vals.ints r1
      have i2 : IntsAre jts ms := Vals.ints r2
      have l1 : its.toArray.size = ns.length := by rw [List.size_toArray]; exact i1.length
      have l2 : jts.toArray.size = ms.length := by rw [List.size_toArray]; exact i2.length
      have at1 : ∀ j (hj : j < its.toArray.size), ∃ t, its.toArray[j] = .int (ns.getD j 0) t := fun j hj => PyProof.Rows.IntsAre.int_at i1 _ _ (by simp at hj; simp [hj])
      have at2 : ∀ j (hj : j < jts.toArray.size), ∃ t, jts.toArray[j] = .int (ms.getD j 0) t := fun j hj => PyProof.Rows.IntsAre.int_at i2 _ _ (by simp at hj; simp [hj])
      have R := T (e := fun j => decide (ns.getD j 0 = ms.getD j 0)) (r := fun j => rel (ns.getD j 0) (ms.getD j 0)) p1 p2 (fun j g1 g2 => by
        obtain ⟨t, et⟩ := at1 j g1
        obtain ⟨t', et'⟩ := at2 j g2
        rw [et, et', show decide (ns.getD j 0 = ms.getD j 0) = (ns.getD j 0 == ms.getD j 0) from (Bool.beq_eq_decide_eq _ _).symm]
        exact SeqAt.EqAt.int_int _ _ _ _) (fun j g1 g2 _ => by
        obtain ⟨t, et⟩ := at1 j g1
        obtain ⟨t', et'⟩ := at2 j g2
        rw [et, et']
        exact hr _ _ _ _ _ _)
      rw [l1, l2, lexAt_lexG, hz] at R
      exact hop (R X.prog X.w X.xe (EP X pins σ Q) ⟨.bl _, H, I, rfl, q⟩)
def coOp : Co → CmpOp
  | .eq => .Eq | .ne => .NotEq | .lt => .Lt | .le => .LtE | .gt => .Gt | .ge => .GtE | .inn => .In | .notin => .NotIn | .isn => .Is | .isnot => .IsNot | .eqn => .Eq | .nen => .NotEq | .nel => .NotEq | .ltd => .Lt
theorem eqBool_of {B ρ : List Addr} {H : Hp} {d e : D} {v u : V} (h : DB G B ρ H d v) (g : DB G B ρ H e u) (s1 : d.scal = true) (s2 : e.scal = true) (n : ¬ (d.lay DEEP && e.lay DEEP) = true) : scal v u = true ∧ decide (v = u) = D.eqb d e := by
  have l0 : ∀ d : D, d.scal = true → d.lay DEEP = true ∨ ∃ x, d = .str x := fun d hd => by
    cases d with
    | str x => exact .inr ⟨x, rfl⟩
    | non => exact .inl rfl
    | bl _ => exact .inl rfl
    | int _ => exact .inl rfl
    | _ => simp [D.scal] at hd
  have key : (∃ x, d = .str x) ∨ ∃ x, e = .str x := by
    rcases l0 d s1 with a | a
    · rcases l0 e s2 with b | b
      · exact (n (by rw [a, b]; rfl)).elim
      · exact .inr b
    · exact .inl a
  have dec : ∀ {x y : Str}, decide (V.str x = V.str y) = (x == y) := fun {x y} => dec_str
  rcases key with ⟨x, rfl⟩ | ⟨x, rfl⟩
  · have := h.str
    subst this
    cases e with
    | non => rw [g.non]; exact ⟨rfl, by simp [D.eqb]⟩
    | bl b => rw [g.bl]; exact ⟨rfl, by simp [D.eqb]⟩
    | int b => rw [g.int]; exact ⟨rfl, by simp [D.eqb]⟩
    | str b => rw [g.str]; exact ⟨rfl, by rw [dec]; simp [D.eqb]⟩
    | _ => simp [D.scal] at s2
  · have := g.str
    subst this
    cases d with
    | non => rw [h.non]; exact ⟨rfl, by simp [D.eqb]⟩
    | bl b => rw [h.bl]; exact ⟨rfl, by simp [D.eqb]⟩
    | int b => rw [h.int]; exact ⟨rfl, by simp [D.eqb]⟩
    | str b => rw [h.str]; exact ⟨rfl, by rw [dec]; simp [D.eqb]⟩
    | _ => simp [D.scal] at s1
mutual
theorem dp_inj {pins : List (Addr × Obj)} {s : Shared} {σ : L2.St} {H : Hp} (I : Inv X pins σ H s) : ∀ (p : PyData) (v : V) (p' : PyData), Dp X.K H v p → Dp X.K H v p' → p = p'
  | .none, _, _, h, g => by cases h; cases g; rfl
  | .bool _, _, _, h, g => by cases h; cases g; rfl
  | .int _, _, _, h, g => by cases h; cases g; rfl
  | .str _, _, _, h, g => by cases h; cases g; rfl
  | .list ds, _, _, h, g => by
    cases h with
    | lst h1 h2 =>
      cases g with
      | lst g1 g2 =>
        have e := I.list_inj h1 g1
        subst e
        rw [dps_inj I ds _ _ h2 g2]
      | tup g1 g2 =>
        obtain ⟨its, _, ⟨o, n, e1, e2, _⟩, _⟩ := I.list h1
        obtain ⟨jts, _, ⟨o', e1', e2', _⟩, _⟩ := I.tuple g1
        rw [e1] at e1'
        cases e1'
        rw [e2] at e2'
        exact absurd e2' (by decide)
  | .tuple ds, _, _, h, g => by
    cases h with
    | tup h1 h2 =>
      cases g with
      | tup g1 g2 =>
        have e := I.tuple_inj h1 g1
        subst e
        rw [dps_inj I ds _ _ h2 g2]
      | lst g1 g2 =>
        obtain ⟨its, _, ⟨o, n, e1, e2, _⟩, _⟩ := I.list g1
        obtain ⟨jts, _, ⟨o', e1', e2', _⟩, _⟩ := I.tuple h1
        rw [e1] at e1'
        cases e1'
        rw [e2] at e2'
        exact absurd e2' (by decide)
  | .dict _, _, _, h, _ => by cases h
theorem dps_inj {pins : List (Addr × Obj)} {s : Shared} {σ : L2.St} {H : Hp} (I : Inv X pins σ H s) : ∀ (ps : List PyData) (vs : List V) (ps' : List PyData), DpAll X.K H vs ps → DpAll X.K H vs ps' → ps = ps'
  | [], _, _, h, g => by cases h; cases g; rfl
  | p :: ps, _, _, h, g => by
    cases h with
    | cons h1 h2 =>
      cases g with
      | cons g1 g2 => rw [dp_inj I p _ _ h1 g1, dps_inj I ps _ _ h2 g2]
end
theorem scal_of {B ρ : List Addr} {H : Hp} {d : D} {v : V} (h : DB G B ρ H d v) (hs : d.scal = true) : ∀ d', DB G B ρ H d' v → d' = d := by
  intro d' g
  cases d with
  | non =>
    have := h.non
    subst this
    cases d' with
    | non => rfl
    | bl _ => exact nomatch g.bl
    | int _ => exact nomatch g.int
    | str _ => exact nomatch g.str
    | tup _ => obtain ⟨_, _, e, _⟩ := g.tup; cases e
    | lst _ => obtain ⟨_, _, e, _⟩ := g.lst; cases e
    | dct _ _ => obtain ⟨_, e, _⟩ := g.dct; cases e
    | ref _ => obtain ⟨_, _, e⟩ := g.ref; cases e
    | fn _ => obtain ⟨_, _, _, e, _⟩ := g.fn; cases e
    | tpx _ => obtain ⟨_, _, _, e, _⟩ := g.tpx; cases e
    | er _ _ => obtain ⟨_, _, _, _, _, e, _⟩ := g.er; cases e
  | bl b =>
    have := h.bl
    subst this
    cases d' with
    | non => exact nomatch g.non
    | bl _ => have e := g.bl; cases e; rfl
    | int _ => exact nomatch g.int
    | str _ => exact nomatch g.str
    | tup _ => obtain ⟨_, _, e, _⟩ := g.tup; cases e
    | lst _ => obtain ⟨_, _, e, _⟩ := g.lst; cases e
    | dct _ _ => obtain ⟨_, e, _⟩ := g.dct; cases e
    | ref _ => obtain ⟨_, _, e⟩ := g.ref; cases e
    | fn _ => obtain ⟨_, _, _, e, _⟩ := g.fn; cases e
    | tpx _ => obtain ⟨_, _, _, e, _⟩ := g.tpx; cases e
    | er _ _ => obtain ⟨_, _, _, _, _, e, _⟩ := g.er; cases e
  | int i =>
    have := h.int
    subst this
    cases d' with
    | non => exact nomatch g.non
    | bl _ => exact nomatch g.bl
    | int _ => have e := g.int; cases e; rfl
    | str _ => exact nomatch g.str
    | tup _ => obtain ⟨_, _, e, _⟩ := g.tup; cases e
    | lst _ => obtain ⟨_, _, e, _⟩ := g.lst; cases e
    | dct _ _ => obtain ⟨_, e, _⟩ := g.dct; cases e
    | ref _ => obtain ⟨_, _, e⟩ := g.ref; cases e
    | fn _ => obtain ⟨_, _, _, e, _⟩ := g.fn; cases e
    | tpx _ => obtain ⟨_, _, _, e, _⟩ := g.tpx; cases e
    | er _ _ => obtain ⟨_, _, _, _, _, e, _⟩ := g.er; cases e
  | str x =>
    have := h.str
    subst this
    cases d' with
    | non => exact nomatch g.non
    | bl _ => exact nomatch g.bl
    | int _ => exact nomatch g.int
    | str _ => have e := g.str; cases e; rfl
    | tup _ => obtain ⟨_, _, e, _⟩ := g.tup; cases e
    | lst _ => obtain ⟨_, _, e, _⟩ := g.lst; cases e
    | dct _ _ => obtain ⟨_, e, _⟩ := g.dct; cases e
    | ref _ => obtain ⟨_, _, e⟩ := g.ref; cases e
    | fn _ => obtain ⟨_, _, _, e, _⟩ := g.fn; cases e
    | tpx _ => obtain ⟨_, _, _, e, _⟩ := g.tpx; cases e
    | er _ _ => obtain ⟨_, _, _, _, _, e, _⟩ := g.er; cases e
  | _ => simp [D.scal] at hs
/-- the items of a list or a tuple, each asked -/
theorem in_items (xa : XA G X) {pins : List (Addr × Obj)} {s : Shared} {σ : L2.St} {B ρ : List Addr} {H : Hp} {x : D} {v : V} {vv : Value} {A : Around} (hA : A.units ≤ X.A.units + 1) (I : Inv X pins σ H s) (h : DB G B ρ H x v) (rv : RelV v vv) :
    ∀ (ds : List D) (ws : List V) (us : List Value), (∀ d ∈ ds, eqOk d x = true) → DVs G (ρ ++ B) ρ H ds ws → Vals ws us → ∃ e : Value → Bool, (∀ y ∈ us, SeqAt.EqAt A s y vv (e y)) ∧ us.any e = ds.any fun d => D.eqb d x := by
  classical
  intro ds ws us ok hs r
  have at_ : ∀ i (d : D) (u : Value), ds[i]? = some d → us[i]? = some u → ∃ w', DV G (ρ ++ B) ρ H d w' ∧ RelV w' u := fun i d u e1 e2 => by
    obtain ⟨w', g1, g2⟩ := hs.get e1
    obtain ⟨u', q1, q2⟩ := r.get g1
    rw [e2] at q1; cases q1
    exact ⟨w', g2, q2⟩
  have each : ∀ i (d : D) (u : Value), ds[i]? = some d → us[i]? = some u → SeqAt.EqAt A s u vv (D.eqb d x) := fun i d u e1 e2 => by
    obtain ⟨w', g2, q2⟩ := at_ i d u e1 e2
    exact eqAt_ok xa hA I (.inl g2) h q2 rv (ok d (List.mem_of_getElem? e1))
  have one : ∀ (u : Value) (i : Nat) (d : D) (j : Nat) (d' : D), ds[i]? = some d → us[i]? = some u → ds[j]? = some d' → us[j]? = some u → D.eqb d x = D.eqb d' x := fun u i d j d' e1 e2 e3 e4 => by
    obtain ⟨w1, g1, q1⟩ := at_ i d u e1 e2
    obtain ⟨w2, g2, q2⟩ := at_ j d' u e3 e4
    have ew := q1.inj q2
    subst ew
    by_cases hsd : d.scal = true
    · rw [scal_of (.inl g1) hsd d' (.inl g2)]
    · by_cases hsd' : d'.scal = true
      · rw [scal_of (.inl g2) hsd' d (.inl g1)]
      · have o1 := ok d (List.mem_of_getElem? e1)
        have o2 := ok d' (List.mem_of_getElem? e3)
        unfold eqOk at o1 o2
        simp only [Bool.or_eq_true, Bool.and_eq_true] at o1 o2
        obtain ⟨l1, lx⟩ : d.lay DEEP = true ∧ x.lay DEEP = true := o1.elim id fun z => absurd z.1 hsd
        obtain ⟨l2, _⟩ : d'.lay DEEP = true ∧ x.lay DEEP = true := o2.elim id fun z => absurd z.1 hsd'
        have p1 := dp_of _ d _ l1 g1
        have p2 := dp_of _ d' _ l2 g2
        rw [← xa.K] at p1 p2
        rw [← eqb_toP d x _ l1 _ lx, ← eqb_toP d' x _ l2 _ lx, dp_inj I _ _ _ p1 p2]
  have hl : us.length = ds.length := by rw [← r.length, hs.length]
  obtain ⟨f, hf⟩ : ∃ f : Value → Bool, ∀ u, f u = if q : ∃ (i : Nat) (d : D), ds[i]? = some d ∧ us[i]? = some u then D.eqb q.choose_spec.choose x else false := ⟨_, fun _ => rfl⟩
  refine ⟨f, fun y hy => ?_, ?_⟩
  · obtain ⟨i, hi, e⟩ := List.mem_iff_getElem.mp hy
    have q : ∃ (i : Nat) (d : D), ds[i]? = some d ∧ us[i]? = some y := ⟨i, ds[i]'(by omega), by simp [show i < ds.length by omega], by rw [← e]; simp [hi]⟩
    rw [hf, dif_pos q]
    obtain ⟨q1, q2⟩ := q.choose_spec.choose_spec
    exact each _ _ _ q1 q2
  · rw [Bool.eq_iff_iff, List.any_eq_true, List.any_eq_true]
    constructor
    · rintro ⟨y, hy, e⟩
      rw [hf] at e
      by_cases q : ∃ (i : Nat) (d : D), ds[i]? = some d ∧ us[i]? = some y
      · rw [dif_pos q] at e
        exact ⟨_, List.mem_of_getElem? q.choose_spec.choose_spec.1, e⟩
      · rw [dif_neg q] at e; cases e
    · rintro ⟨d, hd, e⟩
      obtain ⟨i, hi, e1⟩ := List.mem_iff_getElem.mp hd
      have hi2 : i < us.length := by omega
      refine ⟨us[i], List.getElem_mem hi2, ?_⟩
      have q : ∃ (j : Nat) (d : D), ds[j]? = some d ∧ us[j]? = some us[i] := ⟨i, d, by rw [← e1]; simp [hi], by simp [hi2]⟩
      rw [hf, dif_pos q]
      obtain ⟨q1, q2⟩ := q.choose_spec.choose_spec
      rw [one us[i] _ _ i d q1 q2 (by rw [← e1]; simp [hi]) (by simp [hi2])]
      exact e
theorem isNon_eq {B ρ : List Addr} {H : Hp} {d : D} {v : V} (h : DB G B ρ H d v) : decide (v = .non) = d.eqNone := by
  cases d with
  | non => rw [h.non]; rfl
  | bl _ => rw [h.bl]; rfl
  | int _ => rw [h.int]; rfl
  | str _ => rw [h.str]; rfl
  | tup _ => obtain ⟨_, _, rfl, _⟩ := h.tup; rfl
  | lst _ => obtain ⟨_, _, rfl, _⟩ := h.lst; rfl
  | dct _ _ => obtain ⟨_, rfl, _⟩ := h.dct; rfl
  | ref _ => obtain ⟨_, _, rfl⟩ := h.ref; rfl
  | fn _ => obtain ⟨_, _, _, rfl, _⟩ := h.fn; rfl
  | tpx _ => obtain ⟨_, _, _, rfl, _⟩ := h.tpx; rfl
  | er _ _ => obtain ⟨_, _, _, _, _, rfl, _⟩ := h.er; rfl
theorem dkey_eq : ∀ {k x : D}, k.skey = true → x.skey = true → decide (k.dkey = x.dkey) = D.eqb k x := by
  intro k x h g
  cases k <;> simp [D.skey] at h <;> cases x <;> simp [D.skey] at g
  · rename_i a b
    exact key_ll a b
  · simp [D.dkey, D.eqb]
  · simp [D.dkey, D.eqb]
  · rename_i a b
    refine (key_rr a b).trans ?_
    simp only [D.eqb]
    by_cases q : a = b
    · subst q; simp
    · simp [q]
theorem add_okF (xa : XA G X) : OpR X (binaryOp .Add) (r2F G (boEv .add)) := by
  intro pins s σ H x y v u Q I rx ry h
  obtain ⟨B, ρ, st, d, e, r, rs, hd, he, hf, hc, fin⟩ := h
  cases d <;> cases e <;> simp only [boEv, reduceCtorEq] at hf
  case int.int i j => cases hf; cases hc
  case tup.tup a b =>
    obtain ⟨_, rfl⟩ := fits_some hf
    cases hc
  case str.str a b =>
    split at hf
    · cases hf; cases hc
    · cases hf
  case lst.lst a b =>
    obtain ⟨hl, rfl⟩ := fits_some hf
    obtain ⟨p, vs, rfl, h1, h2⟩ := hd.lst
    obtain ⟨q, ws, rfl, h3, h4⟩ := he.lst
    have hn : vs.length + ws.length ≤ sizeLine := by rw [h2.length, h4.length, ← List.length_append, ← lim_line]; exact hl
    exact op_catR pins s σ H _ _ v u Q I rx ry ⟨p, q, vs, ws, rfl, rfl, h1, h3, hn, fun r hr => fin.lst (h2.append h4) hr⟩
theorem mul_okF (xa : XA G X) : OpR X (binaryOp .Mult) (r2F G (boEv .mul)) := by
  intro pins s σ H x y v u Q I rx ry h
  obtain ⟨B, ρ, st, d, e, r, rs, hd, he, hf, hc, fin⟩ := h
  cases d <;> cases e <;> simp only [boEv, reduceCtorEq] at hf
  case int.int i j =>
    split at hf
    · cases hf; cases hc
    · cases hf
  case tup.int ds k =>
    split at hf
    · cases hf; cases hc
    · cases hf
  case lst.int ds k =>
    split at hf
    · rename_i hk
      obtain ⟨hl, rfl⟩ := fits_some hf
      obtain ⟨p, vs, rfl, h1, h2⟩ := hd.lst
      have hy := he.int
      subst hy
      have hlen : vs.length * k.toNat ≤ sizeLine := by
        unfold repD at hl
        rw [PyProof.Rows.lm_len_rep_flat] at hl
        rw [h2.length, ← lim_line, Nat.mul_comm]
        exact hl
      exact op_repR pins s σ H _ _ v u Q I rx ry ⟨p, k, vs, rfl, rfl, h1, by omega, by omega, hlen, fun r hr => fin.lst (h2.rep k.toNat) hr⟩
    · cases hf
theorem nen_rule (xa : XA G X) {pins : List (Addr × Obj)} {s : Shared} {σ : L2.St} {H : Hp} {B ρ : List Addr} {ks ws us : List D} {p r : Addr} {Q : VK} (I : Inv X pins σ H s) (hp : DctAt G (ρ ++ B) ρ H ks ws p) (hr : DctAt G (ρ ++ B) ρ H [] us r) (hk : ks.all D.skey = true) (q : Q (.bl (!ks.isEmpty)) H) :
    wpAny (model X.prog X.w) X.A (compareOp .NotEq (.ref p) (.ref r)) (EP X pins σ Q) X.xe s := by
  obtain ⟨xs, t1, d1, m1, _⟩ := dctS xa I hp hk
  obtain ⟨ys, t2, d2, m2, _⟩ := dctS xa I hr rfl
  have e1 : xs.length = ks.length := by
    have := congrArg List.length t1.keys.2.1
    simpa using this
  have e2 : ys = [] := by
    have := congrArg List.length t2.keys.2.1
    simpa using this
  subst e2
  have hu := xa.un
  refine PySem.W.keq_ne (knd := mixKind X.prog X.w) (r := xs.isEmpty) m1 m2 d1 d2 (by omega) (fun h => ?_) ⟨.bl (!ks.isEmpty), H, I, ?_, q⟩
  · have : xs = [] := List.length_eq_zero_iff.mp h
    subst this
    exact .nil
  · show Value.bool _ = Value.bool _
    cases xs with
    | nil =>
      cases ks with
      | nil => rfl
      | cons _ _ => simp at e1
    | cons x xs =>
      cases ks with
      | nil => simp at e1
      | cons _ _ => rfl
theorem isNon_toP {d : D} (l : D.lay DEEP d = true) (h : d.isNon = false) : d.toP ≠ .none := by
  cases d with
  | non => simp [D.isNon] at h
  | dct _ _ => simp [D.lay] at l
  | ref _ => simp [D.lay] at l
  | fn _ => simp [D.lay] at l
  | tpx _ => simp [D.lay] at l
  | er _ _ => simp [D.lay] at l
  | _ => intro z; simp [D.toP] at z
theorem co_ok (xa : XA G X) (o : Co) : OpR X (compareOp (coOp o)) (r2D G fun a b => (coEv o a b).map .bl) := by
  intro pins s σ H x y v u Q I rx ry h
  obtain ⟨B, ρ, st, d, e, r, rs, hd, he, hf, fin⟩ := h
  obtain ⟨c, hc, rfl⟩ := Option.map_eq_some_iff.mp hf
  have hu := xa.un
  have q : Q (.bl c) H := fin.now rfl
  have eqcase : ∀ (b : Bool), eqOk d e = true → c = D.eqb d e ∨ True → True := fun _ _ _ => trivial
  have eqs : (if eqOk d e = true then some (D.eqb d e) else none) = some c → wpAny (model X.prog X.w) X.A (compareOp .Eq v u) (EP X pins σ Q) X.xe s := fun hc => by
    split at hc
    · rename_i ok
      cases hc
      by_cases l : (d.lay DEEP && e.lay DEEP) = true
      · rw [Bool.and_eq_true] at l
        have p1 := hd.dp l.1
        have p2 := he.dp l.2
        rw [← xa.K] at p1 p2
        exact op_eqD (by omega) pins s σ H x y v u Q I rx ry ⟨_, _, p1, p2, shaped_of l.1, shaped_of l.2, by rw [eqb_toP d e _ l.1 _ l.2]; exact q⟩
      · unfold eqOk at ok
        rw [Bool.or_eq_true] at ok
        have ok := ok.resolve_left l
        rw [Bool.and_eq_true] at ok
        obtain ⟨z1, z2⟩ := eqBool_of hd he ok.1 ok.2 l
        exact op_eq pins s σ H x y v u Q I rx ry ⟨z1, by rw [z2]; exact q⟩
    · cases hc
  cases o with
  | eq => exact eqs (by simpa [coEv] using hc)
  | eqn =>
    have hc : (if eqOk d e = true then some (D.eqb d e) else tupNil d e) = some c := by simpa [coEv] using hc
    by_cases ok : eqOk d e = true
    · exact eqs (by rw [if_pos ok] at hc ⊢; exact hc)
    · rw [if_neg ok] at hc
      rcases tupNil_inv hc with ⟨ds, rfl, rfl, rfl⟩ | ⟨ks, ws, ds, rfl, rfl, rfl⟩
      · obtain ⟨p, vs, rfl, h1, h2⟩ := hd.tup
        obtain ⟨r, ws, rfl, h3, h4⟩ := he.tup
        have e4 : ws = [] := h4
        subst e4
        cases rx
        cases ry
        rw [← xa.K] at h1 h3
        obtain ⟨its, r1, p1, _⟩ := I.tuple h1
        obtain ⟨jts, r2, p2, _⟩ := I.tuple h3
        have l1 : its.length = ds.length := by rw [← r1.length, h2.length]
        have l2 : jts.length = 0 := by rw [← r2.length]; rfl
        refine SeqAt.eq_tupleAt (e := fun _ => true) p1 p2 (by omega) (fun j g1 g2 => absurd g2 (by simp [l2])) ⟨.bl ds.isEmpty, H, I, ?_, q⟩
        show Value.bool _ = Value.bool _
        rw [List.size_toArray, List.size_toArray, l1, l2]
        cases ds <;> rfl
      · obtain ⟨p, rfl, es, kv, vv, g1, _⟩ := hd.dct
        obtain ⟨r, us, rfl, h3, h4⟩ := he.tup
        cases rx
        cases ry
        rw [← xa.K] at h3
        obtain ⟨jts, r2, p2, _⟩ := I.tuple h3
        obtain ⟨⟨o, w1, w2, w3, _⟩, _⟩ := I.hok p _ g1
        exact rc_dict_tuple w1 w2 w3 p2 (by omega) X.prog X.w X.xe (EP X pins σ Q) ⟨.bl false, H, I, rfl, q⟩
  | nen =>
    obtain ⟨ks, ws, us, rfl, rfl, hk, rfl⟩ := dctNil_inv (show dctNil d e = some c from hc)
    obtain ⟨p, rfl, hp⟩ := hd.dct
    obtain ⟨r, rfl, hr⟩ := he.dct
    cases rx
    cases ry
    exact nen_rule xa I hp hr hk q
  | nel =>
    obtain ⟨ds, rfl, rfl, rfl⟩ := lstNil_inv (show lstNil d e = some c from hc)
    obtain ⟨p, vs, rfl, h1, h2⟩ := hd.lst
    obtain ⟨r, ws, rfl, h3, h4⟩ := he.lst
    have e4 : ws = [] := h4
    subst e4
    cases rx
    cases ry
    obtain ⟨its, r1, p1, _⟩ := I.list (show SqL X.K H p vs from .inl h1)
    obtain ⟨jts, r2, p2, _⟩ := I.list (show SqL X.K H r [] from .inl h3)
    have l1 : its.length = ds.length := by rw [← r1.length, h2.length]
    have l2 : jts.length = 0 := by rw [← r2.length]; rfl
    have fin2 : ∀ b, b = (!ds.isEmpty) → (fun v' s' => EP X pins σ Q v' s') (.bool b) s := fun b hb => ⟨.bl (!ds.isEmpty), H, I, by rw [hb]; rfl, q⟩
    cases ds with
    | nil =>
      have l1 : its.length = 0 := l1
      refine SeqAt.RcNeAt.lists (e := fun _ => true) p1.isList p2.isList (by rw [List.size_toArray, List.size_toArray, l1, l2]) (by omega) (fun j g1 g2 => absurd g2 (by simp [l2])) X.prog X.w X.xe _ (fin2 _ ?_)
      simp [l1]
    | cons _ _ =>
      refine SeqAt.RcNeAt.lists_lengths p1.isList p2.isList ?_ (by omega) X.prog X.w X.xe _ (fin2 _ rfl)
      rw [List.size_toArray, List.size_toArray, l1, l2]
      rfl
  | ltd =>
    have hc : ltdE d e = some c := hc
    unfold ltdE at hc
    split at hc
    rotate_left
    · cases hc
    rename_i ok
    cases hc
    simp only [Bool.and_eq_true, Bool.not_eq_true'] at ok
    obtain ⟨⟨⟨k1, k2⟩, k3⟩, k4⟩ := ok
    have p1 := hd.dp k1
    have p2 := he.dp k2
    rw [← xa.K] at p1 p2
    obtain ⟨as, ra⟩ := L2.Dp.reads I d.toP x _ p1 rx
    obtain ⟨bs, rb⟩ := L2.Dp.reads I e.toP y _ p2 ry
    have g1 := depth_of _ _ k1
    have g2 : DEEP = 30 := rfl
    have g3 := Nat.min_le_left d.toP.depth e.toP.depth
    exact PySem.W.lt_data ra rb k3 (isNon_toP k1 k4) (by omega) ⟨.bl _, H, I, rfl, q⟩
  | ne =>
    have hc : (if eqOk d e = true then some (!D.eqb d e) else none) = some c := by simpa [coEv] using hc
    split at hc
    · rename_i ok
      cases hc
      by_cases l : (d.lay DEEP && e.lay DEEP) = true
      · rw [Bool.and_eq_true] at l
        have p1 := hd.dp l.1
        have p2 := he.dp l.2
        rw [← xa.K] at p1 p2
        exact op_neD (by omega) pins s σ H x y v u Q I rx ry ⟨_, _, p1, p2, shaped_of l.1, shaped_of l.2, by rw [eqb_toP d e _ l.1 _ l.2]; exact q⟩
      · unfold eqOk at ok
        rw [Bool.or_eq_true] at ok
        have ok := ok.resolve_left l
        rw [Bool.and_eq_true] at ok
        obtain ⟨z1, z2⟩ := eqBool_of hd he ok.1 ok.2 l
        exact op_ne pins s σ H x y v u Q I rx ry ⟨z1, by rw [z2]; exact q⟩
    · cases hc
  | lt =>
    cases d <;> cases e <;> simp only [coEv, reduceCtorEq] at hc
    case int.int i j =>
      have e1 := hd.int
      have e2 := he.int
      subst e1 e2
      cases hc
      exact op_lt pins s σ H _ _ v u Q I rx ry ⟨i, j, rfl, rfl, q⟩
    case tup.tup a b =>
      exact tupI_ok xa (rel := fun a b => decide (a < b)) I hd he rx ry hc q (fun h => h) (fun _ _ _ _ _ _ => Ob.RcOp.lt_int _ _ _ _) (fun n m => decide (n < m)) (fun ns ms => lexG_lt ns ms 0) (fun h1 h2 => Ob.RcOp.tuples_lt h1 h2 (by omega))
  | le =>
    cases d <;> cases e <;> simp only [coEv, reduceCtorEq] at hc
    case int.int i j =>
      have e1 := hd.int
      have e2 := he.int
      subst e1 e2
      cases hc
      exact op_le pins s σ H _ _ v u Q I rx ry ⟨i, j, rfl, rfl, q⟩
    case tup.tup a b =>
      exact tupI_ok xa (rel := fun a b => decide (a ≤ b)) I hd he rx ry hc q (fun h => h) (fun _ _ _ _ _ _ => Ob.RcOp.le_int _ _ _ _) (fun n m => decide (n ≤ m)) (fun ns ms => lexG_le ns ms 0) (fun h1 h2 => Ob.RcOp.tuples_le h1 h2 (by omega))
  | gt =>
    cases d <;> cases e <;> simp only [coEv, reduceCtorEq] at hc
    case int.int i j =>
      have e1 := hd.int
      have e2 := he.int
      subst e1 e2
      cases hc
      exact op_gt pins s σ H _ _ v u Q I rx ry ⟨i, j, rfl, rfl, q⟩
    case tup.tup a b =>
      exact tupI_ok xa (rel := fun a b => decide (b < a)) I hd he rx ry hc q (fun h => h) (fun _ _ _ _ _ _ => Ob.RcOp.gt_int _ _ _ _) (fun n m => decide (n > m)) (fun ns ms => lexG_gt ns ms 0) (fun h1 h2 => Ob.RcOp.tuples_gt h1 h2 (by omega))
  | ge =>
    cases d <;> cases e <;> simp only [coEv, reduceCtorEq] at hc
    case int.int i j =>
      have e1 := hd.int
      have e2 := he.int
      subst e1 e2
      cases hc
      exact op_ge pins s σ H _ _ v u Q I rx ry ⟨i, j, rfl, rfl, q⟩
    case tup.tup a b =>
      exact tupI_ok xa (rel := fun a b => decide (b ≤ a)) I hd he rx ry hc q (fun h => h) (fun _ _ _ _ _ _ => Ob.RcOp.ge_int _ _ _ _) (fun n m => decide (n ≥ m)) (fun ns ms => lexG_ge ns ms 0) (fun h1 h2 => Ob.RcOp.tuples_ge h1 h2 (by omega))
  | inn =>
    cases e with
    | tup ds =>
      have hc : (if (ds.all fun z => eqOk z d) = true then some (ds.any fun z => D.eqb z d) else none) = some c := by simpa [coEv] using hc
      split at hc
      · rename_i ok
        cases hc
        obtain ⟨p, ws, rfl, h1, h2⟩ := he.tup
        cases ry
        rw [← xa.K] at h1
        obtain ⟨its, r1, p1, _⟩ := I.tuple h1
        obtain ⟨f, f1, f2⟩ := in_items xa (A := X.A.in1) (Nat.le_refl _) I hd rx ds ws its (List.all_eq_true.mp ok) h2 r1
        exact SeqAt.in_tupleAt f p1 (fun y hy => f1 y (by simpa using hy)) ⟨.bl _, H, I, rfl, by rw [show its.toArray.any f = its.any f by simp, f2]; exact q⟩
      · cases hc
    | lst ds =>
      have hc : (if (ds.all fun z => eqOk z d) = true then some (ds.any fun z => D.eqb z d) else none) = some c := by simpa [coEv] using hc
      split at hc
      · rename_i ok
        cases hc
        obtain ⟨p, ws, rfl, h1, h2⟩ := he.lst
        cases ry
        obtain ⟨its, r1, p1, _⟩ := I.list (.inl h1)
        obtain ⟨f, f1, f2⟩ := in_items xa (A := X.A.in1) (Nat.le_refl _) I hd rx ds ws its (List.all_eq_true.mp ok) h2 r1
        exact SeqAt.in_listAt f p1.isList (fun y hy => f1 y (by simpa using hy)) ⟨.bl _, H, I, rfl, by rw [show its.toArray.any f = its.any f by simp, f2]; exact q⟩
      · cases hc
    | dct ks ws =>
      have hc : (if keysOk (d :: ks) = true then some (dhas ks d) else none) = some c := hc
      split at hc
      · rename_i ok
        cases hc
        obtain ⟨p, rfl, hdd⟩ := he.dct
        cases ry
        exact k_in xa (by omega) I hdd ok (key_db ok hd) rx fun s' I' => ⟨.bl _, H, I', rfl, q⟩
      · cases hc
    | _ => simp [coEv] at hc
  | notin =>
    cases e with
    | tup ds =>
      have hc : (if (ds.all fun z => eqOk z d) = true then some (!ds.any fun z => D.eqb z d) else none) = some c := by simpa [coEv] using hc
      split at hc
      · rename_i ok
        cases hc
        obtain ⟨p, ws, rfl, h1, h2⟩ := he.tup
        cases ry
        rw [← xa.K] at h1
        obtain ⟨its, r1, p1, _⟩ := I.tuple h1
        obtain ⟨f, f1, f2⟩ := in_items xa (A := X.A.in1) (Nat.le_refl _) I hd rx ds ws its (List.all_eq_true.mp ok) h2 r1
        exact SeqAt.notIn_tupleAt f p1 (fun y hy => f1 y (by simpa using hy)) ⟨.bl _, H, I, rfl, by rw [show its.toArray.any f = its.any f by simp, f2]; exact q⟩
      · cases hc
    | lst ds =>
      have hc : (if (ds.all fun z => eqOk z d) = true then some (!ds.any fun z => D.eqb z d) else none) = some c := by simpa [coEv] using hc
      split at hc
      · rename_i ok
        cases hc
        obtain ⟨p, ws, rfl, h1, h2⟩ := he.lst
        cases ry
        obtain ⟨its, r1, p1, _⟩ := I.list (.inl h1)
        obtain ⟨f, f1, f2⟩ := in_items xa (A := X.A.in1) (Nat.le_refl _) I hd rx ds ws its (List.all_eq_true.mp ok) h2 r1
        exact SeqAt.notIn_listAt f p1.isList (fun y hy => f1 y (by simpa using hy)) ⟨.bl _, H, I, rfl, by rw [show its.toArray.any f = its.any f by simp, f2]; exact q⟩
      · cases hc
    | dct ks ws =>
      have hc : (if keysOk (d :: ks) = true then some (!dhas ks d) else none) = some c := hc
      split at hc
      · rename_i ok
        cases hc
        obtain ⟨p, rfl, hdd⟩ := he.dct
        cases ry
        exact k_notIn xa (by omega) I hdd ok (key_db ok hd) rx fun s' I' => ⟨.bl _, H, I', rfl, q⟩
      · cases hc
    | _ => simp [coEv] at hc
  | isn =>
    cases e <;> simp only [coEv, reduceCtorEq] at hc
    case non =>
      have e2 := he.non
      subst e2
      cases hc
      refine op_isN pins s σ H _ _ v u Q I rx ry ⟨rfl, ?_⟩
      rw [isNon_eq hd]
      exact q
  | isnot =>
    cases e <;> simp only [coEv, reduceCtorEq] at hc
    case non =>
      have e2 := he.non
      subst e2
      cases hc
      refine op_notN pins s σ H _ _ v u Q I rx ry ⟨rfl, ?_⟩
      rw [isNon_eq hd]
      exact q
end
end Dp
set_option Elab.async false
set_option linter.all false
set_option maxRecDepth 100000
set_option maxHeartbeats 4000000
namespace Dp
open PySem PySem.Spec PyProof.Rows L2
section
variable {G : Gx} {X : Cx}
def DBs (G : Gx) (B ρ : List Addr) (H : Hp) : List D → List V → Prop
  | [], vs => vs = []
  | d :: ds, vs => ∃ v r, vs = v :: r ∧ DB G B ρ H d v ∧ DBs G B ρ H ds r
/-- the store is read, too -/
def r2S (G : Gx) (f : Store → D → D → Option D) : R2 := fun x y H Q => ∃ B ρ st d e r, RS (G := G) B st ρ H ∧ DB G B ρ H d x ∧ DB G B ρ H e y ∧ f st d e = some r ∧ Fin G B ρ H Q r
def rBi (G : Gx) (f : Store → List D → Option D) : List V → Hp → VK → Prop := fun vs H Q => ∃ B ρ st ds r, RS (G := G) B st ρ H ∧ DBs G B ρ H ds vs ∧ f st ds = some r ∧ Fin G B ρ H Q r
def rBiF (G : Gx) (f : Store → List D → Option D) : List V → Hp → VK → Prop := fun vs H Q => ∃ B ρ st ds r, RS (G := G) B st ρ H ∧ DBs G B ρ H ds vs ∧ f st ds = some r ∧ FinF G B ρ H Q r
theorem biF_bi {f : Value} {g : Store → List D → Option D} (h : CallR X f (rBiF G g)) : CallR X f (rBi G g) := fun pins s σ H vs us Q I r ⟨B, ρ, st, ds, d, rs, hd, hf, fin⟩ => h pins s σ H vs us Q I r ⟨B, ρ, st, ds, d, rs, hd, hf, fin.f rs⟩
theorem atI_eq {α : Type} (xs : List α) (i : Int) : atI xs i = (ixOf xs.length i).bind fun j => xs[j]? := rfl
theorem ix_get {B ρ : List Addr} {H : Hp} {ds : List D} {vs : List V} {i : Int} {r : D} (h : DVs G (ρ ++ B) ρ H ds vs) (e : atD ds i = some r) : ∃ v, atI vs i = some v ∧ DV G (ρ ++ B) ρ H r v := by
  unfold atD at e
  rw [atI_eq, h.length]
  cases q : ixOf ds.length i with
  | none => rw [q] at e; cases e
  | some j =>
    rw [q] at e
    exact h.get e
/-- an item of a list or a tuple -/
def subSeq (st : Store) : D → D → Option D
  | .tup ds, .int i => atD ds i
  | .lst ds, .int i => atD ds i
  | .ref n, .int i => match st[n]? with
    | some (.lst ds) => atD ds i
    | _ => none
  | _, _ => none
theorem sub_seq (xa : XA G X) : IxR X (r2S G subSeq) := by
  intro value slice pins s σ H x y v u Q I rx ry h hs
  obtain ⟨B, ρ, st, d, e, r, rs, hd, he, hf, fin⟩ := h
  cases d <;> cases e <;> simp only [subSeq, reduceCtorEq] at hf
  case tup.int ds i =>
    obtain ⟨p, vs, rfl, h1, h2⟩ := hd.tup
    have := he.int
    subst this
    obtain ⟨w, g1, g2⟩ := ix_get h2 hf
    exact ix_tup value slice pins s σ H _ _ v u Q I rx ry ⟨p, vs, i, w, rfl, rfl, by rw [xa.K]; exact h1, g1, fin.now g2⟩ hs
  case lst.int ds i =>
    obtain ⟨p, vs, rfl, h1, h2⟩ := hd.lst
    have := he.int
    subst this
    obtain ⟨w, g1, g2⟩ := ix_get h2 hf
    exact ix_list value slice pins s σ H _ _ v u Q I rx ry ⟨p, vs, i, w, rfl, rfl, .inl h1, g1, fin.now g2⟩ hs
  case ref.int n i =>
    obtain ⟨a, ea, rfl⟩ := hd.ref
    have := he.int
    subst this
    split at hf
    · rename_i ds e1
      obtain ⟨vs, h1, h2⟩ := rs.cel n _ a e1 ea
      obtain ⟨w, g1, g2⟩ := ix_get h2 hf
      exact ix_list value slice pins s σ H _ _ v u Q I rx ry ⟨a, vs, i, w, rfl, rfl, .inl (.inl h1), g1, fin.now g2⟩ hs
    · cases hf
def r1D (G : Gx) (f : D → Option D) : V → Hp → VK → Prop := fun x H Q => ∃ B ρ st d r, RS (G := G) B st ρ H ∧ DB G B ρ H d x ∧ f d = some r ∧ Fin G B ρ H Q r
theorem neg_ok (xa : XA G X) : UnR X (unaryOp .USub) (r1D G negEv) := by
  intro pins s σ H x v Q I rx h
  obtain ⟨B, ρ, st, d, r, rs, hd, hf, fin⟩ := h
  cases d <;> simp only [negEv, reduceCtorEq] at hf
  case int i =>
    cases hf
    have := hd.int
    subst this
    exact un_neg pins s σ H _ v Q I rx ⟨i, rfl, fin.now rfl⟩
theorem dbs1 {B ρ : List Addr} {H : Hp} {d : D} {vs : List V} (h : DBs G B ρ H [d] vs) : ∃ v, vs = [v] ∧ DB G B ρ H d v := by
  obtain ⟨v, r, e, h1, h2⟩ := h
  have h2 : r = [] := h2
  subst h2
  exact ⟨v, e, h1⟩
theorem dbs2 {B ρ : List Addr} {H : Hp} {d e : D} {vs : List V} (h : DBs G B ρ H [d, e] vs) : ∃ v w, vs = [v, w] ∧ DB G B ρ H d v ∧ DB G B ρ H e w := by
  obtain ⟨v, r, q, h1, h2⟩ := h
  obtain ⟨w, e2, h3⟩ := dbs1 h2
  subst e2
  exact ⟨v, w, q, h1, h3⟩
theorem bls_of : ∀ {ds : List D} {bs : List Bool}, blsOf ds = some bs → ds = bs.map D.bl
  | [], bs, h => by cases h; rfl
  | d :: ds, bs, h => by
    cases d <;> simp only [blsOf, reduceCtorEq] at h
    cases e : blsOf ds with
    | none => rw [e] at h; cases h
    | some js =>
      rw [e] at h
      cases h
      rw [bls_of e]
      rfl
theorem dvs_bls {M ρ : List Addr} {H : Hp} : ∀ {bs : List Bool} {vs : List V}, DVs G M ρ H (bs.map D.bl) vs → vs = bs.map V.bl
  | [], vs, h => h
  | b :: bs, vs, h => by
    obtain ⟨v, r, e, h1, h2⟩ := h
    have h1 : v = .bl b := h1
    rw [e, h1, dvs_bls h2]
    rfl
theorem len_ok (xa : XA G X) : CallR X (.builtin "len") (rBi G lenEv) := by
  intro pins s σ H vs us Q I r h
  obtain ⟨B, ρ, st, ds, d, rs, hd, hf, fin⟩ := h
  match ds, hf with
  | [.tup ds], hf =>
    cases hf
    obtain ⟨v, rfl, h1⟩ := dbs1 hd
    obtain ⟨p, ws, rfl, h2, h3⟩ := h1.tup
    exact call_len pins s σ H _ us Q I r ⟨.ref p, ds.length, rfl, .inr ⟨ws, by rw [xa.K]; exact h2, h3.length.symm⟩, fin.now rfl⟩
  | [.lst ds], hf =>
    cases hf
    obtain ⟨v, rfl, h1⟩ := dbs1 hd
    obtain ⟨p, ws, rfl, h2, h3⟩ := h1.lst
    exact call_len pins s σ H _ us Q I r ⟨.ref p, ds.length, rfl, .inl ⟨ws, .inl h2, h3.length.symm⟩, fin.now rfl⟩
  | [.str x], hf =>
    simp only [lenEv] at hf
    split at hf
    · rename_i hl
      cases hf
      obtain ⟨v, rfl, h1⟩ := dbs1 hd
      have := h1.str
      subst this
      exact call_len pins s σ H _ us Q I r ⟨.str x, x.length, rfl, ⟨by rw [← lim_line]; exact hl, rfl⟩, fin.now rfl⟩
    · cases hf
  | [.ref n], hf =>
    simp only [lenEv] at hf
    split at hf
    · rename_i ds e1
      cases hf
      obtain ⟨v, rfl, h1⟩ := dbs1 hd
      obtain ⟨a, ea, rfl⟩ := h1.ref
      obtain ⟨ws, h2, h3⟩ := rs.cel n _ a e1 ea
      exact call_len pins s σ H _ us Q I r ⟨.ref a, ds.length, rfl, .inl ⟨ws, .inl (.inl h2), h3.length.symm⟩, fin.now rfl⟩
    · cases hf
  | [], hf => cases hf
  | [.non], hf => cases hf
  | [.bl _], hf => cases hf
  | [.int _], hf => cases hf
  | [.dct ks ws], hf =>
    cases hf
    obtain ⟨v, rfl, h1⟩ := dbs1 hd
    obtain ⟨a, rfl, es, kv, vv, e1, q1, q2, q3, q4, q5, q6, q7, q8⟩ := h1.dct
    obtain ⟨u, rfl, rx⟩ := r.one
    cases rx
    obtain ⟨⟨o, g1, g2, g3, g4⟩, _⟩ := (show ObjOk X.prog X.w H s.heap a (.ext (rawD a es)) from I.hok a _ e1)
    have raw : s.heap.DictRaw a es.1.toArray es.2 := ⟨o, g1, g2, g3⟩
    have el : es.1.toArray.size = ks.length := by
      have := congrArg List.length q3
      simpa using this
    refine PyProof.Rows.call_len_slot (n := ((es.1.toArray.size : Nat) : Int)) raw.typeIs F.slot_dict_len (fun Q' hq => call_len_raw g4 raw hq) (by omega) (by rw [List.size_toArray]; unfold LIM at q6; omega) ?_
    rw [el]
    exact ⟨.int ((ks.length : Nat) : Int), H, I.tok _, ⟨_, rfl⟩, fin.now rfl⟩
  | [.fn _], hf => cases hf
  | [.tpx _], hf => cases hf
  | [.er _ _], hf => cases hf
  | _ :: _ :: _, hf => exact absurd hf (by simp [lenEv])
def lstEv (_ : Store) : List D → Option D
  | [.tup ds] => some (.lst ds)
  | [.lst ds] => some (.lst ds)
  | _ => none
/-- one argument, a list -/
theorem one_lst {B ρ : List Addr} {H : Hp} {ds : List D} {vs : List V} (hd : DBs G B ρ H [.lst ds] vs) : ∃ p ws, vs = [.ref p] ∧ Rd H p (.lst ws) ∧ DVs G (ρ ++ B) ρ H ds ws := by
  obtain ⟨v, rfl, h1⟩ := dbs1 hd
  obtain ⟨p, ws, rfl, h2, h3⟩ := h1.lst
  exact ⟨p, ws, rfl, h2, h3⟩
theorem sum_ok (xa : XA G X) : CallR X (.builtin "sum") (rBi G sumEv) := by
  intro pins s σ H vs us Q I r h
  obtain ⟨B, ρ, st, ds, d, rs, hd, hf, fin⟩ := h
  match ds, hf with
  | [.lst ds], hf =>
    obtain ⟨is, e1, rfl⟩ := Option.map_eq_some_iff.mp hf
    obtain ⟨p, ws, rfl, h2, h3⟩ := one_lst hd
    rw [ints_of e1] at h3
    rw [dvs_ints h3] at h2
    exact cr_sum xa.calm pins s σ H _ us Q I r ⟨p, is, rfl, .inl h2, fin.now rfl⟩
theorem all_ok (xa : XA G X) : CallR X (.builtin "all") (rBi G allEv) := by
  intro pins s σ H vs us Q I r h
  obtain ⟨B, ρ, st, ds, d, rs, hd, hf, fin⟩ := h
  match ds, hf with
  | [.lst ds], hf =>
    obtain ⟨is, e1, rfl⟩ := Option.map_eq_some_iff.mp hf
    obtain ⟨p, ws, rfl, h2, h3⟩ := one_lst hd
    rw [bls_of e1] at h3
    rw [dvs_bls h3] at h2
    exact cr_all xa.calm pins s σ H _ us Q I r ⟨p, is, rfl, .inl h2, fin.now rfl⟩
theorem truth_ints {prog : Program} {w : World} {A : Around} : ∀ {is : List Int} {its : List Value}, IntsAre its is →
    TruthOf prog w A (fun i v => its.toArray[i]? = some v) (fun i => (is.map fun i => i != 0).getD i false) := fun {is its} e i v s Q E hv hq => by
  have hv' : its[i]? = some v := by simpa using hv
  have : ∀ {is : List Int} {its : List Value} {i : Nat}, IntsAre its is → its[i]? = some v → ∃ k t, v = .int k t ∧ is[i]? = some k := by
    intro is its i e
    induction e generalizing i with
    | nil => intro h; simp at h
    | cons n t h ih =>
      intro hi
      cases i with
      | zero => simp at hi; exact ⟨n, t, hi.symm, rfl⟩
      | succ i => exact ih (by simpa using hi)
  obtain ⟨k, t, rfl, h⟩ := this e hv'
  have hg : (is.map fun i => i != 0).getD i false = (k != 0) := by rw [List.getD_eq_getElem?_getD, List.getElem?_map, h]; rfl
  have hq' : Q ((is.map fun i => i != 0).getD i false) s := hq
  rw [hg] at hq'
  exact PySem.P.truthy_int hq'
theorem len_ints : ∀ {its : List Value} {is : List Int}, IntsAre its is → its.length = is.length
  | _, _, .nil => rfl
  | _, _, .cons n t h => by rw [List.length_cons, List.length_cons, len_ints h]
theorem cr_anyI (hc : X.calm = true) : CallR X (.builtin "any") (fun vs H Q => ∃ (a : Addr) (is : List Int), vs = [V.ref a] ∧ SqL X.K H a (is.map V.int) ∧ Q (.bl (is.any fun i => i != 0)) H) := by
  intro pins s σ H vs us Q I r h
  obtain ⟨a, is, rfl, hs, q⟩ := h
  obtain ⟨its, rv, hl, _⟩ := I.list hs
  rw [Vals.ref1 r]
  have hb := rv.ints
  refine call_any_walk (iter_any hl.isList fun s₂ e2 st hne => ?_)
  subst e2
  refine ⟨_, _, _, _, _, _, _, rfl, Walks.list (A := X.A.in1) (I.ok.hd hc) _ a hne its.toArray, st, truth_ints hb, fun h' tk hk => ?_⟩
  refine ⟨.bl _, H, I.kept fun b o eo => hk b o (fun hmem => ?_) (Heap.get?_push_of_some _ eo), ?_, q⟩
  · rcases List.mem_cons.mp hmem with e1 | hmem
    · exact absurd (e1 ▸ Heap.lt_size eo) (Nat.lt_irrefl _)
    · cases hmem
  · show Value.bool _ = Value.bool _
    have e : (is.any fun i => i != 0) = (is.map fun i => i != 0).any id := by rw [List.any_map]; rfl
    rw [e, ← L2.any_range, List.size_toArray, len_ints hb, List.length_map]
theorem any_ok (xa : XA G X) : CallR X (.builtin "any") (rBi G anyEv) := by
  intro pins s σ H vs us Q I r h
  obtain ⟨B, ρ, st, ds, d, rs, hd, hf, fin⟩ := h
  match ds, hf with
  | [.lst ds], hf =>
    simp only [anyEv] at hf
    obtain ⟨b, hb, rfl⟩ := Option.map_eq_some_iff.mp hf
    obtain ⟨p, ws, rfl, h2, h3⟩ := one_lst hd
    cases e1 : blsOf ds with
    | some bs =>
      rw [e1] at hb
      cases hb
      rw [bls_of e1] at h3
      rw [dvs_bls h3] at h2
      exact cr_any xa.calm pins s σ H _ us Q I r ⟨p, bs, rfl, .inl h2, fin.now rfl⟩
    | none =>
      rw [e1] at hb
      obtain ⟨is, e2, rfl⟩ := Option.map_eq_some_iff.mp hb
      rw [ints_of e2] at h3
      rw [dvs_ints h3] at h2
      exact cr_anyI xa.calm pins s σ H _ us Q I r ⟨p, is, rfl, .inl h2, fin.now rfl⟩
theorem tuple_ok (xa : XA G X) : CallR X (.type "tuple") (rBi G tupEv) := by
  intro pins s σ H vs us Q I r h
  obtain ⟨B, ρ, st, ds, d, rs, hd, hf, fin⟩ := h
  match ds, hf with
  | [.tup ds], hf =>
    cases hf
    obtain ⟨v, rfl, h1⟩ := dbs1 hd
    obtain ⟨p, ws, rfl, h2, h3⟩ := h1.tup
    exact call_tuple_of pins s σ H _ us Q I r ⟨p, ws, rfl, .inr ⟨by rw [xa.K]; exact h2, fin.now ⟨p, ws, rfl, h2, h3⟩⟩⟩
  | [.lst ds], hf =>
    cases hf
    obtain ⟨p, ws, rfl, h2, h3⟩ := one_lst hd
    exact call_tuple_of pins s σ H _ us Q I r ⟨p, ws, rfl, .inl ⟨.inl h2, fun q hq => Fin.tup rs fin h3 hq⟩⟩
theorem list_okF (xa : XA G X) : CallR X (.type "list") (rBiF G lstEv) := by
  intro pins s σ H vs us Q I r h
  obtain ⟨B, ρ, st, ds, d, rs, hd, hf, fin⟩ := h
  match ds, hf with
  | [.tup ds], hf =>
    cases hf
    obtain ⟨v, rfl, h1⟩ := dbs1 hd
    obtain ⟨p, ws, rfl, h2, h3⟩ := h1.tup
    exact call_list_of pins s σ H _ us Q I r ⟨p, ws, rfl, .inr (by rw [xa.K]; exact h2), fun q hq => fin.lst h3 hq⟩
  | [.lst ds], hf =>
    cases hf
    obtain ⟨p, ws, rfl, h2, h3⟩ := one_lst hd
    exact call_list_of pins s σ H _ us Q I r ⟨p, ws, rfl, .inl (.inl h2), fun q hq => fin.lst h3 hq⟩
theorem int_ok (xa : XA G X) : CallR X (.type "int") (rBi G intEv) := by
  intro pins s σ H vs us Q I r h
  obtain ⟨B, ρ, st, ds, d, rs, hd, hf, fin⟩ := h
  match ds, hf with
  | [.int i], hf =>
    cases hf
    obtain ⟨v, rfl, h1⟩ := dbs1 hd
    have := h1.int
    subst this
    exact call_int1 pins s σ H _ us Q I r (.inl ⟨i, rfl, fin.now rfl⟩)
  | [.bl b], hf =>
    cases hf
    obtain ⟨v, rfl, h1⟩ := dbs1 hd
    have := h1.bl
    subst this
    exact call_int1 pins s σ H _ us Q I r (.inr ⟨b, rfl, fin.now rfl⟩)
theorem min2_ok (xa : XA G X) : CallR X (.builtin "min") (rBi G min2Ev) := by
  intro pins s σ H vs us Q I r h
  obtain ⟨B, ρ, st, ds, d, rs, hd, hf, fin⟩ := h
  match ds, hf with
  | [.int i, .int j], hf =>
    cases hf
    obtain ⟨v, w, rfl, h1, h2⟩ := dbs2 hd
    have e1 := h1.int
    have e2 := h2.int
    subst e1 e2
    exact call_min2 xa.calm pins s σ H _ us Q I r ⟨i, j, rfl, fin.now rfl⟩
theorem max2_ok (xa : XA G X) : CallR X (.builtin "max") (rBi G max2Ev) := by
  intro pins s σ H vs us Q I r h
  obtain ⟨B, ρ, st, ds, d, rs, hd, hf, fin⟩ := h
  match ds, hf with
  | [.int i, .int j], hf =>
    cases hf
    obtain ⟨v, w, rfl, h1, h2⟩ := dbs2 hd
    have e1 := h1.int
    have e2 := h2.int
    subst e1 e2
    exact call_max2 xa.calm pins s σ H _ us Q I r ⟨i, j, rfl, fin.now rfl⟩
theorem minsI_mem : ∀ (r : List Int) (m : Int), minsI m r ∈ m :: r ∧ ∀ y ∈ m :: r, minsI m r ≤ y
  | [], m => by simp [minsI]
  | i :: r, m => by
    have h := minsI_mem r (if i < m then i else m)
    unfold minsI
    refine ⟨?_, fun y hy => ?_⟩
    · have := h.1
      by_cases q : i < m
      · rw [if_pos q] at this ⊢
        exact List.mem_cons_of_mem _ this
      · rw [if_neg q] at this ⊢
        rcases List.mem_cons.mp this with e | e
        · exact List.mem_cons.mpr (.inl e)
        · exact List.mem_cons_of_mem _ (List.mem_cons_of_mem _ e)
    · have l1 := h.2 _ List.mem_cons_self
      rcases List.mem_cons.mp hy with rfl | hy
      · by_cases q : i < y
        · rw [if_pos q] at l1 ⊢; omega
        · rw [if_neg q] at l1 ⊢; omega
      · rcases List.mem_cons.mp hy with rfl | hy
        · by_cases q : y < m
          · rw [if_pos q] at l1 ⊢; omega
          · rw [if_neg q] at l1 ⊢; omega
        · exact h.2 y (List.mem_cons_of_mem _ hy)
theorem maxsI_mem : ∀ (r : List Int) (m : Int), maxsI m r ∈ m :: r ∧ ∀ y ∈ m :: r, y ≤ maxsI m r
  | [], m => by simp [maxsI]
  | i :: r, m => by
    have h := maxsI_mem r (if m < i then i else m)
    unfold maxsI
    refine ⟨?_, fun y hy => ?_⟩
    · have := h.1
      by_cases q : m < i
      · rw [if_pos q] at this ⊢
        exact List.mem_cons_of_mem _ this
      · rw [if_neg q] at this ⊢
        rcases List.mem_cons.mp this with e | e
        · exact List.mem_cons.mpr (.inl e)
        · exact List.mem_cons_of_mem _ (List.mem_cons_of_mem _ e)
    · have l1 := h.2 _ List.mem_cons_self
      rcases List.mem_cons.mp hy with rfl | hy
      · by_cases q : y < i
        · rw [if_pos q] at l1 ⊢; omega
        · rw [if_neg q] at l1 ⊢; omega
      · rcases List.mem_cons.mp hy with rfl | hy
        · by_cases q : m < y
          · rw [if_pos q] at l1 ⊢; omega
          · rw [if_neg q] at l1 ⊢; omega
        · exact h.2 y (List.mem_cons_of_mem _ hy)
theorem min1_ok (xa : XA G X) : CallR X (.builtin "min") (rBi G min1Ev) := by
  intro pins s σ H vs us Q I r h
  obtain ⟨B, ρ, st, ds, d, rs, hd, hf, fin⟩ := h
  match ds, hf with
  | [.lst ds], hf =>
    obtain ⟨is, e1, hf⟩ := Option.bind_eq_some_iff.mp hf
    obtain ⟨p, ws, rfl, h2, h3⟩ := one_lst hd
    rw [ints_of e1] at h3
    rw [dvs_ints h3] at h2
    cases is with
    | nil => cases hf
    | cons i is =>
      cases hf
      refine cr_min xa.calm pins s σ H _ us Q I r ⟨p, i :: is, rfl, .inl h2, Nat.succ_pos _, fun m hm hl => ?_⟩
      obtain ⟨q1, q2⟩ := minsI_mem is i
      have : m = minsI i is := by
        have := hl _ q1
        have := q2 _ hm
        omega
      rw [this]
      exact fin.now rfl
theorem max1_ok (xa : XA G X) : CallR X (.builtin "max") (rBi G max1Ev) := by
  intro pins s σ H vs us Q I r h
  obtain ⟨B, ρ, st, ds, d, rs, hd, hf, fin⟩ := h
  match ds, hf with
  | [.lst ds], hf =>
    obtain ⟨is, e1, hf⟩ := Option.bind_eq_some_iff.mp hf
    obtain ⟨p, ws, rfl, h2, h3⟩ := one_lst hd
    rw [ints_of e1] at h3
    rw [dvs_ints h3] at h2
    cases is with
    | nil => cases hf
    | cons i is =>
      cases hf
      refine cr_max xa.calm pins s σ H _ us Q I r ⟨p, i :: is, rfl, .inl h2, Nat.succ_pos _, fun m hm hl => ?_⟩
      obtain ⟨q1, q2⟩ := maxsI_mem is i
      have : m = maxsI i is := by
        have := hl _ q1
        have := q2 _ hm
        omega
      rw [this]
      exact fin.now rfl
end
end Dp
set_option Elab.async false
set_option linter.all false
set_option maxRecDepth 100000
set_option maxHeartbeats 4000000
namespace Dp
open PySem PySem.W PySem.SeqAt PyProof.Rows
section
variable {prog : Program} {w : World} {M : Model} {A : Around} {E : Value → Shared → Prop} {s : Shared}
/-- tuples of one kind of items -/
structure TupOf (h : Heap) (v : Value) : Prop where
  ex : ∃ a o xs n, v = .ref a ∧ h.get? a = some o ∧ o.cls = .type "tuple" ∧ o.data = .seq xs n
theorem TupOf.looks {h : Heap} {v : Value} (t : TupOf h v) : Looks M h (typeOf v) (.type "tuple") := by
  obtain ⟨a, o, xs, n, rfl, ho, hc, hd⟩ := t.ex
  exact hc ▸ (Looks.ld ho).andThen .now
end
section
variable {prog : Program} {w : World} {A : Around} {E : Value → Shared → Prop} {s : Shared}
/-- one tuple against another, both of the type tuple -/
theorem oneLt_tup {xs ys : List PyData} {a b : Value} {as bs : List Addr} {f : Bool} {Q : Bool → Shared → Prop} (ra : Reads s.heap a (.tuple xs) as) (rb : Reads s.heap b (.tuple ys) bs) (h : alike (.tuple xs) (.tuple ys) = true)
    (hu : A.units + min (PyData.tuple xs).depth (PyData.tuple ys).depth < cLine) (hq : Q (dataLt (.tuple xs) (.tuple ys)) s) : wpAny (model prog w) A (oneLt' f a b) Q E s := by
  cases f with
  | false => exact oneLt_alike (fun z => nomatch z) ra rb h (fun z => nomatch z) hu hq
  | true =>
    have hal : alikeAll xs ys = true := by simpa [alike] using h
    cases ra with
    | @tuple l o vs n _ as₁ h1 h2 h3 h4 =>
      cases rb with
      | @tuple l' o' vs' n' _ bs₁ k1 k2 k3 k4 =>
        have n1 : vs.size = xs.length := by simpa using ReadsAll.length _ _ _ h4
        have n2 : vs'.size = ys.length := by simpa using ReadsAll.length _ _ _ k4
        rw [dataLt_tuple, ← firstLt_toks xs ys hal, ← n1, ← n2] at hq
        obtain ⟨c1, d1, dt1, s1⟩ := o
        obtain ⟨c2, d2, dt2, s2⟩ := o'
        simp only at h2 h3 k2 k3
        subst h2 h3 k2 k3
        rw [oneLt'_eq]
        simp only [if_true]
        refine wpAny_bind (wpAny_cRoomFor (room_here hu) ?_)
        refine wpAny_bind (wpAny_callSpecialIfBound?_slot (T := "tuple") ⟨_, h1, rfl⟩ F.slot_tuple_lt (call_meets F.slot_tuple_lt ⟨_, h1, rfl⟩ F.entry_tuple_lt (F.args_tuple_lt_2 _ _)
          (tuple_ltAt l l' vs vs' n n' d1 d2 s1 s2 (pairEq xs ys) (fun j => dataLt (xs.getD j .none) (ys.getD j .none))) ⟨h1, k1, fun j j1 j2 => ?_, fun j j1 j2 hj => ?_, ?_⟩))
        · have := eqAt_alikeAll xs ys A.in1 s vs.toList vs'.toList _ _ h4 k4 hal (room_in hu) j (by simpa using j1) (by simpa using j2)
          simpa using this
        · have := rcLt_alikeAll xs ys A.in1 s vs.toList vs'.toList _ _ h4 k4 hal (room_in hu) j (by simpa using j1) (by simpa using j2) hj
          simpa using this
        · exact wpAny_truthy_bool hq
theorem each_right {R : Value → PyData → Prop} : ∀ {vs : List Value} {ds : List PyData}, EachIs R vs ds → ∀ d ∈ ds, ∃ v ∈ vs, R v d
  | _, _, .nil, _, h => absurd h (by simp)
  | _, _, .cons h t, d, hd => by
    rcases List.mem_cons.mp hd with rfl | hd
    · exact ⟨_, List.mem_cons_self, h⟩
    · obtain ⟨v, hv, hr⟩ := each_right t d hd
      exact ⟨v, List.mem_cons_of_mem _ hv, hr⟩
theorem keyLt_general (x y : Value) : keyLt' general' x y = oneLt' false x y := rfl
/-- all tuples, one of them empty: never compared item by item -/
theorem kind_mixed {M : Model} {vs : List Value} (t : ∀ v ∈ vs, TupOf s.heap v) (hemp : ∃ v ∈ vs, ∃ a o n, v = .ref a ∧ s.heap.get? a = some o ∧ o.data = .seq #[] n) :
    ∃ kd : SortKind, (kd = general' ∨ kd = oneType') ∧ ∀ (E : Value → Shared → Prop) {Q : SortKind → Shared → Prop}, Q kd s → wpAny M A (keyKind' vs.toArray) Q E s := by
  -- the first items, as they are read
  have key : ∀ (vs : List Value), (∀ v ∈ vs, TupOf s.heap v) → ∃ fs : List (Option Value), fs.length = vs.length ∧ (∀ (E : Value → Shared → Prop) (Q : List (Option Value) → Shared → Prop), Q fs s → wpAny M A (vs.mapM firstOfTuple') Q E s) ∧
      ((∃ v ∈ vs, ∃ a o n, v = .ref a ∧ s.heap.get? a = some o ∧ o.data = .seq #[] n) → none ∈ fs) := by
    intro vs
    induction vs with
    | nil => exact fun _ => ⟨[], rfl, fun E Q h => by rw [List.mapM_nil]; exact wpAny_pure h, fun ⟨v, hv, _⟩ => absurd hv (by simp)⟩
    | cons v vs ih =>
      intro t
      obtain ⟨fs, hl, hfs, hn⟩ := ih fun x hx => t x (List.mem_cons_of_mem _ hx)
      obtain ⟨a, o, xs, n, rfl, ho, hc, hd⟩ := (t v List.mem_cons_self).ex
      refine ⟨xs[0]? :: fs, by simp [hl], fun E Q h => ?_, ?_⟩
      · rw [List.mapM_cons]
        refine wpAny_bind ?_
        rw [kas_first_eq]
        refine wpAny_bind (Looks.here (show Looks M s.heap (typeOf (.ref a)) o.cls from (Looks.ld ho).andThen .now) ?_)
        rw [hc, if_neg (by first | decide | simp)]
        exact wpAny_bind (listItems_at ho hd (wpAny_pure (wpAny_bind (hfs E _ (wpAny_pure h)))))
      · rintro ⟨u, hu, a', o', n', e, ho', hd'⟩
        rcases List.mem_cons.mp hu with rfl | hu
        · cases e
          rw [ho] at ho'
          cases ho'
          rw [hd] at hd'
          injection hd' with e1 _
          subst e1
          exact List.mem_cons.mpr (.inl rfl)
        · exact List.mem_cons_of_mem _ (hn ⟨u, hu, a', o', n', e, ho', hd'⟩)
  obtain ⟨fs, hl, hfs, hn⟩ := key vs t
  have hno := hn hemp
  have hall : (fs.toArray.all fun x => x.isSome) = false := by
    rw [Bool.eq_false_iff]
    intro z
    have := List.all_eq_true.mp (by simpa using z : fs.all (fun x => x.isSome) = true) none hno
    simp at this
  by_cases hg : (fs.toArray[0]?.bind id).isSome = true
  · refine ⟨general', .inl rfl, fun E Q h => ?_⟩
    rw [kat_kind_eq, List.mapM_toArray, map_eq_pure_bind]
    refine wpAny_bind (wpAny_bind (hfs E _ (wpAny_pure ?_)))
    rw [if_neg (by rw [hall]; simp), if_pos hg]
    exact wpAny_pure h
  · obtain ⟨v0, vr, rfl⟩ : ∃ v0 vr, vs = v0 :: vr := by
      cases vs with
      | nil => obtain ⟨_, hv, _⟩ := hemp; simp at hv
      | cons a b => exact ⟨a, b, rfl⟩
    refine ⟨oneType', .inr rfl, fun E Q h => ?_⟩
    rw [kat_kind_eq, List.mapM_toArray, map_eq_pure_bind]
    refine wpAny_bind (wpAny_bind (hfs E _ (wpAny_pure ?_)))
    rw [if_neg (by rw [hall]; simp), if_neg hg, oneTypeOnly'_eq, List.mapM_toArray, map_eq_pure_bind]
    refine wpAny_bind (wpAny_bind (wpAny_bind (kas_mapM (r := Value.type "tuple") _ (fun v hv Q' hq => ((t v hv).looks).here hq) (wpAny_pure ?_))))
    have hall2 : ((List.map (fun _ => Value.type "tuple") (v0 :: vr)).toArray.all fun x => x == Value.type "tuple") = true := by
      simp only [List.all_toArray, List.all_map, List.all_eq_true]
      intro _ _
      exact beq_self_eq_true _
    have h0 : (List.map (fun _ => Value.type "tuple") (v0 :: vr)).toArray[0]? = some (Value.type "tuple") := by simp
    rw [h0]
    simp only [hall2, if_true]
    exact wpAny_pure (wpAny_pure h)
/-- alike data, none of them None, can be sorted -/
theorem sorts_any {vs : List Value} {ds : List PyData} (e : EachIs (fun v d => ∃ as, Reads s.heap v d as) vs ds) (hal : AllAlike ds) (hn : ∀ d ∈ ds, d ≠ .none) (hu : ∀ d, d ∈ ds → A.units + d.depth < cLine) : SortsAt prog w A s (dataKind s.heap ds) vs := by
  by_cases hk : Sortable ds
  · exact SortsAt.data e hal hk hu
  · -- a tuple is among them, so all are; one is empty
    have h1 : ∃ d ∈ ds, ∃ xs, d = .tuple xs := by
      refine Classical.byContradiction fun z => hk (.inr fun d hd => ⟨hn d hd, fun xs q => z ⟨d, hd, xs, q⟩⟩)
    obtain ⟨d0, hd0, xs0, rfl⟩ := h1
    have h2 : ∀ d ∈ ds, ∃ xs, d = .tuple xs := fun d hd => by
      have q := hal d hd _ hd0
      cases d with
      | tuple xs => exact ⟨xs, rfl⟩
      | _ => simp [alike] at q
    have h3 : .tuple [] ∈ ds := by
      refine Classical.byContradiction fun z => hk (.inl fun d hd => ?_)
      obtain ⟨xs, rfl⟩ := h2 d hd
      cases xs with
      | nil => exact (z hd).elim
      | cons x r => exact ⟨x, r, rfl⟩
    have hT : ∀ v ∈ vs, TupOf s.heap v := fun v hv => by
      obtain ⟨d, hd, as, r⟩ := e.left v hv
      obtain ⟨xs, rfl⟩ := h2 d hd
      cases r with
      | @tuple a o us n _ _ ho hc hd _ => exact ⟨a, o, us, n, rfl, ho, hc, hd⟩
    have hE : ∃ v ∈ vs, ∃ a o n, v = .ref a ∧ s.heap.get? a = some o ∧ o.data = .seq #[] n := by
      obtain ⟨v, hv, as, r⟩ := each_right e _ h3
      cases r with
      | @tuple a o us n _ _ ho hc hd hr =>
        refine ⟨_, hv, a, o, n, rfl, ho, ?_⟩
        have : us.toList = [] := by cases hr' : us.toList with
          | nil => rfl
          | cons _ _ => rw [hr'] at hr; cases hr
        have : us = #[] := by simpa using this
        rw [hd, this]
    refine ⟨fun v hv => ?_, ?_⟩
    · obtain ⟨d, hd, as, r⟩ := e.left v hv
      exact ⟨_, dataKind_some hal hd r⟩
    · obtain ⟨kd, hkd, hrun⟩ := kind_mixed (M := model prog w) (A := A) hT hE
      refine ⟨kd, ?_, fun _ E Q hq => hrun E hq⟩
      intro E x y a b Q ha hb hq
      obtain ⟨d, as, hd, ra, rfl⟩ := dataKind_inv ha
      obtain ⟨d', as', hd', rb, rfl⟩ := dataKind_inv hb
      have hroom : A.units + min d.depth d'.depth < cLine := Nat.lt_of_le_of_lt (Nat.add_le_add_left (Nat.min_le_left _ _) _) (hu d hd)
      have hq' : Q (dataLt d d') s := hq
      have hl := hal d hd d' hd'
      obtain ⟨xs, rfl⟩ := h2 d hd
      obtain ⟨ys, rfl⟩ := h2 d' hd'
      rcases hkd with rfl | rfl
      · rw [keyLt_general]
        exact oneLt_tup ra rb hl hroom hq'
      · rw [keyLt'_oneType]
        exact oneLt_tup ra rb hl hroom hq'
end
end Dp
set_option Elab.async false
set_option linter.all false
set_option maxRecDepth 100000
set_option maxHeartbeats 4000000
namespace Dp
open PySem PySem.Spec PyProof.Rows L2 PySem.W PySem.SeqAt
section
variable {prog : Program} {w : World} {A : Around} {E : Value → Shared → Prop} {s : Shared}
/-- the items of u come, all else is as it was -/
def Collects (prog : Program) (w : World) (A : Around) (s : Shared) (u : Value) (vs : List Value) : Prop :=
  ∀ (E : Value → Shared → Prop) (R : List Value → Shared → Prop), (∀ h' tk, (∀ b o, s.heap.get? b = some o → h'.get? b = some o) → R vs { s with heap := h', toks := tk }) → wpAny (model prog w) A (collect u) R E s
theorem collects_list {l : Addr} {vs : List Value} (hl : s.heap.IsList l vs.toArray) (hsz : vs.length ≤ sizeLine) : Collects prog w A s (.ref l) vs := fun E R h =>
  collect_list hl (h _ s.toks fun b o e => by
    rw [Heap.get?_update_ne _ _ _ _ (Nat.ne_of_lt (Heap.lt_size e))]
    exact Heap.get?_push_of_some _ e) hsz
theorem collects_tup {l : Addr} {vs : List Value} (hl : s.heap.IsTuple l vs.toArray) (hsz : vs.length ≤ sizeLine) : Collects prog w A s (.ref l) vs := fun E R h => by
  obtain ⟨o, ho, hc, n, hd⟩ := id hl
  have k : ∀ b u, s.heap.get? b = some u → ((s.heap.push (seqObj "list" #[] 0)).update s.heap.objs.size (Obj.mapSeq (· ++ vs.toArray))).get? b = some u := fun b u e => by
    rw [Heap.get?_update_ne _ _ _ _ (Nat.ne_of_lt (Heap.lt_size e))]
    exact Heap.get?_push_of_some _ e
  unfold collect
  refine wpAny_bind (wpAny_runValue (codeAny_builtin F.entry_proto_collect ?_))
  show wpAny _ _ (do again (.builtin "list.__iadd__" ⟨[← newList [], .ref l], []⟩)) _ _ s
  refine wpAny_bind (wpAny_newList (wpAny_pure ⟨Code.quiet_builtin _ (by decide +kernel), codeAny_builtin F.entry_list_iadd ?_⟩))
  show wpAny _ _ (Builtin.List.listExtendWith (.ref s.heap.objs.size) (.ref l) (.ref s.heap.objs.size)) _ _ { s with heap := s.heap.push (seqObj "list" #[] 0) }
  unfold Builtin.List.listExtendWith
  have ho' : (s.heap.push (seqObj "list" #[] 0)).get? l = some o := Heap.get?_push_of_some _ ho
  refine wpAny_bind (wpAny_typeOf (T := "tuple") ⟨o, ho', hc⟩ ?_)
  have ht : (Value.type "tuple" == Value.type "tuple") = true := by rfl
  rw [if_pos (by rw [ht]; simp)]
  refine wpAny_bind (listItems_at ho' hd ?_)
  refine wpAny_bind (listItems_at (xs := #[]) (n := 0) (Heap.get?_push_size _ rfl) rfl ?_)
  rw [if_neg (by simp)]
  refine wpAny_bind (listUpdate_at (xs := #[]) (n := 0) (Heap.get?_push_size _ rfl) rfl ?_ (Nat.zero_le _) (by show (#[] ++ vs.toArray).size ≤ sizeLine + 1; simp only [Array.size_append, List.size_toArray, List.length_nil]; omega))
  refine wpAny_pure ?_
  show wpAny (model prog w) A (do
      let o ← load s.heap.objs.size
      match o.data with
      | .seq xs _ => pure xs.toList
      | _ => unsupported "internal:collect") _ _ { s with heap := (s.heap.push (seqObj "list" #[] 0)).update s.heap.objs.size (Obj.mapSeq (· ++ vs.toArray)) }
  refine wpAny_bind (wpAny_load (get?_update_seq (Heap.get?_push_size _ rfl) _) ?_)
  show wpAny _ _ (pure ((#[] : Array Value) ++ vs.toArray).toList) _ _ _
  rw [show ((#[] : Array Value) ++ vs.toArray).toList = vs by simp]
  exact wpAny_pure (h _ s.toks k)
theorem collects_dct {d : Addr} {es : List DictEntry × Nat} (hh : A.handled = none) (r : rawD d es s.heap) (hsz : es.1.length ≤ sizeLine) : Collects prog w A s (.ref d) (es.1.map (·.key)) := fun E R h => by
  obtain ⟨o, ho, hx, hd, hm⟩ := r
  refine kdu_collect (kdl_raw hm hx hd) hh ho (by simpa using hsz) fun h' tk acc hk hacc => ?_
  have e : acc.toList = es.1.map (·.key) := by
    apply List.ext_getElem?
    intro j
    have hl : acc.toList.length = es.1.length := by rw [Array.length_toList, hacc.1]; simp
    rw [List.getElem?_map]
    cases hj : acc.toList[j]? with
    | none =>
      have := List.getElem?_eq_none_iff.mp hj
      rw [List.getElem?_eq_none (by omega)]
      rfl
    | some v =>
      obtain ⟨en, hen, hv⟩ := hacc.2 j v (by rw [← Array.getElem?_toList]; exact hj)
      have : es.1[j]? = some en := by simpa using hen
      rw [this, hv]
      rfl
  rw [e]
  exact h h' tk hk
/-- sorted(u) -/
theorem sorted_gen {β : Type} {enc : β → PyData} {u : Value} {vs : List Value} {ds : List β} {R : Value → β → Prop} {Q : Value → Shared → Prop} (hc : Collects prog w A.in1 s u vs) (hL : vs.length ≤ sizeLine) (e : EachIs R vs ds)
    (er : EachIs (fun v d => ∃ as, Reads s.heap v (enc d) as) vs ds) (hal : AllAlike (ds.map enc)) (hn : ∀ d ∈ ds.map enc, d ≠ .none) (hu : ∀ d, d ∈ ds.map enc → A.units + 2 + d.depth < cLine)
    (h : ∀ (h1 h' : Heap) (tk : Nat) (out : List Value) (c : Nat), (∀ b o, s.heap.get? b = some o → h1.get? b = some o) → (∀ b o, h1.get? b = some o → h'.get? b = some o) → h'.get? h1.objs.size = some (seqObj "list" (List.toArray out) c) → EachIs R out (ds.mergeSort (dataLe false enc)) → Q (.ref h1.objs.size) { s with heap := h', toks := tk }) :
    wpAny (model prog w) A (call (.builtin "sorted") [u]) Q E s := by
  refine Calls.call_function_entry kind_sorted plain_sorted entry_sorted (args_sorted1 _) ?_
  unfold Builtin.«sorted»
  refine wpAny_bind (m := checkCount "sorted" 1 1 _) (wpAny_pure ?_)
  refine wpAny_bind (hc _ _ fun h1 tk k1 => ?_)
  refine wpAny_bind (wpAny_newList ?_ hL)
  have hoL : (h1.push (seqObj "list" vs.toArray 0)).get? h1.objs.size = some (seqObj "list" vs.toArray 0) := Heap.get?_push_size _ rfl
  have ks : ∀ b o, s.heap.get? b = some o → (sortingHeap (h1.push (seqObj "list" vs.toArray 0)) h1.objs.size vs).get? b = some o := fun b o q =>
    sortingHeap_old (Nat.ne_of_lt (Heap.lt_size (k1 b o q))) (Heap.get?_push_of_some _ (k1 b o q))
  have er' : EachIs (fun v d => ∃ as, Reads (sortingHeap (h1.push (seqObj "list" vs.toArray 0)) h1.objs.size vs) v (enc d) as) vs ds := er.mono fun _ _ ⟨as, r⟩ => ⟨as, PyProof.Rows.Reads.keeps ks r⟩
  have er2 : EachIs (fun v d => ∃ as, Reads (sortingHeap (h1.push (seqObj "list" vs.toArray 0)) h1.objs.size vs) v d as) vs (ds.map enc) := each_map (R := fun v d => ∃ as, Reads (sortingHeap (h1.push (seqObj "list" vs.toArray 0)) h1.objs.size vs) v d as) enc er'
  refine wpAny_bind (wpAny_holding (wpAny_call_entry slot_list_sort ⟨_, hoL, rfl⟩ entry_list_sort
    (list_sort_vals (s := { s with heap := h1.push (seqObj "list" vs.toArray 0), toks := tk }) hoL (sorts_any (s := { s with heap := sortingHeap (h1.push (seqObj "list" vs.toArray 0)) h1.objs.size vs, toks := tk }) er2 hal hn hu) hL ⟨_, rfl, ?_⟩) (args_list_sort _)))
  obtain ⟨c, hcc⟩ := sortedHeap_at (vs := vs) (out := (sortVals (dataKind (sortingHeap (h1.push (seqObj "list" vs.toArray 0)) h1.objs.size vs) (ds.map enc)) false vs vs).toArray) hoL
  have e2 : EachIs R (sortVals (dataKind (sortingHeap (h1.push (seqObj "list" vs.toArray 0)) h1.objs.size vs) (ds.map enc)) false vs vs) (ds.mergeSort (dataLe false enc)) :=
    sortVals_data (h' := sortingHeap (h1.push (seqObj "list" vs.toArray 0)) h1.objs.size vs) (enc := enc) (bs := ds) false e er' hal
  refine wpAny_pure ⟨_, rfl, h h1 _ _ _ c k1 (fun b o q => ?_) hcc e2⟩
  have hlt := Heap.lt_size q
  show (sortedHeap (h1.push (seqObj "list" vs.toArray 0)) h1.objs.size vs _).get? b = some o
  rw [sortedHeap_old (Nat.ne_of_lt hlt) (by rw [size_push']; exact Nat.lt_succ_of_lt hlt)]
  exact Heap.get?_push_of_some _ q
end
section
variable {G : Gx} {X : Cx}
theorem each_dvs {M ρ : List Addr} {H : Hp} : ∀ {ds : List D} {vs : List V} {us : List Value}, DVs G M ρ H ds vs → Vals vs us → EachIs (fun u d => ∃ v, RelV v u ∧ DV G M ρ H d v) us ds
  | [], vs, us, h, r => by
    have h : vs = [] := h
    subst h
    cases r
    exact .nil
  | d :: ds, vs, us, h, r => by
    obtain ⟨v, t, e, h1, h2⟩ := h
    subst e
    cases r with
    | cons r1 r2 => exact .cons ⟨v, r1, h1⟩ (each_dvs h2 r2)
theorem dvs_each {M ρ : List Addr} {H : Hp} : ∀ {ds : List D} {us : List Value}, EachIs (fun u d => ∃ v, RelV v u ∧ DV G M ρ H d v) us ds → ∃ vs, DVs G M ρ H ds vs ∧ Vals vs us
  | _, _, .nil => ⟨[], rfl, .nil⟩
  | _, _, .cons ⟨v, r, h⟩ t => by
    obtain ⟨vs, h1, h2⟩ := dvs_each t
    exact ⟨v :: vs, .cons h h1, .cons r h2⟩
theorem each_reads {pins : List (Addr × Obj)} {s : Shared} {σ : L2.St} {H : Hp} {B ρ : List Addr} (I : Inv X pins σ H s) (xa : XA G X) : ∀ {ds : List D} {us : List Value}, (∀ d ∈ ds, D.lay DEEP d = true) → EachIs (fun u d => ∃ v, RelV v u ∧ DV G (ρ ++ B) ρ H d v) us ds →
    EachIs (fun u d => ∃ as, Reads s.heap u (D.toP d) as) us ds
  | [], [], _, _ => .nil
  | [], _ :: _, _, e => nomatch e
  | _ :: _, [], _, e => nomatch e
  | d :: ds, u :: us, l, e => by
    cases e with
    | cons h t =>
      obtain ⟨v, r, h⟩ := h
      exact .cons (L2.Dp.reads I d.toP v _ (by rw [xa.K]; exact dp_of _ d v (l d List.mem_cons_self) h) r) (each_reads I xa (fun x hx => l x (List.mem_cons_of_mem _ hx)) t)
/-- what is sorted, and into what -/
theorem sort_rule (xa : XA G X) {pins : List (Addr × Obj)} {s : Shared} {σ : L2.St} {H : Hp} {Q : VK} {B ρ : List Addr} {st : Store} {ds : List D} {vs : List V} {us : List Value} {u : Value} (I : Inv X pins σ H s) (rs : RS (G := G) B st ρ H)
    (hds : DVs G (ρ ++ B) ρ H ds vs) (hv : Vals vs us) (hL : us.length ≤ sizeLine) (hc : Collects X.prog X.w X.A.in1 s u us) (ok : sortOk ds = true) (fin : FinF G B ρ H Q (.lst (sortD ds))) :
    wpAny (model X.prog X.w) X.A (call (.builtin "sorted") [u]) (EP X pins σ Q) X.xe s := by
  rw [sortD_eq] at fin
  have lay : ∀ d ∈ ds, D.lay DEEP d = true := fun d hd => by
    have := List.all_eq_true.mp ok d hd
    simp only [Bool.and_eq_true] at this
    exact this.1.1
  have ok' : ∀ d ∈ ds, d.isNon = false ∧ ∀ d' ∈ ds, D.ali d d' = true := fun d hd => by
    have := List.all_eq_true.mp ok d hd
    simp only [Bool.and_eq_true, Bool.not_eq_true', List.all_eq_true] at this
    exact ⟨this.1.2, this.2⟩
  have e0 := each_dvs hds hv
  refine sorted_gen (enc := D.toP) hc hL e0 (each_reads I xa lay e0) ?_ ?_ ?_ fun h1 h' tk out c k1 k2 ho e => ?_
  · intro a ha b hb
    obtain ⟨a', ha', rfl⟩ := List.mem_map.mp ha
    obtain ⟨b', hb', rfl⟩ := List.mem_map.mp hb
    exact (ok' _ ha').2 _ hb'
  · intro a ha
    obtain ⟨a', ha', rfl⟩ := List.mem_map.mp ha
    exact isNon_toP (lay _ ha') (ok' _ ha').1
  · intro a ha
    obtain ⟨a', ha', rfl⟩ := List.mem_map.mp ha
    have h1 := depth_of _ _ (lay _ ha')
    have h2 := xa.un
    have h3 : DEEP = 30 := rfl
    omega
  · have I1 : Inv X pins σ H { s with heap := h1, toks := tk } := I.kept k1
    obtain ⟨ws, g1, g2⟩ := dvs_each e
    have hn := I1.hok.fresh (a := h1.objs.size) (Nat.le_refl _)
    refine ⟨.ref h1.objs.size, upd H h1.objs.size (.lst ws), I1.laid (t' := tk) (h' := h') k2 (Nat.le_refl _) (show ObjOk X.prog X.w _ _ _ (.lst ws) from ⟨?_, out, c, g2, ho⟩), rfl, fin.lst g1 hn⟩
    have l1 := e.length
    have l2 := e0.length
    rw [List.length_mergeSort] at l1
    rw [Vals.length g2, l1, ← l2]
    exact hL
/-- a dict's object -/
theorem dct_raw (xa : XA G X) {pins : List (Addr × Obj)} {s : Shared} {σ : L2.St} {H : Hp} {B ρ : List Addr} {ks ws : List D} {p : Addr} (I : Inv X pins σ H s) (h : DctAt G (ρ ++ B) ρ H ks ws p) :
    ∃ es kv vv, rawD p es s.heap ∧ DVs G (ρ ++ B) ρ H ks kv ∧ Vals kv (es.1.map (·.key)) ∧ DVs G (ρ ++ B) ρ H ws vv ∧ Vals vv (es.1.map (·.val)) ∧ es.1.length ≤ sizeLine := by
  obtain ⟨es, kv, vv, h2, h3, h4, h5, h6, h7, h8, h9, h10⟩ := h
  obtain ⟨hraw, _⟩ := (show ObjOk X.prog X.w H s.heap p (.ext (rawD p es)) from I.hok p _ h2)
  exact ⟨es, kv, vv, hraw, h9, h3, h10, h4, by rw [← lim_line]; exact h8⟩
/-- the keys of a dict, in their order -/
theorem dct_keys (xa : XA G X) {pins : List (Addr × Obj)} {s : Shared} {σ : L2.St} {H : Hp} {B ρ : List Addr} {st : Store} {ks ws : List D} {p : Addr} (I : Inv X pins σ H s) (rs : RS (G := G) B st ρ H) (h : DctAt G (ρ ++ B) ρ H ks ws p) :
    ∃ kv us, DVs G (ρ ++ B) ρ H ks kv ∧ Vals kv us ∧ us.length ≤ sizeLine ∧ Collects X.prog X.w X.A.in1 s (.ref p) us := by
  obtain ⟨es, kv, vv, hraw, h1, h2, _, _, hz⟩ := dct_raw xa I h
  exact ⟨kv, _, h1, h2, by rw [List.length_map]; exact hz, collects_dct (A := X.A.in1) (show X.A.in1.handled = none from I.ok.hd xa.calm) hraw hz⟩
theorem sorted_okF (xa : XA G X) : CallR X (.builtin "sorted") (rBiF G srtEv) := by
  intro pins s σ H vs us Q I r h
  obtain ⟨B, ρ, st, ds, d, rs, hd, hf, fin⟩ := h
  match ds, hf with
  | [.tup ds], hf =>
    simp only [srtEv] at hf
    split at hf
    · rename_i ok
      cases hf
      obtain ⟨v, rfl, h1⟩ := dbs1 hd
      obtain ⟨p, ws, rfl, h2, h3⟩ := h1.tup
      obtain ⟨u, rfl, rx⟩ := r.one
      cases rx
      obtain ⟨its, rv, pl, hz⟩ := I.tuple (show SqT X.K H p ws by rw [xa.K]; exact h2)
      exact sort_rule xa I rs h3 rv (by rw [← rv.length]; exact hz) (collects_tup (show s.heap.IsTuple p its.toArray from pl) (by rw [← rv.length]; exact hz)) ok fin
    · cases hf
  | [.lst ds], hf =>
    simp only [srtEv] at hf
    split at hf
    · rename_i ok
      cases hf
      obtain ⟨p, ws, rfl, h2, h3⟩ := one_lst hd
      obtain ⟨u, rfl, rx⟩ := r.one
      cases rx
      obtain ⟨its, rv, pl, hz⟩ := I.list (show SqL X.K H p ws from .inl h2)
      exact sort_rule xa I rs h3 rv (by rw [← rv.length]; exact hz) (collects_list pl.isList (by rw [← rv.length]; exact hz)) ok fin
    · cases hf
  | [.dct ks ws], hf =>
    simp only [srtEv] at hf
    split at hf
    · rename_i ok
      cases hf
      obtain ⟨v, rfl, h1⟩ := dbs1 hd
      obtain ⟨p, rfl, hdd⟩ := h1.dct
      obtain ⟨u, rfl, rx⟩ := r.one
      cases rx
      obtain ⟨kv, us, h9, h3, hz, hc⟩ := dct_keys xa I rs hdd
      exact sort_rule xa I rs h9 h3 hz hc ok fin
    · cases hf
theorem sorted_ok (xa : XA G X) : CallR X (.builtin "sorted") (rBi G srtEv) := biF_bi (sorted_okF xa)
end
end Dp
set_option Elab.async false
set_option linter.all false
set_option maxRecDepth 100000
set_option maxHeartbeats 4000000
namespace Dp
open PySem PySem.Spec PyProof.Rows L2 PySem.W
end Dp
set_option Elab.async false
set_option linter.all false
set_option maxRecDepth 100000
set_option maxHeartbeats 4000000
namespace Dp
open PySem PySem.Spec PyProof.Rows L2 PySem.W PySem.SeqAt
section
variable {G : Gx} {X : Cx}
mutual
theorem shT_leaves (B : Nat) (n : Nat) : ∀ d : D, D.shT n d = true → d.toP.intsShort B = true → d.toP.leavesShort B = true
  | .non, _, _ => by simp [D.toP, PyData.leavesShort]
  | .bl _, _, _ => by simp [D.toP, PyData.leavesShort]
  | .int i, _, h => by simpa [D.toP, PyData.leavesShort, PyData.intsShort] using h
  | .str x, h, k => by
    have h : PyData.strOk x = true := by cases n <;> exact h
    exact PyData.leavesShort_of_canLay0 B (.str x) (by simpa [PyData.canLay0] using h) k
  | .tup ds, h, k => by
    cases n with
    | zero => simp [D.shT] at h
    | succ n =>
      simp only [D.toP, PyData.leavesShort]
      exact shTs_leaves B n ds (by simpa [D.shT] using h) (by simpa [D.toP, PyData.intsShort] using k)
  | .lst _, h, _ => by cases n <;> simp [D.shT] at h
  | .dct _ _, _, _ => by simp [D.toP, PyData.leavesShort, PyData.leavesShortKv]
  | .ref _, h, _ => by cases n <;> simp [D.shT] at h
  | .fn _, h, _ => by cases n <;> simp [D.shT] at h
  | .tpx _, h, _ => by cases n <;> simp [D.shT] at h
  | .er _ _, h, _ => by cases n <;> simp [D.shT] at h
theorem shTs_leaves (B : Nat) (n : Nat) : ∀ ds : List D, (∀ d ∈ ds, D.shT n d = true) → PyData.intsShortAll B (D.toPs ds) = true → PyData.leavesShortAll B (D.toPs ds) = true
  | [], _, _ => by simp [D.toPs, PyData.leavesShortAll]
  | d :: ds, h, k => by
    simp only [D.toPs, PyData.intsShortAll, Bool.and_eq_true] at k
    simp only [D.toPs, PyData.leavesShortAll, Bool.and_eq_true]
    exact ⟨shT_leaves B n d (h d List.mem_cons_self) k.1, shTs_leaves B n ds (fun x hx => h x (List.mem_cons_of_mem _ hx)) k.2⟩
end
mutual
theorem shT_depth (n : Nat) : ∀ d : D, D.shT n d = true → d.toP.depth ≤ n
  | .non, _ => by simp [D.toP, PyData.depth]
  | .bl _, _ => by simp [D.toP, PyData.depth]
  | .int _, _ => by simp [D.toP, PyData.depth]
  | .str x, _ => by simp [D.toP, PyData.depth]
  | .tup ds, h => by
    cases n with
    | zero => simp [D.shT] at h
    | succ n =>
      have := shTs_depth n ds (by simpa [D.shT] using h)
      simp only [D.toP, PyData.depth]
      omega
  | .lst _, h => by cases n <;> simp [D.shT] at h
  | .dct _ _, h => by
    cases n with
    | zero => simp [D.shT] at h
    | succ n => simp [D.toP, PyData.depth, PyData.depthKv]
  | .ref _, h => by cases n <;> simp [D.shT] at h
  | .fn _, h => by cases n <;> simp [D.shT] at h
  | .tpx _, h => by cases n <;> simp [D.shT] at h
  | .er _ _, h => by cases n <;> simp [D.shT] at h
theorem shTs_depth (n : Nat) : ∀ ds : List D, (∀ d ∈ ds, D.shT n d = true) → PyData.depthAll (D.toPs ds) ≤ n
  | [], _ => by simp [D.toPs, PyData.depthAll]
  | d :: ds, h => by
    have h1 := shT_depth n d (h d List.mem_cons_self)
    have h2 := shTs_depth n ds fun x hx => h x (List.mem_cons_of_mem _ hx)
    simp only [D.toPs, PyData.depthAll]
    omega
end
mutual
theorem shT_reads (xa : XA G X) {pins : List (Addr × Obj)} {s : Shared} {σ : L2.St} {H : Hp} {M ρ : List Addr} (I : Inv X pins σ H s) (n : Nat) : ∀ (d : D) (v : V) (u : Value), D.shT n d = true → DV G M ρ H d v → RelV v u → ∃ as, Reads s.heap u d.toP as ∧ sysModules ∉ as
  | .non, v, u, _, h, r => by have h : v = .non := h; subst h; cases r; exact ⟨_, Reads.none, by simp⟩
  | .bl b, v, u, _, h, r => by have h : v = .bl b := h; subst h; cases r; exact ⟨_, Reads.bool b, by simp⟩
  | .int i, v, u, _, h, r => by have h : v = .int i := h; subst h; obtain ⟨t, rfl⟩ := r; exact ⟨_, Reads.int i t, by simp⟩
  | .str x, v, u, _, h, r => by have h : v = .str x := h; subst h; obtain ⟨t, rfl⟩ := r; exact ⟨_, Reads.str x t, by simp⟩
  | .tup ds, v, u, l, h, r => by
    obtain ⟨a, vs, e, h1, h2⟩ := h
    subst e
    cases r
    cases n with
    | zero => simp [D.shT] at l
    | succ n =>
      obtain ⟨its, rv, ⟨o, ho, hc, k, hd⟩, _⟩ := I.tuple (by rw [xa.K]; exact h1)
      obtain ⟨as, hr, hn⟩ := shTs_reads xa I n ds vs its (by simpa [D.shT] using l) h2 rv
      exact ⟨_, Reads.tuple ho hc hd hr, hn⟩
  | .lst _, _, _, l, _, _ => by cases n <;> simp [D.shT] at l
  | .dct ks ws, v, u, l, h, r => by
    have hk : ks = [] := by cases n <;> simpa [D.shT] using l
    subst hk
    obtain ⟨a, e, _, hh⟩ := h
    subst e
    cases r
    obtain ⟨es, kv, vv, e1, g1, g2, _, _, _, _, g3, g4⟩ := hh
    have hkv : kv = [] := g3
    subst hkv
    obtain ⟨o, ho, hx, hdt, hm⟩ := (I.hok a _ e1).1
    have hes : es.1 = [] := by
      have := g1.length
      simp at this
      exact List.length_eq_zero_iff.mp this.symm
    refine ⟨_, Reads.dict (kvs := []) ho hx.1 hdt (by rw [hes]; exact ReadsAll.nil) (by rw [hes]; exact ReadsAll.nil), ?_⟩
    intro z
    simp at z
    rw [z] at hm
    simp at hm
  | .ref _, _, _, l, _, _ => by cases n <;> simp [D.shT] at l
  | .fn _, _, _, l, _, _ => by cases n <;> simp [D.shT] at l
  | .tpx _, _, _, l, _, _ => by cases n <;> simp [D.shT] at l
  | .er _ _, _, _, l, _, _ => by cases n <;> simp [D.shT] at l
theorem shTs_reads (xa : XA G X) {pins : List (Addr × Obj)} {s : Shared} {σ : L2.St} {H : Hp} {M ρ : List Addr} (I : Inv X pins σ H s) (n : Nat) : ∀ (ds : List D) (vs : List V) (us : List Value), (∀ d ∈ ds, D.shT n d = true) → DVs G M ρ H ds vs → Vals vs us → ∃ as, ReadsAll s.heap us (D.toPs ds) as ∧ sysModules ∉ as
  | [], vs, us, _, h, r => by
    have h : vs = [] := h
    subst h
    cases r
    exact ⟨_, ReadsAll.nil, by simp⟩
  | d :: ds, vs, us, l, h, r => by
    obtain ⟨v, w, e, h1, h2⟩ := h
    subst e
    cases r with
    | cons r1 r2 =>
      obtain ⟨as, q1, n1⟩ := shT_reads xa I n d v _ (l d List.mem_cons_self) h1 r1
      obtain ⟨bs, q2, n2⟩ := shTs_reads xa I n ds w _ (fun x hx => l x (List.mem_cons_of_mem _ hx)) h2 r2
      exact ⟨_, ReadsAll.cons q1 q2, by simp [n1, n2]⟩
end
theorem shown_sz {d : D} (l : (D.lay DEEP d || D.shT DEEP d) = true) (h : (d.toP.intsShort 13 && decide (d.toP.weight ≤ 2 ^ 20) || d.toP.intsShort 200 && decide (d.toP.weight ≤ 2 ^ 16)) = true) : d.toP.shown.length ≤ sizeLine := by
  have lv : ∀ B, d.toP.intsShort B = true → d.toP.leavesShort B = true := fun B is => by
    rcases (Bool.or_eq_true _ _).mp l with l | l
    · exact PyData.leavesShort_of_canLay0 B d.toP (canLay_of _ d l) is
    · exact shT_leaves B _ d l is
  rw [Bool.or_eq_true, Bool.and_eq_true, Bool.and_eq_true, decide_eq_true_eq, decide_eq_true_eq] at h
  rcases h with ⟨is, w⟩ | ⟨is, w⟩
  · exact PyData.shown_fits (B := 13) (by decide) (by decide) (lv 13 is) w
  · have := PyData.shown_le 200 (by decide) d.toP (lv 200 is)
    rw [sizeLine_eq]
    omega
theorem repr_rule (xa : XA G X) {pins : List (Addr × Obj)} {s : Shared} {σ : L2.St} {H : Hp} {Q : VK} {B ρ : List Addr} {d : D} {p : Addr} (I : Inv X pins σ H s) (h : DB G B ρ H d (.ref p)) (ok : reprOk d = true) (q : Q (.str d.toP.shown) H) :
    wpAny (model X.prog X.w) X.A (call (.builtin "repr") [.ref p]) (EP X pins σ Q) X.xe s := by
  unfold reprOk at ok
  rw [Bool.and_eq_true, Bool.and_eq_true] at ok
  obtain ⟨⟨l, sh⟩, isw⟩ := ok
  have h2 := xa.un
  have h3 : DEEP = 30 := rfl
  have hsz : d.toP.shown.length ≤ sizeLine := shown_sz l isw
  rcases (Bool.or_eq_true _ _).mp l with l | l
  · obtain ⟨as, r⟩ := L2.Dp.reads I d.toP (.ref p) (.ref p) (by rw [xa.K]; exact DB.dp l h) rfl
    have cl := canLay_of _ d l
    have h1 := depth_of _ d l
    exact repr_of_reads' r sh (PyData.noDict_hsm (PyData.hasDict_of_canLay d.toP cl)) xa.gd (by omega) (fun _ _ e => e) (fun h' u tk k => ⟨.str d.toP.shown, H, I.kept k, ⟨u, rfl⟩, q⟩) hsz
  · have h1 := shT_depth _ d l
    obtain ⟨as, r, hn⟩ : ∃ as, Reads s.heap (.ref p) d.toP as ∧ sysModules ∉ as := by
      rcases h with h | ⟨a, e, _, h⟩
      · exact shT_reads xa I _ d _ _ l h rfl
      · cases e
        cases d with
        | lst ds => simp [D.shT] at l
        | dct ks ws =>
          have hk : ks = [] := by simpa [D.shT] using l
          subst hk
          obtain ⟨es, kv, vv, e1, g1, g2, _, _, _, _, g3, g4⟩ := h
          have hkv : kv = [] := g3
          subst hkv
          obtain ⟨o, ho, hx, hdt, hm⟩ := (I.hok _ _ e1).1
          have hes : es.1 = [] := by
            have := g1.length
            simp at this
            exact List.length_eq_zero_iff.mp this.symm
          refine ⟨_, Reads.dict (kvs := []) ho hx.1 hdt (by rw [hes]; exact ReadsAll.nil) (by rw [hes]; exact ReadsAll.nil), ?_⟩
          intro z
          simp at z
          rw [z] at hm
          simp at hm
        | _ => exact h.elim
    exact repr_of_reads' r sh (fun _ => hn) xa.gd (by omega) (fun _ _ e => e) (fun h' u tk k => ⟨.str d.toP.shown, H, I.kept k, ⟨u, rfl⟩, q⟩) hsz
theorem repr_ok (xa : XA G X) : CallR X (.builtin "repr") (rBi G reprEv) := by
  intro pins s σ H vs us Q I r h
  obtain ⟨B, ρ, st, ds, d, rs, hd, hf, fin⟩ := h
  match ds, hf with
  | [.tup ds], hf =>
    simp only [reprEv] at hf
    split at hf
    · rename_i ok
      cases hf
      obtain ⟨v, rfl, h1⟩ := dbs1 hd
      obtain ⟨p, ws, rfl, _⟩ := h1.tup
      obtain ⟨u, rfl, rx⟩ := r.one
      cases rx
      exact repr_rule xa I h1 ok (fin.now rfl)
    · cases hf
  | [.lst ds], hf =>
    simp only [reprEv] at hf
    split at hf
    · rename_i ok
      cases hf
      obtain ⟨v, rfl, h1⟩ := dbs1 hd
      obtain ⟨p, ws, rfl, _⟩ := h1.lst
      obtain ⟨u, rfl, rx⟩ := r.one
      cases rx
      exact repr_rule xa I h1 ok (fin.now rfl)
    · cases hf
  | [.int i], hf =>
    simp only [reprEv] at hf
    split at hf
    · rename_i ok
      cases hf
      obtain ⟨v, rfl, h1⟩ := dbs1 hd
      have e := h1.int
      subst e
      unfold reprOk at ok
      rw [Bool.and_eq_true, Bool.and_eq_true] at ok
      have sh : i.natAbs.log2 < 1920 := by simpa [D.toP, PyData.showable] using ok.1.2
      exact SkE.call_repr_int pins s σ H _ us Q I r ⟨i, rfl, sh, fin.now rfl⟩
    · cases hf
  | [.str x], hf =>
    simp only [reprEv] at hf
    split at hf
    · rename_i ok
      cases hf
      obtain ⟨v, rfl, h1⟩ := dbs1 hd
      have e := h1.str
      subst e
      obtain ⟨u, rfl, rx⟩ := r.one
      obtain ⟨t, rfl⟩ := rx
      unfold reprOk at ok
      rw [Bool.and_eq_true, Bool.and_eq_true] at ok
      exact PySem.P.repr_of_str (show EP X pins σ Q _ _ from ⟨.str (D.str x).toP.shown, H, I.tok _, ⟨_, rfl⟩, fin.now rfl⟩) (shown_sz ok.1.1 ok.2)
    · cases hf
  | [.dct ks ws], hf =>
    simp only [reprEv] at hf
    split at hf
    · rename_i ok
      cases hf
      obtain ⟨v, rfl, h1⟩ := dbs1 hd
      obtain ⟨p, rfl, _⟩ := h1.dct
      obtain ⟨u, rfl, rx⟩ := r.one
      cases rx
      exact repr_rule xa I h1 ok (fin.now rfl)
    · cases hf
  | [.bl b], hf =>
    cases hf
    obtain ⟨v, rfl, h1⟩ := dbs1 hd
    have e := h1.bl
    subst e
    obtain ⟨u, rfl, rx⟩ := r.one
    cases rx
    cases b with
    | true => exact PySem.P.repr_of_bool (show EP X pins σ Q _ _ from ⟨.str (D.bl true).toP.shown, H, I.tok _, ⟨_, rfl⟩, fin.now rfl⟩)
    | false => exact PySem.P.repr_of_bool (show EP X pins σ Q _ _ from ⟨.str (D.bl false).toP.shown, H, I.tok _, ⟨_, rfl⟩, fin.now rfl⟩)
  | [.non], hf =>
    cases hf
    obtain ⟨v, rfl, h1⟩ := dbs1 hd
    have e := h1.non
    subst e
    obtain ⟨u, rfl, rx⟩ := r.one
    cases rx
    exact PySem.P.repr_of_none (show EP X pins σ Q _ _ from ⟨.str (D.non).toP.shown, H, I.tok _, ⟨_, rfl⟩, fin.now rfl⟩)
theorem listd_okF (xa : XA G X) : CallR X (.type "list") (rBiF G ldEv) := by
  intro pins s σ H vs us Q I r h
  obtain ⟨B, ρ, st, ds, d, rs, hd, hf, fin⟩ := h
  match ds, hf with
  | [.tup ds], hf => exact list_okF xa pins s σ H vs us Q I r ⟨B, ρ, st, _, d, rs, hd, hf, fin⟩
  | [.lst ds], hf => exact list_okF xa pins s σ H vs us Q I r ⟨B, ρ, st, _, d, rs, hd, hf, fin⟩
  | [.dct ks ws], hf =>
    cases hf
    obtain ⟨v, rfl, h1⟩ := dbs1 hd
    obtain ⟨p, rfl, hdd⟩ := h1.dct
    obtain ⟨u, rfl, rx⟩ := r.one
    cases rx
    obtain ⟨es, kv, vv, ⟨o, ho, hx, hdt, hm⟩, g1, g2, _, _, hz⟩ := dct_raw xa I hdd
    refine kdl_call (kdl_raw hm hx hdt) (I.ok.hd xa.calm) ho (by simpa using hz) fun h' tk acc c kp e it => ?_
    have ea : acc.toList = es.1.map (·.key) := by
      apply List.ext_getElem?
      intro j
      have hl : acc.toList.length = es.1.length := by rw [Array.length_toList, it.1]; simp
      rw [List.getElem?_map]
      cases hj : acc.toList[j]? with
      | none =>
        have := List.getElem?_eq_none_iff.mp hj
        rw [List.getElem?_eq_none (by omega)]
        rfl
      | some v =>
        obtain ⟨en, hen, hv⟩ := it.2 j v (by rw [← Array.getElem?_toList]; exact hj)
        have : es.1[j]? = some en := by simpa using hen
        rw [this, hv]
        rfl
    have hz2 : kv.length ≤ sizeLine := by rw [Vals.length g2, List.length_map]; exact hz
    have hn := I.hok.fresh (a := s.heap.objs.size) (Nat.le_refl _)
    exact ⟨.ref s.heap.objs.size, upd H s.heap.objs.size (.lst kv), I.laid kp (Nat.le_refl _) (show ObjOk X.prog X.w _ _ _ (.lst kv) from ⟨hz2, acc.toList, c, by rw [ea]; exact g2, by rw [Array.toArray_toList]; exact e⟩), rfl, fin.lst g1 hn⟩
theorem listd_ok (xa : XA G X) : CallR X (.type "list") (rBi G ldEv) := biF_bi (listd_okF xa)
theorem sub_dct {prog : Program} {w : World} {A : Around} {E : Value → Shared → Prop} {s : Shared} {value slice : Expr} {o i : Value} {Q : Value → Shared → Prop} (hT : s.TypeIs o "dict") (hs : subscripted slice false o i = operate [o, i] (getItem o i))
    (h : wpAny (model prog w) A (getItem o i) Q E s) : wpAny (model prog w) A (subscriptTail value slice o i) Q E s := by
  unfold subscriptTail
  refine wpAny_bind ?_
  rw [getitemInPython_of_ne hT.not_modules]
  refine wpAny_bind (wpAny_specialOf hT PySem.F.slot_dict_getitem.lookup ?_)
  have fin : wpAny (model prog w) A (subscripted slice false o i) (fun r s₃ => wpAny (model prog w) A (letTemporaryGo value o r >>= fun _ => pure r) Q E s₃) E s := by
    rw [hs]
    exact wpAny_operating (wpAny_mono h (fun r s₃ h₃ => wpAny_bind (wpAny_letTemporaryGo (wpAny_pure h₃))) fun _ _ x => x)
  first
    | exact wpAny_pure (wpAny_bind fin)
    | exact wpAny_bind (wpAny_pure (wpAny_bind fin))
    | exact wpAny_bind fin
def atE (ds : List D) : D → Option D
  | .int i => atD ds i
  | _ => none
theorem subEv_ref (st : Store) (n : Nat) (e : D) : subEv st (.ref n) e = match st[n]? with
    | some (.lst ds) => atE ds e
    | some (.dct ks vs) => if keysOk (e :: ks) = true then dlook ks vs e else none
    | _ => none := by
  cases e <;> rfl
theorem sub_ok (xa : XA G X) : IxR X (r2S G subEv) := by
  intro value slice pins s σ H x y v u Q I rx ry h hs
  obtain ⟨B, ρ, st, d, e, r, rs, hd, he, hf, fin⟩ := h
  have viaDct : ∀ (ks ws : List D) (p : Addr), x = .ref p → DctAt G (ρ ++ B) ρ H ks ws p → (if keysOk (e :: ks) = true then dlook ks ws e else none) = some r → wpAny (model X.prog X.w) X.A (subscriptTail value slice v u) (EP X pins σ Q) X.xe s := by
    intro ks ws p ex hdd hf
    subst ex
    cases rx
    split at hf
    · rename_i ok
      have hu := xa.un
      exact sub_dct (dct_typeIs I hdd) hs (k_getItem xa (by omega) I hdd ok (key_db ok he) ry hf fun w w' s' I' rw' hw => ⟨w, H, I', rw', fin.now hw⟩)
    · cases hf
  cases d with
  | tup ds =>
    cases e <;> simp only [subEv, reduceCtorEq] at hf
    exact sub_seq xa value slice pins s σ H x y v u Q I rx ry ⟨B, ρ, st, .tup ds, _, r, rs, hd, he, hf, fin⟩ hs
  | lst ds =>
    cases e <;> simp only [subEv, reduceCtorEq] at hf
    exact sub_seq xa value slice pins s σ H x y v u Q I rx ry ⟨B, ρ, st, .lst ds, _, r, rs, hd, he, hf, fin⟩ hs
  | dct ks ws =>
    obtain ⟨p, ex, hdd⟩ := hd.dct
    exact viaDct ks ws p ex hdd hf
  | ref n =>
    rw [subEv_ref] at hf
    split at hf
    · rename_i ds e1
      cases e <;> simp only [atE, reduceCtorEq] at hf
      refine sub_seq xa value slice pins s σ H x y v u Q I rx ry ⟨B, ρ, st, .ref n, _, r, rs, hd, he, ?_, fin⟩ hs
      simp only [subSeq, e1]
      exact hf
    · rename_i ks ws e1
      obtain ⟨a, ea, ex⟩ := hd.ref
      exact viaDct ks ws a ex (rs.cel n _ a e1 ea) hf
    · cases hf
  | _ => simp [subEv] at hf
end
end Dp
set_option Elab.async false
set_option linter.all false
set_option maxRecDepth 100000
set_option maxHeartbeats 4000000
namespace Dp
open PySem PySem.Spec PyProof.Rows L2 PySem.W PySem.SeqAt
section
variable {G : Gx} {X : Cx} {M ρ : List Addr} {H : Hp} {xs : List (NestedKey × Addr × Value)} {ks vs : List D}
theorem pairs_of_D : ∀ {ds : List D} {ps : List (D × D)}, pairsOf ds = some ps → ds = ps.map fun p => .tup [p.1, p.2]
  | [], ps, h => by cases h; rfl
  | d :: ds, ps, h => by
    match d, h with
    | .tup [k, v], h =>
      obtain ⟨qs, e, rfl⟩ := Option.map_eq_some_iff.mp h
      rw [pairs_of_D e]
      rfl
    | .non, h => cases h
    | .bl _, h => cases h
    | .int _, h => cases h
    | .str _, h => cases h
    | .lst _, h => cases h
    | .dct _ _, h => cases h
    | .ref _, h => cases h
    | .tup [], h => cases h
    | .tup [_], h => cases h
    | .tup (_ :: _ :: _ :: _), h => cases h
/-- the pairs in the heap -/
theorem pairs_at (xa : XA G X) {pins : List (Addr × Obj)} {s : Shared} {σ : L2.St} {H : Hp} {B ρ : List Addr} (I : Inv X pins σ H s) : ∀ {ps : List (D × D)} {vs : List V} {us : List Value}, (ps.map (·.1)).all D.tkey = true → DVs G (ρ ++ B) ρ H (ps.map fun p => D.tup [p.1, p.2]) vs → Vals vs us →
    ∃ (Ts : List Addr) (qs : List (NestedKey × Addr × Value)), us = Ts.map Value.ref ∧ Ts.length = ps.length ∧ qs.length = ps.length ∧ Tr G (ρ ++ B) ρ H qs (ps.map (·.1)) (ps.map (·.2)) ∧ (∀ x ∈ qs, (nestedKind X.prog X.w).is s.heap x.1 x.2.1) ∧
      ∀ (j : Nat) T x, Ts[j]? = some T → qs[j]? = some x → PairAt s.heap T (.ref x.2.1) x.2.2
  | [], vs, us, _, h, r => by
    have h : vs = [] := h
    subst h
    cases r
    exact ⟨[], [], rfl, rfl, rfl, .nil, fun _ h => (by simp at h), fun j T x h => by simp at h⟩
  | p :: ps, vs, us, hk, h, r => by
    obtain ⟨v, t, e, h1, h2⟩ := h
    subst e
    simp only [List.map_cons, List.all_cons, Bool.and_eq_true] at hk
    cases r with
    | cons r1 r2 =>
      obtain ⟨Ts, qs, e1, e2, e3, e4, e5, e6⟩ := pairs_at xa I hk.2 h2 r2
      obtain ⟨T, ws, rfl, g1, g2⟩ := h1
      cases r1
      rw [← xa.K] at g1
      obtain ⟨its, rv, ht, _⟩ := I.tuple g1
      obtain ⟨kv, ws1, ew, g3, g4⟩ := g2
      obtain ⟨vv, ws2, ew2, g5, g6⟩ := g4
      have g6 : ws2 = [] := g6
      subst g6 ew2 ew
      obtain ⟨ku, vu, ei, ru, ry⟩ := vals2 rv
      subst ei
      have hk1 := hk.1
      simp only [D.tkey, Bool.and_eq_true] at hk1
      obtain ⟨a, ea⟩ : ∃ a, kv = .ref a := by
        cases hp : p.1 with
        | tup xs =>
          rw [hp] at g3
          obtain ⟨a, _, e, _⟩ := g3
          exact ⟨a, e⟩
        | _ => rw [hp] at hk1; simp [D.isTup] at hk1
      subst ea
      cases ru
      refine ⟨T :: Ts, (p.1.nk, a, vu) :: qs, by rw [e1]; rfl, by simp [e2], by simp [e3], .cons rfl hk.1 g3 ry g5 e4, fun x hx => ?_, fun j T' x hj hx => ?_⟩
      · rcases List.mem_cons.mp hx with rfl | hx
        · refine ⟨nested_of xa I _ _ _ _ hk1.2 g3 rfl, ?_⟩
          have h1 := nk_depth _ _ hk1.2
          have h2 : KDEEP = 7 := rfl
          show p.1.nk.depth ≤ 8
          omega
        · exact e5 x hx
      · cases j with
        | zero =>
          simp only [List.getElem?_cons_zero, Option.some.injEq] at hj hx
          subst hj hx
          obtain ⟨o, q1, q2, m, q3⟩ := ht
          exact .inl ⟨o, q1, q2, m, by simpa using q3⟩
        | succ j =>
          simp only [List.getElem?_cons_succ] at hj hx
          exact e6 j T' x hj hx
/-- the same, the keys ints or texts -/
theorem Ts.puts : ∀ {ps : List (D × D)} {qs ys : List (L2.Key × Value)} {ks vs : List D}, Ts G M ρ H qs (ps.map (·.1)) (ps.map (·.2)) → Ts G M ρ H ys ks vs → Ts G M ρ H (merged ys qs) (dputs ks vs ps).1 (dputs ks vs ps).2
  | [], _, _, _, _, t, y => by
    cases t
    exact y
  | (k, d) :: ps, _, ys, ks, vs, t, y => by
    cases t with
    | @cons x _ _ v xs _ _ h1 h2 h4 h5 t =>
      have := y.put h2 h4 h5
      rw [← h1] at this
      show Ts G M ρ H (merged (stored ys x.1 x.2) xs) _ _
      exact Ts.puts (ps := ps) t this
theorem pairs_atS (xa : XA G X) {pins : List (Addr × Obj)} {s : Shared} {σ : L2.St} {H : Hp} {B ρ : List Addr} (I : Inv X pins σ H s) : ∀ {ps : List (D × D)} {vs : List V} {us : List Value}, (ps.map (·.1)).all D.skey = true → DVs G (ρ ++ B) ρ H (ps.map fun p => D.tup [p.1, p.2]) vs → Vals vs us →
    ∃ (Tr : List Addr) (qs : List ((L2.Key × Value) × Value)), us = Tr.map Value.ref ∧ Tr.length = ps.length ∧ qs.length = ps.length ∧ Ts G (ρ ++ B) ρ H (qs.map (·.1)) (ps.map (·.1)) (ps.map (·.2)) ∧ (∀ x ∈ qs, (mixKind X.prog X.w).is x.1.1 x.2 = true) ∧
      ∀ (j : Nat) T x, Tr[j]? = some T → qs[j]? = some x → PairAt s.heap T x.2 x.1.2
  | [], vs, us, _, h, r => by
    have h : vs = [] := h
    subst h
    cases r
    exact ⟨[], [], rfl, rfl, rfl, .nil, fun _ h => (by simp at h), fun j T x h => by simp at h⟩
  | p :: ps, vs, us, hk, h, r => by
    obtain ⟨v, t, e, h1, h2⟩ := h
    subst e
    simp only [List.map_cons, List.all_cons, Bool.and_eq_true] at hk
    cases r with
    | cons r1 r2 =>
      obtain ⟨Ts', qs, e1, e2, e3, e4, e5, e6⟩ := pairs_atS xa I hk.2 h2 r2
      obtain ⟨T, ws, rfl, g1, g2⟩ := h1
      cases r1
      rw [← xa.K] at g1
      obtain ⟨its, rv, ht, _⟩ := I.tuple g1
      obtain ⟨kv, ws1, ew, g3, g4⟩ := g2
      obtain ⟨vv, ws2, ew2, g5, g6⟩ := g4
      have g6 : ws2 = [] := g6
      subst g6 ew2 ew
      obtain ⟨ku, vu, ei, ru, ry⟩ := vals2 rv
      subst ei
      refine ⟨T :: Ts', ((p.1.dkey, vu), ku) :: qs, by rw [e1]; rfl, by simp [e2], by simp [e3], .cons rfl hk.1 ry g5 e4, fun x hx => ?_, fun j T' x hj hx => ?_⟩
      · rcases List.mem_cons.mp hx with rfl | hx
        · exact skey_rel X hk.1 g3 ru
        · exact e5 x hx
      · cases j with
        | zero =>
          simp only [List.getElem?_cons_zero, Option.some.injEq] at hj hx
          subst hj hx
          obtain ⟨o, q1, q2, m, q3⟩ := ht
          exact .inl ⟨o, q1, q2, m, by simpa using q3⟩
        | succ j =>
          simp only [List.getElem?_cons_succ] at hj hx
          exact e6 j T' x hj hx
theorem dict_okF (xa : XA G X) : CallR X (.type "dict") (rBiF G dictEv) := by
  intro pins s σ H vs us Q I r h
  obtain ⟨B, ρ, st, ds, d, rs, hd, hf, fin⟩ := h
  match ds, hf with
  | [.lst ds], hf =>
    obtain ⟨ps, e1, hf⟩ := Option.bind_eq_some_iff.mp hf
    split at hf
    · rename_i ok
      cases hf
      obtain ⟨p, ws, rfl, h2, h3⟩ := one_lst hd
      obtain ⟨u, rfl, rx⟩ := r.one
      cases rx
      obtain ⟨hz, its, n, rv, _, g1⟩ := rdLst I h2
      rw [pairs_of_D e1] at h3
      have hn := I.hok.fresh (a := s.heap.objs.size) (Nat.le_refl _)
      rcases (Bool.or_eq_true _ _).mp ok with ok | ok
      · obtain ⟨Tn, qs, ei, l1, l2, t, kis, pa⟩ := pairs_atS xa I ok h3 rv
        subst ei
        refine call_dict_pairs (knd := mixKind X.prog X.w) (kvs := qs.map (·.1)) (PairArg.list p (Tn.map Value.ref).toArray (fun j => Tn.getD j 0) (qs.map fun x => (x.2, x.1.2))) (I.ok.hd xa.calm) ⟨⟨_, n, g1, rfl, rfl, rfl⟩, ?_, ?_⟩ ⟨?_, ?_⟩ ?_ ?_
        · simp [l1, l2]
        · intro j k v hj
          rw [List.getElem?_map, Option.map_eq_some_iff] at hj
          obtain ⟨x, hx, ex⟩ := hj
          cases ex
          have hlt : j < Tn.length := by rw [l1, ← l2]; exact (List.getElem?_eq_some_iff.mp hx).1
          have hT : Tn[j]? = some Tn[j] := by simp [hlt]
          have hD : Tn.getD j 0 = Tn[j] := by simp [List.getD_eq_getElem?_getD, hT]
          show _ = some (Value.ref (Tn.getD j 0)) ∧ PairAt s.heap (Tn.getD j 0) _ _
          rw [hD]
          exact ⟨by simp [hT], pa j _ x hT hx⟩
        · simp
        · intro i key v hi
          have hi : (qs.map fun x => (x.2, x.1.2))[i]? = some (key, v) := hi
          rw [List.getElem?_map, Option.map_eq_some_iff] at hi
          obtain ⟨x, hx, ex⟩ := hi
          cases ex
          exact ⟨x.1.1, by rw [List.getElem?_map, hx]; rfl, kis x (List.mem_of_getElem? hx)⟩
        · rw [List.length_map, l2, ← l1]
          rw [Vals.length rv, List.length_map] at hz
          exact hz
        · intro h' tk hd' hk
          have tt := Ts.puts (ys := []) (ks := []) (vs := []) t .nil
          have hm : (s.heap.objs.size == sysModules) = false := beq_eq_false_iff_ne.mpr (Nat.ne_of_gt I.big)
          have hl : (dputs [] [] ps).1.length ≤ LIM := by
            have a1 := merged_length ([] : List (L2.Key × Value)) (qs.map (·.1))
            rw [tt.keys.2.2.1, List.length_map] at a1
            rw [lim_line]
            rw [Vals.length rv, List.length_map, l1, ← l2] at hz
            simp at a1
            omega
          obtain ⟨es, raw, kv, vv, j1, j2, j3, j4, j5, j6, j7, j8⟩ := dct_raw_mkS (prog := X.prog) tt (by rw [← xa.w]; exact hd') hm hl
          have he : ∃ q, h'.get? s.heap.objs.size = some q := let ⟨q, hq, _⟩ := raw; ⟨q, hq⟩
          refine ⟨.ref s.heap.objs.size, upd H s.heap.objs.size (.ext (rawD s.heap.objs.size es)), I.laid (fun b u e => hk b u (fun z => nomatch z) e) (Nat.le_refl _) (show ObjOk X.prog X.w _ _ _ (.ext _) from ⟨raw, he, ?_⟩), rfl, ?_⟩
          · rintro h1 h2 ⟨o', w1, w2, w3, w4⟩ k
            exact ⟨o', k o' w1, w2, w3, w4⟩
          · exact fin _ _ hn ⟨es, kv, vv, rfl, j1, j2, j3, j4, j5, j6, j7, j8⟩
      obtain ⟨Ts, qs, ei, l1, l2, t, kis, pa⟩ := pairs_at xa I ok h3 rv
      subst ei
      refine call_dict_pairsH (knd := nestedKind X.prog X.w) (ps := qs) (PairArg.list p (Ts.map Value.ref).toArray (fun j => Ts.getD j 0) (qs.map fun x => (Value.ref x.2.1, x.2.2))) (I.ok.hd xa.calm) ?_ ⟨⟨_, n, g1, rfl, rfl, rfl⟩, ?_, ?_⟩ ⟨?_, ?_⟩ ?_ ?_ ?_
      · have := xa.un
        show X.A.units + 1 + 1 + 8 < cLine
        omega
      · simp [l1, l2]
      · intro j k v hj
        rw [List.getElem?_map, Option.map_eq_some_iff] at hj
        obtain ⟨x, hx, ex⟩ := hj
        cases ex
        have hlt : j < Ts.length := by rw [l1, ← l2]; exact (List.getElem?_eq_some_iff.mp hx).1
        have hT : Ts[j]? = some Ts[j] := by simp [hlt]
        have hD : Ts.getD j 0 = Ts[j] := by simp [List.getD_eq_getElem?_getD, hT]
        show _ = some (Value.ref (Ts.getD j 0)) ∧ PairAt s.heap (Ts.getD j 0) _ _
        rw [hD]
        exact ⟨by simp [hT], pa j _ x hT hx⟩
      · simp
      · intro i key v hi
        have hi : (qs.map fun x => (Value.ref x.2.1, x.2.2))[i]? = some (key, v) := hi
        rw [List.getElem?_map, Option.map_eq_some_iff] at hi
        obtain ⟨x, hx, ex⟩ := hi
        cases ex
        exact ⟨x.1, x.2.1, hx, rfl⟩
      · intro h' hk x hx
        exact (nestedKind_stays (prog := X.prog) (w := X.w)).stays (fun b o vs m e _ => hk b o (Nat.ne_of_lt (Heap.lt_size e)) (fun z => nomatch z) e) (kis x hx)
      · rw [List.length_map, l2, ← l1]
        rw [Vals.length rv, List.length_map] at hz
        exact hz
      · intro h' tk hd' hk
        obtain ⟨o, es, ep, q1, q2, q3, q4, q5, q6⟩ := hd'
        have tt := Tr.puts (ys := []) (ks := []) (vs := []) t .nil
        obtain ⟨k1, k2, k3, vv, k4, k5⟩ := tt.keys
        have hm : (s.heap.objs.size == sysModules) = false := beq_eq_false_iff_ne.mpr (Nat.ne_of_gt I.big)
        have raw : rawD s.heap.objs.size (es.toList, ep) h' := ⟨o, q1, q2, by simpa using q3, hm⟩
        have hlen : es.toList.length ≤ LIM := by
          have a1 := storedAllH_length qs []
          rw [q4, List.length_map, lim_line]
          rw [Vals.length rv, List.length_map, l1, ← l2] at hz
          simp at a1
          omega
        refine ⟨.ref s.heap.objs.size, upd H s.heap.objs.size (.ext (rawD s.heap.objs.size (es.toList, ep))), I.laid (fun b u e => hk b u (fun z => nomatch z) e) (Nat.le_refl _) (show ObjOk X.prog X.w _ _ _ (.ext _) from ⟨raw, ⟨o, q1⟩, ?_⟩), rfl, ?_⟩
        · rintro h1 h2 ⟨o', w1, w2, w3, w4⟩ k
          exact ⟨o', k o' w1, w2, w3, w4⟩
        · refine fin _ _ hn ⟨(es.toList, ep), _, vv, rfl, ?_, ?_, ?_, ?_, ?_, hlen, k1, k5⟩
          · show Vals _ (es.toList.map (·.key))
            rw [q4, List.map_map]
            have : ((fun x : DictEntry => x.key) ∘ entryOfKey (nestedKind X.prog X.w)) = fun x => Value.ref x.2.1 := rfl
            rw [this]
            have hv : ∀ l : List (NestedKey × Addr × Value), Vals (l.map fun x => V.ref x.2.1) (l.map fun x => Value.ref x.2.1) := by
              intro l
              induction l with
              | nil => exact .nil
              | cons a l ih => exact .cons rfl ih
            exact hv _
          · show Vals _ (es.toList.map (·.val))
            rw [q4, List.map_map]
            exact k4
          · show es.toList.map (·.hash) = _
            rw [q4, List.map_map, ← xa.w]
            have e2 : ((fun x : DictEntry => x.hash) ∘ entryOfKey (nestedKind X.prog X.w)) = fun x => x.1.hash X.w := rfl
            rw [e2]
            have := congrArg (List.map (fun k => k.hash X.w)) k3
            rw [List.map_map, List.map_map] at this
            exact this
          · unfold keysOk
            rw [k2, Bool.or_true]
          · rw [← k3]
            exact q6
    · cases hf
theorem dict_ok (xa : XA G X) : CallR X (.type "dict") (rBi G dictEv) := biF_bi (dict_okF xa)
end
end Dp
set_option Elab.async false
set_option linter.all false
set_option maxRecDepth 100000
set_option maxHeartbeats 4000000
namespace Dp
open PySem PySem.Spec PyProof.Rows L2 PySem.W PySem.SeqAt
/-- a tuple (t) or a list at a -/
def SqB (t : Bool) (K : PySem.W.Frag) (H : Hp) (a : Addr) (xs : List V) : Prop := if t then SqT K H a xs else SqL K H a xs
def ItB (t : Bool) (h : Heap) (it l : Addr) (i : Nat) : Prop := if t then h.IsTupleIter it l i else h.IsListIter it l i
def AtB (t : Bool) (h : Heap) (l : Addr) (its : Array Value) : Prop := if t then h.IsTuple l its else h.IsList l its
theorem ItB.obj {t : Bool} {h : Heap} {it l : Addr} {i : Nat} (p : ItB t h it l i) : ∃ (o : Obj) (vs : Array Value), h.get? it = some o ∧ o.data = .fields vs := by
  cases t
  · obtain ⟨o, e, _, d⟩ := (show h.IsListIter it l i from p)
    exact ⟨o, _, e, d⟩
  · obtain ⟨o, e, _, d⟩ := (show h.IsTupleIter it l i from p)
    exact ⟨o, _, e, d⟩
theorem ItB.keep {t : Bool} {h h2 : Heap} {it l : Addr} {i : Nat} (p : ItB t h it l i) (k : ∀ o, h.get? it = some o → h2.get? it = some o) : ItB t h2 it l i := by
  cases t
  · exact (show h.IsListIter it l i from p).at k
  · exact (show h.IsTupleIter it l i from p).at k
theorem SqB.inj {X : Cx} {pins : List (Addr × Obj)} {σ : L2.St} {H : Hp} {s : Shared} {t : Bool} {a : Addr} {xs ys : List V} (I : Inv X pins σ H s) (p : SqB t X.K H a xs) (q : SqB t X.K H a ys) : xs = ys := by
  cases t
  · exact I.list_inj p q
  · exact I.tuple_inj p q
theorem SqB.at {X : Cx} {pins : List (Addr × Obj)} {σ : L2.St} {H : Hp} {s : Shared} {t : Bool} {a : Addr} {xs : List V} (I : Inv X pins σ H s) (p : SqB t X.K H a xs) : ∃ its : List Value, Vals xs its ∧ AtB t s.heap a its.toArray := by
  cases t
  · obtain ⟨its, r, q, _⟩ := I.list p
    exact ⟨its, r, q.isList⟩
  · obtain ⟨its, r, q, _⟩ := I.tuple p
    exact ⟨its, r, q⟩
theorem AtB.lt {t : Bool} {h : Heap} {l : Addr} {its : Array Value} (p : AtB t h l its) : l < h.objs.size := by
  cases t
  · obtain ⟨o, e, _⟩ := (show h.IsList l its from p)
    exact Heap.lt_size e
  · obtain ⟨o, e, _⟩ := (show h.IsTuple l its from p)
    exact Heap.lt_size e
/-- what is drawn from the place off on -/
theorem draws_from {prog : Program} {w : World} {A : Around} (hh : A.handled = none) (t : Bool) (it l : Addr) (ne : l ≠ it) (its : Array Value) (off : Nat) :
    Draws prog w A it [it, l] (its.size - off) (fun j v => its[off + j]? = some v) (fun j h => ItB t h it l (off + j) ∧ AtB t h l its) := by
  cases t
  · refine ⟨fun j h p => ?_, fun j h h2 p k => ⟨p.1.keep fun o e => k it (by simp) o e, ?_⟩, fun j s Q E hj p hQ => ?_, fun s Q E p hE => ?_⟩
    · obtain ⟨o, _, e, _⟩ := p.1.obj
      exact ⟨o, e⟩
    · exact (show h.IsList l its from p.2).at fun o e => k l (by simp) o e
    · have hb : off + j < its.size := by omega
      have hx : its[off + j]? = some its[off + j] := by simp [hb]
      exact wpAny_nextOf_list_item p.1 p.2 hx fun h2 q sb => hQ _ h2 s.toks hx ⟨q, (show s.heap.IsList l its from p.2).extBut sb.extBut ne⟩ sb
    · exact wpAny_nextOf_list_end hh p.1 p.2 (by simp; omega) hE
  · refine ⟨fun j h p => ?_, fun j h h2 p k => ⟨p.1.keep fun o e => k it (by simp) o e, ?_⟩, fun j s Q E hj p hQ => ?_, fun s Q E p hE => ?_⟩
    · obtain ⟨o, _, e, _⟩ := p.1.obj
      exact ⟨o, e⟩
    · exact (show h.IsTuple l its from p.2).at fun o e => k l (by simp) o e
    · have hb : off + j < its.size := by omega
      have hx : its[off + j]? = some its[off + j] := by simp [hb]
      exact wpAny_nextOf_tuple_item p.1 p.2 hx fun h2 q sb => hQ _ h2 s.toks hx ⟨q, (show s.heap.IsTuple l its from p.2).extBut sb.extBut ne⟩ sb
    · exact wpAny_nextOf_tuple_end hh p.1 p.2 (by simp; omega) hE
theorem five {c z TI TO i1 i2 : Addr} (h : c ∈ [z, TI, TO, i1, i2]) : c = z ∨ c = TI ∨ c = TO ∨ c = i1 ∨ c = i2 := by simpa using h
def obB (t : Bool) (l : Addr) : Obj := if t then { cls := .type "tuple_iterator", data := .fields #[.ref l, .int 0 0] } else { cls := .type "list_iterator", data := .fields #[.ref l, .int 0 0] }
theorem begins_B (t : Bool) (l : Addr) (its : Array Value) : Begins (.ref l) (obB t l) fun h => AtB t h l its := by
  cases t
  · exact begins_list l its
  · exact begins_tuple l its
theorem it_new {t : Bool} {h : Heap} {it l : Addr} (e : h.get? it = some (obB t l)) : ItB t h it l 0 := by
  cases t
  · exact ⟨_, e, rfl, rfl⟩
  · exact ⟨_, e, rfl, rfl⟩
end Dp
set_option Elab.async false
set_option linter.all false
set_option maxRecDepth 100000
set_option maxHeartbeats 4000000
namespace Dp
open PySem PySem.Spec PyProof.Rows L2 PySem.W PySem.SeqAt
section
variable {prog : Program} {w : World} {A : Around} {E : Value → Shared → Prop} {s : Shared} {z TI TO i1 i2 T : Addr} {f : Bool} {oT : Obj} {fp1 fp2 : List Addr} {n1 n2 i : Nat} {P1 P2 : Nat → Value → Prop} {St1 St2 : Nat → Heap → Prop}
/-- what a zip knows of its last tuple -/
def ZMid (z TI TO i1 i2 : Addr) (av : List Addr) (h : Heap) : Prop := (IsZip h z TI TO .none ∧ ∃ a b, IsTupOf2 h TO a b) ∨ ∃ T f oT, IsZipHeld h z TI TO T f ∧ h.get? T = some oT ∧ T ≠ z ∧ T ≠ i1 ∧ T ≠ i2 ∧ T ∉ av
theorem ZMid.ty {av : List Addr} {h : Heap} (m : ZMid z TI TO i1 i2 av h) : ∃ o, h.get? z = some o ∧ o.cls = .type "zip" := by
  rcases m with ⟨m, _⟩ | ⟨T, f, oT, m, _⟩
  · exact ⟨_, m, rfl⟩
  · exact ⟨_, m, rfl⟩
theorem ZMid.keep {av : List Addr} {h h2 : Heap} (m : ZMid z TI TO i1 i2 av h) (k : ∀ c o, c ∉ av → h.get? c = some o → h2.get? c = some o) (nz : z ∉ av) (nT : TO ∉ av) : ZMid z TI TO i1 i2 av h2 := by
  rcases m with ⟨m, a, b, m2⟩ | ⟨T, f, oT, m, m2, n1, n2, n3, n4⟩
  · exact .inl ⟨k _ _ nz m, a, b, k _ _ nT m2⟩
  · exact .inr ⟨T, f, oT, k _ _ nz m, k _ _ n4 m2, n1, n2, n3, n4⟩
end
end Dp
set_option Elab.async false
set_option linter.all false
set_option maxRecDepth 100000
set_option maxHeartbeats 4000000
namespace Dp
open PySem PySem.Calls PySem.Spec PyProof.Rows L2 PySem.W PySem.SeqAt
/-- pairs, new -/
structure ZlG (P1 P2 : Nat → Value → Prop) (lo : Nat) (h : Heap) (as : List Addr) : Prop where
  up : as.Pairwise (· < ·)
  ab : ∀ a ∈ as, lo ≤ a
  pr : ∀ (j : Nat) (a : Addr), as[j]? = some a → ∃ x y, P1 j x ∧ P2 j y ∧ IsTupOf2 h a x y
section
variable {prog : Program} {w : World} {A : Around} {E : Value → Shared → Prop} {s : Shared} {z TI TO i1 i2 S : Addr} {fp1 fp2 : List Addr} {n1 n2 : Nat} {P1 P2 : Nat → Value → Prop} {St1 St2 : Nat → Heap → Prop}
theorem ZlG.nil {lo : Nat} {h : Heap} : ZlG P1 P2 lo h [] := ⟨List.Pairwise.nil, (fun _ q => by cases q), (fun j a q => by simp at q)⟩
theorem far {b c : Addr} {lo : Nat} (l1 : c < lo) (l2 : lo ≤ b) : b ≠ c := fun e => Nat.lt_irrefl _ (Nat.lt_of_lt_of_le l1 (by rw [← e]; exact l2))
theorem ZlG.lt {lo : Nat} {h : Heap} {as : List Addr} (g : ZlG P1 P2 lo h as) {a : Addr} (q : a ∈ as) : a < h.objs.size := by
  obtain ⟨j, q2⟩ := List.mem_iff_getElem?.mp q
  obtain ⟨x, y, _, _, e⟩ := g.pr j a q2
  exact Heap.lt_size e
theorem ZlG.more {lo : Nat} {h h2 : Heap} {as : List Addr} {x y : Value} (g : ZlG P1 P2 lo h as) (k : ∀ b o, lo ≤ b → h.get? b = some o → h2.get? b = some o) (l : lo ≤ h.objs.size) (e1 : P1 as.length x) (e2 : P2 as.length y) (e3 : IsTupOf2 h2 h.objs.size x y) : ZlG P1 P2 lo h2 (as ++ [h.objs.size]) := by
  refine ⟨List.pairwise_append.mpr ⟨g.up, List.pairwise_singleton _ _, fun a q b q2 => ?_⟩, fun a q => ?_, fun j b q => ?_⟩
  · rw [List.mem_singleton.mp q2]; exact g.lt q
  · rcases List.mem_append.mp q with q | q
    · exact g.ab a q
    · rw [List.mem_singleton.mp q]; exact l
  · by_cases c : j < as.length
    · rw [List.getElem?_append_left c] at q
      obtain ⟨u, v, p1, p2, p3⟩ := g.pr j b q
      exact ⟨u, v, p1, p2, k b _ (g.ab b (List.mem_of_getElem? q)) p3⟩
    · have : j = as.length := by
        have := (List.getElem?_eq_some_iff.mp q).1
        rw [List.length_append, List.length_singleton] at this
        omega
      subst this
      rw [List.getElem?_append_right (Nat.le_refl _), Nat.sub_self] at q
      cases q
      exact ⟨x, y, e1, e2, e3⟩
theorem ZlG.keep {lo : Nat} {h h2 : Heap} {as : List Addr} (g : ZlG P1 P2 lo h as) (k : ∀ b o, lo ≤ b → h.get? b = some o → h2.get? b = some o) : ZlG P1 P2 lo h2 as :=
  ⟨g.up, g.ab, fun j b q => let ⟨u, v, p1, p2, p3⟩ := g.pr j b q; ⟨u, v, p1, p2, k b _ (g.ab b (List.mem_of_getElem? q)) p3⟩⟩
end
end Dp
set_option Elab.async false
set_option linter.all false
set_option maxRecDepth 100000
set_option maxHeartbeats 4000000
namespace Dp
open PySem PySem.Spec PyProof.Rows L2 PySem.W PySem.SeqAt
/-- r without the guard ahead of it -/
class Bare {α : Type} (r : Res α) (r' : outParam (Res α)) : Prop where
  ok : ∀ {a : α} {st : Store}, r = .ok a st → r' = .ok a st
instance (priority := low) Bare.self {α : Type} (r : Res α) : Bare r r := ⟨id⟩
instance Bare.gx {α : Type} (b : Bool) (r : Res α) : Bare (gx b r) r := ⟨gx_ok⟩
theorem Res.bind_eq {α β : Type} {r r' : Res α} {f : α → Store → Res β} {b : β} {st' : Store} [w : Bare r r'] (h : r.bind f = .ok b st') : ∃ a st1, r' = .ok a st1 ∧ f a st1 = .ok b st' := by
  cases r with
  | ok a st => exact ⟨a, st, w.ok rfl, h⟩
  | exc _ _ _ => cases h
  | stuck => cases h
theorem gx_okr {α : Type} {b : Bool} {a : α} {st : Store} : gx b (.ok a st) = .ok a st := by
  cases b <;> rfl
theorem ofOpt_eq {α : Type} {o : Option α} {st st' : Store} {a : α} (h : ofOpt o st = .ok a st') : o = some a ∧ st' = st := by
  cases o with
  | none => cases h
  | some b => cases h; exact ⟨rfl, rfl⟩
section
variable {G : Gx} {X : Cx}
/-- what a value means -/
abbrev Rel := List Addr → List Addr → Hp → D → V → Prop
def relS (G : Gx) : Rel := fun B ρ H d v => DV G (ρ ++ B) ρ H d v
def relW (G : Gx) : Rel := fun B ρ H d v => DB G B ρ H d v
/-- an expression's reading -/
def tE (G : Gx) (rel : Rel) (f : Env → Store → Res D) : TE := fun σ H Q => ∃ B env st ρ d st', RS (G := G) B st ρ H ∧ RE (G := G) B env ρ σ H ∧ f env st = .ok d st' ∧ ∀ v ρ' H', Stp ρ H ρ' H' → RS (G := G) B st' ρ' H' → rel B ρ' H' d v → Q v H'
def tT (G : Gx) (f : Env → Store → Res Bool) : TT := fun σ H Q => ∃ B env st ρ d st', RS (G := G) B st ρ H ∧ RE (G := G) B env ρ σ H ∧ f env st = .ok d st' ∧ ∀ ρ' H', Stp ρ H ρ' H' → RS (G := G) B st' ρ' H' → Q d H'
def relsS (G : Gx) : List Addr → List Addr → Hp → List D → List V → Prop := fun B ρ H ds vs => DVs G (ρ ++ B) ρ H ds vs
def relsW (G : Gx) : List Addr → List Addr → Hp → List D → List V → Prop := fun B ρ H ds vs => DBs G B ρ H ds vs
def tAs (G : Gx) (rel : List Addr → List Addr → Hp → List D → List V → Prop) (f : Env → Store → Res (List D)) : TA := fun σ H Q => ∃ B env st ρ d st', RS (G := G) B st ρ H ∧ RE (G := G) B env ρ σ H ∧ f env st = .ok d st' ∧ ∀ v ρ' H', Stp ρ H ρ' H' → RS (G := G) B st' ρ' H' → rel B ρ' H' d v → Q v H'
theorem PE_imp {x : Expr} {t t' : TE} (h : PE X x t) (k : ∀ σ H Q, t' σ H Q → t σ H Q) : PE X x t' := ⟨fun pins s σ H Q I q => h.run pins s σ H Q I (k _ _ _ q)⟩
theorem PT_imp {x : Expr} {t t' : TT} (h : PT X x t) (k : ∀ σ H Q, t' σ H Q → t σ H Q) : PT X x t' := ⟨fun pins s σ H Q I q => h.run pins s σ H Q I (k _ _ _ q)⟩
theorem PA_imp {x : List Expr} {t t' : TA} (h : PA X x t) (k : ∀ σ H Q, t' σ H Q → t σ H Q) : PA X x t' := ⟨fun pos pins s σ H Q I q => h.run pos pins s σ H Q I (k _ _ _ q)⟩
theorem PI_imp {x tg : Expr} {t t' : TI} (h : PI X tg x t) (k : ∀ σ H Q, t' σ H Q → t σ H Q) : PI X tg x t' := ⟨fun pins s σ H Q I q => h.run pins s σ H Q I (k _ _ _ q)⟩
theorem PE_weak {x : Expr} {f : Env → Store → Res D} (h : PE X x (tE G (relS G) f)) : PE X x (tE G (relW G) f) :=
  PE_imp h fun σ H Q ⟨B, env, st, ρ, d, st', rs, re, e, k⟩ => ⟨B, env, st, ρ, d, st', rs, re, e, fun v ρ' H' s r q => k v ρ' H' s r (.inl q)⟩
theorem DBs.stp {B ρ ρ' : List Addr} {H H' : Hp} (mk : Mk (ρ ++ B) H) (off : ∀ b ∈ B, b ∉ ρ) (s : Stp ρ H ρ' H') : ∀ {ds : List D} {vs : List V}, DBs G B ρ H ds vs → DBs G B ρ' H' ds vs
  | [], _, h => h
  | d :: ds, vs, h => by
    obtain ⟨v, r, e, h1, h2⟩ := h
    exact ⟨v, r, e, h1.stp mk off s, DBs.stp mk off s h2⟩
/-- J gives the things xs, while all but P stays -/
def Walk (G : Gx) (P M ρ : List Addr) (H : Hp) (J : L2.It) (xs : List D) : Prop :=
  ∀ (M' ρ' : List Addr) (H' : Hp), (∀ a o, H a = some o → a ∉ P → H' a = some o) → (∀ a o, H a = some o → a ∉ M → a ∉ M') → (∀ (n : Nat) a, ρ[n]? = some a → ρ'[n]? = some a) → Mk M' H' →
    (∀ i d, xs[i]? = some d → J.go i H' ∧ ∀ v H'', J.yld i H' v H'' → Sm H' H'' ∧ DV G M' ρ' H'' d v) ∧ ∀ i, xs.length ≤ i → J.stop i H'
def tI (G : Gx) (strong : Bool) (f : Env → Store → Res (List D)) : TI := fun σ H R => ∃ B env st ρ d st', RS (G := G) B st ρ H ∧ RE (G := G) B env ρ σ H ∧ f env st = .ok d st' ∧
  ∀ J ρ' H', Stp ρ H ρ' H' → RS (G := G) B st' ρ' H' → Walk G (if strong then ρ' ++ B else ρ') (ρ' ++ B) ρ' H' J d → R J H'
/-- items that stay -/
theorem dvs_stay {P M ρ M' ρ' : List Addr} {H H' : Hp} {ds : List D} {vs : List V} (mk : Mk M H) (hPM : ∀ a ∈ P, a ∈ M) (h : DVs G M ρ H ds vs) (hp : ∀ a o, H a = some o → a ∉ P → H' a = some o) (hm : ∀ a o, H a = some o → a ∉ M → a ∉ M')
    (hr : ∀ (n : Nat) a, ρ[n]? = some a → ρ'[n]? = some a) : DVs G M' ρ' H' ds vs := DVs.keep mk (fun a o e n => hp a o e fun q => n (hPM a q)) hm hr ds vs h
theorem sqT_stay {P M : List Addr} {H H' : Hp} {a : Addr} {vs : List V} (mk : Mk M H) (hPM : ∀ a ∈ P, a ∈ M) (hp : ∀ a o, H a = some o → a ∉ P → H' a = some o) (h : SqT G.K H a vs) : SqT G.K H' a vs := by
  rcases h with h | h
  · exact .inl (rd_keep h fun o e => hp a o e fun q => not_mt_tup mk h (hPM a q))
  · exact .inr h
theorem walk_rng (lo : Int) (n : Nat) {P M ρ : List Addr} {H : Hp} : Walk G P M ρ H (Itr lo n) (rngFrom lo n) := by
  have key : ∀ (n : Nat) (lo : Int) (i : Nat), (rngFrom lo n)[i]? = if i < n then some (.int (lo + i)) else none := by
    intro n
    induction n with
    | zero => intro lo i; simp [rngFrom]
    | succ n ih =>
      intro lo i
      cases i with
      | zero => simp [rngFrom]
      | succ i =>
        simp only [rngFrom, List.getElem?_cons_succ, ih]
        by_cases h : i < n
        · rw [if_pos h, if_pos (by omega)]
          congr 2
          omega
        · rw [if_neg h, if_neg (by omega)]
  have len : ∀ (n : Nat) (lo : Int), (rngFrom lo n).length = n := by
    intro n
    induction n with
    | zero => intro lo; rfl
    | succ n ih => intro lo; simp [rngFrom, ih]
  intro M' ρ' H' _ _ _ _
  refine ⟨fun i d e => ?_, fun i hi => ?_⟩
  · rw [key] at e
    by_cases h : i < n
    · rw [if_pos h] at e
      cases e
      refine ⟨h, fun v H'' y => ?_⟩
      obtain ⟨rfl, rfl⟩ := y
      exact ⟨Sm.refl _, rfl⟩
    · rw [if_neg h] at e; cases e
  · rw [len] at hi
    exact hi
theorem get_of_len {α : Type} {l : List α} {i : Nat} {a : α} (h : l[i]? = some a) : i < l.length := (List.getElem?_eq_some_iff.mp h).1
theorem walk_tup {P M ρ : List Addr} {H : Hp} {a : Addr} {ds : List D} {vs : List V} (mk : Mk M H) (hPM : ∀ a ∈ P, a ∈ M) (h : SqT G.K H a vs) (hd : DVs G M ρ H ds vs) : Walk G P M ρ H (Itt G.K a) ds := by
  intro M' ρ' H' hp hm hr mk'
  have h' := sqT_stay mk hPM hp h
  have hd' := dvs_stay mk hPM hd hp hm hr
  refine ⟨fun i d e => ?_, fun i hi => ⟨vs, h', by rw [hd.length]; exact hi⟩⟩
  obtain ⟨v, e1, e2⟩ := hd'.get e
  refine ⟨⟨vs, v, h', e1⟩, fun u H'' y => ?_⟩
  obtain ⟨rfl, y⟩ := y
  have := y vs h'
  rw [e1] at this
  cases this
  exact ⟨Sm.refl _, e2⟩
theorem walk_lst {P M ρ : List Addr} {H : Hp} {a : Addr} {ds : List D} {vs : List V} (mk : Mk M H) (hPM : ∀ a ∈ P, a ∈ M) (h : Rd H a (.lst vs)) (ha : a ∉ P) (hd : DVs G M ρ H ds vs) : Walk G P M ρ H (Itl G.K a) ds := by
  intro M' ρ' H' hp hm hr mk'
  have h' : SqL G.K H' a vs := .inl (rd_keep h fun o e => hp a o e ha)
  have hd' := dvs_stay mk hPM hd hp hm hr
  refine ⟨fun i d e => ?_, fun i hi => ⟨vs, h', by rw [hd.length]; exact hi⟩⟩
  obtain ⟨v, e1, e2⟩ := hd'.get e
  refine ⟨⟨vs, v, h', e1⟩, fun u H'' y => ?_⟩
  obtain ⟨rfl, y⟩ := y
  have := y vs h'
  rw [e1] at this
  cases this
  exact ⟨Sm.refl _, e2⟩
theorem enum_get : ∀ (ds : List D) (n : Int) (i : Nat), (enumFrom n ds)[i]? = (ds[i]?).map fun d => .tup [.int (n + i), d]
  | [], n, i => by simp [enumFrom]
  | d :: ds, n, 0 => by simp [enumFrom]
  | d :: ds, n, i + 1 => by
    simp only [enumFrom, List.getElem?_cons_succ, enum_get ds (n + 1) i]
    congr 1
    funext x
    congr 3
    omega
theorem enum_len : ∀ (ds : List D) (n : Int), (enumFrom n ds).length = ds.length
  | [], _ => rfl
  | d :: ds, n => by simp [enumFrom, enum_len ds]
/-- a pair newly laid -/
theorem pair_new {M ρ : List Addr} {H : Hp} {T : Addr} {x y : D} {v u : V} (mk : Mk M H) (hT : H T = none) (hx : DV G M ρ H x v) (hy : DV G M ρ H y u) : DV G M ρ (upd H T (.tup [v, u])) (.tup [x, y]) (.ref T) :=
  ⟨T, [v, u], rfl, .of upd_same, .cons (hx.laid mk hT) (.cons (hy.laid mk hT) .nil)⟩
theorem walk_enumL {P M ρ : List Addr} {H : Hp} {a : Addr} {ds : List D} {vs : List V} (mk : Mk M H) (hPM : ∀ a ∈ P, a ∈ M) (h : Rd H a (.lst vs)) (ha : a ∉ P) (hd : DVs G M ρ H ds vs) : Walk G P M ρ H (Ite G.K a) (enumFrom 0 ds) := by
  intro M' ρ' H' hp hm hr mk'
  have h' : SqL G.K H' a vs := .inl (rd_keep h fun o e => hp a o e ha)
  have hd' := dvs_stay mk hPM hd hp hm hr
  refine ⟨fun i d e => ?_, fun i hi => ⟨vs, h', by rw [hd.length, ← enum_len ds 0]; exact hi⟩⟩
  rw [enum_get, Option.map_eq_some_iff] at e
  obtain ⟨x, ex, rfl⟩ := e
  obtain ⟨v, e1, e2⟩ := hd'.get ex
  refine ⟨⟨vs, v, h', e1⟩, fun u H'' y => ?_⟩
  obtain ⟨T, x', rfl, hT, rfl, y⟩ := y
  have := y vs h'
  rw [e1] at this
  cases this
  exact ⟨same_laid hT, pair_new mk' hT (show DV G M' ρ' H' (.int (0 + (i : Int))) (.int i) by simp only [Int.zero_add]; rfl) e2⟩
/-- enumerate(tuple) -/
def IteT (K : PySem.W.Frag) (a : Addr) : L2.It :=
  ⟨fun i H => ∃ (xs : List V) (x : V), SqT K H a xs ∧ xs[i]? = some x, fun i H v H' => ∃ T x, v = .ref T ∧ H T = none ∧ H' = upd H T (.tup [.int (i : Nat), x]) ∧ ∀ xs, SqT K H a xs → xs[i]? = some x, fun i H => ∃ xs : List V, SqT K H a xs ∧ xs.length ≤ i⟩
theorem walk_enumT {P M ρ : List Addr} {H : Hp} {a : Addr} {ds : List D} {vs : List V} (mk : Mk M H) (hPM : ∀ a ∈ P, a ∈ M) (h : SqT G.K H a vs) (hd : DVs G M ρ H ds vs) : Walk G P M ρ H (IteT G.K a) (enumFrom 0 ds) := by
  intro M' ρ' H' hp hm hr mk'
  have h' := sqT_stay mk hPM hp h
  have hd' := dvs_stay mk hPM hd hp hm hr
  refine ⟨fun i d e => ?_, fun i hi => ⟨vs, h', by rw [hd.length, ← enum_len ds 0]; exact hi⟩⟩
  rw [enum_get, Option.map_eq_some_iff] at e
  obtain ⟨x, ex, rfl⟩ := e
  obtain ⟨v, e1, e2⟩ := hd'.get ex
  refine ⟨⟨vs, v, h', e1⟩, fun u H'' y => ?_⟩
  obtain ⟨T, x', rfl, hT, rfl, y⟩ := y
  have := y vs h'
  rw [e1] at this
  cases this
  exact ⟨same_laid hT, pair_new mk' hT (show DV G M' ρ' H' (.int (0 + (i : Int))) (.int i) by simp only [Int.zero_add]; rfl) e2⟩
theorem zip_get : ∀ (xs ys : List D) (i : Nat) (d : D), (zipD xs ys)[i]? = some d → ∃ x y, xs[i]? = some x ∧ ys[i]? = some y ∧ d = .tup [x, y]
  | [], _, i, d, h => by simp [zipD] at h
  | _ :: _, [], i, d, h => by simp [zipD] at h
  | x :: xs, y :: ys, 0, d, h => by
    simp [zipD] at h
    exact ⟨x, y, rfl, rfl, h.symm⟩
  | x :: xs, y :: ys, i + 1, d, h => by
    simp only [zipD, List.getElem?_cons_succ] at h
    simpa using zip_get xs ys i d h
theorem zip_len : ∀ (xs ys : List D), (zipD xs ys).length = min xs.length ys.length
  | [], _ => by simp [zipD]
  | _ :: _, [] => by simp [zipD]
  | x :: xs, y :: ys => by simp only [zipD, List.length_cons, zip_len xs ys]; omega
/-- a tuple; a list that is not on P -/
def AtW (G : Gx) (t : Bool) (P : List Addr) (H : Hp) (a : Addr) (vs : List V) : Prop := if t then SqT G.K H a vs else Rd H a (.lst vs) ∧ a ∉ P
theorem AtW.sq {t : Bool} {P : List Addr} {H : Hp} {a : Addr} {vs : List V} (h : AtW G t P H a vs) : SqB t G.K H a vs := by
  cases t
  · exact .inl h.1
  · exact h
theorem AtW.stay {t : Bool} {P M : List Addr} {H H' : Hp} {a : Addr} {vs : List V} (mk : Mk M H) (hPM : ∀ a ∈ P, a ∈ M) (hp : ∀ a o, H a = some o → a ∉ P → H' a = some o) (h : AtW G t P H a vs) : AtW G t P H' a vs := by
  cases t
  · exact ⟨rd_keep h.1 fun o e => hp a o e h.2, h.2⟩
  · exact sqT_stay mk hPM hp h
theorem AtW.inj {t : Bool} {P : List Addr} {H : Hp} {a : Addr} {vs : List V} (h : AtW G t P H a vs) : SqB t G.K H a vs := h.sq
end
end Dp
set_option Elab.async false
set_option linter.all false
set_option maxRecDepth 100000
set_option maxHeartbeats 4000000
namespace Dp
open PySem PySem.Spec PyProof.Rows L2 PySem.W PySem.SeqAt
set_option maxHeartbeats 2000000 in
theorem meets_enum1 {v : Value} {o : Obj} {H : Heap → Prop} (B : Begins v o H) :
    Meets (Builtin.«enumerate.__new__» ⟨[.type "enumerate", v], []⟩) (fun _ R s => H s.heap ∧
      R (.ok (.ret (.ref (s.heap.push o).objs.size))) { s with heap := (s.heap.push o).push { cls := .type "enumerate", data := .fields #[.none, .bool false, .ref s.heap.objs.size, rawInt 0, .none, .none] } }) :=
  .of_wp fun prog w A R s h => by
    obtain ⟨hp, g, d, tk, os⟩ := s
    obtain ⟨h1, h⟩ := h
    have hsub := sub_enumerate
    have q1 : ∀ {A' : Around} {E : Value → Shared → Prop} {Q : Value → Shared → Prop}, Q (.ref hp.objs.size) ⟨hp.push o, g, d, tk, os⟩ → wpAny (model prog w) A' (pyIter v) Q E ⟨hp, g, d, tk, os⟩ :=
      fun q => B.iter prog w _ _ ⟨hp, g, d, tk, os⟩ _ h1 q
    wp_walk using q1
    refine wpAny_stack_any fun st => wpAny_pure ?_
    split
    · rename_i c _ _ _ _ _
      cases (c == Value.type "enumerate")
      · wp_walk using q1
        exact ⟨_, rfl, h⟩
      · wp_walk using q1
        exact ⟨_, rfl, h⟩
    · wp_walk using q1
      exact ⟨_, rfl, h⟩
section
variable {prog : Program} {w : World} {A : Around} {E : Value → Shared → Prop} {s : Shared}
theorem enum_one {v : Value} {o : Obj} {H : Heap → Prop} {Q : Value → Shared → Prop} (B : Begins v o H) (h1 : H s.heap)
    (h : ∀ h', IsEnum h' (s.heap.objs.size + 1) s.heap.objs.size 0 .none → h'.get? s.heap.objs.size = some o → (∀ b o, s.heap.get? b = some o → h'.get? b = some o) → Q (.ref (s.heap.objs.size + 1)) { s with heap := h' }) :
    wpAny (model prog w) A (call (.type "enumerate") [v]) Q E s := by
  refine callType_new F.called_enumerate (by decide) (F.typeCall_enumerate_1 _) (F.newCall_enumerate_1 _) (fun obj => F.args_object_init_2 obj _) F.entry_enumerate_new (meets_enum1 B) ⟨h1, ?_⟩
  have hz : (s.heap.push o).objs.size = s.heap.objs.size + 1 := Heap.size_push ..
  show _ ∧ _
  rw [hz]
  have he : IsEnum ((s.heap.push o).push { cls := .type "enumerate", data := .fields #[.none, .bool false, .ref s.heap.objs.size, rawInt 0, .none, .none] }) (s.heap.objs.size + 1) s.heap.objs.size 0 .none := by
    have := Heap.get?_push_size (s.heap.push o) (o := { cls := .type "enumerate", data := .fields #[.none, .bool false, .ref s.heap.objs.size, rawInt 0, .none, .none] }) rfl
    rw [hz] at this
    exact this
  exact ⟨⟨_, he, rfl⟩, h _ he (Heap.get?_push_of_some _ (Heap.get?_push_size _ B.free)) fun b o x => Heap.get?_push_of_some _ (Heap.get?_push_of_some _ x)⟩
end
theorem turn_enumT {P : Program} {w : World} {K : PySem.W.Frag} {elts : List Expr} {kk : Nat} {tpos : Pos} (a e it : Addr) :
    Turn P w K (.Tuple elts kk tpos) (IteT K a) [e, it] e (fun i h => (∃ old, IsEnum h e it ((i : Nat) : Int) old) ∧ h.IsTupleIter it a i ∧ e ≠ it ∧ a ≠ it ∧ a ≠ e) where
  mem := by simp
  obj := fun i h st b hb => by
    obtain ⟨⟨old, he⟩, ⟨o, ho, hc, hd⟩, _⟩ := st
    have e' : b = e ∨ b = it := by simpa using hb
    rcases e' with z | z
    · rw [z]; exact ⟨_, he, fun v q => nomatch q⟩
    · rw [z]; exact ⟨o, ho, fun v q => by rw [hd] at q; cases q⟩
  keep := fun i h h' st k => let ⟨⟨old, he⟩, hi, hne⟩ := st; ⟨⟨old, k e (by simp) _ he⟩, hi.at fun o q => k it (by simp) o q, hne⟩
  item := by
    intro X hP hw hK hc i pins s σ H E I hf st hg
    subst hP hw hK
    obtain ⟨⟨old, he⟩, hit, hne, hai, hae⟩ := st
    obtain ⟨xs, x, hq, hx⟩ := hg
    obtain ⟨its, rv, p, hz⟩ := I.tuple hq
    obtain ⟨u, hu, ru⟩ := rv.get hx
    have hel : e < s.heap.objs.size := Heap.lt_size he
    have hil : it < s.heap.objs.size := by obtain ⟨_, q, _⟩ := hit; exact Heap.lt_size q
    have hlt : i < its.toArray.size := by simpa using get_of_len hu
    refine wpAny_pyNext_enum_itemD (Draws.tuple (A := X.A.in1) (I.ok.hd hc) it a hai its.toArray) he ⟨hit, p⟩ hlt hne (by simp [hne, Ne.symm hae]) fun x2 h' tk hx2 ho hst hT hsz hk => ?_
    have ex2 : x2 = u := by
      have := hx2
      simp only [List.getElem?_toArray] at this
      rw [hu] at this
      exact (Option.some.inj this).symm
    subst ex2
    refine ⟨_, rfl, wpAny_letOwnedTupleGo_enum (s := { s with heap := h', toks := tk + 1 }) ho fun h'' he' sb => ?_⟩
    have hT2 : h''.get? s.heap.objs.size = some { cls := .type "tuple", data := .seq #[.int i tk, x2] } := (sb.2 _ (Nat.ne_of_gt hel)).trans hT
    have new : ObjOk X.prog X.w (upd H s.heap.objs.size (.tup [.int (i : Nat), x])) h'' s.heap.objs.size (.tup [.int (i : Nat), x]) :=
      ⟨by show 2 ≤ sizeLine; decide, [.int i tk, x2], .cons ⟨_, rfl⟩ (.cons ru .nil), ⟨_, hT2, rfl, _, rfl⟩⟩
    have I1 : Inv X pins σ (upd H s.heap.objs.size (.tup [.int (i : Nat), x])) { s with heap := h'', toks := tk + 1 } :=
      I.turnedNew (ch := [e, it]) (fun b ob hb q => (sb.2 b (fun z => hb (by simp [z]))).trans (hk b ob (fun z => hb (by simp [z])) (fun z => hb (by simp [z])) q)) hf (Nat.le_refl _) new
    refine ⟨.ref s.heap.objs.size, _, I1, rfl, ⟨_, x, rfl, I.hok.fresh (Nat.le_refl _), rfl, fun ys hy => by rw [I.tuple_inj hy hq]; exact hx⟩, ⟨⟨x2, ?_⟩, hst.1.at fun o q => (sb.2 it (Ne.symm hne)).trans q, hne, hai, hae⟩, fun b hb => ?_⟩
    · have e1 : ((i + 1 : Nat) : Int) = (i : Int) + 1 := by omega
      rw [e1]; exact he'
    · have hb' : b < s.heap.objs.size := by
        have e' : b = e ∨ b = it := by simpa using hb
        rcases e' with z | z
        · rw [z]; exact hel
        · rw [z]; exact hil
      rw [upd_ne (Nat.ne_of_lt hb')]
      exact (hf b hb).1
  done := by
    intro X hP hw hK hc i pins s σ H E I hf st hg
    subst hP hw hK
    obtain ⟨⟨old, he⟩, hit, hne, hai, hae⟩ := st
    obtain ⟨xs, hq, hx⟩ := hg
    obtain ⟨its, rv, p, hz⟩ := I.tuple hq
    obtain ⟨f0, f1, f2, f3, f4, f5⟩ := hf it (by simp)
    have hl := rv.length
    have D := Draws.tuple (prog := X.prog) (w := X.w) (A := X.A.in1) (I.ok.hd hc) it a hai its.toArray
    have hT : s.TypeIs (.ref e) "enumerate" := ⟨_, he, rfl⟩
    unfold pyNext
    refine wpAny_bind (wpAny_attempt (wpAny_callSpecial?_slot (name := Str.ofString "__next__") hT F.slot_enumerate_next
      (wpAny_call_entry F.slot_enumerate_next hT F.entry_enumerate_next ?_ (F.args_enumerate_next_1 _))))
    show wpAny _ _ (field (.ref e) 2 >>= _) _ _ _
    refine wpAny_bind (wpAny_field he rfl (x := .ref it) rfl ?_)
    refine wpAny_bind (wpAny_nextOf_tuple_end (I.ok.hd hc) hit (show s.heap.IsTuple a its.toArray from p) (by simp; omega) fun h' x he' hx' => ?_)
    obtain ⟨o, ho, hc⟩ := hx'
    refine wpAny_bind (wpAny_isInstance (T := "StopIteration") (b := true) ⟨o, ho, hc⟩ isSubtype_stop ?_)
    exact wpAny_pure ⟨rfl, I.turned (t' := s.toks) (fun b o hb q => he' b o hb q) f0 f1 f3 f4 f5⟩
  self := fun A i s Q E st h => let ⟨⟨_, he⟩, _⟩ := st; wpAny_pyIter_enum he h
/-- the keys of a raw dict, in their order -/
def Itw (a : Addr) (es : List DictEntry × Nat) (kv : List V) : L2.It :=
  ⟨fun i H => H a = some (.ext (rawD a es)) ∧ i < kv.length, fun i H x H' => H' = H ∧ kv[i]? = some x, fun i H => H a = some (.ext (rawD a es)) ∧ kv.length ≤ i⟩
theorem turn_raw {P : Program} {w : World} {K : PySem.W.Frag} {tg : Expr} {a : Addr} {es : List DictEntry × Nat} {kv : List V} (it : Addr) (hv : Vals kv (es.1.map (·.key))) :
    Turn P w K tg (Itw a es kv) [it] it (fun i h => h.IsKeyIter it a i kv.length es.2) where
  mem := by simp
  obj := fun i h st b hb => by
    have e : b = it := by simpa using hb
    subst e
    obtain ⟨oi, e, c, dd⟩ := st
    exact ⟨oi, e, fun v z => by rw [dd] at z; cases z⟩
  keep := fun i h h' st k => st.at fun oi e => k it (by simp) oi e
  item := by
    intro X hP hw hK hc i pins s σ H E I hf st hg
    subst hP hw hK
    obtain ⟨hd, hi⟩ := hg
    obtain ⟨f0, f1, f2, f3, f4, f5⟩ := hf it (by simp)
    obtain ⟨⟨o, g1, g2, g3, hm⟩, _⟩ := (show ObjOk X.prog X.w H s.heap a (.ext (rawD a es)) from I.hok a _ hd)
    have hx : kv[i]? = some kv[i] := List.getElem?_eq_getElem hi
    obtain ⟨u, hu, ru⟩ := hv.get hx
    rw [List.getElem?_map, Option.map_eq_some_iff] at hu
    obtain ⟨en, hen, rfl⟩ := hu
    have hl : es.1.length = kv.length := by rw [hv.length, List.length_map]
    refine next_key_item st g1 g3 (by simpa using hl) (en := en) (by simpa using hen) fun h' st' sb => ?_
    have I1 : Inv X pins σ H { s with heap := h' } := I.turned (t' := s.toks) (fun b ob hb e => (sb.2 b hb).trans e) f0 f1 f3 f4 f5
    obtain ⟨oi, e, c, dd⟩ := id st'
    exact ⟨en.key, rfl, go_of (s := { s with heap := h' }) e c dd (by decide) ⟨kv[i], H, I1, ru, ⟨rfl, hx⟩, st', fun b hb => (hf b hb).1⟩⟩
  done := by
    intro X hP hw hK hc i pins s σ H E I hf st hg
    subst hP hw hK
    obtain ⟨hd, hi⟩ := hg
    obtain ⟨f0, f1, f2, f3, f4, f5⟩ := hf it (by simp)
    obtain ⟨⟨o, g1, g2, g3, hm⟩, _⟩ := (show ObjOk X.prog X.w H s.heap a (.ext (rawD a es)) from I.hok a _ hd)
    have hl : es.1.length = kv.length := by rw [hv.length, List.length_map]
    exact next_key_end (I.ok.hd hc) st g1 g3 (by simpa using hl) hi fun h' eb => ⟨rfl, I.turned (t' := s.toks) (fun b ob hb e => eb b ob hb e) f0 f1 f3 f4 f5⟩
  self := fun A i s Q E st h => by
    refine wpAny_pyIter_slot st.typeIs F.slot_dict_keyiterator_iter (wpAny_call_entry F.slot_dict_keyiterator_iter st.typeIs F.entry_dict_keyiterator_iter ?_ (F.args_dict_keyiterator_iter_1 _))
    show wpAny _ _ (ret (.ref it)) _ _ s
    exact wpAny_pure ⟨_, rfl, "dict_keyiterator", _, st.typeIs, F.slot_dict_keyiterator_next.lookup, h⟩
theorem walk_raw {G : Gx} {P M ρ : List Addr} {H : Hp} {a : Addr} {es : List DictEntry × Nat} {ds : List D} {kv : List V} (mk : Mk M H) (hPM : ∀ a ∈ P, a ∈ M) (h : H a = some (.ext (rawD a es))) (ha : a ∉ P) (hd : DVs G M ρ H ds kv) : Walk G P M ρ H (Itw a es kv) ds := by
  intro M' ρ' H' hp hm hr mk'
  have h' := hp a _ h ha
  have hd' := dvs_stay mk hPM hd hp hm hr
  refine ⟨fun i d e => ?_, fun i hi => ⟨h', by rw [hd.length]; exact hi⟩⟩
  obtain ⟨v, e1, e2⟩ := hd'.get e
  refine ⟨⟨h', get_of_len e1⟩, fun u H'' y => ?_⟩
  obtain ⟨rfl, y⟩ := y
  rw [e1] at y
  cases y
  exact ⟨Sm.refl _, e2⟩
section
variable {G : Gx} {X : Cx}
/-- the set of things that may change while something weak or strong is walked -/
def pset (strong : Bool) (ρ B : List Addr) : List Addr := if strong then ρ ++ B else ρ
theorem pset_sub {strong : Bool} {ρ B : List Addr} : ∀ a ∈ pset strong ρ B, a ∈ ρ ++ B := by
  cases strong
  · exact fun a h => List.mem_append_left _ h
  · exact fun a h => h
def rel (strong : Bool) (G : Gx) : Rel := if strong then relS G else relW G
theorem rel_db {strong : Bool} {B ρ : List Addr} {H : Hp} {d : D} {v : V} (h : rel strong G B ρ H d v) : DB G B ρ H d v := by
  cases strong
  · exact h
  · exact .inl h
theorem rel_lst {strong : Bool} {B ρ : List Addr} {H : Hp} {ds : List D} {v : V} (off : ∀ b ∈ B, b ∉ ρ) (h : rel strong G B ρ H (.lst ds) v) : ∃ a vs, v = .ref a ∧ Rd H a (.lst vs) ∧ a ∉ pset strong ρ B ∧ DVs G (ρ ++ B) ρ H ds vs := by
  cases strong
  · rcases h with h | ⟨a, e, hb, h⟩
    · obtain ⟨a, vs, e, h1, h2, h3⟩ := h
      exact ⟨a, vs, e, h1, fun z => h2 (List.mem_append_left _ z), h3⟩
    · obtain ⟨vs, h1, h2⟩ := h
      exact ⟨a, vs, e, .inl h1, off a hb, h2⟩
  · obtain ⟨a, vs, e, h1, h2, h3⟩ := h
    exact ⟨a, vs, e, h1, h2, h3⟩
theorem rel_tup {strong : Bool} {B ρ : List Addr} {H : Hp} {ds : List D} {v : V} (h : rel strong G B ρ H (.tup ds) v) : ∃ a vs, v = .ref a ∧ SqT G.K H a vs ∧ DVs G (ρ ++ B) ρ H ds vs := (rel_db h).tup
theorem seqOf_cases {d : D} {xs : List D} (h : seqOf d = some xs) : d = .tup xs ∨ d = .lst xs := by
  cases d <;> simp [seqOf] at h
  · exact .inl (by rw [h])
  · exact .inr (by rw [h])
theorem itemsOf_cases {d : D} {xs : List D} (h : itemsOf d = some xs) : d = .tup xs ∨ d = .lst xs ∨ ∃ ws, d = .dct xs ws := by
  cases d <;> simp [itemsOf] at h
  · exact .inl (by rw [h])
  · exact .inr (.inl (by rw [h]))
  · exact .inr (.inr ⟨_, by rw [h]⟩)
theorem rel_dct {strong : Bool} {B ρ : List Addr} {H : Hp} {ks ws : List D} {v : V} (off : ∀ b ∈ B, b ∉ ρ) (h : rel strong G B ρ H (.dct ks ws) v) : ∃ a, v = .ref a ∧ DctAt G (ρ ++ B) ρ H ks ws a ∧ a ∉ pset strong ρ B := by
  cases strong
  · rcases h with h | ⟨a, e, hb, h⟩
    · obtain ⟨a, e, h1, h2⟩ := h
      exact ⟨a, e, h2, fun z => h1 (List.mem_append_left _ z)⟩
    · exact ⟨a, e, h, off a hb⟩
  · obtain ⟨a, e, h1, h2⟩ := h
    exact ⟨a, e, h2, h1⟩
variable {P : Par} {strong : Bool} {tg x y : Expr} {e e2 : Ex} {p pos tpos : Pos} {elts : List Expr} {kk : Nat}
/-- behind an expression -/
theorem PE_go {r : Rel} {f : Env → Store → Res D} {x : Expr} {pins : List (Addr × Obj)} {s : Shared} {σ : L2.St} {H : Hp} {B ρ : List Addr} {env : Env} {st st' : Store} {d : D} (he : PE X x (tE G r f)) (I : Inv X pins σ H s) (rs : RS (G := G) B st ρ H) (re : RE (G := G) B env ρ σ H) (h : f env st = .ok d st') :
    wpAny (model X.prog X.w) X.A (eval x X.env) (EP X pins σ fun v H1 => ∃ ρ1, Stp ρ H ρ1 H1 ∧ RS (G := G) B st' ρ1 H1 ∧ r B ρ1 H1 d v) X.xe s :=
  he.run pins s σ H _ I ⟨B, env, st, ρ, d, st', rs, re, h, fun v ρ' H' s1 r1 q => ⟨ρ', s1, r1, q⟩⟩
theorem pi_ex (xa : XA G X) (he : PE X x (tE G (rel strong G) (e.ev P))) : PI X tg x (tI G strong ((It.ex e).ev P)) := by
  refine ⟨fun pins s σ H R I h => ?_⟩
  obtain ⟨B, env, st, ρ, xs, st', rs, re, ev, k⟩ := h
  unfold It.ev at ev
  obtain ⟨d, st1, e1, e2⟩ := Res.bind_eq ev
  obtain ⟨e3, rfl⟩ := ofOpt_eq e2
  refine thn (PE_go he I rs re e1) fun v s1 ⟨y, H1, I1, r1, ρ1, sp, rs1, q⟩ => ?_
  rcases itemsOf_cases e3 with rfl | rfl | ⟨ws, rfl⟩
  · obtain ⟨a, vs, rfl, hq, hd⟩ := rel_tup q
    cases r1
    have hw := k (Itt G.K a) ρ1 H1 sp rs1 (walk_tup rs1.mt (fun a h => pset_sub a h) hq hd)
    rw [← xa.K] at hq hw
    obtain ⟨its, rv, p, hz⟩ := I1.tuple hq
    exact wpAny_pyIter_tuple (show s1.heap.IsTuple a its.toArray from p) (pi_one (tk := s1.toks) I1 _ (turn_tuple a _) ⟨_, Heap.get?_push_size _ rfl, rfl, rfl⟩ hw)
  · obtain ⟨a, vs, rfl, hq, ha, hd⟩ := rel_lst rs1.off q
    cases r1
    have hw := k (Itl G.K a) ρ1 H1 sp rs1 (walk_lst rs1.mt (fun a h => pset_sub a h) hq ha hd)
    rw [← xa.K] at hw
    obtain ⟨its, rv, p, hz⟩ := I1.list (show SqL X.K H1 a vs from .inl hq)
    exact wpAny_pyIter_list p.isList (pi_one (tk := s1.toks) I1 _ (turn_list a _) ⟨_, Heap.get?_push_size _ rfl, rfl, rfl⟩ hw)
  · obtain ⟨a, rfl, hd, ha⟩ := rel_dct rs1.off q
    cases r1
    obtain ⟨es, kv, vv, h2, h3, h4, h5, h6, h7, h8, h9, h10⟩ := hd
    have hw := k (Itw a es kv) ρ1 H1 sp rs1 (walk_raw rs1.mt (fun a h => pset_sub a h) h2 ha h9)
    obtain ⟨⟨o, g1, g2, g3, hm⟩, _⟩ := (show ObjOk X.prog X.w H1 s1.heap a (.ext (rawD a es)) from I1.hok a _ h2)
    have hl : es.1.length = kv.length := by rw [h3.length, List.length_map]
    refine iter_keys hm g1 g2 g3 (pi_one (tk := s1.toks) I1 _ (turn_raw _ h3) ⟨_, Heap.get?_push_size _ rfl, rfl, ?_⟩ hw)
    rw [← hl]
    simp
theorem okR_iff {i : Int} (h : okR i = true) : -(2 ^ 62) ≤ i ∧ i < 2 ^ 62 := by
  simpa [okR] using h
theorem rng2E_inv {d d' : D} {xs : List D} (h : rng2E d d' = some xs) : ∃ i j, d = .int i ∧ d' = .int j ∧ -(2 ^ 62) ≤ i ∧ i < 2 ^ 62 ∧ -(2 ^ 62) ≤ j ∧ j < 2 ^ 62 ∧ xs = rngD i j := by
  unfold rng2E at h
  split at h
  · split at h
    · rename_i ok
      rw [Bool.and_eq_true] at ok
      obtain ⟨o1, o2⟩ := okR_iff ok.1
      obtain ⟨o3, o4⟩ := okR_iff ok.2
      cases h
      exact ⟨_, _, rfl, rfl, o1, o2, o3, o4, rfl⟩
    · cases h
  · cases h
theorem pi_rng1 (hg : Gl X "range") (hm : X.mg "range" = none) (ha : PE X x (tE G (relS G) (e.ev P))) (na : starEach [x] X.env = (false, eval x X.env) :: starEach [] X.env) : PI X tg (.Call (.Name "range" p) [x] [] pos) (tI G strong ((It.rng1 e).ev P)) := by
  refine PI_imp (pi_range1 hg hm (pa_cons ha pa_nil na) na) fun σ H R h => ?_
  obtain ⟨B, env, st, ρ, xs, st', rs, re, ev, k⟩ := h
  unfold It.ev at ev
  obtain ⟨d, st1, e1, e2⟩ := Res.bind_eq ev
  obtain ⟨e3, rfl⟩ := ofOpt_eq e2
  obtain ⟨i, j, e4, rfl, o1, o2, o3, o4, rfl⟩ := rng2E_inv e3
  cases e4
  refine ⟨B, env, st, ρ, _, _, rs, re, e1, fun v ρ' H' sp rs' q => ?_⟩
  have q : v = .int j := q
  subst q
  refine ⟨j, rfl, o3, o4, ?_⟩
  have e3 : rngD 0 j = rngFrom 0 j.toNat := by unfold rngD; rw [Int.sub_zero]
  rw [e3] at k
  exact k _ ρ' H' sp rs' (walk_rng 0 j.toNat)
theorem pi_rng2 (hg : Gl X "range") (hm : X.mg "range" = none) (ha : PE X x (tE G (relS G) (e.ev P))) (hb : PE X y (tE G (relS G) (e2.ev P))) (na : starEach [x, y] X.env = (false, eval x X.env) :: starEach [y] X.env) (nb : starEach [y] X.env = (false, eval y X.env) :: starEach [] X.env) :
    PI X tg (.Call (.Name "range" p) [x, y] [] pos) (tI G strong ((It.rng2 e e2).ev P)) := by
  refine PI_imp (pi_range2 hg hm (pa_cons ha (pa_cons hb pa_nil nb) na) (by rw [na, nb]; rfl) (by rw [nb]; rfl)) fun σ H R h => ?_
  obtain ⟨B, env, st, ρ, xs, st', rs, re, ev, k⟩ := h
  unfold It.ev at ev
  obtain ⟨d, st1, e1, ev⟩ := Res.bind_eq ev
  obtain ⟨d', st2, e2, e3⟩ := Res.bind_eq ev
  obtain ⟨e4, rfl⟩ := ofOpt_eq e3
  obtain ⟨i, j, rfl, rfl, o1, o2, o3, o4, rfl⟩ := rng2E_inv e4
  refine ⟨B, env, st, ρ, _, _, rs, re, e1, fun v ρ' H' sp rs' q => ?_⟩
  refine ⟨B, env, st1, ρ', _, _, rs', re.stp rs.mt rs.off sp, e2, fun u ρ2 H2 sp2 rs2 q2 => ?_⟩
  have q : v = .int i := q
  have q2 : u = .int j := q2
  subst q q2
  exact ⟨i, j, rfl, ⟨o1, o2, o3, o4⟩, k _ ρ2 H2 (sp.trans sp2) rs2 (walk_rng i (j - i).toNat)⟩
theorem pi_enumD (xa : XA G X) (hg : Gl X "enumerate") (hm : X.mg "enumerate" = none) (he : PE X x (tE G (rel strong G) (e.ev P))) (na : starEach [x] X.env = (false, eval x X.env) :: starEach [] X.env) :
    PI X (.Tuple elts kk tpos) (.Call (.Name "enumerate" p) [x] [] pos) (tI G strong ((It.enum e).ev P)) := by
  refine ⟨fun pins s σ H R I h => ?_⟩
  obtain ⟨B, env, st, ρ, xs, st', rs, re, ev, k⟩ := h
  unfold It.ev at ev
  obtain ⟨d, st1, e1, e2⟩ := Res.bind_eq ev
  obtain ⟨e3, rfl⟩ := ofOpt_eq e2
  obtain ⟨ds, e4, rfl⟩ := Option.map_eq_some_iff.mp e3
  refine Call_ (ld_blt I hg hm boot_enumerate (PyProof.Rows.callWith_type1 ((pa_cons he pa_nil na).run pos pins s σ H (fun vs H1 => ∃ v ρ1, vs = [v] ∧ Stp ρ H ρ1 H1 ∧ RS (G := G) B st' ρ1 H1 ∧ rel strong G B ρ1 H1 d v) I ?_ |> fun z => thn z fun us s1 ⟨vs, H1, I1, r1, y, ρ1, ex, sp, rs1, q⟩ => ?_) na rfl))
  · exact ⟨B, env, st, ρ, d, _, rs, re, e1, fun v ρ' H' s1 r1 q => ⟨v, ρ', rfl, s1, r1, q⟩⟩
  · subst ex
    obtain ⟨u, rfl, rx⟩ := r1.one
    have two : ∀ b, b ∈ [s1.heap.objs.size + 1, s1.heap.objs.size] → FpOk X pins H1 b := fun b hb => by
      have e' : b = s1.heap.objs.size + 1 ∨ b = s1.heap.objs.size := by simpa using hb
      have hle : s1.heap.objs.size ≤ b := by
        rcases e' with z | z
        · rw [z]; exact Nat.le_add_right _ _
        · rw [z]; exact Nat.le_refl _
      exact I1.fpOk hle (I1.hok.fresh hle)
    rcases seqOf_cases e4 with rfl | rfl
    · obtain ⟨a, vs, rfl, hq, hd⟩ := rel_tup q
      cases rx
      have hw := k (IteT G.K a) ρ1 H1 sp rs1 (walk_enumT rs1.mt (fun a h => pset_sub a h) hq hd)
      rw [← xa.K] at hq hw
      obtain ⟨its, rv, p', hz⟩ := I1.tuple hq
      have hal : a < s1.heap.objs.size := by obtain ⟨o, ho, _⟩ := id p'; exact Heap.lt_size ho
      refine enum_one (begins_tuple a its.toArray) (show s1.heap.IsTuple a its.toArray from p') fun h' he hit hk => wpAny_pyIter_enum he ?_
      have I2 : Inv X pins σ H1 { s1 with heap := h' } := I1.kept (t' := s1.toks) hk
      exact ⟨s1.heap.objs.size + 1, [s1.heap.objs.size + 1, s1.heap.objs.size], _, _, H1, rfl, I2, turn_enumT a (s1.heap.objs.size + 1) s1.heap.objs.size, ⟨⟨.none, he⟩, ⟨_, hit, rfl, rfl⟩, Nat.succ_ne_self _, Nat.ne_of_lt hal, Nat.ne_of_lt (Nat.lt_succ_of_lt hal)⟩, two, hw⟩
    · obtain ⟨a, vs, rfl, hq, ha, hd⟩ := rel_lst rs1.off q
      cases rx
      have hw := k (Ite G.K a) ρ1 H1 sp rs1 (walk_enumL rs1.mt (fun a h => pset_sub a h) hq ha hd)
      rw [← xa.K] at hw
      obtain ⟨its, rv, p', hz⟩ := I1.list (show SqL X.K H1 a vs from .inl hq)
      refine call_enumerate_list p'.isList fun h' he hit hsz hk => wpAny_pyIter_enum he ?_
      have I2 : Inv X pins σ H1 { s1 with heap := h' } := I1.kept (t' := s1.toks) hk
      exact ⟨s1.heap.objs.size + 1, [s1.heap.objs.size + 1, s1.heap.objs.size], _, _, H1, rfl, I2, turn_enum a (s1.heap.objs.size + 1) s1.heap.objs.size, ⟨⟨.none, he⟩, hit, Nat.succ_ne_self _⟩, two, hw⟩
theorem rel_seq {strong : Bool} {B ρ : List Addr} {H : Hp} {d : D} {ds : List D} {v : V} (off : ∀ b ∈ B, b ∉ ρ) (e : seqOf d = some ds) (h : rel strong G B ρ H d v) : ∃ t a vs, v = .ref a ∧ AtW G t (pset strong ρ B) H a vs ∧ DVs G (ρ ++ B) ρ H ds vs := by
  rcases seqOf_cases e with rfl | rfl
  · obtain ⟨a, vs, ev, h1, h2⟩ := rel_tup h
    exact ⟨true, a, vs, ev, h1, h2⟩
  · obtain ⟨a, vs, ev, h1, h2, h3⟩ := rel_lst off h
    exact ⟨false, a, vs, ev, ⟨h1, h2⟩, h3⟩
end
end Dp
set_option Elab.async false
set_option linter.all false
set_option maxRecDepth 100000
set_option maxHeartbeats 4000000
namespace Dp
open PySem PySem.Spec PyProof.Rows L2 PySem.W PySem.SeqAt
end Dp
set_option Elab.async false
set_option linter.all false
set_option maxRecDepth 100000
set_option maxHeartbeats 4000000
namespace Dp
open PySem PySem.Spec PyProof.Rows L2 PySem.W PySem.SeqAt
section
variable {prog : Program} {w : World} {A : Around} {E : Value → Shared → Prop} {s : Shared}
theorem nextOf_rng_item {it : Addr} {x left step : Int} {Q : Value → Shared → Prop} (hit : IsRangeIter s.heap it x left step) (hl : 0 < left)
    (hQ : ∀ h', IsRangeIter h' it (x + step) (left - 1) step → Heap.SameBut it s.heap h' → Q (.int x s.toks) { s with heap := h', toks := s.toks + 1 }) : wpAny (model prog w) A (Builtin.SmallTypes.nextOf (.ref it)) Q E s := by
  have hT : s.TypeIs (.ref it) "range_iterator" := ⟨_, hit, rfl⟩
  unfold Builtin.SmallTypes.nextOf
  refine wpAny_bind (wpAny_callSpecial?_slot (name := Str.ofString "__next__") hT F.slot_range_iterator_next
    (call_meets F.slot_range_iterator_next hT F.entry_range_iterator_next (F.args_range_iterator_next_1 _) (AutoRange.range_iterator___next___range_iterator_1 it x left step (by omega)) ⟨hit, ?_⟩))
  exact wpAny_pure (hQ _ (Heap.get?_update_self _ (Heap.get?_update_self _ hit rfl) rfl) ((Heap.SameBut.update ..).trans (Heap.SameBut.update ..)))
theorem nextOf_rng_end {it : Addr} {x left step : Int} {Q : Value → Shared → Prop} (hh : A.handled = none) (hit : IsRangeIter s.heap it x left step) (hl : left ≤ 0)
    (hE : ∀ h' e, Heap.ExtBut it s.heap h' → (∃ o, h'.get? e = some o ∧ o.cls = .type "StopIteration") → E (.ref e) { s with heap := h' }) : wpAny (model prog w) A (Builtin.SmallTypes.nextOf (.ref it)) Q E s := by
  have hT : s.TypeIs (.ref it) "range_iterator" := ⟨_, hit, rfl⟩
  unfold Builtin.SmallTypes.nextOf
  refine wpAny_bind (wpAny_callSpecial?_slot (name := Str.ofString "__next__") hT F.slot_range_iterator_next
    (wpAny_call_entry F.slot_range_iterator_next hT F.entry_range_iterator_next ?_ (F.args_range_iterator_next_1 _)))
  show wpAny _ _ (field (.ref it) 0 >>= _) _ _ s
  refine wpAny_bind (wpAny_field hit rfl (x := rawInt x) rfl ?_)
  show wpAny _ _ (field (.ref it) 1 >>= _) _ _ s
  refine wpAny_bind (wpAny_field hit rfl (x := rawInt left) rfl ?_)
  show wpAny _ _ (field (.ref it) 2 >>= _) _ _ s
  refine wpAny_bind (wpAny_field hit rfl (x := rawInt step) rfl ?_)
  show wpAny _ _ (if left ≤ 0 then _ else _) _ _ s
  rw [if_pos hl]
  refine wpAny_bind (wpAny_rule ?_)
  refine wpAny_bind ?_
  show wpAny _ _ (newExc (.type "StopIteration") [] >>= _) _ _ _
  refine wpAny_bind ?_
  simp only [newExc, newTuple]
  refine wpAny_bind (wpAny_newObj_type ?_ (by size_fits))
  refine wpAny_bind (m := firstArgMember _ _) (wpAny_of_eq (a := Value.none) (by first | rfl | (simp only [firstArgMember]; rfl)) ?_)
  refine wpAny_newObj_type ?_ (by size_fits)
  simp only [raiseNew]
  refine wpAny_bind (wpAny_handled ?_)
  first | rw [show A.in1.handled = none from hh] | rw [hh]
  refine wpAny_bind (wpAny_pure (wpAny_throw ?_))
  exact hE _ _ (((Heap.ExtBut.refl it s.heap).push _).push _) ⟨_, Heap.get?_push_size _ rfl, rfl⟩
end
theorem draws_rng {prog : Program} {w : World} {A : Around} (hh : A.handled = none) (it : Addr) (lo : Int) (n off : Nat) :
    Draws prog w A it [it] (n - off) (fun j v => ∃ t, v = .int (lo + ((off + j : Nat) : Int)) t) (fun j h => IsRangeIter h it (lo + ((off + j : Nat) : Int)) ((n : Int) - ((off + j : Nat) : Int)) 1) := by
  refine ⟨fun j h p => ⟨_, p⟩, fun j h h2 p k => k it (by simp) _ p, fun j s Q E hj p hQ => ?_, fun s Q E p hE => ?_⟩
  · refine nextOf_rng_item p (by omega) fun h2 q sb => hQ _ h2 _ ⟨_, rfl⟩ ?_ sb
    have e1 : lo + ((off + (j + 1) : Nat) : Int) = lo + ((off + j : Nat) : Int) + 1 := by omega
    have e2 : (n : Int) - ((off + (j + 1) : Nat) : Int) = (n : Int) - ((off + j : Nat) : Int) - 1 := by omega
    rw [e1, e2]
    exact q
  · exact nextOf_rng_end hh p (by omega) hE
/-- both as they stand at each turn -/
def ItzR (K : PySem.W.Frag) (u : Bool) (lo : Int) (n : Nat) (b : Addr) : L2.It :=
  ⟨fun i H => i < n ∧ ∃ (ys : List V) (y : V), SqB u K H b ys ∧ ys[i]? = some y,
    fun i H v H2 => ∃ T y, v = .ref T ∧ H T = none ∧ H2 = upd H T (.tup [.int (lo + ((i : Nat) : Int)), y]) ∧ i < n ∧ ∀ ys, SqB u K H b ys → ys[i]? = some y,
    fun i H => ∃ ys : List V, SqB u K H b ys ∧ (n ≤ i ∨ ys.length ≤ i)⟩
theorem turn_zipR {P : Program} {w : World} {K : PySem.W.Frag} {elts : List Expr} {kk : Nat} {tpos : Pos} {u : Bool} {lo : Int} {n : Nat} {b z TI TO i1 i2 : Addr} (D : ZipSep2 z TI TO i1 i2 [i1] [i2, b]) (n2 : b ≠ i2) :
    Turn P w K (.Tuple elts kk tpos) (ItzR K u lo n b) [z, TI, TO, i1, i2] z (fun i h => IsZip h z TI TO .none ∧ IsTupOf2 h TI (.ref i1) (.ref i2) ∧ (∃ x y, IsTupOf2 h TO x y) ∧ IsRangeIter h i1 (lo + (i : Nat)) ((n : Int) - (i : Nat)) 1 ∧ ItB u h i2 b i) where
  mem := by simp
  obj := fun i h p c hc => by
    obtain ⟨p0, p1, ⟨x, y, p2⟩, p3, p4⟩ := p
    rcases five hc with q | q | q | q | q
    · rw [q]; exact ⟨_, p0, fun v e => nomatch e⟩
    · rw [q]; exact ⟨_, p1, fun v e => nomatch e⟩
    · rw [q]; exact ⟨_, p2, fun v e => nomatch e⟩
    · rw [q]; exact ⟨_, p3, fun v e2 => by cases e2⟩
    · obtain ⟨o, vs, e, d⟩ := p4.obj
      rw [q]; exact ⟨o, e, fun v e2 => by rw [d] at e2; cases e2⟩
  keep := fun i h h2 p k => by
    obtain ⟨p0, p1, ⟨x, y, p2⟩, p3, p4⟩ := p
    exact ⟨k z (by simp) _ p0, k TI (by simp) _ p1, ⟨x, y, k TO (by simp) _ p2⟩, k i1 (by simp) _ p3, p4.keep fun o => k i2 (by simp) o⟩
  item := by
    intro X e1 e2 e3 hc i pins s σ H E I hf p hg
    subst e1 e2 e3
    obtain ⟨p0, p1, ⟨x0, y0, p2⟩, p3, p4⟩ := p
    obtain ⟨hi, ys, y, sy, gy⟩ := hg
    obtain ⟨its2, rv2, ay⟩ := sy.at I
    obtain ⟨v2, hv2, rv2⟩ := rv2.get gy
    have zlt : z < s.heap.objs.size := Heap.lt_size p0
    have ha : X.A.in1.handled = none := I.ok.hd hc
    have g1 : 0 < n - i := by omega
    have g2 : 0 < its2.toArray.size - i := by
      have := (List.getElem?_eq_some_iff.mp hv2).1
      simp; omega
    refine wpAny_pyNext_zipD2_item (i := 0) D (draws_rng ha i1 lo n i) (draws_from ha u i2 b n2 its2.toArray i) p0 p1 p2 p3 ⟨p4, ay⟩ g1 g2 fun w1 w2 h2 tk q1 q2 b1 b2 b3 b4 b5 b6 b7 => ?_
    obtain ⟨t0, ew1⟩ := q1
    have ew2 : w2 = v2 := by
      have : its2.toArray[i]? = some w2 := q2
      rw [show its2.toArray[i]? = some v2 by simpa using hv2] at this
      exact (Option.some.inj this).symm
    subst ew2
    have rv1 : RelV (.int (lo + ((i : Nat) : Int))) w1 := ⟨t0, ew1⟩
    refine ⟨_, rfl, wpAny_letOwnedTupleGo_zip (s := { s with heap := h2, toks := tk }) b1 fun h3 c0 sb => ?_⟩
    have nT : ObjOk X.prog X.w (upd H s.heap.objs.size (.tup [.int (lo + ((i : Nat) : Int)), y])) h3 s.heap.objs.size (.tup [.int (lo + ((i : Nat) : Int)), y]) :=
      ⟨by show 2 ≤ sizeLine; decide, [w1, w2], .cons rv1 (.cons rv2 .nil), ⟨_, (sb.2 _ (Nat.ne_of_gt zlt)).trans b5, rfl, _, rfl⟩⟩
    have I1 : Inv X pins σ (upd H s.heap.objs.size (.tup [.int (lo + ((i : Nat) : Int)), y])) { s with heap := h3, toks := tk } :=
      I.turnedNew (t' := tk) (ch := [z, TI, TO, i1, i2]) (fun c o hn q => (sb.2 c (fun e => hn (by simp [e]))).trans (b7 c o (fun e => hn (by simp [e])) (fun e => hn (by simp [e])) (fun e => hn (by simp [e])) (fun e => hn (by simp [e])) q)) hf (Nat.le_refl _) nT
    have ne1 : i1 ≠ z := fun e => D.zf1 (by simp [e])
    have ne2 : i2 ≠ z := fun e => D.zf2 (by simp [e])
    refine ⟨.ref s.heap.objs.size, _, I1, rfl, ⟨_, y, rfl, I.hok.fresh (Nat.le_refl _), rfl, hi, fun l q => by rw [q.inj I sy]; exact gy⟩, ⟨c0, ?_, ⟨w1, w2, (sb.2 _ D.TOz).trans b2⟩, (sb.2 _ ne1).trans b3, b4.1.keep fun o q => (sb.2 _ ne2).trans q⟩, fun c hcm => ?_⟩
    · exact (sb.2 _ D.TIz).trans (b7 _ _ D.TIz D.TITO D.TIi1 D.TIi2 p1)
    · have lt : c < s.heap.objs.size := by
        rcases five hcm with q | q | q | q | q
        · rw [q]; exact zlt
        · rw [q]; exact Heap.lt_size p1
        · rw [q]; exact Heap.lt_size p2
        · rw [q]; exact Heap.lt_size p3
        · obtain ⟨o, vs, e, d⟩ := p4.obj
          rw [q]; exact Heap.lt_size e
      rw [upd_ne (Nat.ne_of_lt lt)]
      exact (hf c hcm).1
  done := by
    intro X e1 e2 e3 hc i pins s σ H E I hf p hg
    subst e1 e2 e3
    obtain ⟨p0, p1, ⟨x0, y0, p2⟩, p3, p4⟩ := p
    obtain ⟨ys, sy, hend⟩ := hg
    obtain ⟨its2, rv2, ay⟩ := sy.at I
    have q2 := rv2.length
    have ha : X.A.in1.handled = none := I.ok.hd hc
    refine wpAny_pyNext_zipD2_end (i := 0) D (draws_rng ha i1 lo n i) (draws_from ha u i2 b n2 its2.toArray i) p0 p1 p2 p3 ⟨p4, ay⟩ (Nat.zero_le _) (Nat.zero_le _) ?_ fun h2 tk k => ⟨rfl, ?_⟩
    · rcases hend with q | q
      · exact .inl (by omega)
      · exact .inr (by simp; omega)
    · exact I.turnedL (t' := tk) (ch := [z, TI, TO, i1, i2]) (fun c o hn q => k c o (fun e => hn (by simp [e])) (fun e => hn (by simp [e])) (fun e => hn (by simp [e])) (fun e => hn (by simp [e])) q) hf
  self := fun A i s Q E p h => wpAny_pyIter_zip p.1 h
theorem begins_rng {r : Addr} {a b : Int} {t u v : Tok} (sm : Builtin.Range.small a b 1 = true) : Begins (.ref r) { cls := .type "range_iterator", data := .fields #[rawInt a, rawInt (Builtin.Range.rangeSize a b 1), rawInt 1] } (fun h => IsRange h r a b 1 t u v) where
  iter := fun prog w A E s Q hr h => wpAny_pyIter_range hr sm h
  keeps := fun h h' x hk => hk r _ x
  free := rfl
theorem small_of {a b : Int} (h0 : 0 ≤ a) (h1 : a ≤ b) (h2 : b ≤ 1000000) : Builtin.Range.small a b 1 = true ∧ Builtin.Range.rangeSize a b 1 = b - a := by
  have e : Builtin.Range.rangeSize a b 1 = b - a := by
    unfold Builtin.Range.rangeSize
    simp
    omega
  refine ⟨?_, e⟩
  unfold Builtin.Range.small
  rw [e]
  unfold Builtin.Range.rangeFitsLong
  simp
  omega
def iZipR (K : PySem.W.Frag) (ta tb ty : TE) : TI := fun σ H R => ta σ H fun x H1 => tb σ H1 fun z H2 => ∃ i j, x = .int i ∧ z = .int j ∧ (0 ≤ i ∧ i ≤ j ∧ j ≤ 1000000) ∧ ty σ H2 fun y H3 => ∃ u b ys, y = .ref b ∧ SqB u K H3 b ys ∧ R (ItzR K u i (j - i).toNat b) H3
theorem pi_zipR {X : Cx} {a b y : Expr} {ta tb ty : TE} {p p2 pos pos2 tpos : Pos} {elts : List Expr} {kk : Nat} (hg : Gl X "zip") (hm : X.mg "zip" = none) (hg2 : Gl X "range") (hm2 : X.mg "range" = none) (ha : PE X a ta) (hb : PE X b tb) (hy : PE X y ty)
    (na : starEach [a, b] X.env = (false, eval a X.env) :: starEach [b] X.env) (nb : starEach [b] X.env = (false, eval b X.env) :: starEach [] X.env) (hp : (backTo pos2 (starEach [b] X.env)).any (·.1) = false)
    (ny : starEach [y] X.env = (false, eval y X.env) :: starEach [] X.env) (hpl : (backTo pos (starEach [y] X.env)).any (·.1) = false) :
    PI X (.Tuple elts kk tpos) (.Call (.Name "zip" p) [.Call (.Name "range" p2) [a, b] [] pos2, y] [] pos) (iZipR X.K ta tb ty) := by
  refine ⟨fun pins s σ H R I h => ?_⟩
  refine Call_ (ld_blt I hg hm PyProof.Rows.boot_zip (PyProof.Rows.callWith_type1 (args_cons ?_ rfl) rfl hpl))
  refine Call_ (ld_blt I hg2 hm2 boot_range (PyProof.Rows.callWith_type1 (args_cons (thn (ha.run pins s σ H _ I h) fun v s1 ⟨x, H1, I1, r1, q1⟩ => one_arg hb I1 q1 (fun u s2 z H2 I2 r2 q => ?_) nb) na) na hp))
  obtain ⟨i, j, rfl, rfl, ⟨b0, b1, b2⟩, q⟩ := q
  obtain ⟨sm, sz⟩ := small_of b0 b1 b2
  obtain ⟨t, rfl⟩ := r1
  obtain ⟨t', rfl⟩ := r2
  refine call_range_2 ?_
  have I3 : Inv X pins σ H2 { s2 with heap := s2.heap.push { cls := .type "range", data := .fields #[.int i t, .int j t', .int 1 s2.toks] }, toks := s2.toks + 1 } := I2.kept fun b u e => Heap.get?_push_of_some _ e
  have fr : FpOk X pins H2 s2.heap.objs.size := I2.fpOk (Nat.le_refl _) (I2.hok.fresh (Nat.le_refl _))
  have ob : (s2.heap.push { cls := .type "range", data := .fields #[.int i t, .int j t', .int 1 s2.toks] }).get? s2.heap.objs.size = some { cls := .type "range", data := .fields #[.int i t, .int j t', .int 1 s2.toks] } := Heap.get?_push_size _ rfl
  have I4 := I3.pinned (fp := [s2.heap.objs.size]) (fun b hb => by rw [List.mem_singleton.mp hb]; exact fr) (fun b hb => by rw [List.mem_singleton.mp hb]; exact ⟨_, ob, fun v z => by cases z⟩)
  refine one_arg hy I4 q (fun u s3 y3 H3 I5 r3 q3 => ?_) ny
  obtain ⟨tt, b3, ys, rfl, sy, q4⟩ := q3
  have pin : s3.heap.get? s2.heap.objs.size = some { cls := .type "range", data := .fields #[.int i t, .int j t', .int 1 s2.toks] } := (I5.pin (s2.heap.objs.size, _) (List.mem_append_right _ (List.mem_append_right _ (mem_pinsAt List.mem_cons_self ob)))).1
  have I6 : Inv X pins σ H3 s3 := I5.unpinned
  obtain rfl : u = Value.ref b3 := r3
  obtain ⟨its2, _, ay⟩ := sy.at I6
  have lb := ay.lt
  have fr6 : ∀ c, c ∈ [s3.heap.objs.size + 4, s3.heap.objs.size + 2, s3.heap.objs.size + 3, s3.heap.objs.size, s3.heap.objs.size + 1] → FpOk X pins H3 c := fun c hcm => by
    have le : s3.heap.objs.size ≤ c := by
      rcases five hcm with z | z | z | z | z
      · exact z ▸ Nat.le_add_right _ _
      · exact z ▸ Nat.le_add_right _ _
      · exact z ▸ Nat.le_add_right _ _
      · exact z ▸ Nat.le_refl _
      · exact z ▸ Nat.le_add_right _ _
    exact I6.fpOk le (I6.hok.fresh le)
  refine zip_begins2 (begins_rng sm) (begins_B tt b3 its2.toArray) pin ay fun h2 c0 c1 c2 c3 c4 c5 c6 => wpAny_pyIter_zip c0 ?_
  have I7 : Inv X pins σ H3 { s3 with heap := h2 } := I6.kept (t' := s3.toks) c6
  have c3' : IsRangeIter h2 s3.heap.objs.size (i + ((0 : Nat) : Int)) (((j - i).toNat : Int) - ((0 : Nat) : Int)) 1 := by
    rw [sz] at c3
    have e1 : i + ((0 : Nat) : Int) = i := by omega
    have e2 : ((j - i).toNat : Int) - ((0 : Nat) : Int) = j - i := by omega
    rw [e1, e2]
    exact c3
  refine ⟨s3.heap.objs.size + 4, [s3.heap.objs.size + 4, s3.heap.objs.size + 2, s3.heap.objs.size + 3, s3.heap.objs.size, s3.heap.objs.size + 1], _, _, H3, rfl, I7, turn_zipR (zip_sep2 (fp1 := []) (fp2 := [b3]) (fun c hc => absurd hc List.not_mem_nil) (fun c hc => by rw [List.mem_singleton.mp hc]; exact lb)) (Nat.ne_of_lt (Nat.lt_succ_of_lt lb)), ⟨c0, c1, ⟨_, _, c2⟩, c3', it_new c4⟩, fr6, q4⟩
theorem walk_zipR {G : Gx} {P M ρ : List Addr} {H : Hp} {u : Bool} {b : Addr} {lo : Int} {n : Nat} {es : List D} {us : List V} (mk : Mk M H) (hPM : ∀ a ∈ P, a ∈ M) (g : AtW G u P H b us) (he : DVs G M ρ H es us) :
    Walk G P M ρ H (ItzR G.K u lo n b) (zipD (rngFrom lo n) es) := by
  have key : ∀ (n : Nat) (lo : Int) (i : Nat), (rngFrom lo n)[i]? = if i < n then some (.int (lo + i)) else none := by
    intro n
    induction n with
    | zero => intro lo i; simp [rngFrom]
    | succ n ih =>
      intro lo i
      cases i with
      | zero => simp [rngFrom]
      | succ i =>
        simp only [rngFrom, List.getElem?_cons_succ, ih]
        by_cases h : i < n
        · rw [if_pos h, if_pos (by omega)]
          congr 2
          omega
        · rw [if_neg h, if_neg (by omega)]
  have len : ∀ (n : Nat) (lo : Int), (rngFrom lo n).length = n := by
    intro n
    induction n with
    | zero => intro lo; rfl
    | succ n ih => intro lo; simp [rngFrom, ih]
  intro M' ρ' H' hp hm hr mk'
  have g' := (g.stay mk hPM hp).sq
  have he' := dvs_stay mk hPM he hp hm hr
  refine ⟨fun i d e => ?_, fun i hi => ⟨us, g', ?_⟩⟩
  · obtain ⟨x, y, e1, e2, rfl⟩ := zip_get _ _ _ _ e
    rw [key] at e1
    split at e1
    rotate_left
    · cases e1
    rename_i hi
    cases e1
    obtain ⟨z, q3, q4⟩ := he'.get e2
    refine ⟨⟨hi, us, z, g', q3⟩, fun w H'' y => ?_⟩
    obtain ⟨T, y', rfl, hT, rfl, _, y2⟩ := y
    have z2 := y2 us g'
    rw [q3] at z2
    cases z2
    exact ⟨same_laid hT, pair_new mk' hT (show DV G M' ρ' H' (.int (lo + ((i : Nat) : Int))) (.int (lo + ((i : Nat) : Int))) from rfl) q4⟩
  · rw [zip_len, len] at hi
    rw [he.length]
    omega
theorem ziprE_inv {x y d : D} {zs : List D} (h : ziprE x y d = some zs) : ∃ i j, x = .int i ∧ y = .int j ∧ (0 ≤ i ∧ i ≤ j ∧ j ≤ 1000000) ∧ ∃ xs, seqOf d = some xs ∧ zs = zipD (rngFrom i (j - i).toNat) xs := by
  unfold ziprE at h
  split at h
  · split at h
    · obtain ⟨xs, e1, e2⟩ := Option.map_eq_some_iff.mp h
      exact ⟨_, _, rfl, rfl, by assumption, xs, e1, e2.symm⟩
    · cases h
  · cases h
section
variable {G : Gx} {X : Cx} {P : Par}
theorem pi_ziprD {strong : Bool} {a b y : Expr} {ea eb e : Ex} {p p2 pos pos2 tpos : Pos} {elts : List Expr} {kk : Nat} (xa : XA G X) (hg : Gl X "zip") (hm : X.mg "zip" = none) (hg2 : Gl X "range") (hm2 : X.mg "range" = none) (ha : PE X a (tE G (relS G) (ea.ev P))) (hb : PE X b (tE G (relS G) (eb.ev P))) (hy : PE X y (tE G (rel strong G) (e.ev P)))
    (na : starEach [a, b] X.env = (false, eval a X.env) :: starEach [b] X.env) (nb : starEach [b] X.env = (false, eval b X.env) :: starEach [] X.env) (hp : (backTo pos2 (starEach [b] X.env)).any (·.1) = false)
    (ny : starEach [y] X.env = (false, eval y X.env) :: starEach [] X.env) (hpl : (backTo pos (starEach [y] X.env)).any (·.1) = false) :
    PI X (.Tuple elts kk tpos) (.Call (.Name "zip" p) [.Call (.Name "range" p2) [a, b] [] pos2, y] [] pos) (tI G strong ((It.zipr ea eb e).ev P)) := by
  refine PI_imp (pi_zipR hg hm hg2 hm2 ha hb hy na nb hp ny hpl) fun σ H R h => ?_
  obtain ⟨B, env, st, ρ, xs, st', rs, re, ev, k⟩ := h
  unfold It.ev at ev
  obtain ⟨dx, st1, e1, ev⟩ := Res.bind_eq ev
  obtain ⟨dy, st2, e2, ev⟩ := Res.bind_eq ev
  obtain ⟨d, st3, e3, e4⟩ := Res.bind_eq ev
  obtain ⟨e5, rfl⟩ := ofOpt_eq e4
  obtain ⟨i, j, rfl, rfl, bd, xs0, c1, rfl⟩ := ziprE_inv e5
  refine ⟨B, env, st, ρ, _, _, rs, re, e1, fun v ρ' H' sp rs' q0 => ?_⟩
  obtain rfl : v = .int i := q0
  refine ⟨B, env, st1, ρ', _, _, rs', re.stp rs.mt rs.off sp, e2, fun v2 ρ2 H2 sp2 rs2 q2 => ?_⟩
  obtain rfl : v2 = .int j := q2
  refine ⟨i, j, rfl, rfl, bd, B, env, st2, ρ2, _, _, rs2, re.stp rs.mt rs.off (sp.trans sp2), e3, fun u ρ3 H3 sp3 rs3 q3 => ?_⟩
  obtain ⟨t, b, us, rfl, g3, g4⟩ := rel_seq rs3.off c1 q3
  refine ⟨t, b, us, rfl, by rw [xa.K]; exact g3.sq, ?_⟩
  rw [xa.K]
  exact k _ ρ3 H3 ((sp.trans sp2).trans sp3) rs3 (walk_zipR rs3.mt (fun a h => pset_sub a h) g3 g4)
end
end Dp
set_option Elab.async false
set_option linter.all false
set_option maxRecDepth 100000
set_option maxHeartbeats 4000000
namespace Dp
open PySem PySem.Spec PyProof.Rows L2 PySem.W PySem.SeqAt
section
variable {G : Gx} {X : Cx} {P : Par}
theorem fin_of {B ρ ρ2 : List Addr} {H H2 : Hp} {st' : Store} {Q : VK} {d : D} (sp : Stp ρ H ρ2 H2) (rs2 : RS (G := G) B st' ρ2 H2) (k : ∀ v ρ' H', Stp ρ H ρ' H' → RS (G := G) B st' ρ' H' → relS G B ρ' H' d v → Q v H') : Fin G B ρ2 H2 Q d :=
  fun v H' s q => k v ρ2 H' (sp.trans (same_stp s)) (rs2.same s) q
abbrev PES (G : Gx) (X : Cx) (P : Par) (x : Expr) (e : Ex) : Prop := PE X x (tE G (relS G) (e.ev P))
abbrev PEW (G : Gx) (X : Cx) (P : Par) (x : Expr) (e : Ex) : Prop := PE X x (tE G (relW G) (e.ev P))
theorem getS_fre {B ρ : List Addr} {env : Env} {σ : L2.St} {H : Hp} {i : Nat} {d : D} (re : RE (G := G) B env ρ σ H) (h : getS env i = some d) : ∃ v, σ[i]? = some (some v) ∧ DV G (ρ ++ B) ρ H d v := by
  unfold getS at h
  split at h
  · cases h; exact re.fre i d (by assumption)
  · cases h
theorem pe_v {i : Nat} {x : Str} {pos : Pos} (hN : X.N[i]? = some x) (hv : Vis X.env.scope x) (hd : (x == ("__debug__" : Str)) = false) (hcd : (x == ("__classdict__" : Str)) = false) : PES G X P (.Name x pos) (.v i) :=
  PE_imp (pe_var hN hv hd hcd) fun σ H Q ⟨B, env, st, ρ, d, st', rs, re, ev, k⟩ => by
    unfold Ex.ev at ev
    obtain ⟨e, rfl⟩ := ofOpt_eq ev
    obtain ⟨v, h1, h2⟩ := getS_fre re e
    exact ⟨v, h1, k v ρ H (Stp.refl _ _) rs h2⟩
/-- a constant of the text -/
def litOk : Const → D → Bool
  | .none, .non => true
  | .bool a, .bl b => a == b
  | .int i, .int j => i == j
  | .str s, .str t => decide (s = t)
  | _, _ => false
theorem pe_lit {c : Const} {d : D} {j : Nat} {pos : Pos} (h : litOk c d = true) : PES G X P (.Constant c j pos) (.lit d) := by
  have key : ∀ v, (∀ M ρ H, DV G M ρ H d v) → PE X (.Constant c j pos) (tC v) → PES G X P (.Constant c j pos) (.lit d) := fun v hv hp =>
    PE_imp hp fun σ H Q ⟨B, env, st, ρ, d', st', rs, re, ev, k⟩ => by
      unfold Ex.ev at ev
      cases ev
      exact k v ρ H (Stp.refl _ _) rs (hv _ _ _)
  cases c <;> cases d <;> simp only [litOk, Bool.false_eq_true, beq_iff_eq, decide_eq_true_eq] at h
  · exact key _ (fun _ _ _ => rfl) pe_non
  · subst h; exact key _ (fun _ _ _ => rfl) pe_bl
  · subst h; exact key _ (fun _ _ _ => rfl) pe_int
  · subst h; exact key _ (fun _ _ _ => rfl) pe_str
theorem pa_nilS : PA X [] (tAs G (relsS G) ((Exs.nil).ev P)) := PA_imp pa_nil fun σ H Q ⟨B, env, st, ρ, d, st', rs, re, ev, k⟩ => by
  unfold Exs.ev at ev
  cases ev
  exact k [] ρ H (Stp.refl _ _) rs rfl
theorem pa_nilW : PA X [] (tAs G (relsW G) ((Exs.nil).ev P)) := PA_imp pa_nil fun σ H Q ⟨B, env, st, ρ, d, st', rs, re, ev, k⟩ => by
  unfold Exs.ev at ev
  cases ev
  exact k [] ρ H (Stp.refl _ _) rs rfl
theorem pa_consS {x : Expr} {xs : List Expr} {e : Ex} {es : Exs} (hx : PES G X P x e) (hr : PA X xs (tAs G (relsS G) (es.ev P))) (na : starEach (x :: xs) X.env = (false, eval x X.env) :: starEach xs X.env) : PA X (x :: xs) (tAs G (relsS G) ((Exs.cons e es).ev P)) :=
  PA_imp (pa_cons hx hr na) fun σ H Q ⟨B, env, st, ρ, d, st', rs, re, ev, k⟩ => by
    unfold Exs.ev at ev
    obtain ⟨a, st1, e1, ev⟩ := Res.bind_eq ev
    obtain ⟨as, st2, e2, e3⟩ := Res.bind_eq ev
    cases e3
    refine ⟨B, env, st, ρ, _, _, rs, re, e1, fun v ρ1 H1 sp1 rs1 q1 => ⟨B, env, st1, ρ1, _, _, rs1, re.stp rs.mt rs.off sp1, e2, fun vs ρ2 H2 sp2 rs2 q2 => ?_⟩⟩
    exact k (v :: vs) ρ2 H2 (sp1.trans sp2) rs2 (.cons (DV.stp rs1.mt sp2 q1) q2)
theorem pa_consW {x : Expr} {xs : List Expr} {e : Ex} {es : Exs} (hx : PEW G X P x e) (hr : PA X xs (tAs G (relsW G) (es.ev P))) (na : starEach (x :: xs) X.env = (false, eval x X.env) :: starEach xs X.env) : PA X (x :: xs) (tAs G (relsW G) ((Exs.cons e es).ev P)) :=
  PA_imp (pa_cons hx hr na) fun σ H Q ⟨B, env, st, ρ, d, st', rs, re, ev, k⟩ => by
    unfold Exs.ev at ev
    obtain ⟨a, st1, e1, ev⟩ := Res.bind_eq ev
    obtain ⟨as, st2, e2, e3⟩ := Res.bind_eq ev
    cases e3
    refine ⟨B, env, st, ρ, _, _, rs, re, e1, fun v ρ1 H1 sp1 rs1 q1 => ⟨B, env, st1, ρ1, _, _, rs1, re.stp rs.mt rs.off sp1, e2, fun vs ρ2 H2 sp2 rs2 q2 => ?_⟩⟩
    exact k (v :: vs) ρ2 H2 (sp1.trans sp2) rs2 ⟨v, vs, rfl, DB.stp rs1.mt rs1.off sp2 q1, q2⟩
theorem prim1_inv {p : Pr} {a : Ex} {env : Env} {st st' : Store} {d : D} (h : (Ex.prim p (.cons a .nil)).ev P env st = .ok d st') : ∃ x, a.ev P env st = .ok x st' ∧ prEv st' p [x] = some d := by
  unfold Ex.ev Exs.ev at h
  obtain ⟨ds, st1, h1, h2⟩ := Res.bind_eq h
  obtain ⟨x, st2, h3, h4⟩ := Res.bind_eq h1
  obtain ⟨e, rfl⟩ := ofOpt_eq h2
  unfold Exs.ev at h4
  cases h4
  exact ⟨x, h3, e⟩
theorem prim2_inv {p : Pr} {a b : Ex} {env : Env} {st st' : Store} {d : D} (h : (Ex.prim p (.cons a (.cons b .nil))).ev P env st = .ok d st') : ∃ x y st1, a.ev P env st = .ok x st1 ∧ b.ev P env st1 = .ok y st' ∧ prEv st' p [x, y] = some d := by
  unfold Ex.ev Exs.ev at h
  obtain ⟨ds, st1, h1, h2⟩ := Res.bind_eq h
  obtain ⟨x, st2, h3, h4⟩ := Res.bind_eq h1
  obtain ⟨e, rfl⟩ := ofOpt_eq h2
  unfold Exs.ev at h4
  obtain ⟨ys, st3, h5, h6⟩ := Res.bind_eq h4
  obtain ⟨y, st4, h7, h8⟩ := Res.bind_eq h5
  unfold Exs.ev at h8
  cases h8
  cases h6
  exact ⟨x, y, st2, h3, h7, e⟩
/-- two operands, then an eager step -/
theorem two_step {x y : Expr} {a b : Ex} {p : Pr} {f : Store → D → D → Option D} {σ : L2.St} {H : Hp} {Q : VK} (hp : ∀ st u v, prEv st p [u, v] = f st u v) (h : tE G (relS G) ((Ex.prim p (.cons a (.cons b .nil))).ev P) σ H Q) :
    tOp (r2S G f) (tE G (relW G) (a.ev P)) (tE G (relW G) (b.ev P)) σ H Q := by
  obtain ⟨B, env, st, ρ, d, st', rs, re, ev, k⟩ := h
  obtain ⟨u, v, st1, e1, e2, e3⟩ := prim2_inv ev
  rw [hp] at e3
  refine ⟨B, env, st, ρ, _, _, rs, re, e1, fun v1 ρ1 H1 sp1 rs1 q1 => ⟨B, env, st1, ρ1, _, _, rs1, re.stp rs.mt rs.off sp1, e2, fun v2 ρ2 H2 sp2 rs2 q2 => ?_⟩⟩
  exact ⟨B, ρ2, st', _, _, _, rs2, DB.stp rs1.mt rs1.off sp2 q1, q2, e3, fin_of (sp1.trans sp2) rs2 k⟩
theorem r2_of {f : D → D → Option D} {o : Value → Value → Sem Value} (h : OpR X o (r2D G f)) : OpR X o (r2S G fun _ => f) := fun pins s σ H x y v u Q I rx ry ⟨B, ρ, st, d, e, r, q⟩ => h pins s σ H x y v u Q I rx ry ⟨B, ρ, st, d, e, r, q⟩
theorem pe_bo (xa : XA G X) {o : Bo} {x y : Expr} {a b : Ex} {pos : Pos} (ha : PEW G X P x a) (hb : PEW G X P y b) : PES G X P (.BinOp x (boOp o) y pos) (.prim (.bo o) (.cons a (.cons b .nil))) :=
  PE_imp (pe_op (r2_of (bo_ok xa o)) ha hb) fun σ H Q h => two_step (x := x) (y := y) (fun _ _ _ => rfl) h
theorem pe_co (xa : XA G X) {o : Co} {x y : Expr} {a b : Ex} {pos : Pos} (ha : PEW G X P x a) (hb : PEW G X P y b) (hm : behindInMarks (coOp o) y = false) : PES G X P (.Compare x [coOp o] [y] pos) (.prim (.co o) (.cons a (.cons b .nil))) :=
  PE_imp (pe_cmpR (r2_of (co_ok xa o)) ha hb hm) fun σ H Q h => two_step (x := x) (y := y) (fun _ _ _ => rfl) h
theorem pe_sub' (xa : XA G X) {x y : Expr} {a b : Ex} {pos : Pos} (ha : PEW G X P x a) (hb : PEW G X P y b) (hs : PlainIx y) : PES G X P (.Subscript x y pos) (.prim .sub (.cons a (.cons b .nil))) :=
  PE_imp (pe_ix (sub_ok xa) ha hb hs) fun σ H Q h => two_step (x := x) (y := y) (fun _ _ _ => rfl) h
theorem pe_neg (xa : XA G X) {x : Expr} {a : Ex} {pos : Pos} (ha : PEW G X P x a) : PES G X P (.UnaryOp .USub x pos) (.prim .neg (.cons a .nil)) :=
  PE_imp (pe_un (neg_ok xa) ha) fun σ H Q ⟨B, env, st, ρ, d, st', rs, re, ev, k⟩ => by
    obtain ⟨u, e1, e2⟩ := prim1_inv ev
    exact ⟨B, env, st, ρ, _, _, rs, re, e1, fun v1 ρ1 H1 sp1 rs1 q1 => ⟨B, ρ1, st', _, _, rs1, q1, e2, fin_of sp1 rs1 k⟩⟩
theorem pe_tupD {xs : List Expr} {es : Exs} {k : Nat} {pos : Pos} (ha : PA X xs (tAs G (relsS G) (es.ev P))) : PES G X P (.Tuple xs k pos) (.tup es) :=
  PE_imp (pe_tup ha) fun σ H Q ⟨B, env, st, ρ, d, st', rs, re, ev, k⟩ => by
    unfold Ex.ev at ev
    obtain ⟨ds, st1, e1, e2⟩ := Res.bind_eq ev
    obtain ⟨g2, rfl⟩ := ofOpt_eq e2
    obtain ⟨hl, rfl⟩ := fits_some g2
    refine ⟨B, env, st, ρ, _, _, rs, re, e1, fun vs ρ1 H1 sp1 rs1 q1 => ⟨by rw [DVs.length q1, ← lim_line]; exact hl, fun p hp => Fin.tup rs1 (fin_of sp1 rs1 k) q1 hp⟩⟩
theorem tru_of {B ρ : List Addr} {H : Hp} {d : D} {v : V} {k : Bool} (xa : XA G X) (h : DB G B ρ H d v) (e : d.tru = some k) : TruV X.K v H k := by
  cases d with
  | non => have := h.non; subst this; exact (Option.some.inj e).symm
  | bl b => have := h.bl; subst this; exact (Option.some.inj e).symm
  | int i => have := h.int; subst this; exact (Option.some.inj e).symm
  | str s =>
    have := h.str
    subst this
    simp only [D.tru] at e
    split at e
    · rename_i hl
      exact ⟨by rw [← lim_line]; exact hl, (Option.some.inj e).symm⟩
    · cases e
  | tup ds =>
    obtain ⟨p, vs, rfl, h1, h2⟩ := h.tup
    refine .inr (.inl ⟨vs, by rw [xa.K]; exact h1, ?_⟩)
    rw [← Option.some.inj e]
    cases ds with
    | nil => have h2 : vs = [] := h2; rw [h2]; rfl
    | cons _ _ => obtain ⟨_, _, e2, _⟩ := h2; rw [e2]; rfl
  | lst ds =>
    obtain ⟨p, vs, rfl, h1, h2⟩ := h.lst
    refine .inl ⟨vs, .inl h1, ?_⟩
    rw [← Option.some.inj e]
    cases ds with
    | nil => have h2 : vs = [] := h2; rw [h2]; rfl
    | cons _ _ => obtain ⟨_, _, e2, _⟩ := h2; rw [e2]; rfl
  | dct _ _ => cases e
  | ref _ => cases e
  | fn _ => cases e
  | tpx _ => cases e
  | er _ _ => cases e
/-- a value as a test -/
theorem pt_of {x : Expr} {f : Env → Store → Res D} {g : Env → Store → Res Bool} (xa : XA G X) (h : PE X x (tE G (relW G) f)) (he : ∀ whole, isTrue x X.env whole = (do let v ← whole; standAt x.pos; holding [v] (truthy v)))
    (hg : ∀ env st b st', g env st = .ok b st' → ∃ d, f env st = .ok d st' ∧ d.tru = some b) : PT X x (tT G g) :=
  PT_imp (pt_truth h he) fun σ H Q ⟨B, env, st, ρ, b, st', rs, re, ev, k⟩ => by
    obtain ⟨d, e1, e2⟩ := hg _ _ _ _ ev
    exact ⟨B, env, st, ρ, d, st', rs, re, e1, fun v ρ1 H1 sp1 rs1 q1 => ⟨b, tru_of xa q1 e2, k ρ1 H1 sp1 rs1⟩⟩
theorem pe_notD (xa : XA G X) {x : Expr} {a : Ex} {pos : Pos} (ha : PEW G X P x a) : PES G X P (.UnaryOp .Not x pos) (.not a) := by
  refine ⟨fun pins s σ H Q I h => ?_⟩
  obtain ⟨B, env, st, ρ, d, st', rs, re, ev, k⟩ := h
  unfold Ex.ev at ev
  obtain ⟨u, st1, e1, ev⟩ := Res.bind_eq ev
  obtain ⟨b, st2, e2, e3⟩ := Res.bind_eq ev
  obtain ⟨g2, rfl⟩ := ofOpt_eq e2
  cases e3
  refine UnaryOp_ (thn (PE_go ha I rs re e1) fun v s1 ⟨y, H1, I1, r1, ρ1, sp, rs1, q⟩ => ?_)
  refine not_of (thn (tru_ok pins s1 σ H1 y v (fun c H2 => c = b ∧ H2 = H1) I1 r1 ⟨b, tru_of xa q g2, rfl, rfl⟩) fun c s2 ⟨H2, I2, ec, eh⟩ => ?_)
  subst ec eh
  exact ⟨.bl (!c), H2, I2, rfl, k _ ρ1 H2 sp rs1 rfl⟩
theorem pe_iteD {c x y : Expr} {e a b : Ex} {pos : Pos} (hc : PT X c (tT G (e.test P))) (ha : PES G X P x a) (hb : PES G X P y b) : PES G X P (.IfExp c x y pos) (.ife e a b) :=
  PE_imp (pe_ifExp hc ha hb) fun σ H Q ⟨B, env, st, ρ, d, st', rs, re, ev, k⟩ => by
    unfold Ex.ev at ev
    obtain ⟨t, st1, e1, e2⟩ := Res.bind_eq ev
    refine ⟨B, env, st, ρ, _, _, rs, re, e1, fun ρ1 H1 sp1 rs1 => ?_⟩
    cases t with
    | true => exact ⟨B, env, _, ρ1, _, _, rs1, re.stp rs.mt rs.off sp1, e2, fun v ρ2 H2 sp2 rs2 q2 => k v ρ2 H2 (sp1.trans sp2) rs2 q2⟩
    | false => exact ⟨B, env, _, ρ1, _, _, rs1, re.stp rs.mt rs.off sp1, e2, fun v ρ2 H2 sp2 rs2 q2 => k v ρ2 H2 (sp1.trans sp2) rs2 q2⟩
theorem pt_notD {x : Expr} {a : Ex} {pos : Pos} (ha : PT X x (tT G (a.test P))) : PT X (.UnaryOp .Not x pos) (tT G ((Ex.not a).test P)) :=
  PT_imp (pt_not ha) fun σ H Q ⟨B, env, st, ρ, d, st', rs, re, ev, k⟩ => by
    unfold Ex.test at ev
    obtain ⟨t, st1, e1, e2⟩ := Res.bind_eq ev
    cases e2
    exact ⟨B, env, st, ρ, _, _, rs, re, e1, fun ρ1 H1 sp1 rs1 => k ρ1 H1 sp1 rs1⟩
/-- a comparison as a test -/
theorem pt_coD (xa : XA G X) {o : Co} {x y : Expr} {a b : Ex} {pos : Pos} (ha : PEW G X P x a) (hb : PEW G X P y b) (hm : behindInMarks (coOp o) y = false) : PT X (.Compare x [coOp o] [y] pos) (tT G ((Ex.prim (.co o) (.cons a (.cons b .nil))).test P)) :=
  PT_imp (pt_cmpR (r2_of (co_ok xa o)) ha hb hm) fun σ H Q ⟨B, env, st, ρ, t, st', rs, re, ev, k⟩ => by
    have ev2 : ∃ d, (Ex.prim (.co o) (.cons a (.cons b .nil))).ev P env st = .ok d st' ∧ d.tru = some t := by
      unfold Ex.test at ev
      obtain ⟨ds, st1, e1, ev⟩ := Res.bind_eq ev
      obtain ⟨d, st2, e2, e3⟩ := Res.bind_eq ev
      obtain ⟨g3, rfl⟩ := ofOpt_eq e3
      refine ⟨d, ?_, g3⟩
      unfold Ex.ev
      rw [e1]
      exact e2
    obtain ⟨d, e1, e2⟩ := ev2
    have hb : d = .bl t := by
      obtain ⟨u, v, st1, _, _, e5⟩ := prim2_inv e1
      obtain ⟨c, _, rfl⟩ := Option.map_eq_some_iff.mp (show (coEv o u v).map D.bl = some d from e5)
      cases e2
      rfl
    subst hb
    exact two_step (x := x) (y := y) (fun _ _ _ => rfl) ⟨B, env, st, ρ, _, st', rs, re, e1, fun v ρ' H' sp rs' q => ⟨t, q, k ρ' H' sp rs'⟩⟩
end
end Dp
set_option Elab.async false
set_option linter.all false
set_option maxRecDepth 100000
set_option maxHeartbeats 4000000
namespace Dp
open PySem PySem.Calls PySem.Spec PyProof.Rows L2 PySem.W PySem.SeqAt
end Dp
set_option Elab.async false
set_option linter.all false
set_option maxRecDepth 100000
set_option maxHeartbeats 4000000
namespace Dp
open PySem PySem.Spec PyProof.Rows L2 PySem.W PySem.SeqAt
section
variable {G : Gx} {X : Cx} {P : Par}
def gT (K : PySem.W.Frag) : Tg → TG
  | .name i => gName i
  | .pair a b => gTup K 2 (gCons (gT K a) (gCons (gT K b) gNil))
  | .trip a b c => gTup K 3 (gCons (gT K a) (gCons (gT K b) (gCons (gT K c) gNil)))
  | .quad a b c d => gTup K 4 (gCons (gT K a) (gCons (gT K b) (gCons (gT K c) (gCons (gT K d) gNil))))
theorem wipe_set {i : Nat} {x : Option V} : ∀ {vs : List Nat} {σ : L2.St}, i ∈ vs → wipe (σ.set i x) vs = wipe σ vs := by
  have gen : ∀ (vs : List Nat) (σ : L2.St) (j : Nat), (wipe σ vs)[j]? = if j ∈ vs ∧ j < σ.length then some none else σ[j]? := by
    intro vs
    induction vs with
    | nil => intro σ j; simp [wipe]
    | cons v vs ih =>
      intro σ j
      unfold wipe
      rw [List.getElem?_set, wipe_length]
      by_cases h : v = j
      · subst h
        by_cases hl : v < σ.length
        · simp [hl]
        · simp [hl]
      · rw [if_neg h, ih]
        have : j ∈ v :: vs ↔ j ∈ vs := by simp [Ne.symm h]
        simp only [this]
  intro vs σ hi
  apply List.ext_getElem?
  intro j
  rw [gen, gen, List.length_set, List.getElem?_set]
  by_cases hj : j ∈ vs ∧ j < σ.length
  · rw [if_pos hj, if_pos hj]
  · rw [if_neg hj, if_neg hj]
    by_cases e : i = j
    · subst e
      have : ¬ i < σ.length := fun z => hj ⟨hi, z⟩
      rw [if_pos rfl, if_neg this, List.getElem?_eq_none (by omega)]
    · rw [if_neg e]
theorem wipe_idem : ∀ {vs : List Nat} {σ : L2.St}, wipe (wipe σ vs) vs = wipe σ vs := by
  have gen : ∀ (us : List Nat) (vs : List Nat) (σ : L2.St), (∀ i ∈ us, i ∈ vs) → wipe (wipe σ us) vs = wipe σ vs := by
    intro us
    induction us with
    | nil => intro vs σ _; rfl
    | cons u us ih =>
      intro vs σ h
      show wipe ((wipe σ us).set u none) vs = _
      rw [wipe_set (h u List.mem_cons_self)]
      exact ih vs σ fun i hi => h i (List.mem_cons_of_mem _ hi)
  intro vs σ
  exact gen vs vs σ fun _ h => h
theorem re_set {B ρ : List Addr} {env : Env} {σ : L2.St} {H : Hp} {i : Nat} {d : D} {v : V} (re : RE (G := G) B env ρ σ H) (h : DV G (ρ ++ B) ρ H d v) : RE (G := G) B (env.set i (some (false, d))) ρ (σ.set i (some v)) H := by
  refine ⟨by rw [List.length_set, List.length_set]; exact re.len, fun j e hj => ?_, fun j e hj => ?_⟩
  · rw [List.getElem?_set] at hj
    by_cases hij : i = j
    · subst hij
      rw [if_pos rfl] at hj
      split at hj
      · rename_i hl
        cases hj
        exact ⟨v, by rw [List.getElem?_set_self (by rw [re.len]; exact hl)], h⟩
      · cases hj
    · rw [if_neg hij] at hj
      obtain ⟨u, h1, h2⟩ := re.fre j e hj
      exact ⟨u, by rw [List.getElem?_set_ne hij]; exact h1, h2⟩
  · rw [List.getElem?_set] at hj
    by_cases hij : i = j
    · subst hij
      rw [if_pos rfl] at hj
      split at hj <;> cases hj
    · rw [if_neg hij] at hj
      obtain ⟨a, h1, h2⟩ := re.own j e hj
      exact ⟨a, by rw [List.getElem?_set_ne hij]; exact h1, h2⟩
theorem re_wipe {B ρ : List Addr} {env : Env} {σ : L2.St} {H : Hp} (re : RE (G := G) B env ρ σ H) : ∀ vs : List Nat, RE (G := G) B (wipeE env vs) ρ (wipe σ vs) H
  | [] => re
  | v :: vs => by
    have ih := re_wipe re vs
    have key : ∀ (j : Nat) (x : Bool × D), (wipeE env (v :: vs))[j]? = some (some x) → v ≠ j ∧ (wipeE env vs)[j]? = some (some x) := by
      intro j x hj
      show v ≠ j ∧ _
      have hj : ((wipeE env vs).set v none)[j]? = some (some x) := hj
      rw [List.getElem?_set] at hj
      by_cases hij : v = j
      · rw [if_pos hij] at hj
        split at hj <;> cases hj
      · rw [if_neg hij] at hj
        exact ⟨hij, hj⟩
    refine ⟨?_, fun j e hj => ?_, fun j e hj => ?_⟩
    · show ((wipe σ vs).set v none).length = ((wipeE env vs).set v none).length
      rw [List.length_set, List.length_set]
      exact ih.len
    · obtain ⟨n, hj⟩ := key j _ hj
      obtain ⟨u, h1, h2⟩ := ih.fre j e hj
      refine ⟨u, ?_, h2⟩
      show ((wipe σ vs).set v none)[j]? = _
      rw [List.getElem?_set_ne n]
      exact h1
    · obtain ⟨n, hj⟩ := key j _ hj
      obtain ⟨a, h1, h2⟩ := ih.own j e hj
      refine ⟨a, ?_, h2⟩
      show ((wipe σ vs).set v none)[j]? = _
      rw [List.getElem?_set_ne n]
      exact h1
/-- a target that is stored to -/
theorem put_ok {B ρ : List Addr} {H : Hp} : ∀ (t : Tg) (d : D) (v : V) (env env' : Env) (σ : L2.St) (Q : L2.St → Hp → Prop), t.put d env = some env' → RE (G := G) B env ρ σ H → DV G (ρ ++ B) ρ H d v →
    (∀ σ', RE (G := G) B env' ρ σ' H → (∀ vs, (∀ i ∈ t.ixs, i ∈ vs) → wipe σ' vs = wipe σ vs) → Q σ' H) → gT G.K t v σ H Q
  | .name i, d, v, env, env', σ, Q, e, re, hd, k => by
    cases e
    exact k _ (re_set re hd) fun vs h => wipe_set (h i List.mem_cons_self)
  | .pair a b, d, v, env, env', σ, Q, e, re, hd, k => by
    unfold Tg.put at e
    split at e
    · rename_i x y
      obtain ⟨env1, e1, e2⟩ := Option.bind_eq_some_iff.mp e
      obtain ⟨p, vs, rfl, h1, h2⟩ := hd
      obtain ⟨u, r, rfl, g1, g2⟩ := h2
      obtain ⟨w, r, rfl, g3, g4⟩ := g2
      have g4 : r = [] := g4
      subst g4
      refine ⟨p, [u, w], rfl, h1, rfl, u, [w], rfl, put_ok a x u env env1 σ _ e1 re g1 fun σ1 re1 w1 => ?_⟩
      refine ⟨w, [], rfl, put_ok b y w env1 env' σ1 _ e2 re1 g3 fun σ2 re2 w2 => ⟨rfl, ?_⟩⟩
      exact k σ2 re2 fun vs h => by rw [w2 vs fun i hi => h i (List.mem_append_right _ hi), w1 vs fun i hi => h i (List.mem_append_left _ hi)]
    · cases e
  | .trip a b c, d, v, env, env', σ, Q, e, re, hd, k => by
    unfold Tg.put at e
    split at e
    · rename_i x y z
      obtain ⟨env1, e1, e'⟩ := Option.bind_eq_some_iff.mp e
      obtain ⟨env2, e2, e3⟩ := Option.bind_eq_some_iff.mp e'
      obtain ⟨p, vs, rfl, h1, h2⟩ := hd
      obtain ⟨u, r, rfl, g1, g2⟩ := h2
      obtain ⟨w, r, rfl, g3, g4⟩ := g2
      obtain ⟨w3, r, rfl, g5, g6⟩ := g4
      have g6 : r = [] := g6
      subst g6
      refine ⟨p, [u, w, w3], rfl, h1, rfl, u, [w, w3], rfl, put_ok a x u env env1 σ _ e1 re g1 fun σ1 re1 w1 => ?_⟩
      refine ⟨w, [w3], rfl, put_ok b y w env1 env2 σ1 _ e2 re1 g3 fun σ2 re2 w2 => ?_⟩
      refine ⟨w3, [], rfl, put_ok c z w3 env2 env' σ2 _ e3 re2 g5 fun σ3 re3 w4 => ⟨rfl, ?_⟩⟩
      exact k σ3 re3 fun vs h => by
        rw [w4 vs fun i hi => h i (List.mem_append_right _ (List.mem_append_right _ hi)), w2 vs fun i hi => h i (List.mem_append_right _ (List.mem_append_left _ hi)), w1 vs fun i hi => h i (List.mem_append_left _ hi)]
    · cases e
  | .quad a b c f, d, v, env, env', σ, Q, e, re, hd, k => by
    unfold Tg.put at e
    split at e
    · rename_i x y z t
      obtain ⟨env1, e1, e'⟩ := Option.bind_eq_some_iff.mp e
      obtain ⟨env2, e2, e''⟩ := Option.bind_eq_some_iff.mp e'
      obtain ⟨env3, e3, e4⟩ := Option.bind_eq_some_iff.mp e''
      obtain ⟨p, vs, rfl, h1, h2⟩ := hd
      obtain ⟨u, r, rfl, g1, g2⟩ := h2
      obtain ⟨w, r, rfl, g3, g4⟩ := g2
      obtain ⟨w3, r, rfl, g5, g6⟩ := g4
      obtain ⟨w4, r, rfl, g7, g8⟩ := g6
      have g8 : r = [] := g8
      subst g8
      refine ⟨p, [u, w, w3, w4], rfl, h1, rfl, u, [w, w3, w4], rfl, put_ok a x u env env1 σ _ e1 re g1 fun σ1 re1 w1 => ?_⟩
      refine ⟨w, [w3, w4], rfl, put_ok b y w env1 env2 σ1 _ e2 re1 g3 fun σ2 re2 w2 => ?_⟩
      refine ⟨w3, [w4], rfl, put_ok c z w3 env2 env3 σ2 _ e3 re2 g5 fun σ3 re3 k3 => ?_⟩
      refine ⟨w4, [], rfl, put_ok f t w4 env3 env' σ3 _ e4 re3 g7 fun σ4 re4 k4 => ⟨rfl, ?_⟩⟩
      exact k σ4 re4 fun vs h => by
        rw [k4 vs fun i hi => h i (List.mem_append_right _ (List.mem_append_right _ (List.mem_append_right _ hi))), k3 vs fun i hi => h i (List.mem_append_right _ (List.mem_append_right _ (List.mem_append_left _ hi))), w2 vs fun i hi => h i (List.mem_append_right _ (List.mem_append_left _ hi)), w1 vs fun i hi => h i (List.mem_append_left _ hi)]
    · cases e
theorem mk_cons {B ρ : List Addr} {H : Hp} {p : Addr} {o : HO} (m : Mk (ρ ++ B) H) (e : H p = some o) (t : Mt o) : Mk (ρ ++ p :: B) H := fun a ha => by
  rcases List.mem_append.mp ha with h | h
  · exact m a (List.mem_append_left _ h)
  · rcases List.mem_cons.mp h with rfl | h
    · exact ⟨o, e, t⟩
    · exact m a (List.mem_append_right _ h)
theorem in_cons {B ρ : List Addr} {p a : Addr} (h : a ∈ ρ ++ B) : a ∈ ρ ++ p :: B := by
  rcases List.mem_append.mp h with h | h
  · exact List.mem_append_left _ h
  · exact List.mem_append_right _ (List.mem_cons_of_mem _ h)
theorem of_cons {B ρ : List Addr} {p a : Addr} (h : a ∈ ρ ++ p :: B) : a = p ∨ a ∈ ρ ++ B := by
  rcases List.mem_append.mp h with h | h
  · exact .inr (List.mem_append_left _ h)
  · rcases List.mem_cons.mp h with h | h
    · exact .inl h
    · exact .inr (List.mem_append_right _ h)
theorem DW.keep {M M' ρ ρ' : List Addr} {H H' : Hp} {d : D} {a : Addr} (mk : Mk M H) (hp : ∀ a o, H a = some o → a ∉ M → H' a = some o) (hm : ∀ a o, H a = some o → a ∉ M → a ∉ M') (hr : ∀ (n : Nat) a, ρ[n]? = some a → ρ'[n]? = some a)
    (ka : ∀ o, H a = some o → H' a = some o) (h : DW G M ρ H d a) : DW G M' ρ' H' d a := by
  cases d with
  | lst ds =>
    obtain ⟨vs, e, h1⟩ := h
    exact ⟨vs, ka _ e, DVs.keep mk hp hm hr _ _ h1⟩
  | dct ks vs =>
    obtain ⟨es, kv, vv, e, h1, h2, h3, h4, h5, h6, h7, h8⟩ := h
    exact ⟨es, kv, vv, ka _ e, h1, h2, h3, h4, h5, h6, DVs.keep mk hp hm hr _ _ h7, DVs.keep mk hp hm hr _ _ h8⟩
  | _ => exact h
theorem DC.keep {M M' ρ ρ' : List Addr} {H H' : Hp} {d : D} {a : Addr} (mk : Mk M H) (hp : ∀ a o, H a = some o → a ∉ M → H' a = some o) (hm : ∀ a o, H a = some o → a ∉ M → a ∉ M') (hr : ∀ (n : Nat) a, ρ[n]? = some a → ρ'[n]? = some a)
    (ka : ∀ o, H a = some o → H' a = some o) (h : DC G M ρ H d a) : DC G M' ρ' H' d a := by
  cases d with
  | ref i =>
    obtain ⟨q, ps, e1, e2, e3, e4⟩ := h
    refine ⟨q, ps, e1, ka _ e2, e3, fun pos cv z => ?_⟩
    obtain ⟨c, z1, z2⟩ := e4 pos cv z
    exact ⟨c, z1, hp c _ z2 (mk_code mk z2)⟩
  | lst ds => exact DW.keep (d := .lst ds) mk hp hm hr ka h
  | dct ks vs => exact DW.keep (d := .dct ks vs) mk hp hm hr ka h
  | tup ds => exact DOb.keep mk hp hm hr ka h
  | _ => exact h
theorem DW.nt {M ρ : List Addr} {H : Hp} {d : D} {p : Addr} {o : HO} (h : DW G M ρ (upd H p o) d p) : ∀ ps, o ≠ .tbl ps := by
  cases d <;> first | exact h.elim | skip
  · obtain ⟨_, e, _⟩ := h
    rw [upd_same] at e
    cases e
    intro _ z
    cases z
  · obtain ⟨_, _, _, e, _⟩ := h
    rw [upd_same] at e
    cases e
    intro _ z
    cases z
/-- p is newly laid and blocked -/
theorem RS.block {B ρ : List Addr} {st : Store} {H : Hp} {p : Addr} {o : HO} (r : RS (G := G) B st ρ H) (hp : H p = none) (t : Mt o) (ho : ∀ ps, o ≠ .tbl ps := by intro _ z; cases z) : RS (G := G) (p :: B) st ρ (upd H p o) := by
  have fn := fresh_notin r hp
  have pres : ∀ a u, H a = some u → upd H p o a = some u := fun a u e => by rw [upd_ne (ne_of_none e hp)]; exact e
  refine ⟨mk_cons (fun a ha => ?_) upd_same t, r.len, r.nd, fun b hb => ?_, tb_upd r.tb (.inl ho), fun n c a e1 e2 => ?_⟩
  · obtain ⟨u, e, t⟩ := r.mt a ha
    exact ⟨u, pres a u e, t⟩
  · rcases List.mem_cons.mp hb with rfl | hb
    · exact fun z => fn (List.mem_append_left _ z)
    · exact r.off b hb
  · exact DC.keep r.mt (fun a u e _ => pres a u e) (fun a u e n z => (of_cons z).elim (fun q => ne_of_none e hp q) n) (fun _ _ h => h) (fun u e => pres a u e) (r.cel n c a e1 e2)
theorem RE.block {B ρ : List Addr} {env : Env} {σ : L2.St} {H : Hp} {p : Addr} {o : HO} (r : RE (G := G) B env ρ σ H) (mk : Mk (ρ ++ B) H) (hp : H p = none) : RE (G := G) (p :: B) env ρ σ (upd H p o) := by
  have pres : ∀ a u, H a = some u → upd H p o a = some u := fun a u e => by rw [upd_ne (ne_of_none e hp)]; exact e
  have out : ∀ a u, H a = some u → a ∉ ρ ++ B → a ∉ ρ ++ p :: B := fun a u e n z => (of_cons z).elim (fun q => ne_of_none e hp q) n
  refine ⟨r.len, fun i d e => ?_, fun i d e => ?_⟩
  · obtain ⟨v, h1, h2⟩ := r.fre i d e
    exact ⟨v, h1, DV.keep mk (fun a u e _ => pres a u e) out (fun _ _ h => h) _ _ h2⟩
  · obtain ⟨a, h1, h2, h3⟩ := r.own i d e
    exact ⟨a, h1, List.mem_cons_of_mem _ h2, DW.keep mk (fun a u e _ => pres a u e) out (fun _ _ h => h) (fun u e => pres a u e) h3⟩
/-- p is blocked no more -/
theorem RS.free {B ρ : List Addr} {st : Store} {H : Hp} {p : Addr} (r : RS (G := G) (p :: B) st ρ H) : RS (G := G) B st ρ H :=
  ⟨fun a ha => r.mt a (in_cons ha), r.len, r.nd, fun b hb => r.off b (List.mem_cons_of_mem _ hb), r.tb, fun n c a e1 e2 => DC.keep r.mt (fun _ _ e _ => e) (fun a u e n z => n (in_cons z)) (fun _ _ h => h) (fun _ e => e) (r.cel n c a e1 e2)⟩
theorem DVs.free {B ρ : List Addr} {H : Hp} {p : Addr} {ds : List D} {vs : List V} (mk : Mk (ρ ++ p :: B) H) (h : DVs G (ρ ++ p :: B) ρ H ds vs) : DVs G (ρ ++ B) ρ H ds vs :=
  DVs.keep mk (fun _ _ e _ => e) (fun a u e n z => n (in_cons z)) (fun _ _ h => h) _ _ h
/-- a blocked thing changes -/
theorem RS.chg {B ρ : List Addr} {st : Store} {H : Hp} {p : Addr} {o : HO} (r : RS (G := G) B st ρ H) (hp : p ∈ B) (t : Mt o) (ho : ∀ ps, o ≠ .tbl ps := by intro _ z; cases z) : RS (G := G) B st ρ (upd H p o) := by
  refine ⟨fun a ha => ?_, r.len, r.nd, r.off, tb_upd r.tb (.inl ho), fun n c a e1 e2 => ?_⟩
  · by_cases h : a = p
    · subst h; exact ⟨o, upd_same, t⟩
    · obtain ⟨u, e, t⟩ := r.mt a ha
      exact ⟨u, by rw [upd_ne h]; exact e, t⟩
  · have hne : a ≠ p := fun z => r.off p hp (z ▸ List.mem_of_getElem? e2)
    exact DC.keep r.mt (fun b u e n => by rw [upd_ne (fun z => n (by rw [z]; exact List.mem_append_right _ hp))]; exact e) (fun _ _ _ n => n) (fun _ _ h => h) (fun u e => by rw [upd_ne hne]; exact e) (r.cel n c a e1 e2)
/-- the pairs of a dict with ints and texts for keys -/
structure KR (G : Gx) (M ρ : List Addr) (H : Hp) (ks vs : List D) (kvs : List (L2.Key × V)) : Prop where
  sk : ks.all D.skey = true
  keys : kvs.map (·.1) = ks.map D.dkey
  vals : DVs G M ρ H vs (kvs.map (·.2))
theorem KR.keep {M M' ρ ρ' : List Addr} {H H' : Hp} {ks vs : List D} {kvs : List (L2.Key × V)} (r : KR G M ρ H ks vs kvs) (k : DVs G M ρ H vs (kvs.map (·.2)) → DVs G M' ρ' H' vs (kvs.map (·.2))) : KR G M' ρ' H' ks vs kvs := ⟨r.sk, r.keys, k r.vals⟩
def Cont0 (G : Gx) (M ρ : List Addr) (H : Hp) : D → HO → Prop
  | .lst ds, o => ∃ vs, o = .lst vs ∧ DVs G M ρ H ds vs
  | .dct ks vs, o => ∃ kvs, o = .dK kvs ∧ KR G M ρ H ks vs kvs
  | _, _ => False
def tF0 (G : Gx) (f : Env → Store → Res D) : TE := fun σ H Q => ∃ B env st ρ d st', RS (G := G) B st ρ H ∧ RE (G := G) B env ρ σ H ∧ f env st = .ok d st' ∧
  ∀ a ρ' Hm o, Stp ρ H ρ' Hm → RS (G := G) B st' ρ' Hm → Hm a = none → Cont0 G (ρ' ++ B) ρ' Hm d o → Q (.ref a) (upd Hm a o)
abbrev PEF0 (G : Gx) (X : Cx) (P : Par) (x : Expr) (e : Ex) : Prop := PE X x (tF0 G (e.ev P))
/-- without the thing at p -/
def drp (H : Hp) (p : Addr) : Hp := fun b => if b = p then none else H b
theorem drp_same {H : Hp} {p : Addr} : drp H p p = none := if_pos rfl
theorem drp_ne {H : Hp} {p b : Addr} (h : b ≠ p) : drp H p b = H b := if_neg h
theorem drp_upd {H : Hp} {p : Addr} {o : HO} (h : H p = some o) : upd (drp H p) p o = H := by
  funext b
  unfold upd drp
  by_cases q : b = p
  · rw [if_pos q, q, h]
  · rw [if_neg q, if_neg q]
theorem drp_some {H : Hp} {p a : Addr} {o : HO} (e : drp H p a = some o) : H a = some o := by
  by_cases q : a = p
  · subst q
    rw [drp_same] at e
    cases e
  · rwa [drp_ne q] at e
theorem RS.drop {B ρ : List Addr} {st : Store} {H : Hp} {p : Addr} (r : RS (G := G) (p :: B) st ρ H) (hB : p ∉ B) : RS (G := G) B st ρ (drp H p) := by
  have hn : p ∉ ρ := r.off p List.mem_cons_self
  have np : ∀ a, a ∈ ρ ++ B → a ≠ p := fun a ha z => by
    subst z
    rcases List.mem_append.mp ha with z | z
    · exact hn z
    · exact hB z
  refine ⟨fun a ha => ?_, r.len, r.nd, fun b hb => r.off b (List.mem_cons_of_mem _ hb), fun a ps e => r.tb a ps (drp_some e), fun n c a e1 e2 => ?_⟩
  · obtain ⟨o, e, t⟩ := r.mt a (in_cons ha)
    exact ⟨o, by rw [drp_ne (np a ha)]; exact e, t⟩
  · have ha : a ≠ p := np a (List.mem_append_left _ (List.mem_of_getElem? e2))
    exact DC.keep r.mt (fun b u e n => by rw [drp_ne (fun z => n (by rw [z]; exact List.mem_append_right _ List.mem_cons_self))]; exact e) (fun b u e n z => n (in_cons z)) (fun _ _ h => h) (fun u e => by rw [drp_ne ha]; exact e) (r.cel n c a e1 e2)
theorem DVs.drop' {B ρ : List Addr} {H : Hp} {p : Addr} {ds : List D} {vs : List V} (mk : Mk (ρ ++ p :: B) H) (h : DVs G (ρ ++ p :: B) ρ H ds vs) : DVs G (ρ ++ B) ρ (drp H p) ds vs :=
  DVs.keep mk (fun b u e n => by rw [drp_ne (fun z => n (by rw [z]; exact List.mem_append_right _ List.mem_cons_self))]; exact e) (fun a u e n z => n (in_cons z)) (fun _ _ h => h) _ _ h
theorem Stp.drop {ρ ρ' : List Addr} {H H' : Hp} {p : Addr} (s : Stp ρ H ρ' H') (hp : H p = none) : Stp ρ H ρ' (drp H' p) :=
  ⟨fun a o e n => by rw [drp_ne (fun z => ne_of_none e hp z)]; exact s.pres a o e n, s.out, s.refs⟩
theorem pe_lstF {xs : List Expr} {es : Exs} {pos : Pos} (ha : PA X xs (tAs G (relsS G) (es.ev P))) : PEF0 G X P (.List xs pos) (.lst es) :=
  PE_imp (pe_lst ha) fun σ H Q ⟨B, env, st, ρ, d, st', rs, re, ev, k⟩ => by
    unfold Ex.ev at ev
    obtain ⟨ds, st1, e1, e2⟩ := Res.bind_eq ev
    obtain ⟨g2, rfl⟩ := ofOpt_eq e2
    obtain ⟨hl, rfl⟩ := fits_some g2
    refine ⟨B, env, st, ρ, _, _, rs, re, e1, fun vs ρ1 H1 sp1 rs1 q1 => ⟨by rw [DVs.length q1, ← lim_line]; exact hl, fun p hp => k p ρ1 H1 _ sp1 rs1 hp ⟨vs, rfl, q1⟩⟩⟩
/-- a clause's tests -/
def tts (P : Par) (G : Gx) (ts : Exs) : TT := match ts with
  | .nil => tYes
  | .cons e .nil => tT G (e.test P)
  | _ => fun _ _ _ => False
def one1 : Exs → Bool
  | .nil => true
  | .cons _ .nil => true
  | _ => false
theorem tts_ok {ts : Exs} (h1 : one1 ts = true) {B ρ : List Addr} {env : Env} {st st' : Store} {σ : L2.St} {H : Hp} {b : Bool} {Q : Bool → Hp → Prop} (rs : RS (G := G) B st ρ H) (re : RE (G := G) B env ρ σ H) (e : ts.all P env st = .ok b st')
    (k : ∀ ρ' H', Stp ρ H ρ' H' → RS (G := G) B st' ρ' H' → Q b H') : tts P G ts σ H Q := by
  match ts, h1, e with
  | .nil, _, e =>
    unfold Exs.all at e
    cases e
    exact k ρ H (Stp.refl _ _) rs
  | .cons c .nil, _, e =>
    unfold Exs.all at e
    obtain ⟨t, st1, e1, e2⟩ := Res.bind_eq e
    have e3 : t = b ∧ st1 = st' := by
      cases t with
      | true =>
        unfold Exs.all at e2
        cases e2
        exact ⟨rfl, rfl⟩
      | false => cases e2; exact ⟨rfl, rfl⟩
    obtain ⟨rfl, rfl⟩ := e3
    exact ⟨B, env, st, ρ, t, st1, rs, re, e1, k⟩
theorem lcLoop_cons {f : D → Store → Res (List D)} {x : D} {xs : List D} {st st' : Store} {ys : List D} (h : lcLoop f (x :: xs) st = .ok ys st') : ∃ r st1 zs, f x st = .ok r st1 ∧ lcLoop f xs st1 = .ok zs st' ∧ ys = r ++ zs := by
  unfold lcLoop at h
  obtain ⟨r, st1, e1, h⟩ := Res.bind_eq h
  obtain ⟨zs, st2, e2, h⟩ := Res.bind_eq h
  cases h
  exact ⟨r, st1, zs, e1, e2, rfl⟩
theorem noExc_eq {α : Type} {r : Res α} {a : α} {st : Store} (h : noExc r = .ok a st) : r = .ok a st := by
  cases r with
  | ok b s => exact h
  | exc _ _ _ => cases h
  | stuck => cases h
/-- one turn -/
theorem turn_inv {tg : Tg} {env : Env} {own : List Nat} {ts : Exs} {F : Env → Store → Res (List D)} {x : D} {st st' : Store} {r : List D}
    (h : (match tg.put x (wipeE env own) with
      | some env1 => (ts.all P env1 st).bind fun t st2 => if t then F env1 st2 else .ok [] st2
      | none => .stuck) = .ok r st') : ∃ env1 t st2, tg.put x (wipeE env own) = some env1 ∧ ts.all P env1 st = .ok t st2 ∧ ((t = true ∧ F env1 st2 = .ok r st') ∨ (t = false ∧ r = [] ∧ st' = st2)) := by
  cases e : tg.put x (wipeE env own) with
  | none => rw [e] at h; cases h
  | some env1 =>
    rw [e] at h
    obtain ⟨t, st2, e1, e2⟩ := Res.bind_eq h
    refine ⟨env1, t, st2, rfl, e1, ?_⟩
    cases t with
    | true => exact .inl ⟨rfl, e2⟩
    | false => cases e2; exact .inr ⟨rfl, rfl, rfl⟩
theorem tLc_of {tg : Tg} {it : It} {ts : Exs} {e : Ex} {own : List Nat} {σ : L2.St} {H : Hp} {Q : VK} (h1 : one1 ts = true) (hix : ∀ i ∈ tg.ixs, i ∈ own) (h : tF0 G ((Ex.lc own tg it ts e).ev P) σ H Q) :
    tLc (tI G false (it.ev P)) (gT G.K tg) (tts P G ts) (tE G (relS G) (e.ev P)) own σ H Q := by
  obtain ⟨B, env, st, ρ, d, st', rs, re, ev, k⟩ := h
  unfold Ex.ev at ev
  obtain ⟨xs, st1, e1, ev⟩ := Res.bind_eq ev
  obtain ⟨ys, st2, e2, e3⟩ := Res.bind_eq ev
  obtain ⟨g3, rfl⟩ := ofOpt_eq e3
  obtain ⟨hl, rfl⟩ := fits_some g3
  have e2 := noExc_eq e2
  refine ⟨B, env, st, ρ, xs, st1, rs, re, e1, fun J ρ1 H1 sp1 rs1 walk L hD => ?_⟩
  have hDn := fresh_notin rs1 hD
  generalize hf : (fun (x : D) (st : Store) => (match tg.put x (wipeE env own) with
      | some env1 => (ts.all P env1 st).bind fun t st2 => if t then (e.ev P env1 st2).bind fun y st3 => .ok [y] st3 else .ok [] st2
      | none => .stuck : Res (List D))) = f at e2
  have re1 := (re.stp rs.mt rs.off sp1).block (p := L) (o := .lst []) rs1.mt hD
  have rs1' := rs1.block (p := L) (o := .lst []) hD True.intro
  refine ⟨fun i m H2 => ∃ ρ2 sti acc accV rest, m = xs.length - i ∧ i ≤ xs.length ∧ lcLoop f (xs.drop i) sti = .ok rest st' ∧ ys = acc ++ rest ∧ Stp ρ1 H1 ρ2 H2 ∧ RS (G := G) (L :: B) sti ρ2 H2 ∧ RE (G := G) (L :: B) env ρ2 σ H2 ∧ H2 L = some (.lst accV) ∧ DVs G (ρ2 ++ L :: B) ρ2 H2 acc accV, ?_, ?_⟩
  · exact ⟨xs.length, ρ1, st1, [], [], ys, by simp, Nat.zero_le _, by simpa using e2, rfl, Stp.laid hD, rs1', re1, upd_same, rfl⟩
  · rintro i m H2 ⟨ρ2, sti, acc, accV, rest, rfl, hi, hlp, hys, sp2, rs2, re2, hD2, hacc⟩
    have wk := walk (ρ2 ++ L :: B) ρ2 H2 (fun a o ea n => sp2.pres a o ea n) (fun a o ea n z => (of_cons z).elim (fun q => ne_of_none ea hD q) fun z => stp_out (B := B) sp2 a o ea n z) sp2.refs rs2.mt
    by_cases hlt : i < xs.length
    · have hx : xs[i]? = some xs[i] := List.getElem?_eq_getElem hlt
      obtain ⟨go, yld⟩ := wk.1 i _ hx
      rw [List.drop_eq_getElem_cons hlt] at hlp
      obtain ⟨r, st3, zs, f1, f2, rfl⟩ := lcLoop_cons hlp
      rw [← hf] at f1
      obtain ⟨env1, t, st4, p1, p2, p3⟩ := turn_inv f1
      refine .inr ⟨go, fun H' => ∃ ρ5 acc5 accV5, Stp ρ1 H1 ρ5 H' ∧ RS (G := G) (L :: B) st3 ρ5 H' ∧ RE (G := G) (L :: B) env ρ5 σ H' ∧ H' L = some (.lst accV5) ∧ DVs G (ρ5 ++ L :: B) ρ5 H' acc5 accV5 ∧ acc5 = acc ++ r, ?_, ?_⟩
      · rintro H' ⟨ρ5, acc5, accV5, s5, r5, re5, d5, a5, rfl⟩
        exact ⟨xs.length - (i + 1), by omega, ρ5, st3, acc ++ r, accV5, zs, rfl, hlt, f2, by rw [hys, List.append_assoc], s5, r5, re5, d5, a5⟩
      · intro v H3 y
        obtain ⟨sm, hv⟩ := yld v H3 y
        have rs3 := rs2.same sm
        have re3 := re2.stp rs2.mt rs2.off (same_stp sm)
        refine put_ok tg _ v _ env1 _ _ p1 (re_wipe re3 own) hv fun σ2 reσ wσ => ⟨by rw [wσ own hix, wipe_idem], ?_⟩
        refine tts_ok h1 rs3 reσ p2 fun ρ4 H4 sp4 rs4 => ?_
        have sp24 : Stp ρ2 H2 ρ4 H4 := (same_stp sm).trans sp4
        have re4 := re2.stp rs2.mt rs2.off sp24
        have hD4 : H4 L = some (.lst accV) := sp24.pres L _ hD2 (rs2.off L List.mem_cons_self)
        have hacc4 := hacc.stp rs2.mt sp24
        rcases p3 with ⟨rfl, p3⟩ | ⟨rfl, rfl, rfl⟩
        · rw [if_pos rfl]
          obtain ⟨yv, st5, q1, q2⟩ := Res.bind_eq p3
          cases q2
          refine ⟨L :: B, env1, st4, ρ4, yv, st3, rs4, reσ.stp rs3.mt rs3.off sp4, q1, fun w ρ5 H5 sp5 rs5 q5 => ?_⟩
          have hD5 : H5 L = some (.lst accV) := sp5.pres L _ hD4 (rs4.off L List.mem_cons_self)
          have hacc5 := hacc4.stp rs4.mt sp5
          have re5 := re4.stp rs4.mt rs4.off sp5
          have hDm : L ∈ ρ5 ++ L :: B := List.mem_append_right _ List.mem_cons_self
          refine ⟨accV, hD5, ?_, ρ5, acc ++ [yv], accV ++ [w], ?_, rs5.chg List.mem_cons_self True.intro, ?_, upd_same, ?_, rfl⟩
          · have l1 := hacc5.length
            rw [hys] at hl
            simp only [List.length_append, List.length_cons, List.length_nil] at hl
            rw [← lim_line]
            omega
          · have s3 := (sp2.trans sp24).trans sp5
            exact ⟨fun a o ea n => by rw [upd_ne (fun z => ne_of_none ea hD z)]; exact s3.pres a o ea n, s3.out, s3.refs⟩
          · refine ⟨re5.len, fun j dj ej => ?_, fun j dj ej => ?_⟩
            · obtain ⟨u, g1, g2⟩ := re5.fre j dj ej
              exact ⟨u, g1, g2.chg rs5.mt hDm⟩
            · obtain ⟨a, g1, g2, g3⟩ := re5.own j dj ej
              by_cases haD : a = L
              · subst haD
                obtain ⟨a0, z1, z2, z3⟩ := re1.own j dj ej
                obtain ⟨b0, y1, y2, y3⟩ := (re.stp rs.mt rs.off sp1).own j dj ej
                exfalso
                rw [g1] at y1
                cases y1
                exact hDn (List.mem_append_right _ y2)
              · exact ⟨a, g1, g2, DW.keep rs5.mt (fun b u eb n => by rw [upd_ne (fun z => n (by rw [z]; exact hDm))]; exact eb) (fun _ _ _ n => n) (fun _ _ h => h) (fun u eb => by rw [upd_ne haD]; exact eb) g3⟩
          · exact DVs.append (hacc5.chg rs5.mt hDm) (.cons (DV.chg rs5.mt hDm q5) .nil)
        · rw [if_neg (by simp)]
          exact ⟨ρ4, acc, accV, sp2.trans sp24, rs4, re4, hD4, hacc4, by simp⟩
    · have hie : i = xs.length := by omega
      subst hie
      refine .inl ⟨wk.2 _ (Nat.le_refl _), ?_⟩
      rw [List.drop_length] at hlp
      unfold lcLoop at hlp
      cases hlp
      rw [List.append_nil] at hys
      subst hys
      have hB : L ∉ B := fun z => hDn (List.mem_append_right _ z)
      rw [← drp_upd hD2]
      have hH : H L = none := by
        cases hq : H L with
        | none => rfl
        | some o =>
          exfalso
          by_cases hρ : L ∈ ρ
          · obtain ⟨n, hn⟩ := List.getElem?_of_mem hρ
            exact hDn (List.mem_append_left _ (List.mem_of_getElem? (sp1.refs n L hn)))
          · exact ne_of_none (sp1.pres L o hq hρ) hD rfl
      exact k L ρ2 (drp H2 L) _ ((sp1.trans sp2).drop hH) (rs2.drop hB) drp_same ⟨accV, rfl, hacc.drop' rs2.mt⟩
end
end Dp
set_option Elab.async false
set_option linter.all false
set_option maxRecDepth 100000
set_option maxHeartbeats 4000000
namespace Dp
open PySem PySem.Spec PyProof.Rows L2 PySem.W PySem.SeqAt
section
variable {G : Gx} {X : Cx} {P : Par}
/-- a step of the heap in which the list at L may change, too -/
structure StL (L : Addr) (ρ : List Addr) (H : Hp) (ρ' : List Addr) (H' : Hp) : Prop where
  pres : ∀ a o, H a = some o → a ∉ ρ → a ≠ L → H' a = some o
  out : ∀ a o, H a = some o → a ∉ ρ → a ≠ L → a ∉ ρ'
  refs : ∀ (n : Nat) a, ρ[n]? = some a → ρ'[n]? = some a
theorem StL.refl (L : Addr) (ρ : List Addr) (H : Hp) : StL L ρ H ρ H := ⟨fun _ _ h _ _ => h, fun _ _ _ h _ => h, fun _ _ h => h⟩
theorem StL.chg {L : Addr} {ρ ρ1 : List Addr} {H H1 : Hp} {o : HO} (s : StL L ρ H ρ1 H1) : StL L ρ H ρ1 (upd H1 L o) :=
  ⟨fun a u e n z => by rw [upd_ne z]; exact s.pres a u e n z, s.out, s.refs⟩
/-- no name owns the list at L -/
def NoL (L : Addr) (env : Env) (σ : L2.St) : Prop := ∀ (j : Nat) d a, env[j]? = some (some (true, d)) → σ[j]? = some (some (.ref a)) → a ≠ L
theorem put_low : ∀ (t : Tg) (d : D) (env env' : Env), t.put d env = some env' → ∀ (j : Nat) x, env'[j]? = some (some (true, x)) → env[j]? = some (some (true, x))
  | .name i, d, env, env', e, j, x, h => by
    cases e
    rw [List.getElem?_set] at h
    by_cases hij : i = j
    · rw [if_pos hij] at h
      split at h <;> cases h
    · rw [if_neg hij] at h
      exact h
  | .pair a b, d, env, env', e, j, x, h => by
    unfold Tg.put at e
    split at e
    · obtain ⟨env1, e1, e2⟩ := Option.bind_eq_some_iff.mp e
      exact put_low a _ env env1 e1 j x (put_low b _ env1 env' e2 j x h)
    · cases e
  | .trip a b c, d, env, env', e, j, x, h => by
    unfold Tg.put at e
    split at e
    · obtain ⟨env1, e1, e2⟩ := Option.bind_eq_some_iff.mp e
      obtain ⟨env2, e3, e4⟩ := Option.bind_eq_some_iff.mp e2
      exact put_low a _ env env1 e1 j x (put_low b _ env1 env2 e3 j x (put_low c _ env2 env' e4 j x h))
    · cases e
  | .quad a b c f, d, env, env', e, j, x, h => by
    unfold Tg.put at e
    split at e
    · obtain ⟨env1, e1, e2⟩ := Option.bind_eq_some_iff.mp e
      obtain ⟨env2, e3, e4⟩ := Option.bind_eq_some_iff.mp e2
      obtain ⟨env3, e5, e6⟩ := Option.bind_eq_some_iff.mp e4
      exact put_low a _ env env1 e1 j x (put_low b _ env1 env2 e3 j x (put_low c _ env2 env3 e5 j x (put_low f _ env3 env' e6 j x h)))
    · cases e
theorem wipeE_low : ∀ (vs : List Nat) (env : Env) (j : Nat) (x : Bool × D), (wipeE env vs)[j]? = some (some x) → env[j]? = some (some x) ∧ j ∉ vs
  | [], env, j, x, h => ⟨h, by simp⟩
  | v :: vs, env, j, x, h => by
    have h : ((wipeE env vs).set v none)[j]? = some (some x) := h
    rw [List.getElem?_set] at h
    by_cases hij : v = j
    · rw [if_pos hij] at h
      split at h <;> cases h
    · rw [if_neg hij] at h
      obtain ⟨h1, h2⟩ := wipeE_low vs env j x h
      exact ⟨h1, fun z => (List.mem_cons.mp z).elim (fun q => hij q.symm) h2⟩
theorem NoL.put {L : Addr} {env env1 : Env} {σ σ2 : L2.St} {own : List Nat} {tg : Tg} {d : D} (nl : NoL L env σ) (p : tg.put d (wipeE env own) = some env1) (w : wipe σ2 own = wipe σ own) : NoL L env1 σ2 := fun j x a h1 h2 => by
  obtain ⟨h3, h4⟩ := wipeE_low own env j _ (put_low tg d _ env1 p j x h1)
  have e : σ2[j]? = σ[j]? := by rw [← wipe_out h4, ← wipe_out (σ := σ) h4, w]
  exact nl j x a h3 (by rw [← e]; exact h2)
end
end Dp
set_option Elab.async false
set_option linter.all false
set_option maxRecDepth 100000
set_option maxHeartbeats 4000000
namespace Dp
open PySem PySem.Spec PyProof.Rows L2 PySem.W PySem.SeqAt
section
variable {G : Gx} {X : Cx} {P : Par}
theorem kr_any {x : D} (hx : x.skey = true) : ∀ {ks : List D} {kvs : List (L2.Key × V)}, ks.all D.skey = true → kvs.map (·.1) = ks.map D.dkey → (kvs.any fun kv => decide (kv.1 = x.dkey)) = dhas ks x
  | [], kvs, _, e => by
    have : kvs = [] := by simpa using e
    subst this
    rfl
  | k :: ks, [], _, e => by simp at e
  | k :: ks, p :: kvs, hs, e => by
    simp only [List.map_cons, List.cons.injEq] at e
    simp only [List.all_cons, Bool.and_eq_true] at hs
    have q := dkey_eq hs.1 hx
    rw [← e.1] at q
    simp only [List.any_cons, dhas, q]
    rw [kr_any hx hs.2 e.2]
    rfl
theorem kr_set {M ρ : List Addr} {H : Hp} {x d : D} {v : V} (hx : x.skey = true) (hd : DV G M ρ H d v) : ∀ {ks vs : List D} {kvs : List (L2.Key × V)}, ks.all D.skey = true → kvs.map (·.1) = ks.map D.dkey → DVs G M ρ H vs (kvs.map (·.2)) →
    (kvs.map fun kv => if kv.1 = x.dkey then (kv.1, v) else kv).map (·.1) = ks.map D.dkey ∧ DVs G M ρ H (dset ks vs x d) ((kvs.map fun kv => if kv.1 = x.dkey then (kv.1, v) else kv).map (·.2))
  | [], vs, kvs, _, e, h => by
    have : kvs = [] := by simpa using e
    subst this
    refine ⟨rfl, ?_⟩
    show DVs G M ρ H (dset [] vs x d) []
    have hl := h.length
    cases vs with
    | nil => exact rfl
    | cons _ _ => simp at hl
  | k :: ks, vs, [], _, e, _ => by simp at e
  | k :: ks, [], p :: kvs, _, _, h => by exact absurd h.length (by simp)
  | k :: ks, w :: vs, p :: kvs, hs, e, h => by
    simp only [List.map_cons, List.cons.injEq] at e
    simp only [List.all_cons, Bool.and_eq_true] at hs
    obtain ⟨u, r, e1, h1, h2⟩ := h
    simp only [List.map_cons, List.cons.injEq] at e1
    obtain ⟨rfl, rfl⟩ := e1
    obtain ⟨i1, i2⟩ := kr_set hx hd hs.2 e.2 h2
    have q := dkey_eq hs.1 hx
    rw [← e.1] at q
    rw [List.map_cons, List.map_cons, List.map_cons]
    unfold dset
    by_cases c : p.1 = x.dkey
    · rw [decide_eq_true c] at q
      rw [if_pos c, ← q, if_pos rfl, i1]
      exact ⟨by show p.1 :: _ = _; rw [e.1], .cons hd i2⟩
    · rw [decide_eq_false c] at q
      rw [if_neg c, ← q, if_neg (by simp), i1]
      exact ⟨by rw [e.1], .cons h1 i2⟩
theorem KR.put {M ρ : List Addr} {H : Hp} {ks vs : List D} {kvs : List (L2.Key × V)} {x d : D} {v : V} (r : KR G M ρ H ks vs kvs) (hx : x.skey = true) (hd : DV G M ρ H d v) : KR G M ρ H (dput ks vs x d).1 (dput ks vs x d).2 (putK kvs x.dkey v) := by
  unfold putK dput
  rw [kr_any hx r.sk r.keys]
  cases e : dhas ks x with
  | true =>
    rw [if_pos rfl, if_pos rfl]
    obtain ⟨i1, i2⟩ := kr_set hx hd r.sk r.keys r.vals
    exact ⟨r.sk, i1, i2⟩
  | false =>
    rw [if_neg (by simp), if_neg (by simp)]
    refine ⟨by simp only [List.all_append, List.all_cons, List.all_nil, Bool.and_true, Bool.and_eq_true]; exact ⟨r.sk, hx⟩, ?_, ?_⟩
    · rw [List.map_append, List.map_append, r.keys]; rfl
    · rw [List.map_append]
      exact DVs.append r.vals (.cons hd .nil)
theorem KR.nil {M ρ : List Addr} {H : Hp} : KR G M ρ H [] [] [] := ⟨rfl, rfl, rfl⟩
theorem KR.len {M ρ : List Addr} {H : Hp} {ks vs : List D} {kvs : List (L2.Key × V)} (r : KR G M ρ H ks vs kvs) : kvs.length = ks.length := by
  have := congrArg List.length r.keys
  simpa using this
def exLit : Ex → Option D
  | .lit d => some d
  | _ => none
theorem exLit_ev {e : Ex} {d : D} {env : Env} {st : Store} (h : exLit e = some d) : e.ev P env st = .ok d st := by
  cases e <;> simp [exLit] at h
  subst h
  simp only [Ex.ev]
/-- the keys -/
def litKeys : Exs → List (Option Expr) → Option (List D)
  | .nil, [] => some []
  | .cons e es, some (.Constant c _ _) :: xs => (exLit e).bind fun d => if litOk c d && d.skey then (litKeys es xs).map (d :: ·) else none
  | _, _ => none
theorem litKeys_cons {e : Ex} {es : Exs} {xs : List (Option Expr)} {kd : List D} (h : litKeys (.cons e es) xs = some kd) : ∃ c j p xs' d kd', xs = some (.Constant c j p) :: xs' ∧ exLit e = some d ∧ litOk c d = true ∧ d.skey = true ∧ litKeys es xs' = some kd' ∧ kd = d :: kd' := by
  unfold litKeys at h
  split at h
  · rename_i heq; cases heq
  · rename_i e' es' c j p xs' heq
    cases heq
    obtain ⟨d, h1, h2⟩ := Option.bind_eq_some_iff.mp h
    split at h2
    · rename_i ok
      rw [Bool.and_eq_true] at ok
      obtain ⟨r, hr, rfl⟩ := Option.map_eq_some_iff.mp h2
      exact ⟨c, j, p, xs', d, r, rfl, h1, ok.1, ok.2, hr, rfl⟩
    · cases h2
  · cases h
theorem litKeys_nil {xs : List (Option Expr)} {kd : List D} (h : litKeys .nil xs = some kd) : xs = [] ∧ kd = [] := by
  unfold litKeys at h
  split at h
  · cases h; exact ⟨rfl, rfl⟩
  · rename_i heq; cases heq
  · cases h
theorem litKeys_star {e : Ex} {es : Exs} {xs : List (Option Expr)} : litKeys (.star e es) xs = none := by
  unfold litKeys
  rfl
theorem lits_ev : ∀ {es : Exs} {xs : List (Option Expr)} {kd : List D} {env : Env} {st : Store}, litKeys es xs = some kd → es.ev P env st = .ok kd st
  | .nil, xs, kd, env, st, h => by
    obtain ⟨_, rfl⟩ := litKeys_nil h
    simp only [Exs.ev]
  | .cons e es, xs, kd, env, st, h => by
    obtain ⟨c, j, p, xs', d, kd', rfl, h1, _, _, h2, rfl⟩ := litKeys_cons h
    simp only [Exs.ev]
    rw [exLit_ev h1, gx_okr, Res.bind_ok, lits_ev h2]
    rfl
  | .star e es, xs, kd, env, st, h => by rw [litKeys_star] at h; cases h
theorem litKeys_skey : ∀ {es : Exs} {xs : List (Option Expr)} {kd : List D}, litKeys es xs = some kd → kd.all D.skey = true ∧ kd.length = xs.length ∧ xs.all (·.isSome) = true
  | .nil, xs, kd, h => by
    obtain ⟨rfl, rfl⟩ := litKeys_nil h
    exact ⟨rfl, rfl, rfl⟩
  | .cons e es, xs, kd, h => by
    obtain ⟨c, j, p, xs', d, kd', rfl, h1, _, hs, h2, rfl⟩ := litKeys_cons h
    obtain ⟨i1, i2, i3⟩ := litKeys_skey h2
    exact ⟨by simp [hs, i1], by simp [i2], by simpa using i3⟩
  | .star e es, xs, kd, h => by rw [litKeys_star] at h; cases h
def litV : D → V
  | .int i => .int i
  | .str s => .str s
  | _ => .non
theorem litV_key {d : D} (h : d.skey = true) : litV d = kV d.dkey := by
  cases d <;> simp [D.skey] at h <;> rfl
theorem pe_litC {c : Const} {d : D} {j : Nat} {pos : Pos} (h : litOk c d = true) (hs : d.skey = true) : PE X (.Constant c j pos) (tC (litV d)) := by
  cases c <;> cases d <;> simp only [litOk, Bool.false_eq_true, beq_iff_eq, decide_eq_true_eq] at h <;> simp [D.skey] at hs
  · subst h; exact pe_int
  · subst h; exact pe_str
/-- the values of a display -/
inductive PVs (G : Gx) (X : Cx) (P : Par) : List Expr → Exs → Prop where
  | nil : PVs G X P [] .nil
  | cons {x : Expr} {e : Ex} {xs : List Expr} {es : Exs} : PES G X P x e → PVs G X P xs es → PVs G X P (x :: xs) (.cons e es)
theorem PVs.len {xs : List Expr} {es : Exs} (h : PVs G X P xs es) {env : Env} {st st' : Store} {ds : List D} (e : es.ev P env st = .ok ds st') : ds.length = xs.length := by
  induction h generalizing st ds with
  | nil => simp only [Exs.ev] at e; cases e; rfl
  | cons h1 h2 ih =>
    simp only [Exs.ev] at e
    obtain ⟨d, st1, e1, e⟩ := Res.bind_eq e
    obtain ⟨ds', st2, e2, e⟩ := Res.bind_eq e
    cases e
    simp [ih e2]
theorem disp_pairs : ∀ {keys : List (Option Expr)} {ks : Exs} {values : List Expr} {vs : Exs} {kd : List D}, litKeys ks keys = some kd → PVs G X P values vs → keys.length = values.length → ∀ {pos : Pos},
    ∃ trs, PPs X pos keys values trs ∧ ∀ (B : List Addr) (env : Env) (st st' : Store) (ρ : List Addr) (σ : L2.St) (H : Hp) (vd : List D) (R : List (V × V) → Hp → Prop), RS (G := G) B st ρ H → RE (G := G) B env ρ σ H → vs.ev P env st = .ok vd st' →
      (∀ vv ρ' H', Stp ρ H ρ' H' → RS (G := G) B st' ρ' H' → DVs G (ρ' ++ B) ρ' H' vd vv → R ((kd.map litV).zip vv) H') → tPairs trs σ H R
  | _, .nil, values, vs, kd, h, pv, hl => by
    obtain ⟨rfl, rfl⟩ := litKeys_nil h
    cases values with
    | cons _ _ => simp at hl
    | nil =>
      cases pv
      refine ⟨[], pps_nil, fun B env st st' ρ σ H vd R rs re e k => ?_⟩
      simp only [Exs.ev] at e
      cases e
      exact k [] ρ H (Stp.refl _ _) rs rfl
  | _, .cons e es, values, vs, kd, h, pv, hl => by
    obtain ⟨c, j, p, xs', d, kd', rfl, h1, h2, h3, h4, rfl⟩ := litKeys_cons h
    cases pv with
    | nil => simp at hl
    | @cons x e' xs es' pe pv =>
      obtain ⟨trs, i1, i2⟩ := disp_pairs h4 pv (by simpa using hl)
      refine ⟨_, pps_cons (pe_litC h2 h3) pe i1, fun B env st st' ρ σ H vd R rs re ev k => ?_⟩
      simp only [Exs.ev] at ev
      obtain ⟨y, st1, e1, ev⟩ := Res.bind_eq ev
      obtain ⟨ys, st2, e2, ev⟩ := Res.bind_eq ev
      cases ev
      refine ⟨B, env, st, ρ, y, st1, rs, re, e1, fun v ρ1 H1 sp1 rs1 q1 => ?_⟩
      refine i2 B env st1 _ ρ1 σ H1 ys _ rs1 (re.stp rs.mt rs.off sp1) e2 fun vv ρ2 H2 sp2 rs2 q2 => ?_
      exact k (v :: vv) ρ2 H2 (sp1.trans sp2) rs2 (.cons (DV.stp rs1.mt sp2 q1) q2)
  | _, .star e es, values, vs, kd, h, pv, hl => by rw [litKeys_star] at h; cases h
theorem kr_merge {M ρ : List Addr} {H : Hp} : ∀ {kd vd : List D} {vv : List V} {ks vs : List D} {kvs : List (L2.Key × V)}, kd.all D.skey = true → kd.length = vd.length → DVs G M ρ H vd vv → KR G M ρ H ks vs kvs →
    KR G M ρ H (dputs ks vs (kd.zip vd)).1 (dputs ks vs (kd.zip vd)).2 (mergeK kvs ((kd.map D.dkey).zip vv))
  | [], vd, vv, ks, vs, kvs, _, hl, _, r => by
    cases vd with
    | cons _ _ => simp at hl
    | nil => exact r
  | k :: kd, [], _, _, _, _, _, hl, _, _ => by simp at hl
  | k :: kd, d :: vd, vv, ks, vs, kvs, hs, hl, h, r => by
    obtain ⟨v, vv', rfl, h1, h2⟩ := h
    simp only [List.all_cons, Bool.and_eq_true] at hs
    have := kr_merge (kd := kd) (vd := vd) hs.2 (by simpa using hl) h2 (r.put hs.1 h1)
    exact this
theorem pe_dispD {keys : List (Option Expr)} {values : List Expr} {ks vs : Exs} {kd : List D} {pos : Pos} (hk : litKeys ks keys = some kd) (pv : PVs G X P values vs) (hl : keys.length = values.length) (h0 : keys ≠ []) (h15 : keys.length ≤ 15) : PEF0 G X P (.Dict keys values pos) (.dict ks vs) := by
  obtain ⟨trs, pp, tr⟩ := disp_pairs hk pv hl (pos := pos)
  obtain ⟨s1, s2, s3⟩ := litKeys_skey hk
  refine PE_imp (pe_disp pp s3 hl h0 h15) fun σ H Q ⟨B, env, st, ρ, d, st', rs, re, ev, k⟩ p hp => ?_
  unfold Ex.ev at ev
  obtain ⟨kd2, st1, e1, ev⟩ := Res.bind_eq ev
  rw [lits_ev hk] at e1
  cases e1
  obtain ⟨vd, st2, e2, e3⟩ := Res.bind_eq ev
  obtain ⟨g3, rfl⟩ := ofOpt_eq e3
  split at g3
  · rename_i ok
    cases g3
    have hlen : kd.length = vd.length := by rw [s2, pv.len e2, hl]
    have fn := fresh_notin rs hp
    have rs0 := rs.block (p := p) (o := .dK []) hp True.intro
    have re0 := re.block (p := p) (o := .dK []) rs.mt hp
    refine tr (p :: B) env st st' ρ σ _ vd _ rs0 re0 e2 fun vv ρ1 H1 sp1 rs1 q1 => ?_
    have hp1 : H1 p = some (.dK []) := sp1.pres p _ upd_same (rs0.off p List.mem_cons_self)
    have hlv := q1.length
    refine ⟨hp1, (kd.map D.dkey).zip vv, ?_, ?_, ?_⟩
    · have gen : ∀ (kd : List D) (vv : List V), kd.all D.skey = true → (kd.map litV).zip vv = ((kd.map D.dkey).zip vv).map fun kv => (kV kv.1, kv.2) := by
        intro kd
        induction kd with
        | nil => intro vv _; rfl
        | cons a kd ih =>
          intro vv hs
          simp only [List.all_cons, Bool.and_eq_true] at hs
          cases vv with
          | nil => rfl
          | cons v vv => simp [litV_key hs.1, ih vv hs.2]
      exact gen kd vv s1
    · rw [List.length_zip, List.length_map, s2]
      omega
    · have hDm : p ∈ ρ1 ++ p :: B := List.mem_append_right _ List.mem_cons_self
      have hB : p ∉ B := fun z => fn (List.mem_append_right _ z)
      have rs2 := (rs1.chg (p := p) (o := .dK (mergeK [] ((kd.map D.dkey).zip vv))) List.mem_cons_self True.intro)
      have e4 : upd H1 p (.dK (mergeK [] ((kd.map D.dkey).zip vv))) = upd (drp H1 p) p (.dK (mergeK [] ((kd.map D.dkey).zip vv))) := by
        funext b
        unfold upd drp
        by_cases q : b = p
        · rw [if_pos q, if_pos q]
        · rw [if_neg q, if_neg q, if_neg q]
      rw [e4]
      have s0 : Stp ρ H ρ (upd H p (.dK [])) := Stp.laid hp
      refine k p ρ1 (drp H1 p) _ ((s0.trans sp1).drop hp) (rs1.drop hB) drp_same ⟨_, rfl, ?_⟩
      exact (kr_merge (G := G) s1 hlen q1 KR.nil).keep fun z => z.drop' rs1.mt
  · cases g3
end
end Dp
set_option Elab.async false
set_option linter.all false
set_option maxRecDepth 100000
set_option maxHeartbeats 4000000
namespace Dp
open PySem PySem.Calls PySem.Spec PyProof.Rows L2 PySem.W PySem.SeqAt
end Dp
set_option Elab.async false
set_option linter.all false
set_option maxRecDepth 100000
set_option maxHeartbeats 8000000
namespace Dp
open PySem PySem.Spec PyProof.Rows L2 PySem.W PySem.SeqAt
section
variable {G : Gx} {X : Cx} {P : Par}
def tF (G : Gx) (f : Env → Store → Res D) : TE := fun σ H Q => ∃ B env st ρ d st', RS (G := G) B st ρ H ∧ RE (G := G) B env ρ σ H ∧ f env st = .ok d st' ∧ d.isCell = true ∧
  ∀ a ρ' Hm o, Stp ρ H ρ' Hm → RS (G := G) B st' ρ' Hm → Hm a = none → Cont G (ρ' ++ B) ρ' Hm a d o → Q (.ref a) (upd Hm a o)
abbrev PEF (G : Gx) (X : Cx) (P : Par) (x : Expr) (e : Ex) : Prop := PE X x (tF G (e.ev P))
/-- the raw entries of a dict of the hand layer -/
theorem kr_ts {M ρ : List Addr} {H : Hp} : ∀ {ks vs : List D} {kvs : List (L2.Key × V)} {xs : List (L2.Key × Value)}, ks.all D.skey = true → kvs.map (·.1) = ks.map D.dkey → DVs G M ρ H vs (kvs.map (·.2)) → KV kvs xs → Ts G M ρ H xs ks vs
  | [], vs, kvs, xs, _, e, h, r => by
    have : kvs = [] := by simpa using e
    subst this
    cases r
    cases vs with
    | nil => exact .nil
    | cons _ _ => obtain ⟨_, _, e, _⟩ := h; cases e
  | k :: ks, vs, [], xs, _, e, h, r => by simp at e
  | k :: ks, [], p :: kvs, xs, _, e, h, r => by cases h
  | k :: ks, d :: vs, p :: kvs, xs, hs, e, h, r => by
    simp only [List.map_cons, List.cons.injEq] at e
    simp only [List.all_cons, Bool.and_eq_true] at hs
    obtain ⟨v, w, e2, h1, h2⟩ := h
    cases e2
    cases r with
    | cons r1 r2 => exact .cons (by rw [← r1.1]; exact e.1) hs.1 r1.2 h1 (kr_ts hs.2 e.2 h2 r2)
theorem tF_tF0 {f : Env → Store → Res D} {σ : L2.St} {H : Hp} {Q : VK} (hf : ∀ env st d st', f env st = .ok d st' → ∃ ds, d = .lst ds) (h : tF G f σ H Q) : tF0 G f σ H Q := by
  obtain ⟨B, env, st, ρ, d, st', rs, re, ev, _, k⟩ := h
  refine ⟨B, env, st, ρ, d, st', rs, re, ev, fun a ρ' Hm o sp rs' hn c => k a ρ' Hm o sp rs' hn ?_⟩
  obtain ⟨ds, rfl⟩ := hf _ _ _ _ ev
  exact c
theorem lc_lst {own : List Nat} {tg : Tg} {it : It} {ts : Exs} {e : Ex} : ∀ env st d st', (Ex.lc own tg it ts e).ev P env st = .ok d st' → ∃ ds, d = .lst ds := by
  intro env st d st' h
  unfold Ex.ev at h
  obtain ⟨xs, st1, _, h⟩ := Res.bind_eq h
  obtain ⟨ys, st2, _, h⟩ := Res.bind_eq h
  obtain ⟨g, rfl⟩ := ofOpt_eq h
  obtain ⟨_, rfl⟩ := fits_some g
  exact ⟨_, rfl⟩
theorem pef_raw (xa : XA G X) {x : Expr} {e : Ex} (h : PEF0 G X P x e) : PEF G X P x e := by
  refine ⟨fun pins s σ H Q I ⟨B, env, st, ρ, d, st', rs, re, ev, _, k⟩ => ?_⟩
  refine thn (h.run pins s σ H (fun v H' => ∃ a ρ' Hm o, v = .ref a ∧ H' = upd Hm a o ∧ Stp ρ H ρ' Hm ∧ RS (G := G) B st' ρ' Hm ∧ Hm a = none ∧ Cont0 G (ρ' ++ B) ρ' Hm d o) I ⟨B, env, st, ρ, d, st', rs, re, ev, fun a ρ' Hm o sp rs' hn c => ⟨a, ρ', Hm, o, rfl, rfl, sp, rs', hn, c⟩⟩) fun v s1 ⟨y, H1, I1, r1, a, ρ', Hm, o, ey, eH, sp, rs', hn, c⟩ => ?_
  subst ey eH
  cases d with
  | lst ds =>
    obtain ⟨vs, rfl, hd⟩ := c
    exact ⟨_, _, I1, r1, k a ρ' Hm _ sp rs' hn ⟨vs, rfl, hd⟩⟩
  | dct ks ws =>
    obtain ⟨kvs, rfl, hk⟩ := c
    obtain ⟨es0, _, xs, kv, dd, hm, _, z⟩ := retell I1
    have t := kr_ts hk.sk hk.keys hk.vals kv
    have hl : ks.length ≤ LIM := by
      have h1 : kvs.length = ks.length := by
        have := congrArg List.length hk.keys
        simpa using this
      rw [lim_line]
      omega
    obtain ⟨es, raw, kk, vv, j1, j2, j3, j4, j5, j6, j7, j8⟩ := dct_raw_mkS (prog := X.prog) t (by rw [← xa.w]; exact dd) hm hl
    have e1 : upd (upd Hm a (.dK kvs)) a (.ext (rawD a es)) = upd Hm a (.ext (rawD a es)) := by
      funext b
      unfold upd
      by_cases q : b = a
      · rw [if_pos q, if_pos q]
      · rw [if_neg q, if_neg q, if_neg q]
    have I2 : Inv X pins σ (upd Hm a (.ext (rawD a es))) s1 := by
      obtain ⟨o, g1, g2, g3, g4⟩ := id raw
      have := I1.write (x := a) (e := a) (o := .ext (rawD a es)) (t' := s1.toks) (h' := s1.heap) (by rw [upd_same]; exact True.intro) (.inl rfl) (fun _ _ _ e => e) ⟨o, g1⟩ ⟨raw, ⟨o, g1⟩, by
        rintro h1 h2 ⟨o', w1, w2, w3, w4⟩ k
        exact ⟨o', k o' w1, w2, w3, w4⟩⟩
      rw [e1] at this
      exact this
    exact ⟨_, _, I2, r1, k a ρ' Hm _ sp rs' hn ⟨es, kk, vv, rfl, j1, j2, j3, j4, j5, j6, j7, j8⟩⟩
  | _ => exact c.elim
theorem pe_fresh {x : Expr} {e : Ex} (h : PEF G X P x e) (hc : ∀ env st d st', e.ev P env st = .ok d st' → d.isCell = true) : PES G X P x e := PE_imp h fun σ H Q ⟨B, env, st, ρ, d, st', rs, re, ev, k⟩ =>
  ⟨B, env, st, ρ, d, st', rs, re, ev, hc _ _ _ _ ev, fun a ρ' Hm o sp rs' hn c => k (.ref a) ρ' _ (sp.trans (Stp.laid hn)) (rs'.same (same_laid hn c.nt)) (c.dv rs' hn)⟩
theorem lst_cell {es : Exs} : ∀ env st d st', (Ex.lst es).ev P env st = .ok d st' → d.isCell = true := by
  intro env st d st' h
  unfold Ex.ev at h
  obtain ⟨xs, st1, _, h⟩ := Res.bind_eq h
  obtain ⟨g, rfl⟩ := ofOpt_eq h
  obtain ⟨_, rfl⟩ := fits_some g
  rfl
theorem lc_cell {own : List Nat} {tg : Tg} {it : It} {ts : Exs} {e : Ex} : ∀ env st d st', (Ex.lc own tg it ts e).ev P env st = .ok d st' → d.isCell = true := fun env st d st' h => by
  obtain ⟨ds, rfl⟩ := lc_lst env st d st' h
  rfl
theorem dict_cell {ks vs : Exs} : ∀ env st d st', (Ex.dict ks vs).ev P env st = .ok d st' → d.isCell = true := by
  intro env st d st' h
  unfold Ex.ev at h
  obtain ⟨xs, st1, _, h⟩ := Res.bind_eq h
  obtain ⟨ys, st2, _, h⟩ := Res.bind_eq h
  obtain ⟨g, rfl⟩ := ofOpt_eq h
  split at g
  · cases g; rfl
  · cases g
/-- a new thing that the store holds -/
theorem pe_new {x : Expr} {e : Ex} (h : PEF G X P x e) : PES G X P x (.new e) := by
  refine PE_imp h fun σ H Q ⟨B, env, st, ρ, d, st', rs, re, ev, k⟩ => ?_
  unfold Ex.ev at ev
  obtain ⟨u, st1, e1, e2⟩ := Res.bind_eq ev
  refine ⟨B, env, st, ρ, u, st1, rs, re, e1, (by cases u <;> first | rfl | cases e2), fun a ρ1 Hm o sp1 rs1 hn c => ?_⟩
  have es : d = .ref st1.length ∧ st' = st1 ++ [u] := by
    cases u <;> first | exact c.elim | skip
    · cases e2; exact ⟨rfl, rfl⟩
    · cases e2; exact ⟨rfl, rfl⟩
  obtain ⟨rfl, rfl⟩ := es
  have hf := fresh_notin rs1 hn
  have inv : ∀ b, b ∈ (ρ1 ++ [a]) ++ B → b ∈ ρ1 ++ B ∨ b = a := fun b hb => by
    rcases List.mem_append.mp hb with z | z
    · rcases List.mem_append.mp z with z | z
      · exact .inl (List.mem_append_left _ z)
      · exact .inr (List.mem_singleton.mp z)
    · exact .inl (List.mem_append_right _ z)
  have hm : ∀ b v, Hm b = some v → b ∉ ρ1 ++ B → b ∉ (ρ1 ++ [a]) ++ B := fun b v e n z => (inv b z).elim n fun q => ne_of_none e hn q
  have hp : ∀ b v, Hm b = some v → upd Hm a o b = some v := fun b v e => by rw [upd_ne (ne_of_none e hn)]; exact e
  have hr : ∀ (n : Nat) b, ρ1[n]? = some b → (ρ1 ++ [a])[n]? = some b := fun n b e => by rw [List.getElem?_append_left (List.getElem?_eq_some_iff.mp e).1]; exact e
  refine k (.ref a) (ρ1 ++ [a]) _ ⟨fun b v e n => hp b v (sp1.pres b v e n), fun b v e n z => ?_, fun n b e => hr n b (sp1.refs n b e)⟩ ⟨fun b hb => ?_, by simp [rs1.len], ?_, fun b hb z => ?_, fun b ps e => (tb_upd (S := ρ1 ++ [a]) (fun x ps e => List.mem_append_left _ (rs1.tb x ps e)) (.inr (by simp))) b ps e, fun n c' b e1 e2 => ?_⟩ ⟨a, ?_, rfl⟩
  · rcases List.mem_append.mp z with z | z
    · exact sp1.out b v e n z
    · exact ne_of_none (sp1.pres b v e n) hn (List.mem_singleton.mp z)
  · rcases inv b hb with z | z
    · obtain ⟨v, e, t⟩ := rs1.mt b z
      exact ⟨v, hp b v e, t⟩
    · subst z
      exact ⟨o, upd_same, c.mt⟩
  · refine List.nodup_append.mpr ⟨rs1.nd, by simp, fun x hx y hy z => ?_⟩
    have := List.mem_singleton.mp hy
    subst this z
    exact hf (List.mem_append_left _ hx)
  · rcases List.mem_append.mp z with z | z
    · exact rs1.off b hb z
    · have := List.mem_singleton.mp z
      subst this
      exact hf (List.mem_append_right _ hb)
  · by_cases hlt : n < st1.length
    · rw [List.getElem?_append_left hlt] at e1
      rw [List.getElem?_append_left (by rw [← rs1.len]; exact hlt)] at e2
      have hb : b ≠ a := fun z => hf (List.mem_append_left _ (z ▸ List.mem_of_getElem? e2))
      exact DC.keep rs1.mt (fun b v e _ => hp b v e) hm hr (fun v e => hp b v e) (rs1.cel n c' b e1 e2)
    · have hn2 : n = st1.length := by
        have := (List.getElem?_eq_some_iff.mp e1).1
        simp at this
        omega
      subst hn2
      have ec : c' = u := by simpa using e1.symm
      have eb : b = a := by rw [rs1.len] at e2; simpa using e2.symm
      subst ec eb
      exact DC.of (c.dw rs1.mt (fun b v e _ => hp b v e) hm hr upd_same)
  · rw [rs1.len]
    simp
end
end Dp
set_option Elab.async false
set_option linter.all false
set_option maxRecDepth 100000
set_option maxHeartbeats 4000000
namespace Dp
open PySem PySem.Spec PyProof.Rows L2 PySem.W PySem.SeqAt
end Dp
set_option Elab.async false
set_option linter.all false
set_option maxRecDepth 100000
set_option maxHeartbeats 4000000
namespace Dp
open PySem PySem.Spec PyProof.Rows L2 PySem.W PySem.SeqAt
end Dp
set_option Elab.async false
set_option linter.all false
set_option maxRecDepth 100000
set_option maxHeartbeats 4000000
namespace Dp
open PySem PySem.Spec PyProof.Rows L2 PySem.W PySem.SeqAt
end Dp
set_option Elab.async false
set_option linter.all false
set_option maxRecDepth 100000
set_option maxHeartbeats 4000000
namespace Dp
open PySem PySem.Spec PyProof.Rows L2 PySem.W PySem.SeqAt
end Dp
set_option Elab.async false
set_option linter.all false
set_option maxRecDepth 100000
set_option maxHeartbeats 4000000
namespace Dp
open PySem PySem.Spec PyProof.Rows L2 PySem.W PySem.SeqAt
section
variable {G : Gx} {X : Cx} {P : Par}
def biName : Bi → Str
  | .len => "len"
  | .sum => "sum"
  | .all => "all"
  | .any => "any"
  | .tuple => "tuple"
  | .list => "list"
  | .sorted => "sorted"
  | .dict => "dict"
  | .repr => "repr"
  | .int => "int"
  | .min1 => "min"
  | .max1 => "max"
  | .min2 => "min"
  | .max2 => "max"
  | _ => "isinstance"
def biPlain : Bi → Bool
  | .len => true
  | .sum => true
  | .all => true
  | .any => true
  | .tuple => true
  | .list => true
  | .sorted => true
  | .dict => true
  | .repr => true
  | .int => true
  | .min1 => true
  | .max1 => true
  | .min2 => true
  | .max2 => true
  | _ => false
def tBi (G : Gx) (P : Par) (b : Bi) (es : Exs) : TE := tE G (relS G) ((Ex.prim (.bi b) es).ev P)
theorem bi_tr {b : Bi} {es : Exs} {f : Store → List D → Option D} (hf : ∀ st ds, biEv st b ds = f st ds) {σ : L2.St} {H : Hp} {Q : VK} (h : tBi G P b es σ H Q) : tCB (rBi G f) (tAs G (relsW G) (es.ev P)) σ H Q := by
  obtain ⟨B, env, st, ρ, d, st', rs, re, ev, k⟩ := h
  unfold Ex.ev at ev
  obtain ⟨ds, st1, e1, e2⟩ := Res.bind_eq ev
  obtain ⟨g2, rfl⟩ := ofOpt_eq e2
  refine ⟨B, env, st, ρ, ds, st', rs, re, e1, fun vs ρ1 H1 sp1 rs1 q1 => ⟨B, ρ1, st', ds, d, rs1, q1, ?_, fin_of sp1 rs1 k⟩⟩
  rw [← hf]
  exact g2
theorem pe_bi (xa : XA G X) {b : Bi} (hb : biPlain b = true) {x : Expr} {xs : List Expr} {es : Exs} {p pos : Pos} (hg : Gl X (biName b)) (hm : X.mg (biName b) = none) (ha : PA X (x :: xs) (tAs G (relsW G) (es.ev P)))
    (na : starEach (x :: xs) X.env = (false, eval x X.env) :: starEach xs X.env) (hpl : (backTo pos (starEach xs X.env)).any (·.1) = false) : PES G X P (.Call (.Name (biName b) p) (x :: xs) [] pos) (.prim (.bi b) es) := by
  cases b <;> first | (cases hb; done) | skip
  · exact PE_imp (pe_callB (len_ok xa) hg hm PySem.boot_len ha (by decide +kernel) (by decide +kernel) na hpl) fun σ H Q h => bi_tr (fun _ _ => rfl) h
  · exact PE_imp (pe_callB (sum_ok xa) hg hm boot_sum ha (by decide +kernel) (by decide +kernel) na hpl) fun σ H Q h => bi_tr (fun _ _ => rfl) h
  · exact PE_imp (pe_callB (all_ok xa) hg hm boot_all ha (by decide +kernel) (by decide +kernel) na hpl) fun σ H Q h => bi_tr (fun _ _ => rfl) h
  · exact PE_imp (pe_callB (any_ok xa) hg hm boot_any ha (by decide +kernel) (by decide +kernel) na hpl) fun σ H Q h => bi_tr (fun _ _ => rfl) h
  · exact PE_imp (pe_callTy (tuple_ok xa) hg hm boot_tuple ha (by decide +kernel) (by decide +kernel) na hpl) fun σ H Q h => bi_tr (fun _ _ => rfl) h
  · exact PE_imp (pe_callTy (listd_ok xa) hg hm boot_list ha (by decide +kernel) (by decide +kernel) na hpl) fun σ H Q h => bi_tr (fun _ _ => rfl) h
  · exact PE_imp (pe_callB (sorted_ok xa) hg hm boot_sorted ha (by decide +kernel) (by decide +kernel) na hpl) fun σ H Q h => bi_tr (fun _ _ => rfl) h
  · exact PE_imp (pe_callTy (dict_ok xa) hg hm boot_dict ha (by decide +kernel) (by decide +kernel) na hpl) fun σ H Q h => bi_tr (fun _ _ => rfl) h
  · exact PE_imp (pe_callB (repr_ok xa) hg hm boot_repr ha (by decide +kernel) (by decide +kernel) na hpl) fun σ H Q h => bi_tr (fun _ _ => rfl) h
  · exact PE_imp (pe_callTy (int_ok xa) hg hm boot_int ha (by decide +kernel) (by decide +kernel) na hpl) fun σ H Q h => bi_tr (fun _ _ => rfl) h
  · exact PE_imp (pe_callB (min1_ok xa) hg hm boot_min ha (by decide +kernel) (by decide +kernel) na hpl) fun σ H Q h => bi_tr (fun _ _ => rfl) h
  · exact PE_imp (pe_callB (max1_ok xa) hg hm boot_max ha (by decide +kernel) (by decide +kernel) na hpl) fun σ H Q h => bi_tr (fun _ _ => rfl) h
  · exact PE_imp (pe_callB (min2_ok xa) hg hm boot_min ha (by decide +kernel) (by decide +kernel) na hpl) fun σ H Q h => bi_tr (fun _ _ => rfl) h
  · exact PE_imp (pe_callB (max2_ok xa) hg hm boot_max ha (by decide +kernel) (by decide +kernel) na hpl) fun σ H Q h => bi_tr (fun _ _ => rfl) h
def isName : Bi → Option (String × Str)
  | .isint => some ("int", "int")
  | .isbool => some ("bool", "bool")
  | .istup => some ("tuple", "tuple")
  | .isstr => some ("str", "str")
  | _ => none
def rCall (G : Gx) (P : Par) (f : Nat) : List V → Hp → VK → Prop := fun vs H Q => ∃ B st ρ ds d st', RS (G := G) B st ρ H ∧ DVs G (ρ ++ B) ρ H ds vs ∧ P.call f ds st = .ok d st' ∧ ∀ v ρ' H', Stp ρ H ρ' H' → RS (G := G) B st' ρ' H' → DV G (ρ' ++ B) ρ' H' d v → Q v H'
/-- how an error lies: its class, its dict with the one field -/
def xrel (G : Gx) (c : Nat) (ds : List D) (M ρ : List Addr) (H : Hp) (cls : Value) (dd : Option Addr) : Prop := ∃ C fs dx ys, G.et[c]? = some (C, fs) ∧ cls = .ref C ∧ dd = some dx ∧ H dx = some (.xd (fs.zip ys)) ∧ dx ∉ M ∧ ys.length = fs.length ∧ DVs G M ρ H ds ys
def rCallX (G : Gx) (P : Par) (f : Nat) : List V → Hp → XK → Prop := fun vs H E => ∃ B st ρ ds c es st', RS (G := G) B st ρ H ∧ DVs G (ρ ++ B) ρ H ds vs ∧ P.call f ds st = .exc c es st' ∧ ∀ ρ' H' cls dd, Stp ρ H ρ' H' → RS (G := G) B st' ρ' H' → xrel G c es (ρ' ++ B) ρ' H' cls dd → E cls dd H'
def CallRX (X : Cx) (u : Value) (r : List V → Hp → XK → Prop) (E : XK) : Prop := ∀ (pins : List (Addr × Obj)) (s : Shared) (σ : L2.St) (H : Hp) (vs : List V) (us : List Value) (Q : VK), Inv X pins σ H s → Vals vs us → r vs H E → wpAny (model X.prog X.w) X.A (call u us) (EP X pins σ Q) X.xe s
theorem pe_callF {f : Nat} {a : Addr} {n : Str} {x : Expr} {xs : List Expr} {es : Exs} {p pos : Pos} (hg : Gl X n) (hm : X.mg n = some (.ref a)) (hk : PySem.W.keepIn X.K (.ref a) = true) (hc : CallR X (.ref a) (rCall G P f)) (ha : PA X (x :: xs) (tAs G (relsS G) (es.ev P)))
    (hdb : (n == ("__debug__" : Str)) = false) (na : starEach (x :: xs) X.env = (false, eval x X.env) :: starEach xs X.env) (hpl : (backTo pos (starEach xs X.env)).any (·.1) = false) : PES G X P (.Call (.Name n p) (x :: xs) [] pos) (.call f es) := by
  refine ⟨fun pins s σ H Q I h => ?_⟩
  obtain ⟨B, env, st, ρ, d, st', rs, re, ev, k⟩ := h
  unfold Ex.ev at ev
  obtain ⟨ds, st1, e1, e2⟩ := Res.bind_eq ev
  refine wpAny_Call_Name_kw (ld_glob I hg hm ?_ hdb)
  refine PySem.W.callWith_K (h₀ := X.base) I.ok.mod.kin hk (thn (ha.run pos pins s σ H (fun vs H1 => ∃ ρ1, Stp ρ H ρ1 H1 ∧ RS (G := G) B st1 ρ1 H1 ∧ DVs G (ρ1 ++ B) ρ1 H1 ds vs) I ⟨B, env, st, ρ, ds, st1, rs, re, e1, fun vs ρ1 H1 sp1 rs1 q1 => ⟨ρ1, sp1, rs1, q1⟩⟩) fun us s1 ⟨vs, H1, I1, r, ρ1, sp1, rs1, q1⟩ => ⟨I1.kIn, ?_⟩) na hpl
  exact hc pins s1 σ H1 vs us Q I1 r ⟨B, st1, ρ1, ds, d, st', rs1, q1, noExc_ok e2, fun v ρ2 H2 sp2 rs2 q2 => k v ρ2 H2 (sp1.trans sp2) rs2 q2⟩
theorem pe_callF0 {f : Nat} {a : Addr} {n : Str} {p pos : Pos} (hg : Gl X n) (hm : X.mg n = some (.ref a)) (hk : PySem.W.keepIn X.K (.ref a) = true) (hc : CallR X (.ref a) (rCall G P f))
    (hdb : (n == ("__debug__" : Str)) = false) : PES G X P (.Call (.Name n p) [] [] pos) (.call f .nil) := by
  refine ⟨fun pins s σ H Q I h => ?_⟩
  obtain ⟨B, env, st, ρ, d, st', rs, re, ev, k⟩ := h
  unfold Ex.ev at ev
  obtain ⟨ds, st1, e1, e2⟩ := Res.bind_eq ev
  unfold Exs.ev at e1
  cases e1
  refine wpAny_Call_Name_kw (ld_glob I hg hm ?_ hdb)
  exact PySem.W.callWith_K0 I.kIn hk (hc pins s σ H [] [] Q I .nil ⟨B, st, ρ, [], d, st', rs, rfl, noExc_ok e2, k⟩)
end
end Dp
set_option Elab.async false
set_option linter.all false
set_option maxRecDepth 100000
set_option maxHeartbeats 4000000
namespace Dp
open PySem PySem.Spec PyProof.Rows L2
end Dp
set_option Elab.async false
set_option linter.all false
set_option maxRecDepth 100000
set_option maxHeartbeats 4000000
namespace Dp
open PySem PySem.Spec PyProof.Rows L2 PySem.W
end Dp
set_option Elab.async false
set_option linter.all false
set_option maxRecDepth 100000
set_option maxHeartbeats 4000000
namespace Dp
open PySem PySem.Spec PyProof.Rows L2 PySem.W
end Dp
set_option Elab.async false
set_option linter.all false
set_option maxRecDepth 100000
set_option maxHeartbeats 4000000
namespace Dp
open PySem PySem.Spec PyProof.Rows L2 PySem.W PySem.SeqAt
end Dp
set_option Elab.async false
set_option linter.all false
set_option maxRecDepth 100000
set_option maxHeartbeats 4000000
namespace Dp
open PySem PySem.Spec PyProof.Rows L2 PySem.W PySem.SeqAt
section
variable {G : Gx} {X : Cx} {P : Par}
theorem two_stepF {x y : Expr} {a b : Ex} {p : Pr} {f : D → D → Option D} {σ : L2.St} {H : Hp} {Q : VK} (hp : ∀ st u v, prEv st p [u, v] = f u v) (h : tF G ((Ex.prim p (.cons a (.cons b .nil))).ev P) σ H Q) :
    tOp (r2F G f) (tE G (relW G) (a.ev P)) (tE G (relW G) (b.ev P)) σ H Q := by
  obtain ⟨B, env, st, ρ, d, st', rs, re, ev, hc, k⟩ := h
  obtain ⟨u, v, st1, e1, e2, e3⟩ := prim2_inv ev
  rw [hp] at e3
  refine ⟨B, env, st, ρ, _, _, rs, re, e1, fun v1 ρ1 H1 sp1 rs1 q1 => ⟨B, env, st1, ρ1, _, _, rs1, re.stp rs.mt rs.off sp1, e2, fun v2 ρ2 H2 sp2 rs2 q2 => ?_⟩⟩
  exact ⟨B, ρ2, st', _, _, _, rs2, DB.stp rs1.mt rs1.off sp2 q1, q2, e3, hc, fun p o hn c => k p ρ2 H2 o (sp1.trans sp2) rs2 hn c⟩
theorem pe_addF (xa : XA G X) {x y : Expr} {a b : Ex} {pos : Pos} (ha : PEW G X P x a) (hb : PEW G X P y b) : PEF G X P (.BinOp x .Add y pos) (.prim (.bo .add) (.cons a (.cons b .nil))) :=
  PE_imp (pe_op (add_okF xa) ha hb) fun σ H Q h => two_stepF (x := x) (y := y) (fun _ _ _ => rfl) h
theorem pe_mulF (xa : XA G X) {x y : Expr} {a b : Ex} {pos : Pos} (ha : PEW G X P x a) (hb : PEW G X P y b) : PEF G X P (.BinOp x .Mult y pos) (.prim (.bo .mul) (.cons a (.cons b .nil))) :=
  PE_imp (pe_op (mul_okF xa) ha hb) fun σ H Q h => two_stepF (x := x) (y := y) (fun _ _ _ => rfl) h
def biFr : Bi → Bool
  | .dict => true
  | .list => true
  | .sorted => true
  | _ => false
theorem biF_tr {b : Bi} {es : Exs} {f : Store → List D → Option D} (hf : ∀ st ds, biEv st b ds = f st ds) {σ : L2.St} {H : Hp} {Q : VK} (h : tF G ((Ex.prim (.bi b) es).ev P) σ H Q) : tCB (rBiF G f) (tAs G (relsW G) (es.ev P)) σ H Q := by
  obtain ⟨B, env, st, ρ, d, st', rs, re, ev, hc, k⟩ := h
  unfold Ex.ev at ev
  obtain ⟨ds, st1, e1, e2⟩ := Res.bind_eq ev
  obtain ⟨g2, rfl⟩ := ofOpt_eq e2
  refine ⟨B, env, st, ρ, ds, st', rs, re, e1, fun vs ρ1 H1 sp1 rs1 q1 => ⟨B, ρ1, st', ds, d, rs1, q1, ?_, fun p o hn c => k p ρ1 H1 o sp1 rs1 hn c⟩⟩
  rw [← hf]
  exact g2
theorem pe_biF (xa : XA G X) {b : Bi} (hb : biFr b = true) {x : Expr} {xs : List Expr} {es : Exs} {p pos : Pos} (hg : Gl X (biName b)) (hm : X.mg (biName b) = none) (ha : PA X (x :: xs) (tAs G (relsW G) (es.ev P)))
    (na : starEach (x :: xs) X.env = (false, eval x X.env) :: starEach xs X.env) (hpl : (backTo pos (starEach xs X.env)).any (·.1) = false) : PEF G X P (.Call (.Name (biName b) p) (x :: xs) [] pos) (.prim (.bi b) es) := by
  cases b <;> first | (cases hb; done) | skip
  · exact PE_imp (pe_callTy (listd_okF xa) hg hm boot_list ha (by decide +kernel) (by decide +kernel) na hpl) fun σ H Q h => biF_tr (fun _ _ => rfl) h
  · exact PE_imp (pe_callB (sorted_okF xa) hg hm boot_sorted ha (by decide +kernel) (by decide +kernel) na hpl) fun σ H Q h => biF_tr (fun _ _ => rfl) h
  · exact PE_imp (pe_callTy (dict_okF xa) hg hm boot_dict ha (by decide +kernel) (by decide +kernel) na hpl) fun σ H Q h => biF_tr (fun _ _ => rfl) h
end
end Dp
set_option Elab.async false
set_option linter.all false
set_option maxRecDepth 100000
set_option maxHeartbeats 4000000
namespace Dp
open PySem PySem.Spec PyProof.Rows L2 PySem.W PySem.SeqAt
end Dp
set_option Elab.async false
set_option linter.all false
set_option maxRecDepth 100000
set_option maxHeartbeats 4000000
namespace Dp
open PySem PySem.Spec PyProof.Rows PySem.W
/-- an own class over it is called -/
def CallOwn (ne : String) (bmB : List Value) : Prop := ∀ {prog : Program} {w : World} {A : Around} {R : Result → Shared → Prop} {h : Heap} {g : Array GenState} {d : Drawn} {t : Nat} {os : OsState} {nm q : Str} {C N : Addr} {bs bm : List Value} {hdct : Bool} {sn : List Str} {sub : List Value} {ab : Bool} {col : Option Bool} {dd : Option Addr} {k0 k1 k2 k3 k5 : Option Value},
  (∀ X : String, bm.contains (.type X) = bmB.contains (.type X)) → ∀ {rest : List Value} {fI : Addr}, h.get? C = some (excClassObj nm q C N bs bm hdct sn sub ab col dd k0 k1 k2 k3 k5 ne) →
  W.Looks (model prog w) h (typeLookup (.ref C) "__init__") (some (.ref fI)) → (∀ self, W.Looks (model prog w) h (bindSpecial (.ref fI) self) (.ref fI, [self])) → rest.length ≤ sizeLine →
  codeAny (model prog w) (A.under (.builtin "type.__call__" ⟨.ref C :: rest, []⟩)) (.call (.ref fI) ⟨.ref (h.objs.size + 1) :: rest, []⟩) (W.InitBack (h.objs.size + 1) R) ⟨(h.push (W.kdv_tup rest)).push (HandSPX.excO C h.objs.size), g, d, t, os⟩ →
  codeAny (model prog w) A (.call (.ref C) ⟨rest, []⟩) R ⟨h, g, d, t, os⟩
/-- its __init__ -/
structure InitOwn (ini : String) : Prop where
  kind : builtinKind ini = some .slot
  row : ∃ B, Manifest.signature? ini = some ⟨.positional, "*", B, .self, [⟨"args", .varPos, false⟩]⟩ ∧ (B != "*") = true
  entry : entryFor table ini = some Builtin.«BaseException.__init__»
  plain : plainId ini = true
structure EB where
  B : String
  ne : String
  ini : String
  bm : List Value
structure EBok (b : EB) : Prop where
  call : CallOwn b.ne b.bm
  it : InitOwn b.ini
  sf : StoreFacts b.B b.bm "object.__setattr__" "object"
  kx : KxsFacts b.B b.ini
  lf : b.ini.startsWith "lifetime." = false
def ebV : EB := ⟨"ValueError", "ValueError.__new__", "ValueError.__init__", [.type "ValueError", .type "Exception", .type "BaseException", .type "object"]⟩
def ebO : EB := ⟨"OverflowError", "OverflowError.__new__", "OverflowError.__init__", [.type "OverflowError", .type "ArithmeticError", .type "Exception", .type "BaseException", .type "object"]⟩
def ebR : EB := ⟨"RuntimeError", "RuntimeError.__new__", "RuntimeError.__init__", [.type "RuntimeError", .type "Exception", .type "BaseException", .type "object"]⟩
def ebK : EB := ⟨"KeyError", "LookupError.__new__", "KeyError.__init__", [.type "KeyError", .type "LookupError", .type "Exception", .type "BaseException", .type "object"]⟩
theorem init_of {B n i : String} {bm : List Value} (F : ExcBaseFacts B n i bm) : InitOwn i := ⟨F.initKind, ⟨_, F.initRow, F.noStar⟩, F.initEntry, F.init.plain⟩
theorem call_of {B n i : String} {bm : List Value} (F : ExcBaseFacts B n i bm) : CallOwn n bm := fun hT _ _ hC hi hb hr hq => HandSPX.call_own F hT hC hi hb hr hq
theorem ebV_ok : EBok ebV := ⟨call_of PySem.F.excBase_ValueError, init_of PySem.F.excBase_ValueError, PySem.F.store_ValueError, kxs_ValueError, by decide +kernel⟩
theorem ebO_ok : EBok ebO := ⟨call_of PySem.F.excBase_OverflowError, init_of PySem.F.excBase_OverflowError, PySem.F.store_OverflowError, kxs_OverflowError, by decide +kernel⟩
theorem ebR_ok : EBok ebR := ⟨call_of PySem.F.excBase_RuntimeError, init_of PySem.F.excBase_RuntimeError, PySem.F.store_RuntimeError, kxs_RuntimeError, by decide +kernel⟩
section
variable {prog : Program} {w : World} {A : Around} {E : Value → Shared → Prop} {R : Result → Shared → Prop} {h : Heap} {g : Array GenState} {d : Drawn} {t : Nat} {os : OsState}
variable {nm q : Str} {C N : Addr} {bs bm : List Value} {hdct : Bool} {sn : List Str} {sub : List Value} {ab : Bool} {col : Option Bool} {dd : Option Addr} {k0 k1 k2 k3 k5 : Option Value}
theorem kE_check {rest : List Value} {Q : Unit → Shared → Prop} (hL : (Value.ref C :: bm).contains (.type "LookupError") = true)
    (hC : h.get? C = some (excClassObj nm q C N bs bm hdct sn sub ab col dd k0 k1 k2 k3 k5 "LookupError.__new__")) (hq : Q () ⟨h, g, d, t, os⟩) : wpAny (model prog w) A (checkBuiltinCall "LookupError.__new__" ⟨.ref C :: rest, []⟩) Q E ⟨h, g, d, t, os⟩ := by
  have F := PySem.F.excBase_LookupError
  have hs := F.noStar
  simp only [checkBuiltinCall, F.newKind, F.newSplit, F.newRow]
  repeat (first | refine wpAny_loadPart_at hC ?_ | (refine wpAny_isSubtype_exc hC ?_; rw [hL]) | refine wpAny_staticBase_exc hC ?_ | refine wpAny_madeBy_exc hC ?_ | simp only [bne_self_eq_false, Bool.false_eq_true, if_false] | wp_step)
  exact hq
theorem kE_new {rest : List Value} (hL : (Value.ref C :: bm).contains (.type "LookupError") = true) (hA : (Value.ref C :: bm).contains (.type "AttributeError") = false) (hN : (Value.ref C :: bm).contains (.type "NameError") = false)
    (hC : h.get? C = some (excClassObj nm q C N bs bm hdct sn sub ab col dd k0 k1 k2 k3 k5 "LookupError.__new__")) (hr : rest.length ≤ sizeLine)
    (hq : R (.ok (.ret (.ref (h.objs.size + 1)))) ⟨(h.push (W.kdv_tup rest)).push (HandSPX.excO C h.objs.size), g, d, t, os⟩) : codeAny (model prog w) A (.builtin "LookupError.__new__" ⟨.ref C :: rest, []⟩) R ⟨h, g, d, t, os⟩ := by
  have F := PySem.F.excBase_LookupError
  have hends := F.ends
  refine codeAny_builtinAt F.entry ?_
  unfold Builtin.«BaseException.__new__»
  refine PySem.wpAt_bind ?_
  show PySem.wpAt _ _ _ (stack >>= _) _ _ _
  refine PySem.wpAt_bind (PySem.wpAt_stack fun p below => PySem.wpAt_of_wpAny ?_)
  wp_walk
  refine PySem.wpAt_of_wpAny ?_
  rw [F.owner]
  repeat (first | with_reducible refine wpAny_madeHere_exc F.canon hC ?_ | with_reducible refine wpAny_loadPart_at hC ?_ | (with_reducible refine wpAny_isSubtype_exc hC ?_; first | rw [hL] | rw [hA] | rw [hN]) | wp_step)
  show R _ _
  rw [Heap.size_push]
  exact hq
theorem kE_type {rest : List Value} {fI : Addr} {Q : PySem.Fin → Shared → Prop} (hL : (Value.ref C :: bm).contains (.type "LookupError") = true) (hA : (Value.ref C :: bm).contains (.type "AttributeError") = false) (hN : (Value.ref C :: bm).contains (.type "NameError") = false)
    (hC : h.get? C = some (excClassObj nm q C N bs bm hdct sn sub ab col dd k0 k1 k2 k3 k5 "LookupError.__new__")) (hi : W.Looks (model prog w) h (typeLookup (.ref C) "__init__") (some (.ref fI))) (hb : ∀ self, W.Looks (model prog w) h (bindSpecial (.ref fI) self) (.ref fI, [self])) (hr : rest.length ≤ sizeLine)
    (hq : codeAny (model prog w) A (.call (.ref fI) ⟨.ref (h.objs.size + 1) :: rest, []⟩) (fun r s' => match r with | .ok (.ret v) => v = .none ∧ Q (.done (.ret (.ref (h.objs.size + 1)))) s' | .ok _ => False | .error e => E e s') ⟨(h.push (W.kdv_tup rest)).push (HandSPX.excO C h.objs.size), g, d, t, os⟩) :
    wpAny (model prog w) A (Builtin.«type.__call__» ⟨.ref C :: rest, []⟩) Q E ⟨h, g, d, t, os⟩ := by
  have F := PySem.F.excBase_LookupError
  repeat (first | with_reducible refine wpAny_loadPart_at hC ?_ | with_reducible refine wpAny_madeBy_exc hC ?_ | wp_step)
  refine codeAny_call_builtin_code (Code.quiet_builtin _ F.quiet) (kE_check hL hC ?_)
  refine kE_new hL hA hN hC hr ?_
  show wpAny _ _ _ _ _ _
  have kp : ∀ b o, h.get? b = some o → ((h.push (W.kdv_tup rest)).push (HandSPX.excO C h.objs.size)).get? b = some o := fun b o e => Heap.get?_push_of_some _ (Heap.get?_push_of_some _ e)
  have hC2 := kp _ _ hC
  have there : ((h.push (W.kdv_tup rest)).push (HandSPX.excO C h.objs.size)).get? (h.objs.size + 1) = some (HandSPX.excO C h.objs.size) := by heap_get
  have own : (Value.ref C :: bm).contains (.ref C) = true := by simp
  have i2 := hi.keeps kp
  have b2 := (hb (.ref (h.objs.size + 1))).keeps kp
  unfold isInstance
  repeat (first | with_reducible refine wpAny_loadPart_at there ?_ | (with_reducible refine wpAny_isSubtype_exc hC2 ?_; rw [own]) | wp_step)
  show wpAny _ _ (typeLookup (.ref C) _) _ _ _
  refine i2.at ?_
  refine wpAny_holding (wpAny_bind (b2.at ?_))
  refine wpAny_bind (wpAny_call (codeAny_mono hq fun r s' z => ?_))
  rcases r with e | (v | _ | _ | _) <;> first | exact z | exact z.elim | skip
  obtain ⟨rfl, z⟩ := z
  first
    | exact wpAny_pure (wpAny_pure z)
    | (wp_walk; exact z)
end
theorem kE_call : CallOwn "LookupError.__new__" ebK.bm := by
  intro prog w A R h g d t os nm q C N bs bm hdct sn sub ab col dd k0 k1 k2 k3 k5 hT rest fI hC hi hb hr hq
  have hL : (Value.ref C :: bm).contains (.type "LookupError") = true := by
    rw [List.contains_cons, hT]
    show (false || ebK.bm.contains (.type "LookupError")) = true
    decide +kernel
  have hA : (Value.ref C :: bm).contains (.type "AttributeError") = false := by
    rw [List.contains_cons, hT]
    show (false || ebK.bm.contains (.type "AttributeError")) = false
    decide +kernel
  have hN : (Value.ref C :: bm).contains (.type "NameError") = false := by
    rw [List.contains_cons, hT]
    show (false || ebK.bm.contains (.type "NameError")) = false
    decide +kernel
  have f1 := PySem.tc_lookup
  have f2 := PySem.tc_bind (.ref C)
  have hTy : (⟨h, g, d, t, os⟩ : Shared).TypeIs (.ref C) "type" := ⟨_, hC, rfl⟩
  refine codeAny_of_tree ?_
  show wpAny _ _ (callAny (.ref C) _) _ _ _
  repeat (any_goals (first | assumption | with_reducible refine wpAny_loadPart_at hC ?_ | wp_step))
  refine ⟨rfl, ?_⟩
  refine codeAny_call_builtin_at (Code.quiet_builtin _ (by decide +kernel)) PySem.entry_typeCall (wpAny_check_type_call_sub hC (kE_type hL hA hN hC hi hb hr ?_))
  refine codeAny_mono hq fun r s' z => ?_
  rcases r with e | (v | _ | _ | _) <;> exact z
theorem kE_store : StoreFacts "KeyError" ebK.bm "object.__setattr__" "object" := by
  constructor
  case slot => exact .of (owner := "object") (n := "__setattr__") (by first | decide +kernel | kernel_rfl | (rw [isSubtype_type]; kernel_rfl) | (rw [mroOf_type]; kernel_rfl) | (intro _; kernel_rfl) | (rw [typeLookup_type, builtinLookup_eq_fast]; kernel_rfl)) (by first | decide +kernel | kernel_rfl | (rw [isSubtype_type]; kernel_rfl) | (rw [mroOf_type]; kernel_rfl) | (intro _; kernel_rfl) | (rw [typeLookup_type, builtinLookup_eq_fast]; kernel_rfl)) (by first | decide +kernel | kernel_rfl | (rw [isSubtype_type]; kernel_rfl) | (rw [mroOf_type]; kernel_rfl) | (intro _; kernel_rfl) | (rw [typeLookup_type, builtinLookup_eq_fast]; kernel_rfl)) (by first | decide +kernel | kernel_rfl | (rw [isSubtype_type]; kernel_rfl) | (rw [mroOf_type]; kernel_rfl) | (intro _; kernel_rfl) | (rw [typeLookup_type, builtinLookup_eq_fast]; kernel_rfl)) (by first | exact .inl (by first | decide +kernel | kernel_rfl | (rw [isSubtype_type]; kernel_rfl) | (rw [mroOf_type]; kernel_rfl) | (intro _; kernel_rfl) | (rw [typeLookup_type, builtinLookup_eq_fast]; kernel_rfl)) | exact .inr (by first | decide +kernel | kernel_rfl | (rw [isSubtype_type]; kernel_rfl) | (rw [mroOf_type]; kernel_rfl) | (intro _; kernel_rfl) | (rw [typeLookup_type, builtinLookup_eq_fast]; kernel_rfl))) (by first | decide +kernel | kernel_rfl | (rw [isSubtype_type]; kernel_rfl) | (rw [mroOf_type]; kernel_rfl) | (intro _; kernel_rfl) | (rw [typeLookup_type, builtinLookup_eq_fast]; kernel_rfl))
  case entry => exact PySem.F.store_LookupError.entry
  case args => exact PySem.F.store_LookupError.args
  all_goals (first | decide +kernel | kernel_rfl | (rw [isSubtype_type]; kernel_rfl) | (rw [mroOf_type]; kernel_rfl) | (intro _; kernel_rfl) | (rw [typeLookup_type, builtinLookup_eq_fast]; kernel_rfl))
theorem kE_init : InitOwn "KeyError.__init__" := ⟨by first | decide +kernel | kernel_rfl | (rw [isSubtype_type]; kernel_rfl) | (rw [mroOf_type]; kernel_rfl) | (intro _; kernel_rfl) | (rw [typeLookup_type, builtinLookup_eq_fast]; kernel_rfl), ⟨"KeyError", by first | decide +kernel | kernel_rfl | (rw [isSubtype_type]; kernel_rfl) | (rw [mroOf_type]; kernel_rfl) | (intro _; kernel_rfl) | (rw [typeLookup_type, builtinLookup_eq_fast]; kernel_rfl), by decide +kernel⟩, entryFor_alias (id' := "BaseException.__init__") (by rw [fastTable_eq_tree]; kernel_rfl) (by first | decide +kernel | kernel_rfl | (rw [isSubtype_type]; kernel_rfl) | (rw [mroOf_type]; kernel_rfl) | (intro _; kernel_rfl) | (rw [typeLookup_type, builtinLookup_eq_fast]; kernel_rfl)) (by first | decide +kernel | kernel_rfl | (rw [isSubtype_type]; kernel_rfl) | (rw [mroOf_type]; kernel_rfl) | (intro _; kernel_rfl) | (rw [typeLookup_type, builtinLookup_eq_fast]; kernel_rfl)) (by rw [fastTable_eq_tree]; kernel_rfl), by first | decide +kernel | kernel_rfl | (rw [isSubtype_type]; kernel_rfl) | (rw [mroOf_type]; kernel_rfl) | (intro _; kernel_rfl) | (rw [typeLookup_type, builtinLookup_eq_fast]; kernel_rfl)⟩
theorem kE_kx : KxsFacts "KeyError" "KeyError.__init__" := ⟨by show builtinType _ = _; rw [builtinType_eq_fast]; kernel_rfl, by first | kernel_rfl | rfl⟩
theorem ebK_ok : EBok ebK := ⟨kE_call, kE_init, kE_store, kE_kx, by decide +kernel⟩
end Dp
set_option Elab.async false
set_option linter.all false
set_option maxRecDepth 100000
set_option maxHeartbeats 8000000
namespace Dp
open PySem PySem.Spec PyProof.Rows L2 PySem.W
/-- an own class over it -/
structure OexG (b : EB) (K : PySem.W.Frag) (C : Addr) : Prop where
  cls : ∃ nm q N bs bm sn sub ab col dd k0 k1 k2 k3 k5, K.lookup C = some (excClassObj nm q C N bs bm true sn sub ab col dd k0 k1 k2 k3 k5 b.ne) ∧ excTail b.bm bm = true
  sa : PySem.W.findIn K (.ref C) "__setattr__" = some (some (.builtin "object.__setattr__"))
  exC : PySem.W.subIn K (.ref C) (.type "BaseException") = some true
  tyC : PySem.W.typeIn K (.ref C) = some (.type "type")
  kC : PySem.W.keepIn K (.ref C) = true
/-- what is asked of the class -/
structure ErrK (b : EB) (K : PySem.W.Frag) (C : Addr) (f : Str) : Prop where
  ok : EBok b
  T : OexG b K C
  fnd : PySem.W.findIn K (.ref C) f = some none
  sup : ks_superIn K C C "__init__" = some (some (.builtin b.ini))
  sub : PySem.W.subIn K (.ref C) (.type b.B) = some true
  slf : PySem.W.mroIn K C (.ref C) = some true
  opq : nsIn K cStatics "thirdparty.any" = some none
  sgl : nsIn K mainGlobals "super" = some none
/-- the reading of such an __init__ -/
def spErr (C : Addr) (f : Str) : Sp := fun vs H Q _ => ∃ (a : Addr) (y : V), vs = [.ref a, y] ∧ H a = some (exo a C none) ∧ ∀ dx, H dx = none → dx ≠ a → Q .non (upd (upd H dx (exd dx [(f, y)])) a (exo a C (some dx)))
/-- .. of two fields -/
def spErr2 (C : Addr) (f f2 : Str) : Sp := fun vs H Q _ => ∃ (a : Addr) (y y2 : V), vs = [.ref a, y, y2] ∧ H a = some (exo a C none) ∧ ∀ dx, H dx = none → dx ≠ a → Q .non (upd (upd H dx (exd dx [(f, y), (f2, y2)])) a (exo a C (some dx)))
section
variable {prog : Program} {w : World} {A : Around} {E : Value → Shared → Prop} {h : Heap} {g : Array GenState} {d : Drawn} {t : Nat} {os : OsState}
variable {nm q : Str} {C N : Addr} {bs bm : List Value} {hdct : Bool} {sn : List Str} {sub : List Value} {ab : Bool} {col : Option Bool} {dd : Option Addr} {k0 k1 k2 k3 k5 : Option Value}
theorem init_check {ini ne : String} (F : InitOwn ini) {e : Addr} {oe : Obj} {rest : List Value} {Q : Unit → Shared → Prop}
    (hC : h.get? C = some (excClassObj nm q C N bs bm hdct sn sub ab col dd k0 k1 k2 k3 k5 ne)) (he : h.get? e = some oe) (hcls : oe.cls = .ref C) (hq : Q () ⟨h, g, d, t, os⟩) : wpAny (model prog w) A (checkBoundCall ini ⟨.ref e :: rest, []⟩) Q E ⟨h, g, d, t, os⟩ := by
  obtain ⟨B, row, hstar⟩ := F.row
  simp only [checkBoundCall, F.kind, row]
  repeat (first | (with_reducible refine wpAny_loadPart_at he ?_; rw [hcls]) | with_reducible refine wpAny_loadPart_at hC ?_ | wp_step)
  refine wpAny_onRaise ?_
  rw [show ∀ (a b : String) (n : Nat), Bind.check ⟨.positional, "*", B, .self, [⟨"args", .varPos, false⟩]⟩ a b n (List.map (fun x => x.fst) ({ pos := Value.ref e :: rest } : Args).kw) = pure () from fun a b n => check_star_args _ _ _ _ _ _]
  exact wpAny_pure hq
theorem call_mwV {eb : EB} (O : EBok eb) {u e t0 : Addr} {rest : List Value} {Q : Value → Shared → Prop}
    (hC : h.get? C = some (excClassObj nm q C N bs bm hdct sn sub ab col dd k0 k1 k2 k3 k5 eb.ne)) (he : h.get? e = some (HandSPX.excO C t0)) (hu : h.get? u = some (kxs_mw eb.ini e)) (hrest : rest.length ≤ sizeLine)
    (hq : ∀ h' t1, (∀ b o, b ≠ e → h.get? b = some o → h'.get? b = some o) → h'.get? e = some (HandSPX.excO C t1) → Q .none ⟨h', g, d, t, os⟩) :
    wpAny (model prog w) A (call (.ref u) rest) Q E ⟨h, g, d, t, os⟩ := by
  refine wpAny_call (codeAny_of_tree ?_)
  show wpAny _ A.in1 (callAny (.ref u) ⟨rest, []⟩) _ _ _
  simp only [callAny]
  refine wpAny_bind (wpAny_load hu ?_)
  simp only [kxs_mw, show (Value.type "method-wrapper" == Value.type "method" || Value.type "method-wrapper" == Value.type "builtin_function_or_method" || Value.type "method-wrapper" == Value.type "method-wrapper") = true by decide, if_true]
  refine W.KFB.if_so (by decide) ?_
  refine wpAny_bind (init_check O.it hC he rfl ?_)
  refine wpAny_bind (wpAny_pure (wpAny_pure ?_))
  refine ⟨Code.quiet_builtin _ O.lf, codeAny_builtin O.it.entry ?_⟩
  rw [Around.under_plainId O.it.plain _]
  wp_walk
  refine hq _ h.objs.size (fun b o hb ho => ?_) ?_
  · rw [Heap.get?_update_other _ _ (Ne.symm hb)]
    exact Heap.get?_push_of_some _ ho
  · rw [Heap.get?_update_self _ (Heap.get?_push_of_some _ he) rfl]
    rfl
/-- the first field of an own error -/
theorem exc_osG {eb : EB} (O : EBok eb) {K : PySem.W.Frag} {name : Str} {tk : Tok} {v : Value} {x t0 : Addr} {hp : Heap} {R : Result → Shared → Prop} (X : K.In hp) (hx : hp.get? x = some (HandSPX.excO C t0)) (ov : excOver K C eb.bm = true) (hd : hasDictIn K C = true) (nf : PySem.W.findIn K (.ref C) name = some none)
    (hq : ∀ h' tk' dx, (∀ b o, b ≠ x → hp.get? b = some o → h'.get? b = some o) → hp.objs.size ≤ dx → dx ≠ x → h'.get? x = some { cls := .ref C, dict := some dx, data := .fields #[.ref t0, .none, .none, .none, .bool false, .none] } →
      h'.Ns1 dx (fun y => if y = name then some v else none) → R (.ok (.ret .none)) ⟨h', g, d, tk', os⟩) :
    codeAny (model prog w) A (.call (.builtin "object.__setattr__") ⟨[.ref x, .str name tk, v], []⟩) R ⟨hp, g, d, t, os⟩ := by
  have far : x ≠ hp.objs.size := Nat.ne_of_lt (Heap.lt_size hx)
  refine osa_openX (s := ⟨hp, g, d, t, os⟩) (od := none) O.sf X ⟨hx, rfl, rfl, trivial⟩ ov (r := none) (by unfold takerIn; rw [nf]; rfl) fun b => ?_
  obtain ⟨cd, hc, hd'⟩ := any_some hd
  refine wpAny_bind (wpAny_pure (wpAny_bind (instanceDict_exc (c2 := .none) (t := t0) hx (looks_clsIn X hc) hd' ?_)))
  have get0 : ((hp.push (dictOf [] 0)).update x fun o => { o with dict := some hp.objs.size }).get? hp.objs.size = some (dictOf [] 0) := (Heap.get?_update_ne _ _ _ _ far.symm).trans (Heap.get?_push_at rfl rfl)
  have getX : ((hp.push (dictOf [] 0)).update x fun o => { o with dict := some hp.objs.size }).get? x = some { cls := .ref C, dict := some hp.objs.size, data := .fields #[.ref t0, .none, .none, .none, .bool false, .none] } := Heap.get?_update_self _ (Heap.get?_push_of_some _ hx) rfl
  refine HandSPX.store_in_new (hp := (hp.push (dictOf [] 0)).update x fun o => { o with dict := some hp.objs.size }) ⟨_, #[], _, get0, rfl, fun e he => absurd he (by simp), fun _ => rfl⟩ fun h' tk' hn hs => ?_
  exact hq h' tk' hp.objs.size (fun b o hb ho => ((hs.2 b (Nat.ne_of_lt (Heap.lt_size ho))).trans (Heap.get?_update_ne _ _ _ _ hb)).trans (Heap.get?_push_of_some _ ho)) (Nat.le_refl _) far.symm ((hs.2 x far).trans getX) hn
open Builtin Builtin.ObjectAttr in
theorem store_in_one {M : Model} {E : Value → Shared → Prop} {hp : Heap} {dx : Addr} {name f : Str} {tk : Tok} {v v0 : Value} {Q : PySem.Fin → Shared → Prop} (hn1 : hp.Ns1 dx (fun y => if y = f then some v0 else none))
    (hq : ∀ h' tk', h'.Ns1 dx (fun y => if y = name then some v else if y = f then some v0 else none) → Heap.SameBut dx hp h' → Q (.done (.ret .none)) ⟨h', g, d, tk', os⟩) :
    wpAny M A (storeInDict dx (.str name tk) name v) Q E ⟨hp, g, d, t, os⟩ := by
  unfold storeInDict newKeyGuard
  refine wpAny_bind (wpAny_pure (wpAny_bind (wpAny_nsSet1 hn1 fun h' hn' hs => ?_)))
  obtain ⟨oD, esD, epD, hoD, hdD, hcD⟩ := hn'.count (Within.cons name v (Within.cons f v0 Within.nil))
  refine wpAny_bind (wpAny_lookBehind hoD (by rw [hdD]; exact pastItsLine_dict (Nat.le_trans hcD (by simp only [List.length_cons, List.length_nil]; rw [sizeLine_eq]; omega))) ?_)
  wp_walk
  exact hq h' _ hn' hs
open Builtin Builtin.ObjectAttr in
theorem exc_osG2 {eb : EB} (O : EBok eb) {K : PySem.W.Frag} {name f : Str} {tk : Tok} {v v0 : Value} {x t0 dx : Addr} {oD : Obj} {hp : Heap} {R : Result → Shared → Prop} (X : K.In hp) (hx : hp.get? x = some { cls := .ref C, dict := some dx, data := .fields #[.ref t0, .none, .none, .none, .bool false, .none] }) (hD : hp.get? dx = some oD)
    (hn : hp.Ns1 dx (fun y => if y = f then some v0 else none)) (ov : excOver K C eb.bm = true) (hd : hasDictIn K C = true) (nf : PySem.W.findIn K (.ref C) name = some none)
    (hq : ∀ h' tk', Heap.SameBut dx hp h' → h'.Ns1 dx (fun y => if y = name then some v else if y = f then some v0 else none) → R (.ok (.ret .none)) ⟨h', g, d, tk', os⟩) :
    codeAny (model prog w) A (.call (.builtin "object.__setattr__") ⟨[.ref x, .str name tk, v], []⟩) R ⟨hp, g, d, t, os⟩ := by
  refine osa_openX (s := ⟨hp, g, d, t, os⟩) (od := some oD) O.sf X ⟨hx, rfl, rfl, hD⟩ ov (r := none) (by unfold takerIn; rw [nf]; rfl) fun b => ?_
  obtain ⟨cd, hc, hd'⟩ := any_some hd
  refine wpAny_bind (wpAny_pure (wpAny_bind (wpAny_bind (wpAny_loadPart hx (wpAny_bind ((looks_clsIn X hc).here ?_))))))
  rw [hd']
  refine wpAny_pure (a := some dx) ?_
  exact store_in_one hn fun h' tk' hn' hs => hq h' tk' hs hn'
end
section
variable {P : Program} {w : World} {K : PySem.W.Frag} {mg : Str → Option Value} {base : Heap} {CX : CXT}
theorem err_init {eb : EB} {k : Nat} {fI cc C cda : Addr} {qual : Str} {params : Arguments} {scope : Scope} {dV kV doc pm ct oc ccl cl : Value} {an od cdd cld : Option Addr} {osl ccs csl : Array (Option Value)} {vs : Array Value} {file : Str} {tf : Tok} {ar : Arg} {slf x f msg : Str} {j : Nat}
    {p0 p1 p2 p3 p4 p5 q1 q2 q3 q4 : Pos}
    (lk : K.lookup fI = some ⟨oc, od, .func (ksFn "__init__" qual params [.Expr (.Call (.Attribute (.Call (.Name "super" p0) [] [] p1) "__init__" p2) [.Constant (.str msg) j p3] [] p4) p5, .Assign [.Attribute (.Name slf q1) f q2] (.Name x q3) q4] scope dV kV doc pm an (.ref cda) ct cc), osl⟩)
    (hcd : codeIn K (.ref cda) qual = true) (hcode : K.lookup cda = some ⟨ccl, cdd, .fields vs, ccs⟩) (hvs : vs[2]? = some (.str file tf)) (hfile : ((P.main.file : Str) == file) = true)
    (hcell : K.lookup cc = some ⟨cl, cld, .cell (some (.ref C)), csl⟩) (Z : ErrK eb K C f)
    (hp : (params.posonlyargs ++ params.args).head? = some ar) (har : ar.arg = slf) (hne : slf ≠ x)
    (hks : scope.names.lookup ("super" : Str) = some .globalImplicit) (hkc : scope.names.lookup ("__class__" : Str) = some .free) (hka : scope.names.lookup slf = some .local) (hkx : scope.names.lookup x = some .local) (hk : scope.kind = .function)
    (hco : scope.isCoroutine = false) (hgen : scope.isGenerator = false) (hcells : ∀ y ∈ scope.names, y.2 ≠ .cell)
    (htop : (P.main.scope.names.lookup ("super" : Str)).isSome = false) (hboot : bootBuiltins "super" = some (.type "super")) (hd1 : (slf == ("__debug__" : Str)) = false) (hd2 : (x == ("__debug__" : Str)) = false) {pl : Sem Bool}
    (hev : ∀ env : PySem.Env, eval (.Call (.Attribute (.Call (.Name "super" p0) [] [] p1) "__init__" p2) [.Constant (.str msg) j p3] [] p4) env = (do
      let ov ← attributeBase (.Call (.Name "super" p0) [] [] p1) "__init__" env (eval (.Call (.Name "super" p0) [] [] p1) env)
      standAt p2.atName
      let (f, first) ← holding [ov] (getMethod ov "__init__" pl)
      callWith p4 f first (backTo p4 (starEach [.Constant (.str msg) j p3] env)) [])) :
    FnOk P w K mg base CX (k + 1) fI (ksFn "__init__" qual params [.Expr (.Call (.Attribute (.Call (.Name "super" p0) [] [] p1) "__init__" p2) [.Constant (.str msg) j p3] [] p4) p5, .Assign [.Attribute (.Name slf q1) f q2] (.Name x q3) q4] scope dV kV doc pm an (.ref cda) ct cc) [slf, x] (spErr C f) := by
  refine ⟨fun vs H Q E ⟨a, y, e, _⟩ => by rw [e]; rfl, fun A outer s H args us vs' Q E hr e0 hb r hsp => ?_⟩
  obtain ⟨a, y, rfl, ha, hq⟩ := hsp
  obtain ⟨u, rfl, ry⟩ : ∃ u, us = [.ref a, u] ∧ RelV y u := by
    cases r with
    | cons r1 r2 =>
      cases r2 with
      | cons r3 r4 =>
        cases r4
        obtain rfl := (show _ = Value.ref a from r1)
        exact ⟨_, rfl, r3⟩
  obtain ⟨t1, hoa⟩ := exo_at e0.hok ha
  have KX : K.In s.heap := e0.mod.kin.keeps fun b o e => (e0.bs b o e).1
  have lim : s.heap.NoLimit := e0.mod.nolimit.keeps fun b o e => (e0.bs b o e).1
  have Kna : ∀ b o, K.lookup b = some o → b ≠ a := fun b o e z => by
    have := (e0.bs b o (e0.mod.kin b o e)).2
    rw [z, ha] at this
    cases this
  obtain ⟨nm, q, N, bs, bm, sn, sub, ab, col, dd, k0, k1, k2, k3, k5, hC, hbm⟩ := Z.T.cls
  have hcl : PySem.W.clsIn K C = some { name := nm, bases := bs, mro := .ref C :: bm, ns := N, qualname := q, hasDict := true, slotNames := sn, subclasses := sub, abstract := ab, collection := col, hasDel := false } := by unfold PySem.W.clsIn; rw [hC] <;> rfl
  have haC : a ≠ C := fun z => Kna C _ hC z.symm
  obtain ⟨hp0, g, d, t, os⟩ := s
  refine ks_codeAny_call_defAt hr.depth (KX _ _ lk) rfl lim (codeRec_of KX hcd) rfl hb hcells (fun y hy => ?_) (fun h0 hns kp => ?_) hco hgen hk
  · simp only [List.zip_cons_cons, List.zip_nil_right, List.mem_cons, List.not_mem_nil, or_false] at hy
    rcases hy with rfl | rfl
    · exact hka
    · exact hkx
  show _root_.PySem.wpAt _ _ (.func _ (ksEnv qual scope hp0.objs.size fI (.ref cda) cc)) (execs _ (ksEnv qual scope hp0.objs.size fI (.ref cda) cc)) _ _ _
  have K0 : K.In h0 := KX.keeps kp
  have mA : ([slf, x].zip [Value.ref a, u]).reverse.lookup slf = some (.ref a) := by
    simp [List.lookup, beq_eq_false_iff_ne.mpr hne]
  have mX : ([slf, x].zip [Value.ref a, u]).reverse.lookup x = some u := by
    simp [List.lookup]
  have hLa : a ≠ hp0.objs.size := Nat.ne_of_lt (Heap.lt_size hoa)
  have G0 : h0.Ns mainGlobals mg := e0.mod.glob.keeps fun b o e => kp b o (e0.bs b o e).1
  obtain ⟨mb, hmb, hbb⟩ := e0.mod.blt
  have B0 : h0.Ns builtinsNs mb := hmb.keeps fun b o e => kp b o (e0.bs b o e).1
  refine ks_wpAt_execs_cons (ks_wpAt_Expr_any (hi := by unfold interactive; simp [hk]) (ks_wpAt_MethodCall (pl := pl) ?_ (hev _)))
  refine ks_wpAt_super_base (env := ksEnv qual scope hp0.objs.size fI (.ref cda) cc) hks hkc rfl rfl (K0 _ _ lk) rfl hp rfl (K0 _ _ hcode) rfl hvs hfile htop ?_
  refine ks_loadName_global hk hks (Calls.loadGlobal_builtin (env := ksEnv qual scope hp0.objs.size fI (.ref cda) cc) G0 (mg_none_of (h := h0) K0 G0 Z.sgl) B0 ((hbb _ (by decide +kernel)).trans hboot) ⟨rfl, ?_⟩)
  refine wpAny_loadName_free hk hkc rfl ⟨_, K0 _ _ hcell, rfl⟩ ?_
  rw [har]
  refine wpAny_loadName_local hk hka hns mA ?_
  refine ks_wpAny_isType_cls (K0 _ _ hC) rfl ⟨rfl, ?_⟩
  have hoa0 := kp _ _ hoa
  refine ks_wpAny_call_super (K0 _ _ hC) rfl hoa0 rfl (fun c e => by cases e) (looks_mroIn K0 Z.slf) (fun h1 e1 kp1 => ?_)
  have K1 : K.In h1 := K0.keeps kp1
  have hoa1 := kp1 _ _ hoa0
  have I1 : InstAt h1 a _ C none := ⟨hoa1, rfl, rfl, trivial⟩
  refine kxs_getMethod Z.ok.kx e1 (looks_opaque K1 Z.opq) (l₀ := .ref C :: bm) (fun A Q E s k q => wpAny_bind ((looks_clsIn K1 hcl) A _ E s k (wpAny_pure q))) rfl K1 ?_ (I1.type.andThen (looks_subIn K1 Z.sub)) haC (by decide) ?_
  · have := Z.sup
    unfold ks_superIn at this
    rw [hcl] at this
    exact this
  refine kxs_callWith (i := eb.ini) (x := a) rfl (Calls.evalArgs_plain (Calls.spliced_cons (wpAny_Constant_str (k := j) (pos := p3) (Calls.spliced_nil ⟨Heap.get?_push_at rfl rfl, ?_⟩))))
  have hoa2 := Heap.get?_push_of_some (kxs_mw eb.ini a) hoa1
  have K2 : K.In (h1.push (kxs_mw eb.ini a)) := K1.keeps fun b o e => Heap.get?_push_of_some _ e
  refine call_mwV Z.ok (K2 _ _ hC) hoa2 (Heap.get?_push_at rfl rfl) (by show 1 ≤ sizeLine; rw [sizeLine_eq]; omega) fun h3 t3 kp3 hoa3 => ?_
  have K3 : K.In h3 := fun b o e => kp3 b o (Kna b o e) (K2 b o e)
  have Ns3 : h3.Ns hp0.objs.size (fun y => ([slf, x].zip [Value.ref a, u]).reverse.lookup y) := by
    obtain ⟨o, es, ep, z1, z2, z3⟩ := hns
    exact ⟨o, es, ep, kp3 _ _ (Ne.symm hLa) (Heap.get?_push_of_some _ (kp1 _ _ z1)), z2, z3⟩
  refine ks_wpAt_execs_cons (PySem.wpAt_of_wpAny ?_)
  refine plainObj_wpAny_Assign_Attribute (wpAny_Name (wpAny_loadName_local hk hkx Ns3 mX ?_) hd2)
  refine wpAny_Name (wpAny_loadName_local hk hka Ns3 mA ?_) hd1
  refine PySem.W.set_plain K3 (ox := HandSPX.excO C t3) (od := none) ⟨hoa3, rfl, rfl, trivial⟩ Z.T.sa ?_
  refine exc_osG Z.ok K3 hoa3 (by unfold excOver; rw [hcl]; show (C == C && excTail eb.bm bm) = true; rw [hbm]; simp) (by unfold hasDictIn; rw [hcl]; rfl) Z.fnd (fun h4 tk' dx k4 dn dne hx4 hn4 => ?_)
  have kall : ∀ b o, b ≠ a → hp0.get? b = some o → h4.get? b = some o := fun b o hba e => k4 b o hba (kp3 b o hba (Heap.get?_push_of_some _ (kp1 _ _ (kp _ _ e))))
  refine PySem.wpAt_of_wpAny (wpAny_pure ?_)
  have nd : ∀ {b : Addr} {o : Obj}, hp0.get? b = some o → b ≠ dx := fun {b o} q => by
    have h0' := kp _ _ q
    by_cases hba : b = a
    · rw [hba]; exact Ne.symm dne
    · have := kp3 b o hba (Heap.get?_push_of_some _ (kp1 _ _ h0'))
      exact Nat.ne_of_lt (Nat.lt_of_lt_of_le (Heap.lt_size this) dn)
  have hnd : H dx = none := by
    obtain ⟨o, _, _, z, _⟩ := Ns3
    exact e0.hok.fresh (Nat.le_of_lt (Nat.lt_of_lt_of_le (Heap.lt_size z) dn))
  have na : ∀ {b : Addr}, H b = none → b ≠ a := fun {b} n z => by
    rw [z, ha] at n
    cases n
  refine ⟨.non, upd (upd H dx (exd dx [(f, y)])) a (exo a C (some dx)), rfl, e0.bare, ?_, fun b o q => ?_, rfl, hq dx hnd dne⟩
  · exact {
      keep := fun b o q n _ _ => kall b o (na n) q
      slot := fun b o q n _ _ => ⟨o.slots, kall b o (na n) q⟩
      free := fun b o q n _ => by rw [upd_ne (na n), upd_ne (nd q)]; exact n
      there := fun b o q _ => by
        by_cases hb : b = a
        · exact ⟨_, by rw [hb]; exact hx4⟩
        · exact ⟨o, kall b o hb q⟩
      tups := fun b xs q => by rw [upd_ne (at_ne ha q exo_tup), upd_ne (ne_of_none q hnd)]; exact q
      frzs := fun b o v q => by rw [upd_ne (at_ne ha q exo_frz), upd_ne (ne_of_none q hnd)]; exact q
      tbls := fun b ps q => ⟨#[], by rw [upd_ne (at_ne ha q exo_tbl), upd_ne (ne_of_none q hnd), q]; simp⟩ }
  · by_cases hb : b = a
    · subst hb
      rw [upd_same] at q
      cases q
      exact exo_ok hx4
    · rw [upd_ne hb] at q
      by_cases hd : b = dx
      · subst hd
        rw [upd_same] at q
        cases q
        exact exd_ok hn4 (relO_put (fs := []) ry fun g => True.intro)
      · rw [upd_ne hd] at q
        exact (e0.hok b o q).stay (fun c v hc z => kall c v (by
            rcases hc with hc | hc
            · rw [hc]
              exact hb
            · exact at_ne ha hc exo_own) z)
          (fun c hc => by rw [upd_ne (at_ne ha hc exo_own), upd_ne (ne_of_none hc hnd)]; exact hc) (fun c xs hc => by rw [upd_ne (at_ne ha hc exo_tup), upd_ne (ne_of_none hc hnd)]; exact hc)
theorem err_init2 {eb : EB} {k : Nat} {fI cc C cda : Addr} {qual : Str} {params : Arguments} {scope : Scope} {dV kV doc pm ct oc ccl cl : Value} {an od cdd cld : Option Addr} {osl ccs csl : Array (Option Value)} {vs : Array Value} {file : Str} {tf : Tok} {ar : Arg} {slf x x2 f f2 msg : Str} {j : Nat}
    {p0 p1 p2 p3 p4 p5 q1 q2 q3 q4 q5 q6 q7 q8 : Pos}
    (lk : K.lookup fI = some ⟨oc, od, .func (ksFn "__init__" qual params [.Expr (.Call (.Attribute (.Call (.Name "super" p0) [] [] p1) "__init__" p2) [.Constant (.str msg) j p3] [] p4) p5, .Assign [.Attribute (.Name slf q1) f q2] (.Name x q3) q4, .Assign [.Attribute (.Name slf q5) f2 q6] (.Name x2 q7) q8] scope dV kV doc pm an (.ref cda) ct cc), osl⟩)
    (hcd : codeIn K (.ref cda) qual = true) (hcode : K.lookup cda = some ⟨ccl, cdd, .fields vs, ccs⟩) (hvs : vs[2]? = some (.str file tf)) (hfile : ((P.main.file : Str) == file) = true)
    (hcell : K.lookup cc = some ⟨cl, cld, .cell (some (.ref C)), csl⟩) (Z : ErrK eb K C f) (fnd2 : PySem.W.findIn K (.ref C) f2 = some none) (hff : f ≠ f2)
    (hp : (params.posonlyargs ++ params.args).head? = some ar) (har : ar.arg = slf) (hne : slf ≠ x) (hne2 : slf ≠ x2) (hxx : x ≠ x2)
    (hks : scope.names.lookup ("super" : Str) = some .globalImplicit) (hkc : scope.names.lookup ("__class__" : Str) = some .free) (hka : scope.names.lookup slf = some .local) (hkx : scope.names.lookup x = some .local) (hkx2 : scope.names.lookup x2 = some .local) (hk : scope.kind = .function)
    (hco : scope.isCoroutine = false) (hgen : scope.isGenerator = false) (hcells : ∀ y ∈ scope.names, y.2 ≠ .cell)
    (htop : (P.main.scope.names.lookup ("super" : Str)).isSome = false) (hboot : bootBuiltins "super" = some (.type "super")) (hd1 : (slf == ("__debug__" : Str)) = false) (hd2 : (x == ("__debug__" : Str)) = false) (hd3 : (x2 == ("__debug__" : Str)) = false) {pl : Sem Bool}
    (hev : ∀ env : PySem.Env, eval (.Call (.Attribute (.Call (.Name "super" p0) [] [] p1) "__init__" p2) [.Constant (.str msg) j p3] [] p4) env = (do
      let ov ← attributeBase (.Call (.Name "super" p0) [] [] p1) "__init__" env (eval (.Call (.Name "super" p0) [] [] p1) env)
      standAt p2.atName
      let (f, first) ← holding [ov] (getMethod ov "__init__" pl)
      callWith p4 f first (backTo p4 (starEach [.Constant (.str msg) j p3] env)) [])) :
    FnOk P w K mg base CX (k + 1) fI (ksFn "__init__" qual params [.Expr (.Call (.Attribute (.Call (.Name "super" p0) [] [] p1) "__init__" p2) [.Constant (.str msg) j p3] [] p4) p5, .Assign [.Attribute (.Name slf q1) f q2] (.Name x q3) q4, .Assign [.Attribute (.Name slf q5) f2 q6] (.Name x2 q7) q8] scope dV kV doc pm an (.ref cda) ct cc) [slf, x, x2] (spErr2 C f f2) := by
  refine ⟨fun vs H Q E ⟨a, y, z, e, _⟩ => by rw [e]; rfl, fun A outer s H args us vs' Q E hr e0 hb r hsp => ?_⟩
  obtain ⟨a, y, y2, rfl, ha, hq⟩ := hsp
  obtain ⟨u, u2, rfl, ry, ry2⟩ : ∃ u u2, us = [.ref a, u, u2] ∧ RelV y u ∧ RelV y2 u2 := by
    cases r with
    | cons r1 r2 =>
      cases r2 with
      | cons r3 r4 =>
        cases r4 with
        | cons r5 r6 =>
          cases r6
          obtain rfl := (show _ = Value.ref a from r1)
          exact ⟨_, _, rfl, r3, r5⟩
  obtain ⟨t1, hoa⟩ := exo_at e0.hok ha
  have KX : K.In s.heap := e0.mod.kin.keeps fun b o e => (e0.bs b o e).1
  have lim : s.heap.NoLimit := e0.mod.nolimit.keeps fun b o e => (e0.bs b o e).1
  have Kna : ∀ b o, K.lookup b = some o → b ≠ a := fun b o e z => by
    have := (e0.bs b o (e0.mod.kin b o e)).2
    rw [z, ha] at this
    cases this
  obtain ⟨nm, q, N, bs, bm, sn, sub, ab, col, dd, k0, k1, k2, k3, k5, hC, hbm⟩ := Z.T.cls
  have hcl : PySem.W.clsIn K C = some { name := nm, bases := bs, mro := .ref C :: bm, ns := N, qualname := q, hasDict := true, slotNames := sn, subclasses := sub, abstract := ab, collection := col, hasDel := false } := by unfold PySem.W.clsIn; rw [hC] <;> rfl
  have haC : a ≠ C := fun z => Kna C _ hC z.symm
  obtain ⟨hp0, g, d, t, os⟩ := s
  refine ks_codeAny_call_defAt hr.depth (KX _ _ lk) rfl lim (codeRec_of KX hcd) rfl hb hcells (fun y hy => ?_) (fun h0 hns kp => ?_) hco hgen hk
  · simp only [List.zip_cons_cons, List.zip_nil_right, List.mem_cons, List.not_mem_nil, or_false] at hy
    rcases hy with rfl | rfl | rfl
    · exact hka
    · exact hkx
    · exact hkx2
  show _root_.PySem.wpAt _ _ (.func _ (ksEnv qual scope hp0.objs.size fI (.ref cda) cc)) (execs _ (ksEnv qual scope hp0.objs.size fI (.ref cda) cc)) _ _ _
  have K0 : K.In h0 := KX.keeps kp
  have mA : ([slf, x, x2].zip [Value.ref a, u, u2]).reverse.lookup slf = some (.ref a) := by
    simp [List.lookup, beq_eq_false_iff_ne.mpr hne, beq_eq_false_iff_ne.mpr hne2]
  have mX : ([slf, x, x2].zip [Value.ref a, u, u2]).reverse.lookup x = some u := by
    simp [List.lookup, beq_eq_false_iff_ne.mpr hxx]
  have mX2 : ([slf, x, x2].zip [Value.ref a, u, u2]).reverse.lookup x2 = some u2 := by
    simp [List.lookup]
  have hLa : a ≠ hp0.objs.size := Nat.ne_of_lt (Heap.lt_size hoa)
  have G0 : h0.Ns mainGlobals mg := e0.mod.glob.keeps fun b o e => kp b o (e0.bs b o e).1
  obtain ⟨mb, hmb, hbb⟩ := e0.mod.blt
  have B0 : h0.Ns builtinsNs mb := hmb.keeps fun b o e => kp b o (e0.bs b o e).1
  refine ks_wpAt_execs_cons (ks_wpAt_Expr_any (hi := by unfold interactive; simp [hk]) (ks_wpAt_MethodCall (pl := pl) ?_ (hev _)))
  refine ks_wpAt_super_base (env := ksEnv qual scope hp0.objs.size fI (.ref cda) cc) hks hkc rfl rfl (K0 _ _ lk) rfl hp rfl (K0 _ _ hcode) rfl hvs hfile htop ?_
  refine ks_loadName_global hk hks (Calls.loadGlobal_builtin (env := ksEnv qual scope hp0.objs.size fI (.ref cda) cc) G0 (mg_none_of (h := h0) K0 G0 Z.sgl) B0 ((hbb _ (by decide +kernel)).trans hboot) ⟨rfl, ?_⟩)
  refine wpAny_loadName_free hk hkc rfl ⟨_, K0 _ _ hcell, rfl⟩ ?_
  rw [har]
  refine wpAny_loadName_local hk hka hns mA ?_
  refine ks_wpAny_isType_cls (K0 _ _ hC) rfl ⟨rfl, ?_⟩
  have hoa0 := kp _ _ hoa
  refine ks_wpAny_call_super (K0 _ _ hC) rfl hoa0 rfl (fun c e => by cases e) (looks_mroIn K0 Z.slf) (fun h1 e1 kp1 => ?_)
  have K1 : K.In h1 := K0.keeps kp1
  have hoa1 := kp1 _ _ hoa0
  have I1 : InstAt h1 a _ C none := ⟨hoa1, rfl, rfl, trivial⟩
  refine kxs_getMethod Z.ok.kx e1 (looks_opaque K1 Z.opq) (l₀ := .ref C :: bm) (fun A Q E s k q => wpAny_bind ((looks_clsIn K1 hcl) A _ E s k (wpAny_pure q))) rfl K1 ?_ (I1.type.andThen (looks_subIn K1 Z.sub)) haC (by decide) ?_
  · have := Z.sup
    unfold ks_superIn at this
    rw [hcl] at this
    exact this
  refine kxs_callWith (i := eb.ini) (x := a) rfl (Calls.evalArgs_plain (Calls.spliced_cons (wpAny_Constant_str (k := j) (pos := p3) (Calls.spliced_nil ⟨Heap.get?_push_at rfl rfl, ?_⟩))))
  have hoa2 := Heap.get?_push_of_some (kxs_mw eb.ini a) hoa1
  have K2 : K.In (h1.push (kxs_mw eb.ini a)) := K1.keeps fun b o e => Heap.get?_push_of_some _ e
  refine call_mwV Z.ok (K2 _ _ hC) hoa2 (Heap.get?_push_at rfl rfl) (by show 1 ≤ sizeLine; rw [sizeLine_eq]; omega) fun h3 t3 kp3 hoa3 => ?_
  have K3 : K.In h3 := fun b o e => kp3 b o (Kna b o e) (K2 b o e)
  have Ns3 : h3.Ns hp0.objs.size (fun y => ([slf, x, x2].zip [Value.ref a, u, u2]).reverse.lookup y) := by
    obtain ⟨o, es, ep, z1, z2, z3⟩ := hns
    exact ⟨o, es, ep, kp3 _ _ (Ne.symm hLa) (Heap.get?_push_of_some _ (kp1 _ _ z1)), z2, z3⟩
  refine ks_wpAt_execs_cons (PySem.wpAt_of_wpAny ?_)
  refine plainObj_wpAny_Assign_Attribute (wpAny_Name (wpAny_loadName_local hk hkx Ns3 mX ?_) hd2)
  refine wpAny_Name (wpAny_loadName_local hk hka Ns3 mA ?_) hd1
  refine PySem.W.set_plain K3 (ox := HandSPX.excO C t3) (od := none) ⟨hoa3, rfl, rfl, trivial⟩ Z.T.sa ?_
  refine exc_osG Z.ok K3 hoa3 (by unfold excOver; rw [hcl]; show (C == C && excTail eb.bm bm) = true; rw [hbm]; simp) (by unfold hasDictIn; rw [hcl]; rfl) Z.fnd (fun h4 tk' dx k4 dn dne hx4 hn4 => ?_)

  have hnr : hp0.objs.size ≠ dx := by
    obtain ⟨o, es, ep, z1, z2, z3⟩ := Ns3
    exact Nat.ne_of_lt (Nat.lt_of_lt_of_le (Heap.lt_size z1) dn)
  have K4 : K.In h4 := fun b o e => k4 b o (Kna b o e) (K3 b o e)
  have Ns4 : h4.Ns hp0.objs.size (fun y => ([slf, x, x2].zip [Value.ref a, u, u2]).reverse.lookup y) := by
    obtain ⟨o, es, ep, z1, z2, z3⟩ := Ns3
    exact ⟨o, es, ep, k4 _ _ (Ne.symm hLa) z1, z2, z3⟩
  obtain ⟨oD, eD⟩ : ∃ oD, h4.get? dx = some oD := by
    obtain ⟨o, es, ep, z1, z2⟩ := hn4
    exact ⟨o, z1⟩
  refine ks_wpAt_execs_cons (PySem.wpAt_of_wpAny ?_)
  refine plainObj_wpAny_Assign_Attribute (wpAny_Name (wpAny_loadName_local hk hkx2 Ns4 mX2 ?_) hd3)
  refine wpAny_Name (wpAny_loadName_local hk hka Ns4 mA ?_) hd1
  refine PySem.W.set_plain K4 (od := some oD) ⟨hx4, rfl, rfl, eD⟩ Z.T.sa ?_
  refine exc_osG2 Z.ok K4 hx4 eD hn4 (by unfold excOver; rw [hcl]; show (C == C && excTail eb.bm bm) = true; rw [hbm]; simp) (by unfold hasDictIn; rw [hcl]; rfl) fnd2 (fun h5 tk5 s5 hn5 => ?_)
  have hx5 := (s5.2 a (Ne.symm dne)).trans hx4
  have kall4 : ∀ b o, b ≠ a → hp0.get? b = some o → h4.get? b = some o := fun b o hba e => k4 b o hba (kp3 b o hba (Heap.get?_push_of_some _ (kp1 _ _ (kp _ _ e))))
  refine PySem.wpAt_of_wpAny (wpAny_pure ?_)
  have nd : ∀ {b : Addr} {o : Obj}, hp0.get? b = some o → b ≠ dx := fun {b o} q => by
    have h0' := kp _ _ q
    by_cases hba : b = a
    · rw [hba]; exact Ne.symm dne
    · have := kp3 b o hba (Heap.get?_push_of_some _ (kp1 _ _ h0'))
      exact Nat.ne_of_lt (Nat.lt_of_lt_of_le (Heap.lt_size this) dn)
  have kall : ∀ b o, b ≠ a → hp0.get? b = some o → h5.get? b = some o := fun b o hba e => (s5.2 b (nd e)).trans (kall4 b o hba e)
  have hnd : H dx = none := by
    obtain ⟨o, _, _, z, _⟩ := Ns3
    exact e0.hok.fresh (Nat.le_of_lt (Nat.lt_of_lt_of_le (Heap.lt_size z) dn))
  have na : ∀ {b : Addr}, H b = none → b ≠ a := fun {b} n z => by
    rw [z, ha] at n
    cases n
  refine ⟨.non, upd (upd H dx (exd dx [(f, y), (f2, y2)])) a (exo a C (some dx)), rfl, e0.bare, ?_, fun b o q => ?_, rfl, hq dx hnd dne⟩
  · exact {
      keep := fun b o q n _ _ => kall b o (na n) q
      slot := fun b o q n _ _ => ⟨o.slots, kall b o (na n) q⟩
      free := fun b o q n _ => by rw [upd_ne (na n), upd_ne (nd q)]; exact n
      there := fun b o q _ => by
        by_cases hb : b = a
        · exact ⟨_, by rw [hb]; exact hx5⟩
        · exact ⟨o, kall b o hb q⟩
      tups := fun b xs q => by rw [upd_ne (at_ne ha q exo_tup), upd_ne (ne_of_none q hnd)]; exact q
      frzs := fun b o v q => by rw [upd_ne (at_ne ha q exo_frz), upd_ne (ne_of_none q hnd)]; exact q
      tbls := fun b ps q => ⟨#[], by rw [upd_ne (at_ne ha q exo_tbl), upd_ne (ne_of_none q hnd), q]; simp⟩ }
  · by_cases hb : b = a
    · subst hb
      rw [upd_same] at q
      cases q
      exact exo_ok hx5
    · rw [upd_ne hb] at q
      by_cases hd : b = dx
      · subst hd
        rw [upd_same] at q
        cases q
        exact exd_ok hn5 (fun g => by
          by_cases h2 : g = f2
          · subst h2
            rw [if_pos rfl]
            simp only [List.lookup, beq_eq_false_iff_ne.mpr (Ne.symm hff), beq_self_eq_true]
            exact ry2
          · rw [if_neg h2]
            by_cases h1 : g = f
            · subst h1
              rw [if_pos rfl]
              simp only [List.lookup, beq_self_eq_true]
              exact ry
            · rw [if_neg h1]
              simp only [List.lookup, beq_eq_false_iff_ne.mpr h1, beq_eq_false_iff_ne.mpr h2]
              exact True.intro)
      · rw [upd_ne hd] at q
        exact (e0.hok b o q).stay (fun c v hc z => kall c v (by
            rcases hc with hc | hc
            · rw [hc]
              exact hb
            · exact at_ne ha hc exo_own) z)
          (fun c hc => by rw [upd_ne (at_ne ha hc exo_own), upd_ne (ne_of_none hc hnd)]; exact hc) (fun c xs hc => by rw [upd_ne (at_ne ha hc exo_tup), upd_ne (ne_of_none hc hnd)]; exact hc)
end
end Dp
set_option Elab.async false
set_option linter.all false
set_option maxRecDepth 100000
set_option maxHeartbeats 8000000
namespace Dp
open PySem PySem.Spec PyProof.Rows L2 PySem.W
/-- what a clause needs of it -/
structure CatchF (K : PySem.W.Frag) (C : Addr) (fs : List Str) : Prop where
  ee : PySem.W.exmOne K (.ref C) (.ref C) = some true
  xf : XfC K C
  nf : ∀ f ∈ fs, PySem.W.findIn K (.ref C) f = some none
/-- what the module gives of an error class -/
structure ErrAt (K : PySem.W.Frag) (Pr : Program) (w : World) (C : Addr) (fs : List Str) : Prop where
  T : ∃ b, EBok b ∧ OexG b K C
  ct : CatchF K C fs
  ini : ∃ fI fd ps, PySem.W.findIn K (.ref C) "__init__" = some (some (.ref fI)) ∧ PySem.W.typeIn K (.ref fI) = some (.type "function") ∧ L2.Binds K fd ps [] ∧ (∀ f, fs = [f] → ∀ mg base k, FnOk Pr w K mg base CX0 (k + 1) fI fd ps (spErr C f)) ∧ ∀ f f2, fs = [f, f2] → f ≠ f2 ∧ ∀ mg base k, FnOk Pr w K mg base CX0 (k + 1) fI fd ps (spErr2 C f f2)
/-- an own error is made: like the library's pmk_oex, over any base -/
theorem pmk_oexG {b : EB} (O : EBok b) {X : Cx} {x : Str} {e : Expr} {ta : TA} {p pos : Pos} {C fI : Addr} {k : Nat} {fd : FuncData} {ps : List Str} {sp : Sp} (T : OexG b X.K C) (iC : PySem.W.findIn X.K (.ref C) "__init__" = some (some (.ref fI))) (tI : PySem.W.typeIn X.K (.ref fI) = some (.type "function"))
    (F1 : FnOk X.prog X.w X.K X.mg X.base CX0 k fI fd ps sp) (room : Room (k + 1) X.A) (bnd : Binds X.K fd ps []) (gl : Gl X x) (val : X.mg x = some (.ref C)) (ha : PA X [e] ta)
    (hdb : (x == ("__debug__" : Str)) = false) (he : starEach [e] X.env = (false, eval e X.env) :: starEach [] X.env) : PMk X (.Call (.Name x p) [e] [] pos) (tMkO C sp [] ta) := fun pins s σ H Q I want => by
  obtain ⟨nm, q, N, bs, bm, sn, sub, ab, col, dd, k0, k1, k2, k3, k5, hC, hbm⟩ := T.cls
  refine wpAny_Call_Name_kw (ld_glob I gl val ?_ hdb)
  refine PySem.W.callWith_K (h₀ := X.base) I.ok.mod.kin T.kC (thn (ha.run pos pins s σ H _ I want) fun us s1 ⟨vs, H1, I1, rel, lim, q1⟩ => ⟨I1.kIn, ?_⟩) he rfl
  show wpAny _ _ (call (.ref C) us) _ _ _
  obtain ⟨hp, g, dr, tk, os⟩ := s1
  obtain ⟨n, en⟩ : ∃ n, n = hp.objs.size := ⟨_, rfl⟩
  obtain ⟨G, eG⟩ : ∃ G, G = (hp.push (PySem.W.kdv_tup us)).push (PySem.HandSPX.excO C hp.objs.size) := ⟨_, rfl⟩
  have up : hp.objs.size ≤ hp.objs.size + 1 := Nat.le_succ _
  have fresh : H1 (hp.objs.size + 1) = none := I1.hok.fresh up
  have stays : ∀ c o, hp.get? c = some o → ((hp.push (PySem.W.kdv_tup us)).push (PySem.HandSPX.excO C hp.objs.size)).get? c = some o := fun c o z => Heap.get?_push_of_some _ (Heap.get?_push_of_some _ z)
  have there : ((hp.push (PySem.W.kdv_tup us)).push (PySem.HandSPX.excO C hp.objs.size)).get? (hp.objs.size + 1) = some (PySem.HandSPX.excO C hp.objs.size) := by heap_get
  have I2 := I1.laid (t' := tk) (a := hp.objs.size + 1) (o := exo (hp.objs.size + 1) C none) (h' := (hp.push (PySem.W.kdv_tup us)).push (PySem.HandSPX.excO C hp.objs.size)) stays up (exo_ok there)
  have asks := q1 (hp.objs.size + 1) fresh
  rw [List.append_nil] at asks
  have rel2 : Vals (V.ref (hp.objs.size + 1) :: vs) (Value.ref (hp.objs.size + 1) :: us) := .cons rfl rel
  have few : us.length ≤ sizeLine := by
    have := Paired.length rel
    rw [sizeLine_eq]
    omega
  have bnd2 := bnd _ (Value.ref (hp.objs.size + 1) :: us) I2.kIn (by rw [List.append_nil, ← rel2.length, F1.len _ _ _ _ asks])
  rw [List.append_nil] at bnd2
  refine wpAny_call (O.call (fun Y => excTail_contains Y bm hbm) (I1.kIn _ _ hC) (PySem.W.looks_findIn I1.kIn iC) (fun self => PySem.W.bind_fn I1.kIn self tI) few
    (codeAny_mono (F1.run _ X.stack _ _ ⟨Value.ref (hp.objs.size + 1) :: us, []⟩ (Value.ref (hp.objs.size + 1) :: us) _ _ (fun _ _ _ => False) (room.make C us []) (I2.env0.make C us []) bnd2 rel2 asks) fun r s' back => ?_))
  match r, back with
  | .error _, back => exact back.elim
  | .ok (.ret u), back =>
    obtain ⟨v, H2, os2, bare2, un2, hok2, rv, ev, d, fs, ea, ed, hd1, q2⟩ := back
    subst ev
    obtain ⟨h2, g2, d2, t2, os'⟩ := s'
    exact ⟨rv, mk_end (raises_own T.exC T.tyC) I1 up stays un2 hok2 os2 bare2 ea ed hd1 q2⟩
  | .ok .next, back => exact back.elim
  | .ok .brk, back => exact back.elim
  | .ok .cont, back => exact back.elim
theorem pmk_err {X : Cx} {C : Addr} {f x : Str} {e : Expr} {te : TE} {p pos : Pos} {n : Nat} (A : ErrAt X.K X.prog X.w C [f]) (hr : Room (n + 2) X.A) (hg : Gl X x) (hm : X.mg x = some (.ref C)) (he : PE X e te)
    (tm : ∀ σ H (Q Q' : VK), (∀ v H', Q v H' → Q' v H') → te σ H Q → te σ H Q') (hdb : (x == ("__debug__" : Str)) = false) (hs : starEach [e] X.env = (false, eval e X.env) :: starEach [] X.env) :
    PMk X (.Call (.Name x p) [e] [] pos) (fun σ H Q => te σ H fun y H1 => ∀ dx, H1 dx = none → Q (.ref C) (some dx) (upd H1 dx (.xd [(f, y)]))) := by
  obtain ⟨fI, fd, ps, h1, h2, h3, h4, _⟩ := A.ini
  obtain ⟨b, O, T⟩ := A.T
  have key := pmk_oexG O (p := p) (pos := pos) T h1 h2 (h4 f rfl X.mg X.base n) hr h3 hg hm (pa_cons he pa_nil hs) hdb hs
  intro pins s σ H Q I h
  refine key pins s σ H Q I ?_
  show te σ H _
  refine tm σ H _ _ (fun y H1 q => ?_) h
  refine ⟨by simp, fun a ha => ⟨a, y, rfl, upd_same, fun dx hd hda => ?_⟩⟩
  have hd1 : H1 dx = none := by rw [upd_ne hda] at hd; exact hd
  refine ⟨rfl, dx, [(f, y)], upd_same, by rw [upd_ne hda, upd_same], hd1, ?_⟩
  have e : upd (del (upd (upd (upd H1 a (exo a C none)) dx (exd dx [(f, y)])) a (exo a C (some dx))) a) dx (.xd [(f, y)]) = upd H1 dx (.xd [(f, y)]) := by
    funext b
    by_cases hb : b = dx
    · subst hb; rw [upd_same, upd_same]
    · rw [upd_ne hb, upd_ne hb]
      by_cases hba : b = a
      · subst hba; rw [del_same]; exact ha.symm
      · rw [del_ne hba, upd_ne hba, upd_ne hb, upd_ne hba]
  rw [e]
  exact q dx hd1
end Dp
set_option Elab.async false
set_option linter.all false
set_option maxRecDepth 100000
set_option maxHeartbeats 8000000
set_option Elab.async false
set_option linter.all false
set_option maxRecDepth 100000
set_option maxHeartbeats 4000000
namespace Dp
open PySem PySem.Spec PyProof.Rows L2
/-- H1 without the tables that H does not know -/
def cut (H H1 : Hp) : Hp := fun b => match H1 b with
  | some (.tbl ps) => if (H b).isNone then none else some (.tbl ps)
  | o => o
section
variable {H H1 : Hp} {b : Addr} {o : HO}
theorem cut_nt (e : H1 b = some o) (n : ∀ ps, o ≠ .tbl ps) : cut H H1 b = some o := by
  unfold cut
  rw [e]
  cases o <;> first | rfl | exact absurd rfl (n _)
theorem cut_none (e : H1 b = none) : cut H H1 b = none := by
  unfold cut
  rw [e]
theorem cut_tb {ps : Array Value} (e : H1 b = some (.tbl ps)) (n : H b ≠ none) : cut H H1 b = some (.tbl ps) := by
  unfold cut
  rw [e]
  cases q : H b with
  | none => exact absurd q n
  | some u => rfl
theorem cut_some (e : cut H H1 b = some o) : H1 b = some o := by
  cases q : H1 b with
  | none => rw [cut_none q] at e; cases e
  | some u =>
    unfold cut at e
    rw [q] at e
    cases u <;> first | exact e | skip
    dsimp only at e
    split at e
    · cases e
    · exact e
end
theorem Un.cut {fs ex : List Addr} {H0 H H1 : Hp} {h h1 : Heap} (u : Un fs ex H0 H1 h h1) (t : ∀ b ps, H0 b = some (.tbl ps) → H b ≠ none) : Un fs ex H0 (cut H H1) h h1 :=
  ⟨u.keep, u.slot, fun b o a c d => cut_none (u.free b o a c d), u.there, fun b xs e => cut_nt (u.tups b xs e) (by intro _ z; cases z), fun b o v e => cut_nt (u.frzs b o v e) (by intro _ z; cases z), fun b ps e => let ⟨m, z⟩ := u.tbls b ps e; ⟨m, cut_tb z (t b ps e)⟩⟩
theorem Inv.cut {X : Cx} {pins : List (Addr × Obj)} {σ : L2.St} {H H1 : Hp} {s : Shared} (I : Inv X pins σ H1 s) (t : ∀ b ps, X.H_0 b = some (.tbl ps) → H b ≠ none) : Inv X pins σ (cut H H1) s :=
  ⟨I.ok, I.os, I.bare, Un.cut I.base t, I.loc, I.cell, cut_none I.free, fun x c e => cut_none (I.freeC x c e), fun p hp => let ⟨a, b, c⟩ := I.pin p hp; ⟨a, cut_none b, c⟩,
    fun a o e => (I.hok a o (cut_some e)).stay (fun b u _ q => q) (fun b e => cut_nt e (by intro _ z; cases z)) (fun b xs e => cut_nt e (by intro _ z; cases z)), I.len⟩
end Dp
set_option Elab.async false
set_option linter.all false
set_option maxRecDepth 100000
set_option maxHeartbeats 4000000
namespace Dp
open PySem PySem.Spec PyProof.Rows L2
section
variable {X : Cx} {pins : List (Addr × Obj)} {σ : L2.St} {H : Hp} {s : Shared}
/-- what a def is that hears: it calls its one parameter, and makes TT of it -/
structure Hears (X : Cx) (x : Str) (TT : (XK → Hp → VK → Prop) → Hp → VK → Prop) (g : Addr) : Prop where
  mg : X.mg x = some (.ref g)
  kp : PySem.W.keepIn X.K (.ref g) = true
  ex : ∃ (a : Str) (Ng : List Str) (pg : Arguments) (bg : List Stmt) (sg : Scope) (dV kV doc pm cdv ct oc : Value) (an od : Option Addr) (osl : Array (Option Value)),
    X.K.lookup g = some ⟨oc, od, .func (PySem.W.fnOf x x pg bg sg dV kV doc pm an cdv ct), osl⟩ ∧ PySem.W.codeIn X.K cdv x = true ∧ L2.Binds X.K (PySem.W.fnOf x x pg bg sg dV kV doc pm an cdv ct) [a] [] ∧ FnScope Ng [a] sg ∧ Ng[0]? = some a ∧ Vis sg a ∧
    (a == ("__debug__" : Str)) = false ∧ (a == ("__classdict__" : Str)) = false ∧ ∀ q, LamX.GivesTo X Ng x sg g cdv bg a q TT
end
section
variable {G : Gx} {B ρ : List Addr} {st : Store} {H H1 : Hp}
/-- the tables that H knows -/
def tbs (G : Gx) (H : Hp) : List (Addr × Str) := G.tb.filter fun p => match H p.1 with
  | some (.tbl _) => true
  | _ => false
theorem mem_tbs {p : Addr × Str} : p ∈ tbs G H ↔ p ∈ G.tb ∧ ∃ ps, H p.1 = some (.tbl ps) := by
  unfold tbs
  rw [List.mem_filter]
  refine and_congr_right fun _ => ⟨fun h => ?_, fun ⟨ps, e⟩ => by rw [e]⟩
  split at h
  · rename_i ps e
    exact ⟨ps, e⟩
  · cases h
theorem dob_ins {M : List Addr} {a : Addr} {ds : List D} (h : DOb G M ρ H a ds) : ∃ C dx fs, H a = some (.ins C dx fs) := by
  unfold DOb at h
  split at h
  · obtain ⟨c, C, fl, dx, vs, _, _, e, _⟩ := h
    exact ⟨_, _, _, e⟩
  · exact h.elim
/-- a table lies in a cell of its own -/
theorem RS.tcell (r : RS (G := G) B st ρ H) {a : Addr} {ps : Array Value} (e : H a = some (.tbl ps)) : ∃ (n i : Nat) (q : Str), st[n]? = some (.ref i) ∧ ρ[n]? = some a ∧ G.tb[i]? = some (a, q) ∧ TriplesOk ps.toList ∧ ∀ (pos : Pos) (cv : Value), codeAmong pos ps.toList = some cv → ∃ c, cv = .ref c ∧ H c = some (LamX.CodeO c q) := by
  obtain ⟨n, hn, rfl⟩ := List.getElem_of_mem (r.tb a ps e)
  obtain ⟨d, hd⟩ : ∃ d, st[n]? = some d := ⟨_, List.getElem?_eq_getElem (by rw [r.len]; exact hn)⟩
  have hc := r.cel n d ρ[n] hd (by simp [hn])
  cases d with
  | ref i =>
    obtain ⟨q, ps1, e1, e2, e3, e4⟩ := hc
    rw [e] at e2
    cases e2
    exact ⟨n, i, q, hd, by simp, e1, e3, e4⟩
  | lst ds =>
    obtain ⟨_, z, _⟩ := (show DW G (ρ ++ B) ρ H (.lst ds) ρ[n] from hc)
    rw [e] at z
    cases z
  | dct ks vs =>
    obtain ⟨_, _, _, z, _⟩ := (show DW G (ρ ++ B) ρ H (.dct ks vs) ρ[n] from hc)
    rw [e] at z
    cases z
  | tup ds =>
    obtain ⟨_, z⟩ := dob_ins (show DOb G (ρ ++ B) ρ H ρ[n] ds from hc)
    obtain ⟨_, _, z⟩ := z
    rw [e] at z
    cases z
  | _ => exact hc.elim
theorem RS.lam (r : RS (G := G) B st ρ H) (eN : LamX.ExtN H H1) (T1 : LamX.Tabs (tbs G H) H1) (nn : ∀ b ps, H1 b = some (.tbl ps) → H b ≠ none) : RS (G := G) B st ρ H1 ∧ Stp ρ H ρ H1 := by
  have new : ∀ a ps, H a = some (.tbl ps) → ∀ i q, G.tb[i]? = some (a, q) → LamX.TabS H1 a q := fun a ps e i q hq => T1 (a, q) (mem_tbs.mpr ⟨List.mem_of_getElem? hq, ps, e⟩)
  have sp : Stp ρ H ρ H1 := ⟨fun a o h hn => eN a o h fun ps z => hn (r.tb a ps (by rw [h, z])), fun _ _ _ h => h, fun _ _ h => h⟩
  refine ⟨⟨fun m hm => ?_, r.len, r.nd, r.off, fun a ps e => ?_, fun n c a e1 e2 => ?_⟩, sp⟩
  · obtain ⟨o, e, t⟩ := r.mt m hm
    cases o with
    | tbl ps =>
      obtain ⟨n, i, q, _, _, e3, _⟩ := r.tcell e
      obtain ⟨ps1, z, _⟩ := new m ps e i q e3
      exact ⟨_, z, True.intro⟩
    | _ => exact ⟨_, eN m _ e (by intro _ z; cases z), t⟩
  · cases z : H a with
    | none => exact absurd z (nn a ps e)
    | some o =>
      cases o with
      | tbl ps0 => exact r.tb a ps0 z
      | _ =>
        have := eN a _ z (by intro _ z; cases z)
        rw [e] at this
        cases this
  · have hc := r.cel n c a e1 e2
    cases c with
    | ref i =>
      obtain ⟨q, ps, g1, g2, _⟩ := hc
      obtain ⟨ps1, z1, z2, z3⟩ := new a ps g2 i q g1
      exact ⟨q, ps1, g1, z1, z2, z3⟩
    | lst ds =>
      refine DC.stp r.mt sp (fun o ho => eN a o ho fun ps z => ?_) hc
      obtain ⟨_, w, _⟩ := (show DW G (ρ ++ B) ρ H (.lst ds) a from hc)
      rw [ho] at w
      cases w
      cases z
    | dct ks vs =>
      refine DC.stp r.mt sp (fun o ho => eN a o ho fun ps z => ?_) hc
      obtain ⟨_, _, _, w, _⟩ := (show DW G (ρ ++ B) ρ H (.dct ks vs) a from hc)
      rw [ho] at w
      cases w
      cases z
    | tup ds =>
      refine DC.stp r.mt sp (fun o ho => eN a o ho fun ps z => ?_) hc
      obtain ⟨_, _, _, w⟩ := dob_ins (show DOb G (ρ ++ B) ρ H a ds from hc)
      rw [ho] at w
      cases w
      cases z
    | _ => exact hc.elim
/-- a def that hears makes of a deed what hd tells -/
def Link (G : Gx) (hd : Hd) (TT : (XK → Hp → VK → Prop) → Hp → VK → Prop) : Prop := ∀ (tl : XK → Hp → VK → Prop) (B ρ : List Addr) (H : Hp) (st' : Store) (r : Res D) (d : D) (Q : VK), heardOf hd r = .ok d st' →
  (∀ (E : XK) (Q' : VK), ((∃ d0, r = .ok d0 st' ∧ ∀ v ρ' H', Stp ρ H ρ' H' → RS (G := G) B st' ρ' H' → DV G (ρ' ++ B) ρ' H' d0 v → Q' v H') ∨
      (∃ c es, r = .exc c es st' ∧ ∀ ρ' H' cls dd, Stp ρ H ρ' H' → RS (G := G) B st' ρ' H' → xrel G c es (ρ' ++ B) ρ' H' cls dd → E cls dd H')) → tl E H Q') →
  (∀ v ρ' H', Stp ρ H ρ' H' → RS (G := G) B st' ρ' H' → DV G (ρ' ++ B) ρ' H' d v → Q v H') → TT tl H Q
end
end Dp
set_option Elab.async false
set_option linter.all false
set_option maxRecDepth 100000
set_option maxHeartbeats 4000000
namespace Dp
open PySem PySem.Spec PyProof.Rows L2
section
variable {G : Gx} {P : Par} {X : Cx}
/-- the lambda at f, called -/
def rLam (G : Gx) (P : Par) (k : Nat) (f : Addr) (F : NdefX.NF) (b : Expr) : List V → Hp → VK → Prop := fun vs H Q => H f = some (LmO f F b) ∧ H F.c = some (LamX.CodeO F.c F.qual) ∧ rCall G P k vs H Q
end
end Dp
set_option Elab.async false
set_option linter.all false
set_option maxRecDepth 100000
set_option maxHeartbeats 4000000
namespace Dp
open PySem PySem.Spec PyProof.Rows L2 PySem.W PySem.SeqAt
end Dp
set_option Elab.async false
set_option linter.all false
set_option maxRecDepth 100000
set_option maxHeartbeats 4000000
namespace Dp
open PySem PySem.Calls PySem.Spec PyProof.Rows L2 PySem.W PySem.SeqAt
end Dp
set_option Elab.async false
set_option linter.all false
set_option maxRecDepth 100000
set_option maxHeartbeats 4000000
namespace Dp
open PySem PySem.Calls PySem.Spec PyProof.Rows L2 PySem.W PySem.SeqAt
end Dp
set_option Elab.async false
set_option linter.all false
set_option maxRecDepth 100000
set_option maxHeartbeats 4000000
namespace Dp
open PySem PySem.Spec PyProof.Rows L2 PySem.W PySem.SeqAt
end Dp
set_option Elab.async false
set_option linter.all false
set_option maxRecDepth 100000
set_option maxHeartbeats 4000000
namespace Dp
open PySem PySem.Spec PyProof.Rows L2 PySem.W PySem.SeqAt
end Dp
set_option Elab.async false
set_option linter.all false
set_option maxRecDepth 100000
set_option maxHeartbeats 4000000
namespace Dp
open PySem PySem.Spec PyProof.Rows L2 HT
end Dp
set_option Elab.async false
set_option linter.all false
set_option maxRecDepth 100000
set_option maxHeartbeats 4000000
namespace Dp
open PySem PySem.Spec PyProof.Rows L2 PySem.W PySem.SeqAt
section
variable {G : Gx} {X : Cx} {P : Par}
/-- what is known of a class -/
structure OcF (K : PySem.W.Frag) (C : Addr) (fl : List Str) : Prop where
  nd : fl.Nodup
  few : fl.length < 1000
  cl : Cls K C
  no : ∀ f ∈ fl, NoAttr K C f
def rMake (G : Gx) (P : Par) (c f : Nat) : List V → Hp → VK → Prop := fun vs H Q => ∃ B st ρ ds st', RS (G := G) B st ρ H ∧ DVs G (ρ ++ B) ρ H ds vs ∧ P.call f (.ref st.length :: ds) (st ++ [.tup [.int c]]) = .ok .non st' ∧ ∀ a ρ' H', Stp ρ H ρ' H' → RS (G := G) B st' ρ' H' → ρ'[st.length]? = some a → Q (.ref a) H'
/-- the store gets a new instance -/
theorem rs_made {B ρ : List Addr} {st : Store} {H : Hp} {c : Nat} {C x dx : Addr} {fl : List Str} (rs : RS (G := G) B st ρ H) (hoc : G.oc[c]? = some (C, fl)) (hx : H x = none) (hdx : H dx = none) (ne : dx ≠ x) :
    RS (G := G) B (st ++ [.tup [.int c]]) (ρ ++ [x]) (upd (upd H dx (.own x)) x (.ins C dx [])) ∧ Stp ρ H (ρ ++ [x]) (upd (upd H dx (.own x)) x (.ins C dx [])) ∧ (ρ ++ [x])[st.length]? = some x := by
  have hx' : upd H dx (.own x) x = none := by rw [upd_ne (fun z => ne z.symm)]; exact hx
  have rs1 : RS (G := G) B st ρ (upd H dx (.own x)) := rs.same (same_laid hdx)
  have sp1 : Stp ρ H ρ (upd H dx (.own x)) := same_stp (same_laid hdx)
  generalize hH : upd H dx (.own x) = Hm at hx' rs1 sp1
  have hn := hx'
  have hf := fresh_notin rs1 hn
  have inv : ∀ b, b ∈ (ρ ++ [x]) ++ B → b ∈ ρ ++ B ∨ b = x := fun b hb => by
    rcases List.mem_append.mp hb with z | z
    · rcases List.mem_append.mp z with z | z
      · exact .inl (List.mem_append_left _ z)
      · exact .inr (List.mem_singleton.mp z)
    · exact .inl (List.mem_append_right _ z)
  have hm : ∀ b v, Hm b = some v → b ∉ ρ ++ B → b ∉ (ρ ++ [x]) ++ B := fun b v e n z => (inv b z).elim n fun q => ne_of_none e hn q
  have hp : ∀ b v, Hm b = some v → upd Hm x (.ins C dx []) b = some v := fun b v e => by rw [upd_ne (ne_of_none e hn)]; exact e
  have hr : ∀ (n : Nat) b, ρ[n]? = some b → (ρ ++ [x])[n]? = some b := fun n b e => by rw [List.getElem?_append_left (List.getElem?_eq_some_iff.mp e).1]; exact e
  refine ⟨⟨fun b hb => ?_, by simp [rs1.len], ?_, fun b hb z => ?_, fun b ps e => (tb_upd (S := ρ ++ [x]) (fun x ps e => List.mem_append_left _ (rs1.tb x ps e)) (.inr (by simp))) b ps e, fun n c' b e1 e2 => ?_⟩, sp1.trans ⟨fun b v e n => hp b v e, fun b v e n z => ?_, hr⟩, by rw [rs.len]; simp⟩
  · rcases inv b hb with z | z
    · obtain ⟨v, e, t⟩ := rs1.mt b z
      exact ⟨v, hp b v e, t⟩
    · subst z
      exact ⟨_, upd_same, True.intro⟩
  · refine List.nodup_append.mpr ⟨rs1.nd, by simp, fun y hy z hz e => ?_⟩
    have := List.mem_singleton.mp hz
    subst this e
    exact hf (List.mem_append_left _ hy)
  · rcases List.mem_append.mp z with z | z
    · exact rs1.off b hb z
    · have := List.mem_singleton.mp z
      subst this
      exact hf (List.mem_append_right _ hb)
  · by_cases hlt : n < st.length
    · rw [List.getElem?_append_left hlt] at e1
      rw [List.getElem?_append_left (by rw [← rs1.len]; exact hlt)] at e2
      have hb : b ≠ x := fun z => hf (List.mem_append_left _ (z ▸ List.mem_of_getElem? e2))
      exact DC.keep rs1.mt (fun b v e _ => hp b v e) hm hr (fun v e => hp b v e) (rs1.cel n c' b e1 e2)
    · have hn2 : n = st.length := by
        have := (List.getElem?_eq_some_iff.mp e1).1
        simp at this
        omega
      subst hn2
      have ec : c' = .tup [.int c] := by simpa using e1.symm
      have eb : b = x := by rw [rs1.len] at e2; simpa using e2.symm
      subst ec eb
      exact ⟨c, C, fl, dx, [], rfl, hoc, by rw [upd_same]; cases fl <;> rfl, Nat.zero_le _, rfl⟩
  · rcases List.mem_append.mp z with z | z
    · exact n z
    · exact ne_of_none e hn (List.mem_singleton.mp z)
end
end Dp
set_option Elab.async false
set_option linter.all false
set_option maxRecDepth 100000
set_option maxHeartbeats 4000000
namespace PySem.W
open PySem PySem.Spec PySem.Calls PyProof.Rows
end PySem.W
namespace LamX
open PySem PySem.Spec PyProof.Rows L2
/-- the context with other pins -/
def kp (X : Cx) (pn : List (Addr × Obj)) : Cx := { X with pn := pn }
end LamX
set_option Elab.async false
set_option linter.all false
set_option maxRecDepth 100000
set_option maxHeartbeats 4000000
set_option Elab.async false
set_option linter.all false
set_option maxRecDepth 100000
set_option maxHeartbeats 4000000
namespace Dp
open PySem PySem.Spec PyProof.Rows L2
end Dp
set_option Elab.async false
set_option linter.all false
set_option maxRecDepth 100000
set_option maxHeartbeats 4000000
namespace Dp
open PySem PySem.Spec PyProof.Rows L2
end Dp
set_option Elab.async false
set_option linter.all false
set_option maxRecDepth 100000
set_option maxHeartbeats 4000000
namespace Dp
open PySem PySem.Spec PyProof.Rows L2
end Dp
set_option Elab.async false
set_option linter.all false
set_option maxRecDepth 100000
set_option maxHeartbeats 4000000
namespace PySem.W
open PySem PySem.Spec PySem.Calls PyProof.Rows
end PySem.W
set_option Elab.async false
set_option linter.all false
set_option maxRecDepth 100000
set_option maxHeartbeats 4000000
namespace Dp
open PySem PySem.Spec PyProof.Rows L2
/-- the lambda's own name, and no other -/
structure LamS2 (sc scope : Scope) (N : List Str) (x : Str) : Prop where
  kind : scope.kind = .function
  co : scope.isCoroutine = false
  gen : scope.isGenerator = false
  own : ∀ y ∈ scope.names, y.2 ≠ .cell ∧ (y.2 = .local → y.1 ∉ N)
  free : ∀ y ∈ scope.names, y.2 = .free → sc.names.lookup y.1 = some .cell ∨ sc.names.lookup y.1 = some .free
  hx : scope.names.lookup x = some .local
theorem LamS2.has {X : Cx} {scope : Scope} {N : List Str} {x : Str} (L : LamS2 X.env.scope scope N x) (ok : X.Ok) : ∀ y ∈ scope.names, y.2 = .free → ∃ c, X.env.cells.lookup y.1 = some c := fun y hy e => by
  rcases L.free y hy e with k | k
  · exact ok.has _ (.inl k)
  · exact ok.has _ (.inr k)
end Dp
set_option Elab.async false
set_option linter.all false
set_option maxRecDepth 100000
set_option maxHeartbeats 4000000
namespace Dp
open PySem PySem.Spec PyProof.Rows L2
end Dp
set_option Elab.async false
set_option linter.all false
set_option maxRecDepth 100000
set_option maxHeartbeats 8000000
namespace Dp
open PySem PySem.Spec PyProof.Rows L2 PySem.W PySem.SeqAt
end Dp
set_option Elab.async false
set_option linter.all false
set_option maxRecDepth 100000
set_option maxHeartbeats 4000000
namespace Dp
open PySem PySem.Spec PyProof.Rows L2 PySem.W PySem.SeqAt
/-- v is a dict that the module's top has written -/
def GDct (G : Gx) (ks ws : List D) (v : V) : Prop := ∃ (a : Addr) (es : List DictEntry × Nat) (kv vv : List V) (o : Obj), v = .ref a ∧ G.K.lookup a = some o ∧ o.ExactDict ∧ o.data = .dict es.1.toArray es.2 ∧ (a == sysModules) = false ∧
  Vals kv (es.1.map (·.key)) ∧ Vals vv (es.1.map (·.val)) ∧ es.1.map (·.hash) = ks.map (fun k => k.nk.hash G.w) ∧ keysOk ks = true ∧ (ks.map D.nk).Nodup ∧ es.1.length ≤ LIM ∧ ∀ M ρ H, DVs G M ρ H ks kv ∧ DVs G M ρ H ws vv
/-- what a constant of the module is -/
def GV (G : Gx) : D → V → Prop
  | .dct ks ws, v => GDct G ks ws v
  | d, v => ∀ M ρ H, DV G M ρ H d v
theorem GV.dv {G : Gx} {g : List D} {k : Nat} {d : D} {v : V} (e : globOf g k = some d) (h : ∀ d, g[k]? = some d → GV G d v) : ∀ M ρ H, DV G M ρ H d v := by
  unfold globOf at e
  split at e
  · cases e
  · rename_i q
    have := h d e
    cases d <;> first | exact this | exact (q _ _ e).elim
end Dp
set_option Elab.async false
set_option linter.all false
set_option maxRecDepth 100000
set_option maxHeartbeats 4000000
namespace Dp
open PySem PySem.Spec PyProof.Rows L2 PySem.W PySem.SeqAt
/-- where the calls of a key are asked -/
abbrev Cx.key (X : Cx) : Cx := { X with A := X.A.in1.in1, xe := fun _ _ => False }
end Dp
set_option Elab.async false
set_option linter.all false
set_option maxRecDepth 100000
set_option maxHeartbeats 4000000
namespace Dp
open PySem PySem.Spec PyProof.Rows L2 PySem.W PySem.SeqAt
end Dp
set_option Elab.async false
set_option linter.all false
set_option maxRecDepth 100000
set_option maxHeartbeats 4000000
namespace Dp
open PySem PySem.Spec PyProof.Rows L2 PySem.W PySem.SeqAt
section
variable {G : Gx} {X : Cx} {P : Par}
/-- what is read of a thing, dicts told apart from sys.modules -/
def RdE (h : Heap) (u : Value) (d : PyData) : Prop := ∃ as, Reads h u d as ∧ (d.hasDict = true → sysModules ∉ as)
inductive EaL (R : Value → PyData → Prop) : List Value → List PyData → Prop
  | nil : EaL R [] []
  | cons {u : Value} {us : List Value} {y : PyData} {ys : List PyData} : R u y → EaL R us ys → EaL R (u :: us) (y :: ys)
theorem rdE {pins : List (Addr × Obj)} {s : Shared} {σ : L2.St} {H : Hp} {B ρ : List Addr} (xa : XA G X) (I : Inv X pins σ H s) {n : Nat} {d : D} {v : V} {u : Value} (l : (D.lay n d || D.shT n d) = true) (h : DV G (ρ ++ B) ρ H d v) (r : RelV v u) : RdE s.heap u d.toP := by
  rcases (Bool.or_eq_true _ _).mp l with l | l
  · obtain ⟨as, q⟩ := L2.Dp.reads I d.toP v u (by rw [xa.K]; exact DB.dp l (.inl h)) r
    exact ⟨as, q, PyData.noDict_hsm (PyData.hasDict_of_canLay d.toP (canLay_of _ d l))⟩
  · obtain ⟨as, q, hn⟩ := shT_reads xa I n d v u l h r
    exact ⟨as, q, fun _ => hn⟩
theorem rdAll {prog : Program} {w : World} {h₀ : Heap} : ∀ {us : List Value} {ds : List PyData}, EaL (RdE h₀) us ds → PyData.showableAll ds = true → (∀ t ∈ PyData.shownAll ds, t.length ≤ sizeLine) →
    ∃ as bs, ReadsAll h₀ us ds as ∧ ReadAtMost h₀ (PyData.depthAll ds) bs ∧ ReprAllK prog w bs h₀ (PyData.depthAll ds) us (PyData.shownAll ds)
  | _, _, .nil, _, _ => ⟨[], [], .nil, (fun _ h => nomatch h), by simp only [PyData.shownAll]; exact .nil⟩
  | _, _, .cons (y := d) (ys := ds) r rs, hs, hz => by
    have hs' : d.showable = true ∧ PyData.showableAll ds = true := by simpa [PyData.showableAll] using hs
    obtain ⟨a1, q1, m1⟩ := r
    obtain ⟨b1, hb1, k1⟩ := ReprK.of_reads (prog := prog) (w := w) q1 hs'.1 m1 (hz _ (by simp only [PyData.shownAll]; exact List.mem_cons_self ..))
    obtain ⟨a2, b2, q2, hb2, k2⟩ := rdAll (prog := prog) (w := w) rs hs'.2 (fun t ht => hz t (by simp only [PyData.shownAll]; exact List.mem_cons_of_mem _ ht))
    refine ⟨a1 ++ a2, b1 ++ b2, .cons q1 q2, ?_, ?_⟩
    · intro b hm
      simp only [PyData.depthAll]
      rcases List.mem_append.mp hm with hm | hm
      · obtain ⟨d', as', r', hd'⟩ := hb1 b hm
        exact ⟨d', as', r', Nat.le_trans hd' (Nat.le_max_left _ _)⟩
      · obtain ⟨d', as', r', hd'⟩ := hb2 b hm
        exact ⟨d', as', r', Nat.le_trans hd' (Nat.le_max_right _ _)⟩
    · simp only [PyData.depthAll, PyData.shownAll]
      exact .cons ((k1.more fun b hb => List.mem_append_left _ hb).level_le (Nat.le_max_left _ _)) (k2.more_le (fun b hb => List.mem_append_right _ hb) (Nat.le_max_right _ _))
theorem rdEs {pins : List (Addr × Obj)} {s : Shared} {σ : L2.St} {H : Hp} {B ρ : List Addr} (xa : XA G X) (I : Inv X pins σ H s) {n : Nat} : ∀ {ds : List D} {vs : List V} {us : List Value}, (∀ d ∈ ds, (D.lay n d || D.shT n d) = true) → DVs G (ρ ++ B) ρ H ds vs → Vals vs us → EaL (RdE s.heap) us (D.toPs ds)
  | [], vs, us, _, h, r => by
    have h : vs = [] := h
    subst h
    cases r
    exact .nil
  | d :: ds, vs, us, l, h, r => by
    obtain ⟨v, w, e, h1, h2⟩ := h
    subst e
    cases r with
    | cons r1 r2 => exact .cons (rdE xa I (l d List.mem_cons_self) h1 r1) (rdEs xa I (fun x hx => l x (List.mem_cons_of_mem _ hx)) h2 r2)
theorem lt_depth (n : Nat) : ∀ (ds : List D), (∀ d ∈ ds, (D.lay n d || D.shT n d) = true) → PyData.depthAll (D.toPs ds) ≤ n + 1
  | [], _ => by simp [D.toPs, PyData.depthAll]
  | d :: ds, h => by
    have h2 := lt_depth n ds fun x hx => h x (List.mem_cons_of_mem _ hx)
    have h1 : d.toP.depth ≤ n + 1 := by
      rcases (Bool.or_eq_true _ _).mp (h d List.mem_cons_self) with l | l
      · have := depth_of n d l; omega
      · have := shT_depth n d l; omega
    simp only [D.toPs, PyData.depthAll]
    omega
theorem lt_leaves (B n : Nat) : ∀ (ds : List D), (∀ d ∈ ds, (D.lay n d || D.shT n d) = true) → PyData.intsShortAll B (D.toPs ds) = true → PyData.leavesShortAll B (D.toPs ds) = true
  | [], _, _ => by simp [D.toPs, PyData.leavesShortAll]
  | d :: ds, h, k => by
    simp only [D.toPs, PyData.intsShortAll, Bool.and_eq_true] at k
    simp only [D.toPs, PyData.leavesShortAll, Bool.and_eq_true]
    refine ⟨?_, lt_leaves B n ds (fun x hx => h x (List.mem_cons_of_mem _ hx)) k.2⟩
    rcases (Bool.or_eq_true _ _).mp (h d List.mem_cons_self) with l | l
    · exact PyData.leavesShort_of_canLay0 B d.toP (canLay_of _ d l) k.1
    · exact shT_leaves B _ d l k.1
theorem reprl_ok (xa : XA G X) : CallR X (.builtin "repr") (rBi G reprlEv) := by
  intro pins s σ H vs us Q I r h
  obtain ⟨B, ρ, st, ds, e, rs, hd, hf, fin⟩ := h
  match ds, hf with
  | [.lst ds], hf =>
    simp only [reprlEv] at hf
    split at hf
    rotate_left
    · cases hf
    rename_i ok
    cases hf
    obtain ⟨p, ws, rfl, h2, h3⟩ := one_lst hd
    obtain ⟨u, rfl, rx⟩ := r.one
    cases rx
    unfold reprLOk at ok
    simp only [Bool.and_eq_true, List.all_eq_true, decide_eq_true_eq] at ok
    obtain ⟨⟨l, sh⟩, is, wt⟩ := ok
    obtain ⟨its, rv, pl, hz⟩ := I.list (show SqL X.K H p ws from .inl h2)
    obtain ⟨o, ho, hc, k, hdt⟩ := pl.isList
    have sh2 : PyData.showableAll (D.toPs ds) = true := by simpa [D.toP, PyData.showable] using sh
    have lv : (D.lst ds).toP.leavesShort 200 = true := by
      show PyData.leavesShortAll 200 (D.toPs ds) = true
      exact lt_leaves 200 28 ds l (by simpa [D.toP, PyData.intsShort] using is)
    have hsz : (D.lst ds).toP.shown.length ≤ sizeLine := by
      have := PyData.shown_le 200 (by decide) (D.lst ds).toP lv
      rw [sizeLine_eq]
      omega
    have hz' : (listText (PyData.shownAll (D.toPs ds))).length ≤ sizeLine := by simpa only [D.toP, PyData.shown] using hsz
    obtain ⟨as, bs, q1, hb, hk⟩ := rdAll (prog := X.prog) (w := X.w) (rdEs xa I l h3 rv) sh2 (fun t ht => Nat.le_trans (listText_mem_le ht) hz')
    have hna : p ∉ bs := not_mem_of_deeper (.list ho hc hdt q1) (by simp only [PyData.depth]; omega) hb
    have dp := lt_depth 28 ds l
    have un := xa.un
    refine call_repr_slot (by omega) ⟨o, ho, hc⟩ F.slot_list_repr.toG ?_
    have hQ : ∀ h' u tk, (∀ b o, s.heap.get? b = some o → h'.get? b = some o) → EP X pins σ Q (.str (D.lst ds).toP.shown u) { s with heap := h', toks := tk } := fun h' u tk kp => ⟨.str (D.lst ds).toP.shown, H, I.kept kp, ⟨u, rfl⟩, fin.now rfl⟩
    have hQ2 : ∀ h' u tk, (∀ b o, s.heap.get? b = some o → h'.get? b = some o) → EP X pins σ Q (.str (listText (PyData.shownAll (D.toPs ds))) u) { s with heap := h', toks := tk } := hQ
    have hg : X.A.in1.guards = some [] := xa.gd
    have hu : X.A.in1.units + (PyData.depthAll (D.toPs ds) + 1) < cLine := by
      show X.A.units + 1 + (PyData.depthAll (D.toPs ds) + 1) < cLine
      omega
    cases its with
    | nil =>
      have q2 := q1
      generalize D.toPs ds = ps at q2 hQ2
      cases q2
      simp only [PyData.shownAll, listText_nil] at hQ2
      exact call_list_repr_empty ⟨o, ho, hc⟩ ho hdt ⟨_, _, rfl, hQ2 s.heap _ _ fun _ _ e => e⟩
    | cons x l => exact call_list_reprK ho hc hdt hna (by simpa using hk.length_eq) (fun i y e => hk.item i y (by simpa using e)) hg (fun b _ => Clear.nil b) hu (fun _ _ e => e) (fun h' u tk kp => ⟨_, _, rfl, hQ2 h' u tk kp⟩) hz'
  | [], hf => exact absurd hf (by simp [reprlEv])
  | _ :: _ :: _, hf => exact absurd hf (by simp [reprlEv])
theorem pe_reprl (xa : XA G X) {x : Expr} {e : Ex} {p pos : Pos} (hg : Gl X "repr") (hm : X.mg "repr" = none) (he : PEW G X P x e) (na : starEach [x] X.env = (false, eval x X.env) :: starEach [] X.env) : PES G X P (.Call (.Name "repr" p) [x] [] pos) (.prim (.bi .reprl) (.cons e .nil)) :=
  PE_imp (pe_callB (reprl_ok xa) hg hm boot_repr (pa_consW he pa_nilW na) (by decide +kernel) (by decide +kernel) na rfl) fun σ H Q h => bi_tr (b := .reprl) (es := .cons e .nil) (fun _ _ => rfl) h
/-- C(..), C the k-th error class -/
def rMkE (G : Gx) (k : Nat) : List V → Hp → VK → Prop := fun vs H Q => ∃ B ρ st ds C fs, RS (G := G) B st ρ H ∧ DVs G (ρ ++ B) ρ H ds vs ∧ G.et[k]? = some (C, fs) ∧ ds.length = fs.length ∧ ∀ a ρ' H', Stp ρ H ρ' H' → RS (G := G) B st ρ' H' → DV G (ρ' ++ B) ρ' H' (.er k ds) (.ref a) → Q (.ref a) H'
theorem err_laid {B ρ : List Addr} {st : Store} {H : Hp} {k : Nat} {C a dx : Addr} {fs : List Str} {ds : List D} {vs : List V} (rs : RS (G := G) B st ρ H) (dv : DVs G (ρ ++ B) ρ H ds vs) (hk : G.et[k]? = some (C, fs)) (hl : vs.length = fs.length) (ha : H a = none) (hd : H dx = none) (ne : dx ≠ a) :
    Stp ρ H ρ (upd (upd H dx (exd dx (fs.zip vs))) a (exo a C (some dx))) ∧ RS (G := G) B st ρ (upd (upd H dx (exd dx (fs.zip vs))) a (exo a C (some dx))) ∧ DV G (ρ ++ B) ρ (upd (upd H dx (exd dx (fs.zip vs))) a (exo a C (some dx))) (.er k ds) (.ref a) := by
  have ha' : upd H dx (exd dx (fs.zip vs)) a = none := by rw [upd_ne (fun z => ne z.symm)]; exact ha
  have s1 : Sm H (upd H dx (exd dx (fs.zip vs))) := same_laid hd (fun ps z => by unfold exd at z; cases z)
  have s2 : Sm (upd H dx (exd dx (fs.zip vs))) (upd (upd H dx (exd dx (fs.zip vs))) a (exo a C (some dx))) := same_laid ha' (fun ps z => by unfold exo at z; cases z)
  have sp : Stp ρ H ρ (upd (upd H dx (exd dx (fs.zip vs))) a (exo a C (some dx))) := (same_stp s1).trans (same_stp s2)
  exact ⟨sp, (rs.same s1).same s2, a, dx, C, fs, vs, rfl, hk, fresh_notin rs ha, fresh_notin rs hd, upd_same, by rw [upd_ne ne, upd_same], hl, dv.stp rs.mt sp⟩
theorem upd3 {H : Hp} {a dx : Addr} {o0 o1 o2 : HO} : upd (upd (upd H a o0) dx o1) a o2 = upd (upd H dx o1) a o2 := by
  funext b
  by_cases hb : b = a
  · subst hb; rw [upd_same, upd_same]
  · rw [upd_ne hb, upd_ne hb]
    by_cases hd : b = dx
    · subst hd; rw [upd_same, upd_same]
    · rw [upd_ne hd, upd_ne hd, upd_ne hb]
theorem errAt_keep {K : PySem.W.Frag} {Pr : Program} {w : World} {C : Addr} {fs : List Str} (A : ErrAt K Pr w C fs) : PySem.W.keepIn K (.ref C) = true := by
  obtain ⟨b, _, T⟩ := A.T
  exact T.kC
theorem errAt_nd {K : PySem.W.Frag} {Pr : Program} {w : World} {C : Addr} {fs : List Str} (A : ErrAt K Pr w C fs) (h : fs.length = 1 ∨ fs.length = 2) : fs.Nodup := by
  obtain ⟨fI, fd, ps, h1, h2, h3, h4, h5⟩ := A.ini
  match fs, h, h5 with
  | [f], _, _ => simp
  | [f, f2], _, h5 => simpa using (h5 f f2 rfl).1
theorem callR_er {C : Addr} {fs : List Str} {k n : Nat} (A : ErrAt X.K X.prog X.w C fs) (hr : Room (n + 2) X.A) (hk : G.et[k]? = some (C, fs)) (h12 : fs.length = 1 ∨ fs.length = 2) : CallR X (.ref C) (rMkE G k) := by
  intro pins s σ H vs us Q I r h
  obtain ⟨B, ρ, st, ds, C', fs', rs, dv, e1, e2, kk⟩ := h
  rw [hk] at e1
  cases e1
  obtain ⟨fI, fd, ps, h1, h2, h3, h4, h5⟩ := A.ini
  obtain ⟨b, O, T⟩ := A.T
  obtain ⟨nm, q, N, bs, bm, sn, sub, ab, col, dd, k0, k1, k2, k3, k5, hC, hbm⟩ := T.cls
  have lv : vs.length = fs.length := (DVs.length dv).trans e2
  obtain ⟨hp, g, dr, tk, os⟩ := s
  have up : hp.objs.size ≤ hp.objs.size + 1 := Nat.le_succ _
  have fresh : H (hp.objs.size + 1) = none := I.hok.fresh up
  have stays : ∀ c o, hp.get? c = some o → ((hp.push (PySem.W.kdv_tup us)).push (PySem.HandSPX.excO C hp.objs.size)).get? c = some o := fun c o z => Heap.get?_push_of_some _ (Heap.get?_push_of_some _ z)
  have there : ((hp.push (PySem.W.kdv_tup us)).push (PySem.HandSPX.excO C hp.objs.size)).get? (hp.objs.size + 1) = some (PySem.HandSPX.excO C hp.objs.size) := by heap_get
  have I2 := I.laid (t' := tk) (a := hp.objs.size + 1) (o := exo (hp.objs.size + 1) C none) (h' := (hp.push (PySem.W.kdv_tup us)).push (PySem.HandSPX.excO C hp.objs.size)) stays up (exo_ok there)
  have rel2 : Vals (V.ref (hp.objs.size + 1) :: vs) (Value.ref (hp.objs.size + 1) :: us) := .cons rfl r
  have few : us.length ≤ sizeLine := by
    have := Paired.length r
    rw [sizeLine_eq]
    omega
  have fin : ∀ dx, upd H (hp.objs.size + 1) (exo (hp.objs.size + 1) C none) dx = none → dx ≠ hp.objs.size + 1 → Q (.ref (hp.objs.size + 1)) (upd (upd (upd H (hp.objs.size + 1) (exo (hp.objs.size + 1) C none)) dx (exd dx (fs.zip vs))) (hp.objs.size + 1) (exo (hp.objs.size + 1) C (some dx))) := fun dx hd ne => by
    rw [upd3]
    rw [upd_ne ne] at hd
    obtain ⟨z1, z2, z3⟩ := err_laid (k := k) rs dv hk lv fresh hd ne
    exact kk _ ρ _ z1 z2 z3
  have key : ∃ sp : Sp, FnOk X.prog X.w X.K X.mg X.base CX0 (n + 1) fI fd ps sp ∧ sp (V.ref (hp.objs.size + 1) :: vs) (upd H (hp.objs.size + 1) (exo (hp.objs.size + 1) C none)) (fun v H2 => v = .non ∧ Q (.ref (hp.objs.size + 1)) H2) (fun _ _ _ => False) := by
    match fs, vs, lv, h12, h4, h5, fin with
    | [f], [y], _, _, h4, _, fin => exact ⟨_, h4 f rfl X.mg X.base n, _, y, rfl, upd_same, fun dx hd ne => ⟨rfl, fin dx hd ne⟩⟩
    | [f, f2], [y, y2], _, _, _, h5, fin => exact ⟨_, (h5 f f2 rfl).2 X.mg X.base n, _, y, y2, rfl, upd_same, fun dx hd ne => ⟨rfl, fin dx hd ne⟩⟩
  obtain ⟨sp, F1, asks⟩ := key
  have bnd2 := h3 _ (Value.ref (hp.objs.size + 1) :: us) I2.kIn (by rw [List.append_nil, ← rel2.length, F1.len _ _ _ _ asks])
  rw [List.append_nil] at bnd2
  refine wpAny_call (O.call (fun Y => excTail_contains Y bm hbm) (I.kIn _ _ hC) (PySem.W.looks_findIn I.kIn h1) (fun self => PySem.W.bind_fn I.kIn self h2) few
    (codeAny_mono (F1.run _ X.stack _ _ ⟨Value.ref (hp.objs.size + 1) :: us, []⟩ (Value.ref (hp.objs.size + 1) :: us) _ _ (fun _ _ _ => False) (hr.make C us []) (I2.env0.make C us []) bnd2 rel2 asks) fun r s' back => ?_))
  match r, back with
  | .error _, back => exact back.elim
  | .ok (.ret u), back =>
    obtain ⟨v, H2, os2, bare2, un2, hok2, rv, ev, q2⟩ := back
    subst ev
    obtain ⟨h2, g2, d2, t2, os'⟩ := s'
    exact ⟨rv, V.ref (hp.objs.size + 1), H2, I2.call' (ch := []) os2 un2 hok2 bare2 (fun b z => absurd z (by simp)), rfl, q2⟩
  | .ok .next, back => exact back.elim
  | .ok .brk, back => exact back.elim
  | .ok .cont, back => exact back.elim
theorem pe_mkeD {k m : Nat} {C : Addr} {fs : List Str} {n : Str} {x : Expr} {xs : List Expr} {es : Exs} {p pos : Pos} (hg : Gl X n) (hm : X.mg n = some (.ref C)) (hk : PySem.W.keepIn X.K (.ref C) = true) (he : G.et[k]? = some (C, fs)) (hl : fs.length = m) (hc : CallR X (.ref C) (rMkE G k)) (ha : PA X (x :: xs) (tAs G (relsS G) (es.ev P)))
    (hdb : (n == ("__debug__" : Str)) = false) (na : starEach (x :: xs) X.env = (false, eval x X.env) :: starEach xs X.env) (hpl : (backTo pos (starEach xs X.env)).any (·.1) = false) : PES G X P (.Call (.Name n p) (x :: xs) [] pos) (.mke k m es) := by
  refine ⟨fun pins s σ H Q I h => ?_⟩
  obtain ⟨B, env, st, ρ, d, st', rs, re, ev, kk⟩ := h
  unfold Ex.ev at ev
  obtain ⟨ds, st1, e1, e2⟩ := Res.bind_eq ev
  obtain ⟨e3, e4⟩ := ofOpt_eq e2
  have e4 := e4.symm
  subst e4
  have el : ds.length = m ∧ d = .er k ds := by
    split at e3
    · cases e3; exact ⟨by assumption, rfl⟩
    · cases e3
  obtain ⟨el, rfl⟩ := el
  refine wpAny_Call_Name_kw (ld_glob I hg hm ?_ hdb)
  refine PySem.W.callWith_K (h₀ := X.base) I.ok.mod.kin hk (thn (ha.run pos pins s σ H (fun vs H1 => ∃ ρ1, Stp ρ H ρ1 H1 ∧ RS (G := G) B st1 ρ1 H1 ∧ DVs G (ρ1 ++ B) ρ1 H1 ds vs) I ⟨B, env, st, ρ, ds, st1, rs, re, e1, fun vs ρ1 H1 sp1 rs1 q1 => ⟨ρ1, sp1, rs1, q1⟩⟩) fun us s1 ⟨vs, H1, I1, r, ρ1, sp1, rs1, q1⟩ => ⟨I1.kIn, ?_⟩) na hpl
  exact hc pins s1 σ H1 vs us Q I1 r ⟨B, ρ1, st1, ds, C, fs, rs1, q1, he, el.trans hl.symm, fun a ρ2 H2 sp2 rs2 ha => kk _ ρ2 H2 (sp1.trans sp2) rs2 ha⟩
/-- an error's object -/
theorem er_inst {pins : List (Addr × Obj)} {σ : L2.St} {s : Shared} {H : Hp} {a dx C : Addr} {fvs : List (Str × V)} (I : Inv X pins σ H s) (ha : H a = some (exo a C (some dx))) (hd : H dx = some (exd dx fvs)) :
    ∃ ox od, PySem.W.InstAt s.heap a ox C (some od) ∧ ∃ mA : Str → Option Value, (∀ f, PySem.W.lookIn f od = some (mA f)) ∧ ∀ f, RelO (fvs.lookup f) (mA f) := by
  obtain ⟨t1, hx⟩ := exo_at I.hok ha
  obtain ⟨mA, hns, hr⟩ := exd_at I.hok hd
  obtain ⟨od, ho, hl⟩ := lookIn_ns hns
  exact ⟨_, od, ⟨hx, rfl, rfl, ho⟩, mA, hl, hr⟩
theorem zip_at : ∀ {fs : List Str} {vs : List V} {j : Nat} {f : Str} {v : V}, fs.Nodup → fs[j]? = some f → vs[j]? = some v → (fs.zip vs).lookup f = some v
  | [], _, j, f, v, _, h, _ => by simp at h
  | g :: fs, [], j, f, v, _, _, h => by simp at h
  | g :: fs, w :: vs, 0, f, v, _, h1, h2 => by
    cases h1; cases h2
    simp [List.lookup]
  | g :: fs, w :: vs, j + 1, f, v, nd, h1, h2 => by
    have nd2 := List.nodup_cons.mp nd
    have hm : f ∈ fs := List.mem_of_getElem? (show fs[j]? = some f from h1)
    have hne : f ≠ g := fun z => nd2.1 (z ▸ hm)
    simp only [List.zip_cons_cons, List.lookup, beq_eq_false_iff_ne.mpr hne]
    exact zip_at nd2.2 h1 h2
theorem pe_efldD {n : Str} {ks : List Nat} {j : Nat} {x : Expr} {a : Ex} {pos : Pos} (ha : PEW G X P x a) (hb : attributeBase x n X.env (eval x X.env) = eval x X.env)
    (hk : ∀ k, ks.contains k = true → ∃ C fs, G.et[k]? = some (C, fs) ∧ fs.Nodup ∧ fs[j]? = some n ∧ CatchF X.K C fs) : PES G X P (.Attribute x n pos) (.efld n ks j a) := by
  refine ⟨fun pins s σ H Q I h => ?_⟩
  obtain ⟨B, env, st, ρ, d, st', rs, re, ev, kk⟩ := h
  unfold Ex.ev at ev
  obtain ⟨d0, st1, e1, e2⟩ := Res.bind_eq ev
  obtain ⟨e3, e4⟩ := ofOpt_eq e2
  have e4 := e4.symm
  subst e4
  refine attr_of hb (thn (ha.run pins s σ H (fun v H1 => ∃ ρ1, Stp ρ H ρ1 H1 ∧ RS (G := G) B st1 ρ1 H1 ∧ DB G B ρ1 H1 d0 v) I ⟨B, env, st, ρ, d0, st1, rs, re, e1, fun v ρ1 H1 sp1 rs1 q1 => ⟨ρ1, sp1, rs1, q1⟩⟩) fun u s1 ⟨x1, H1, I1, rx, ρ1, sp1, rs1, q1⟩ => ?_)
  have key : ∃ k vs, d0 = .er k vs ∧ ks.contains k = true ∧ vs[j]? = some d := by
    cases d0 with
    | er k vs =>
      have e3 : (if ks.contains k = true then vs[j]? else none) = some d := e3
      split at e3
      · exact ⟨k, vs, rfl, by assumption, e3⟩
      · cases e3
    | _ => cases e3
  obtain ⟨k, ds, rfl, hck, hj⟩ := key
  obtain ⟨a0, dx, C, fs, vs, rfl, h1, _, _, h2, h3, h4, h5⟩ := q1.er
  obtain ⟨C', fs', g1, g2, g3, g4⟩ := hk k hck
  rw [h1] at g1
  cases g1
  obtain rfl : u = Value.ref a0 := rx
  obtain ⟨ox, od, J, mA, hl, hr⟩ := er_inst I1 h2 h3
  obtain ⟨v, hv, dv⟩ := DVs.get h5 hj
  obtain ⟨w, hw, rw'⟩ := RelO.some_of (v := v) (o := mA n) (by rw [← zip_at g2 g3 hv]; exact hr n)
  exact HandSPX.exc_get I1.kIn J g4.xf.ga g4.xf.gg g4.xf.exC (PySem.W.findObj_own g4.xf.hdC (g4.nf n (List.mem_of_getElem? g3)) rfl (by rw [hl, hw])) (handed_of rw') ⟨v, H1, I1.tok _, rw', kk v ρ1 H1 sp1 rs1 dv⟩
/-- what isinstance asks of an own error class -/
structure IsxC (K : PySem.W.Frag) (C : Addr) : Prop where
  cl : (clsIn K C).isSome = true
  ca : PySem.W.findIn K (.ref C) "__class__" = some (some (.builtin "object.__class__"))
  gt : specialIn K (.builtin "object.__class__") "__get__" = some (some (.builtin "getset_descriptor.__get__"))
  tk : takesIn K (.builtin "object.__class__") = some true
  ob : mroIn K C (.type "object") = some true
def IsAt (et : List (Addr × List Str)) (K : PySem.W.Frag) (mg : Str → Option Value) (p : Str × Option String × List Nat) : Prop := ∃ u : Value, (match p.2.1 with
    | none => ∃ C2, u = .ref C2 ∧ mg p.1 = some (.ref C2)
    | some T => u = .type T ∧ mg p.1 = none ∧ bootBuiltins p.1 = some (.type T) ∧ p.1 ≠ "__name__") ∧ ∀ (k : Nat) C fs, et[k]? = some (C, fs) → XfC K C ∧ IsxC K C ∧ kitOne K (.ref C) u = some (p.2.2.contains k)
theorem pe_isxD {n : Str} {ks : List Nat} {x y : Expr} {a : Ex} {c : V} {p pos : Pos} (hg : Gl X "isinstance") (hm : X.mg "isinstance" = none) (ha : PEW G X P x a) (hy : PE X y (tC c)) (na : starEach [x, y] X.env = (false, eval x X.env) :: starEach [y] X.env) (nb : starEach [y] X.env = (false, eval y X.env) :: starEach [] X.env) (hpl : (backTo pos (starEach [y] X.env)).any (·.1) = false)
    (hk : ∀ k C fs, G.et[k]? = some (C, fs) → XfC X.K C ∧ IsxC X.K C ∧ ∀ u, RelV c u → kitOne X.K (.ref C) u = some (ks.contains k)) : PES G X P (.Call (.Name "isinstance" p) [x, y] [] pos) (.isx n ks a) := by
  have hcall : CallR X (.builtin "isinstance") (fun vs H Q => ∃ B ρ st d v0, RS (G := G) B st ρ H ∧ DB G B ρ H d v0 ∧ vs = [v0, c] ∧ ∃ k ds, d = .er k ds ∧ Q (.bl (ks.contains k)) H) := by
    intro pins s σ H vs us Q I r h
    obtain ⟨B, ρ, st, d, v0, rs, dv, ev, k, ds, rfl, q⟩ := h
    subst ev
    obtain ⟨u, u2, rfl, r1, r2⟩ := vals2 r
    obtain ⟨a0, dx, C, fs, ws, rfl, h1, _, _, h2, h3, _, _⟩ := dv.er
    obtain rfl : u = Value.ref a0 := r1
    obtain ⟨k1, k2, k3⟩ := hk k C fs h1
    obtain ⟨ox, od, J, _⟩ := er_inst I h2 h3
    exact kia_one (kitx_exc k2.cl k1.ga k1.gg k1.exC k2.ca k2.gt k2.tk k2.ob) I.kIn J (k3 _ r2) (by intro z; cases z) fun tk => ⟨.bl (ks.contains k), H, I.tok tk, rfl, q⟩
  refine PE_imp (pe_callB hcall hg hm boot_isinstance (pa_cons ha (pa_cons hy pa_nil nb) na) (by decide +kernel) (by decide +kernel) na hpl) fun σ H Q h => ?_
  obtain ⟨B, env, st, ρ, d, st', rs, re, ev, kk⟩ := h
  unfold Ex.ev at ev
  obtain ⟨d0, st1, e1, e2⟩ := Res.bind_eq ev
  obtain ⟨e3, e4⟩ := ofOpt_eq e2
  have e4 := e4.symm
  subst e4
  refine ⟨B, env, st, ρ, d0, st1, rs, re, e1, fun v ρ1 H1 sp1 rs1 q1 => ?_⟩
  have key : ∃ k vs, d0 = .er k vs ∧ d = .bl (ks.contains k) := by
    cases d0 with
    | er k vs => cases e3; exact ⟨k, vs, rfl, rfl⟩
    | _ => cases e3
  obtain ⟨k, ds, rfl, rfl⟩ := key
  exact ⟨B, ρ1, st1, _, v, rs1, q1, rfl, k, ds, rfl, kk _ ρ1 H1 sp1 rs1 rfl⟩
end
end Dp
set_option Elab.async false
set_option linter.all false
set_option maxRecDepth 100000
set_option maxHeartbeats 4000000
namespace Dp
open PySem PySem.Spec PyProof.Rows L2 PySem.W PySem.SeqAt
structure Cc where
  N : List Str
  sc : Scope
  fnv : Str → Bool
  bn : List Str
  fn : List Str
  gn : List Str
  /-- the error classes -/
  en : List (Str × List Str)
  /-- the defs that hear -/
  hn : List (Str × Hd)
  /-- the table of this def's code -/
  lm : Option Nat
  /-- the lambdas that are values -/
  ls : Nat → Arguments → Expr → Scope → Bool
  /-- may a name be called that holds one -/
  lv : Bool
  /-- the classes of instances: name, attributes, the def of __init__ -/
  oc : List (Str × List Str × Nat)
  /-- the defs that are methods: of which class, by what name -/
  ms : List (Option (Nat × Str))
  /-- may instances be made here -/
  mkb : Bool
  /-- what isinstance may ask of errors: the name, the built-in class, the error classes that are it -/
  is : List (Str × Option String × List Nat) := []
def Cc.blk (c : Cc) (scope : Scope) : Cc := { c with sc := L2.relS scope c.sc, fnv := fun x => scope.names.lookup x == some .cell, lm := none }
/-- within a lambda -/
def Cc.lam (c : Cc) (scope : Scope) : Cc := { c with sc := scope, fnv := fun _ => false, lm := none, mkb := false }
/-- two parameters -/
def par2N : Arguments → Option (List Str)
  | ⟨[], [a, b], none, [], [], none, []⟩ => some [a.arg, b.arg]
  | _ => none
/-- one parameter -/
def par1N : Arguments → Option (List Str)
  | ⟨[], [a], none, [], [], none, []⟩ => some [a.arg]
  | _ => none
/-- the names of such a lambda: its parameter, that of a comprehension in it -/
def lamN (ps : List Str) : Expr → List Str
  | .List [.Starred (.ListComp _ [⟨.Name y _, _, _, _⟩] _ _) _, _] _ => ps ++ [y]
  | _ => ps
def nameB (x : Str) : Bool := !(x == ("__debug__" : Str)) && !(x == ("__classdict__" : Str))
def visB (sc : Scope) (x : Str) : Bool := match sc.names.lookup x with
  | some .local => true
  | some .cell => true
  | some .free => true
  | _ => false
def glB (sc : Scope) (x : Str) : Bool := match sc.names.lookup x with
  | some .globalImplicit => true
  | _ => false
def bnB (c : Cc) (x : Str) : Bool := glB c.sc x && c.bn.any fun y => decide (y = x)
def varB (c : Cc) (i : Nat) : Expr → Bool
  | .Name x _ => decide (c.N[i]? = some x) && visB c.sc x && nameB x
  | _ => false
def litB (d : D) : Expr → Bool
  | .Constant k _ _ => litOk k d
  | _ => false
def notSetB : Expr → Bool
  | .Set _ _ _ => false
  | _ => true
def notStarB : Expr → Bool
  | .Starred _ _ => false
  | _ => true
def notSliceB : Expr → Bool
  | .Slice _ _ _ _ => false
  | _ => true
def plainTB : Expr → Bool
  | .Name _ _ => true
  | .Call _ _ _ _ => true
  | .Subscript _ _ _ => true
  | .Constant _ _ _ => true
  | .BinOp _ _ _ _ => true
  | _ => false
def blkB (N : List Str) (sc scope : Scope) (own : List Nat) : Bool :=
  decide (scope.kind = .function) && (scope.names.all fun y => decide (scope.names.lookup y.1 = some y.2)) && (own.all fun i => decide (i < N.length)) &&
  (scope.names.all fun y => match y.2 with
    | .free => (match sc.names.lookup y.1 with | some .cell => true | some .free => true | _ => false)
    | .local => (own.any fun i => decide (N[i]? = some y.1)) || !(N.any fun x => decide (x = y.1))
    | .cell => (own.any fun i => decide (N[i]? = some y.1)) || !(N.any fun x => decide (x = y.1))
    | _ => true)
def tgB (c : Cc) : Tg → Expr → Bool
  | .name i, .Name x _ => decide (c.N[i]? = some x) && (match c.sc.names.lookup x with | some .local => true | some .cell => c.fnv x | _ => false)
  | .pair a b, .Tuple [x, y] _ _ => tgB c a x && tgB c b y
  | .trip a b d, .Tuple [x, y, z] _ _ => tgB c a x && (tgB c b y && tgB c d z)
  | .quad a b d f, .Tuple [x, y, z, u] _ _ => tgB c a x && (tgB c b y && (tgB c d z && tgB c f u))
  | _, _ => false
inductive Mode where
  | s | w | t
def Mode.notT : Mode → Bool
  | .t => false
  | _ => true
def Mode.isT : Mode → Bool
  | .t => true
  | _ => false
/-- nm(x) -/
def oneB (c : Cc) (nm n : Str) (f : Expr → Bool) : List Expr → Bool
  | [x] => decide (n = nm) && bnB c n && f x && notStarB x
  | _ => false
/-- the error classes that have n for their j-th attribute -/
def efldB (c : Cc) (n : Str) (ks : List Nat) (j : Nat) : Bool := ks.all fun k => match c.en[k]? with
  | some e => decide (e.2[j]? = some n) && (decide (e.2.length = 1) || decide (e.2.length = 2))
  | none => false
/-- zip(range(x, y), z) -/
def ziprB (c : Cc) (fa fb fe : Expr → Bool) : Expr → Bool
  | .Call (.Name n _) [.Call (.Name n2 _) [x, y] [] _, z] [] _ => decide (n = "zip") && decide (n2 = "range") && bnB c n && bnB c n2 && fa x && fb y && fe z && notStarB x && notStarB y && notStarB z
  | _ => false
def biB (b : Bi) (c : Cc) (n : Str) (xs : List Expr) (w : Bool) (f : Expr → Bool) : Bool :=
  if biPlain b then decide (n = biName b) && bnB c n && !xs.isEmpty && w else match isName b with
    | some p => false
    | none => (match b with | .reprl => oneB c "repr" n f xs | _ => false)
mutual
def Ex.ok : Ex → Mode → Cc → Expr → Bool
  | .v i, _, c, x => varB c i x
  | .lit d, _, _, x => litB d x
  | .tup es, m, c, .Tuple xs _ _ => m.notT && es.ok .s c xs
  | .lst es, m, c, .List xs _ => m.notT && es.ok .s c xs
  | .prim (.bo o) (.cons a (.cons b .nil)), _, c, .BinOp x op y _ => decide (op = boOp o) && a.ok .w c x && b.ok .w c y
  | .prim (.co o) (.cons a (.cons b .nil)), _, c, .Compare x [op] [y] _ => decide (op = coOp o) && a.ok .w c x && b.ok .w c y && notSetB y
  | .prim .sub (.cons a (.cons b .nil)), _, c, .Subscript x y _ => a.ok .w c x && b.ok .w c y && notSliceB y
  | .prim .neg (.cons a .nil), m, c, .UnaryOp .USub x _ => m.notT && a.ok .w c x
  | .prim (.bi b) es, _, c, .Call (.Name n _) xs [] _ => biB b c n xs (es.okw c xs) (fun x => es.one c x)
  | .not a, m, c, .UnaryOp .Not x _ => a.ok (if m.isT then .t else .w) c x
  | .ife e a b, m, c, .IfExp z x y _ => e.ok .t c z && a.ok (if m.isT then .t else .s) c x && b.ok (if m.isT then .t else .s) c y
  | .call f es, _, c, .Call (.Name n _) xs [] _ => decide (c.fn[f]? = some n ∧ n ≠ "") && glB c.sc n && nameB n && es.ok .s c xs && es.plain
  | .lc own tg it ts e, m, c, .ListComp elt [⟨t, iter, ifs, a⟩] scope _ => m.notT && decide (a = 0) && blkB c.N c.sc scope own && it.ok false c t iter && notSetB iter && tgB (c.blk scope) tg t && (tg.ixs.all fun i => own.any fun j => decide (j = i)) && ts.okT (c.blk scope) ifs && e.ok .s (c.blk scope) elt
  | .dict ks vs, m, c, .Dict kx vx _ => m.notT && (litKeys ks kx).isSome && vs.ok .s c vx && vs.plain && decide (kx.length = vx.length) && decide (kx.length ≤ 15)
  | .new e, m, c, x => m.notT && e.ok .s c x && e.fr
  | .mke k n es, m, c, .Call (.Name x _) (y :: ys) [] _ => m.notT && (match c.en[k]? with | some e => decide (e.1 = x) && decide (e.2.length = n) && (decide (n = 1) || decide (n = 2)) | none => false) && glB c.sc x && nameB x && es.ok .s c (y :: ys) && es.plain
  | .efld n ks j e, m, c, .Attribute (.Name y p) g _ => m.notT && decide (g = n) && efldB c n ks j && e.ok .w c (.Name y p)
  | .isx n ks e, m, c, .Call (.Name i _) [x, .Name y _] [] _ => m.notT && decide (i = "isinstance") && bnB c i && decide (y = n) && glB c.sc n && nameB n && (c.is.any fun p => decide (p.1 = n) && decide (p.2.2 = ks)) && e.ok .w c x && notStarB x
  | _, _, _, _ => false
/-- one argument, weak -/
def Exs.one : Exs → Cc → Expr → Bool
  | .cons a .nil, c, x => a.ok .w c x
  | _, _, _ => false
/-- strong arguments -/
def Exs.ok : Exs → Mode → Cc → List Expr → Bool
  | .nil, _, _, [] => true
  | .cons e es, _, c, x :: xs => e.ok .s c x && notStarB x && es.ok .s c xs
  | _, _, _, _ => false
/-- weak arguments -/
def Exs.okw : Exs → Cc → List Expr → Bool
  | .nil, _, [] => true
  | .cons e es, c, x :: xs => e.ok .w c x && notStarB x && es.okw c xs
  | _, _, _ => false
def Exs.okT : Exs → Cc → List Expr → Bool
  | .nil, _, [] => true
  | .cons e .nil, c, [x] => e.ok .t c x
  | _, _, _ => false
def It.ok : It → Bool → Cc → Expr → Expr → Bool
  | .ex e, b, c, _, x => e.ok (if b then .s else .w) c x
  | .rng1 e, _, c, _, .Call (.Name n _) [x] [] _ => decide (n = "range") && bnB c n && e.ok .s c x && notStarB x
  | .rng2 e e2, _, c, _, .Call (.Name n _) [x, y] [] _ => decide (n = "range") && bnB c n && e.ok .s c x && e2.ok .s c y && notStarB x && notStarB y
  | .enum e, b, c, .Tuple _ _ _, .Call (.Name n _) [x] [] _ => decide (n = "enumerate") && bnB c n && e.ok (if b then .s else .w) c x && notStarB x
  | .zipr a1 a2 e, b, c, .Tuple _ _ _, x => ziprB c (fun z => a1.ok .s c z) (fun z => a2.ok .s c z) (fun z => e.ok (if b then .s else .w) c z) x
  | _, _, _, _, _ => false
/-- no star -/
def Exs.plain : Exs → Bool
  | .nil => true
  | .cons _ es => es.plain
  | .star _ _ => false
  | .starz _ _ _ => false
/-- a thing that is new -/
def Ex.fr : Ex → Bool
  | .lst _ => true
  | .lc _ _ _ _ _ => true
  | .lc2 _ _ _ _ _ _ _ _ _ => true
  | .dc _ _ _ _ _ _ => true
  | .dc2 _ _ _ _ _ _ _ _ _ _ => true
  | .gmer _ _ => true
  | .dict _ _ => true
  | .dict1 _ _ => true
  | .dict2 _ _ _ _ => true
  | .dmer _ _ => true
  | .dmerk _ _ _ => true
  | .rngx t _ _ _ => !t
  | .prim (.bi b) _ => biFr b
  | .prim (.bo .add) _ => true
  | .prim (.bo .mul) _ => true
  | _ => false
end
/-- within a lambda that is a value -/
def ccL (bn gn : List Str) (N : List Str) (scope : Scope) : Cc := ⟨N, scope, fun _ => false, bn, [], gn, [], [], none, fun _ _ _ _ => false, false, [], [], false, []⟩
def lsB (bn gn : List Str) (T : List Fd) (k : Nat) (ps : Arguments) (b : Expr) (scope : Scope) : Bool := match T[k]?, par2N ps with
  | some ⟨2, 2, .cons (.ret e) .nil⟩, some N => NdefX.nscB N N [] scope && e.ok .s (ccL bn gn N scope) b
  | some ⟨1, n, .cons (.ret e) .nil⟩, none => match par1N ps with
    | some N => decide (n = (lamN N b).length) && NdefX.nscB (lamN N b) N [] scope && e.ok .s (ccL bn gn (lamN N b) scope) b
    | none => false
  | _, _ => false
end Dp
set_option Elab.async false
set_option linter.all false
set_option maxRecDepth 100000
set_option maxHeartbeats 4000000
namespace Dp
open PySem PySem.Spec PyProof.Rows L2 PySem.W PySem.SeqAt
/-- the same program, world, module -/
structure SameC (X X' : Cx) : Prop where
  prog : X'.prog = X.prog
  w : X'.w = X.w
  K : X'.K = X.K
  mg : X'.mg = X.mg
  base : X'.base = X.base
theorem SameC.refl (X : Cx) : SameC X X := ⟨rfl, rfl, rfl, rfl, rfl⟩
theorem SameC.trans {X Y Z : Cx} (a : SameC X Y) (b : SameC Y Z) : SameC X Z := ⟨b.prog.trans a.prog, b.w.trans a.w, b.K.trans a.K, b.mg.trans a.mg, b.base.trans a.base⟩
/-- what a def that makes lambdas has -/
structure LamF (G : Gx) (c : Cc) (P : Par) (X : Cx) (t : Nat) : Prop where
  rm : Room (3 * P.dep + 7) X.A
  nd : (G.tb.map (·.1)).Nodup
  tab : ∃ cA tP, G.tb[t]? = some (tP, X.env.qual ++ "<lambda>") ∧ LamX.TabB X.base X.mg cA tP ∧ X.env.code = .ref cA
  hd : ∀ (h : Nat) x hd, c.hn[h]? = some (x, hd) → ∃ g TT, Hears X x TT g ∧ Link G hd TT
structure XC (G : Gx) (c : Cc) (P : Par) (X : Cx) : Prop where
  xa : XA G X
  rm : Room (3 * P.dep + 5) X.A
  N : X.N = c.N
  nd : c.N.Nodup
  sc : X.env.scope = c.sc
  fv : X.fn = c.fnv
  bn : ∀ x ∈ c.bn, X.mg x = none
  gl : ∀ (k : Nat) x, c.gn[k]? = some x → ∃ v u, X.mg x = some u ∧ RelV v u ∧ ∀ d, P.glob[k]? = some d → GV G d v
  call : ∀ (k : Nat) x, c.fn[k]? = some x → x ≠ "" → ∃ a, X.mg x = some (.ref a) ∧ PySem.W.keepIn X.K (.ref a) = true ∧ ∀ X' : Cx, SameC X X' → Room (3 * P.dep + 5) X'.A → X'.A.guards = some [] → CallR X' (.ref a) (rCall G P k)
  callx : ∀ (k : Nat) x, c.fn[k]? = some x → x ≠ "" → ∃ a, X.mg x = some (.ref a) ∧ PySem.W.keepIn X.K (.ref a) = true ∧ ∀ X' : Cx, SameC X X' → Room (3 * P.dep + 5) X'.A → X'.A.guards = some [] → ∀ E : XK, Takes X' (fun cls d _ H => E cls d H) → CallRX X' (.ref a) (rCallX G P k) E
  err : ∀ (k : Nat) x, c.en[k]? = some x → ∃ C, G.et[k]? = some (C, x.2) ∧ X.mg x.1 = some (.ref C) ∧ CatchF X.K C x.2 ∧ ∀ f, x.2 = [f] → ∀ X' : Cx, SameC X X' → Room (3 * P.dep + 5) X'.A → ∀ (e : Expr) (te : TE) (p pos : Pos), PE X' e te → (∀ σ H (Q Q' : VK), (∀ v H', Q v H' → Q' v H') → te σ H Q → te σ H Q') → Gl X' x.1 → (x.1 == ("__debug__" : Str)) = false → starEach [e] X'.env = (false, eval e X'.env) :: starEach [] X'.env →
    PMk X' (.Call (.Name x.1 p) [e] [] pos) (fun σ H Q => te σ H fun y H1 => ∀ dx, H1 dx = none → Q (.ref C) (some dx) (upd H1 dx (.xd [(f, y)])))
  lam : ∀ t, c.lm = some t → LamF G c P X t
  oc : ∀ (k : Nat) n fl i, c.oc[k]? = some (n, fl, i) → ∃ C, G.oc[k]? = some (C, fl) ∧ OcF X.K C fl ∧ X.mg n = some (.ref C) ∧ PySem.W.keepIn X.K (.ref C) = true ∧ (c.mkb = true → ∀ X' : Cx, SameC X X' → Room (3 * P.dep + 6) X'.A → X'.A.guards = some [] → CallR X' (.ref C) (rMake G P k i))
  rk : c.mkb = true → Room (3 * P.dep + 6) X.A
  ms : ∀ (k cl : Nat) nm, c.ms[k]? = some (some (cl, nm)) → ∃ C fl f, G.oc[cl]? = some (C, fl) ∧ Cls X.K C ∧ Meth X.K C nm f ∧ nm ∉ fl ∧ ∀ X' : Cx, SameC X X' → Room (3 * P.dep + 5) X'.A → X'.A.guards = some [] → CallR X' (.ref f) (rCall G P k)
  ls : ∀ k ps b sc, c.ls k ps b sc = true → G.ls k ps b sc = true
  lv : c.lv = true → ∀ (k : Nat) (f : Addr) (F : NdefX.NF) (b : Expr), F.cl = [] → G.ls k F.params b F.scope = true → ∀ X' : Cx, SameC X X' → Room (3 * P.dep + 5) X'.A → X'.A.guards = some [] → CallR X' (.ref f) (rLam G P k f F b)
  erc : ∀ (k : Nat) x, c.en[k]? = some x → (x.2.length = 1 ∨ x.2.length = 2) → ∃ C, G.et[k]? = some (C, x.2) ∧ X.mg x.1 = some (.ref C) ∧ PySem.W.keepIn X.K (.ref C) = true ∧ CatchF X.K C x.2 ∧ x.2.Nodup ∧ ∀ X' : Cx, SameC X X' → Room (3 * P.dep + 5) X'.A → CallR X' (.ref C) (rMkE G k)
  isx : ∀ p ∈ c.is, IsAt G.et X.K X.mg p
section
variable {G : Gx} {P : Par} {c : Cc} {X : Cx}
theorem XC.move {c' : Cc} {X' : Cx} (xc : XC G c P X) (sm : SameC X X') (hA : Room (3 * P.dep + 5) X'.A) (xa : XA G X') (hN : X'.N = X.N) (cN : c'.N = c.N) (hsc : X'.env.scope = c'.sc) (hfv : X'.fn = c'.fnv) (hbn : c'.bn = c.bn) (hgn : c'.gn = c.gn) (hfn : c'.fn = c.fn) (hen : c'.en = c.en) (hlm : c'.lm = none) (hls : c'.ls = c.ls) (hlv : c'.lv = c.lv) (hoc : c'.oc = c.oc) (hms : c'.ms = c.ms) (hmk : c'.mkb = true → c.mkb = true ∧ Room (3 * P.dep + 6) X'.A) (his : c'.is = c.is := by rfl) : XC G c' P X' := by
  refine ⟨xa, hA, by rw [hN, cN]; exact xc.N, by rw [cN]; exact xc.nd, hsc, hfv, fun x hx => ?_, fun k x h => ?_, fun k x h hn => ?_, fun k x h hn => ?_, fun k x h => ?_, fun t h => (by rw [hlm] at h; cases h), fun k n fl i h => ?_, fun h => (hmk h).2, fun k cl nm h => ?_, fun k ps b sc h => xc.ls k ps b sc (by rw [← hls]; exact h), fun h k f F b h1 h2 Y s r g => xc.lv (by rw [← hlv]; exact h) k f F b h1 h2 Y (sm.trans s) r g, fun k x h hl => (by
    obtain ⟨C, h1, h2, h3, h4, h5, h6⟩ := xc.erc k x (hen ▸ h) hl
    exact ⟨C, h1, by rw [sm.mg]; exact h2, by rw [sm.K]; exact h3, by rw [sm.K]; exact h4, h5, fun Y s r => h6 Y (sm.trans s) r⟩), fun p hp => (by rw [sm.K, sm.mg]; exact xc.isx p (his ▸ hp))⟩
  · rw [sm.mg]
    exact xc.bn x (hbn ▸ hx)
  · rw [sm.mg]
    exact xc.gl k x (hgn ▸ h)
  · obtain ⟨a, h1, h2, h3⟩ := xc.call k x (hfn ▸ h) hn
    exact ⟨a, by rw [sm.mg]; exact h1, by rw [sm.K]; exact h2, fun Y s r g => h3 Y (sm.trans s) r g⟩
  · obtain ⟨a, h1, h2, h3⟩ := xc.callx k x (hfn ▸ h) hn
    exact ⟨a, by rw [sm.mg]; exact h1, by rw [sm.K]; exact h2, fun Y s r g => h3 Y (sm.trans s) r g⟩
  · obtain ⟨C, h1, h2, h3, h4⟩ := xc.err k x (hen ▸ h)
    exact ⟨C, h1, by rw [sm.mg]; exact h2, by rw [sm.K]; exact h3, fun f e Y s r => h4 f e Y (sm.trans s) r⟩
  · obtain ⟨C, h1, h2, h3, h4, h5⟩ := xc.oc k n fl i (hoc ▸ h)
    exact ⟨C, h1, by rw [sm.K]; exact h2, by rw [sm.mg]; exact h3, by rw [sm.K]; exact h4, fun hm Y s r g => h5 (hmk hm).1 Y (sm.trans s) r g⟩
  · obtain ⟨C, fl, f, h1, h2, h3, h4, h5⟩ := xc.ms k cl nm (hms ▸ h)
    exact ⟨C, fl, f, h1, by rw [sm.K]; exact h2, by rw [sm.K]; exact h3, h4, fun Y s r g => h5 Y (sm.trans s) r g⟩
theorem XC.blk (xc : XC G c P X) (s : Shared) (H : Hp) (scope : Scope) (C : Addr) (cl : List (Str × Addr)) (fp : List Addr) : XC G (c.blk scope) P (X.blk s H scope (compEnvC scope cl C X.env) fp) := by
  refine xc.move ⟨rfl, rfl, rfl, rfl, rfl⟩ xc.rm ⟨xc.xa.K, xc.xa.w, xc.xa.calm, xc.xa.un, xc.xa.gd⟩ rfl rfl ?_ rfl rfl rfl rfl rfl rfl rfl rfl rfl rfl fun h => ⟨h, xc.rk h⟩
  show L2.relS scope X.env.scope = L2.relS scope c.sc
  rw [xc.sc]
theorem par2_inv {ps : Arguments} {N : List Str} (h : par2N ps = some N) : ∃ a b, ps = ⟨[], [a, b], none, [], [], none, []⟩ ∧ N = [a.arg, b.arg] := by
  unfold par2N at h
  split at h
  · cases h
    exact ⟨_, _, rfl, rfl⟩
  · cases h
theorem par1_inv {ps : Arguments} {N : List Str} (h : par1N ps = some N) : ∃ a, ps = ⟨[], [a], none, [], [], none, []⟩ ∧ N = [a.arg] := by
  unfold par1N at h
  split at h
  · cases h
    exact ⟨_, rfl, rfl⟩
  · cases h
/-- a conditional as a test -/
theorem pt_ifExp {X : Cx} {z x y : Expr} {pos : Pos} {tz tx ty : TT} (hc : PT X z tz) (ha : PT X x tx) (hb : PT X y ty) : PT X (.IfExp z x y pos) (fun σ H Q => tz σ H fun c H1 => if c = true then tx σ H1 Q else ty σ H1 Q) := by
  refine ⟨fun pins s σ H Q I h => ?_⟩
  rw [arm_isTrue_IfExp]
  refine wpAny_bind (thn (hc.run pins s σ H _ I h) fun d s1 ⟨H1, I1, q1⟩ => ?_)
  cases d with
  | true => exact ha.run pins s1 σ H1 Q I1 q1
  | false => exact hb.run pins s1 σ H1 Q I1 q1
theorem nameB_inv {x : Str} (h : nameB x = true) : (x == ("__debug__" : Str)) = false ∧ (x == ("__classdict__" : Str)) = false := by
  simpa [nameB] using h
theorem vis_of (xc : XC G c P X) {x : Str} (h : visB c.sc x = true) : Vis X.env.scope x := by
  rw [xc.sc]
  unfold visB at h
  split at h
  · exact .inl (by assumption)
  · exact .inr (.inl (by assumption))
  · exact .inr (.inr (by assumption))
  · cases h
theorem gl_of (xc : XC G c P X) {x : Str} (h : glB c.sc x = true) : Gl X x := by
  unfold glB at h
  split at h
  · rename_i e
    show X.env.scope.names.lookup x = _
    rw [xc.sc]
    exact e
  · cases h
theorem bn_of (xc : XC G c P X) {x : Str} (h : bnB c x = true) : Gl X x ∧ X.mg x = none := by
  simp only [bnB, Bool.and_eq_true, List.any_eq_true, decide_eq_true_eq] at h
  obtain ⟨h1, y, hy, rfl⟩ := h
  exact ⟨gl_of xc h1, xc.bn _ hy⟩
theorem star_ne {x : Expr} {xs : List Expr} {env : PySem.Env} (h : notStarB x = true) : starEach (x :: xs) env = (false, eval x env) :: starEach xs env := by
  cases x <;> first | rfl | exact absurd (show false = true from h) Bool.false_ne_true
theorem plain_any {pos : Pos} {env : PySem.Env} : ∀ {xs : List Expr}, xs.all notStarB = true → (backTo pos (starEach xs env)).any (·.1) = false
  | [], _ => rfl
  | x :: xs, h => by
    simp only [List.all_cons, Bool.and_eq_true] at h
    rw [star_ne h.1]
    show (false || (backTo pos (starEach xs env)).any (·.1)) = false
    rw [plain_any h.2]
    rfl
theorem notSet_mark {x : Expr} {op : CmpOp} (h : notSetB x = true) : behindInMarks op x = false := by
  cases x <;> first | rfl | exact absurd (show false = true from h) Bool.false_ne_true
theorem notSet_fold {x : Expr} {env : PySem.Env} (h : notSetB x = true) : ∀ v, foldedSetIterable x env v = pure v := by
  cases x <;> first | (intro v; rfl) | exact absurd (show false = true from h) Bool.false_ne_true
theorem notSlice_ix {x : Expr} (h : notSliceB x = true) : PlainIx x := by
  cases x <;> first | (intro o i; rfl) | exact absurd (show false = true from h) Bool.false_ne_true
theorem plainT_he {x : Expr} {env : PySem.Env} (h : plainTB x = true) : ∀ whole, isTrue x env whole = (do let v ← whole; standAt x.pos; holding [v] (truthy v)) := by
  cases x <;> first | (intro v; rfl) | exact absurd (show false = true from h) Bool.false_ne_true
/-- what a check gives -/
def Snd (G : Gx) (P : Par) (X : Cx) (x : Expr) (e : Ex) : Mode → Prop
  | .s => PES G X P x e
  | .w => PEW G X P x e
  | .t => PT X x (tT G (e.test P)) ∧ ∀ op vs p, x = .BoolOp op vs p → PW X x (tT G (e.test P))
theorem plainT_ne {x : Expr} (h : plainTB x = true) : ∀ op vs p, x ≠ .BoolOp op vs p := by
  intro op vs p e
  subst e
  exact absurd (show false = true from h) Bool.false_ne_true
/-- a plain expression in each of the ways -/
theorem snd_plain (xa : XA G X) {x : Expr} {e : Ex} (hp : plainTB x = true) (h : PES G X P x e) (ht : ∀ env st b st', e.test P env st = .ok b st' → ∃ d, e.ev P env st = .ok d st' ∧ d.tru = some b) : ∀ m, Snd G P X x e m
  | .s => h
  | .w => PE_weak h
  | .t => ⟨pt_of xa (PE_weak h) (plainT_he hp) ht, fun op vs p z => (plainT_ne hp op vs p z).elim⟩
theorem snd_val {x : Expr} {e : Ex} (h : PES G X P x e) : ∀ m : Mode, m.notT = true → Snd G P X x e m
  | .s, _ => h
  | .w, _ => PE_weak h
  | .t, z => absurd z (by decide)
theorem test_prim {p : Pr} {es : Exs} : ∀ env st b st', (Ex.prim p es).test P env st = .ok b st' → ∃ d, (Ex.prim p es).ev P env st = .ok d st' ∧ d.tru = some b := by
  intro env st b st' h
  unfold Ex.test at h
  obtain ⟨ds, st1, e1, h⟩ := Res.bind_eq h
  obtain ⟨d, st2, e2, e3⟩ := Res.bind_eq h
  obtain ⟨g3, rfl⟩ := ofOpt_eq e3
  refine ⟨d, ?_, g3⟩
  unfold Ex.ev
  rw [e1]
  exact e2
theorem test_call {f : Nat} {es : Exs} : ∀ env st b st', (Ex.call f es).test P env st = .ok b st' → ∃ d, (Ex.call f es).ev P env st = .ok d st' ∧ d.tru = some b := by
  intro env st b st' h
  unfold Ex.test at h
  obtain ⟨ds, st1, e1, h⟩ := Res.bind_eq h
  obtain ⟨d, st2, e2, e3⟩ := Res.bind_eq h
  obtain ⟨g3, rfl⟩ := ofOpt_eq e3
  refine ⟨d, ?_, g3⟩
  unfold Ex.ev
  rw [e1]
  exact e2
theorem test_lit {d : D} : ∀ env st b st', (Ex.lit d).test P env st = .ok b st' → ∃ d', (Ex.lit d).ev P env st = .ok d' st' ∧ d'.tru = some b := by
  intro env st b st' h
  unfold Ex.test at h
  obtain ⟨g, rfl⟩ := ofOpt_eq h
  exact ⟨d, by unfold Ex.ev; rfl, g⟩
theorem test_v {i : Nat} : ∀ env st b st', (Ex.v i).test P env st = .ok b st' → ∃ d', (Ex.v i).ev P env st = .ok d' st' ∧ d'.tru = some b := by
  intro env st b st' h
  unfold Ex.test at h
  obtain ⟨g, rfl⟩ := ofOpt_eq h
  obtain ⟨d, g1, g2⟩ := Option.bind_eq_some_iff.mp g
  exact ⟨d, by unfold Ex.ev; rw [g1]; rfl, g2⟩
/-- what holds of all smaller terms -/
structure IHs (G : Gx) (P : Par) (n : Nat) : Prop where
  ex : ∀ (e : Ex) (m : Mode) (c : Cc) (x : Expr) (X : Cx), sizeOf e < n → e.ok m c x = true → XC G c P X → Snd G P X x e m
  es : ∀ (es : Exs) (m : Mode) (c : Cc) (xs : List Expr) (X : Cx), sizeOf es < n → es.ok m c xs = true → XC G c P X → PA X xs (tAs G (relsS G) (es.ev P))
  ew : ∀ (es : Exs) (c : Cc) (xs : List Expr) (X : Cx), sizeOf es < n → es.okw c xs = true → XC G c P X → PA X xs (tAs G (relsW G) (es.ev P)) ∧ xs.all notStarB = true
  on : ∀ (es : Exs) (c : Cc) (x : Expr) (X : Cx), sizeOf es < n → es.one c x = true → XC G c P X → ∃ a, es = .cons a .nil ∧ PEW G X P x a
  et : ∀ (es : Exs) (c : Cc) (xs : List Expr) (X : Cx), sizeOf es < n → es.okT c xs = true → XC G c P X → PTs X xs (tts P G es) ∧ one1 es = true
  it : ∀ (it : It) (b : Bool) (c : Cc) (t x : Expr) (X : Cx), sizeOf it < n → it.ok b c t x = true → XC G c P X → PI X t x (tI G b (it.ev P))
  pv : ∀ (es : Exs) (m : Mode) (c : Cc) (xs : List Expr) (X : Cx), sizeOf es < n → es.ok m c xs = true → es.plain = true → XC G c P X → PVs G X P xs es ∧ xs.all notStarB = true
  fr : ∀ (e : Ex) (m : Mode) (c : Cc) (x : Expr) (X : Cx), sizeOf e < n → e.ok m c x = true → e.fr = true → XC G c P X → PEF G X P x e
end
end Dp
set_option Elab.async false
set_option linter.all false
set_option maxRecDepth 100000
set_option maxHeartbeats 4000000
namespace Dp
open PySem PySem.Spec PyProof.Rows L2 PySem.W PySem.SeqAt
section
variable {G : Gx} {P : Par} {n : Nat}
theorem pg_of {c : Cc} {X : Cx} (xc : XC G c P X) : ∀ (t : Tg) (x : Expr), tgB c t x = true → PG X x (gT X.K t)
  | .name i, x, h => by
    cases x <;> try (exact absurd (show false = true from h) Bool.false_ne_true)
    rename_i y p
    have h : (decide (c.N[i]? = some y) && (match c.sc.names.lookup y with | some .local => true | some .cell => c.fnv y | _ => false)) = true := h
    rw [Bool.and_eq_true, decide_eq_true_eq] at h
    have hN : X.N[i]? = some y := by rw [xc.N]; exact h.1
    have h2 := h.2
    split at h2
    · rename_i e
      rw [← xc.sc] at e
      exact pg_name (by rw [xc.N]; exact xc.nd) hN (.inl e) (.inr e)
    · rename_i e
      rw [← xc.sc] at e
      exact pg_name (by rw [xc.N]; exact xc.nd) hN (.inr e) (.inl (by rw [xc.fv]; exact h2))
    · cases h2
  | .pair a b, x, h => by
    cases x <;> try (exact absurd (show false = true from h) Bool.false_ne_true)
    rename_i xs k p
    rcases xs with _ | ⟨x, _ | ⟨y, _ | ⟨z, r⟩⟩⟩
    · exact absurd (show false = true from h) Bool.false_ne_true
    · exact absurd (show false = true from h) Bool.false_ne_true
    · have h : (tgB c a x && tgB c b y) = true := h
      rw [Bool.and_eq_true] at h
      have ha := pg_of xc a x h.1
      have hb := pg_of xc b y h.2
      have sx : ∀ {t : Tg} {x : Expr}, tgB c t x = true → notStarB x = true := fun {t x} h => by
        cases x <;> first | rfl | (cases t <;> exact absurd (show false = true from h) Bool.false_ne_true)
      have e1 : ∀ (xs : List Expr), assignEach (x :: xs) X.env = (false, assign x X.env) :: assignEach xs X.env := fun xs => by
        have := sx h.1
        cases x <;> first | rfl | exact absurd (show false = true from this) Bool.false_ne_true
      have e2 : ∀ (xs : List Expr), assignEach (y :: xs) X.env = (false, assign y X.env) :: assignEach xs X.env := fun xs => by
        have := sx h.2
        cases y <;> first | rfl | exact absurd (show false = true from this) Bool.false_ne_true
      exact pg_tup xc.xa.calm (pgs_cons ha (pgs_cons hb pgs_nil (by rw [e2]; rfl)) (by rw [e1]; rfl)) (by rw [e1, e2]; rfl) (by rw [e1, e2]; rfl)
    · exact absurd (show false = true from h) Bool.false_ne_true
  | .trip a b d, x, h => by
    cases x <;> try (exact absurd (show false = true from h) Bool.false_ne_true)
    rename_i xs k p
    rcases xs with _ | ⟨x, _ | ⟨y, _ | ⟨z, _ | ⟨u, r⟩⟩⟩⟩
    · exact absurd (show false = true from h) Bool.false_ne_true
    · exact absurd (show false = true from h) Bool.false_ne_true
    · exact absurd (show false = true from h) Bool.false_ne_true
    · have h : (tgB c a x && (tgB c b y && tgB c d z)) = true := h
      rw [Bool.and_eq_true, Bool.and_eq_true] at h
      have ha := pg_of xc a x h.1
      have hb := pg_of xc b y h.2.1
      have hd := pg_of xc d z h.2.2
      have sx : ∀ {t : Tg} {x : Expr}, tgB c t x = true → notStarB x = true := fun {t x} h => by
        cases x <;> first | rfl | (cases t <;> exact absurd (show false = true from h) Bool.false_ne_true)
      have e1 : ∀ (xs : List Expr), assignEach (x :: xs) X.env = (false, assign x X.env) :: assignEach xs X.env := fun xs => by
        have := sx h.1
        cases x <;> first | rfl | exact absurd (show false = true from this) Bool.false_ne_true
      have e2 : ∀ (xs : List Expr), assignEach (y :: xs) X.env = (false, assign y X.env) :: assignEach xs X.env := fun xs => by
        have := sx h.2.1
        cases y <;> first | rfl | exact absurd (show false = true from this) Bool.false_ne_true
      have e3 : ∀ (xs : List Expr), assignEach (z :: xs) X.env = (false, assign z X.env) :: assignEach xs X.env := fun xs => by
        have := sx h.2.2
        cases z <;> first | rfl | exact absurd (show false = true from this) Bool.false_ne_true
      exact pg_tup xc.xa.calm (pgs_cons ha (pgs_cons hb (pgs_cons hd pgs_nil (by rw [e3]; rfl)) (by rw [e2]; rfl)) (by rw [e1]; rfl)) (by rw [e1, e2, e3]; rfl) (by rw [e1, e2, e3]; rfl)
    · exact absurd (show false = true from h) Bool.false_ne_true
  | .quad a b d f, x, h => by
    cases x <;> try (exact absurd (show false = true from h) Bool.false_ne_true)
    rename_i xs k p
    rcases xs with _ | ⟨x, _ | ⟨y, _ | ⟨z, _ | ⟨u, _ | ⟨_, _⟩⟩⟩⟩⟩ <;> try (exact absurd (show false = true from h) Bool.false_ne_true)
    have h : (tgB c a x && (tgB c b y && (tgB c d z && tgB c f u))) = true := h
    simp only [Bool.and_eq_true] at h
    have ha := pg_of xc a x h.1
    have hb := pg_of xc b y h.2.1
    have hd := pg_of xc d z h.2.2.1
    have hf := pg_of xc f u h.2.2.2
    have sx : ∀ {t : Tg} {x : Expr}, tgB c t x = true → ∀ (xs : List Expr), assignEach (x :: xs) X.env = (false, assign x X.env) :: assignEach xs X.env := fun {t x} h xs => by
      have : notStarB x = true := by
        cases x <;> first | rfl | (cases t <;> exact absurd (show false = true from h) Bool.false_ne_true)
      cases x <;> first | rfl | exact absurd (show false = true from this) Bool.false_ne_true
    have e1 := sx h.1
    have e2 := sx h.2.1
    have e3 := sx h.2.2.1
    have e4 := sx h.2.2.2
    exact pg_tup xc.xa.calm (pgs_cons ha (pgs_cons hb (pgs_cons hd (pgs_cons hf pgs_nil (by rw [e4]; rfl)) (by rw [e3]; rfl)) (by rw [e2]; rfl)) (by rw [e1]; rfl)) (by rw [e1, e2, e3, e4]; rfl) (by rw [e1, e2, e3, e4]; rfl)
theorem blk_of {N : List Str} {sc scope : Scope} {own : List Nat} (h : blkB N sc scope own = true) : BlkOk N sc scope (own.map fun i => ((N[i]?).getD default, i)) := by
  simp only [blkB, Bool.and_eq_true, decide_eq_true_eq, List.all_eq_true] at h
  obtain ⟨⟨⟨h1, h2⟩, h3⟩, h4⟩ := h
  refine ⟨h1, fun y hy => h2 y hy, fun p hp => ?_, fun y hy e => ?_, fun y hy e => ?_⟩
  · obtain ⟨i, hi, rfl⟩ := List.mem_map.mp hp
    have := h3 i hi
    simp [this]
  · have := h4 y hy
    rw [e] at this
    simp only at this
    split at this
    · exact .inl (by assumption)
    · exact .inr (by assumption)
    · cases this
  · have := h4 y hy
    have key : ((own.any fun i => decide (N[i]? = some y.1)) || !(N.any fun x => decide (x = y.1))) = true := by
      rcases e with e | e
      · rw [e] at this; exact this
      · rw [e] at this; exact this
    rw [Bool.or_eq_true] at key
    rcases key with key | key
    · obtain ⟨i, hi, e2⟩ := List.any_eq_true.mp key
      rw [decide_eq_true_eq] at e2
      refine .inl ?_
      rw [List.map_map]
      exact List.mem_map.mpr ⟨i, hi, by simp [e2]⟩
    · refine .inr fun hy2 => ?_
      rw [Bool.not_eq_true', List.any_eq_false] at key
      exact key _ hy2 (by simp)
theorem own_snd {N : List Str} {own : List Nat} : (own.map fun i => ((N[i]?).getD (default : Str), i)).map (·.2) = own := by
  rw [List.map_map]
  exact List.map_id' _
theorem st_es (ih : IHs G P n) : ∀ (es : Exs) (m : Mode) (c : Cc) (xs : List Expr) (X : Cx), sizeOf es < n + 1 → es.ok m c xs = true → XC G c P X → PA X xs (tAs G (relsS G) (es.ev P))
  | .nil, m, c, xs, X, hs, h, xc => by
    cases xs with
    | nil => exact pa_nilS
    | cons _ _ => exact absurd (show false = true from h) Bool.false_ne_true
  | .cons e es, m, c, xs, X, hs, h, xc => by
    cases xs with
    | nil => exact absurd (show false = true from h) Bool.false_ne_true
    | cons x xs =>
      have h : (e.ok .s c x && notStarB x && es.ok .s c xs) = true := by
        cases x <;> exact h
      simp only [Bool.and_eq_true] at h
      simp only [Exs.cons.sizeOf_spec] at hs
      exact pa_consS (ih.ex e .s c x X (by omega) h.1.1 xc) (ih.es es .s c xs X (by omega) h.2 xc) (star_ne h.1.2)
  | .star e es, m, c, xs, X, hs, h, xc => by
    cases xs <;> exact absurd (show false = true from h) Bool.false_ne_true
  | .starz a b es, m, c, xs, X, hs, h, xc => by
    cases xs <;> exact absurd (show false = true from h) Bool.false_ne_true
theorem st_ew (ih : IHs G P n) : ∀ (es : Exs) (c : Cc) (xs : List Expr) (X : Cx), sizeOf es < n + 1 → es.okw c xs = true → XC G c P X → PA X xs (tAs G (relsW G) (es.ev P)) ∧ xs.all notStarB = true
  | .nil, c, xs, X, hs, h, xc => by
    cases xs with
    | nil => exact ⟨pa_nilW, rfl⟩
    | cons _ _ => exact absurd (show false = true from h) Bool.false_ne_true
  | .cons e es, c, xs, X, hs, h, xc => by
    cases xs with
    | nil => exact absurd (show false = true from h) Bool.false_ne_true
    | cons x xs =>
      have h : (e.ok .w c x && notStarB x && es.okw c xs) = true := h
      simp only [Bool.and_eq_true] at h
      simp only [Exs.cons.sizeOf_spec] at hs
      obtain ⟨i1, i2⟩ := ih.ew es c xs X (by omega) h.2 xc
      exact ⟨pa_consW (ih.ex e .w c x X (by omega) h.1.1 xc) i1 (star_ne h.1.2), by simp [h.1.2, i2]⟩
  | .star e es, c, xs, X, hs, h, xc => by
    cases xs <;> exact absurd (show false = true from h) Bool.false_ne_true
  | .starz a b es, c, xs, X, hs, h, xc => by
    cases xs <;> exact absurd (show false = true from h) Bool.false_ne_true
theorem st_on (ih : IHs G P n) : ∀ (es : Exs) (c : Cc) (x : Expr) (X : Cx), sizeOf es < n + 1 → es.one c x = true → XC G c P X → ∃ a, es = .cons a .nil ∧ PEW G X P x a := by
  intro es c x X hs h xc
  rcases es with _ | ⟨a, _ | ⟨b, es⟩ | ⟨b, es⟩ | ⟨_, _, _⟩⟩ | ⟨a, es⟩ | ⟨_, _, _⟩ <;> try (exact absurd (show false = true from h) Bool.false_ne_true)
  simp only [Exs.cons.sizeOf_spec] at hs
  exact ⟨a, rfl, ih.ex a .w c x X (by omega) h xc⟩
theorem one_of : ∀ {es : Exs} {c : Cc} {xs : List Expr}, es.okT c xs = true → one1 es = true := by
  intro es c xs h
  rcases es with _ | ⟨a, _ | ⟨b, es⟩ | ⟨b, es⟩ | ⟨_, _, _⟩⟩ | ⟨a, es⟩ | ⟨_, _, _⟩
  · rfl
  · rfl
  · rcases xs with _ | ⟨_, _ | ⟨_, _⟩⟩ <;> exact absurd (show false = true from h) Bool.false_ne_true
  · rcases xs with _ | ⟨_, _ | ⟨_, _⟩⟩ <;> exact absurd (show false = true from h) Bool.false_ne_true
  · rcases xs with _ | ⟨_, _ | ⟨_, _⟩⟩ <;> exact absurd (show false = true from h) Bool.false_ne_true
  · rcases xs with _ | ⟨_, _ | ⟨_, _⟩⟩ <;> exact absurd (show false = true from h) Bool.false_ne_true
  · rcases xs with _ | ⟨_, _ | ⟨_, _⟩⟩ <;> exact absurd (show false = true from h) Bool.false_ne_true
theorem st_pv (ih : IHs G P n) : ∀ (es : Exs) (m : Mode) (c : Cc) (xs : List Expr) (X : Cx), sizeOf es < n + 1 → es.ok m c xs = true → es.plain = true → XC G c P X → PVs G X P xs es ∧ xs.all notStarB = true
  | .nil, m, c, xs, X, hs, h, hp, xc => by
    cases xs with
    | nil => exact ⟨.nil, rfl⟩
    | cons _ _ => exact absurd (show false = true from h) Bool.false_ne_true
  | .cons e es, m, c, xs, X, hs, h, hp, xc => by
    cases xs with
    | nil => exact absurd (show false = true from h) Bool.false_ne_true
    | cons x xs =>
      have h : (e.ok .s c x && notStarB x && es.ok .s c xs) = true := by
        cases x <;> exact h
      simp only [Bool.and_eq_true] at h
      simp only [Exs.cons.sizeOf_spec] at hs
      obtain ⟨i1, i2⟩ := ih.pv es .s c xs X (by omega) h.2 hp xc
      exact ⟨.cons (ih.ex e .s c x X (by omega) h.1.1 xc) i1, by simp [h.1.2, i2]⟩
  | .star e es, m, c, xs, X, hs, h, hp, xc => absurd (show false = true from hp) Bool.false_ne_true
  | .starz a b es, m, c, xs, X, hs, h, hp, xc => absurd (show false = true from hp) Bool.false_ne_true
theorem st_et (ih : IHs G P n) : ∀ (es : Exs) (c : Cc) (xs : List Expr) (X : Cx), sizeOf es < n + 1 → es.okT c xs = true → XC G c P X → PTs X xs (tts P G es) ∧ one1 es = true
  | .nil, c, xs, X, hs, h, xc => by
    cases xs with
    | nil => exact ⟨pts_nil, rfl⟩
    | cons _ _ => exact absurd (show false = true from h) Bool.false_ne_true
  | .cons e es, c, xs, X, hs, h, xc => by
    rcases es with _ | ⟨e2, es⟩ | ⟨e2, es⟩ | ⟨_, _, _⟩
    · rcases xs with _ | ⟨x, _ | ⟨y, r⟩⟩
      · exact absurd (show false = true from h) Bool.false_ne_true
      · have h : e.ok .t c x = true := h
        simp only [Exs.cons.sizeOf_spec] at hs
        exact ⟨pts_one (ih.ex e .t c x X (by omega) h xc).1, rfl⟩
      · exact absurd (show false = true from h) Bool.false_ne_true
    · rcases xs with _ | ⟨x, _ | ⟨y, r⟩⟩ <;> exact absurd (show false = true from h) Bool.false_ne_true
    · rcases xs with _ | ⟨x, _ | ⟨y, r⟩⟩ <;> exact absurd (show false = true from h) Bool.false_ne_true
    · rcases xs with _ | ⟨x, _ | ⟨y, r⟩⟩ <;> exact absurd (show false = true from h) Bool.false_ne_true
  | .star e es, c, xs, X, hs, h, xc => by
    rcases xs with _ | ⟨x, _ | ⟨y, r⟩⟩ <;> exact absurd (show false = true from h) Bool.false_ne_true
  | .starz a b es, c, xs, X, hs, h, xc => by
    rcases xs with _ | ⟨x, _ | ⟨y, r⟩⟩ <;> exact absurd (show false = true from h) Bool.false_ne_true
theorem ziprB_inv {c : Cc} {fa fb fe : Expr → Bool} {x : Expr} (h : ziprB c fa fb fe x = true) : ∃ n p n2 p2 a b pos2 y pos, x = .Call (.Name n p) [.Call (.Name n2 p2) [a, b] [] pos2, y] [] pos ∧ n = "zip" ∧ n2 = "range" ∧ bnB c n = true ∧ bnB c n2 = true ∧ fa a = true ∧ fb b = true ∧ fe y = true ∧ notStarB a = true ∧ notStarB b = true ∧ notStarB y = true := by
  unfold ziprB at h
  split at h
  · simp only [Bool.and_eq_true, decide_eq_true_eq] at h
    obtain ⟨⟨⟨⟨⟨⟨⟨⟨⟨h1, h2⟩, h3⟩, h4⟩, h5⟩, h6⟩, h7⟩, h8⟩, h9⟩, h10⟩ := h
    exact ⟨_, _, _, _, _, _, _, _, _, rfl, h1, h2, h3, h4, h5, h6, h7, h8, h9, h10⟩
  · cases h
theorem snd_rel {X : Cx} {x : Expr} {e : Ex} {b : Bool} (h : Snd G P X x e (if b then .s else .w)) : PE X x (tE G (rel b G) (e.ev P)) := by
  cases b
  · exact h
  · exact h
theorem st_it (ih : IHs G P n) : ∀ (it : It) (b : Bool) (c : Cc) (t x : Expr) (X : Cx), sizeOf it < n + 1 → it.ok b c t x = true → XC G c P X → PI X t x (tI G b (it.ev P))
  | .ex e, b, c, t, x, X, hs, h, xc => by
    simp only [It.ex.sizeOf_spec] at hs
    have h : e.ok (if b then .s else .w) c x = true := by
      cases t <;> exact h
    exact pi_ex xc.xa (snd_rel (ih.ex e _ c x X (by omega) h xc))
  | .rng1 e, b, c, t, x, X, hs, h, xc => by
    simp only [It.rng1.sizeOf_spec] at hs
    cases x <;> try (cases t <;> exact absurd (show false = true from h) Bool.false_ne_true)
    rename_i f xs kw pos
    cases f <;> try (cases t <;> exact absurd (show false = true from h) Bool.false_ne_true)
    rename_i nm p
    rcases xs with _ | ⟨y, _ | ⟨z, r⟩⟩ <;> rcases kw with _ | ⟨_, _⟩ <;> try (cases t <;> exact absurd (show false = true from h) Bool.false_ne_true)
    have h : (decide (nm = "range") && bnB c nm && e.ok .s c y && notStarB y) = true := by
      cases t <;> exact h
    simp only [Bool.and_eq_true, decide_eq_true_eq] at h
    obtain ⟨⟨⟨rfl, h2⟩, h3⟩, h4⟩ := h
    obtain ⟨b1, b2⟩ := bn_of xc h2
    exact pi_rng1 b1 b2 (ih.ex e .s c y X (by omega) h3 xc) (star_ne h4)
  | .rng2 e e2, b, c, t, x, X, hs, h, xc => by
    simp only [It.rng2.sizeOf_spec] at hs
    cases x <;> try (cases t <;> exact absurd (show false = true from h) Bool.false_ne_true)
    rename_i f xs kw pos
    cases f <;> try (cases t <;> exact absurd (show false = true from h) Bool.false_ne_true)
    rename_i nm p
    rcases xs with _ | ⟨y, _ | ⟨z, _ | ⟨u, r⟩⟩⟩ <;> rcases kw with _ | ⟨_, _⟩ <;> try (cases t <;> exact absurd (show false = true from h) Bool.false_ne_true)
    have h : (decide (nm = "range") && bnB c nm && e.ok .s c y && e2.ok .s c z && notStarB y && notStarB z) = true := by
      cases t <;> exact h
    simp only [Bool.and_eq_true, decide_eq_true_eq] at h
    obtain ⟨⟨⟨⟨⟨rfl, h2⟩, h3⟩, h4⟩, h5⟩, h6⟩ := h
    obtain ⟨b1, b2⟩ := bn_of xc h2
    exact pi_rng2 b1 b2 (ih.ex e .s c y X (by omega) h3 xc) (ih.ex e2 .s c z X (by omega) h4 xc) (star_ne h5) (star_ne h6)
  | .enum e, b, c, t, x, X, hs, h, xc => by
    simp only [It.enum.sizeOf_spec] at hs
    cases t <;> try (exact absurd (show false = true from h) Bool.false_ne_true)
    cases x <;> try (exact absurd (show false = true from h) Bool.false_ne_true)
    rename_i elts kk tpos f xs kw pos
    cases f <;> try (exact absurd (show false = true from h) Bool.false_ne_true)
    rename_i nm p
    rcases xs with _ | ⟨y, _ | ⟨z, r⟩⟩ <;> rcases kw with _ | ⟨_, _⟩ <;> try (exact absurd (show false = true from h) Bool.false_ne_true)
    have h : (decide (nm = "enumerate") && bnB c nm && e.ok (if b then .s else .w) c y && notStarB y) = true := h
    simp only [Bool.and_eq_true, decide_eq_true_eq] at h
    obtain ⟨⟨⟨rfl, h2⟩, h3⟩, h4⟩ := h
    obtain ⟨b1, b2⟩ := bn_of xc h2
    exact pi_enumD xc.xa b1 b2 (snd_rel (ih.ex e _ c y X (by omega) h3 xc)) (star_ne h4)
  | .zipr a1 a2 e, b, c, t, x, X, hs, h, xc => by
    simp only [It.zipr.sizeOf_spec] at hs
    cases t <;> try (exact absurd (show false = true from h) Bool.false_ne_true)
    rename_i elts kk tpos
    obtain ⟨n, p, n2, p2, a, b2, pos2, y, pos, rfl, rfl, rfl, g1, g2, ha, hb, he, s1, s2, s3⟩ := ziprB_inv (show ziprB c (fun z => a1.ok .s c z) (fun z => a2.ok .s c z) (fun z => e.ok (if b then .s else .w) c z) x = true from h)
    obtain ⟨g1, g3⟩ := bn_of xc g1
    obtain ⟨g2, g4⟩ := bn_of xc g2
    exact pi_ziprD xc.xa g1 g3 g2 g4 (show PES G X P a a1 from ih.ex a1 .s c a X (by omega) ha xc) (show PES G X P b2 a2 from ih.ex a2 .s c b2 X (by omega) hb xc) (snd_rel (ih.ex e _ c y X (by omega) he xc)) (star_ne s1) (star_ne s2) (by rw [star_ne s2]; rfl) (star_ne s3) (by rw [star_ne s3]; rfl)
  | .zip e e2, b, c, t, x, X, hs, h, xc => by
    cases t <;> exact absurd (show false = true from h) Bool.false_ne_true
  | .items e, b, c, t, x, X, hs, h, xc => by
    cases t <;> exact absurd (show false = true from h) Bool.false_ne_true
end
end Dp
set_option Elab.async false
set_option linter.all false
set_option maxRecDepth 100000
set_option maxHeartbeats 8000000
namespace Dp
open PySem PySem.Spec PyProof.Rows L2 PySem.W PySem.SeqAt
section
variable {G : Gx} {P : Par} {n : Nat}
theorem own_sub {t : Tg} {own : List Nat} (h : (t.ixs.all fun i => own.any fun j => decide (j = i)) = true) : ∀ i ∈ t.ixs, i ∈ own := fun i hi => by
  obtain ⟨j, hj, e⟩ := List.any_eq_true.mp (List.all_eq_true.mp h i hi)
  rw [decide_eq_true_eq] at e
  exact e ▸ hj
theorem st_fr (ih : IHs G P n) : ∀ (e : Ex) (m : Mode) (c : Cc) (x : Expr) (X : Cx), sizeOf e < n + 1 → e.ok m c x = true → e.fr = true → XC G c P X → PEF G X P x e := by
  intro e m c x X hs h hf xc
  cases e <;> try (exact absurd (show false = true from hf) Bool.false_ne_true)
  case lst es =>
    cases x <;> try (exact absurd (show false = true from h) Bool.false_ne_true)
    rename_i xs pos
    have h : (m.notT && es.ok .s c xs) = true := h
    rw [Bool.and_eq_true] at h
    simp only [Ex.lst.sizeOf_spec] at hs
    exact pef_raw xc.xa <| pe_lstF (ih.es es .s c xs X (by omega) h.2 xc)
  case prim p es =>
    simp only [Ex.prim.sizeOf_spec] at hs
    cases p <;> try (exact absurd (show false = true from hf) Bool.false_ne_true)
    case bo o =>
      have ho : o = .add ∨ o = .mul := by cases o <;> first | exact .inl rfl | exact .inr rfl | exact absurd (show false = true from hf) Bool.false_ne_true
      rcases es with _ | ⟨a, _ | ⟨b, _ | ⟨d, es⟩ | ⟨d, es⟩⟩ | ⟨b, es⟩⟩ | ⟨a, es⟩ <;> try (cases x <;> exact absurd (show false = true from h) Bool.false_ne_true)
      cases x <;> try (exact absurd (show false = true from h) Bool.false_ne_true)
      rename_i x op y pos
      have h : (decide (op = boOp o) && a.ok .w c x && b.ok .w c y) = true := h
      simp only [Bool.and_eq_true, decide_eq_true_eq] at h
      obtain ⟨⟨rfl, h1⟩, h2⟩ := h
      simp only [Exs.cons.sizeOf_spec] at hs
      rcases ho with rfl | rfl
      · exact pe_addF xc.xa (ih.ex a .w c x X (by omega) h1 xc) (ih.ex b .w c y X (by omega) h2 xc)
      · exact pe_mulF xc.xa (ih.ex a .w c x X (by omega) h1 xc) (ih.ex b .w c y X (by omega) h2 xc)
    case bi b =>
      have hb : biFr b = true := hf
      have hbp : biPlain b = true := by cases b <;> first | rfl | exact absurd (show false = true from hb) Bool.false_ne_true
      cases x <;> try (exact absurd (show false = true from h) Bool.false_ne_true)
      rename_i f xs kw pos
      cases f <;> try (exact absurd (show false = true from h) Bool.false_ne_true)
      rename_i nm p
      rcases kw with _ | ⟨_, _⟩
      · have h : biB b c nm xs (es.okw c xs) (fun x => es.one c x) = true := h
        unfold biB at h
        rw [if_pos hbp] at h
        simp only [Bool.and_eq_true, decide_eq_true_eq, Bool.not_eq_true'] at h
        obtain ⟨⟨⟨rfl, h1⟩, h2⟩, h3⟩ := h
        obtain ⟨b1, b2⟩ := bn_of xc h1
        obtain ⟨i1, i2⟩ := ih.ew es c xs X (by omega) h3 xc
        rcases xs with _ | ⟨x, xs⟩
        · simp at h2
        · simp only [List.all_cons, Bool.and_eq_true] at i2
          exact pe_biF xc.xa hb b1 b2 i1 (star_ne i2.1) (plain_any i2.2)
      · exact absurd (show false = true from h) Bool.false_ne_true
  case lc own tg it ts e =>
    cases x <;> try (exact absurd (show false = true from h) Bool.false_ne_true)
    rename_i elt gens scope pos
    rcases gens with _ | ⟨⟨t, iter, ifs, a⟩, _ | ⟨g2, r⟩⟩
    · exact absurd (show false = true from h) Bool.false_ne_true
    · have h : (m.notT && decide (a = 0) && blkB c.N c.sc scope own && it.ok false c t iter && notSetB iter && tgB (c.blk scope) tg t && (tg.ixs.all fun i => own.any fun j => decide (j = i)) && ts.okT (c.blk scope) ifs && e.ok .s (c.blk scope) elt) = true := h
      simp only [Bool.and_eq_true] at h
      obtain ⟨⟨⟨⟨⟨⟨⟨⟨_, h0⟩, h1⟩, h2⟩, h3⟩, h4⟩, h5⟩, h6⟩, h7⟩ := h
      rw [decide_eq_true_eq] at h0
      subst h0
      simp only [Ex.lc.sizeOf_spec] at hs
      have hi := ih.it it false c t iter X (by omega) h2 xc
      have hN : X.N.Nodup := by rw [xc.N]; exact xc.nd
      have ok := blk_of h1
      rw [← xc.N, ← xc.sc] at ok
      have ho1 : one1 ts = true := one_of h6
      have pe := pe_lc (pos := pos) xc.xa.calm hN hi ok
        (fun s H C cl fp => show PG _ t (gT X.K tg) from pg_of (xc.blk s H scope C cl fp) tg t h4)
        (fun s H C cl fp => (ih.et ts (c.blk scope) ifs _ (by omega) h6 (xc.blk s H scope C cl fp)).1)
        (fun s H C cl fp => show PE _ elt (tE G (relS G) (e.ev P)) from ih.ex e .s (c.blk scope) elt _ (by omega) h7 (xc.blk s H scope C cl fp)) (notSet_fold h3)
      rw [own_snd] at pe
      refine pef_raw xc.xa (PE_imp pe fun σ H Q q => ?_)
      have := tLc_of ho1 (own_sub h5) q
      rw [← xc.xa.K] at this
      exact this
    · exact absurd (show false = true from h) Bool.false_ne_true
  case lc2 own own2 tg it ts tg2 it2 ts2 e => first | exact absurd (show false = true from h) Bool.false_ne_true | (cases x <;> exact absurd (show false = true from h) Bool.false_ne_true)
  case dc own tg it ts k e => first | exact absurd (show false = true from h) Bool.false_ne_true | (cases x <;> exact absurd (show false = true from h) Bool.false_ne_true)
  case gmer i j => first | exact absurd (show false = true from h) Bool.false_ne_true | (cases x <;> exact absurd (show false = true from h) Bool.false_ne_true)
  case dc2 own own2 tg it ts tg2 it2 ts2 k e => first | exact absurd (show false = true from h) Bool.false_ne_true | (cases x <;> exact absurd (show false = true from h) Bool.false_ne_true)
  case dict1 k e => first | exact absurd (show false = true from h) Bool.false_ne_true | (cases x <;> exact absurd (show false = true from h) Bool.false_ne_true)
  case dict2 k e k2 e2 => first | exact absurd (show false = true from h) Bool.false_ne_true | (cases x <;> exact absurd (show false = true from h) Bool.false_ne_true)
  case rngx t one a b => first | exact absurd (show false = true from h) Bool.false_ne_true | (cases x <;> exact absurd (show false = true from h) Bool.false_ne_true)
  case dmer a b => first | exact absurd (show false = true from h) Bool.false_ne_true | (cases x <;> exact absurd (show false = true from h) Bool.false_ne_true)
  case dmerk a k e => first | exact absurd (show false = true from h) Bool.false_ne_true | (cases x <;> exact absurd (show false = true from h) Bool.false_ne_true)
  case dict ks vs =>
    cases x <;> try (exact absurd (show false = true from h) Bool.false_ne_true)
    rename_i kx vx pos
    have h : (m.notT && (litKeys ks kx).isSome && vs.ok .s c vx && vs.plain && decide (kx.length = vx.length) && decide (kx.length ≤ 15)) = true := h
    simp only [Bool.and_eq_true, decide_eq_true_eq] at h
    obtain ⟨⟨⟨⟨⟨_, h1⟩, h2⟩, h3⟩, h4⟩, h6⟩ := h
    obtain ⟨kd, hk⟩ := Option.isSome_iff_exists.mp h1
    simp only [Ex.dict.sizeOf_spec] at hs
    by_cases h5 : kx = []
    · subst h5
      have hvx : vx = [] := List.length_eq_zero_iff.mp h4.symm
      subst hvx
      have hvs : vs = .nil := by cases vs <;> first | rfl | exact absurd (show false = true from h2) Bool.false_ne_true
      have hks : ks = .nil ∧ kd = [] := by
        cases ks with
        | nil => exact ⟨rfl, (Option.some.inj hk).symm⟩
        | cons _ _ => cases hk
        | star _ _ => cases hk
        | starz _ _ _ => cases hk
      obtain ⟨rfl, rfl⟩ := hks
      subst hvs
      refine pef_raw xc.xa (PE_imp pe_dnewK fun σ H Q ⟨B, env, st, ρ, d, st', rs, re, ev, k⟩ p hp => ?_)
      unfold Ex.ev at ev
      obtain ⟨kd2, st1, e1, ev⟩ := Res.bind_eq ev
      unfold Exs.ev at e1
      cases e1
      obtain ⟨vd, st2, e2, e3⟩ := Res.bind_eq ev
      unfold Exs.ev at e2
      cases e2
      obtain ⟨g3, rfl⟩ := ofOpt_eq e3
      cases g3
      exact k p ρ H _ (Stp.refl _ _) rs hp ⟨[], rfl, KR.nil⟩
    · exact pef_raw xc.xa <| pe_dispD hk (ih.pv vs .s c vx X (by omega) h2 h3 xc).1 h4 h5 h6
theorem snd_cmp {X : Cx} {x : Expr} {e : Ex} {m : Mode} (hb : ∀ op vs p, x ≠ .BoolOp op vs p) (h : PES G X P x e) (ht : PT X x (tT G (e.test P))) : Snd G P X x e m := by
  cases m with
  | s => exact h
  | w => exact PE_weak h
  | t => exact ⟨ht, fun op vs p z => (hb op vs p z).elim⟩
theorem oneB_inv {c : Cc} {nm n : Str} {f : Expr → Bool} {xs : List Expr} (h : oneB c nm n f xs = true) : ∃ x, xs = [x] ∧ n = nm ∧ bnB c n = true ∧ f x = true ∧ notStarB x = true := by
  unfold oneB at h
  split at h
  · simp only [Bool.and_eq_true, decide_eq_true_eq] at h
    obtain ⟨⟨⟨h1, h2⟩, h3⟩, h4⟩ := h
    exact ⟨_, rfl, h1, h2, h3, h4⟩
  · cases h
theorem st_prim (ih : IHs G P n) {p : Pr} {es : Exs} {m : Mode} {c : Cc} {x : Expr} {X : Cx} (hs : sizeOf (Ex.prim p es) < n + 1) (h : (Ex.prim p es).ok m c x = true) (xc : XC G c P X) : Snd G P X x (.prim p es) m := by
  simp only [Ex.prim.sizeOf_spec] at hs
  cases p with
  | bo o =>
    rcases es with _ | ⟨a, _ | ⟨b, _ | ⟨d, es⟩ | ⟨d, es⟩⟩ | ⟨b, es⟩⟩ | ⟨a, es⟩ <;> try (cases x <;> exact absurd (show false = true from h) Bool.false_ne_true)
    cases x <;> try (exact absurd (show false = true from h) Bool.false_ne_true)
    rename_i x op y pos
    have h : (decide (op = boOp o) && a.ok .w c x && b.ok .w c y) = true := h
    simp only [Bool.and_eq_true, decide_eq_true_eq] at h
    obtain ⟨⟨rfl, h1⟩, h2⟩ := h
    simp only [Exs.cons.sizeOf_spec] at hs
    exact snd_plain xc.xa rfl (pe_bo xc.xa (ih.ex a .w c x X (by omega) h1 xc) (ih.ex b .w c y X (by omega) h2 xc)) test_prim m
  | co o =>
    rcases es with _ | ⟨a, _ | ⟨b, _ | ⟨d, es⟩ | ⟨d, es⟩⟩ | ⟨b, es⟩⟩ | ⟨a, es⟩ <;> try (cases x <;> exact absurd (show false = true from h) Bool.false_ne_true)
    cases x <;> try (exact absurd (show false = true from h) Bool.false_ne_true)
    rename_i x ops ys pos
    rcases ops with _ | ⟨op, _ | ⟨op2, ops⟩⟩ <;> rcases ys with _ | ⟨y, _ | ⟨y2, ys⟩⟩ <;> try (exact absurd (show false = true from h) Bool.false_ne_true)
    have h : (decide (op = coOp o) && a.ok .w c x && b.ok .w c y && notSetB y) = true := h
    simp only [Bool.and_eq_true, decide_eq_true_eq] at h
    obtain ⟨⟨⟨rfl, h1⟩, h2⟩, h3⟩ := h
    simp only [Exs.cons.sizeOf_spec] at hs
    have ha : PEW G X P x a := ih.ex a .w c x X (by omega) h1 xc
    have hb : PEW G X P y b := ih.ex b .w c y X (by omega) h2 xc
    exact snd_cmp (fun _ _ _ z => nomatch z) (pe_co xc.xa ha hb (notSet_mark h3)) (pt_coD xc.xa ha hb (notSet_mark h3))
  | hasr ng => cases x <;> exact absurd (show false = true from h) Bool.false_ne_true
  | sub =>
    rcases es with _ | ⟨a, _ | ⟨b, _ | ⟨d, es⟩ | ⟨d, es⟩⟩ | ⟨b, es⟩⟩ | ⟨a, es⟩ <;> try (cases x <;> exact absurd (show false = true from h) Bool.false_ne_true)
    cases x <;> try (exact absurd (show false = true from h) Bool.false_ne_true)
    rename_i x y pos
    have h : (a.ok .w c x && b.ok .w c y && notSliceB y) = true := h
    simp only [Bool.and_eq_true] at h
    obtain ⟨⟨h1, h2⟩, h3⟩ := h
    simp only [Exs.cons.sizeOf_spec] at hs
    exact snd_plain xc.xa rfl (pe_sub' xc.xa (ih.ex a .w c x X (by omega) h1 xc) (ih.ex b .w c y X (by omega) h2 xc) (notSlice_ix h3)) test_prim m
  | neg =>
    rcases es with _ | ⟨a, _ | ⟨b, es⟩ | ⟨b, es⟩⟩ | ⟨a, es⟩ <;> try (cases x <;> exact absurd (show false = true from h) Bool.false_ne_true)
    cases x <;> try (exact absurd (show false = true from h) Bool.false_ne_true)
    rename_i op x pos
    cases op <;> try (exact absurd (show false = true from h) Bool.false_ne_true)
    have h : (m.notT && a.ok .w c x) = true := h
    simp only [Bool.and_eq_true] at h
    simp only [Exs.cons.sizeOf_spec] at hs
    exact snd_val (pe_neg xc.xa (ih.ex a .w c x X (by omega) h.2 xc)) m h.1
  | get1 => cases x <;> exact absurd (show false = true from h) Bool.false_ne_true
  | get2 => cases x <;> exact absurd (show false = true from h) Bool.false_ne_true
  | rev => cases x <;> exact absurd (show false = true from h) Bool.false_ne_true
  | cut lo hi => cases x <;> exact absurd (show false = true from h) Bool.false_ne_true
  | bi b =>
    cases x <;> try (exact absurd (show false = true from h) Bool.false_ne_true)
    rename_i f xs kw pos
    cases f <;> try (exact absurd (show false = true from h) Bool.false_ne_true)
    rename_i nm p
    rcases kw with _ | ⟨_, _⟩
    · have h : biB b c nm xs (es.okw c xs) (fun x => es.one c x) = true := h
      refine snd_plain xc.xa rfl ?_ test_prim m
      unfold biB at h
      by_cases hb : biPlain b = true
      · rw [if_pos hb] at h
        simp only [Bool.and_eq_true, decide_eq_true_eq, Bool.not_eq_true'] at h
        obtain ⟨⟨⟨rfl, h1⟩, h2⟩, h3⟩ := h
        obtain ⟨b1, b2⟩ := bn_of xc h1
        obtain ⟨i1, i2⟩ := ih.ew es c xs X (by omega) h3 xc
        rcases xs with _ | ⟨x, xs⟩
        · simp at h2
        · simp only [List.all_cons, Bool.and_eq_true] at i2
          exact pe_bi xc.xa hb b1 b2 i1 (star_ne i2.1) (plain_any i2.2)
      · rw [if_neg hb] at h
        cases hn : isName b with
        | some q =>
          rw [hn] at h
          exact absurd (show false = true from h) Bool.false_ne_true
        | none =>
          rw [hn] at h
          cases b <;> try (exact absurd (show false = true from h) Bool.false_ne_true)
          case reprl =>
            obtain ⟨x, rfl, rfl, h3, h5, h6⟩ := oneB_inv (show oneB c "repr" nm (fun x => es.one c x) xs = true from h)
            obtain ⟨b1, b2⟩ := bn_of xc h3
            obtain ⟨a, rfl, pe⟩ := ih.on es c x X (by omega) h5 xc
            exact pe_reprl xc.xa b1 b2 pe (star_ne h6)
    · exact absurd (show false = true from h) Bool.false_ne_true
end
end Dp
set_option Elab.async false
set_option linter.all false
set_option maxRecDepth 100000
set_option maxHeartbeats 8000000
namespace Dp
open PySem PySem.Spec PyProof.Rows L2 PySem.W PySem.SeqAt
section
variable {G : Gx} {P : Par} {n : Nat}
theorem es_plain : ∀ {es : Exs} {m : Mode} {c : Cc} {xs : List Expr}, es.ok m c xs = true → es.plain = true → xs.all notStarB = true
  | .nil, m, c, xs, h, hp => by
    cases xs with
    | nil => rfl
    | cons _ _ => exact absurd (show false = true from h) Bool.false_ne_true
  | .cons e es, m, c, xs, h, hp => by
    cases xs with
    | nil => exact absurd (show false = true from h) Bool.false_ne_true
    | cons x xs =>
      have h : (e.ok .s c x && notStarB x && es.ok .s c xs) = true := by
        cases x <;> exact h
      simp only [Bool.and_eq_true] at h
      simp [h.1.2, es_plain h.2 hp]
  | .star e es, m, c, xs, h, hp => absurd (show false = true from hp) Bool.false_ne_true
  | .starz a b es, m, c, xs, h, hp => absurd (show false = true from hp) Bool.false_ne_true
theorem varB_inv {c : Cc} {i : Nat} {x : Expr} (h : varB c i x = true) : ∃ y p, x = .Name y p ∧ c.N[i]? = some y ∧ visB c.sc y = true ∧ nameB y = true := by
  cases x <;> try (exact absurd (show false = true from h) Bool.false_ne_true)
  rename_i y p
  have h : (decide (c.N[i]? = some y) && visB c.sc y && nameB y) = true := h
  simp only [Bool.and_eq_true, decide_eq_true_eq] at h
  exact ⟨y, p, rfl, h.1.1, h.1.2, h.2⟩
theorem st_ex (ih : IHs G P n) : ∀ (e : Ex) (m : Mode) (c : Cc) (x : Expr) (X : Cx), sizeOf e < n + 1 → e.ok m c x = true → XC G c P X → Snd G P X x e m := by
  intro e m c x X hs h xc
  cases e with
  | v i =>
    obtain ⟨y, p, rfl, h1, h2, h3⟩ := varB_inv (show varB c i x = true from h)
    obtain ⟨h4, h5⟩ := nameB_inv h3
    exact snd_plain xc.xa rfl (pe_v (by rw [xc.N]; exact h1) (vis_of xc h2) h4 h5) test_v m
  | bor i => first | exact absurd (show false = true from h) Bool.false_ne_true | (cases x <;> exact absurd (show false = true from h) Bool.false_ne_true)
  | lit d =>
    cases x <;> try (exact absurd (show false = true from h) Bool.false_ne_true)
    exact snd_plain xc.xa rfl (pe_lit h) test_lit m
  | glob k => first | exact absurd (show false = true from h) Bool.false_ne_true | (cases x <;> exact absurd (show false = true from h) Bool.false_ne_true)
  | tup es =>
    cases x <;> try (exact absurd (show false = true from h) Bool.false_ne_true)
    rename_i xs k pos
    have h : (m.notT && es.ok .s c xs) = true := h
    rw [Bool.and_eq_true] at h
    simp only [Ex.tup.sizeOf_spec] at hs
    exact snd_val (pe_tupD (ih.es es .s c xs X (by omega) h.2 xc)) m h.1
  | lst es =>
    have hn : m.notT = true := by
      cases x <;> try (exact absurd (show false = true from h) Bool.false_ne_true)
      rename_i xs pos
      have h : (m.notT && es.ok .s c xs) = true := h
      rw [Bool.and_eq_true] at h
      exact h.1
    exact snd_val (pe_fresh (st_fr ih (.lst es) m c x X hs h rfl xc) lst_cell) m hn
  | prim p es => exact st_prim ih hs h xc
  | and a b => first | exact absurd (show false = true from h) Bool.false_ne_true | (cases x <;> exact absurd (show false = true from h) Bool.false_ne_true)
  | or a b => first | exact absurd (show false = true from h) Bool.false_ne_true | (cases x <;> exact absurd (show false = true from h) Bool.false_ne_true)
  | not a =>
    cases x <;> try (exact absurd (show false = true from h) Bool.false_ne_true)
    rename_i op x pos
    cases op <;> try (exact absurd (show false = true from h) Bool.false_ne_true)
    have h : a.ok (if m.isT then .t else .w) c x = true := h
    simp only [Ex.not.sizeOf_spec] at hs
    cases m with
    | s => exact pe_notD xc.xa (ih.ex a .w c x X (by omega) h xc)
    | w => exact PE_weak (pe_notD xc.xa (ih.ex a .w c x X (by omega) h xc))
    | t => exact ⟨pt_notD (ih.ex a .t c x X (by omega) h xc).1, fun op vs p z => nomatch z⟩
  | ife e a b =>
    cases x <;> try (exact absurd (show false = true from h) Bool.false_ne_true)
    rename_i z x y pos
    have h : (e.ok .t c z && a.ok (if m.isT then .t else .s) c x && b.ok (if m.isT then .t else .s) c y) = true := h
    simp only [Bool.and_eq_true] at h
    simp only [Ex.ife.sizeOf_spec] at hs
    have val : m.isT = false → PES G X P (.IfExp z x y pos) (.ife e a b) := fun hm => by
      rw [hm] at h
      exact pe_iteD (ih.ex e .t c z X (by omega) h.1.1 xc).1 (ih.ex a .s c x X (by omega) h.1.2 xc) (ih.ex b .s c y X (by omega) h.2 xc)
    cases m with
    | s => exact val rfl
    | w => exact PE_weak (val rfl)
    | t =>
      refine ⟨PT_imp (pt_ifExp (ih.ex e .t c z X (by omega) h.1.1 xc).1 (ih.ex a .t c x X (by omega) h.1.2 xc).1 (ih.ex b .t c y X (by omega) h.2 xc).1) fun σ H Q ⟨B, env, st, ρ, d, st', rs, re, ev, k⟩ => ?_, fun op vs p z => nomatch z⟩
      unfold Ex.test at ev
      obtain ⟨t, st1, e1, e2⟩ := Res.bind_eq ev
      refine ⟨B, env, st, ρ, _, _, rs, re, e1, fun ρ1 H1 sp1 rs1 => ?_⟩
      cases t with
      | true => exact ⟨B, env, _, ρ1, _, _, rs1, re.stp rs.mt rs.off sp1, e2, fun ρ2 H2 sp2 rs2 => k ρ2 H2 (sp1.trans sp2) rs2⟩
      | false => exact ⟨B, env, _, ρ1, _, _, rs1, re.stp rs.mt rs.off sp1, e2, fun ρ2 H2 sp2 rs2 => k ρ2 H2 (sp1.trans sp2) rs2⟩
  | chain o o' a b d => first | exact absurd (show false = true from h) Bool.false_ne_true | (cases x <;> exact absurd (show false = true from h) Bool.false_ne_true)
  | call f es =>
    cases x <;> try (exact absurd (show false = true from h) Bool.false_ne_true)
    rename_i g xs kw pos
    cases g <;> try (exact absurd (show false = true from h) Bool.false_ne_true)
    rename_i nm p
    rcases kw with _ | ⟨_, _⟩
    · replace h : (decide (c.fn[f]? = some nm ∧ nm ≠ "") && glB c.sc nm && nameB nm && es.ok .s c xs && es.plain) = true := h
      simp only [Bool.and_eq_true, decide_eq_true_eq] at h
      obtain ⟨⟨⟨⟨h1, h2⟩, h3⟩, h4⟩, h5⟩ := h
      simp only [Ex.call.sizeOf_spec] at hs
      obtain ⟨a, q1, q2, q3⟩ := xc.call f nm h1.1 h1.2
      have pl := es_plain h4 h5
      have hc := q3 X (SameC.refl X) xc.rm xc.xa.gd
      refine snd_plain xc.xa rfl ?_ test_call m
      rcases xs with _ | ⟨x, xs⟩
      · rcases es with _ | ⟨_, _⟩ | ⟨_, _⟩ | ⟨_, _, _⟩
        · exact pe_callF0 (gl_of xc h2) q1 q2 hc (nameB_inv h3).1
        · exact absurd (show false = true from h4) Bool.false_ne_true
        · exact absurd (show false = true from h4) Bool.false_ne_true
        · exact absurd (show false = true from h4) Bool.false_ne_true
      · simp only [List.all_cons, Bool.and_eq_true] at pl
        exact pe_callF (gl_of xc h2) q1 q2 hc (ih.es es .s c (x :: xs) X (by omega) h4 xc) (nameB_inv h3).1 (star_ne pl.1) (plain_any pl.2)
    · exact absurd (show false = true from h) Bool.false_ne_true
  | callX f es => first | exact absurd (show false = true from h) Bool.false_ne_true | (cases x <;> exact absurd (show false = true from h) Bool.false_ne_true)
  | ggt k e => first | exact absurd (show false = true from h) Bool.false_ne_true | (cases x <;> exact absurd (show false = true from h) Bool.false_ne_true)
  | gmer i j => first | exact absurd (show false = true from h) Bool.false_ne_true | (cases x <;> exact absurd (show false = true from h) Bool.false_ne_true)
  | srtk t k a => first | exact absurd (show false = true from h) Bool.false_ne_true | (cases x <;> exact absurd (show false = true from h) Bool.false_ne_true)
  | dc2 own own2 tg it ts tg2 it2 ts2 k e => first | exact absurd (show false = true from h) Bool.false_ne_true | (cases x <;> exact absurd (show false = true from h) Bool.false_ne_true)
  | lam t k => first | exact absurd (show false = true from h) Bool.false_ne_true | (cases x <;> exact absurd (show false = true from h) Bool.false_ne_true)
  | callv i es => first | exact absurd (show false = true from h) Bool.false_ne_true | (cases x <;> exact absurd (show false = true from h) Bool.false_ne_true)
  | lc own tg it ts e =>
    have hn : m.notT = true := by
      cases x <;> try (exact absurd (show false = true from h) Bool.false_ne_true)
      rename_i elt gens scope pos
      rcases gens with _ | ⟨⟨t, iter, ifs, a⟩, _ | ⟨g2, r⟩⟩
      · exact absurd (show false = true from h) Bool.false_ne_true
      · replace h : (m.notT && decide (a = 0) && blkB c.N c.sc scope own && it.ok false c t iter && notSetB iter && tgB (c.blk scope) tg t && (tg.ixs.all fun i => own.any fun j => decide (j = i)) && ts.okT (c.blk scope) ifs && e.ok .s (c.blk scope) elt) = true := h
        simp only [Bool.and_eq_true] at h
        exact h.1.1.1.1.1.1.1.1
      · exact absurd (show false = true from h) Bool.false_ne_true
    exact snd_val (pe_fresh (st_fr ih (.lc own tg it ts e) m c x X hs h rfl xc) lc_cell) m hn
  | lc2 own own2 tg it ts tg2 it2 ts2 e => first | exact absurd (show false = true from h) Bool.false_ne_true | (cases x <;> exact absurd (show false = true from h) Bool.false_ne_true)
  | dc own tg it ts k e => first | exact absurd (show false = true from h) Bool.false_ne_true | (cases x <;> exact absurd (show false = true from h) Bool.false_ne_true)
  | dict ks vs =>
    have hn : m.notT = true := by
      cases x <;> try (exact absurd (show false = true from h) Bool.false_ne_true)
      rename_i kx vx pos
      replace h : (m.notT && (litKeys ks kx).isSome && vs.ok .s c vx && vs.plain && decide (kx.length = vx.length) && decide (kx.length ≤ 15)) = true := h
      simp only [Bool.and_eq_true] at h
      exact h.1.1.1.1.1
    exact snd_val (pe_fresh (st_fr ih (.dict ks vs) m c x X hs h rfl xc) dict_cell) m hn
  | rngx t one a b => first | exact absurd (show false = true from h) Bool.false_ne_true | (cases x <;> exact absurd (show false = true from h) Bool.false_ne_true)
  | lzip a b => first | exact absurd (show false = true from h) Bool.false_ne_true | (cases x <;> exact absurd (show false = true from h) Bool.false_ne_true)
  | dzip a b => first | exact absurd (show false = true from h) Bool.false_ne_true | (cases x <;> exact absurd (show false = true from h) Bool.false_ne_true)
  | dmer a b => first | exact absurd (show false = true from h) Bool.false_ne_true | (cases x <;> exact absurd (show false = true from h) Bool.false_ne_true)
  | dmerk a k e => first | exact absurd (show false = true from h) Bool.false_ne_true | (cases x <;> exact absurd (show false = true from h) Bool.false_ne_true)
  | unx a => first | exact absurd (show false = true from h) Bool.false_ne_true | (cases x <;> exact absurd (show false = true from h) Bool.false_ne_true)
  | ditm a => first | exact absurd (show false = true from h) Bool.false_ne_true | (cases x <;> exact absurd (show false = true from h) Bool.false_ne_true)
  | sitm a => first | exact absurd (show false = true from h) Bool.false_ne_true | (cases x <;> exact absurd (show false = true from h) Bool.false_ne_true)
  | lidx a e => first | exact absurd (show false = true from h) Bool.false_ne_true | (cases x <;> exact absurd (show false = true from h) Bool.false_ne_true)
  | dict1 k e => first | exact absurd (show false = true from h) Bool.false_ne_true | (cases x <;> exact absurd (show false = true from h) Bool.false_ne_true)
  | dict2 k e k2 e2 => first | exact absurd (show false = true from h) Bool.false_ne_true | (cases x <;> exact absurd (show false = true from h) Bool.false_ne_true)
  | srtl a => first | exact absurd (show false = true from h) Bool.false_ne_true | (cases x <;> exact absurd (show false = true from h) Bool.false_ne_true)
  | heard t hd h0 f es => first | exact absurd (show false = true from h) Bool.false_ne_true | (cases x <;> exact absurd (show false = true from h) Bool.false_ne_true)
  | new e =>
    have h : (m.notT && e.ok .s c x && e.fr) = true := h
    simp only [Bool.and_eq_true] at h
    simp only [Ex.new.sizeOf_spec] at hs
    exact snd_val (pe_new (ih.fr e .s c x X (by omega) h.1.2 h.2 xc)) m h.1.1

  | mke k n es =>
    cases x <;> try (exact absurd (show false = true from h) Bool.false_ne_true)
    rename_i g xs kw pos
    cases g <;> try (exact absurd (show false = true from h) Bool.false_ne_true)
    rename_i nm p
    rcases kw with _ | ⟨_, _⟩
    · rcases xs with _ | ⟨x, xs⟩
      · exact absurd (show false = true from h) Bool.false_ne_true
      · replace h : (m.notT && (match c.en[k]? with | some e => decide (e.1 = nm) && decide (e.2.length = n) && (decide (n = 1) || decide (n = 2)) | none => false) && glB c.sc nm && nameB nm && es.ok .s c (x :: xs) && es.plain) = true := h
        simp only [Bool.and_eq_true] at h
        obtain ⟨⟨⟨⟨⟨h0, h1⟩, h2⟩, h3⟩, h4⟩, h5⟩ := h
        simp only [Ex.mke.sizeOf_spec] at hs
        split at h1
        · rename_i e he
          simp only [Bool.and_eq_true, Bool.or_eq_true, decide_eq_true_eq] at h1
          obtain ⟨⟨e1, e2⟩, e3⟩ := h1
          obtain ⟨C, q1, q2, q3, q4, q5, q6⟩ := xc.erc k e he (by rw [e2]; exact e3)
          have pl := es_plain h4 h5
          simp only [List.all_cons, Bool.and_eq_true] at pl
          exact snd_val (pe_mkeD (gl_of xc h2) (by rw [← e1]; exact q2) q3 q1 e2 (q6 X (SameC.refl X) xc.rm) (ih.es es .s c (x :: xs) X (by omega) h4 xc) (nameB_inv h3).1 (star_ne pl.1) (plain_any pl.2)) m h0
        · cases h1
    · rcases xs with _ | ⟨x, xs⟩ <;> exact absurd (show false = true from h) Bool.false_ne_true
  | efld n ks j e =>
    cases x <;> try (exact absurd (show false = true from h) Bool.false_ne_true)
    rename_i x g pos
    cases x <;> try (exact absurd (show false = true from h) Bool.false_ne_true)
    rename_i y p
    replace h : (m.notT && decide (g = n) && efldB c n ks j && e.ok .w c (.Name y p)) = true := h
    simp only [Bool.and_eq_true, decide_eq_true_eq] at h
    obtain ⟨⟨⟨h0, rfl⟩, h2⟩, h3⟩ := h
    simp only [Ex.efld.sizeOf_spec] at hs
    refine snd_val (pe_efldD (ih.ex e .w c (.Name y p) X (by omega) h3 xc) rfl fun k hk => ?_) m h0
    have h4 := List.all_eq_true.mp h2 k (by simpa using hk)
    split at h4
    · rename_i z hz
      simp only [Bool.and_eq_true, Bool.or_eq_true, decide_eq_true_eq] at h4
      obtain ⟨C, q1, q2, q3, q4, q5, q6⟩ := xc.erc k z hz h4.2
      exact ⟨C, z.2, q1, q5, h4.1, q4⟩
    · cases h4
  | isx n ks e =>
    cases x <;> try (exact absurd (show false = true from h) Bool.false_ne_true)
    rename_i g xs kw pos
    cases g <;> try (exact absurd (show false = true from h) Bool.false_ne_true)
    rename_i nm p
    rcases xs with _ | ⟨x, _ | ⟨y, _ | ⟨_, _⟩⟩⟩ <;> rcases kw with _ | ⟨_, _⟩ <;> try (first | exact absurd (show false = true from h) Bool.false_ne_true | (cases y <;> exact absurd (show false = true from h) Bool.false_ne_true))
    cases y <;> try (exact absurd (show false = true from h) Bool.false_ne_true)
    rename_i y p2
    replace h : (m.notT && decide (nm = "isinstance") && bnB c nm && decide (y = n) && glB c.sc n && nameB n && (c.is.any fun p => decide (p.1 = n) && decide (p.2.2 = ks)) && e.ok .w c x && notStarB x) = true := h
    simp only [Bool.and_eq_true, decide_eq_true_eq] at h
    obtain ⟨⟨⟨⟨⟨⟨⟨⟨h0, rfl⟩, h1⟩, rfl⟩, h2⟩, h3⟩, h4⟩, h5⟩, h6⟩ := h
    simp only [Ex.isx.sizeOf_spec] at hs
    obtain ⟨b1, b2⟩ := bn_of xc h1
    obtain ⟨q, hq, h7⟩ := List.any_eq_true.mp h4
    simp only [Bool.and_eq_true, decide_eq_true_eq] at h7
    obtain ⟨e1, e2⟩ := h7
    obtain ⟨u, hu, hk⟩ := xc.isx q hq
    rw [e2] at hk
    split at hu
    · obtain ⟨C2, rfl, hm⟩ := hu
      rw [e1] at hm
      exact snd_val (pe_isxD b1 b2 (ih.ex e .w c x X (by omega) h5 xc) (pe_glob (gl_of xc h2) hm (v := .ref C2) rfl (nameB_inv h3).1) (star_ne h6) rfl rfl fun k C fs he => ⟨(hk k C fs he).1, (hk k C fs he).2.1, fun u r => by
        obtain rfl : u = Value.ref C2 := r
        exact (hk k C fs he).2.2⟩) m h0
    · rename_i T _
      obtain ⟨rfl, hm, hb, hn⟩ := hu
      rw [e1] at hm hb hn
      exact snd_val (pe_isxD b1 b2 (ih.ex e .w c x X (by omega) h5 xc) (pe_bltn (gl_of xc h2) hm hb (v := .ty T) rfl hn (nameB_inv h3).1) (star_ne h6) rfl rfl fun k C fs he => ⟨(hk k C fs he).1, (hk k C fs he).2.1, fun u r => by
        cases r
        exact (hk k C fs he).2.2⟩) m h0
  | fld cl k e => first | exact absurd (show false = true from h) Bool.false_ne_true | (cases x <;> exact absurd (show false = true from h) Bool.false_ne_true)
  | meth cl f o es => first | exact absurd (show false = true from h) Bool.false_ne_true | (cases x <;> exact absurd (show false = true from h) Bool.false_ne_true)
  | mkob cl f es => first | exact absurd (show false = true from h) Bool.false_ne_true | (cases x <;> exact absurd (show false = true from h) Bool.false_ne_true)
/-- all terms -/
theorem snd_all : ∀ n : Nat, IHs G P n
  | 0 => ⟨fun _ _ _ _ _ h => absurd h (Nat.not_lt_zero _), fun _ _ _ _ _ h => absurd h (Nat.not_lt_zero _), fun _ _ _ _ h => absurd h (Nat.not_lt_zero _), fun _ _ _ _ h => absurd h (Nat.not_lt_zero _), fun _ _ _ _ h => absurd h (Nat.not_lt_zero _),
    fun _ _ _ _ _ _ h => absurd h (Nat.not_lt_zero _), fun _ _ _ _ _ h => absurd h (Nat.not_lt_zero _), fun _ _ _ _ _ h => absurd h (Nat.not_lt_zero _)⟩
  | n + 1 =>
    have ih := snd_all n
    ⟨st_ex ih, st_es ih, st_ew ih, st_on ih, fun es c xs X hs h xc => st_et ih es c xs X hs h xc, st_it ih, st_pv ih, st_fr ih⟩
theorem ex_s {e : Ex} {c : Cc} {x : Expr} {X : Cx} (h : e.ok .s c x = true) (xc : XC G c P X) : PES G X P x e := (snd_all (sizeOf e + 1)).ex e .s c x X (Nat.lt_succ_self _) h xc
theorem ex_w {e : Ex} {c : Cc} {x : Expr} {X : Cx} (h : e.ok .w c x = true) (xc : XC G c P X) : PEW G X P x e := (snd_all (sizeOf e + 1)).ex e .w c x X (Nat.lt_succ_self _) h xc
theorem ex_t {e : Ex} {c : Cc} {x : Expr} {X : Cx} (h : e.ok .t c x = true) (xc : XC G c P X) : PT X x (tT G (e.test P)) := ((snd_all (sizeOf e + 1)).ex e .t c x X (Nat.lt_succ_self _) h xc).1
theorem ex_f {e : Ex} {c : Cc} {x : Expr} {X : Cx} (h : e.ok .s c x = true) (hf : e.fr = true) (xc : XC G c P X) : PEF G X P x e := (snd_all (sizeOf e + 1)).fr e .s c x X (Nat.lt_succ_self _) h hf xc
theorem it_s {it : It} {c : Cc} {t x : Expr} {X : Cx} (h : it.ok true c t x = true) (xc : XC G c P X) : PI X t x (tI G true (it.ev P)) := (snd_all (sizeOf it + 1)).it it true c t x X (Nat.lt_succ_self _) h xc
end
end Dp
set_option Elab.async false
set_option linter.all false
set_option maxRecDepth 100000
set_option maxHeartbeats 8000000
namespace Dp
open PySem PySem.Spec PyProof.Rows L2 PySem.W PySem.SeqAt
/-- a step of the heap: only M may change -/
structure StS (M ρ : List Addr) (H : Hp) (M' ρ' : List Addr) (H' : Hp) : Prop where
  pres : ∀ a o, H a = some o → a ∉ M → H' a = some o
  out : ∀ a o, H a = some o → a ∉ M → a ∉ M'
  refs : ∀ (n : Nat) a, ρ[n]? = some a → ρ'[n]? = some a
theorem StS.refl (M ρ : List Addr) (H : Hp) : StS M ρ H M ρ H := ⟨fun _ _ h _ => h, fun _ _ _ h => h, fun _ _ h => h⟩
theorem StS.trans {M M1 M2 ρ ρ1 ρ2 : List Addr} {H H1 H2 : Hp} (a : StS M ρ H M1 ρ1 H1) (b : StS M1 ρ1 H1 M2 ρ2 H2) : StS M ρ H M2 ρ2 H2 :=
  ⟨fun x o h n => b.pres x o (a.pres x o h n) (a.out x o h n), fun x o h n => b.out x o (a.pres x o h n) (a.out x o h n), fun n x h => b.refs n x (a.refs n x h)⟩
theorem Stp.sts {B ρ ρ' : List Addr} {H H' : Hp} (s : Stp ρ H ρ' H') : StS (ρ ++ B) ρ H (ρ' ++ B) ρ' H' :=
  ⟨fun a o e n => s.pres a o e fun q => n (List.mem_append_left _ q), stp_out s, s.refs⟩
/-- where a def's body stands: the entry's heap, what the body's names own -/
structure En where
  B : List Addr
  ρ : List Addr
  H : Hp
structure Sit (G : Gx) (e : En) (O : List Addr) (env : Env) (st : Store) (ρ : List Addr) (σ : L2.St) (H : Hp) : Prop where
  rs : RS (G := G) (O ++ e.B) st ρ H
  re : RE (G := G) (O ++ e.B) env ρ σ H
  sp : Stp e.ρ e.H ρ H
  new : ∀ a ∈ O, e.H a = none
  off : ∀ a ∈ O, a ∉ e.B
  own : ∀ (i : Nat) d, env[i]? = some (some (true, d)) → ∃ a, σ[i]? = some (some (.ref a)) ∧ a ∈ O
  one : ∀ (i j : Nat) d d' a, env[i]? = some (some (true, d)) → env[j]? = some (some (true, d')) → σ[i]? = some (some (.ref a)) → σ[j]? = some (some (.ref a)) → i = j
section
variable {G : Gx} {X : Cx} {P : Par} {e : En}
theorem Sit.stp {O : List Addr} {env : Env} {st st' : Store} {ρ ρ' : List Addr} {σ : L2.St} {H H' : Hp} (s : Sit G e O env st ρ σ H) (sp : Stp ρ H ρ' H') (rs : RS (G := G) (O ++ e.B) st' ρ' H') : Sit G e O env st' ρ' σ H' :=
  ⟨rs, s.re.stp s.rs.mt s.rs.off sp, s.sp.trans sp, s.new, s.off, s.own, s.one⟩
/-- what a statement's end must give -/
def EndsOk (G : Gx) (e : En) (O : List Addr) (ρ : List Addr) (H : Hp) (D : Ends) (fl : Flow) (env' : Env) (st' : Store) : Prop :=
  ∀ O' ρ' σ' H', Sit G e O' env' st' ρ' σ' H' → StS (ρ ++ (O ++ e.B)) ρ H (ρ' ++ (O' ++ e.B)) ρ' H' → match fl with
    | .next => D.nx σ' H'
    | .brk => D.bk σ' H'
    | .cont => D.ct σ' H'
    | .ret d => ∀ v, DV G (ρ' ++ (O' ++ e.B)) ρ' H' d v → D.rt v H'
def tS (G : Gx) (f : Env → Store → Res (Flow × Env)) : TS := fun D σ H => ∃ e O env st ρ fl env' st', Sit G e O env st ρ σ H ∧ f env st = .ok (fl, env') st' ∧ EndsOk G e O ρ H D fl env' st'
theorem PS_imp {x : Stmt} {t t' : TS} (h : PS X x t) (k : ∀ D σ H, t' D σ H → t D σ H) : PS X x t' := ⟨fun pins s σ H D I q => h.run pins s σ H D I (k _ _ _ q)⟩
theorem PSs_imp {x : List Stmt} {t t' : TS} (h : PSs X x t) (k : ∀ D σ H, t' D σ H → t D σ H) : PSs X x t' := ⟨fun pins s σ H D I q => h.run pins s σ H D I (k _ _ _ q)⟩
theorem tF_of {f : Env → Store → Res D} {σ : L2.St} {H : Hp} {Q : VK} (hc : ∀ env st d st', f env st = .ok d st' → d.isCell = true) (h : tE G (relS G) f σ H Q) : tF G f σ H Q := by
  obtain ⟨B, env, st, ρ, d, st', rs, re, ev, k⟩ := h
  exact ⟨B, env, st, ρ, d, st', rs, re, ev, hc _ _ _ _ ev, fun a ρ' Hm o sp rs' hn c => k (.ref a) ρ' _ (sp.trans (Stp.laid hn)) (rs'.same (same_laid hn c.nt)) (c.dv rs' hn)⟩
theorem pss_nilD : PSs X [] (tS G (Ss.nil.ex P)) := PSs_imp pss_nil fun D σ H ⟨e, O, env, st, ρ, fl, env', st', si, ev, k⟩ => by
  unfold Ss.ex at ev
  cases ev
  exact k O ρ σ H si (StS.refl _ _ _)
theorem pss_consD {x : Stmt} {xs : List Stmt} {s : St} {r : Ss} (h1 : PS X x (tS G (s.ex P))) (h2 : PSs X xs (tS G (r.ex P))) : PSs X (x :: xs) (tS G ((Ss.cons s r).ex P)) := PSs_imp (pss_cons h1 h2) fun D σ H ⟨e, O, env, st, ρ, fl, env', st', si, ev, k⟩ => by
  unfold Ss.ex at ev
  obtain ⟨⟨fl1, env1⟩, st1, e1, e2⟩ := Res.bind_eq ev
  refine ⟨e, O, env, st, ρ, fl1, env1, st1, si, mayX_ok e1, fun O1 ρ1 σ1 H1 si1 sp1 => ?_⟩
  cases fl1 with
  | next => exact ⟨e, O1, env1, st1, ρ1, fl, env', st', si1, e2, fun O2 ρ2 σ2 H2 si2 sp2 => k O2 ρ2 σ2 H2 si2 (sp1.trans sp2)⟩
  | brk => cases e2; exact k O1 ρ1 σ1 H1 si1 sp1
  | cont => cases e2; exact k O1 ρ1 σ1 H1 si1 sp1
  | ret d => cases e2; exact k O1 ρ1 σ1 H1 si1 sp1
theorem ps_retD {x : Expr} {a : Ex} {pos : Pos} (h : PES G X P x a) : PS X (.Return (some x) pos) (tS G ((St.ret a).ex P)) := PS_imp (ps_ret h) fun D σ H ⟨e, O, env, st, ρ, fl, env', st', si, ev, k⟩ => by
  unfold St.ex at ev
  obtain ⟨d, st1, e1, e2⟩ := Res.bind_eq ev
  cases e2
  exact ⟨_, env, st, ρ, d, st', si.rs, si.re, e1, fun v ρ1 H1 sp1 rs1 q1 => k O ρ1 σ H1 (si.stp sp1 rs1) sp1.sts v q1⟩
theorem ps_retND {pos : Pos} : PS X (.Return none pos) (tS G ((St.ret (.lit .non)).ex P)) := PS_imp ps_retN fun D σ H ⟨e, O, env, st, ρ, fl, env', st', si, ev, k⟩ => by
  unfold St.ex Ex.ev at ev
  cases ev
  exact k O ρ σ H si (StS.refl _ _ _) .non rfl
theorem ps_ifD {c : Expr} {a b : List Stmt} {t : Ex} {u v : Ss} {pos : Pos} (hc : PT X c (tT G (t.test P))) (ha : PSs X a (tS G (u.ex P))) (hb : PSs X b (tS G (v.ex P))) : PS X (.If c a b pos) (tS G ((St.ifs t u v).ex P)) := PS_imp (ps_if hc ha hb) fun D σ H ⟨e, O, env, st, ρ, fl, env', st', si, ev, k⟩ => by
  unfold St.ex at ev
  obtain ⟨w, st1, e1, e2⟩ := Res.bind_eq ev
  refine ⟨_, env, st, ρ, w, st1, si.rs, si.re, noExc_ok e1, fun ρ1 H1 sp1 rs1 => ?_⟩
  cases w with
  | true => exact ⟨e, O, env, st1, ρ1, fl, env', st', si.stp sp1 rs1, e2, fun O2 ρ2 σ2 H2 si2 sp2 => k O2 ρ2 σ2 H2 si2 (sp1.sts.trans sp2)⟩
  | false => exact ⟨e, O, env, st1, ρ1, fl, env', st', si.stp sp1 rs1, e2, fun O2 ρ2 σ2 H2 si2 sp2 => k O2 ρ2 σ2 H2 si2 (sp1.sts.trans sp2)⟩
/-- a target that owns nothing -/
theorem sit_put {O : List Addr} {ρ : List Addr} {H : Hp} {st : Store} : ∀ (t : Tg) (d : D) (v : V) (env env' : Env) (σ : L2.St) (Q : L2.St → Hp → Prop), t.put d env = some env' → Sit G e O env st ρ σ H → DV G (ρ ++ (O ++ e.B)) ρ H d v →
    (∀ σ', Sit G e O env' st ρ σ' H → Q σ' H) → gT G.K t v σ H Q := by
  have set : ∀ {env : Env} {σ : L2.St} {i : Nat} {d : D} {v : V}, Sit G e O env st ρ σ H → DV G (ρ ++ (O ++ e.B)) ρ H d v → Sit G e O (env.set i (some (false, d))) st ρ (σ.set i (some v)) H := by
    intro env σ i d v s hd
    have low : ∀ (j : Nat) (x : D), (env.set i (some (false, d)))[j]? = some (some (true, x)) → i ≠ j ∧ env[j]? = some (some (true, x)) := by
      intro j x hj
      rw [List.getElem?_set] at hj
      by_cases hij : i = j
      · rw [if_pos hij] at hj
        split at hj <;> cases hj
      · rw [if_neg hij] at hj
        exact ⟨hij, hj⟩
    refine ⟨s.rs, re_set s.re hd, s.sp, s.new, s.off, fun j x hj => ?_, fun j k x y a hj hk aj ak => ?_⟩
    · obtain ⟨n, hj⟩ := low j x hj
      obtain ⟨a, h1, h2⟩ := s.own j x hj
      exact ⟨a, by rw [List.getElem?_set_ne n]; exact h1, h2⟩
    · obtain ⟨n1, hj⟩ := low j x hj
      obtain ⟨n2, hk⟩ := low k y hk
      rw [List.getElem?_set_ne n1] at aj
      rw [List.getElem?_set_ne n2] at ak
      exact s.one j k x y a hj hk aj ak
  intro t
  induction t with
  | name i =>
    intro d v env env' σ Q h s hd k
    cases h
    exact k _ (set s hd)
  | pair a b iha ihb =>
    intro d v env env' σ Q h s hd k
    unfold Tg.put at h
    split at h
    · rename_i x y
      obtain ⟨env1, e1, e2⟩ := Option.bind_eq_some_iff.mp h
      obtain ⟨p, vs, rfl, h1, h2⟩ := hd
      obtain ⟨u, r, rfl, g1, g2⟩ := h2
      obtain ⟨w, r, rfl, g3, g4⟩ := g2
      have g4 : r = [] := g4
      subst g4
      refine ⟨p, [u, w], rfl, h1, rfl, u, [w], rfl, iha x u env env1 σ _ e1 s g1 fun σ1 s1 => ?_⟩
      exact ⟨w, [], rfl, ihb y w env1 env' σ1 _ e2 s1 g3 fun σ2 s2 => ⟨rfl, k σ2 s2⟩⟩
    · cases h
  | trip a b c iha ihb ihc =>
    intro d v env env' σ Q h s hd k
    unfold Tg.put at h
    split at h
    · rename_i x y z
      obtain ⟨env1, e1, e'⟩ := Option.bind_eq_some_iff.mp h
      obtain ⟨env2, e2, e3⟩ := Option.bind_eq_some_iff.mp e'
      obtain ⟨p, vs, rfl, h1, h2⟩ := hd
      obtain ⟨u, r, rfl, g1, g2⟩ := h2
      obtain ⟨w, r, rfl, g3, g4⟩ := g2
      obtain ⟨w3, r, rfl, g5, g6⟩ := g4
      have g6 : r = [] := g6
      subst g6
      refine ⟨p, [u, w, w3], rfl, h1, rfl, u, [w, w3], rfl, iha x u env env1 σ _ e1 s g1 fun σ1 s1 => ?_⟩
      refine ⟨w, [w3], rfl, ihb y w env1 env2 σ1 _ e2 s1 g3 fun σ2 s2 => ?_⟩
      exact ⟨w3, [], rfl, ihc z w3 env2 env' σ2 _ e3 s2 g5 fun σ3 s3 => ⟨rfl, k σ3 s3⟩⟩
    · cases h
  | quad a b c f iha ihb ihc ihf =>
    intro d v env env' σ Q h s hd k
    unfold Tg.put at h
    split at h
    · rename_i x y z t
      obtain ⟨env1, e1, e'⟩ := Option.bind_eq_some_iff.mp h
      obtain ⟨env2, e2, e''⟩ := Option.bind_eq_some_iff.mp e'
      obtain ⟨env3, e3, e4⟩ := Option.bind_eq_some_iff.mp e''
      obtain ⟨p, vs, rfl, h1, h2⟩ := hd
      obtain ⟨u, r, rfl, g1, g2⟩ := h2
      obtain ⟨w, r, rfl, g3, g4⟩ := g2
      obtain ⟨w3, r, rfl, g5, g6⟩ := g4
      obtain ⟨w4, r, rfl, g7, g8⟩ := g6
      have g8 : r = [] := g8
      subst g8
      refine ⟨p, [u, w, w3, w4], rfl, h1, rfl, u, [w, w3, w4], rfl, iha x u env env1 σ _ e1 s g1 fun σ1 s1 => ?_⟩
      refine ⟨w, [w3, w4], rfl, ihb y w env1 env2 σ1 _ e2 s1 g3 fun σ2 s2 => ?_⟩
      refine ⟨w3, [w4], rfl, ihc z w3 env2 env3 σ2 _ e3 s2 g5 fun σ3 s3 => ?_⟩
      exact ⟨w4, [], rfl, ihf t w4 env3 env' σ3 _ e4 s3 g7 fun σ4 s4 => ⟨rfl, k σ4 s4⟩⟩
    · cases h
/-- an assignment, from the statement's own road -/
theorem asg_tr {t : Tg} {a : Ex} {D : Ends} {σ : L2.St} {H : Hp} (h : tS G ((St.asg t a).ex P) D σ H) : tAsg (tE G (relS G) (a.ev P)) (gT G.K t) D σ H := by
  obtain ⟨e, O, env, st, ρ, fl, env', st', si, ev, k⟩ := h
  unfold St.ex at ev
  obtain ⟨d, st1, e1, e2⟩ := Res.bind_eq ev
  cases hp : t.put d env with
  | none => rw [hp] at e2; cases e2
  | some env1 =>
    rw [hp] at e2
    cases e2
    exact ⟨_, env, st, ρ, d, st', si.rs, si.re, e1, fun v ρ1 H1 sp1 rs1 q1 => sit_put t d v env env' σ _ hp (si.stp sp1 rs1) q1 fun σ' s' => k O ρ1 σ' H1 s' sp1.sts⟩
/-- one name comes to own a new thing -/
theorem Sit.take {O : List Addr} {env : Env} {st : Store} {ρ : List Addr} {σ : L2.St} {H : Hp} {i : Nat} {d : D} {a : Addr} {o : HO} (s : Sit G e O env st ρ σ H) (hn : H a = none) (c : Cont G (ρ ++ (O ++ e.B)) ρ H a d o) :
    Sit G e (a :: O) (env.set i (some (true, d))) st ρ (σ.set i (some (.ref a))) (upd H a o) ∧ StS (ρ ++ (O ++ e.B)) ρ H (ρ ++ (a :: O ++ e.B)) ρ (upd H a o) := by
  have hf := fresh_notin s.rs hn
  have rs1 := s.rs.block hn c.mt c.nt
  have re1 := s.re.block (o := o) s.rs.mt hn
  have haO : a ∉ O := fun z => hf (List.mem_append_right _ (List.mem_append_left _ z))
  have haB : a ∉ e.B := fun z => hf (List.mem_append_right _ (List.mem_append_right _ z))
  have hp : ∀ b v, H b = some v → upd H a o b = some v := fun b v q => by rw [upd_ne (ne_of_none q hn)]; exact q
  have hm : ∀ b v, H b = some v → b ∉ ρ ++ (O ++ e.B) → b ∉ ρ ++ (a :: (O ++ e.B)) := fun b v q n z => (of_cons z).elim (fun w => ne_of_none q hn w) n
  have he : e.H a = none := by
    cases q : e.H a with
    | none => rfl
    | some u =>
      exfalso
      by_cases hρ : a ∈ e.ρ
      · obtain ⟨n, hn'⟩ := List.getElem?_of_mem hρ
        exact hf (List.mem_append_left _ (List.mem_of_getElem? (s.sp.refs n a hn')))
      · exact ne_of_none (s.sp.pres a u q hρ) hn rfl
  have dw : DW G (ρ ++ (a :: (O ++ e.B))) ρ (upd H a o) d a := c.dw s.rs.mt (fun b v q _ => hp b v q) hm (fun _ _ h => h) upd_same
  have look : ∀ (j : Nat) (b : Bool) (x : D), (env.set i (some (true, d)))[j]? = some (some (b, x)) → (i = j ∧ b = true ∧ x = d ∧ (σ.set i (some (V.ref a)))[j]? = some (some (.ref a))) ∨ (i ≠ j ∧ env[j]? = some (some (b, x)) ∧ (σ.set i (some (V.ref a)))[j]? = σ[j]?) := by
    intro j b x hj
    rw [List.getElem?_set] at hj
    by_cases hij : i = j
    · subst hij
      rw [if_pos rfl] at hj
      split at hj
      · rename_i hl
        cases hj
        exact .inl ⟨rfl, rfl, rfl, by rw [List.getElem?_set_self (by rw [s.re.len]; exact hl)]⟩
      · cases hj
    · rw [if_neg hij] at hj
      exact .inr ⟨hij, hj, List.getElem?_set_ne hij⟩
  refine ⟨⟨rs1, ⟨by rw [List.length_set, List.length_set]; exact s.re.len, fun j x hj => ?_, fun j x hj => ?_⟩, ?_, fun b hb => ?_, fun b hb => ?_, fun j x hj => ?_, fun j k x y b hj hk aj ak => ?_⟩, fun b v q n => hp b v q, hm, fun _ _ h => h⟩
  · rcases look j _ x hj with ⟨_, z, _⟩ | ⟨_, hj, hs⟩
    · cases z
    · obtain ⟨v, h1, h2⟩ := re1.fre j x hj
      exact ⟨v, by rw [hs]; exact h1, h2⟩
  · rcases look j _ x hj with ⟨rfl, _, rfl, hs⟩ | ⟨_, hj, hs⟩
    · exact ⟨a, hs, List.mem_cons_self, dw⟩
    · obtain ⟨b, h1, h2, h3⟩ := re1.own j x hj
      exact ⟨b, by rw [hs]; exact h1, h2, h3⟩
  · exact s.sp.trans (Stp.laid hn)
  · rcases List.mem_cons.mp hb with rfl | hb
    · exact he
    · exact s.new b hb
  · rcases List.mem_cons.mp hb with rfl | hb
    · exact haB
    · exact s.off b hb
  · rcases look j _ x hj with ⟨rfl, _, rfl, hs⟩ | ⟨_, hj, hs⟩
    · exact ⟨a, hs, List.mem_cons_self⟩
    · obtain ⟨b, h1, h2⟩ := s.own j x hj
      exact ⟨b, by rw [hs]; exact h1, List.mem_cons_of_mem _ h2⟩
  · rcases look j _ x hj with ⟨ej, _, _, hs⟩ | ⟨nj, hj2, hs⟩
    · rcases look k _ y hk with ⟨ek, _, _, hs2⟩ | ⟨nk, hk2, hs2⟩
      · exact ej.symm.trans ek
      · rw [hs] at aj
        cases aj
        rw [hs2] at ak
        obtain ⟨b2, h1, h2⟩ := s.own k y hk2
        rw [ak] at h1
        cases h1
        exact (haO h2).elim
    · rcases look k _ y hk with ⟨ek, _, _, hs2⟩ | ⟨nk, hk2, hs2⟩
      · rw [hs2] at ak
        cases ak
        rw [hs] at aj
        obtain ⟨b2, h1, h2⟩ := s.own j x hj2
        rw [aj] at h1
        cases h1
        exact (haO h2).elim
      · rw [hs] at aj
        rw [hs2] at ak
        exact s.one j k x y b hj2 hk2 aj ak
end
end Dp
set_option Elab.async false
set_option linter.all false
set_option maxRecDepth 100000
set_option maxHeartbeats 8000000
namespace Dp
open PySem PySem.Spec PyProof.Rows L2 PySem.W PySem.SeqAt
section
variable {G : Gx} {X : Cx} {P : Par} {e : En}
/-- an owned thing changes -/
theorem Sit.chg {O : List Addr} {env : Env} {st : Store} {ρ : List Addr} {σ : L2.St} {H : Hp} {i : Nat} {d d' : D} {a : Addr} {o : HO} (s : Sit G e O env st ρ σ H) (hi : env[i]? = some (some (true, d))) (hσ : σ[i]? = some (some (.ref a))) (mo : Mt o) (dw : DW G (ρ ++ (O ++ e.B)) ρ (upd H a o) d' a) :
    Sit G e O (env.set i (some (true, d'))) st ρ σ (upd H a o) ∧ StS (ρ ++ (O ++ e.B)) ρ H (ρ ++ (O ++ e.B)) ρ (upd H a o) := by
  obtain ⟨a', q1, haO⟩ := s.own i d hi
  rw [hσ] at q1
  cases q1
  have haB : a ∈ O ++ e.B := List.mem_append_left _ haO
  have hM : a ∈ ρ ++ (O ++ e.B) := List.mem_append_right _ haB
  have hp : ∀ b v, H b = some v → b ∉ ρ ++ (O ++ e.B) → upd H a o b = some v := fun b v q n => by rw [upd_ne (fun z => n (by rw [z]; exact hM))]; exact q
  have hil : i < env.length := (List.getElem?_eq_some_iff.mp hi).1
  have look : ∀ (j : Nat) (b : Bool) (x : D), (env.set i (some (true, d')))[j]? = some (some (b, x)) → (i = j ∧ b = true ∧ x = d') ∨ (i ≠ j ∧ env[j]? = some (some (b, x))) := by
    intro j b x hj
    rw [List.getElem?_set] at hj
    by_cases hij : i = j
    · rw [if_pos hij, if_pos hil] at hj
      cases hj
      exact .inl ⟨hij, rfl, rfl⟩
    · rw [if_neg hij] at hj
      exact .inr ⟨hij, hj⟩
  have look2 : ∀ (j : Nat) (x : D), (env.set i (some (true, d')))[j]? = some (some (true, x)) → ∃ y, env[j]? = some (some (true, y)) := by
    intro j x hj
    rcases look j _ x hj with ⟨q, _, _⟩ | ⟨_, hj2⟩
    · exact ⟨d, q ▸ hi⟩
    · exact ⟨x, hj2⟩
  refine ⟨⟨s.rs.chg haB mo dw.nt, ⟨by rw [List.length_set]; exact s.re.len, fun j x hj => ?_, fun j x hj => ?_⟩, ?_, s.new, s.off, fun j x hj => ?_, fun j k x y b hj hk aj ak => ?_⟩, fun b v q n => hp b v q n, fun _ _ _ n => n, fun _ _ h => h⟩
  · rcases look j _ x hj with ⟨_, z, _⟩ | ⟨_, hj2⟩
    · cases z
    · obtain ⟨v, h1, h2⟩ := s.re.fre j x hj2
      exact ⟨v, h1, DV.keep s.rs.mt hp (fun _ _ _ n => n) (fun _ _ h => h) _ _ h2⟩
  · rcases look j _ x hj with ⟨ej, _, ex⟩ | ⟨nj, hj2⟩
    · subst ej ex
      exact ⟨a, hσ, haB, dw⟩
    · obtain ⟨b, h1, h2, h3⟩ := s.re.own j x hj2
      have hne : b ≠ a := fun z => nj (s.one i j d x a hi hj2 hσ (z ▸ h1))
      exact ⟨b, h1, h2, DW.keep s.rs.mt hp (fun _ _ _ n => n) (fun _ _ h => h) (fun u q => by rw [upd_ne hne]; exact q) h3⟩
  · refine ⟨fun b v q n => ?_, s.sp.out, s.sp.refs⟩
    rw [upd_ne (fun z => by rw [z, s.new a haO] at q; cases q)]
    exact s.sp.pres b v q n
  · obtain ⟨y, hy⟩ := look2 j x hj
    exact s.own j y hy
  · obtain ⟨u, hu⟩ := look2 j x hj
    obtain ⟨w, hw⟩ := look2 k y hk
    exact s.one j k u w b hu hw aj ak
/-- an owned thing is owned no more -/
theorem Sit.frz {O : List Addr} {env : Env} {st : Store} {ρ : List Addr} {σ : L2.St} {H : Hp} {i : Nat} {b : Bool} {d : D} (s : Sit G e O env st ρ σ H) (hi : env[i]? = some (some (b, d))) :
    ∃ O', Sit G e O' (env.set i (some (false, d))) st ρ σ H ∧ StS (ρ ++ (O ++ e.B)) ρ H (ρ ++ (O' ++ e.B)) ρ H := by
  have hil : i < env.length := (List.getElem?_eq_some_iff.mp hi).1
  cases b with
  | false =>
    refine ⟨O, ?_, StS.refl _ _ _⟩
    have : env.set i (some (false, d)) = env := by
      apply List.ext_getElem?
      intro j
      rw [List.getElem?_set]
      by_cases h : i = j
      · subst h; rw [if_pos rfl, if_pos hil]; exact hi.symm
      · rw [if_neg h]
    rw [this]
    exact s
  | true =>
    obtain ⟨a, hσ, haO⟩ := s.own i d hi
    obtain ⟨a2, q1, _, hdw⟩ := s.re.own i d hi
    rw [hσ] at q1
    cases q1
    have sub : ∀ x ∈ O.filter (fun z => decide (z ≠ a)), x ∈ O := fun x hx => (List.mem_filter.mp hx).1
    have nota : a ∉ O.filter (fun z => decide (z ≠ a)) := fun hx => by simpa using (List.mem_filter.mp hx).2
    have stay : ∀ x ∈ O, x ≠ a → x ∈ O.filter (fun z => decide (z ≠ a)) := fun x hx n => List.mem_filter.mpr ⟨hx, by simpa using n⟩
    generalize O.filter (fun z => decide (z ≠ a)) = O' at sub nota stay
    have subM : ∀ x, x ∈ ρ ++ (O' ++ e.B) → x ∈ ρ ++ (O ++ e.B) := fun x hx => by
      rcases List.mem_append.mp hx with z | z
      · exact List.mem_append_left _ z
      · rcases List.mem_append.mp z with z | z
        · exact List.mem_append_right _ (List.mem_append_left _ (sub x z))
        · exact List.mem_append_right _ (List.mem_append_right _ z)
    have hm : ∀ x o, H x = some o → x ∉ ρ ++ (O ++ e.B) → x ∉ ρ ++ (O' ++ e.B) := fun x o _ n z => n (subM x z)
    have haB : a ∈ O ++ e.B := List.mem_append_left _ haO
    have haM : a ∉ ρ ++ (O' ++ e.B) := fun z => by
      rcases List.mem_append.mp z with z | z
      · exact s.rs.off a haB z
      · rcases List.mem_append.mp z with z | z
        · exact nota z
        · exact s.off a haO z
    have hdv : DV G (ρ ++ (O' ++ e.B)) ρ H d (.ref a) := by
      have dw' : DW G (ρ ++ (O' ++ e.B)) ρ H d a := DW.keep s.rs.mt (fun _ _ q _ => q) hm (fun _ _ h => h) (fun _ q => q) hdw
      cases d <;> first | exact dw'.elim | skip
      · obtain ⟨vs, h1, h2⟩ := dw'
        exact ⟨a, vs, rfl, .inl h1, haM, h2⟩
      · exact ⟨a, rfl, haM, dw'⟩
    have look : ∀ (j : Nat) (b : Bool) (x : D), (env.set i (some (false, d)))[j]? = some (some (b, x)) → (i = j ∧ b = false ∧ x = d) ∨ (i ≠ j ∧ env[j]? = some (some (b, x))) := by
      intro j b x hj
      rw [List.getElem?_set] at hj
      by_cases hij : i = j
      · rw [if_pos hij, if_pos hil] at hj
        cases hj
        exact .inl ⟨hij, rfl, rfl⟩
      · rw [if_neg hij] at hj
        exact .inr ⟨hij, hj⟩
    have look2 : ∀ (j : Nat) (x : D), (env.set i (some (false, d)))[j]? = some (some (true, x)) → i ≠ j ∧ env[j]? = some (some (true, x)) := by
      intro j x hj
      rcases look j _ x hj with ⟨_, z, _⟩ | q
      · cases z
      · exact q
    refine ⟨O', ⟨⟨fun x hx => s.rs.mt x (subM x hx), s.rs.len, s.rs.nd, fun x hx => ?_, s.rs.tb, fun n c x e1 e2 => DC.keep s.rs.mt (fun _ _ q _ => q) hm (fun _ _ h => h) (fun _ q => q) (s.rs.cel n c x e1 e2)⟩, ⟨by rw [List.length_set]; exact s.re.len, fun j x hj => ?_, fun j x hj => ?_⟩, s.sp, fun x hx => s.new x (sub x hx), fun x hx => s.off x (sub x hx), fun j x hj => ?_, fun j k x y b hj hk aj ak => ?_⟩, fun x v q n => q, hm, fun _ _ h => h⟩
    · rcases List.mem_append.mp hx with z | z
      · exact s.rs.off x (List.mem_append_left _ (sub x z))
      · exact s.rs.off x (List.mem_append_right _ z)
    · rcases look j _ x hj with ⟨ej, _, ex⟩ | ⟨_, hj2⟩
      · subst ej ex
        exact ⟨.ref a, hσ, hdv⟩
      · obtain ⟨v, h1, h2⟩ := s.re.fre j x hj2
        exact ⟨v, h1, DV.keep s.rs.mt (fun _ _ q _ => q) hm (fun _ _ h => h) _ _ h2⟩
    · obtain ⟨nj, hj2⟩ := look2 j x hj
      obtain ⟨b, h1, h2⟩ := s.own j x hj2
      obtain ⟨b2, g1, g2, g3⟩ := s.re.own j x hj2
      rw [h1] at g1
      cases g1
      have hne : b ≠ a := fun z => nj (s.one i j d x a hi hj2 hσ (z ▸ h1))
      exact ⟨b, h1, List.mem_append_left _ (stay b h2 hne), DW.keep s.rs.mt (fun _ _ q _ => q) hm (fun _ _ h => h) (fun _ q => q) g3⟩
    · obtain ⟨nj, hj2⟩ := look2 j x hj
      obtain ⟨b, h1, h2⟩ := s.own j x hj2
      have hne : b ≠ a := fun z => nj (s.one i j d x a hi hj2 hσ (z ▸ h1))
      exact ⟨b, h1, stay b h2 hne⟩
    · exact s.one j k x y b (look2 j x hj).2 (look2 k y hk).2 aj ak
/-- freezing is nothing in the code -/
theorem frz_skip {xs : List Stmt} {i : Nat} {r : Ss} (h : PSs X xs (tS G (r.ex P))) : PSs X xs (tS G ((Ss.cons (.frz i) r).ex P)) := PSs_imp h fun D σ H ⟨e, O, env, st, ρ, fl, env', st', si, ev, k⟩ => by
  unfold Ss.ex at ev
  obtain ⟨⟨fl1, env1⟩, st1, e1, e2⟩ := Res.bind_eq ev
  replace e1 := mayX_ok e1
  unfold St.ex at e1
  split at e1
  · rename_i b d hi
    cases e1
    obtain ⟨O', s', w'⟩ := si.frz hi
    exact ⟨e, O', _, st, ρ, fl, env', st', s', e2, fun O2 ρ2 σ2 H2 si2 sp2 => k O2 ρ2 σ2 H2 si2 (w'.trans sp2)⟩
  · cases e1
theorem dw_lst {M ρ : List Addr} {H : Hp} {ds : List D} {vs : List V} {p : Addr} (mk : Mk M H) (hp : p ∈ M) (h : DVs G M ρ H ds vs) : DW G M ρ (upd H p (.lst vs)) (.lst ds) p :=
  ⟨vs, upd_same, DVs.keep mk (fun b o e n => by rw [upd_ne (fun z => n (by rw [z]; exact hp))]; exact e) (fun _ _ _ n => n) (fun _ _ h => h) _ _ h⟩
theorem rs_put {B ρ : List Addr} {st : Store} {H : Hp} {n : Nat} {p : Addr} {c : D} {o : HO} (r : RS (G := G) B st ρ H) (hp : ρ[n]? = some p) (mo : Mt o) (dw : DW G (ρ ++ B) ρ (upd H p o) c p) :
    RS (G := G) B (st.set n c) ρ (upd H p o) ∧ Stp ρ H ρ (upd H p o) := by
  have hpm : p ∈ ρ := List.mem_of_getElem? hp
  have hk : ∀ b v, H b = some v → b ∉ ρ ++ B → upd H p o b = some v := fun b v q n => by rw [upd_ne (fun z => n (by rw [z]; exact List.mem_append_left _ hpm))]; exact q
  refine ⟨⟨fun a ha => ?_, by rw [List.length_set]; exact r.len, r.nd, r.off, tb_upd r.tb (.inl dw.nt), fun m d a e1 e2 => ?_⟩, fun a v q nn => by rw [upd_ne (fun z => nn (by rw [z]; exact hpm))]; exact q, fun _ _ _ n => n, fun _ _ h => h⟩
  · by_cases h : a = p
    · subst h; exact ⟨o, upd_same, mo⟩
    · obtain ⟨u, q, t⟩ := r.mt a ha
      exact ⟨u, by rw [upd_ne h]; exact q, t⟩
  · rw [List.getElem?_set] at e1
    by_cases hn : n = m
    · subst hn
      rw [if_pos rfl] at e1
      split at e1
      · cases e1
        rw [hp] at e2
        cases e2
        exact DC.of dw
      · cases e1
    · rw [if_neg hn] at e1
      have hne : a ≠ p := by
        intro z
        subst z
        obtain ⟨l1, q1⟩ := List.getElem?_eq_some_iff.mp hp
        obtain ⟨l2, q2⟩ := List.getElem?_eq_some_iff.mp e2
        exact hn ((List.getElem_inj r.nd).mp (q1.trans q2.symm))
      exact DC.keep r.mt hk (fun _ _ _ n => n) (fun _ _ h => h) (fun u q => by rw [upd_ne hne]; exact q) (r.cel m d a e1 e2)
def rSetT (G : Gx) : TSet := fun o i v H Q => ∃ B ρ st ks ws q x p, o = .ref p ∧ RS (G := G) B st ρ H ∧ p ∈ ρ ++ B ∧ DctAt G (ρ ++ B) ρ H ks ws p ∧ keysOk (q :: ks) = true ∧ DV G (ρ ++ B) ρ H q i ∧ DV G (ρ ++ B) ρ H x v ∧ ks.length < LIM ∧
  ∀ ob, Mt ob → DW G (ρ ++ B) ρ (upd H p ob) (.dct (dput ks ws q x).1 (dput ks ws q x).2) p → Q (upd H p ob)
def rSet2 (G : Gx) : TSet := fun o i v H Q => rSetL o i v H Q ∨ rSetT G o i v H Q
theorem set_two (xa : XA G X) : PSet X (rSet2 G) := by
  intro pins s σ H o i v ov iv u Q I ro ri rv h
  rcases h with h | h
  · exact set_list pins s σ H o i v ov iv u Q I ro ri rv h
  · obtain ⟨B, ρ, st, ks, ws, q, x, p, eo, rs, hp, hd, hk, hq, hx, hl, k⟩ := h
    subst eo
    cases (show ov = Value.ref p from ro)
    have := xa.un
    exact k_setItem xa (by omega) I rs.mt hp hd hk hq ri hx rv hl fun ob s' mo I' dw => ⟨_, I', k ob mo dw⟩
theorem put_set {B ρ : List Addr} {st st' : Store} {H : Hp} {d k x : D} {o i v : V} {Q : Hp → Prop} (r : RS (G := G) B st ρ H) (h : putCell st d k x = some st') (ho : DB G B ρ H d o) (hi : DB G B ρ H k i) (hv : DV G (ρ ++ B) ρ H x v)
    (q : ∀ H', Stp ρ H ρ H' → RS (G := G) B st' ρ H' → Q H') : rSet2 G o i v H Q := by
  unfold putCell at h
  split at h
  · rename_i n
    have ho : ∃ a, ρ[n]? = some a ∧ o = .ref a := by
      rcases ho with ho | ⟨_, _, _, ho⟩
      · exact ho
      · exact ho.elim
    obtain ⟨p, hp, rfl⟩ := ho
    have hpm : p ∈ ρ ++ B := List.mem_append_left _ (List.mem_of_getElem? hp)
    split at h
    · rename_i ds hc
      obtain ⟨vs, c1, c2⟩ := r.cel n _ p hc hp
      split at h
      · rename_i j
        obtain ⟨m, m1, rfl⟩ := Option.map_eq_some_iff.mp h
        have hi : i = .int j := by
          rcases hi with hi | ⟨_, _, _, hi⟩
          · exact hi
          · exact hi.elim
        subst hi
        obtain ⟨r2, s2⟩ := rs_put r hp (c := .lst (ds.set m x)) (o := .lst (vs.set m v)) True.intro (dw_lst r.mt hpm (DVs.set hv m c2))
        exact .inl ⟨p, vs, j, m, rfl, rfl, c1, by rw [c2.length]; exact m1, q _ s2 r2⟩
      · cases h
    · rename_i ks ws hc
      split at h
      · rename_i hk
        cases h
        rw [Bool.and_eq_true, decide_eq_true_eq] at hk
        obtain ⟨hk, hl⟩ := hk
        exact .inr ⟨B, ρ, st, ks, ws, k, x, p, rfl, r, hpm, r.cel n _ p hc hp, hk, key_db hk hi, hv, hl, fun ob mo dw => by
          obtain ⟨r2, s2⟩ := rs_put r hp mo dw
          exact q _ s2 r2⟩
      · cases h
    · cases h
  · cases h
theorem ps_putD {xo xi x : Expr} {a k v : Ex} {tp pos : Pos} (xa : XA G X) (ho : PEW G X P xo a) (hi : PEW G X P xi k) (hx : PES G X P x v) (hns : notSliceB xi = true) :
    PS X (.Assign [.Subscript xo xi tp] x pos) (tS G ((St.put a k v).ex P)) := by
  have hs : swapsWithSole [.Subscript xo xi tp] x pos.line X.env = pure false := by
    cases x <;> rfl
  have hw : swappedStores [.Subscript xo xi tp] x X.env = pure none := by
    cases x <;> rfl
  have hg : PG X (.Subscript xo xi tp) (gSub (tE G (relW G) (a.ev P)) (tE G (relW G) (k.ev P)) (rSet2 G)) := pg_sub ho hi (set_two xa) (by
    cases xi <;> first | (intro z; rfl) | exact absurd (show false = true from hns) Bool.false_ne_true)
  refine PS_imp (ps_asg hx hg hs hw) fun D σ H ⟨e, O, env, st, ρ, fl, env', st', si, ev, kk⟩ => ?_
  unfold St.ex at ev
  obtain ⟨d, st1, e1, ev⟩ := Res.bind_eq ev
  obtain ⟨od, st2, e2, ev⟩ := Res.bind_eq ev
  obtain ⟨kd, st3, e3, e4⟩ := Res.bind_eq ev
  cases hp : putCell st3 od kd d with
  | none => rw [hp] at e4; cases e4
  | some st4 =>
    rw [hp] at e4
    cases e4
    refine ⟨_, env, st, ρ, d, st1, si.rs, si.re, e1, fun u ρ1 H1 sp1 rs1 q1 => ?_⟩
    have s1 := si.stp sp1 rs1
    refine ⟨_, env, st1, ρ1, od, st2, s1.rs, s1.re, e2, fun o ρ2 H2 sp2 rs2 q2 => ?_⟩
    have s2 := s1.stp sp2 rs2
    refine ⟨_, env, st2, ρ2, kd, st3, s2.rs, s2.re, e3, fun i ρ3 H3 sp3 rs3 q3 => ?_⟩
    have s3 := s2.stp sp3 rs3
    have q1' : DV G (ρ3 ++ (O ++ e.B)) ρ3 H3 d u := DV.stp s2.rs.mt sp3 (DV.stp s1.rs.mt sp2 q1)
    have q2' : DB G (O ++ e.B) ρ3 H3 od o := DB.stp s2.rs.mt s2.rs.off sp3 q2
    exact put_set rs3 hp q2' q3 q1' fun H' sp4 rs4 => kk O ρ3 σ H' (s3.stp sp4 rs4) ((((sp1.trans sp2).trans sp3).trans sp4).sts)
theorem ps_forD {xi tg : Expr} {body : List Stmt} {t : Tg} {it : It} {b : Ss} {pos : Pos} (hp : PassesOwn (model X.prog X.w) X.A X.env X.xe) (hc : X.calm = true) (hi : PI X tg xi (tI G true (it.ev P))) (hg : PG X tg (gT G.K t)) (hb : PSs X body (tS G (b.ex P)))
    (hs : ∀ x, foldedSetIterable xi X.env x = pure x) : PS X (.For tg xi body [] pos) (tS G ((St.for t it b).ex P)) := by
  refine PS_imp (ps_for hp hc hi hg hb hs) fun D σ H ⟨e, O, env, st, ρ, fl, env', st', si, ev, k⟩ => ?_
  unfold St.ex at ev
  obtain ⟨xs, st1, e1, e2⟩ := Res.bind_eq ev
  refine ⟨_, env, st, ρ, xs, st1, si.rs, si.re, noExc_ok e1, fun J ρ1 H1 sp1 rs1 walk => ?_⟩
  refine ⟨fun i m σ2 H2 => m = xs.length - i ∧ i ≤ xs.length ∧ ∃ O2 ρ2 env2 st2, forLoop t (fun env st => b.ex P env st) (xs.drop i) env2 st2 = .ok (fl, env') st' ∧ Sit G e O2 env2 st2 ρ2 σ2 H2 ∧ StS (ρ1 ++ (O ++ e.B)) ρ1 H1 (ρ2 ++ (O2 ++ e.B)) ρ2 H2, ⟨xs.length, by simp, Nat.zero_le _, O, ρ1, env, st1, by simpa using e2, si.stp sp1 rs1, StS.refl _ _ _⟩, ?_⟩
  rintro i m σ2 H2 ⟨rfl, hle, O2, ρ2, env2, st2, hl, s2, w2⟩
  have wk := walk (ρ2 ++ (O2 ++ e.B)) ρ2 H2 (fun a o ea n => w2.pres a o ea (by simpa using n)) (fun a o ea n => w2.out a o ea n) w2.refs s2.rs.mt
  by_cases hlt : i < xs.length
  · have hx : xs[i]? = some xs[i] := List.getElem?_eq_getElem hlt
    obtain ⟨go, yld⟩ := wk.1 i _ hx
    rw [List.drop_eq_getElem_cons hlt] at hl
    unfold forLoop at hl
    cases hpt : t.put xs[i] env2 with
    | none => rw [hpt] at hl; cases hl
    | some env3 =>
      rw [hpt] at hl
      obtain ⟨⟨fl1, env4⟩, st4, f1, f2⟩ := Res.bind_eq hl
      refine .inr ⟨go, fun σ' H' => match fl1 with
        | .next => (xs.length - (i + 1) = xs.length - (i + 1) ∧ i + 1 ≤ xs.length ∧ ∃ O2 ρ2 env2 st2, forLoop t (fun env st => b.ex P env st) (xs.drop (i + 1)) env2 st2 = .ok (fl, env') st' ∧ Sit G e O2 env2 st2 ρ2 σ' H' ∧ StS (ρ1 ++ (O ++ e.B)) ρ1 H1 (ρ2 ++ (O2 ++ e.B)) ρ2 H')
        | .cont => (xs.length - (i + 1) = xs.length - (i + 1) ∧ i + 1 ≤ xs.length ∧ ∃ O2 ρ2 env2 st2, forLoop t (fun env st => b.ex P env st) (xs.drop (i + 1)) env2 st2 = .ok (fl, env') st' ∧ Sit G e O2 env2 st2 ρ2 σ' H' ∧ StS (ρ1 ++ (O ++ e.B)) ρ1 H1 (ρ2 ++ (O2 ++ e.B)) ρ2 H')
        | _ => False, ?_, ?_⟩
      · intro σ' H' hN
        cases fl1 with
        | next => exact ⟨xs.length - (i + 1), by omega, hN⟩
        | cont => exact ⟨xs.length - (i + 1), by omega, hN⟩
        | brk => exact hN.elim
        | ret _ => exact hN.elim
      · intro v H3 y
        obtain ⟨sm, hv⟩ := yld v H3 y
        have sp3 : Stp ρ2 H2 ρ2 H3 := same_stp sm
        have s3 := s2.stp sp3 (s2.rs.same sm)
        refine sit_put t _ v env2 env3 σ2 _ hpt s3 hv fun σ3 s4 => ?_
        refine ⟨e, O2, env3, st2, ρ2, fl1, env4, st4, s4, f1, fun O5 ρ5 σ5 H5 s5 w5 => ?_⟩
        have w15 := w2.trans (sp3.sts.trans w5)
        have wk5 := sp1.sts.trans w15
        cases fl1 with
        | next => exact ⟨rfl, hlt, O5, ρ5, env4, st4, f2, s5, w15⟩
        | cont => exact ⟨rfl, hlt, O5, ρ5, env4, st4, f2, s5, w15⟩
        | brk => cases f2; exact k O5 ρ5 σ5 H5 s5 wk5
        | ret d => cases f2; exact k O5 ρ5 σ5 H5 s5 wk5
  · have hi2 : i = xs.length := by omega
    subst hi2
    rw [List.drop_length] at hl
    unfold forLoop at hl
    cases hl
    exact .inl ⟨wk.2 _ (Nat.le_refl _), k O2 ρ2 σ2 H2 s2 (sp1.sts.trans w2)⟩
end
end Dp
set_option Elab.async false
set_option linter.all false
set_option maxRecDepth 100000
set_option maxHeartbeats 8000000
namespace Dp
open PySem PySem.Spec PyProof.Rows L2 PySem.W PySem.SeqAt
def notCompB : Expr → Bool
  | .ListComp _ _ _ _ => false
  | .SetComp _ _ _ _ => false
  | .DictComp _ _ _ _ _ => false
  | _ => true
theorem sw_off {x : Expr} {y : Str} {py : Pos} {l : Nat} {env : PySem.Env} (h : notCompB x = true ∨ env.scope.names.lookup y ≠ some .local) : swapsWith x (some (.Name y py)) l env = pure false := by
  rcases h with h | h
  · cases x <;> first | rfl | exact absurd (show false = true from h) Bool.false_ne_true
  · have k : (env.kindOf y == some NameKind.local) = false := by
      cases q : (env.kindOf y == some NameKind.local) with
      | false => rfl
      | true => exact (h (eq_of_beq q)).elim
    cases x <;> first | rfl | (unfold swapsWith; simp only [k, Bool.and_false, Bool.false_and]; done) | (unfold swapsWith; simp only [k, Bool.and_false, Bool.false_and]; rfl)
/-- a list's comprehension and the name it goes to: the stores are exchanged -/
def lcNameB (c : Cc) (y : Str) (py : Pos) : Expr → Ex → Bool
  | .ListComp _ _ scope p, .lc _ _ _ _ _ => decide (c.sc.kind = .function) && decide (c.sc.names.lookup y = some .local) && (py.line == p.line) && !(scope.names.any fun (n, k) => n == y && (k == .local || k == .cell))
  | _, _ => false
def setB (c : Cc) (x : Expr) (a : Ex) : Expr → Bool
  | .Name y py => notCompB x || !(decide (c.sc.names.lookup y = some .local)) || lcNameB c y py x a
  | _ => false
section
variable {G : Gx} {X : Cx} {P : Par} {c : Cc}
theorem tAsg_imp {te te' : TE} {g : TG} (h : ∀ σ H Q, te' σ H Q → te σ H Q) : ∀ D σ H, tAsg te' g D σ H → tAsg te g D σ H := fun _ _ _ q => h _ _ _ q
theorem ps_nameD (xc : XC G c P X) {i : Nat} {a : Ex} {x t : Expr} {pos : Pos} (ht : tgB c (.name i) t = true) (hx : a.ok .s c x = true) (hs : setB c x a t = true) :
    PS X (.Assign [t] x pos) (tAsg (tE G (relS G) (a.ev P)) (gName i)) ∧ (a.fr = true → PS X (.Assign [t] x pos) (tAsg (tF G (a.ev P)) (gName i))) := by
  cases t <;> try (exact absurd (show false = true from ht) Bool.false_ne_true)
  rename_i y py
  replace ht : (decide (c.N[i]? = some y) && (match c.sc.names.lookup y with | some .local => true | some .cell => c.fnv y | _ => false)) = true := ht
  rw [Bool.and_eq_true, decide_eq_true_eq] at ht
  have hN : X.N.Nodup := by rw [xc.N]; exact xc.nd
  have hi : X.N[i]? = some y := by rw [xc.N]; exact ht.1
  have h2 := ht.2
  have hloc : Loc X.env.scope y ∧ (X.fn y = true ∨ X.env.scope.names.lookup y = some .local) := by
    rw [xc.sc, xc.fv]
    split at h2
    · rename_i q; exact ⟨.inl q, .inr q⟩
    · rename_i q; exact ⟨.inr q, .inl h2⟩
    · cases h2
  replace hs : (notCompB x || !(decide (c.sc.names.lookup y = some .local)) || lcNameB c y py x a) = true := hs
  by_cases hsw : notCompB x = true ∨ c.sc.names.lookup y ≠ some .local
  · have hsw' : swapsWith x (some (.Name y py)) pos.line X.env = pure false := sw_off (by rw [xc.sc]; exact hsw)
    exact ⟨ps_set hN hi hloc.1 (ex_s hx xc) hsw' hloc.2, fun hf => ps_set hN hi hloc.1 (ex_f hx hf xc) hsw' hloc.2⟩
  · have hl : lcNameB c y py x a = true := by
      rw [Bool.or_eq_true, Bool.or_eq_true] at hs
      rcases hs with (hs | hs) | hs
      · exact (hsw (.inl hs)).elim
      · exact (hsw (.inr (by simpa using hs))).elim
      · exact hs
    cases x <;> try (exact absurd (show false = true from hl) Bool.false_ne_true)
    rename_i elt gens scope p
    cases a <;> try (exact absurd (show false = true from hl) Bool.false_ne_true)
    case lc own tg it ts e =>
      replace hl : (decide (c.sc.kind = .function) && decide (c.sc.names.lookup y = some .local) && (py.line == p.line) && !(scope.names.any fun (n, k) => n == y && (k == .local || k == .cell))) = true := hl
      simp only [Bool.and_eq_true, decide_eq_true_eq, Bool.not_eq_true'] at hl
      obtain ⟨⟨⟨l1, l2⟩, l3⟩, l4⟩ := hl
      rcases gens with _ | ⟨⟨t, iter, ifs, g⟩, _ | ⟨g2, r⟩⟩
      · exact absurd (show false = true from hx) Bool.false_ne_true
      · replace hx : (Mode.s.notT && decide (g = 0) && blkB c.N c.sc scope own && it.ok false c t iter && notSetB iter && tgB (c.blk scope) tg t && (tg.ixs.all fun i => own.any fun j => decide (j = i)) && ts.okT (c.blk scope) ifs && e.ok .s (c.blk scope) elt) = true := hx
        simp only [Bool.and_eq_true] at hx
        obtain ⟨⟨⟨⟨⟨⟨⟨⟨_, h0⟩, h1⟩, h2⟩, h3⟩, h4⟩, h5⟩, h6⟩, h7⟩ := hx
        rw [decide_eq_true_eq] at h0
        subst h0
        have hit := (snd_all (G := G) (P := P) (sizeOf it + 1)).it it false c t iter X (Nat.lt_succ_self _) h2 xc
        have ok := blk_of h1
        rw [← xc.N, ← xc.sc] at ok
        have ho1 : one1 ts = true := one_of h6
        have hyl : X.env.scope.names.lookup y = some .local := by rw [xc.sc]; exact l2
        have pe := ps_setLc (pos := p) (spos := pos) (py := py) xc.xa.calm hN hi hyl (sw_true (by rw [xc.sc]; exact l1) hyl l3 l4) hit ok
          (fun s H C cl fp => show PG _ t (gT X.K tg) from pg_of (xc.blk s H scope C cl fp) tg t h4)
          (fun s H C cl fp => ((snd_all (G := G) (P := P) (sizeOf ts + 1)).et ts (c.blk scope) ifs _ (Nat.lt_succ_self _) h6 (xc.blk s H scope C cl fp)).1)
          (fun s H C cl fp => show PE _ elt (tE G (relS G) (e.ev P)) from ex_s h7 (xc.blk s H scope C cl fp)) (notSet_fold h3)
        rw [own_snd] at pe
        have key : ∀ σ H Q, tF G ((Ex.lc own tg it ts e).ev P) σ H Q → tLc (tI G false (it.ev P)) (gT X.K tg) (tts P G ts) (tE G (relS G) (e.ev P)) own σ H Q := fun σ H Q q => by
          have := tLc_of ho1 (own_sub h5) (tF_tF0 lc_lst q)
          rw [← xc.xa.K] at this
          exact this
        exact ⟨PS_imp pe (tAsg_imp fun σ H Q q => key σ H Q (tF_of lc_cell q)), fun _ => PS_imp pe (tAsg_imp key)⟩
      · exact absurd (show false = true from hx) Bool.false_ne_true
end
end Dp
set_option Elab.async false
set_option linter.all false
set_option maxRecDepth 100000
set_option maxHeartbeats 8000000
namespace Dp
open PySem PySem.Spec PyProof.Rows L2 PySem.W PySem.SeqAt
section
variable {G : Gx} {X : Cx} {P : Par} {c : Cc} {e : En}
/-- a part that stands, when more is held and worked out -/
structure Ev (e : En) (ρ O : List Addr) (H : Hp) (ρ' O' : List Addr) (H' : Hp) : Prop where
  sp : Stp ρ H ρ' H'
  out : ∀ a o, H a = some o → a ∉ ρ ++ (O ++ e.B) → a ∉ ρ' ++ (O' ++ e.B)
  sub : ∀ a ∈ O, a ∈ O'
theorem Ev.refl {ρ O : List Addr} {H : Hp} : Ev e ρ O H ρ O H := ⟨Stp.refl _ _, fun _ _ _ h => h, fun _ h => h⟩
theorem Ev.trans {ρ O ρ1 O1 ρ2 O2 : List Addr} {H H1 H2 : Hp} (a : Ev e ρ O H ρ1 O1 H1) (b : Ev e ρ1 O1 H1 ρ2 O2 H2) : Ev e ρ O H ρ2 O2 H2 :=
  ⟨a.sp.trans b.sp, fun x o h n => by
    by_cases hx : x ∈ ρ
    · exact (n (List.mem_append_left _ hx)).elim
    · exact b.out x o (a.sp.pres x o h hx) (a.out x o h n), fun x h => b.sub x (a.sub x h)⟩
theorem Ev.sts {ρ O ρ' O' : List Addr} {H H' : Hp} (v : Ev e ρ O H ρ' O' H') : StS (ρ ++ (O ++ e.B)) ρ H (ρ' ++ (O' ++ e.B)) ρ' H' :=
  ⟨fun a o h n => v.sp.pres a o h fun z => n (List.mem_append_left _ z), v.out, v.sp.refs⟩
end
end Dp
set_option Elab.async false
set_option linter.all false
set_option maxRecDepth 100000
set_option maxHeartbeats 8000000
namespace Dp
open PySem PySem.Spec PyProof.Rows L2 PySem.W PySem.SeqAt
end Dp
set_option Elab.async false
set_option linter.all false
set_option maxRecDepth 100000
set_option maxHeartbeats 8000000
namespace Dp
open PySem PySem.Spec PyProof.Rows L2 PySem.W PySem.SeqAt
end Dp
set_option Elab.async false
set_option linter.all false
set_option maxRecDepth 100000
set_option maxHeartbeats 8000000
namespace Dp
open PySem PySem.Spec PyProof.Rows L2 PySem.W PySem.SeqAt
end Dp
set_option Elab.async false
set_option linter.all false
set_option maxRecDepth 100000
set_option maxHeartbeats 8000000
namespace Dp
open PySem PySem.Spec PyProof.Rows L2 PySem.W PySem.SeqAt
/-- where a def's body stands -/
structure TopX (X : Cx) : Prop where
  po : PassesOwn (model X.prog X.w) X.A X.env X.xe
  hs : X.stack = X.env :: X.outer
  hf : X.env.frame = some X.env.locals
end Dp
set_option Elab.async false
set_option linter.all false
set_option maxRecDepth 100000
set_option maxHeartbeats 8000000
namespace Dp
open PySem PySem.Spec PyProof.Rows L2 PySem.W PySem.SeqAt
end Dp
set_option Elab.async false
set_option linter.all false
set_option maxRecDepth 100000
set_option maxHeartbeats 4000000
namespace Dp
open PySem PySem.Spec PyProof.Rows L2 PySem.W PySem.SeqAt
end Dp
set_option Elab.async false
set_option linter.all false
set_option maxRecDepth 100000
set_option maxHeartbeats 8000000
namespace Dp
open PySem PySem.Spec PyProof.Rows L2 PySem.W PySem.SeqAt
def notTupB : Expr → Bool
  | .Tuple _ _ _ => false
  | _ => true
def St.isFrz : St → Bool
  | .frz _ => true
  | _ => false
mutual
def St.ok : St → Cc → Stmt → Bool
  | .asg (.name i) a, c, .Assign [t] x _ => tgB c (.name i) t && a.ok .s c x && setB c x a t
  | .asg (.pair p q) a, c, .Assign [t] x _ => tgB c (.pair p q) t && a.ok .s c x && notTupB x
  | .asg (.trip p q r) a, c, .Assign [t] x _ => tgB c (.trip p q r) t && a.ok .s c x && notTupB x
  | .asg (.quad p q r u) a, c, .Assign [t] x _ => tgB c (.quad p q r u) t && a.ok .s c x && (notTupB x || !a.mx)
  | .put a k v, c, .Assign [.Subscript xo xi _] x _ => a.ok .w c xo && k.ok .w c xi && v.ok .s c x && notSliceB xi
  | .ifs t u v, c, .If x a b _ => t.ok .t c x && u.ok c a && v.ok c b
  | .for t it b, c, .For tg x body [] _ => it.ok true c tg x && tgB c t tg && notSetB x && b.ok c body
  | .ret a, c, .Return (some x) _ => a.ok .s c x
  | .ret (.lit .non), c, .Return none _ => true
  | _, _, _ => false
def Ss.ok : Ss → Cc → List Stmt → Bool
  | .nil, _, [] => true
  | .cons s r, c, xs => if s.isFrz then r.ok c xs else match xs with
    | x :: xs => s.ok c x && r.ok c xs
    | [] => false
  | _, _, _ => false
end
section
variable {G : Gx} {X : Cx} {P : Par} {c : Cc}
theorem ps_tupD (xc : XC G c P X) {tg : Tg} {a : Ex} {t x : Expr} {pos : Pos} (htt : notTupB t = false) (ht : tgB c tg t = true) (ha : a.ok .s c x = true) (hx : notTupB x = true) : PS X (.Assign [t] x pos) (tS G ((St.asg tg a).ex P)) := by
  cases t <;> try (exact absurd (show true = false from htt) (by decide))
  rename_i es k tp
  have hs : swapsWithSole [Expr.Tuple es k tp] x pos.line X.env = pure false := by
    cases x <;> rfl
  have hw : swappedStores [Expr.Tuple es k tp] x X.env = pure none := by
    cases x <;> first | rfl | exact absurd (show false = true from hx) Bool.false_ne_true
  refine PS_imp (ps_asg (ex_s ha xc) (pg_of xc tg _ ht) hs hw) fun D σ H q => ?_
  rw [xc.xa.K]
  exact asg_tr q
theorem ps_quadD (xc : XC G c P X) {p q r u : Tg} {a : Ex} {t x : Expr} {pos : Pos} (ht : tgB c (.quad p q r u) t = true) (ha : a.ok .s c x = true) : PS X (.Assign [t] x pos) (tS G ((St.asg (.quad p q r u) a).ex P)) := by
  have key : ∃ x1 x2 x3 x4 k tp, t = .Tuple [x1, x2, x3, x4] k tp := by
    cases t <;> try (exact absurd (show false = true from ht) Bool.false_ne_true)
    rename_i es k tp
    rcases es with _ | ⟨x1, _ | ⟨x2, _ | ⟨x3, _ | ⟨x4, _ | ⟨_, _⟩⟩⟩⟩⟩ <;> try (exact absurd (show false = true from ht) Bool.false_ne_true)
    exact ⟨_, _, _, _, _, _, rfl⟩
  obtain ⟨x1, x2, x3, x4, k, tp, rfl⟩ := key
  have hs : swapsWithSole [Expr.Tuple [x1, x2, x3, x4] k tp] x pos.line X.env = pure false := by
    cases x <;> rfl
  have hw : swappedStores [Expr.Tuple [x1, x2, x3, x4] k tp] x X.env = pure none := by
    cases x <;> rfl
  refine PS_imp (ps_asg (ex_s ha xc) (pg_of xc _ _ ht) hs hw) fun D σ H q => ?_
  rw [xc.xa.K]
  exact asg_tr q
theorem tg_tup {tg : Tg} {t : Expr} (h : tgB c tg t = true) (hn : ∀ i, tg ≠ .name i) : notTupB t = false := by
  cases tg with
  | name i => exact (hn i rfl).elim
  | pair a b => cases t <;> first | rfl | exact absurd (show false = true from h) Bool.false_ne_true
  | trip a b d => cases t <;> first | rfl | exact absurd (show false = true from h) Bool.false_ne_true
  | quad a b d f => cases t <;> first | rfl | exact absurd (show false = true from h) Bool.false_ne_true
mutual
theorem St.sound (xc : XC G c P X) (hp : TopX X) : ∀ (s : St) (x : Stmt), s.ok c x = true → PS X x (tS G (s.ex P))
  | .asg tg a, x, h => by
    cases x <;> try (cases tg <;> exact absurd (show false = true from h) Bool.false_ne_true)
    rename_i ts x pos
    rcases ts with _ | ⟨t, _ | ⟨_, _⟩⟩ <;> try (cases tg <;> exact absurd (show false = true from h) Bool.false_ne_true)
    cases tg with
    | name i =>
      replace h : (tgB c (.name i) t && a.ok .s c x && setB c x a t) = true := h
      simp only [Bool.and_eq_true] at h
      exact PS_imp (ps_nameD xc h.1.1 h.1.2 h.2).1 fun D σ H q => asg_tr q
    | pair p q =>
      replace h : (tgB c (.pair p q) t && a.ok .s c x && notTupB x) = true := h
      simp only [Bool.and_eq_true] at h
      exact ps_tupD xc (tg_tup h.1.1 (fun _ z => nomatch z)) h.1.1 h.1.2 h.2
    | trip p q r =>
      replace h : (tgB c (.trip p q r) t && a.ok .s c x && notTupB x) = true := h
      simp only [Bool.and_eq_true] at h
      exact ps_tupD xc (tg_tup h.1.1 (fun _ z => nomatch z)) h.1.1 h.1.2 h.2
    | quad p q r u =>
      replace h : (tgB c (.quad p q r u) t && a.ok .s c x && (notTupB x || !a.mx)) = true := h
      rw [Bool.and_eq_true, Bool.and_eq_true] at h
      exact ps_quadD xc h.1.1 h.1.2
  | .own i a, x, h => by first | exact absurd (show false = true from h) Bool.false_ne_true | (cases x <;> exact absurd (show false = true from h) Bool.false_ne_true)
  | .par is es, x, h => by first | exact absurd (show false = true from h) Bool.false_ne_true | (cases x <;> exact absurd (show false = true from h) Bool.false_ne_true)
  | .pop t i, x, h => by first | exact absurd (show false = true from h) Bool.false_ne_true | (cases x <;> exact absurd (show false = true from h) Bool.false_ne_true)
  | .popT j i a, x, h => by first | exact absurd (show false = true from h) Bool.false_ne_true | (cases x <;> exact absurd (show false = true from h) Bool.false_ne_true)
  | .tryR k f i es, x, h => by first | exact absurd (show false = true from h) Bool.false_ne_true | (cases x <;> exact absurd (show false = true from h) Bool.false_ne_true)
  | .fset cl k o e, x, h => by first | exact absurd (show false = true from h) Bool.false_ne_true | (cases x <;> exact absurd (show false = true from h) Bool.false_ne_true)
  | .appPop _ _, x, h => by cases x <;> exact absurd (show false = true from h) Bool.false_ne_true
  | .put a k v, x, h => by
    cases x <;> try (exact absurd (show false = true from h) Bool.false_ne_true)
    rename_i ts x pos
    rcases ts with _ | ⟨t, _ | ⟨_, _⟩⟩
    · exact absurd (show false = true from h) Bool.false_ne_true
    · cases t <;> try (exact absurd (show false = true from h) Bool.false_ne_true)
      rename_i xo xi tp
      replace h : (a.ok .w c xo && k.ok .w c xi && v.ok .s c x && notSliceB xi) = true := h
      simp only [Bool.and_eq_true] at h
      exact ps_putD xc.xa (ex_w h.1.1.1 xc) (ex_w h.1.1.2 xc) (ex_s h.1.2 xc) h.2
    · cases t <;> exact absurd (show false = true from h) Bool.false_ne_true
  | .app i a, x, h => by first | exact absurd (show false = true from h) Bool.false_ne_true | (cases x <;> exact absurd (show false = true from h) Bool.false_ne_true)
  | .aug i o a, x, h => by first | exact absurd (show false = true from h) Bool.false_ne_true | (cases x <;> exact absurd (show false = true from h) Bool.false_ne_true)
  | .putO i k v, x, h => by first | exact absurd (show false = true from h) Bool.false_ne_true | (cases x <;> exact absurd (show false = true from h) Bool.false_ne_true)
  | .ext i a, x, h => by first | exact absurd (show false = true from h) Bool.false_ne_true | (cases x <;> exact absurd (show false = true from h) Bool.false_ne_true)
  | .whl t b, x, h => by first | exact absurd (show false = true from h) Bool.false_ne_true | (cases x <;> exact absurd (show false = true from h) Bool.false_ne_true)
  | .frz _, x, h => by cases x <;> exact absurd (show false = true from h) Bool.false_ne_true
  | .exp a, x, h => by first | exact absurd (show false = true from h) Bool.false_ne_true | (cases x <;> exact absurd (show false = true from h) Bool.false_ne_true)
  | .ifs t u v, x, h => by
    cases x <;> try (exact absurd (show false = true from h) Bool.false_ne_true)
    rename_i x a b pos
    replace h : (t.ok .t c x && u.ok c a && v.ok c b) = true := h
    simp only [Bool.and_eq_true] at h
    exact ps_ifD (ex_t h.1.1 xc) (Ss.sound xc hp u a h.1.2) (Ss.sound xc hp v b h.2)
  | .for t it b, x, h => by
    cases x <;> try (exact absurd (show false = true from h) Bool.false_ne_true)
    rename_i tg x body oe pos
    rcases oe with _ | ⟨_, _⟩
    · replace h : (it.ok true c tg x && tgB c t tg && notSetB x && b.ok c body) = true := h
      simp only [Bool.and_eq_true] at h
      exact ps_forD hp.po xc.xa.calm (it_s h.1.1.1 xc) (by rw [← xc.xa.K]; exact pg_of xc t tg h.1.1.2) (Ss.sound xc hp b body h.2) (notSet_fold h.1.2)
    · exact absurd (show false = true from h) Bool.false_ne_true
  | .retX cs a, x, h => by first | exact absurd (show false = true from h) Bool.false_ne_true | (cases x <;> exact absurd (show false = true from h) Bool.false_ne_true)
  | .ret a, x, h => by
    cases x <;> try (cases a <;> first | exact absurd (show false = true from h) Bool.false_ne_true | (rename_i d; cases d <;> exact absurd (show false = true from h) Bool.false_ne_true))
    rename_i v pos
    cases v with
    | some x => exact ps_retD (ex_s (by cases a <;> exact h) xc)
    | none =>
      cases a <;> try (exact absurd (show false = true from h) Bool.false_ne_true)
      rename_i d
      cases d <;> try (exact absurd (show false = true from h) Bool.false_ne_true)
      exact ps_retND
  | .pass, x, h => by first | exact absurd (show false = true from h) Bool.false_ne_true | (cases x <;> exact absurd (show false = true from h) Bool.false_ne_true)
  | .brk, x, h => by first | exact absurd (show false = true from h) Bool.false_ne_true | (cases x <;> exact absurd (show false = true from h) Bool.false_ne_true)
  | .cont, x, h => by first | exact absurd (show false = true from h) Bool.false_ne_true | (cases x <;> exact absurd (show false = true from h) Bool.false_ne_true)
  | .raise, x, h => by first | exact absurd (show false = true from h) Bool.false_ne_true | (cases x <;> exact absurd (show false = true from h) Bool.false_ne_true)
  | .raise1 k a, x, h => by first | exact absurd (show false = true from h) Bool.false_ne_true | (cases x <;> exact absurd (show false = true from h) Bool.false_ne_true)
  | .expC f es, x, h => by first | exact absurd (show false = true from h) Bool.false_ne_true | (cases x <;> exact absurd (show false = true from h) Bool.false_ne_true)
theorem Ss.sound (xc : XC G c P X) (hp : TopX X) : ∀ (s : Ss) (xs : List Stmt), s.ok c xs = true → PSs X xs (tS G (s.ex P))
  | .nil, xs, h => by
    cases xs with
    | nil => exact pss_nilD
    | cons _ _ => exact absurd (show false = true from h) Bool.false_ne_true
  | .cons s r, xs, h => by
    replace h : (if s.isFrz then r.ok c xs else match xs with | x :: xs => s.ok c x && r.ok c xs | [] => false) = true := by
      cases xs <;> exact h
    cases q : s.isFrz with
    | true =>
      rw [q, if_pos rfl] at h
      cases s <;> try (exact absurd (show false = true from q) Bool.false_ne_true)
      exact frz_skip (Ss.sound xc hp r xs h)
    | false =>
      rw [q, if_neg (by decide)] at h
      cases xs with
      | nil => exact absurd (show false = true from h) Bool.false_ne_true
      | cons x xs =>
        have h : (s.ok c x && r.ok c xs) = true := h
        rw [Bool.and_eq_true] at h
        exact pss_consD (St.sound xc hp s x h.1) (Ss.sound xc hp r xs h.2)
end
end
end Dp
set_option Elab.async false
set_option linter.all false
set_option maxRecDepth 100000
set_option maxHeartbeats 8000000
namespace Dp
open PySem PySem.Spec PyProof.Rows L2 PySem.W PySem.SeqAt
theorem PSs_or {X : Cx} {x : List Stmt} {t1 t2 : TS} (h1 : PSs X x t1) (h2 : PSs X x t2) : PSs X x (fun D σ H => t1 D σ H ∨ t2 D σ H) := ⟨fun pins s σ H D I q => q.elim (h1.run pins s σ H D I) (h2.run pins s σ H D I)⟩
def tX (G : Gx) (E : XK) (f : Env → Store → Res (Flow × Env)) : TS := fun _ σ H => ∃ e O env st ρ c ds st', Sit G e O env st ρ σ H ∧ f env st = .exc c ds st' ∧ ∀ ρ' H' cls dd, Stp e.ρ e.H ρ' H' → RS (G := G) e.B st' ρ' H' → xrel G c ds (ρ' ++ e.B) ρ' H' cls dd → E cls dd H'
theorem bind_exc {α β : Type} {r : Res α} {f : α → Store → Res β} {c : Nat} {ds : List D} {st' : Store} (h : r.bind f = .exc c ds st') : r = .exc c ds st' ∨ ∃ a st, r = .ok a st ∧ f a st = .exc c ds st' := by
  cases r with
  | ok a st => exact .inr ⟨a, st, rfl, h⟩
  | exc c' ds' s' => cases h; exact .inl rfl
  | stuck => cases h
theorem noExc_exc {α : Type} {r : Res α} {c : Nat} {ds : List D} {st' : Store} : noExc r ≠ .exc c ds st' := by
  cases r <;> intro h <;> cases h
theorem gx_exc {α : Type} {b : Bool} {r : Res α} {c : Nat} {ds : List D} {st' : Store} (h : gx b r = .exc c ds st') : b = true ∧ r = .exc c ds st' := by
  cases b with
  | true => exact ⟨rfl, h⟩
  | false => exact (noExc_exc h).elim
section
variable {G : Gx} {X : Cx} {P : Par} {c : Cc} {E : XK}
theorem RS.sub {B B' : List Addr} {st : Store} {ρ : List Addr} {H : Hp} (r : RS (G := G) B st ρ H) (h : ∀ x ∈ B', x ∈ B) : RS (G := G) B' st ρ H :=
  have subM : ∀ x, x ∈ ρ ++ B' → x ∈ ρ ++ B := fun x hx => (List.mem_append.mp hx).elim (List.mem_append_left _) fun z => List.mem_append_right _ (h x z)
  ⟨fun a ha => r.mt a (subM a ha), r.len, r.nd, fun b hb => r.off b (h b hb), r.tb, fun n c a e1 e2 => DC.keep r.mt (fun _ _ e _ => e) (fun a u _ n z => n (subM a z)) (fun _ _ h => h) (fun _ e => e) (r.cel n c a e1 e2)⟩
theorem DV.sub {B B' : List Addr} {st : Store} {ρ : List Addr} {H : Hp} {d : D} {v : V} (r : RS (G := G) B st ρ H) (h : ∀ x ∈ B', x ∈ B) (q : DV G (ρ ++ B) ρ H d v) : DV G (ρ ++ B') ρ H d v :=
  have subM : ∀ x, x ∈ ρ ++ B' → x ∈ ρ ++ B := fun x hx => (List.mem_append.mp hx).elim (List.mem_append_left _) fun z => List.mem_append_right _ (h x z)
  DV.keep r.mt (fun _ _ e _ => e) (fun a u _ n z => n (subM a z)) (fun _ _ h => h) _ _ q
theorem xrel.sub {B B' : List Addr} {st : Store} {ρ : List Addr} {H : Hp} {c : Nat} {ds : List D} {cls : Value} {dd : Option Addr} (r : RS (G := G) B st ρ H) (h : ∀ x ∈ B', x ∈ B) (q : xrel G c ds (ρ ++ B) ρ H cls dd) : xrel G c ds (ρ ++ B') ρ H cls dd := by
  obtain ⟨C, fs, dx, ys, h1, h3, h4, h5, h6, h7, h8⟩ := q
  have subM : ∀ x, x ∈ ρ ++ B' → x ∈ ρ ++ B := fun x hx => (List.mem_append.mp hx).elim (List.mem_append_left _) fun z => List.mem_append_right _ (h x z)
  exact ⟨C, fs, dx, ys, h1, h3, h4, h5, fun z => h6 (subM _ z), h7, DVs.keep r.mt (fun _ _ e _ => e) (fun a u _ n z => n (subM a z)) (fun _ _ h => h) _ _ h8⟩
theorem bi_args {b : Bi} {xs : List Expr} {a : Ex} {n : Str} {w : Bool} {f : Expr → Bool} (hp : biPlain b = true) (h : biB b c n xs ((Exs.cons a .nil).okw c xs) f = true) : ∃ x, xs = [x] ∧ n = biName b ∧ bnB c n = true ∧ a.ok .w c x = true ∧ notStarB x = true := by
  unfold biB at h
  rw [if_pos hp] at h
  simp only [Bool.and_eq_true, decide_eq_true_eq, Bool.not_eq_true'] at h
  obtain ⟨⟨⟨h1, h2⟩, h3⟩, h4⟩ := h
  rcases xs with _ | ⟨x, _ | ⟨y, r⟩⟩
  · cases h3
  · have h4 : (a.ok .w c x && notStarB x && true) = true := h4
    simp only [Bool.and_eq_true] at h4
    exact ⟨x, rfl, h1, h2, h4.1.1, h4.1.2⟩
  · have h4 : (a.ok .w c x && notStarB x && false) = true := h4
    rw [Bool.and_false] at h4
    cases h4
mutual
theorem ex_nx : ∀ (e : Ex) (m : Mode) (x : Expr), e.ok m c x = true → e.mx = false
  | e, m, x, h => by
    cases hq : e.mx with
    | false => rfl
    | true =>
      exfalso
      unfold Ex.mx at hq
      split at hq
      · cases x <;> exact absurd (show false = true from h) Bool.false_ne_true
      · rename_i es
        cases x <;> try (exact absurd (show false = true from h) Bool.false_ne_true)
        have h : (m.notT && es.ok .s c _) = true := h
        rw [Bool.and_eq_true] at h
        rw [es_nx es .s _ h.2] at hq
        cases hq
      · rename_i es
        cases x <;> try (exact absurd (show false = true from h) Bool.false_ne_true)
        have h : (m.notT && es.ok .s c _) = true := h
        rw [Bool.and_eq_true] at h
        rw [es_nx es .s _ h.2] at hq
        cases hq
      · rename_i a b
        cases x <;> try (exact absurd (show false = true from h) Bool.false_ne_true)
        rename_i x y pos
        have h : (a.ok .w c x && b.ok .w c y && notSliceB y) = true := by
          cases y <;> exact h
        simp only [Bool.and_eq_true] at h
        rw [ex_nx a .w x h.1.1] at hq
        cases hq
      · rename_i a
        cases x <;> try (exact absurd (show false = true from h) Bool.false_ne_true)
        rename_i g xs kw pos
        cases g <;> try (exact absurd (show false = true from h) Bool.false_ne_true)
        rename_i nm p
        rcases kw with _ | ⟨_, _⟩ <;> try (exact absurd (show false = true from h) Bool.false_ne_true)
        obtain ⟨x, rfl, rfl, h2, h3, h4⟩ := bi_args (w := true) (by rfl) (show biB .len c nm xs ((Exs.cons a .nil).okw c xs) (fun x => (Exs.cons a .nil).one c x) = true from h)
        rw [ex_nx a .w x h3] at hq
        cases hq
      · rename_i a
        cases x <;> try (exact absurd (show false = true from h) Bool.false_ne_true)
        rename_i g xs kw pos
        cases g <;> try (exact absurd (show false = true from h) Bool.false_ne_true)
        rename_i nm p
        rcases kw with _ | ⟨_, _⟩ <;> try (exact absurd (show false = true from h) Bool.false_ne_true)
        obtain ⟨x, rfl, rfl, h2, h3, h4⟩ := bi_args (w := true) (by rfl) (show biB .tuple c nm xs ((Exs.cons a .nil).okw c xs) (fun x => (Exs.cons a .nil).one c x) = true from h)
        rw [ex_nx a .w x h3] at hq
        cases hq
      · cases hq
termination_by e => sizeOf e
theorem es_nx : ∀ (es : Exs) (m : Mode) (xs : List Expr), es.ok m c xs = true → es.mx = false
  | .nil, m, xs, h => rfl
  | .cons e es, m, xs, h => by
    cases xs with
    | nil => exact absurd (show false = true from h) Bool.false_ne_true
    | cons x xs =>
      have h : (e.ok .s c x && notStarB x && es.ok .s c xs) = true := by
        cases x <;> exact h
      simp only [Bool.and_eq_true] at h
      show (e.mx || es.mx) = false
      rw [ex_nx e .s x h.1.1, es_nx es .s xs h.2]
      rfl
  | .star e es, m, xs, h => by cases xs <;> exact absurd (show false = true from h) Bool.false_ne_true
  | .starz a b es, m, xs, h => by cases xs <;> exact absurd (show false = true from h) Bool.false_ne_true
termination_by es => sizeOf es
end
theorem for_nx {t : Tg} {f : Env → Store → Res (Flow × Env)} (hf : ∀ env st k ds st', f env st ≠ .exc k ds st') : ∀ (xs : List D) (env : Env) (st : Store) (k : Nat) (ds : List D) (st' : Store), forLoop t f xs env st ≠ .exc k ds st'
  | [], env, st, k, ds, st', h => by
    unfold forLoop at h
    cases h
  | x :: xs, env, st, k, ds, st', h => by
    unfold forLoop at h
    cases hp : t.put x env with
    | none => rw [hp] at h; cases h
    | some env1 =>
      rw [hp] at h
      rcases bind_exc h with h | ⟨⟨fl1, env2⟩, st1, e1, h⟩
      · exact hf _ _ _ _ _ h
      · cases fl1 with
        | next => exact for_nx hf xs _ _ _ _ _ h
        | cont => exact for_nx hf xs _ _ _ _ _ h
        | brk => cases h
        | ret d => cases h
mutual
theorem St.nx : ∀ (s : St) (x : Stmt), s.ok c x = true → s.mayX = true → ∀ (env : Env) (st : Store) (k : Nat) (ds : List D) (st' : Store), s.ex P env st ≠ .exc k ds st'
  | .asg tg a, x, h, _, env, st, k, ds, st', ev => by
    have hm : a.mx = false := by
      cases x <;> try (cases tg <;> exact absurd (show false = true from h) Bool.false_ne_true)
      rename_i ts xe pos
      rcases ts with _ | ⟨t, _ | ⟨_, _⟩⟩ <;> try (cases tg <;> exact absurd (show false = true from h) Bool.false_ne_true)
      cases tg with
      | name i =>
        replace h : (tgB c (.name i) t && a.ok .s c xe && setB c xe a t) = true := h
        simp only [Bool.and_eq_true] at h
        exact ex_nx a .s xe h.1.2
      | pair p q =>
        replace h : (tgB c (.pair p q) t && a.ok .s c xe && notTupB xe) = true := h
        simp only [Bool.and_eq_true] at h
        exact ex_nx a .s xe h.1.2
      | trip p q r =>
        replace h : (tgB c (.trip p q r) t && a.ok .s c xe && notTupB xe) = true := h
        simp only [Bool.and_eq_true] at h
        exact ex_nx a .s xe h.1.2
      | quad p q r u =>
        replace h : (tgB c (.quad p q r u) t && a.ok .s c xe && (notTupB xe || !a.mx)) = true := h
        simp only [Bool.and_eq_true] at h
        exact ex_nx a .s xe h.1.2
    unfold St.ex at ev
    rcases bind_exc ev with ev | ⟨d, st1, e1, e2⟩
    · exact absurd (gx_exc ev).1 (by rw [hm]; decide)
    · split at e2 <;> cases e2
  | .ret a, x, h, _, env, st, k, ds, st', ev => by
    have hm : a.mx = false := by
      cases x <;> try (exact absurd (show false = true from h) Bool.false_ne_true)
      rename_i v pos
      cases v with
      | none =>
        cases a <;> first | rfl | exact absurd (show false = true from h) Bool.false_ne_true
      | some v => exact ex_nx a .s v (show a.ok .s c v = true from h)
    unfold St.ex at ev
    rcases bind_exc ev with ev | ⟨d, st1, e1, e2⟩
    · exact absurd (gx_exc ev).1 (by rw [hm]; decide)
    · cases e2
  | .ifs t u v, x, h, _, env, st, k, ds, st', ev => by
    cases x <;> try (exact absurd (show false = true from h) Bool.false_ne_true)
    rename_i x a b pos
    replace h : (t.ok .t c x && u.ok c a && v.ok c b) = true := h
    simp only [Bool.and_eq_true] at h
    unfold St.ex at ev
    rcases bind_exc ev with ev | ⟨w, st1, e1, e2⟩
    · exact (noExc_exc ev).elim
    cases w with
    | true => exact Ss.nx u a h.1.2 _ _ _ _ _ e2
    | false => exact Ss.nx v b h.2 _ _ _ _ _ e2
  | .for t it b, x, h, _, env, st, k, ds, st', ev => by
    cases x <;> try (exact absurd (show false = true from h) Bool.false_ne_true)
    rename_i tg x body els pos
    cases els with
    | cons _ _ => exact absurd (show false = true from h) Bool.false_ne_true
    | nil =>
      replace h : (it.ok true c tg x && tgB c t tg && notSetB x && b.ok c body) = true := h
      simp only [Bool.and_eq_true] at h
      unfold St.ex at ev
      rcases bind_exc ev with ev | ⟨w, st1, e1, e2⟩
      · exact (noExc_exc ev).elim
      exact for_nx (fun env st k ds st' => Ss.nx b body h.2 env st k ds st') _ _ _ _ _ _ e2
  | .put a k0 v, x, h, hm, env, st, k, ds, st', ev => absurd hm Bool.false_ne_true
  | .own i a, x, h, _, env, st, k, ds, st', ev => by cases x <;> exact absurd (show false = true from h) Bool.false_ne_true
  | .par is es, x, h, _, env, st, k, ds, st', ev => by cases x <;> exact absurd (show false = true from h) Bool.false_ne_true
  | .pop t i, x, h, _, env, st, k, ds, st', ev => by cases x <;> exact absurd (show false = true from h) Bool.false_ne_true
  | .popT j i a, x, h, _, env, st, k, ds, st', ev => by cases x <;> exact absurd (show false = true from h) Bool.false_ne_true
  | .putO i k0 v, x, h, _, env, st, k, ds, st', ev => by cases x <;> exact absurd (show false = true from h) Bool.false_ne_true
  | .aug i o a, x, h, _, env, st, k, ds, st', ev => by cases x <;> exact absurd (show false = true from h) Bool.false_ne_true
  | .ext i a, x, h, _, env, st, k, ds, st', ev => by cases x <;> exact absurd (show false = true from h) Bool.false_ne_true
  | .whl t b, x, h, _, env, st, k, ds, st', ev => by cases x <;> exact absurd (show false = true from h) Bool.false_ne_true
  | .app i a, x, h, _, env, st, k, ds, st', ev => by cases x <;> exact absurd (show false = true from h) Bool.false_ne_true
  | .exp a, x, h, _, env, st, k, ds, st', ev => by cases x <;> exact absurd (show false = true from h) Bool.false_ne_true
  | .retX cs a, x, h, _, env, st, k, ds, st', ev => by cases x <;> exact absurd (show false = true from h) Bool.false_ne_true
  | .pass, x, h, _, env, st, k, ds, st', ev => by cases x <;> exact absurd (show false = true from h) Bool.false_ne_true
  | .brk, x, h, _, env, st, k, ds, st', ev => by cases x <;> exact absurd (show false = true from h) Bool.false_ne_true
  | .cont, x, h, _, env, st, k, ds, st', ev => by cases x <;> exact absurd (show false = true from h) Bool.false_ne_true
  | .raise, x, h, _, env, st, k, ds, st', ev => by cases x <;> exact absurd (show false = true from h) Bool.false_ne_true
  | .raise1 k0 a, x, h, _, env, st, k, ds, st', ev => by cases x <;> exact absurd (show false = true from h) Bool.false_ne_true
  | .tryR k0 f i es, x, h, _, env, st, k, ds, st', ev => by cases x <;> exact absurd (show false = true from h) Bool.false_ne_true
  | .fset cl k0 o e, x, h, _, env, st, k, ds, st', ev => by cases x <;> exact absurd (show false = true from h) Bool.false_ne_true
  | .expC f es, x, h, _, env, st, k, ds, st', ev => by cases x <;> exact absurd (show false = true from h) Bool.false_ne_true
  | .frz i, x, h, _, env, st, k, ds, st', ev => by cases x <;> exact absurd (show false = true from h) Bool.false_ne_true
  | .appPop i j, x, h, _, env, st, k, ds, st', ev => by cases x <;> exact absurd (show false = true from h) Bool.false_ne_true
theorem Ss.nx : ∀ (s : Ss) (xs : List Stmt), s.ok c xs = true → ∀ (env : Env) (st : Store) (k : Nat) (ds : List D) (st' : Store), s.ex P env st ≠ .exc k ds st'
  | .nil, xs, h, env, st, k, ds, st', ev => by
    unfold Ss.ex at ev
    cases ev
  | .cons s r, xs, h, env, st, k, ds, st', ev => by
    replace h : (if s.isFrz then r.ok c xs else match xs with | x :: xs => s.ok c x && r.ok c xs | [] => false) = true := by
      cases xs <;> exact h
    cases q : s.isFrz with
    | true =>
      rw [q, if_pos rfl] at h
      unfold Ss.ex at ev
      rcases bind_exc ev with ev | ⟨⟨fl1, env1⟩, st1, e1, e2⟩
      · cases s <;> first | exact absurd (show false = true from q) Bool.false_ne_true | exact (noExc_exc ev).elim
      · cases fl1 with
        | next => exact Ss.nx r xs h _ _ _ _ _ e2
        | brk => cases e2
        | cont => cases e2
        | ret d => cases e2
    | false =>
      rw [q, if_neg (by decide)] at h
      rcases xs with _ | ⟨x, xs⟩
      · cases h
      · have h : (s.ok c x && r.ok c xs) = true := h
        rw [Bool.and_eq_true] at h
        unfold Ss.ex at ev
        rcases bind_exc ev with ev | ⟨⟨fl1, env1⟩, st1, e1, e2⟩
        · split at ev
          · rename_i hq
            exact St.nx s x h.1 hq _ _ _ _ _ ev
          · exact (noExc_exc ev).elim
        · cases fl1 with
          | next => exact Ss.nx r xs h.2 _ _ _ _ _ e2
          | brk => cases e2
          | cont => cases e2
          | ret d => cases e2
end
theorem Ss.soundX (xc : XC G c P X) (hp : TopX X) (tk : Takes X (fun cls d _ H => E cls d H)) (s : Ss) (xs : List Stmt) (h : s.ok c xs = true) : PSs X xs (tX G E (s.ex P)) := ⟨fun pins s' σ H D I ⟨e, O, env, st, ρ, k, ds, st', si, ev, kk⟩ => (Ss.nx s xs h env st k ds st' ev).elim⟩
end
end Dp
set_option Elab.async false
set_option linter.all false
set_option maxRecDepth 100000
set_option maxHeartbeats 8000000
namespace Dp
open PySem PySem.Spec PyProof.Rows L2 PySem.W PySem.SeqAt
/-- a def of the text: its name, its names (the parameters first), its parameters, its statement -/
structure Df where
  name : Str
  N : List Str
  ps : List Str
  st : Stmt
  /-- the name that the def itself bears -/
  own : Str
  /-- the table of its code, if it makes lambdas -/
  lm : Option Nat
  /-- a method: of which class, by what name (its own name in the module is empty then) -/
  mt : Option (Nat × Str)
abbrev OcL := List (Str × List Str × Nat)
/-- the classes of instances, and what isinstance asks of errors -/
structure OcX where
  oc : OcL
  is : List (Str × Option String × List Nat) := []
def fnScB (N ps : List Str) (sc : Scope) : Bool :=
  decide (sc.kind = .function) && !sc.isCoroutine && !sc.isGenerator && decide N.Nodup && decide (N.take ps.length = ps) &&
  (ps.all fun x => decide (sc.names.lookup x = some .local) || decide (sc.names.lookup x = some .cell)) && (sc.names.all fun y => !(decide (y.2 = .free)))
theorem fnSc_of {N ps : List Str} {sc : Scope} (h : fnScB N ps sc = true) : FnScope N ps sc := by
  simp only [fnScB, Bool.and_eq_true, decide_eq_true_eq, Bool.not_eq_true', List.all_eq_true, Bool.or_eq_true, decide_eq_false_iff_not] at h
  obtain ⟨⟨⟨⟨⟨⟨h1, h2⟩, h3⟩, h4⟩, h5⟩, h6⟩, h7⟩ := h
  exact ⟨h1, h2, h3, h4, h5, fun x hx => h6 x hx, fun y hy => h7 y hy⟩
abbrev LsF := Nat → Arguments → Expr → Scope → Bool
def ccOf (d : Df) (bn fn gn : List Str) (en : List (Str × List Str)) (hn : List (Str × Hd)) (ls : LsF) (oc : OcX) (ms : List (Option (Nat × Str))) : Cc := ⟨d.N, defScope d.st, fun _ => true, bn, fn, gn, en, hn, d.lm, ls, true, oc.oc, ms, true, oc.is⟩
def dfOk (bn fn gn : List Str) (en : List (Str × List Str)) (hn : List (Str × Hd)) (ls : LsF) (oc : OcX) (ms : List (Option (Nat × Str))) (d : Df) (f : Fd) : Bool :=
  fnScB d.N d.ps (defScope d.st) && decide (f.np = d.ps.length) && decide (f.ns = d.N.length) && f.body.ok (ccOf d bn fn gn en hn ls oc ms) (defBody d.st)
def tabOk (bn fn gn : List Str) (en : List (Str × List Str)) (hn : List (Str × Hd)) (ls : LsF) (oc : OcX) (ms : List (Option (Nat × Str))) : List Df → List Fd → Bool
  | [], _ => true
  | d :: ds, f :: fs => dfOk bn fn gn en hn ls oc ms d f && tabOk bn fn gn en hn ls oc ms ds fs
  | _, _ => false
theorem tab_get {bn fn gn : List Str} {en : List (Str × List Str)} {hn : List (Str × Hd)} {ls : LsF} {oc : OcX} {ms : List (Option (Nat × Str))} : ∀ {ds : List Df} {fs : List Fd} {i : Nat} {d : Df} {f : Fd}, tabOk bn fn gn en hn ls oc ms ds fs = true → ds[i]? = some d → fs[i]? = some f → dfOk bn fn gn en hn ls oc ms d f = true
  | [], _, i, d, f, _, hd, _ => by simp at hd
  | _ :: _, [], _, _, _, h, _, _ => absurd (show false = true from h) Bool.false_ne_true
  | d :: ds, g :: fs, 0, d', f, h, hd, e => by
    have h : (dfOk bn fn gn en hn ls oc ms d g && tabOk bn fn gn en hn ls oc ms ds fs) = true := h
    rw [Bool.and_eq_true] at h
    simp at e hd
    subst e hd
    exact h.1
  | d :: ds, g :: fs, i + 1, d', f, h, hd, e => by
    have h : (dfOk bn fn gn en hn ls oc ms d g && tabOk bn fn gn en hn ls oc ms ds fs) = true := h
    rw [Bool.and_eq_true] at h
    exact tab_get (i := i) h.2 (by simpa using hd) (by simpa using e)
/-- what the module gives -/
structure Md (G : Gx) (Pr : Program) (mg : Str → Option Value) (ds : List Df) (bn gn : List Str) (en : List (Str × List Str)) (hn : List (Str × Hd)) (cs : List (Addr × Addr)) (gv : List D) (oc : OcX) : Prop where
  fn : ∀ (i : Nat) d, ds[i]? = some d → d.name ≠ "" → ∃ f fd, mg d.name = some (.ref f) ∧ Fun G.K d.own d.own d.st f fd ∧ Binds G.K fd d.ps []
  mf : ∀ (i : Nat) d, ds[i]? = some d → ∀ cl m, d.mt = some (cl, m) → ∃ C fl f fd, G.oc[cl]? = some (C, fl) ∧ Cls G.K C ∧ Meth G.K C m f ∧ m ∉ fl ∧ Fun G.K m d.own d.st f fd ∧ Binds G.K fd d.ps [] ∧ d.lm = none
  is : ∀ p ∈ oc.is, IsAt G.et G.K mg p
  oc : ∀ (k : Nat) n fl i, oc.oc[k]? = some (n, fl, i) → ∃ C f fd d, G.oc[k]? = some (C, fl) ∧ OcF G.K C fl ∧ mg n = some (.ref C) ∧ L2.Mk G.K C f ∧ ds[i]? = some d ∧ Fun G.K "__init__" d.own d.st f fd ∧ Binds G.K fd d.ps [] ∧ d.lm = none
  gl : ∀ (k : Nat) x, gn[k]? = some x → ∃ v u, mg x = some u ∧ RelV v u ∧ ∀ d, gv[k]? = some d → GV G d v
  bn : ∀ x ∈ bn, mg x = none
  er : ∀ (k : Nat) x, en[k]? = some x → ∃ C, G.et[k]? = some (C, x.2) ∧ mg x.1 = some (.ref C) ∧ ErrAt G.K Pr G.w C x.2
  hd : ∀ (h : Nat) x hd, hn[h]? = some (x, hd) → ∀ X : Cx, X.prog = Pr → X.w = G.w → X.K = G.K → X.mg = mg → X.A.guards = some [] → (∀ e : PySem.Env, (X.A.deeper e).units + 100 < cLine) → ∃ g TT, Hears X x TT g ∧ Link G hd TT
  nd : (G.tb.map (·.1)).Nodup
  lam : ∀ (i : Nat) d t f, ds[i]? = some d → d.lm = some t → mg d.name = some (.ref f) → ∃ cA tP, G.tb[t]? = some (tP, d.own ++ ".<locals>." ++ "<lambda>") ∧ (cA, tP) ∈ cs ∧
    ∃ oc od kV doc pm an ct osl, G.K.lookup f = some ⟨oc, od, .func (PySem.W.fnOf d.own d.own (defArgs d.st) (defBody d.st) (defScope d.st) .none kV doc pm an (.ref cA) ct), osl⟩
section
variable {G : Gx} {Pr : Program} {mg : Str → Option Value} {base : Heap}
/-- the entry -/
theorem sit_start {B ρ : List Addr} {st : Store} {H : Hp} {ds : List D} {vs : List V} {N : List Str} {m : Nat} (rs : RS (G := G) B st ρ H) (hv : DVs G (ρ ++ B) ρ H ds vs) (hm : N.length - vs.length = m) :
    Sit G ⟨B, ρ, H⟩ [] (ds.map (fun d => some (false, d)) ++ List.replicate m none) st ρ (L2.start N vs) H := by
  have look : ∀ (i : Nat) (b : Bool) d, (ds.map (fun d => some (false, d)) ++ List.replicate m none)[i]? = some (some (b, d)) → b = false ∧ ds[i]? = some d := by
    intro i b d h
    by_cases hi : i < ds.length
    · rw [List.getElem?_append_left (by simpa using hi), List.getElem?_map] at h
      cases q : ds[i]? with
      | none => rw [q] at h; cases h
      | some x => rw [q] at h; cases h; exact ⟨rfl, rfl⟩
    · rw [List.getElem?_append_right (by simpa using hi), List.getElem?_replicate] at h
      split at h <;> cases h
  refine ⟨rs, ⟨?_, fun i d h => ?_, fun i d h => ?_⟩, Stp.refl _ _, fun a h => absurd h (by simp), fun a h => absurd h (by simp), fun i d h => ?_, fun i j d d' a h => ?_⟩
  · unfold L2.start
    rw [List.length_append, List.length_append, List.length_map, List.length_map, List.length_replicate, List.length_replicate, hv.length, ← hm, hv.length]
  · obtain ⟨_, q⟩ := look i _ d h
    obtain ⟨v, h1, h2⟩ := hv.get q
    refine ⟨v, ?_, h2⟩
    unfold L2.start
    rw [List.getElem?_append_left (by simpa using (List.getElem?_eq_some_iff.mp h1).1), List.getElem?_map, h1]
    rfl
  · exact absurd (look i _ d h).1 (by decide)
  · exact absurd (look i _ d h).1 (by decide)
  · exact absurd (look i _ d h).1 (by decide)
/-- a def's promise at fuel n -/
def FnR (G : Gx) (Pr : Program) (mg : Str → Option Value) (base : Heap) (P : Par) (n : Nat) (i : Nat) (f : Addr) (fd : FuncData) (ps : List Str) : Prop :=
  ∀ (A : Around) (outer : List PySem.Env) (s : Shared) (H : Hp) (args : Args) (us : List Value) (vs : List V) (Q : VK), Room (3 * n + 5) A → A.guards = some [] → Env0 Pr G.w G.K mg base A outer s H → BindsTo s fd args (ps.zip us) → us.length = ps.length → Vals vs us → rCall G P i vs H Q →
    codeAny (model Pr G.w) A (.call (.ref f) args) (CR CX0 outer Pr G.w H s Q E0) s
/-- .. it may raise -/
def FnX (G : Gx) (Pr : Program) (mg : Str → Option Value) (base : Heap) (P : Par) (n : Nat) (i : Nat) (f : Addr) (fd : FuncData) (ps : List Str) : Prop :=
  ∀ (A : Around) (outer : List PySem.Env) (s : Shared) (H : Hp) (args : Args) (us : List Value) (vs : List V) (Q : VK) (E : XK), Room (3 * n + 5) A → A.guards = some [] → Env0 Pr G.w G.K mg base A outer s H → BindsTo s fd args (ps.zip us) → us.length = ps.length → Vals vs us → (rCall G P i vs H Q ∨ rCallX G P i vs H E) →
    codeAny (model Pr G.w) A (.call (.ref f) args) (CR (L2.CX Pr G.w) outer Pr G.w H s Q E) s
theorem FnX.fnR {P : Par} {n i : Nat} {f : Addr} {fd : FuncData} {ps : List Str} (F : FnX G Pr mg base P n i f fd ps) : FnR G Pr mg base P n i f fd ps := fun A outer s H args us vs Q hr hg e0 hb hl r h =>
  codeAny_mono (F A outer s H args us vs Q (fun _ _ _ => False) hr hg e0 hb hl r (.inl h)) fun r s' hq => by
    cases r with
    | error e =>
      obtain ⟨_, _, _, _, _, _, _, _, _, _, _, _, z⟩ := (show L2.CX Pr G.w outer H s (fun _ _ _ => False) e s' from hq)
      exact z.elim
    | ok fl => cases fl <;> exact hq
/-- the callee raises -/
theorem callRX_of {X : Cx} {P : Par} {n i : Nat} {f : Addr} {fd : FuncData} {ps : List Str} {E : XK} (F : FnX G X.prog X.mg X.base P n i f fd ps) (hw : X.w = G.w) (hK : X.K = G.K) (hr : Room (3 * n + 5) X.A) (hg : X.A.guards = some []) (hb : Binds X.K fd ps []) (hl : ∀ vs H E, rCallX G P i vs H E → vs.length = ps.length) (tk : Takes X (fun cls d _ H => E cls d H)) : CallRX X (.ref f) (rCallX G P i) E := by
  intro pins s σ H xs us Q I r h
  have e0 := I.env0
  have lx := hl _ _ _ h
  have lu : us.length = ps.length := by rw [← r.length]; exact lx
  have b := hb s us I.kIn (by simpa using lu)
  rw [List.append_nil] at b
  rw [hw, hK] at e0
  refine wpAny_call ?_
  rw [hw]
  refine codeAny_mono (F X.A X.stack s H ⟨us, []⟩ us xs Q E hr hg e0 b lu r (.inr h)) fun r s' hq => ?_
  cases r with
  | error e =>
    have hq : L2.CX X.prog G.w X.stack H s E e s' := hq
    rw [← hw] at hq
    exact passes_call tk (fun _ _ _ _ h => h) pins σ H s e s' I hq
  | ok fl =>
    cases fl with
    | ret u =>
      have hq : CE X.stack X.prog G.w H s Q u s' := hq
      rw [← hw] at hq
      exact I.after hq
    | next => exact False.elim hq
    | brk => exact False.elim hq
    | cont => exact False.elim hq
/-- the callee runs -/
theorem callR_of {X : Cx} {P : Par} {n i : Nat} {f : Addr} {fd : FuncData} {ps : List Str} (F : FnR G X.prog X.mg X.base P n i f fd ps) (hw : X.w = G.w) (hK : X.K = G.K) (hr : Room (3 * n + 5) X.A) (hg : X.A.guards = some []) (hb : Binds X.K fd ps []) (hl : ∀ vs H Q, rCall G P i vs H Q → vs.length = ps.length) : CallR X (.ref f) (rCall G P i) := by
  intro pins s σ H xs us Q I r h
  have e0 := I.env0
  have lx := hl _ _ _ h
  have lu : us.length = ps.length := by rw [← r.length]; exact lx
  have b := hb s us I.kIn (by simpa using lu)
  rw [List.append_nil] at b
  rw [hw, hK] at e0
  refine wpAny_call ?_
  rw [hw]
  refine codeAny_mono (F X.A X.stack s H ⟨us, []⟩ us xs Q hr hg e0 b lu r h) fun r s' hq => ?_
  cases r with
  | error e => exact hq.elim
  | ok fl =>
    cases fl with
    | ret u =>
      have hq : CE X.stack X.prog G.w H s Q u s' := hq
      rw [← hw] at hq
      exact I.after hq
    | next => exact False.elim hq
    | brk => exact False.elim hq
    | cont => exact False.elim hq
/-- an instance is made -/
theorem callR_make {X : Cx} {P : Par} {n k i : Nat} {f C : Addr} {fd : FuncData} {ps : List Str} {fl : List Str} (F : FnR G X.prog X.mg X.base P n i f fd ps) (M : L2.Mk X.K C f) (hw : X.w = G.w) (hK : X.K = G.K) (hr : Room (3 * n + 6) X.A) (hg : X.A.guards = some []) (hb : Binds X.K fd ps []) (hl : ∀ vs H Q, rCall G P i vs H Q → vs.length = ps.length) (hoc : G.oc[k]? = some (C, fl)) : CallR X (.ref C) (rMake G P k i) := by
  intro pins s σ H vs us Q I r h
  obtain ⟨B, st, ρ, es, st', rs, dv, ev, kk⟩ := h
  have nx := I.hok.fresh (a := s.heap.objs.size + 1) (Nat.le_succ _)
  have nd := I.hok.fresh (a := s.heap.objs.size) (Nat.le_refl _)
  have ne : s.heap.objs.size ≠ s.heap.objs.size + 1 := Nat.ne_of_lt (Nat.lt_succ_self _)
  have I2 := Inv.made (C := C) I
  obtain ⟨rs1, sp1, hx⟩ := rs_made rs hoc nx nd ne
  have r2 : Vals (V.ref (s.heap.objs.size + 1) :: vs) (Value.ref (s.heap.objs.size + 1) :: us) := .cons rfl r
  have hq : rCall G P i (V.ref (s.heap.objs.size + 1) :: vs) (upd (upd H s.heap.objs.size (.own (s.heap.objs.size + 1))) (s.heap.objs.size + 1) (.ins C s.heap.objs.size [])) (fun v H2 => v = .non ∧ Q (.ref (s.heap.objs.size + 1)) H2) :=
    ⟨B, st ++ [.tup [.int k]], ρ ++ [s.heap.objs.size + 1], _, .non, st', rs1, DVs.cons (d := .ref st.length) ⟨_, hx, rfl⟩ (dv.stp rs.mt sp1), ev, fun v ρ' H' sp2 rs2 q2 => ⟨q2, kk _ ρ' H' (sp1.trans sp2) rs2 (sp2.refs _ _ hx)⟩⟩
  have lx := hl _ _ _ hq
  have lu : (Value.ref (s.heap.objs.size + 1) :: us).length = ps.length := by rw [← r2.length]; exact lx
  have b := hb { s with heap := (s.heap.push PySem.W.emptyDict).push (PySem.W.instObj C s.heap.objs.size) } (Value.ref (s.heap.objs.size + 1) :: us) I2.kIn (by simpa using lu)
  rw [List.append_nil] at b
  have e2 := I2.env0.make C us []
  rw [hw, hK] at e2
  refine wpAny_call (make_map (f := f) I.kIn M.makes M.init (beq_iff_eq.mp M.fn) ?_)
  rw [hw]
  refine codeAny_mono (F _ X.stack _ _ ⟨Value.ref (s.heap.objs.size + 1) :: us, []⟩ (Value.ref (s.heap.objs.size + 1) :: us) _ _ (hr.make C us []) hg e2 b lu r2 hq) fun r s' hq' => ?_
  cases r with
  | error e => exact hq'.elim
  | ok fl =>
    cases fl with
    | ret u =>
      have hq' : CE X.stack X.prog G.w _ _ _ u s' := hq'
      rw [← hw] at hq'
      obtain ⟨v, H', I3, rv, ev, q3⟩ := I2.after hq'
      subst ev
      exact ⟨rv, ⟨V.ref (s.heap.objs.size + 1), H', I3, rfl, q3⟩⟩
    | next => exact False.elim hq'
    | brk => exact False.elim hq'
    | cont => exact False.elim hq'
variable {ds : List Df} {bn gn : List Str} {en : List (Str × List Str)} {hn : List (Str × Hd)} {cs : List (Addr × Addr)} {gv : List D} {T : List Fd} {wf : Nat} {oc : OcX}
theorem run_at {n i : Nat} {d : Df} (ht : tabOk bn (ds.map (·.name)) gn en hn (lsB bn gn T) oc (ds.map (·.mt)) ds T = true) (hd : ds[i]? = some d) {es : List D} {st : Store} (h : run T gv wf (n + 1) i es st ≠ .stuck) :
    ∃ f, T[i]? = some f ∧ es.length = f.np ∧ dfOk bn (ds.map (·.name)) gn en hn (lsB bn gn T) oc (ds.map (·.mt)) d f = true ∧ run T gv wf (n + 1) i es st = endOf (f.body.ex ⟨gv, wf, run T gv wf n, n⟩ (es.map (fun d => some (false, d)) ++ List.replicate (f.ns - f.np) none) st) := by
  cases hf : T[i]? with
  | none =>
    exfalso
    apply h
    unfold run
    rw [hf]
  | some f =>
    by_cases hl : es.length = f.np
    · have h2 := tab_get ht hd hf
      refine ⟨f, rfl, hl, h2, ?_⟩
      conv => lhs; unfold run
      rw [hf]
      simp only [if_pos hl]
    · exfalso
      apply h
      unfold run
      rw [hf]
      simp only [if_neg hl]
theorem run_len {n i : Nat} {d : Df} (ht : tabOk bn (ds.map (·.name)) gn en hn (lsB bn gn T) oc (ds.map (·.mt)) ds T = true) (hd : ds[i]? = some d) : ∀ vs H Q, rCall G ⟨gv, wf, run T gv wf n, n⟩ i vs H Q → vs.length = d.ps.length := by
  intro vs H Q ⟨B, st, ρ, es, e, st', rs, hv, ev, k⟩
  cases n with
  | zero => cases ev
  | succ n =>
    have ev : run T gv wf (n + 1) i es st = .ok e st' := ev
    obtain ⟨f, _, hl, h2, _⟩ := run_at ht hd (es := es) (st := st) (by rw [ev]; exact fun z => by cases z)
    simp only [dfOk, Bool.and_eq_true, decide_eq_true_eq] at h2
    rw [hv.length, hl, h2.1.1.2]
theorem run_lenX {n i : Nat} {d : Df} (ht : tabOk bn (ds.map (·.name)) gn en hn (lsB bn gn T) oc (ds.map (·.mt)) ds T = true) (hd : ds[i]? = some d) : ∀ vs H E, rCallX G ⟨gv, wf, run T gv wf n, n⟩ i vs H E → vs.length = d.ps.length := by
  intro vs H Q ⟨B, st, ρ, es, c, e, st', rs, hv, ev, k⟩
  cases n with
  | zero => cases ev
  | succ n =>
    have ev : run T gv wf (n + 1) i es st = .exc c e st' := ev
    obtain ⟨f, _, hl, h2, _⟩ := run_at ht hd (es := es) (st := st) (by rw [ev]; exact fun z => by cases z)
    simp only [dfOk, Bool.and_eq_true, decide_eq_true_eq] at h2
    rw [hv.length, hl, h2.1.1.2]
theorem bind2 {q : Str} {b : Expr} {sc : Scope} {cl : List (Str × Addr)} {pm cv ctv : Value} {a1 a2 : Arg} {u1 u2 : Value} (h : a1.arg ≠ a2.arg) : bindArgs (PySem.W.kla_fn "<lambda>" q ⟨[], [a1, a2], none, [], [], none, []⟩ b sc cl pm cv ctv) ⟨[u1, u2], []⟩ = pure [(a1.arg, u1), (a2.arg, u2)] := by
  have e1 : (a1.arg == a1.arg) = true := by simp
  have e2 : (a2.arg == a1.arg) = false := by simpa using fun z => h z.symm
  have e3 : (a2.arg == a2.arg) = true := by simp
  have l1 : ([(a1.arg, u1), (a2.arg, u2)] : List (Str × Value)).lookup a1.arg = some u1 := by simp [List.lookup]
  have l2 : ([(a1.arg, u1), (a2.arg, u2)] : List (Str × Value)).lookup a2.arg = some u2 := by simp [List.lookup, e2]
  have m : ([a1.arg, a2.arg].filter fun n => (([(a1.arg, u1), (a2.arg, u2)] : List (Str × Value)).lookup n).isNone) = [] := by simp [l1, l2]
  have f : (([a1.arg, a2.arg] ++ []).filterMap fun n => (([(a1.arg, u1), (a2.arg, u2)] : List (Str × Value)).lookup n).map (n, ·)) = [(a1.arg, u1), (a2.arg, u2)] := by simp [l1, l2]
  have s : seqItems? Value.none = pure none := rfl
  unfold bindArgs
  simp only [s, List.map_cons, List.map_nil, List.nil_append, List.append_nil]
  show _ = _
  simp [m, f, l1, l2]
theorem bindL1 {q : Str} {b : Expr} {sc : Scope} {cl : List (Str × Addr)} {pm cv ctv : Value} {a1 : Arg} {u1 : Value} : bindArgs (PySem.W.kla_fn "<lambda>" q ⟨[], [a1], none, [], [], none, []⟩ b sc cl pm cv ctv) ⟨[u1], []⟩ = pure [(a1.arg, u1)] := by
  have l1 : ([(a1.arg, u1)] : List (Str × Value)).lookup a1.arg = some u1 := by simp [List.lookup]
  have m : ([a1.arg].filter fun n => (([(a1.arg, u1)] : List (Str × Value)).lookup n).isNone) = [] := by simp [l1]
  have f : (([a1.arg] ++ []).filterMap fun n => (([(a1.arg, u1)] : List (Str × Value)).lookup n).map (n, ·)) = [(a1.arg, u1)] := by simp [l1]
  have s : seqItems? Value.none = pure none := rfl
  unfold bindArgs
  simp only [s, List.map_cons, List.map_nil, List.nil_append, List.append_nil]
  show _ = _
  simp [m, f, l1]
theorem ret_inv {P : Par} {e : Ex} {env : Env} {st st' : Store} {d : D} (h : endOf ((Ss.cons (.ret e) .nil).ex P env st) = .ok d st') : e.ev P env st = .ok d st' := by
  have hx : (Ss.cons (.ret e) .nil).ex P env st = (if (St.ret e).mayX then (St.ret e).ex P env st else noExc ((St.ret e).ex P env st)).bind fun (fl, env1) st1 => match fl with
    | .next => Ss.ex P .nil env1 st1
    | f => .ok (f, env1) st1 := by
    conv => lhs; unfold Ss.ex
    try rfl
  have hr : (St.ret e).ex P env st = (gx e.mx (e.ev P env st)).bind fun d st1 => .ok (.ret d, env) st1 := by
    conv => lhs; unfold St.ex
  rw [hx, hr] at h
  have hm : (St.ret e).mayX = e.mx := by conv => lhs; unfold St.mayX
  rw [hm] at h
  cases he : e.ev P env st with
  | ok d0 st0 =>
    rw [he] at h
    cases hb : e.mx <;> rw [hb] at h <;> exact (by cases h; rfl)
  | exc c ds st0 =>
    rw [he] at h
    cases hb : e.mx <;> rw [hb] at h <;> cases h
  | stuck =>
    rw [he] at h
    cases hb : e.mx <;> rw [hb] at h <;> cases h
/-- a lambda that is a value, called: its names, its parameters -/
theorem lam_callN {X : Cx} {n k ns : Nat} {f : Addr} {F : NdefX.NF} {b : Expr} {N ps : List Str} {e : Ex} (hbn : ∀ x ∈ bn, mg x = none) (hgl : ∀ (k : Nat) x, gn[k]? = some x → ∃ v u, mg x = some u ∧ RelV v u ∧ ∀ d, gv[k]? = some d → GV G d v) (hcl : F.cl = [])
    (hT : T[k]? = some ⟨ps.length, ns, .cons (.ret e) .nil⟩) (hns : ns = N.length) (S : NdefX.NScope N ps [] F.scope) (hok : e.ok .s (ccL bn gn N F.scope) b = true) (hb : ∀ (pm ctv : Value) (us : List Value), us.length = ps.length → bindArgs (PySem.W.kla_fn "<lambda>" F.qual F.params b F.scope F.cl pm (.ref F.c) ctv) ⟨us, []⟩ = pure (ps.zip us))
    (hw : X.w = G.w) (hK : X.K = G.K) (hmg : X.mg = mg) (hr : Room (3 * n + 5) X.A) (hg : X.A.guards = some []) : CallR X (.ref f) (rLam G ⟨gv, wf, run T gv wf n, n⟩ k f F b) := by
  intro pins s σ H xs us Q I r ⟨hf, hc, B, st, ρ, es, d, st', rs, hv, ev, kk⟩
  cases n with
  | zero => cases ev
  | succ n =>
    have ev : run T gv wf (n + 1) k es st = .ok d st' := ev
    unfold run at ev
    rw [hT] at ev
    by_cases h2 : es.length = ps.length
    rotate_left
    · simp only [if_neg h2] at ev
      cases ev
    simp only [if_pos h2] at ev
    have ev := ret_inv ev
    have hx2 : xs.length = ps.length := by rw [hv.length, h2]
    have hr' : Room (3 * n + 5) (X.A.deeper (NdefX.envF F f s.heap.objs.size)) := (hr.mono (show 3 * n + 5 + 1 ≤ 3 * (n + 1) + 5 by omega)).deeper _
    have xc : XC G (ccL bn gn N F.scope) ⟨gv, wf, run T gv wf n, n⟩ (NdefX.ncx CX0 X.prog X.w X.K X.mg X.base N F f X.A X.stack s H E0) := by
      refine ⟨⟨hK, hw, rfl, ?_, hg⟩, hr', rfl, S.nd, rfl, rfl, fun x hx => ?_, fun j x hx => ?_, fun j x hx _ => ?_, fun j x hx _ => ?_, fun j x hx => ?_, fun t ht0 => ?_, fun j n fl i hx => ?_, fun h => absurd (show false = true from h) Bool.false_ne_true, fun j cl nm hx => ?_, fun k ps b sc h => ?_, fun h => ?_, fun j x hx _ => ?_, fun p hp => absurd (show p ∈ ([] : List (Str × Option String × List Nat)) from hp) List.not_mem_nil⟩
      · have := hr'.un
        show (X.A.deeper _).units + 100 < cLine
        omega
      · show X.mg x = none
        rw [hmg]
        exact hbn x hx
      · show ∃ v u, X.mg x = some u ∧ _
        rw [hmg]
        exact hgl j x hx
      · have hx : ([] : List Str)[j]? = some x := hx
        simp at hx
      · have hx : ([] : List Str)[j]? = some x := hx
        simp at hx
      · have hx : ([] : List (Str × List Str))[j]? = some x := hx
        simp at hx
      · have ht0 : (none : Option Nat) = some t := ht0
        cases ht0
      · have hx : ([] : OcL)[j]? = some (n, fl, i) := hx
        simp at hx
      · have hx : ([] : List (Option (Nat × Str)))[j]? = some (some (cl, nm)) := hx
        simp at hx
      · have h : false = true := h
        cases h
      · have h : false = true := h
        cases h
      · have hx : ([] : List (Str × List Str))[j]? = some x := hx
        simp at hx
    have hst := (sit_start (G := G) (B := B) (N := N) (m := ns - ps.length) rs hv (by rw [hx2, hns])).re
    have hs : NdefX.startF N xs [] = L2.start N xs := by
      unfold NdefX.startF L2.start
      simp
    refine wpAny_call (codeAny_mono (lm_run (CX := CX0) (E := E0) (N := N) (ps := ps) (k := 3 * n + 7) S hcl hb hr I.env0 hf hc r hx2 (ex_s hok xc) ⟨B, _, st, ρ, d, st', rs, by rw [hs]; exact hst, ev, kk⟩) fun r s' hq => ?_)
    cases r with
    | error e => exact hq.elim
    | ok fl =>
      cases fl with
      | ret u => exact I.after hq
      | next => exact False.elim hq
      | brk => exact False.elim hq
      | cont => exact False.elim hq
theorem lam_callR {X : Cx} {n k : Nat} {f : Addr} {F : NdefX.NF} {b : Expr} (hbn : ∀ x ∈ bn, mg x = none) (hgl : ∀ (k : Nat) x, gn[k]? = some x → ∃ v u, mg x = some u ∧ RelV v u ∧ ∀ d, gv[k]? = some d → GV G d v) (hls : G.ls = lsB bn gn T) (hcl : F.cl = []) (hl : G.ls k F.params b F.scope = true)
    (hw : X.w = G.w) (hK : X.K = G.K) (hmg : X.mg = mg) (hr : Room (3 * n + 5) X.A) (hg : X.A.guards = some []) : CallR X (.ref f) (rLam G ⟨gv, wf, run T gv wf n, n⟩ k f F b) := by
  rw [hls] at hl
  unfold lsB at hl
  split at hl
  · rename_i e N hT hN
    rw [Bool.and_eq_true] at hl
    obtain ⟨a1, a2, hp, rfl⟩ := par2_inv hN
    have S := NdefX.nscope_by hl.1
    refine lam_callN (N := [a1.arg, a2.arg]) (ps := [a1.arg, a2.arg]) (ns := 2) hbn hgl hcl hT rfl S hl.2 (fun pm ctv us hl => ?_) hw hK hmg hr hg
    rw [hp]
    match us, hl with
    | [_, _], _ => exact bind2 (by simpa using S.nd)
  · rename_i m e hT hN
    split at hl
    · rename_i N hN1
      simp only [Bool.and_eq_true, decide_eq_true_eq] at hl
      obtain ⟨a1, hp, rfl⟩ := par1_inv hN1
      refine lam_callN (N := lamN [a1.arg] b) (ps := [a1.arg]) (ns := m) hbn hgl hcl hT hl.1.1 (NdefX.nscope_by hl.1.2) hl.2 (fun pm ctv us hl => ?_) hw hK hmg hr hg
      rw [hp]
      match us, hl with
      | [_], _ => exact bindL1
    · cases hl
  · cases hl
/-- THE LINK: every def of the table does what the small language says -/
theorem run_okX (ht : tabOk bn (ds.map (·.name)) gn en hn (lsB bn gn T) oc (ds.map (·.mt)) ds T = true) (md : Md G Pr mg ds bn gn en hn cs gv oc) (hls : G.ls = lsB bn gn T) (tb : ∀ p ∈ cs, LamX.TabB base mg p.1 p.2) : ∀ (n i : Nat) (d : Df) (f : Addr) (fd : FuncData), ds[i]? = some d → (d.lm ≠ none → mg d.name = some (.ref f)) → (∃ x, Fun G.K x d.own d.st f fd) → FnX G Pr mg base ⟨gv, wf, run T gv wf n, n⟩ n i f fd d.ps
  | 0, i, d, f, fd, hd, hmg, F => by
    intro A outer s H args us vs Q E hr hg e0 hb hl r h
    rcases h with ⟨B, st, ρ, es, e, st', rs, hv, ev, k⟩ | ⟨B, st, ρ, es, c, e, st', rs, hv, ev, k⟩ <;> cases ev
  | n + 1, i, d, f, fd, hd, hmg, F => by
    intro A outer s H args us vs Q E hr hg e0 hb hlu r hsp
    have hl : vs.length = d.ps.length := by rw [r.length]; exact hlu
    obtain ⟨nm0, F⟩ := F
    obtain ⟨ocl, od, kV, doc, pm, an, cdv, ct, osl, rfl, lk, hcd⟩ := F.ex
    obtain ⟨B, st, ρ, es, rs, hv, hns, hev⟩ : ∃ B st ρ es, RS (G := G) B st ρ H ∧ DVs G (ρ ++ B) ρ H es vs ∧ run T gv wf (n + 1) i es st ≠ .stuck ∧
        ((∃ e st', run T gv wf (n + 1) i es st = .ok e st' ∧ ∀ v ρ' H', Stp ρ H ρ' H' → RS (G := G) B st' ρ' H' → DV G (ρ' ++ B) ρ' H' e v → Q v H') ∨
          ∃ c e st', run T gv wf (n + 1) i es st = .exc c e st' ∧ ∀ ρ' H' cls dd, Stp ρ H ρ' H' → RS (G := G) B st' ρ' H' → xrel G c e (ρ' ++ B) ρ' H' cls dd → E cls dd H') := by
      rcases hsp with ⟨B, st, ρ, es, e, st', rs, hv, ev, k⟩ | ⟨B, st, ρ, es, c, e, st', rs, hv, ev, k⟩
      · have ev : run T gv wf (n + 1) i es st = .ok e st' := ev
        exact ⟨B, st, ρ, es, rs, hv, (by rw [ev]; exact fun z => by cases z), .inl ⟨e, st', ev, k⟩⟩
      · have ev : run T gv wf (n + 1) i es st = .exc c e st' := ev
        exact ⟨B, st, ρ, es, rs, hv, (by rw [ev]; exact fun z => by cases z), .inr ⟨c, e, st', ev, k⟩⟩
    obtain ⟨f', hf, hnp, h2, hrun⟩ := run_at ht hd hns
    rw [hrun] at hev
    simp only [dfOk, Bool.and_eq_true, decide_eq_true_eq] at h2
    obtain ⟨⟨⟨t1, t2⟩, t3⟩, t4⟩ := h2
    have S := fnSc_of t1
    have KX : G.K.In s.heap := e0.mod.kin.keeps fun b o e => (e0.bs b o e).1
    have lim : s.heap.NoLimit := e0.mod.nolimit.keeps fun b o e => (e0.bs b o e).1
    have hkind : ∀ y ∈ d.ps.zip us, (defScope d.st).names.lookup y.1 = some .local ∨ ((defScope d.st).names.lookup y.1 = some .cell ∧ ((cellsFrom (s.heap.objs.size + 1) (defScope d.st).names []).lookup y.1).isSome = true) := fun ⟨n, v⟩ hy => by
      rcases S.par n (List.of_mem_zip hy).1 with q | q
      · exact .inl q
      · exact .inr ⟨q, PySem.W.cellsFrom_some _ _ _ (.inl q)⟩
    refine codeAny_call_function hr.depth (KX _ _ lk) rfl S.co S.gen rfl (PySem.W.codeRec_of KX hcd) (hb _ _ _ _ ?_)
    refine wpAny_newFunctionEnv_cells S.kind hkind fun env he s1 x => ?_
    subst he
    refine ⟨lim.keeps x.toInCall.keep, codeAny_func ?_⟩
    have hr7 : Room (3 * n + 7) (A.deeper (envOfC d.own (defScope d.st) s.heap.objs.size f cdv)) := (hr.mono (show 3 * n + 7 + 1 ≤ 3 * (n + 1) + 5 by omega)).deeper _
    have hr' : Room (3 * n + 5) (A.deeper (envOfC d.own (defScope d.st) s.heap.objs.size f cdv)) := hr7.mono (by omega)
    have xc : XC G (ccOf d bn (ds.map (·.name)) gn en hn (lsB bn gn T) oc (ds.map (·.mt))) ⟨gv, wf, run T gv wf n, n⟩ (cxOf (L2.CX Pr G.w) Pr G.w G.K mg base d.N d.own (defScope d.st) f cdv A outer s H E) := by
      refine ⟨⟨rfl, rfl, rfl, ?_, hg⟩, hr', rfl, S.nd, rfl, rfl, md.bn, md.gl, fun j x hx hne => ?_, fun j x hx hne => ?_, fun j x hx => ?_, fun t ht0 => ?_, fun j nmc fl i0 hx => ?_, fun _ => show Room (3 * n + 6) (A.deeper (envOfC d.own (defScope d.st) s.heap.objs.size f cdv)) from hr7.mono (by omega), fun j cl nm hx => ?_, fun k ps b sc h => by rw [hls]; exact h, fun _ k f F b h1 h2 X' sc rmX gdX => lam_callR md.bn md.gl hls h1 h2 (sc.w.trans rfl) (sc.K.trans rfl) (sc.mg.trans rfl) rmX gdX, fun j x hx hl => (by
        obtain ⟨C, g1, g2, g3⟩ := md.er j x hx
        exact ⟨C, g1, g2, errAt_keep g3, g3.ct, errAt_nd g3 hl, fun X' sc rmX => callR_er (n := 3 * n + 3) (by rw [sc.K, sc.prog, sc.w]; exact g3) rmX g1 hl⟩), md.is⟩
      · have := hr'.un
        show (A.deeper _).units + 100 < cLine
        omega
      · have hx : (ds.map (·.name))[j]? = some x := hx
        rw [List.getElem?_map] at hx
        cases q : ds[j]? with
        | none => rw [q] at hx; cases hx
        | some d2 =>
          rw [q] at hx
          cases hx
          obtain ⟨f2, fd2, g1, g2, g3⟩ := md.fn j d2 q hne
          refine ⟨f2, g1, g2.kp, fun X' sc rmX gdX => ?_⟩
          have FR : FnR G Pr mg base ⟨gv, wf, run T gv wf n, n⟩ n j f2 fd2 d2.ps := (run_okX ht md hls tb n j d2 f2 fd2 q (fun _ => g1) ⟨_, g2⟩).fnR
          refine callR_of (X := X') (n := n) (fd := fd2) (ps := d2.ps) ?_ (sc.w.trans rfl) (sc.K.trans rfl) ?_ ?_ ?_ (run_len ht q)
          · rw [sc.prog, sc.mg, sc.base]
            exact FR
          · exact rmX
          · exact gdX
          · rw [sc.K]; exact g3
      · have hx : (ds.map (·.name))[j]? = some x := hx
        rw [List.getElem?_map] at hx
        cases q : ds[j]? with
        | none => rw [q] at hx; cases hx
        | some d2 =>
          rw [q] at hx
          cases hx
          obtain ⟨f2, fd2, g1, g2, g3⟩ := md.fn j d2 q hne
          refine ⟨f2, g1, g2.kp, fun X' sc rmX gdX E' tk => ?_⟩
          have FR : FnX G Pr mg base ⟨gv, wf, run T gv wf n, n⟩ n j f2 fd2 d2.ps := run_okX ht md hls tb n j d2 f2 fd2 q (fun _ => g1) ⟨_, g2⟩
          refine callRX_of (X := X') (n := n) (fd := fd2) (ps := d2.ps) ?_ (sc.w.trans rfl) (sc.K.trans rfl) ?_ ?_ ?_ (run_lenX ht q) tk
          · rw [sc.prog, sc.mg, sc.base]
            exact FR
          · exact rmX
          · exact gdX
          · rw [sc.K]; exact g3
      · obtain ⟨C, g1, g2, g3⟩ := md.er j x hx
        refine ⟨C, g1, g2, g3.ct, fun ff hf X' sc rmX e te p pos he tm hgl hdb hs => ?_⟩
        rw [hf] at g3
        refine pmk_err (n := 3 * n + 3) ?_ rmX hgl ?_ he tm hdb hs
        · rw [sc.K, sc.prog, sc.w]; exact g3
        · rw [sc.mg]; exact g2
      · obtain ⟨cA, tP, g1, g2, oc2, od2, kV2, doc2, pm2, an2, ct2, osl2, g3⟩ := md.lam i d t f hd ht0 (hmg (by rw [show d.lm = some t from ht0]; exact fun z => by cases z))
        have hc : cdv = .ref cA := by
          rw [lk] at g3
          injection g3 with g3
          injection g3 with _ _ g3 _
          injection g3 with g3
          exact congrArg FuncData.code g3
        have hq : (cxOf (L2.CX Pr G.w) Pr G.w G.K mg base d.N d.own (defScope d.st) f cdv A outer s H E).env.qual = d.own ++ ".<locals>." := rfl
        refine ⟨hr7, md.nd, ⟨cA, tP, ?_, tb (cA, tP) g2, hc⟩, fun h x hd hx => ?_⟩
        · rw [hq]
          exact g1
        exact md.hd h x hd hx (cxOf (L2.CX Pr G.w) Pr G.w G.K mg base d.N d.own (defScope d.st) f cdv A outer s H E) rfl rfl rfl rfl hg fun e => by
          have := ((hr7.mono (show 3 * n + 6 + 1 ≤ 3 * n + 7 by omega)).deeper e).un
          show ((A.deeper _).deeper e).units + 100 < cLine
          omega
      · obtain ⟨C, f2, fd2, d2, g1, g2, g3, g4, g5, g6, g7, g8⟩ := md.oc j nmc fl i0 hx
        refine ⟨C, g1, g2, g3, g4.kp, fun _ X' sc rmX gdX => ?_⟩
        have FR : FnR G Pr mg base ⟨gv, wf, run T gv wf n, n⟩ n i0 f2 fd2 d2.ps := (run_okX ht md hls tb n i0 d2 f2 fd2 g5 (fun z => (z g8).elim) ⟨_, g6⟩).fnR
        refine callR_make (X := X') (n := n) (fd := fd2) (ps := d2.ps) (f := f2) ?_ ?_ (sc.w.trans rfl) (sc.K.trans rfl) rmX gdX ?_ (run_len ht g5) g1
        · rw [sc.prog, sc.mg, sc.base]
          exact FR
        · rw [sc.K]; exact g4
        · rw [sc.K]; exact g7
      · have hx : (ds.map (·.mt))[j]? = some (some (cl, nm)) := hx
        rw [List.getElem?_map] at hx
        cases q : ds[j]? with
        | none => rw [q] at hx; cases hx
        | some d2 =>
          rw [q] at hx
          have hm : d2.mt = some (cl, nm) := Option.some.inj hx
          obtain ⟨C, fl, f2, fd2, g1, g2, g3, g4, g5, g6, g7⟩ := md.mf j d2 q cl nm hm
          refine ⟨C, fl, f2, g1, g2, g3, g4, fun X' sc rmX gdX => ?_⟩
          have FR : FnR G Pr mg base ⟨gv, wf, run T gv wf n, n⟩ n j f2 fd2 d2.ps := (run_okX ht md hls tb n j d2 f2 fd2 q (fun z => (z g7).elim) ⟨_, g5⟩).fnR
          refine callR_of (X := X') (n := n) (fd := fd2) (ps := d2.ps) ?_ (sc.w.trans rfl) (sc.K.trans rfl) rmX gdX ?_ (run_len ht q)
          · rw [sc.prog, sc.mg, sc.base]
            exact FR
          · rw [sc.K]; exact g6
    have tk : Takes (cxOf (L2.CX Pr G.w) Pr G.w G.K mg base d.N d.own (defScope d.st) f cdv A outer s H E) (fun cls d _ H => E cls d H) := takes_of (E₁ := fun e' s'' => L2.CX Pr G.w outer H s E e' s'') rfl rfl rfl rfl
    have po : PassesOwn (model Pr G.w) (cxOf (L2.CX Pr G.w) Pr G.w G.K mg base d.N d.own (defScope d.st) f cdv A outer s H E).A (cxOf (L2.CX Pr G.w) Pr G.w G.K mg base d.N d.own (defScope d.st) f cdv A outer s H E).env (cxOf (L2.CX Pr G.w) Pr G.w G.K mg base d.N d.own (defScope d.st) f cdv A outer s H E).xe := passes_of (X := cxOf (L2.CX Pr G.w) Pr G.w G.K mg base d.N d.own (defScope d.st) f cdv A outer s H E) (K := fun e s'' => L2.CX Pr G.w outer H s E e s'') (E₁ := fun e' s'' => L2.CX Pr G.w outer H s E e' s'') rfl
    have tp : TopX (cxOf (L2.CX Pr G.w) Pr G.w G.K mg base d.N d.own (defScope d.st) f cdv A outer s H E) := ⟨po, rfl, rfl⟩
    have ht' := PSs_or (Ss.sound xc tp f'.body (defBody d.st) t4) (Ss.soundX (E := E) xc tp tk f'.body (defBody d.st) t4)
    have I : Inv (cxOf (L2.CX Pr G.w) Pr G.w G.K mg base d.N d.own (defScope d.st) f cdv A outer s H E) [] (L2.start d.N vs) H s1 := inv_start S hr.hd e0 hl r x
    have hst := sit_start (N := d.N) rs hv (by rw [t3, t2, hl] : d.N.length - vs.length = f'.ns - f'.np)
    have hq : tS G (f'.body.ex ⟨gv, wf, run T gv wf n, n⟩) { nx := fun _ H' => Q .non H', rt := Q } (L2.start d.N vs) H ∨ tX G E (f'.body.ex ⟨gv, wf, run T gv wf n, n⟩) { nx := fun _ H' => Q .non H', rt := Q } (L2.start d.N vs) H := by
      cases hex : f'.body.ex ⟨gv, wf, run T gv wf n, n⟩ (es.map (fun d => some (false, d)) ++ List.replicate (f'.ns - f'.np) none) st with
      | stuck =>
        rw [hex] at hev
        rcases hev with ⟨e, st', ev, k⟩ | ⟨c, e, st', ev, k⟩ <;> cases ev
      | exc c0 d0 st0 =>
        rw [hex] at hev
        rcases hev with ⟨e, st', ev, k⟩ | ⟨c, e, st', ev, k⟩
        · cases ev
        · cases ev
          exact .inr ⟨⟨B, ρ, H⟩, [], _, st, ρ, _, _, _, hst, hex, k⟩
      | ok p st2 =>
        obtain ⟨fl, env'⟩ := p
        rw [hex] at hev
        rcases hev with ⟨e, st', ev, k⟩ | ⟨c, e, st', ev, k⟩
        rotate_left
        · cases fl <;> cases ev
        refine .inl ⟨⟨B, ρ, H⟩, [], _, st, ρ, fl, env', st2, hst, hex, fun O' ρ' σ' H' si w => ?_⟩
        have rs' : RS (G := G) B st2 ρ' H' := si.rs.sub fun x hx => List.mem_append_right _ hx
        cases fl with
        | next => cases ev; exact k .non ρ' H' si.sp rs' rfl
        | brk => cases ev
        | cont => cases ev
        | ret d0 => cases ev; exact fun v dv => k v ρ' H' si.sp rs' (dv.sub si.rs fun x hx => List.mem_append_right _ hx)
    refine wpAny_mono (ht'.run [] s1 (L2.start d.N vs) H _ I hq) (fun fl s' hs => ?_) fun e s' hs => hs
    have fin : ∀ {σ' : L2.St} {H' : Hp} {v : V} {u : Value}, Inv (cxOf (L2.CX Pr G.w) Pr G.w G.K mg base d.N d.own (defScope d.st) f cdv A outer s H E) [] σ' H' s' → RelV v u → Q v H' → CE outer Pr G.w H s Q u s' :=
      fun {σ' H' v u} J rv q => ⟨v, H', J.os, J.bare, J.base, J.hok, rv, q⟩
    cases fl with
    | ret u =>
      obtain ⟨v, σ', H', J, rv, q⟩ := hs
      exact fin J rv q
    | next =>
      obtain ⟨σ', H', J, q⟩ := hs
      exact fin (v := V.non) (u := Value.none) J rfl q
    | brk =>
      obtain ⟨_, _, _, q⟩ := hs
      exact False.elim q
    | cont =>
      obtain ⟨_, _, _, q⟩ := hs
      exact False.elim q
theorem run_ok (ht : tabOk bn (ds.map (·.name)) gn en hn (lsB bn gn T) oc (ds.map (·.mt)) ds T = true) (md : Md G Pr mg ds bn gn en hn cs gv oc) (hls : G.ls = lsB bn gn T) (tb : ∀ p ∈ cs, LamX.TabB base mg p.1 p.2) (n i : Nat) (d : Df) (f : Addr) (fd : FuncData) (hd : ds[i]? = some d) (hmg : mg d.name = some (.ref f)) (F : Fun G.K d.own d.own d.st f fd) : FnR G Pr mg base ⟨gv, wf, run T gv wf n, n⟩ n i f fd d.ps := (run_okX ht md hls tb n i d f fd hd (fun _ => hmg) ⟨_, F⟩).fnR
end
end Dp
set_option Elab.async false
set_option linter.all false
set_option maxRecDepth 100000
set_option maxHeartbeats 8000000
namespace Dp
open PySem PySem.Spec PyProof.Rows L2 PySem.W PySem.SeqAt
/-- the module's written part has no list -/
def noLst (K : PySem.W.Frag) : Bool := K.all fun p => match p.2.cls with
  | .type s => !(s == "list")
  | _ => true
theorem lk_mem {K : PySem.W.Frag} {a : Addr} {o : Obj} (e : K.lookup a = some o) : (a, o) ∈ K := by
  induction K with
  | nil => cases e
  | cons p K ih =>
    obtain ⟨b, x⟩ := p
    rw [List.lookup_cons] at e
    split at e
    · rename_i h
      cases e
      rw [beq_iff_eq] at h
      subst h
      exact List.mem_cons_self
    · exact List.mem_cons_of_mem _ (ih e)
theorem noLst_get {K : PySem.W.Frag} {a : Addr} {o : Obj} (h : noLst K = true) (e : K.lookup a = some o) : o.cls ≠ .type "list" := by
  have m := lk_mem e
  have q := List.all_eq_true.mp h _ m
  intro z
  rw [show ((a, o).2).cls = .type "list" from z] at q
  exact absurd q (by decide)
theorem dvs_ofInts {G : Gx} {M ρ : List Addr} {H : Hp} : ∀ ns : List Int, DVs G M ρ H (ns.map D.int) (ns.map V.int)
  | [] => rfl
  | n :: ns => ⟨.int n, ns.map V.int, rfl, rfl, dvs_ofInts ns⟩
/-- the tables at the start -/
def cells0 (n : Nat) : Store := (List.range n).map D.ref
theorem law_callD {P : Program} {w : World} {K : PySem.W.Frag} {et ot : List (Addr × List Str)} {tbl : List (Addr × Str)} {ls : LsF} {cs : List (Addr × Addr)} {mg mb : Str → Option Value} {k i : Nat} {fa a : Addr} {fd : FuncData} {x : Str} {s₁ : Shared} {vs : List Value} {ns : List Int} {T : List Fd} {gv : List D} {wf : Nat} {st' : Store}
    (KX : K.In s₁.heap) (hns : s₁.heap.Ns mainGlobals mg) (hb : s₁.heap.Ns builtinsNs mb) (hbb : ∀ x : Str, x ≠ "__name__" → mb x = bootBuiltins x) (hlim : s₁.heap.NoLimit) (hg : s₁.gens = #[])
    (hbm : ∃ (bm : Addr) (ob : Obj), mg "__builtins__" = some (.ref bm) ∧ bm ≠ builtinsNs ∧ s₁.heap.get? bm = some ob ∧ ob.cls = .type "module" ∧ ob.dict = some builtinsNs ∧ ob.data = .plain)
    (ha : s₁.heap.get? a = some { cls := .type "list", data := .seq vs.toArray }) (hi : IntsAre vs ns) (hl : ns.length ≤ sizeLine) (hr : Room (3 * k + 5) callerA) (hnl : noLst K = true)
    (hcs : tbl.map (·.1) = cs.map (·.2)) (hnd : (tbl.map (·.1)).Nodup) (hT : ∀ P ∈ tbl.map (·.1), s₁.heap.get? P = some { cls := .none, data := .fields #[] }) (nT : ∀ P ∈ tbl.map (·.1), K.lookup P = none) (hC : ∀ p ∈ cs, PySem.W.CodeHd s₁.heap p.1 p.2)
    (F : ∀ base : Heap, K.In base → base.Ns mainGlobals mg → (∀ p ∈ cs, LamX.TabB base mg p.1 p.2) → FnR ⟨K, w, et, ot, tbl, ls⟩ P mg base ⟨gv, wf, run T gv wf k, k⟩ k i fa fd [x]) (hbind : BindsTo s₁ fd ⟨[.ref a], []⟩ [(x, .ref a)])
    (hev : run T gv wf k i [.lst (ns.map .int)] (cells0 tbl.length) = .ok (.bl true) st') :
    codeAny (model P w) callerA (.call (.ref fa) ⟨[.ref a], []⟩) (fun r s' => r = .ok (.ret (.bool true)) ∧ OldK s₁.heap s'.heap ∧ s'.os = s₁.os ∧ AllBare s'.gens) s₁ := by
  have rv := vals_ints hi
  have lenV := hi.length
  have hk : K.lookup a = none := by
    cases q : K.lookup a with
    | none => rfl
    | some o =>
      have e := KX a o q
      rw [ha] at e
      cases e
      exact (noLst_get hnl q rfl).elim
  -- the abstract heap: the script, and the tables, empty
  let ρ : List Addr := tbl.map (·.1)
  have aT : a ∉ ρ := fun z => by
    have q := hT a z
    rw [ha] at q
    have z' : Data.seq vs.toArray _ = Data.fields #[] := congrArg Obj.data (Option.some.inj q)
    cases z'
  let H : Hp := fun b => if b = a then some (.frz { cls := .type "list", data := .seq vs.toArray } (.lst (ns.map V.int))) else if b ∈ ρ then some (.tbl #[]) else none
  have Ha : H a = some (.frz { cls := .type "list", data := .seq vs.toArray } (.lst (ns.map V.int))) := if_pos rfl
  have Ht : ∀ b ∈ ρ, H b = some (.tbl #[]) := fun b hb => (if_neg (show ¬ b = a from fun z => aT (by rw [← z]; exact hb))).trans (if_pos hb)
  have Hn : ∀ b, b ≠ a → b ∉ ρ → H b = none := fun b h1 h2 => (if_neg h1).trans (if_neg h2)
  have hok : HOk P w H s₁.heap := fun b u z => by
    by_cases h1 : b = a
    · subst h1
      rw [Ha] at z
      cases z
      exact ⟨ha, by rw [List.length_map]; exact hl, vs, _, rv, ha⟩
    · by_cases h2 : b ∈ ρ
      · rw [Ht b h2] at z
        cases z
        exact hT b h2
      · rw [Hn b h1 h2] at z
        cases z
  -- what is neither a list nor an empty table is not tracked
  have noD : ∀ {b : Addr} {o : Obj}, s₁.heap.get? b = some o → (∀ us n, o.data ≠ .seq us n) → o.data ≠ .fields #[] → H b = none := fun {b o} e n1 n2 => by
    refine Hn b (fun z => ?_) fun z => ?_
    · subst z
      rw [ha] at e
      cases e
      exact n1 _ _ rfl
    · rw [hT b z] at e
      cases e
      exact n2 rfl
  have seen : ∀ {b : Addr} {o : Obj}, s₁.heap.get? b = some o → (∀ us n, o.data ≠ .seq us n) → o.data ≠ .fields #[] → (hidT s₁.heap H).get? b = some o := fun e n1 n2 => hidT_get e (noD e n1 n2)
  have nsK : ∀ {b : Addr} {m : Str → Option Value}, s₁.heap.Ns b m → (hidT s₁.heap H).Ns b m := fun {b m} ⟨o, es, ep, e, d, r⟩ => ⟨o, es, ep, seen e (fun us n z => by rw [d] at z; cases z) (fun z => by rw [d] at z; cases z), d, r⟩
  have hKb : K.In (hidT s₁.heap H) := fun b o e => hidT_get (KX b o e) (Hn b (fun z => by rw [z, hk] at e; cases e) fun z => by rw [nT b z] at e; cases e)
  have hM : Mod K mg (hidT s₁.heap H) := ⟨hKb, nsK hns, ⟨mb, nsK hb, hbb⟩, let ⟨mc, h1, h2⟩ := hlim; ⟨mc, nsK h1, h2⟩⟩
  have TB : ∀ p ∈ cs, LamX.TabB (hidT s₁.heap H) mg p.1 p.2 := fun p hp => by
    have hm : p.2 ∈ ρ := by
      show p.2 ∈ tbl.map (·.1)
      rw [hcs]
      exact List.mem_map.mpr ⟨p, hp, rfl⟩
    have hTp := hT p.2 hm
    refine ⟨?_, ?_, fun z => ?_⟩
    · obtain ⟨o, us, c1, c2, c3, c4, c5, c6, c7, e1, r1, r2, r3, rr⟩ := hC p hp
      refine ⟨o, us, c1, c2, c3, c4, c5, c6, c7, seen e1 (fun us n z => by rw [r2] at z; cases z) (fun z => ?_), r1, r2, r3, rr⟩
      rw [r2] at z
      cases z
      simp at r3
    · obtain ⟨bm, ob, b1, b2, b3, b4, b5, b6⟩ := hbm
      refine ⟨bm, ob, b1, b2, fun q => ?_, fun q => ?_, seen b3 (fun us n z => by rw [b6] at z; cases z) (fun z => by rw [b6] at z; cases z), b4, b5, b6⟩
      · obtain ⟨o, es, ep, e, dd, _⟩ := hns
        rw [q, e] at b3
        cases b3
        rw [dd] at b6
        cases b6
      · rw [q, hTp] at b3
        cases b3
        cases b6
    · obtain ⟨o, es, ep, e, dd, _⟩ := hns
      rw [z, hTp] at e
      cases e
      cases dd
  have e0 : Env0 P w K mg (hidT s₁.heap H) callerA [] s₁ H := ⟨rfl, hM, fun b o e => of_hidT e, Nat.le_of_eq (hidT_size _ _), trivial, fun b hb => absurd (show b ∈ ([] : List Addr) from hb) (by simp), hok, .of_eq hg⟩
  have tbH : ∀ b ps, H b = some (.tbl ps) → b ∈ ρ := fun b ps e => by
    by_cases h1 : b = a
    · rw [h1, Ha] at e
      cases e
    · by_cases h2 : b ∈ ρ
      · exact h2
      · rw [Hn b h1 h2] at e
        cases e
  have rs : RS (G := ⟨K, w, et, ot, tbl, ls⟩) [] (cells0 tbl.length) ρ H := by
    refine ⟨fun m hm => ?_, by simp [cells0, ρ], hnd, fun b hb => absurd hb (by simp), tbH, fun n c b e1 e2 => ?_⟩
    · rw [List.append_nil] at hm
      exact ⟨_, Ht m hm, True.intro⟩
    · have hc : c = .ref n ∧ n < tbl.length := by
        unfold cells0 at e1
        rw [List.getElem?_map] at e1
        cases q : (List.range tbl.length)[n]? with
        | none => rw [q] at e1; cases e1
        | some j =>
          rw [q] at e1
          rw [List.getElem?_eq_some_iff] at q
          obtain ⟨q1, q2⟩ := q
          rw [List.getElem_range] at q2
          subst q2
          rw [List.length_range] at q1
          exact ⟨(Option.some.inj e1).symm, q1⟩
      obtain ⟨rfl, hn⟩ := hc
      have e2 : (tbl.map (·.1))[n]? = some b := e2
      rw [List.getElem?_map, List.getElem?_eq_getElem hn] at e2
      have hb : tbl[n].1 = b := Option.some.inj e2
      refine ⟨tbl[n].2, #[], by rw [List.getElem?_eq_getElem hn, ← hb], Ht b (List.mem_map.mpr ⟨tbl[n], List.getElem_mem hn, hb⟩), True.intro, fun pos cv hcv => ?_⟩
      have z : codeAmong pos [] = some cv := hcv
      simp [codeAmong] at z
  have hsp : rCall ⟨K, w, et, ot, tbl, ls⟩ ⟨gv, wf, run T gv wf k, k⟩ i [.ref a] H (fun v _ => v = .bl true) :=
    ⟨[], cells0 tbl.length, ρ, [.lst (ns.map .int)], .bl true, st', rs, ⟨.ref a, [], rfl, ⟨a, ns.map V.int, rfl, .inr ⟨_, Ha⟩, by rw [List.append_nil]; exact aT, dvs_ofInts ns⟩, rfl⟩, hev, fun v ρ' H' _ _ dv => dv⟩
  refine codeAny_mono (F _ hKb (nsK hns) TB callerA [] s₁ H ⟨[.ref a], []⟩ [.ref a] [.ref a] _ hr rfl e0 hbind rfl (.cons rfl .nil) hsp) fun r s' h => ?_
  cases r with
  | error e => exact h.elim
  | ok fl =>
    cases fl with
    | next => exact False.elim h
    | brk => exact False.elim h
    | cont => exact False.elim h
    | ret u =>
      obtain ⟨v, H', os, bare, un, hok', r', q⟩ := h
      have q' : v = .bl true := q
      subst q'
      obtain rfl : u = Value.bool true := r'
      have old : ∀ b o, b ∉ ρ → s₁.heap.get? b = some o → s'.heap.get? b = some o := fun b o hb e => by
        by_cases h1 : b = a
        · subst h1
          obtain ⟨e1, _⟩ := hok b _ Ha
          obtain ⟨e2, _⟩ := hok' b _ (un.frzs b _ _ Ha)
          rw [e] at e1; cases e1
          exact e2
        · exact un.keep b o e (Hn b h1 hb) (by intro z; exact absurd (show b ∈ ([] : List Addr) from z) (by simp)) (by simp)
      have more : ∀ b ∈ ρ, ∃ ps : Array Value, s'.heap.get? b = some { cls := .none, data := .fields ps } := fun b hb => by
        obtain ⟨ps, z⟩ := un.tbls b #[] (Ht b hb)
        exact ⟨_, hok' b _ z⟩
      refine ⟨rfl, ⟨fun b o e => ?_, fun b o e => ?_⟩, os, bare⟩
      · by_cases hb : b ∈ ρ
        · obtain ⟨ps, hm⟩ := more b hb
          have hcb : b ∈ cs.map (·.2) := hcs ▸ hb
          obtain ⟨p, hp, rfl⟩ := List.mem_map.mp hcb
          have e' := hT p.2 hb
          rw [e] at e'
          cases e'
          exact .inr (.inl ⟨((hC p hp).tab e).isCodeTable, rfl, #[], ps, rfl, by rw [Array.empty_append]; exact hm⟩)
        · exact .inl (old b o hb e)
      · by_cases hb : b ∈ ρ
        · exact let ⟨ps, hm⟩ := more b hb; ⟨_, hm⟩
        · exact ⟨o, old b o hb e⟩
/-- the goal that k_head leaves, from a run of the table -/
theorem walk_ofD {l : PySem.W.OpenLaw} {n k i : Nat} {q : Program} {loose : List Str} {XP : (Str → Option Value) → Heap → Prop} {YP : World → Heap → Prop} {d : DefRec} {K : Params → PySem.W.Frag} {ds : List Df} {dl : Df} {bn gn : List Str} {en : List (Str × List Str)} {hn : List (Str × Hd)} {gv : List D} {T : List Fd} {wf nt : Nat} {oc : OcX} {et ot : World → List (Addr × List Str)} {tbl : World → List (Addr × Str)} {cs : World → List (Addr × Addr)}
    (hn1 : l.most = some n) (hn2 : n ≤ sizeLine) (hdf : d.params.defaults = []) (hr : Room (3 * k + 5) callerA)
    (hY : ∀ (w : World) (h : Heap), YP w h → (K w.params).In h) (hYt : ∀ (w : World) (h : Heap), YP w h → ∀ P ∈ (tbl w).map (·.1), h.get? P = some { cls := .none, data := .fields #[] }) (hi : ds[i]? = some dl) (hne : dl.name ≠ "") (hname : dl.name = d.name)
    (ht : tabOk bn (ds.map (·.name)) gn en hn (lsB bn gn T) oc (ds.map (·.mt)) ds T = true)
    (F : ∀ (w : World) (mg : Str → Option Value) (h : Heap), (K w.params).In h → h.Ns mainGlobals mg →
      noLst (K w.params) = true ∧ ((tbl w).map (·.1) = (cs w).map (·.2) ∧ (tbl w).length = nt ∧ (∀ P ∈ (tbl w).map (·.1), (K w.params).lookup P = none) ∧ ∀ p ∈ cs w, PySem.W.codeHdIn (K w.params) p.1 p.2 = true) ∧ Md ⟨K w.params, w, et w, ot w, tbl w, lsB bn gn T⟩ l.prog mg ds bn gn en hn (cs w) gv oc ∧ ∃ x, dl.ps = [x])
    (hev : ∀ ns : List Int, ns.length ≤ n → ∃ st', run T gv wf k i [.lst (ns.map .int)] (cells0 nt) = .ok (.bl true) st') :
    PySem.W.WalkO q loose XP YP l.row.toRowW d [] (fun f vs => PySem.call f vs) := by
  refine Att.attach_call hn1 hdf fun w s₀ s₁ mg mb fa o pm cd doc a vs ns G Y ho hd hcd hmg hobj hints hlen hg => ?_
  have KX := hY w _ Y
  obtain ⟨hnl, ⟨t1, t2, t3, t4⟩, md, x, hx⟩ := F w mg _ KX G.T.g
  obtain ⟨f, fd, g1, g2, g3⟩ := md.fn i dl hi hne
  rw [hname, hmg] at g1
  cases g1
  obtain ⟨st', he⟩ := hev ns hlen
  rw [← t2] at he
  have hb : BindsTo s₁ fd ⟨[.ref a], []⟩ [(x, .ref a)] := by
    have := g3 s₁ [.ref a] KX (by rw [hx]; rfl)
    rw [hx] at this
    exact this
  exact law_callD (x := x) (ls := lsB bn gn T) (fd := fd) (i := i) (k := k) (et := et w) (ot := ot w) (tbl := tbl w) (cs := cs w) KX G.T.g G.T.b G.T.builtins G.T.nolimit hg G.T.bmain hobj hints (Nat.le_trans hlen hn2) hr hnl t1 md.nd (hYt w _ Y) t3 (fun p hp => PySem.W.codeHd_of_K KX (t4 p hp)) (fun base hb hns tb => by
    have := run_ok (Pr := l.prog) (mg := mg) (base := base) (wf := wf) ht md rfl tb k i dl fa fd hi (by rw [hname]; exact hmg) g2
    rw [hx] at this
    exact this) hb he
end Dp
set_option Elab.async false
set_option linter.all false
set_option maxRecDepth 100000
set_option maxHeartbeats 8000000
namespace Dp
open PySem PySem.Spec PyProof.Rows L2 PySem.W PySem.SeqAt
abbrev OtL := List (Addr × List Str)
def FnAt (K : PySem.W.Frag) (mg : Str → Option Value) (ot : OtL) (d : Df) : Prop := (d.mt = none ∧ ∃ f fd, mg d.name = some (.ref f) ∧ Fun K d.own d.own d.st f fd ∧ Binds K fd d.ps []) ∨
  (∃ cl m, d.mt = some (cl, m) ∧ d.name = "" ∧ d.lm = none ∧ ∃ C fl f fd, ot[cl]? = some (C, fl) ∧ Cls K C ∧ Meth K C m f ∧ m ∉ fl ∧ Fun K m d.own d.st f fd ∧ Binds K fd d.ps [])
def AllFn (K : PySem.W.Frag) (mg : Str → Option Value) (ot : OtL) : List Df → Prop
  | [] => True
  | d :: r => FnAt K mg ot d ∧ AllFn K mg ot r
/-- a class of instances -/
def OcAt (K : PySem.W.Frag) (mg : Str → Option Value) (ot : OtL) (ds : List Df) (k : Nat) (o : Str × List Str × Nat) : Prop := ∃ C f fd d, ot[k]? = some (C, o.2.1) ∧ OcF K C o.2.1 ∧ mg o.1 = some (.ref C) ∧ L2.Mk K C f ∧ ds[o.2.2]? = some d ∧ Fun K "__init__" d.own d.st f fd ∧ Binds K fd d.ps [] ∧ d.lm = none
def AllOc (K : PySem.W.Frag) (mg : Str → Option Value) (ot : OtL) (ds : List Df) : Nat → OcL → Prop
  | _, [] => True
  | k, o :: r => OcAt K mg ot ds k o ∧ AllOc K mg ot ds (k + 1) r
theorem allOc_get {K : PySem.W.Frag} {mg : Str → Option Value} {ot : OtL} {ds : List Df} : ∀ {oc : OcL} {j : Nat}, AllOc K mg ot ds j oc → ∀ (k : Nat) o, oc[k]? = some o → OcAt K mg ot ds (j + k) o
  | [], _, _, k, o, e => by simp at e
  | p :: r, j, h, 0, o, e => by simp at e; subst e; exact h.1
  | p :: r, j, h, k + 1, o, e => by
    have := allOc_get h.2 k o (by simpa using e)
    rwa [show j + 1 + k = j + (k + 1) by omega] at this
def GlAt (K : PySem.W.Frag) (w : World) (mg : Str → Option Value) (x : Str) (d : D) : Prop := ∃ v u, mg x = some u ∧ RelV v u ∧ ∀ (G : Gx), G.K = K → G.w = w → GV G d v
def AllGl (K : PySem.W.Frag) (w : World) (mg : Str → Option Value) : List Str → List D → Prop
  | [], _ => True
  | x :: r, d :: ds => GlAt K w mg x d ∧ AllGl K w mg r ds
  | _ :: _, [] => False
def AllNo (mg : Str → Option Value) : List Str → Prop
  | [] => True
  | x :: r => mg x = none ∧ AllNo mg r
section
variable {K : PySem.W.Frag} {h : Heap} {mg : Str → Option Value}
theorem fn_at {name own : Str} {N ps : List Str} {st : Stmt} {lm : Option Nat} {f : Addr} {oc : Value} {od an : Option Addr} {osl : Array (Option Value)} {kV doc pm cdv ct : Value} (X : K.In h) (G : h.Ns mainGlobals mg)
    (a : PySem.W.nsIn K mainGlobals name = some (some (.ref f))) (l : K.lookup f = some ⟨oc, od, .func (PySem.W.fnOf own own (defArgs st) (defBody st) (defScope st) .none kV doc pm an cdv ct), osl⟩)
    (c : PySem.W.codeIn K cdv own = true) (k : PySem.W.keepIn K (.ref f) = true)
    (b : ∀ (kV doc pm : Value) (an : Option Addr) (cdv ct : Value) (us : List Value), us.length = ps.length → bindArgs (PySem.W.fnOf own own (defArgs st) (defBody st) (defScope st) .none kV doc pm an cdv ct) ⟨us, []⟩ = pure (ps.zip us)) {ot : OtL} : FnAt K mg ot ⟨name, N, ps, st, own, lm, none⟩ :=
  let F := fun_mk (x := own) (qual := own) (st := st) l c k
  .inl ⟨rfl, f, _, PySem.W.mg_of X G a, F, F.binds b⟩
theorem no_at {x : Str} (X : K.In h) (G : h.Ns mainGlobals mg) (a : PySem.W.nsIn K mainGlobals x = some none) : mg x = none := PySem.W.mg_none_of X G a
theorem allFn_get {ot : OtL} : ∀ {ds : List Df}, AllFn K mg ot ds → ∀ (i : Nat) d, ds[i]? = some d → FnAt K mg ot d
  | [], _, i, d, e => by simp at e
  | d :: r, h, 0, _, e => by simp at e; subst e; exact h.1
  | d :: r, h, i + 1, _, e => allFn_get h.2 i _ (by simpa using e)
theorem allGl_get {w : World} : ∀ {gn : List Str} {gv : List D}, AllGl K w mg gn gv → ∀ (k : Nat) x, gn[k]? = some x → ∃ v u, mg x = some u ∧ RelV v u ∧ ∀ d, gv[k]? = some d → ∀ (G : Gx), G.K = K → G.w = w → GV G d v
  | [], _, _, k, x, e => by simp at e
  | _ :: _, [], h, k, x, e => h.elim
  | y :: r, d :: ds, h, 0, x, e => by
    simp at e; subst e
    obtain ⟨v, u, h1, h2, h3⟩ := h.1
    exact ⟨v, u, h1, h2, fun d' e' => by simp at e'; subst e'; exact h3⟩
  | y :: r, d :: ds, h, k + 1, x, e => by
    simpa using allGl_get h.2 k x (by simpa using e)
theorem allNo_get : ∀ {bn : List Str}, AllNo mg bn → ∀ x ∈ bn, mg x = none
  | [], _, x, hx => absurd hx (by simp)
  | y :: r, h, x, hx => by
    rcases List.mem_cons.mp hx with rfl | hx
    · exact h.1
    · exact allNo_get h.2 x hx
def AllErr (K : PySem.W.Frag) (Pr : Program) (w : World) (mg : Str → Option Value) : List (Str × List Str) → List (Addr × List Str) → Prop
  | [], _ => True
  | x :: r, (C, f) :: et => ((mg x.1 = some (.ref C) ∧ f = x.2) ∧ ErrAt K Pr w C f) ∧ AllErr K Pr w mg r et
  | _ :: _, [] => False
theorem allErr_get {Pr : Program} {w : World} : ∀ {en : List (Str × List Str)} {et : List (Addr × List Str)}, AllErr K Pr w mg en et → ∀ (k : Nat) x, en[k]? = some x → ∃ C, et[k]? = some (C, x.2) ∧ mg x.1 = some (.ref C) ∧ ErrAt K Pr w C x.2
  | [], _, _, k, x, e => by simp at e
  | x :: r, (C, f) :: et, h, 0, y, e => by
    simp at e; subst e
    obtain ⟨⟨⟨h1, rfl⟩, h2⟩, _⟩ := h
    exact ⟨C, rfl, h1, h2⟩
  | x :: r, (C, f) :: et, h, k + 1, y, e => by simpa using allErr_get h.2 k y (by simpa using e)
  | _ :: _, [], h, _, _, _ => h.elim
/-- the defs that make lambdas: their code, its table -/
def LmAt (K : PySem.W.Frag) (mg : Str → Option Value) (tbl : List (Addr × Str)) (cs : List (Addr × Addr)) (d : Df) : Prop := ∀ t f, d.lm = some t → mg d.name = some (.ref f) → ∃ cA tP, tbl[t]? = some (tP, d.own ++ ".<locals>." ++ "<lambda>") ∧ (cA, tP) ∈ cs ∧
    ∃ oc od kV doc pm an ct osl, K.lookup f = some ⟨oc, od, .func (PySem.W.fnOf d.own d.own (defArgs d.st) (defBody d.st) (defScope d.st) .none kV doc pm an (.ref cA) ct), osl⟩
def AllLm (K : PySem.W.Frag) (mg : Str → Option Value) (tbl : List (Addr × Str)) (cs : List (Addr × Addr)) : List Df → Prop
  | [] => True
  | d :: r => (d.lm = none ∨ LmAt K mg tbl cs d) ∧ AllLm K mg tbl cs r
theorem allLm_get {tbl : List (Addr × Str)} {cs : List (Addr × Addr)} : ∀ {ds : List Df}, AllLm K mg tbl cs ds → ∀ (i : Nat) d, ds[i]? = some d → LmAt K mg tbl cs d
  | [], _, i, d, e => by simp at e
  | d :: r, h, 0, _, e => by
    simp at e; subst e
    rcases h.1 with z | z
    · intro t f ht
      rw [z] at ht
      cases ht
    · exact z
  | d :: r, h, i + 1, _, e => allLm_get h.2 i _ (by simpa using e)
def HdAt (K : PySem.W.Frag) (Pr : Program) (w : World) (mg : Str → Option Value) (et : List (Addr × List Str)) (p : Str × Hd) : Prop := ∀ (ot : List (Addr × List Str)) (tbl : List (Addr × Str)) (ls : LsF) (X : Cx), X.prog = Pr → X.w = w → X.K = K → X.mg = mg → X.A.guards = some [] → (∀ e : PySem.Env, (X.A.deeper e).units + 100 < cLine) → ∃ g TT, Hears X p.1 TT g ∧ Link ⟨K, w, et, ot, tbl, ls⟩ p.2 TT
def AllHd (K : PySem.W.Frag) (Pr : Program) (w : World) (mg : Str → Option Value) (et : List (Addr × List Str)) : List (Str × Hd) → Prop
  | [] => True
  | p :: r => HdAt K Pr w mg et p ∧ AllHd K Pr w mg et r
theorem allHd_get {Pr : Program} {w : World} {et : List (Addr × List Str)} : ∀ {hn : List (Str × Hd)}, AllHd K Pr w mg et hn → ∀ (i : Nat) p, hn[i]? = some p → HdAt K Pr w mg et p
  | [], _, i, d, e => by simp at e
  | d :: r, h, 0, _, e => by simp at e; subst e; exact h.1
  | d :: r, h, i + 1, _, e => allHd_get h.2 i _ (by simpa using e)
/-- isinstance of errors -/
def isxB (K : PySem.W.Frag) (C : Addr) : Bool := (clsIn K C).isSome && (decide (PySem.W.findIn K (.ref C) "__class__" = some (some (.builtin "object.__class__"))) && (decide (specialIn K (.builtin "object.__class__") "__get__" = some (some (.builtin "getset_descriptor.__get__"))) && (decide (takesIn K (.builtin "object.__class__") = some true) && decide (mroIn K C (.type "object") = some true))))
def isAllB (K : PySem.W.Frag) (u : Value) (ks : List Nat) : Nat → List (Addr × List Str) → Bool
  | _, [] => true
  | j, e :: r => L2.xfB K e.1 && (isxB K e.1 && (decide (kitOne K (.ref e.1) u = some (ks.contains j)) && isAllB K u ks (j + 1) r))
theorem isAll_get {K : PySem.W.Frag} {u : Value} {ks : List Nat} : ∀ {et : List (Addr × List Str)} {j : Nat}, isAllB K u ks j et = true → ∀ (k : Nat) C fs, et[k]? = some (C, fs) → XfC K C ∧ IsxC K C ∧ kitOne K (.ref C) u = some (ks.contains (j + k))
  | [], _, _, k, C, fs, e => by simp at e
  | p :: r, j, h, 0, C, fs, e => by
    simp only [isAllB, Bool.and_eq_true, decide_eq_true_eq] at h
    simp at e
    subst e
    obtain ⟨h1, h2, h3, _⟩ := h
    simp only [isxB, Bool.and_eq_true, decide_eq_true_eq] at h2
    obtain ⟨a1, a2, a3, a4, a5⟩ := h2
    exact ⟨L2.xfB_ok h1, ⟨a1, a2, a3, a4, a5⟩, h3⟩
  | p :: r, j, h, k + 1, C, fs, e => by
    simp only [isAllB, Bool.and_eq_true] at h
    have := isAll_get h.2.2.2 k C fs (by simpa using e)
    rwa [show j + 1 + k = j + (k + 1) by omega] at this
theorem is_own {x : Str} {ks : List Nat} {C2 : Addr} {et : List (Addr × List Str)} (X : K.In h) (G : h.Ns mainGlobals mg) (a : PySem.W.nsIn K mainGlobals x = some (some (.ref C2))) (b : isAllB K (.ref C2) ks 0 et = true) : IsAt et K mg (x, none, ks) :=
  ⟨.ref C2, ⟨C2, rfl, PySem.W.mg_of X G a⟩, fun k C fs e => by
    have := isAll_get b k C fs e
    rwa [Nat.zero_add] at this⟩
theorem is_bi {x : Str} {T : String} {ks : List Nat} {et : List (Addr × List Str)} (X : K.In h) (G : h.Ns mainGlobals mg) (a : PySem.W.nsIn K mainGlobals x = some none) (hb : bootBuiltins x = some (.type T)) (hn : x ≠ "__name__") (b : isAllB K (.type T) ks 0 et = true) : IsAt et K mg (x, some T, ks) :=
  ⟨.type T, ⟨rfl, no_at X G a, hb, hn⟩, fun k C fs e => by
    have := isAll_get b k C fs e
    rwa [Nat.zero_add] at this⟩
def AllIs (K : PySem.W.Frag) (mg : Str → Option Value) (et : List (Addr × List Str)) : List (Str × Option String × List Nat) → Prop
  | [] => True
  | p :: r => IsAt et K mg p ∧ AllIs K mg et r
theorem allIs_get {K : PySem.W.Frag} {mg : Str → Option Value} {et : List (Addr × List Str)} : ∀ {is : List (Str × Option String × List Nat)}, AllIs K mg et is → ∀ p ∈ is, IsAt et K mg p
  | [], _, p, h => absurd h List.not_mem_nil
  | q :: r, h, p, hp => by
    rcases List.mem_cons.mp hp with rfl | hp
    · exact h.1
    · exact allIs_get h.2 p hp
theorem md_of {w : World} {Pr : Program} {et : List (Addr × List Str)} {tbl : List (Addr × Str)} {cs : List (Addr × Addr)} {ds : List Df} {bn gn : List Str} {en : List (Str × List Str)} {hn : List (Str × Hd)} {gv : List D} {ls : LsF} {ot : OtL} {oc : OcX} (h1 : AllFn K mg ot ds) (h2 : AllGl K w mg gn gv) (h3 : AllNo mg bn) (h4 : AllErr K Pr w mg en et) (h5 : AllHd K Pr w mg et hn) (h6 : (tbl.map (·.1)).Nodup) (h7 : AllLm K mg tbl cs ds) (h8 : AllOc K mg ot ds 0 oc.oc) (h9 : AllIs K mg et oc.is) : Md ⟨K, w, et, ot, tbl, ls⟩ Pr mg ds bn gn en hn cs gv oc :=
  ⟨fun i d e hn => by
    rcases allFn_get h1 i d e with ⟨_, q⟩ | ⟨_, _, _, q, _⟩
    · exact q
    · exact (hn q).elim, fun i d e cl m hm => by
    rcases allFn_get h1 i d e with ⟨q, _⟩ | ⟨cl', m', q1, _, q3, C, fl, f, fd, r1, r2, r3, r4, r5, r6⟩
    · rw [q] at hm; cases hm
    · rw [q1] at hm
      cases hm
      exact ⟨C, fl, f, fd, r1, r2, r3, r4, r5, r6, q3⟩, fun p hp => allIs_get h9 p hp, fun k n fl i e => by
    have := allOc_get h8 k (n, fl, i) e
    rwa [Nat.zero_add] at this, fun k x e => by
    obtain ⟨v, u, q1, q2, q3⟩ := allGl_get h2 k x e
    exact ⟨v, u, q1, q2, fun d e => q3 d e _ rfl rfl⟩, fun x hx => allNo_get h3 x hx, fun k x e => allErr_get h4 k x e, fun i x hd e X e1 e2 e3 e4 e5 e6 => allHd_get h5 i (x, hd) e ot tbl ls X e1 e2 e3 e4 e5 e6, h6, fun i d t f e => allLm_get h7 i d e t f⟩
end
end Dp
set_option Elab.async false
set_option linter.all false
set_option maxRecDepth 100000
set_option maxHeartbeats 8000000
namespace Dp
/-- r ends well, with Q of what it gives and the store behind it -/
def Runs {α : Type} (r : Res α) (Q : α → Store → Prop) : Prop := ∃ a st, r = .ok a st ∧ Q a st
section
variable {α β : Type} {P : Par} {env : Env} {st : Store}
theorem runs_ok {a : α} {Q : α → Store → Prop} (h : Q a st) : Runs (.ok a st) Q := ⟨a, st, rfl, h⟩
theorem runs_of {r : Res α} {a : α} {Q : α → Store → Prop} (e : r = .ok a st) (h : Q a st) : Runs r Q := ⟨a, st, e, h⟩
theorem Runs.mono {r : Res α} {Q Q' : α → Store → Prop} (h : Runs r Q) (k : ∀ a st, Q a st → Q' a st) : Runs r Q' := by
  obtain ⟨a, st, e, q⟩ := h
  exact ⟨a, st, e, k _ _ q⟩
theorem runs_bind {r : Res α} {f : α → Store → Res β} {Q : β → Store → Prop} (h : Runs r fun a st => Runs (f a st) Q) : Runs (r.bind f) Q := by
  obtain ⟨a, st, e, q⟩ := h
  rw [e]
  exact q
theorem Runs.eq {r : Res α} {a : α} (h : Runs r fun b s => b = a ∧ s = st) : r = .ok a st := by
  obtain ⟨b, s, e, rfl, rfl⟩ := h
  exact e
theorem runs_opt {o : Option α} {a : α} {Q : α → Store → Prop} (e : o = some a) (h : Q a st) : Runs (ofOpt o st) Q := by
  rw [e]
  exact runs_ok h
theorem ev_v {i : Nat} {d : D} (h : getS env i = some d) : (Ex.v i).ev P env st = .ok d st := by
  unfold Ex.ev
  rw [h]
  rfl
theorem runs_gx {b : Bool} {r : Res α} {Q : α → Store → Prop} (h : Runs r Q) : Runs (gx b r) Q := by
  obtain ⟨a, st, e, q⟩ := h
  rw [e]
  cases b <;> exact runs_ok q
theorem r_v {i : Nat} {d : D} {Q : D → Store → Prop} (h : getS env i = some d) (q : Q d st) : Runs ((Ex.v i).ev P env st) Q := runs_of (ev_v h) q
theorem r_lit {d : D} {Q : D → Store → Prop} (q : Q d st) : Runs ((Ex.lit d).ev P env st) Q := runs_of (by unfold Ex.ev; rfl) q
theorem rs_nil {Q : List D → Store → Prop} (q : Q [] st) : Runs (Exs.nil.ev P env st) Q := runs_of (by unfold Exs.ev; rfl) q
theorem rs_cons {e : Ex} {es : Exs} {Q : List D → Store → Prop} (h : Runs (e.ev P env st) fun d st1 => Runs (es.ev P env st1) fun ds st2 => Q (d :: ds) st2) : Runs ((Exs.cons e es).ev P env st) Q := by
  unfold Exs.ev
  exact runs_bind ((runs_gx h).mono fun d st1 q => runs_bind (q.mono fun ds st2 q => runs_ok q))
theorem r_prim {p : Pr} {es : Exs} {Q : D → Store → Prop} (h : Runs (es.ev P env st) fun ds st1 => ∃ d, prEv st1 p ds = some d ∧ Q d st1) : Runs ((Ex.prim p es).ev P env st) Q := by
  unfold Ex.ev
  exact runs_bind (h.mono fun ds st1 ⟨d, e, q⟩ => runs_opt e q)
theorem r_p1 {p : Pr} {a : Ex} {Q : D → Store → Prop} (h : Runs (a.ev P env st) fun x st1 => ∃ d, prEv st1 p [x] = some d ∧ Q d st1) : Runs ((Ex.prim p (.cons a .nil)).ev P env st) Q :=
  r_prim (rs_cons (h.mono fun x st1 q => rs_nil q))
theorem r_p2 {p : Pr} {a b : Ex} {Q : D → Store → Prop} (h : Runs (a.ev P env st) fun x st1 => Runs (b.ev P env st1) fun y st2 => ∃ d, prEv st2 p [x, y] = some d ∧ Q d st2) : Runs ((Ex.prim p (.cons a (.cons b .nil))).ev P env st) Q :=
  r_prim (rs_cons (h.mono fun x st1 q => rs_cons (q.mono fun y st2 q => rs_nil q)))
theorem r_lst {es : Exs} {Q : D → Store → Prop} (h : Runs (es.ev P env st) fun ds st1 => ds.length ≤ LIM ∧ Q (.lst ds) st1) : Runs ((Ex.lst es).ev P env st) Q := by
  unfold Ex.ev
  exact runs_bind (h.mono fun ds st1 ⟨e, q⟩ => runs_opt (by unfold fits; rw [if_pos e]) q)
theorem runs_noExc {r : Res α} {Q : α → Store → Prop} (h : Runs r Q) : Runs (noExc r) Q := by
  obtain ⟨a, st, e, q⟩ := h
  rw [e]
  exact runs_ok q
theorem r_call {f : Nat} {es : Exs} {Q : D → Store → Prop} (h : Runs (es.ev P env st) fun ds st1 => Runs (P.call f ds st1) Q) : Runs ((Ex.call f es).ev P env st) Q := by
  unfold Ex.ev
  exact runs_bind (h.mono fun ds st1 q => runs_noExc q)
theorem r_ife {c a b : Ex} {Q : D → Store → Prop} (h : Runs (c.test P env st) fun t st1 => if t then Runs (a.ev P env st1) Q else Runs (b.ev P env st1) Q) : Runs ((Ex.ife c a b).ev P env st) Q := by
  unfold Ex.ev
  refine runs_bind (h.mono fun t st1 q => ?_)
  cases t
  · exact q
  · exact q
theorem r_new {e : Ex} {Q : D → Store → Prop} (h : Runs (e.ev P env st) fun d st1 => (∃ ds, d = .lst ds ∧ Q (.ref st1.length) (st1 ++ [.lst ds])) ∨ ∃ ks vs, d = .dct ks vs ∧ Q (.ref st1.length) (st1 ++ [.dct ks vs])) : Runs ((Ex.new e).ev P env st) Q := by
  unfold Ex.ev
  refine runs_bind (h.mono fun d st1 q => ?_)
  rcases q with ⟨ds, rfl, q⟩ | ⟨ks, vs, rfl, q⟩
  · exact runs_ok q
  · exact runs_ok q
theorem t_not {a : Ex} {Q : Bool → Store → Prop} (h : Runs (a.test P env st) fun t st1 => Q (!t) st1) : Runs ((Ex.not a).test P env st) Q := by
  unfold Ex.test
  exact runs_bind (h.mono fun t st1 q => runs_ok q)
theorem t_prim {p : Pr} {es : Exs} {Q : Bool → Store → Prop} (h : Runs ((Ex.prim p es).ev P env st) fun d st1 => ∃ t, d.tru = some t ∧ Q t st1) : Runs ((Ex.prim p es).test P env st) Q := by
  unfold Ex.test
  unfold Ex.ev at h
  obtain ⟨d, st1, e, t, e2, q⟩ := h
  obtain ⟨ds, st2, g1, g2⟩ := Res.bind_eq e
  exact runs_bind (runs_of g1 (runs_bind (runs_of g2 (runs_opt e2 q))))
theorem t_call {f : Nat} {es : Exs} {Q : Bool → Store → Prop} (h : Runs ((Ex.call f es).ev P env st) fun d st1 => ∃ t, d.tru = some t ∧ Q t st1) : Runs ((Ex.call f es).test P env st) Q := by
  unfold Ex.test
  unfold Ex.ev at h
  obtain ⟨d, st1, e, t, e2, q⟩ := h
  obtain ⟨ds, st2, g1, g2⟩ := Res.bind_eq e
  exact runs_bind (runs_of g1 (runs_bind (runs_of g2 (runs_opt e2 q))))
theorem i_rng1 {a : Ex} {Q : List D → Store → Prop} (h : Runs (a.ev P env st) fun d st1 => ∃ xs, rng2E (.int 0) d = some xs ∧ Q xs st1) : Runs ((It.rng1 a).ev P env st) Q := by
  unfold It.ev
  exact runs_bind (h.mono fun d st1 ⟨xs, e, q⟩ => runs_opt e q)
/-- by an invariant: turn, what is gathered, the store -/
theorem lcLoop_runs {F : D → Store → Res (List D)} (Inv : Nat → List D → Store → Prop) : ∀ (xs : List D) (i : Nat) (acc : List D) (st : Store),
    (∀ j x acc st, xs[j]? = some x → Inv (i + j) acc st → Runs (F x st) fun r st1 => Inv (i + j + 1) (acc ++ r) st1 ∧ r.length ≤ 1) → Inv i acc st → Runs (lcLoop F xs st) fun r st1 => Inv (i + xs.length) (acc ++ r) st1 ∧ r.length ≤ xs.length
  | [], i, acc, st, _, h => by
    unfold lcLoop
    exact runs_ok ⟨by simpa using h, Nat.le_refl _⟩
  | x :: xs, i, acc, st, hs, h => by
    unfold lcLoop
    refine runs_bind ((hs 0 x acc st rfl h).mono fun r st1 q => runs_bind ?_)
    refine (lcLoop_runs Inv xs (i + 1) (acc ++ r) st1 (fun j y acc' st' hy hi => ?_) q.1).mono fun r2 st2 q2 => runs_ok ⟨?_, ?_⟩
    · have := hs (j + 1) y acc' st' (by simpa using hy) (by rw [show i + (j + 1) = i + 1 + j by omega]; exact hi)
      rw [show i + (j + 1) + 1 = i + 1 + j + 1 by omega] at this
      exact this
    · have := q2.1
      rw [List.append_assoc, show i + 1 + xs.length = i + (x :: xs).length by simp; omega] at this
      exact this
    · have := q.2; have := q2.2; simp; omega
theorem r_lc {own : List Nat} {tg : Tg} {it : It} {ts : Exs} {e : Ex} {Q : D → Store → Prop} (h : Runs (it.ev P env st) fun xs st1 => ∃ Inv : Nat → List D → Store → Prop, xs.length ≤ LIM ∧ Inv 0 [] st1 ∧
    (∀ j x acc st, xs[j]? = some x → Inv j acc st → ∃ env1, tg.put x (wipeE env own) = some env1 ∧ Runs (ts.all P env1 st) fun t st2 => if t then Runs (e.ev P env1 st2) fun y st3 => Inv (j + 1) (acc ++ [y]) st3 else Inv (j + 1) acc st2) ∧
    ∀ acc st', Inv xs.length acc st' → acc.length ≤ xs.length → Q (.lst acc) st') : Runs ((Ex.lc own tg it ts e).ev P env st) Q := by
  unfold Ex.ev
  refine runs_bind (h.mono fun xs st1 ⟨Inv, hl, h0, hs, hq⟩ => runs_bind ?_)
  refine runs_noExc ((lcLoop_runs Inv xs 0 [] st1 (fun j x acc st hx hi => ?_) h0).mono fun r st2 ⟨q1, q2⟩ => ?_)
  · rw [Nat.zero_add] at hi ⊢
    obtain ⟨env1, hp, q⟩ := hs j x acc st hx hi
    simp only [hp]
    refine runs_bind (q.mono fun t st2 q => ?_)
    cases t
    · exact runs_ok ⟨by rw [List.append_nil]; exact q, Nat.zero_le _⟩
    · exact runs_bind (Runs.mono q fun y st3 q => runs_ok ⟨q, Nat.le_refl _⟩)
  · refine runs_opt (a := .lst r) (by unfold fits; rw [if_pos (Nat.le_trans q2 hl)]) ?_
    rw [Nat.zero_add, List.nil_append] at q1
    exact hq r st2 q1 q2
/-- nothing but values -/
theorem r_lcP {β : Type} {own : List Nat} {tg : Tg} {it : It} {ts : Exs} {e : Ex} {Q : D → Store → Prop} (ys : List β) (f : β → D) (p : β → Bool) (g : β → D) (hi : it.ev P env st = .ok (ys.map f) st) (hl : ys.length ≤ LIM)
    (hs : ∀ y ∈ ys, ∃ env1, tg.put (f y) (wipeE env own) = some env1 ∧ ts.all P env1 st = .ok (p y) st ∧ (p y = true → e.ev P env1 st = .ok (g y) st)) (q : Q (.lst ((ys.filter p).map g)) st) : Runs ((Ex.lc own tg it ts e).ev P env st) Q := by
  refine r_lc (runs_of hi ⟨fun j acc s => s = st ∧ acc = ((ys.take j).filter p).map g, by simpa using hl, ⟨rfl, rfl⟩, fun j x acc s hx ⟨es, ea⟩ => ?_, fun acc s ⟨es, ea⟩ _ => ?_⟩)
  · subst es ea
    rw [List.getElem?_map] at hx
    cases hy : ys[j]? with
    | none => rw [hy] at hx; cases hx
    | some y =>
      rw [hy] at hx
      cases hx
      obtain ⟨env1, h1, h2, h3⟩ := hs y (List.mem_of_getElem? hy)
      refine ⟨env1, h1, runs_of h2 ?_⟩
      have tk : ys.take (j + 1) = ys.take j ++ [y] := by rw [List.take_add_one, hy]; rfl
      cases hp : p y with
      | true =>
        refine runs_of (h3 hp) ⟨rfl, ?_⟩
        rw [tk, List.filter_append, List.map_append, List.filter_cons, hp]
        rfl
      | false =>
        refine ⟨rfl, ?_⟩
        rw [tk, List.filter_append, List.map_append, List.filter_cons, hp]
        simp
  · subst es ea
    rw [List.length_map, List.take_length]
    exact q
abbrev SQ := Flow × Env → Store → Prop
theorem s_nil {Q : SQ} (q : Q (.next, env) st) : Runs (Ss.nil.ex P env st) Q := runs_of (by unfold Ss.ex; rfl) q
theorem s_cons {s : St} {r : Ss} {Q : SQ} (h : Runs (s.ex P env st) fun p st1 => match p.1 with
    | .next => Runs (r.ex P p.2 st1) Q
    | fl => Q (fl, p.2) st1) : Runs ((Ss.cons s r).ex P env st) Q := by
  unfold Ss.ex
  have h : Runs (if s.mayX = true then s.ex P env st else noExc (s.ex P env st)) fun p st1 => match p.1 with
    | .next => Runs (r.ex P p.2 st1) Q
    | fl => Q (fl, p.2) st1 := by
    cases s.mayX
    · exact runs_noExc h
    · exact h
  refine runs_bind (h.mono fun p st1 q => ?_)
  obtain ⟨fl, env1⟩ := p
  cases fl with
  | next => exact q
  | brk => exact runs_ok q
  | cont => exact runs_ok q
  | ret d => exact runs_ok q
theorem s_ret {e : Ex} {Q : SQ} (h : Runs (e.ev P env st) fun d st1 => Q (.ret d, env) st1) : Runs ((St.ret e).ex P env st) Q := by
  unfold St.ex
  exact runs_bind ((runs_gx h).mono fun d st1 q => runs_ok q)
theorem s_asg {t : Tg} {e : Ex} {Q : SQ} (h : Runs (e.ev P env st) fun d st1 => ∃ env1, t.put d env = some env1 ∧ Q (.next, env1) st1) : Runs ((St.asg t e).ex P env st) Q := by
  unfold St.ex
  refine runs_bind ((runs_gx h).mono fun d st1 ⟨env1, e1, q⟩ => ?_)
  rw [e1]
  exact runs_ok q
theorem s_put {a k e : Ex} {Q : SQ} (h : Runs (e.ev P env st) fun v st1 => Runs (a.ev P env st1) fun o st2 => Runs (k.ev P env st2) fun kd st3 => ∃ st4, putCell st3 o kd v = some st4 ∧ Q (.next, env) st4) : Runs ((St.put a k e).ex P env st) Q := by
  unfold St.ex
  refine runs_bind (h.mono fun v st1 q => runs_bind (q.mono fun o st2 q => runs_bind (q.mono fun kd st3 ⟨st4, e1, q⟩ => ?_)))
  rw [e1]
  exact runs_ok q
theorem s_ifs {c : Ex} {a b : Ss} {Q : SQ} (h : Runs (c.test P env st) fun t st1 => if t then Runs (a.ex P env st1) Q else Runs (b.ex P env st1) Q) : Runs ((St.ifs c a b).ex P env st) Q := by
  unfold St.ex
  refine runs_bind ((runs_noExc h).mono fun t st1 q => ?_)
  cases t
  · exact q
  · exact q
/-- by an invariant: turn, the slots, the store -/
theorem forLoop_runs {tg : Tg} {f : Env → Store → Res (Flow × Env)} {Q : SQ} (Inv : Nat → Env → Store → Prop) : ∀ (xs : List D) (i : Nat) (env : Env) (st : Store),
    (∀ j x env st, xs[j]? = some x → Inv (i + j) env st → ∃ env1, tg.put x env = some env1 ∧ Runs (f env1 st) fun p st1 => match p.1 with
      | .next => Inv (i + j + 1) p.2 st1
      | .cont => Inv (i + j + 1) p.2 st1
      | .brk => Q (.next, p.2) st1
      | .ret d => Q (.ret d, p.2) st1) → Inv i env st → (∀ env st, Inv (i + xs.length) env st → Q (.next, env) st) → Runs (forLoop tg f xs env st) Q
  | [], i, env, st, _, h, hq => by
    unfold forLoop
    exact runs_ok (hq env st h)
  | x :: xs, i, env, st, hs, h, hq => by
    unfold forLoop
    obtain ⟨env1, e1, q⟩ := hs 0 x env st rfl h
    rw [e1]
    refine runs_bind (q.mono fun p st1 q => ?_)
    have next : Inv (i + 1) p.2 st1 → Runs (forLoop tg f xs p.2 st1) Q := fun hi => by
      refine forLoop_runs Inv xs (i + 1) p.2 st1 (fun j y env' st' hy hi' => ?_) hi fun env' st' hi' => hq env' st' ?_
      · have := hs (j + 1) y env' st' (by simpa using hy) (by rw [show i + (j + 1) = i + 1 + j by omega]; exact hi')
        rw [show i + (j + 1) + 1 = i + 1 + j + 1 by omega] at this
        exact this
      · rw [show i + (x :: xs).length = i + 1 + xs.length by simp; omega]
        exact hi'
    obtain ⟨fl, env2⟩ := p
    cases fl with
    | next => exact next q
    | cont => exact next q
    | brk => exact runs_ok q
    | ret d => exact runs_ok q
theorem s_for {tg : Tg} {it : It} {b : Ss} {Q : SQ} (h : Runs (it.ev P env st) fun xs st1 => ∃ Inv : Nat → Env → Store → Prop, Inv 0 env st1 ∧
    (∀ j x env st, xs[j]? = some x → Inv j env st → ∃ env1, tg.put x env = some env1 ∧ Runs (b.ex P env1 st) fun p st1 => match p.1 with
      | .next => Inv (j + 1) p.2 st1
      | .cont => Inv (j + 1) p.2 st1
      | .brk => Q (.next, p.2) st1
      | .ret d => Q (.ret d, p.2) st1) ∧ ∀ env st, Inv xs.length env st → Q (.next, env) st) : Runs ((St.for tg it b).ex P env st) Q := by
  unfold St.ex
  refine runs_bind ((runs_noExc h).mono fun xs st1 ⟨Inv, h0, hs, hq⟩ => ?_)
  refine forLoop_runs Inv xs 0 env st1 (fun j x env st hx hi => ?_) h0 fun env st hi => hq env st (by rw [Nat.zero_add] at hi; exact hi)
  rw [Nat.zero_add] at hi ⊢
  exact hs j x env st hx hi
/-- a def -/
theorem run_of {T : List Fd} {gv : List D} {wf n k : Nat} {fd : Fd} {ds : List D} {Q : D → Store → Prop} (hT : T[k]? = some fd) (hl : ds.length = fd.np) (h : Runs (fd.body.ex ⟨gv, wf, run T gv wf n, n⟩ (ds.map (fun d => some (false, d)) ++ List.replicate (fd.ns - fd.np) none) st) fun p st1 => match p.1 with
    | .next => Q .non st1
    | .ret d => Q d st1
    | _ => False) : Runs (run T gv wf (n + 1) k ds st) Q := by
  unfold run
  rw [hT]
  simp only [if_pos hl]
  obtain ⟨p, st1, e, q⟩ := h
  rw [e]
  obtain ⟨fl, env1⟩ := p
  cases fl with
  | next => exact runs_ok q
  | brk => exact q.elim
  | cont => exact q.elim
  | ret d => exact runs_ok q
end
end Dp
set_option Elab.async false
set_option linter.all false
set_option maxRecDepth 100000
set_option maxHeartbeats 8000000
namespace Dp
open PySem
def nD (n : Nat) : D := .int n
def ti (l : List Nat) : D := .tup (l.map nD)
def tl (ls : List (List Nat)) : D := .tup (ls.map ti)
/-- a list of plain things against the empty one -/
theorem lay_lst {ds : List D} {k : Nat} (h : ∀ d ∈ ds, D.lay k d = true) : D.lay (k + 1) (.lst ds) = true := by
  unfold D.lay
  simpa [List.all_eq_true] using h
theorem ne_nil {ds : List D} (h : ∀ d ∈ ds, D.lay 29 d = true) : coEv .ne (.lst ds) (.lst []) = some (!ds.isEmpty) := by
  show (if eqOk (.lst ds) (.lst []) = true then some (!D.eqb (.lst ds) (.lst [])) else none) = _
  have : eqOk (.lst ds) (.lst []) = true := by
    unfold eqOk
    rw [show DEEP = 29 + 1 from rfl, lay_lst h, lay_lst (by simp)]
    rfl
  rw [this]
  cases ds <;> rfl
def lx : List Nat → List Nat → Bool
  | x :: xs, y :: ys => if x = y then lx xs ys else decide (x < y)
  | [], _ :: _ => true
  | _, _ => false
end Dp
set_option Elab.async false
set_option linter.all false
set_option maxRecDepth 100000
set_option maxHeartbeats 8000000
namespace Dp
open PySem
end Dp
set_option Elab.async false
set_option linter.all false
set_option maxRecDepth 100000
set_option maxHeartbeats 8000000
namespace Dp
open PySem
section
variable {β : Type}
def aget : List (List Nat × β) → List Nat → Option β
  | [], _ => none
  | p :: r, k => if p.1 = k then some p.2 else aget r k
def aset : List (List Nat × β) → List Nat → β → List (List Nat × β)
  | [], _, _ => []
  | p :: r, k, v => (if p.1 = k then (p.1, v) else p) :: aset r k v
def aput (l : List (List Nat × β)) (k : List Nat) (v : β) : List (List Nat × β) := if (aget l k).isSome then aset l k v else l ++ [(k, v)]
theorem aget_cons (p : List Nat × β) (r : List (List Nat × β)) (k : List Nat) : aget (p :: r) k = if p.1 = k then some p.2 else aget r k := rfl
theorem aset_keys (l : List (List Nat × β)) (k : List Nat) (v : β) : (aset l k v).map (·.1) = l.map (·.1) := by
  induction l with
  | nil => rfl
  | cons p r ih =>
    unfold aset
    rw [List.map_cons, ih, List.map_cons]
    by_cases h : p.1 = k
    · rw [if_pos h]
    · rw [if_neg h]
theorem aget_none {l : List (List Nat × β)} {k : List Nat} (h : (aget l k).isSome = false) : k ∉ l.map (·.1) := by
  induction l with
  | nil => simp
  | cons p r ih =>
    rw [aget_cons] at h
    by_cases c : p.1 = k
    · rw [if_pos c] at h; cases h
    · rw [if_neg c] at h
      rw [List.map_cons, List.mem_cons]
      rintro (z | z)
      · exact c z.symm
      · exact ih h z
theorem aput_keys (l : List (List Nat × β)) (k : List Nat) (v : β) : (aput l k v).map (·.1) = if (aget l k).isSome then l.map (·.1) else l.map (·.1) ++ [k] := by
  unfold aput
  split
  · exact aset_keys l k v
  · rw [List.map_append]; rfl
/-- keys of a sort, each once -/
structure AOk (p : List Nat → Prop) (l : List (List Nat × β)) : Prop where
  nd : (l.map (·.1)).Nodup
  ks : ∀ k ∈ l.map (·.1), p k
theorem AOk.nil {p : List Nat → Prop} : AOk p ([] : List (List Nat × β)) := ⟨by simp, by simp⟩
theorem AOk.put {p : List Nat → Prop} {l : List (List Nat × β)} (h : AOk p l) {k : List Nat} (v : β) (hk : p k) : AOk p (aput l k v) := by
  have e := aput_keys l k v
  cases q : (aget l k).isSome with
  | true =>
    rw [q, if_pos rfl] at e
    exact ⟨by rw [e]; exact h.nd, by rw [e]; exact h.ks⟩
  | false =>
    rw [q, if_neg Bool.false_ne_true] at e
    refine ⟨by rw [e, List.nodup_append]; exact ⟨h.nd, by simp, fun a ha b hb z => by simp at hb; subst hb; subst z; exact aget_none q ha⟩, fun x hx => ?_⟩
    rw [e, List.mem_append] at hx
    rcases hx with hx | hx
    · exact h.ks x hx
    · simp at hx; subst hx; exact hk
end
end Dp
set_option Elab.async false
set_option linter.all false
set_option maxRecDepth 100000
set_option maxHeartbeats 4000000
namespace Dp
open PySem
/-- the signs of what is shown -/
def cs (d : D) : List Nat := d.toP.shown.cps.toList
def jn : List (List Nat) → List Nat
  | [] => []
  | [x] => x
  | x :: y :: r => x ++ (44 :: 32 :: jn (y :: r))
def rest (f : List (List Nat)) (T : List Nat) : List Nat := match f with
  | [] => T
  | x :: r => 44 :: 32 :: (jn (x :: r) ++ T)
end Dp
set_option Elab.async false
set_option linter.all false
set_option maxRecDepth 100000
set_option maxHeartbeats 8000000
namespace Dp
open PySem PySem.Spec PyProof.Rows L2 PySem.W
theorem hev_super {msg : Str} {j : Nat} {p0 p1 p2 p3 p4 : Pos} (hl : (p2.endLine == p4.line) = true) (env : PySem.Env) :
    eval (.Call (.Attribute (.Call (.Name "super" p0) [] [] p1) "__init__" p2) [.Constant (.str msg) j p3] [] p4) env = (do
      let ov ← attributeBase (.Call (.Name "super" p0) [] [] p1) "__init__" env (eval (.Call (.Name "super" p0) [] [] p1) env)
      standAt p2.atName
      let (f, first) ← holding [ov] (getMethod ov "__init__" (pure false))
      callWith p4 f first (backTo p4 (starEach [.Constant (.str msg) j p3] env)) []) := by
  rw [arm_eval_Call]
  have e : (fun ov => methodCall (.Call (.Name "super" p0) [] [] p1) "__init__" p2 p4 env ov ([Expr.Constant (.str msg) j p3].length + ([] : List Keyword).length) (backTo p4 (starEach [.Constant (.str msg) j p3] env)) (backToKw p4 (keywordEach [] env))) = fun ov => (do
      let (f, first) ← holding [ov] (getMethod ov "__init__" (pure false))
      callWith p4 f first (backTo p4 (starEach [.Constant (.str msg) j p3] env)) []) := by
    funext ov
    rw [L2.mcall_line rfl hl]
    have hp : L2.plainOf (.Call (.Name "super" p0) [] [] p1) env = pure false := by
      unfold L2.plainOf importBound
      simp
    rw [hp]
    rfl
  exact congrArg (fun t : Value → Sem Value => (do
      let ov ← attributeBase (.Call (.Name "super" p0) [] [] p1) "__init__" env (eval (.Call (.Name "super" p0) [] [] p1) env)
      standAt p2.atName
      t ov)) e
/-- the facts of the class that the kernel checks -/
def errB (b : EB) (K : PySem.W.Frag) (C fI : Addr) (f : Str) : Bool :=
  decide (PySem.W.findIn K (.ref C) "__setattr__" = some (some (.builtin "object.__setattr__"))) && (decide (PySem.W.subIn K (.ref C) (.type "BaseException") = some true) && (decide (PySem.W.typeIn K (.ref C) = some (.type "type")) && (PySem.W.keepIn K (.ref C) &&
  (decide (PySem.W.findIn K (.ref C) f = some none) && (decide (ks_superIn K C C "__init__" = some (some (.builtin b.ini))) && (decide (PySem.W.subIn K (.ref C) (.type b.B) = some true) && (decide (PySem.W.mroIn K C (.ref C) = some true) &&
  (decide (nsIn K cStatics "thirdparty.any" = some none) && (decide (nsIn K mainGlobals "super" = some none) && decide (PySem.W.typeIn K (.ref fI) = some (.type "function")))))))))))
theorem er_at (b : EB) (O : EBok b) {K : PySem.W.Frag} {h : Heap} {mg : Str → Option Value} {Pr : Program} {w : World} {x f msg slf y q nm : Str} {C fI cda cc N : Addr} {bs bm : List Value} {sn : List Str} {sub : List Value} {ab : Bool} {col : Option Bool} {dd : Option Addr} {k0 k1 k2 k3 k5 : Option Value}
    {qual : Str} {params : Arguments} {scope : Scope} {kV doc pm ct oc ccl cl : Value} {an od cdd cld : Option Addr} {osl ccs csl : Array (Option Value)} {vs : Array Value} {file : Str} {tf : Tok} {ar : Arg} {fs fs0 : List Str} {j : Nat} {p0 p1 p2 p3 p4 p5 q1 q2 q3 q4 : Pos}
    (X : K.In h) (G : h.Ns mainGlobals mg) (a : PySem.W.nsIn K mainGlobals x = some (some (.ref C)))
    (lc : K.lookup C = some (excClassObj nm q C N bs bm true sn sub ab col dd k0 k1 k2 k3 k5 b.ne)) (hbm : excTail b.bm bm = true) (b11 : PySem.W.findIn K (.ref C) "__init__" = some (some (.ref fI))) (eb : errB b K C fI f = true) (hfs : fs = [f]) (hfs0 : fs0 = [f]) (ee : PySem.W.exmOne K (.ref C) (.ref C) = some true) (xb : L2.xfB K C = true)
    (lk : K.lookup fI = some ⟨oc, od, .func (ksFn "__init__" qual params [.Expr (.Call (.Attribute (.Call (.Name "super" p0) [] [] p1) "__init__" p2) [.Constant (.str msg) j p3] [] p4) p5, .Assign [.Attribute (.Name slf q1) f q2] (.Name y q3) q4] scope .none kV doc pm an (.ref cda) ct cc), osl⟩)
    (hcd : codeIn K (.ref cda) qual = true) (hcode : K.lookup cda = some ⟨ccl, cdd, .fields vs, ccs⟩) (hvs : vs[2]? = some (.str file tf)) (hfile : ((Pr.main.file : Str) == file) = true)
    (hcell : K.lookup cc = some ⟨cl, cld, .cell (some (.ref C)), csl⟩)
    (hp : (params.posonlyargs ++ params.args).head? = some ar) (har : ar.arg = slf) (hne : slf ≠ y)
    (hks : scope.names.lookup ("super" : Str) = some .globalImplicit) (hkc : scope.names.lookup ("__class__" : Str) = some .free) (hka : scope.names.lookup slf = some .local) (hkx : scope.names.lookup y = some .local) (hk : scope.kind = .function)
    (hco : scope.isCoroutine = false) (hgen : scope.isGenerator = false) (hcells : (scope.names.all fun z => !decide (z.2 = .cell)) = true)
    (htop : (Pr.main.scope.names.lookup ("super" : Str)).isSome = false) (hd1 : (slf == ("__debug__" : Str)) = false) (hd2 : (y == ("__debug__" : Str)) = false) (hl : (p2.endLine == p4.line) = true)
    (hb : ∀ (kV doc pm : Value) (an : Option Addr) (cdv ct : Value) (us : List Value), us.length = 2 → bindArgs (ksFn "__init__" qual params [.Expr (.Call (.Attribute (.Call (.Name "super" p0) [] [] p1) "__init__" p2) [.Constant (.str msg) j p3] [] p4) p5, .Assign [.Attribute (.Name slf q1) f q2] (.Name y q3) q4] scope .none kV doc pm an cdv ct cc) ⟨us, []⟩ = pure ([slf, y].zip us)) :
    (mg x = some (.ref C) ∧ fs = fs0) ∧ ErrAt K Pr w C fs := by
  simp only [errB, Bool.and_eq_true, decide_eq_true_eq] at eb
  obtain ⟨b1, b2, b3, b4, b5, b6, b7, b8, b9, b10, b12⟩ := eb
  have T : OexG b K C := ⟨⟨_, _, _, _, _, _, _, _, _, _, _, _, _, _, _, lc, hbm⟩, b1, b2, b3, b4⟩
  subst hfs hfs0
  refine ⟨⟨PySem.W.mg_of X G a, rfl⟩, ⟨b, O, T⟩, ⟨ee, L2.xfB_ok xb, fun f' hf => by rw [List.mem_singleton] at hf; rw [hf]; exact b5⟩, fI, _, [slf, y], b11, b12, .all fun us hl => hb kV doc pm an (.ref cda) ct us hl, fun f' hf mg base k => ?_, fun f' f2 hf => absurd hf (by simp)⟩
  cases hf
  exact err_init lk hcd hcode hvs hfile hcell (eb := b) ⟨O, T, b5, b6, b7, b8, b9, b10⟩ hp har hne hks hkc hka hkx hk hco hgen (fun z hz => by
    have := List.all_eq_true.mp hcells z hz
    simpa using this) htop (by decide +kernel) hd1 hd2 (hev_super hl)
theorem er_at2 (b : EB) (O : EBok b) {K : PySem.W.Frag} {h : Heap} {mg : Str → Option Value} {Pr : Program} {w : World} {x f f2 msg slf y y2 q nm : Str} {C fI cda cc N : Addr} {bs bm : List Value} {sn : List Str} {sub : List Value} {ab : Bool} {col : Option Bool} {dd : Option Addr} {k0 k1 k2 k3 k5 : Option Value}
    {qual : Str} {params : Arguments} {scope : Scope} {kV doc pm ct oc ccl cl : Value} {an od cdd cld : Option Addr} {osl ccs csl : Array (Option Value)} {vs : Array Value} {file : Str} {tf : Tok} {ar : Arg} {fs fs0 : List Str} {j : Nat} {p0 p1 p2 p3 p4 p5 q1 q2 q3 q4 q5 q6 q7 q8 : Pos}
    (X : K.In h) (G : h.Ns mainGlobals mg) (a : PySem.W.nsIn K mainGlobals x = some (some (.ref C)))
    (lc : K.lookup C = some (excClassObj nm q C N bs bm true sn sub ab col dd k0 k1 k2 k3 k5 b.ne)) (hbm : excTail b.bm bm = true) (b11 : PySem.W.findIn K (.ref C) "__init__" = some (some (.ref fI))) (eb : errB b K C fI f = true) (fn2 : PySem.W.findIn K (.ref C) f2 = some none) (hff : f ≠ f2) (hfs : fs = [f, f2]) (hfs0 : fs0 = [f, f2]) (ee : PySem.W.exmOne K (.ref C) (.ref C) = some true) (xb : L2.xfB K C = true)
    (lk : K.lookup fI = some ⟨oc, od, .func (ksFn "__init__" qual params [.Expr (.Call (.Attribute (.Call (.Name "super" p0) [] [] p1) "__init__" p2) [.Constant (.str msg) j p3] [] p4) p5, .Assign [.Attribute (.Name slf q1) f q2] (.Name y q3) q4, .Assign [.Attribute (.Name slf q5) f2 q6] (.Name y2 q7) q8] scope .none kV doc pm an (.ref cda) ct cc), osl⟩)
    (hcd : codeIn K (.ref cda) qual = true) (hcode : K.lookup cda = some ⟨ccl, cdd, .fields vs, ccs⟩) (hvs : vs[2]? = some (.str file tf)) (hfile : ((Pr.main.file : Str) == file) = true)
    (hcell : K.lookup cc = some ⟨cl, cld, .cell (some (.ref C)), csl⟩)
    (hp : (params.posonlyargs ++ params.args).head? = some ar) (har : ar.arg = slf) (hne : slf ≠ y) (hne2 : slf ≠ y2) (hyy : y ≠ y2)
    (hks : scope.names.lookup ("super" : Str) = some .globalImplicit) (hkc : scope.names.lookup ("__class__" : Str) = some .free) (hka : scope.names.lookup slf = some .local) (hkx : scope.names.lookup y = some .local) (hkx2 : scope.names.lookup y2 = some .local) (hk : scope.kind = .function)
    (hco : scope.isCoroutine = false) (hgen : scope.isGenerator = false) (hcells : (scope.names.all fun z => !decide (z.2 = .cell)) = true)
    (htop : (Pr.main.scope.names.lookup ("super" : Str)).isSome = false) (hd1 : (slf == ("__debug__" : Str)) = false) (hd2 : (y == ("__debug__" : Str)) = false) (hd3 : (y2 == ("__debug__" : Str)) = false) (hl : (p2.endLine == p4.line) = true)
    (hb : ∀ (kV doc pm : Value) (an : Option Addr) (cdv ct : Value) (us : List Value), us.length = 3 → bindArgs (ksFn "__init__" qual params [.Expr (.Call (.Attribute (.Call (.Name "super" p0) [] [] p1) "__init__" p2) [.Constant (.str msg) j p3] [] p4) p5, .Assign [.Attribute (.Name slf q1) f q2] (.Name y q3) q4, .Assign [.Attribute (.Name slf q5) f2 q6] (.Name y2 q7) q8] scope .none kV doc pm an cdv ct cc) ⟨us, []⟩ = pure ([slf, y, y2].zip us)) :
    (mg x = some (.ref C) ∧ fs = fs0) ∧ ErrAt K Pr w C fs := by
  simp only [errB, Bool.and_eq_true, decide_eq_true_eq] at eb
  obtain ⟨b1, b2, b3, b4, b5, b6, b7, b8, b9, b10, b12⟩ := eb
  have T : OexG b K C := ⟨⟨_, _, _, _, _, _, _, _, _, _, _, _, _, _, _, lc, hbm⟩, b1, b2, b3, b4⟩
  subst hfs hfs0
  refine ⟨⟨PySem.W.mg_of X G a, rfl⟩, ⟨b, O, T⟩, ⟨ee, L2.xfB_ok xb, fun f' hf => by
    rcases List.mem_cons.mp hf with e | e
    · rw [e]; exact b5
    · rw [List.mem_singleton] at e; rw [e]; exact fn2⟩, fI, _, [slf, y, y2], b11, b12, .all fun us hl => hb kV doc pm an (.ref cda) ct us hl, fun f' hf => absurd hf (by simp), fun f' f2' hf => ?_⟩
  cases hf
  refine ⟨hff, fun mg base k => ?_⟩
  exact err_init2 lk hcd hcode hvs hfile hcell (eb := b) ⟨O, T, b5, b6, b7, b8, b9, b10⟩ fn2 hff hp har hne hne2 hyy hks hkc hka hkx hkx2 hk hco hgen (fun z hz => by
    have := List.all_eq_true.mp hcells z hz
    simpa using this) htop (by decide +kernel) hd1 hd2 hd3 (hev_super hl)
end Dp
set_option Elab.async false
set_option linter.all false
set_option maxRecDepth 100000
set_option maxHeartbeats 8000000
namespace Dp
/-- r ends well with Q, or raises with X -/
def Ends {α : Type} (r : Res α) (Q : α → Store → Prop) (X : Nat → List D → Store → Prop) : Prop := match r with
  | .ok a st => Q a st
  | .exc c ds st => X c ds st
  | .stuck => False
section
variable {α β : Type} {P : Par} {env : Env} {st : Store} {X : Nat → List D → Store → Prop}
theorem Ends.mono {r : Res α} {Q Q' : α → Store → Prop} {X' : Nat → List D → Store → Prop} (h : Ends r Q X) (k : ∀ a st, Q a st → Q' a st) (kx : ∀ c ds st, X c ds st → X' c ds st) : Ends r Q' X' := by
  cases r with
  | ok a st => exact k _ _ h
  | exc c ds st => exact kx _ _ _ h
  | stuck => exact h
theorem Ends.exc {r : Res α} {c : Nat} {ds : List D} (h : Ends r (fun _ _ => False) (fun c' ds' st' => c' = c ∧ ds' = ds ∧ st' = st)) : r = .exc c ds st := by
  cases r with
  | ok a st => exact h.elim
  | exc c ds st =>
    obtain ⟨rfl, rfl, rfl⟩ := h
    rfl
  | stuck => exact h.elim
end
end Dp
set_option Elab.async false
set_option linter.all false
set_option maxRecDepth 100000
set_option maxHeartbeats 8000000
namespace Dp
open PySem
structure Lin {α : Type} (lt : α → α → Bool) : Prop where
  irr : ∀ a, lt a a = false
  trans : ∀ {a b c : α}, lt a b = true → lt b c = true → lt a c = true
  tri : ∀ a b : α, lt a b = true ∨ a = b ∨ lt b a = true
section
variable {α : Type} {lt : α → α → Bool}
theorem Lin.le_trans (L : Lin lt) : ∀ a b c : α, (!lt b a) = true → (!lt c b) = true → (!lt c a) = true := by
  intro a b c h g
  simp only [Bool.not_eq_true'] at *
  rcases L.tri c a with q | q | q
  · exfalso
    rcases L.tri b c with p | p | p
    · have := L.trans p q; rw [this] at h; cases h
    · subst p; rw [q] at h; cases h
    · rw [p] at g; cases g
  · subst q; exact L.irr _
  · cases e : lt c a with
    | false => rfl
    | true =>
      have := L.trans q e
      rw [L.irr] at this
      cases this
end
end Dp
set_option Elab.async false
set_option linter.all false
set_option maxRecDepth 100000
set_option maxHeartbeats 8000000
namespace Dp
end Dp
set_option Elab.async false
set_option linter.all false
set_option maxRecDepth 100000
set_option maxHeartbeats 4000000
namespace Dp
open PySem
end Dp
set_option Elab.async false
set_option linter.all false
set_option maxRecDepth 100000
set_option maxHeartbeats 4000000
namespace Dp
open PySem
def sOk (d : D) : Bool := d.toP.showable && d.toP.intsShort 200
def wt (d : D) : Nat := d.toP.weight
/-- a thing of at most so many levels that can be shown -/
structure Be (n : Nat) (d : D) : Prop where
  l : D.lay n d = true ∨ D.shT n d = true
  s : sOk d = true
theorem lay_up : ∀ (n m : Nat) (d : D), n ≤ m → D.lay n d = true → D.lay m d = true
  | n, m, d, hn, h => by
    cases d with
    | tup ds =>
      cases n with
      | zero => simp [D.lay] at h
      | succ n =>
        cases m with
        | zero => omega
        | succ m =>
          simp only [D.lay, List.all_eq_true] at h ⊢
          exact fun d hd => lay_up n m d (by omega) (h d hd)
    | lst ds =>
      cases n with
      | zero => simp [D.lay] at h
      | succ n =>
        cases m with
        | zero => omega
        | succ m =>
          simp only [D.lay, List.all_eq_true] at h ⊢
          exact fun d hd => lay_up n m d (by omega) (h d hd)
    | str s => cases n <;> cases m <;> exact h
    | non => cases m <;> rfl
    | bl b => cases m <;> rfl
    | int i => cases m <;> rfl
    | _ => cases n <;> simp [D.lay] at h
theorem shT_up : ∀ (n m : Nat) (d : D), n ≤ m → D.shT n d = true → D.shT m d = true
  | n, m, d, hn, h => by
    cases d with
    | tup ds =>
      cases n with
      | zero => simp [D.shT] at h
      | succ n =>
        cases m with
        | zero => omega
        | succ m =>
          simp only [D.shT, List.all_eq_true] at h ⊢
          exact fun d hd => shT_up n m d (by omega) (h d hd)
    | dct ks vs =>
      cases n with
      | zero => simp [D.shT] at h
      | succ n =>
        cases m with
        | zero => omega
        | succ m => exact h
    | str s => cases n <;> cases m <;> exact h
    | non => cases m <;> rfl
    | bl b => cases m <;> rfl
    | int i => cases m <;> rfl
    | _ => cases n <;> simp [D.shT] at h
theorem Be.up {n m : Nat} {d : D} (h : Be n d) (l : n ≤ m) : Be m d := ⟨h.l.imp (lay_up n m d l) (shT_up n m d l), h.s⟩
end Dp
set_option Elab.async false
set_option linter.all false
set_option maxRecDepth 100000
set_option maxHeartbeats 4000000
namespace Dp
open PySem
end Dp
set_option Elab.async false
set_option linter.all false
set_option maxRecDepth 100000
set_option maxHeartbeats 4000000
namespace Dp
open PySem
end Dp
set_option Elab.async false
set_option linter.all false
set_option maxRecDepth 100000
set_option maxHeartbeats 8000000
namespace K37
open Dp
def top (i : Nat) : PySem.Stmt := PySem.Challenge.pw_safeground_k37_errors_by_hand.main.body.getD i (.Pass ⟨0, 0, 0, 0⟩)
/-- 0 0:_law_cell 1:_law_k -/
def b_0 : Ss :=
    (.cons (.asg (.name 0) (.prim (.bo .mod) (.cons (.prim (.bi .int) (.cons (.v 0) .nil)) (.cons (.lit (.int 2147483647)) .nil))))
    (.cons (.ret (.prim (.bo .mod) (.cons (.prim (.bo .mul) (.cons (.prim (.bo .mod) (.cons (.prim (.bo .add) (.cons (.prim (.bo .add) (.cons (.prim (.bo .mul) (.cons (.v 0) (.cons (.prim (.bo .add) (.cons (.lit (.int 48271)) (.cons (.prim (.bo .mul) (.cons (.prim (.bo .mul) (.cons (.lit (.int 2)) (.cons (.v 1) .nil))) (.cons (.v 1) .nil))) .nil))) .nil))) (.cons (.prim (.bo .mul) (.cons (.lit (.int 69621)) (.cons (.v 1) .nil))) .nil))) (.cons (.lit (.int 11)) .nil))) (.cons (.lit (.int 2147483647)) .nil))) (.cons (.lit (.int 69621)) .nil))) (.cons (.lit (.int 2147483629)) .nil))))
    .nil))
/-- 1 0:_law_script 1:_law_cells 2:_law_cell -/
def b_1 : Ss :=
    (.cons (.asg (.name 1) (.ife (.prim (.co .ne) (.cons (.v 0) (.cons (.lst .nil) .nil))) (.prim (.bi .list) (.cons (.v 0) .nil)) (.lst (.cons (.lit (.int 0)) .nil))))
    (.cons (.ret (.new (.dict (.cons (.lit (.str "cells")) (.cons (.lit (.str "lefts")) (.cons (.lit (.str "at")) (.cons (.lit (.str "room")) .nil)))) (.cons (.v 1) (.cons (.new (.lc [2] (.name 2) (.ex (.v 1)) .nil (.ife (.prim (.co .ge) (.cons (.v 2) (.cons (.prim (.bo .pow) (.cons (.lit (.int 10)) (.cons (.lit (.int 18)) .nil))) .nil))) (.v 2) (.lit (.int 0))))) (.cons (.lit (.int 0)) (.cons (.lit (.int 0)) .nil)))))))
    .nil))
/-- 2 0:_law_state 1:_law_many 2:_law_at 3:_law_place 4:_law_left 5:_law_number -/
def b_2 : Ss :=
    (.cons (.asg (.name 2) (.prim .sub (.cons (.v 0) (.cons (.lit (.str "at")) .nil))))
    (.cons (.put (.v 0) (.lit (.str "at")) (.prim (.bo .add) (.cons (.v 2) (.cons (.lit (.int 1)) .nil))))
    (.cons (.asg (.name 3) (.prim (.bo .mod) (.cons (.prim (.bi .int) (.cons (.v 2) .nil)) (.cons (.prim (.bi .len) (.cons (.prim .sub (.cons (.v 0) (.cons (.lit (.str "cells")) .nil))) .nil)) .nil))))
    (.cons (.asg (.name 4) (.prim .sub (.cons (.prim .sub (.cons (.v 0) (.cons (.lit (.str "lefts")) .nil))) (.cons (.v 3) .nil))))
    (.cons (.ifs (.prim (.co .gt) (.cons (.v 4) (.cons (.lit (.int 0)) .nil))) (.cons (.put (.prim .sub (.cons (.v 0) (.cons (.lit (.str "lefts")) .nil))) (.v 3) (.prim (.bo .fdiv) (.cons (.v 4) (.cons (.v 1) .nil))))
    (.cons (.ret (.prim (.bo .mod) (.cons (.prim (.bi .int) (.cons (.v 4) .nil)) (.cons (.v 1) .nil))))
    .nil)) .nil)
    (.cons (.asg (.name 5) (.call 0 (.cons (.call 0 (.cons (.prim .sub (.cons (.prim .sub (.cons (.v 0) (.cons (.lit (.str "cells")) .nil))) (.cons (.v 3) .nil))) (.cons (.v 2) .nil))) (.cons (.prim (.bo .add) (.cons (.lit (.int 40)) (.cons (.v 2) .nil))) .nil))))
    (.cons (.ret (.prim (.bo .mod) (.cons (.prim (.bo .fdiv) (.cons (.prim (.bi .int) (.cons (.prim (.bo .add) (.cons (.prim (.bo .mul) (.cons (.v 5) (.cons (.lit (.int 2147483647)) .nil))) (.cons (.call 0 (.cons (.v 5) (.cons (.prim (.bo .add) (.cons (.lit (.int 7)) (.cons (.v 2) .nil))) .nil))) .nil))) .nil)) (.cons (.lit (.int 64)) .nil))) (.cons (.v 1) .nil))))
    .nil)))))))
/-- 3 0:_law_state 1:_law_some -/
def b_3 : Ss :=
    (.cons (.ret (.prim .sub (.cons (.v 1) (.cons (.call 2 (.cons (.v 0) (.cons (.prim (.bi .len) (.cons (.v 1) .nil)) .nil))) .nil))))
    .nil)
/-- 4 0:_law_error 1:_law_some -/
def b_4 : Ss :=
    (.cons (.asg (.name 1) (.lst (.cons (.isx "GroundError" [0, 1, 2, 3, 4, 5, 6, 7, 11, 12, 13, 14, 15, 16, 17, 18, 19, 20, 21, 22] (.v 0)) (.cons (.isx "ValueError" [0, 1, 2, 3, 4, 5, 6, 7, 11, 12, 13, 14, 15, 16, 17, 18, 19, 20, 21, 22] (.v 0)) (.cons (.isx "OverflowError" [8] (.v 0)) .nil)))))
    (.cons (.ret (.prim (.bo .add) (.cons (.v 1) (.cons (.lst (.cons (.isx "KeyError" [9] (.v 0)) (.cons (.isx "RuntimeError" [10] (.v 0)) .nil))) .nil))))
    .nil))
/-- 5 0:_law_error 1:_law_some -/
def b_5 : Ss :=
    (.cons (.asg (.name 1) (.lst (.cons (.isx "BadSpace" [11] (.v 0)) (.cons (.isx "BadNumber" [12] (.v 0)) (.cons (.isx "BadRules" [13] (.v 0)) .nil)))))
    (.cons (.asg (.name 1) (.prim (.bo .add) (.cons (.v 1) (.cons (.lst (.cons (.isx "BadSystem" [17] (.v 0)) (.cons (.isx "BadTold" [18] (.v 0)) (.cons (.isx "BadGrounds" [19] (.v 0)) .nil)))) .nil))))
    (.cons (.asg (.name 1) (.prim (.bo .add) (.cons (.v 1) (.cons (.lst (.cons (.isx "BadTerm" [20] (.v 0)) (.cons (.isx "BadCast" [21] (.v 0)) (.cons (.isx "BadPaper" [22] (.v 0)) .nil)))) .nil))))
    (.cons (.asg (.name 1) (.prim (.bo .add) (.cons (.v 1) (.cons (.lst (.cons (.isx "BadLot" [0] (.v 0)) (.cons (.isx "BadPoint" [1] (.v 0)) (.cons (.isx "BadView" [2] (.v 0)) .nil)))) .nil))))
    (.cons (.asg (.name 1) (.prim (.bo .add) (.cons (.v 1) (.cons (.lst (.cons (.isx "BadCover" [3] (.v 0)) (.cons (.isx "BadCrew" [4] (.v 0)) (.cons (.isx "BadManner" [5] (.v 0)) .nil)))) .nil))))
    (.cons (.asg (.name 1) (.prim (.bo .add) (.cons (.v 1) (.cons (.lst (.cons (.isx "BadRow" [6] (.v 0)) (.cons (.isx "BadGoal" [14] (.v 0)) (.cons (.isx "BadHearing" [15] (.v 0)) .nil)))) .nil))))
    (.cons (.asg (.name 1) (.prim (.bo .add) (.cons (.v 1) (.cons (.lst (.cons (.isx "BadName" [16] (.v 0)) (.cons (.isx "BadText" [7] (.v 0)) (.cons (.isx "TooMany" [8] (.v 0)) .nil)))) .nil))))
    (.cons (.ret (.prim (.bo .add) (.cons (.v 1) (.cons (.lst (.cons (.isx "Missing" [9] (.v 0)) (.cons (.isx "NothingLeft" [10] (.v 0)) .nil))) .nil))))
    .nil))))))))
/-- 6 0:_law_error 1:_law_field_here -/
def b_6 : Ss :=
    (.cons (.ifs (.prim (.co .eq) (.cons (.v 1) (.cons (.lit (.str "number")) .nil))) (.cons (.ret (.efld "number" [11, 12, 13, 17, 18, 19] 0 (.v 0)))
    .nil) .nil)
    (.cons (.ifs (.prim (.co .eq) (.cons (.v 1) (.cons (.lit (.str "path")) .nil))) (.cons (.ret (.efld "path" [20, 21] 0 (.v 0)))
    .nil) .nil)
    (.cons (.ret (.ife (.prim (.co .eq) (.cons (.v 1) (.cons (.lit (.str "part")) .nil))) (.efld "part" [22] 0 (.v 0)) (.efld "given" [0, 1, 2, 3, 4, 5, 6, 9, 14, 15, 16] 0 (.v 0))))
    .nil)))
/-- 7 0:_law_one 1:_law_other 2:_law_rows 3:_law_some 4:_law_marks_here 5:_law_kinds 6:_law_due 7:_law_k 8:_law_text 9:_law_great 10:_law_lost 11:_law_none_left 12:_law_error 13:_law_field_here 14:_law_n 15:_law_row -/
def b_7 : Ss :=
    (.cons (.asg (.name 2) (.lst (.cons (.tup (.cons (.mke 11 1 (.cons (.v 0) .nil)) (.cons (.lit (.str "number")) .nil))) (.cons (.tup (.cons (.mke 12 1 (.cons (.v 0) .nil)) (.cons (.lit (.str "number")) .nil))) (.cons (.tup (.cons (.mke 13 1 (.cons (.v 0) .nil)) (.cons (.lit (.str "number")) .nil))) .nil)))))
    (.cons (.asg (.name 2) (.prim (.bo .add) (.cons (.v 2) (.cons (.lst (.cons (.tup (.cons (.mke 17 1 (.cons (.v 0) .nil)) (.cons (.lit (.str "number")) .nil))) (.cons (.tup (.cons (.mke 18 1 (.cons (.v 0) .nil)) (.cons (.lit (.str "number")) .nil))) (.cons (.tup (.cons (.mke 19 1 (.cons (.v 0) .nil)) (.cons (.lit (.str "number")) .nil))) .nil)))) .nil))))
    (.cons (.asg (.name 2) (.prim (.bo .add) (.cons (.v 2) (.cons (.lst (.cons (.tup (.cons (.mke 20 1 (.cons (.v 0) .nil)) (.cons (.lit (.str "path")) .nil))) (.cons (.tup (.cons (.mke 21 1 (.cons (.v 0) .nil)) (.cons (.lit (.str "path")) .nil))) (.cons (.tup (.cons (.mke 22 1 (.cons (.v 0) .nil)) (.cons (.lit (.str "part")) .nil))) .nil)))) .nil))))
    (.cons (.asg (.name 3) (.lst (.cons (.mke 0 1 (.cons (.v 0) .nil)) (.cons (.mke 1 1 (.cons (.v 0) .nil)) (.cons (.mke 2 1 (.cons (.v 0) .nil)) (.cons (.mke 3 1 (.cons (.v 0) .nil)) (.cons (.mke 4 1 (.cons (.v 0) .nil)) (.cons (.mke 5 1 (.cons (.v 0) .nil)) (.cons (.mke 6 1 (.cons (.v 0) .nil)) .nil)))))))))
    (.cons (.asg (.name 3) (.prim (.bo .add) (.cons (.v 3) (.cons (.lst (.cons (.mke 14 1 (.cons (.v 0) .nil)) (.cons (.mke 15 1 (.cons (.v 0) .nil)) (.cons (.mke 16 1 (.cons (.v 0) .nil)) .nil)))) .nil))))
    (.cons (.for (.pair (.name 7) (.pair (.name 12) (.name 13))) (.enum (.prim (.bo .add) (.cons (.v 2) (.cons (.lc [12] (.name 12) (.ex (.v 3)) .nil (.tup (.cons (.v 12) (.cons (.lit (.str "given")) .nil)))) .nil)))) (.cons (.ifs (.prim (.co .ne) (.cons (.prim (.bi .repr) (.cons (.call 6 (.cons (.v 12) (.cons (.v 13) .nil))) .nil)) (.cons (.prim (.bi .repr) (.cons (.v 0) .nil)) .nil))) (.cons (.ret (.lit (.bl false)))
    .nil) .nil)
    (.cons (.ifs (.prim (.co .ne) (.cons (.call 5 (.cons (.v 12) .nil)) (.cons (.lc [14] (.name 14) (.rng1 (.lit (.int 23))) .nil (.prim (.co .eq) (.cons (.v 14) (.cons (.v 7) .nil)))) .nil))) (.cons (.ret (.lit (.bl false)))
    .nil) .nil)
    (.cons (.ifs (.prim (.co .ne) (.cons (.call 4 (.cons (.v 12) .nil)) (.cons (.lst (.cons (.lit (.bl true)) (.cons (.lit (.bl true)) (.cons (.lit (.bl false)) (.cons (.lit (.bl false)) (.cons (.lit (.bl false)) .nil)))))) .nil))) (.cons (.ret (.lit (.bl false)))
    .nil) .nil)
    .nil))))
    (.cons (.asg (.quad (.name 8) (.name 9) (.name 10) (.name 11)) (.tup (.cons (.mke 7 2 (.cons (.v 0) (.cons (.v 1) .nil))) (.cons (.mke 8 1 (.cons (.v 0) .nil)) (.cons (.mke 9 1 (.cons (.v 0) .nil)) (.cons (.mke 10 1 (.cons (.v 0) .nil)) .nil))))))
    (.cons (.ifs (.prim (.co .ne) (.cons (.prim (.bi .reprl) (.cons (.lst (.cons (.efld "line" [7] 0 (.v 8)) (.cons (.efld "word" [7] 1 (.v 8)) (.cons (.efld "most" [8] 0 (.v 9)) (.cons (.efld "given" [0, 1, 2, 3, 4, 5, 6, 9, 14, 15, 16] 0 (.v 10)) (.cons (.efld "many" [10] 0 (.v 11)) .nil)))))) .nil)) (.cons (.prim (.bi .reprl) (.cons (.lst (.cons (.v 0) (.cons (.v 1) (.cons (.v 0) (.cons (.v 0) (.cons (.v 0) .nil)))))) .nil)) .nil))) (.cons (.ret (.lit (.bl false)))
    .nil) .nil)
    (.cons (.asg (.name 4) (.lst (.cons (.call 5 (.cons (.v 8) .nil)) (.cons (.call 5 (.cons (.v 9) .nil)) (.cons (.call 5 (.cons (.v 10) .nil)) (.cons (.call 5 (.cons (.v 11) .nil)) .nil))))))
    (.cons (.ifs (.prim (.co .ne) (.cons (.v 4) (.cons (.lc [7] (.name 7) (.rng2 (.lit (.int 19)) (.lit (.int 23))) .nil (.lc [14] (.name 14) (.rng1 (.lit (.int 23))) .nil (.prim (.co .eq) (.cons (.v 14) (.cons (.v 7) .nil))))) .nil))) (.cons (.ret (.lit (.bl false)))
    .nil) .nil)
    (.cons (.asg (.name 5) (.lst (.cons (.call 4 (.cons (.v 8) .nil)) (.cons (.call 4 (.cons (.v 9) .nil)) (.cons (.call 4 (.cons (.v 10) .nil)) (.cons (.call 4 (.cons (.v 11) .nil)) .nil))))))
    (.cons (.asg (.name 6) (.lc [14] (.name 14) (.rng2 (.lit (.int 1)) (.lit (.int 5))) .nil (.lc [7] (.name 7) (.rng2 (.lit (.int 1)) (.lit (.int 5))) .nil (.prim (.co .eq) (.cons (.v 7) (.cons (.v 14) .nil))))))
    (.cons (.ret (.prim (.co .eq) (.cons (.v 5) (.cons (.lc [14, 15] (.pair (.name 14) (.name 15)) (.zipr (.lit (.int 1)) (.lit (.int 5)) (.v 6)) .nil (.prim (.bo .add) (.cons (.lst (.cons (.prim (.co .eq) (.cons (.v 14) (.cons (.lit (.int 1)) .nil))) .nil)) (.cons (.v 15) .nil)))) .nil))))
    .nil)))))))))))))
/-- 8 0:_law_script 1:_law_state 2:_law_some 3:_law_turn -/
def b_8 : Ss :=
    (.cons (.asg (.name 1) (.call 1 (.cons (.v 0) .nil)))
    (.cons (.asg (.name 2) (.lst (.cons (.lit .non) (.cons (.lit (.int 0)) (.cons (.prim .neg (.cons (.lit (.int 1)) .nil)) (.cons (.prim (.bo .pow) (.cons (.lit (.int 10)) (.cons (.lit (.int 30)) .nil))) (.cons (.lit (.str "")) (.cons (.lit (.str "x y")) (.cons (.tup .nil) (.cons (.tup (.cons (.lit (.str "a")) (.cons (.lit (.int 0)) .nil))) (.cons (.lst (.cons (.lit (.int 1)) .nil)) (.cons (.dict .nil .nil) (.cons (.lit (.bl true)) (.cons (.tup (.cons (.tup (.cons (.lit (.int 0)) (.cons (.lit (.int 0)) .nil))) (.cons (.tup (.cons (.lit (.str "w")) .nil)) .nil))) .nil))))))))))))))
    (.cons (.for (.name 3) (.rng1 (.prim (.bo .add) (.cons (.lit (.int 3)) (.cons (.prim (.bi .min2) (.cons (.lit (.int 4)) (.cons (.prim (.bi .len) (.cons (.v 0) .nil)) .nil))) .nil)))) (.cons (.ifs (.not (.call 7 (.cons (.call 3 (.cons (.v 1) (.cons (.v 2) .nil))) (.cons (.call 3 (.cons (.v 1) (.cons (.v 2) .nil))) .nil)))) (.cons (.ret (.lit (.bl false)))
    .nil) .nil)
    .nil))
    (.cons (.ret (.lit (.bl true)))
    .nil))))
def ds : List Df := [
  ⟨"_law_mixed", ["_law_cell", "_law_k"], ["_law_cell", "_law_k"], top 26, "_law_mixed", none, none⟩,
  ⟨"_law_begin", ["_law_script", "_law_cells", "_law_cell"], ["_law_script"], top 27, "_law_begin", none, none⟩,
  ⟨"_law_draw", ["_law_state", "_law_many", "_law_at", "_law_place", "_law_left", "_law_number"], ["_law_state", "_law_many"], top 28, "_law_draw", none, none⟩,
  ⟨"_law_of", ["_law_state", "_law_some"], ["_law_state", "_law_some"], top 29, "_law_of", none, none⟩,
  ⟨"_law_kinds_of", ["_law_error", "_law_some"], ["_law_error"], top 30, "_law_kinds_of", none, none⟩,
  ⟨"_law_marks", ["_law_error", "_law_some"], ["_law_error"], top 31, "_law_marks", none, none⟩,
  ⟨"_law_field", ["_law_error", "_law_field_here"], ["_law_error", "_law_field_here"], top 32, "_law_field", none, none⟩,
  ⟨"_law_right", ["_law_one", "_law_other", "_law_rows", "_law_some", "_law_marks_here", "_law_kinds", "_law_due", "_law_k", "_law_text", "_law_great", "_law_lost", "_law_none_left", "_law_error", "_law_field_here", "_law_n", "_law_row"], ["_law_one", "_law_other"], top 33, "_law_right", none, none⟩,
  ⟨"law", ["_law_script", "_law_state", "_law_some", "_law_turn"], ["_law_script"], top 34, "law", none, none⟩]
def T : List Fd := [⟨2, 2, b_0⟩, ⟨1, 3, b_1⟩, ⟨2, 6, b_2⟩, ⟨2, 2, b_3⟩, ⟨1, 2, b_4⟩, ⟨1, 2, b_5⟩, ⟨2, 2, b_6⟩, ⟨2, 16, b_7⟩, ⟨1, 4, b_8⟩]
def bn : List PySem.Str := ["enumerate", "int", "isinstance", "len", "list", "min", "range", "repr", "zip"]
def gn : List PySem.Str := []
def en : List (PySem.Str × List PySem.Str) := [("BadLot", ["given"]), ("BadPoint", ["given"]), ("BadView", ["given"]), ("BadCover", ["given"]), ("BadCrew", ["given"]), ("BadManner", ["given"]), ("BadRow", ["given"]), ("BadText", ["line", "word"]), ("TooMany", ["most"]), ("Missing", ["given"]), ("NothingLeft", ["many"]), ("BadSpace", ["number"]), ("BadNumber", ["number"]), ("BadRules", ["number"]), ("BadGoal", ["given"]), ("BadHearing", ["given"]), ("BadName", ["given"]), ("BadSystem", ["number"]), ("BadTold", ["number"]), ("BadGrounds", ["number"]), ("BadTerm", ["path"]), ("BadCast", ["path"]), ("BadPaper", ["part"])]
def hn : List (PySem.Str × Hd) := []
def oc : OcX := ⟨[], [("GroundError", none, [0, 1, 2, 3, 4, 5, 6, 7, 11, 12, 13, 14, 15, 16, 17, 18, 19, 20, 21, 22]), ("ValueError", (some "ValueError"), [0, 1, 2, 3, 4, 5, 6, 7, 11, 12, 13, 14, 15, 16, 17, 18, 19, 20, 21, 22]), ("OverflowError", (some "OverflowError"), [8]), ("KeyError", (some "KeyError"), [9]), ("RuntimeError", (some "RuntimeError"), [10]), ("BadSpace", none, [11]), ("BadNumber", none, [12]), ("BadRules", none, [13]), ("BadSystem", none, [17]), ("BadTold", none, [18]), ("BadGrounds", none, [19]), ("BadTerm", none, [20]), ("BadCast", none, [21]), ("BadPaper", none, [22]), ("BadLot", none, [0]), ("BadPoint", none, [1]), ("BadView", none, [2]), ("BadCover", none, [3]), ("BadCrew", none, [4]), ("BadManner", none, [5]), ("BadRow", none, [6]), ("BadGoal", none, [14]), ("BadHearing", none, [15]), ("BadName", none, [16]), ("BadText", none, [7]), ("TooMany", none, [8]), ("Missing", none, [9]), ("NothingLeft", none, [10])]⟩
def gv : List D := []
theorem ok_0 : dfOk bn (ds.map (·.name)) gn en hn (lsB bn gn T) oc (ds.map (·.mt)) (ds[0]'(by decide)) (T[0]'(by decide)) = true := by rfl
theorem ok_1 : dfOk bn (ds.map (·.name)) gn en hn (lsB bn gn T) oc (ds.map (·.mt)) (ds[1]'(by decide)) (T[1]'(by decide)) = true := by rfl
theorem ok_2 : dfOk bn (ds.map (·.name)) gn en hn (lsB bn gn T) oc (ds.map (·.mt)) (ds[2]'(by decide)) (T[2]'(by decide)) = true := by rfl
theorem ok_3 : dfOk bn (ds.map (·.name)) gn en hn (lsB bn gn T) oc (ds.map (·.mt)) (ds[3]'(by decide)) (T[3]'(by decide)) = true := by rfl
theorem ok_4 : dfOk bn (ds.map (·.name)) gn en hn (lsB bn gn T) oc (ds.map (·.mt)) (ds[4]'(by decide)) (T[4]'(by decide)) = true := by rfl
theorem ok_5 : dfOk bn (ds.map (·.name)) gn en hn (lsB bn gn T) oc (ds.map (·.mt)) (ds[5]'(by decide)) (T[5]'(by decide)) = true := by rfl
theorem ok_6 : dfOk bn (ds.map (·.name)) gn en hn (lsB bn gn T) oc (ds.map (·.mt)) (ds[6]'(by decide)) (T[6]'(by decide)) = true := by rfl
theorem ok_7 : dfOk bn (ds.map (·.name)) gn en hn (lsB bn gn T) oc (ds.map (·.mt)) (ds[7]'(by decide)) (T[7]'(by decide)) = true := by rfl
theorem ok_8 : dfOk bn (ds.map (·.name)) gn en hn (lsB bn gn T) oc (ds.map (·.mt)) (ds[8]'(by decide)) (T[8]'(by decide)) = true := by rfl
end K37
set_option Elab.async false
set_option linter.all false
set_option maxRecDepth 100000
set_option maxHeartbeats 8000000
namespace K37
open Dp
theorem rngFrom_n : ∀ (n a : Nat), rngFrom a n = (List.range' a n).map nD
  | 0, a => rfl
  | n + 1, a => by
    have := rngFrom_n n (a + 1)
    show D.int a :: rngFrom ((a : Int) + 1) n = _
    rw [show ((a : Int) + 1) = ((a + 1 : Nat) : Int) by omega, this]
    rfl
theorem rngD_n (a b : Nat) : rngD a b = (List.range' a (b - a)).map nD := by
  unfold rngD
  rw [show ((b : Int) - (a : Int)).toNat = b - a by omega, rngFrom_n]
theorem okR_n {a : Nat} (h : a ≤ 1000) : okR a = true := by
  unfold okR
  simp only [Bool.and_eq_true, decide_eq_true_eq]
  omega
theorem rng2_n {a b : Nat} (ha : a ≤ 1000) (hb : b ≤ 1000) : rng2E (nD a) (nD b) = some ((List.range' a (b - a)).map nD) := by
  show (if okR a && okR b then some (rngD a b) else none) = _
  rw [okR_n ha, okR_n hb, rngD_n]; rfl
theorem rng1_n {b : Nat} (hb : b ≤ 1000) : rng2E (.int 0) (nD b) = some ((List.range b).map nD) := by
  have := rng2_n (a := 0) (b := b) (by omega) hb
  rw [Nat.sub_zero, ← List.range_eq_range'] at this
  exact this
theorem one_lim {d : D} : [d].length ≤ LIM := by unfold LIM; simp
theorem filt_true {α : Type} (l : List α) : l.filter (fun _ => true) = l := List.filter_eq_self.mpr fun _ _ => rfl
theorem rg_get {k j : Nat} {x : D} (hx : ((List.range k).map nD)[j]? = some x) : j < k ∧ x = nD j := by
  rw [List.getElem?_map] at hx
  by_cases h : j < k
  · rw [List.getElem?_range h] at hx
    exact ⟨h, (Option.some.inj hx).symm⟩
  · rw [List.getElem?_eq_none (by simpa using h)] at hx
    cases hx
theorem add_n (a b : Nat) {st : Store} : prEv st (.bo .add) [nD a, nD b] = some (nD (a + b)) := by
  show some (D.int ((a : Int) + (b : Int))) = _
  rw [show ((a : Int) + (b : Int)) = ((a + b : Nat) : Int) by omega]
  rfl
end K37
set_option Elab.async false
set_option linter.all false
set_option maxRecDepth 100000
set_option maxHeartbeats 8000000
namespace K37
open Dp
def stD (cells : List Int) (a : Nat) : D := .dct [.str "cells", .str "lefts", .str "at", .str "room"] [.lst (cells.map .int), .ref 0, nD a, .int 0]
def stO (cells lefts : List Int) (a : Nat) : Store := [.lst (lefts.map .int), stD cells a]
def StAt (m : Nat) (st : Store) : Prop := ∃ cells lefts a, st = stO cells lefts a ∧ cells.length = lefts.length ∧ 0 < cells.length ∧ a ≤ m
theorem StAt.mono {m m' : Nat} {st : Store} (h : StAt m st) (k : m ≤ m') : StAt m' st := by
  obtain ⟨c, l, a, h1, h2, h3, h4⟩ := h
  exact ⟨c, l, a, h1, h2, h3, by omega⟩
theorem mul_i {i j : Int} {st : Store} (h : (-(2 ^ 64) < i ∧ i < 2 ^ 64) ∨ (-(2 ^ 64) < j ∧ j < 2 ^ 64)) : prEv st (.bo .mul) [.int i, .int j] = some (.int (i * j)) := if_pos h
theorem mod_i {i j : Int} {st : Store} (h : 0 < j) : prEv st (.bo .mod) [.int i, .int j] = some (.int (i % j)) := if_pos h
theorem fdiv_i {i j : Int} {st : Store} (h : 0 < j ∧ j < 1073741824) : prEv st (.bo .fdiv) [.int i, .int j] = some (.int (i / j)) := if_pos h
theorem r_mixed {n : Nat} {st : Store} {c k : Int} {Q : D → Store → Prop} (hn : 1 ≤ n) (hk : -(2 ^ 62) < k ∧ k < 2 ^ 62) (q : ∀ r : Int, Q (.int r) st) : Runs (run T gv 0 n 0 [.int c, .int k] st) Q := by
  obtain ⟨n, rfl⟩ : ∃ j, n = j + 1 := ⟨n - 1, by omega⟩
  refine run_of (fd := ⟨2, 2, b_0⟩) rfl rfl ?_
  refine s_cons (s_asg (r_p2 (r_p1 (r_v rfl ⟨.int c, rfl, r_lit ⟨_, mod_i (by decide), _, rfl, ?_⟩⟩))))
  refine s_cons (s_ret ?_)
  refine r_p2 (r_p2 (r_p2 (r_p2 (r_p2 (r_p2 (r_v rfl (r_p2 (r_lit ?_))))))))
  refine r_p2 (r_p2 (r_lit (r_v rfl ⟨_, mul_i (.inl (by decide)), ?_⟩)))
  refine r_v rfl ⟨_, mul_i (.inr (by omega)), ?_⟩
  refine ⟨.int (48271 + 2 * k * k), rfl, _, mul_i (.inl (by omega)), ?_⟩
  refine r_p2 (r_lit (r_v rfl ⟨_, mul_i (.inl (by decide)), _, rfl, ?_⟩))
  refine r_lit ⟨_, rfl, ?_⟩
  refine r_lit ⟨_, mod_i (by decide), ?_⟩
  refine r_lit ⟨_, mul_i (.inr (by decide)), ?_⟩
  exact r_lit ⟨_, mod_i (by decide), q _⟩
/-- the dict of the state -/
theorem look_at {c l : List Int} {a : Nat} : prEv (stO c l a) .sub [.ref 1, .str "at"] = some (nD a) := by rfl
theorem look_cells {c l : List Int} {a : Nat} : prEv (stO c l a) .sub [.ref 1, .str "cells"] = some (.lst (c.map .int)) := by rfl
theorem look_lefts {c l : List Int} {a : Nat} : prEv (stO c l a) .sub [.ref 1, .str "lefts"] = some (.ref 0) := by rfl
theorem put_at {c l : List Int} {a b : Nat} : putCell (stO c l a) (.ref 1) (.str "at") (nD b) = some (stO c l b) := by rfl
theorem ix_n {n i : Nat} (h : i < n) : ixOf n (i : Int) = some i := by
  unfold ixOf
  rw [if_pos (by omega), if_pos (by omega)]
  simp
theorem look_left {c l : List Int} {a i : Nat} {v : Int} (h : l[i]? = some v) : prEv (stO c l a) .sub [.ref 0, nD i] = some (.int v) := by
  show atD (l.map .int) (i : Int) = _
  unfold atD
  have hi := (List.getElem?_eq_some_iff.mp h).1
  rw [List.length_map, ix_n hi, Option.bind_some, List.getElem?_map, h]
  rfl
theorem look_cell {c : List Int} {st : Store} {i : Nat} {v : Int} (h : c[i]? = some v) : prEv st .sub [.lst (c.map .int), nD i] = some (.int v) := by
  show atD (c.map .int) (i : Int) = _
  unfold atD
  have hi := (List.getElem?_eq_some_iff.mp h).1
  rw [List.length_map, ix_n hi, Option.bind_some, List.getElem?_map, h]
  rfl
theorem put_left {c l : List Int} {a i : Nat} {v : Int} (h : i < l.length) : putCell (stO c l a) (.ref 0) (nD i) (.int v) = some (stO c (l.set i v) a) := by
  show (ixOf (l.map D.int).length (i : Int)).map (fun j => (stO c l a).set 0 (.lst ((l.map .int).set j (.int v)))) = _
  rw [List.length_map, ix_n h, Option.map_some, ← List.map_set]
  rfl
theorem mod_nat {i : Int} {m : Nat} (h : 0 < m) : ∃ r, r < m ∧ D.int (i % (m : Int)) = nD r := by
  refine ⟨(i % (m : Int)).toNat, ?_, ?_⟩
  · have := Int.emod_lt_of_pos i (show (0 : Int) < m by omega)
    have := Int.emod_nonneg i (show (m : Int) ≠ 0 by omega)
    omega
  · have := Int.emod_nonneg i (show (m : Int) ≠ 0 by omega)
    show _ = D.int _
    congr 1
    omega
theorem r_draw {n m many : Nat} {st : Store} {Q : D → Store → Prop} (hn : 2 ≤ n) (hs : StAt m st) (hm : m ≤ 1000000) (h0 : 0 < many) (h1 : many ≤ 1000) (q : ∀ r st', r < many → StAt (m + 1) st' → Q (nD r) st') : Runs (run T gv 0 n 2 [.ref 1, nD many] st) Q := by
  obtain ⟨n, rfl⟩ : ∃ j, n = j + 1 := ⟨n - 1, by omega⟩
  obtain ⟨c, l, a, rfl, hl, hc, ha⟩ := hs
  have hp : a % c.length < c.length := Nat.mod_lt _ hc
  obtain ⟨x, hx⟩ : ∃ x, c[a % c.length]? = some x := ⟨_, List.getElem?_eq_getElem hp⟩
  obtain ⟨v, hv⟩ : ∃ v, l[a % c.length]? = some v := ⟨_, List.getElem?_eq_getElem (hl ▸ hp)⟩
  have am : prEv (stO c l (a + 1)) (.bo .mod) [nD a, .int (c.map D.int).length] = some (nD (a % c.length)) := by
    rw [List.length_map]
    exact (mod_i (by omega)).trans rfl
  refine run_of (fd := ⟨2, 6, b_2⟩) rfl rfl ?_
  refine s_cons (s_asg (r_p2 (r_v rfl (r_lit ⟨_, look_at, _, rfl, ?_⟩))))
  refine s_cons (s_put (r_p2 (r_v rfl (r_lit ⟨_, add_n a 1, r_v rfl (r_lit ⟨_, put_at, ?_⟩)⟩))))
  refine s_cons (s_asg (r_p2 (r_p1 (r_v rfl ⟨nD a, rfl, r_p1 (r_p2 (r_v rfl (r_lit ⟨_, look_cells, .int (c.map D.int).length, rfl, _, am, _, rfl, ?_⟩)))⟩))))
  refine s_cons (s_asg (r_p2 (r_p2 (r_v rfl (r_lit ⟨_, look_lefts, r_v rfl ⟨_, look_left hv, _, rfl, ?_⟩⟩)))))
  refine s_cons (s_ifs (t_prim (r_p2 (r_v rfl (r_lit ⟨.bl (decide (0 < v)), rfl, _, rfl, ?_⟩)))))
  by_cases hpos : 0 < v
  · rw [decide_eq_true hpos]
    obtain ⟨r, hr, er⟩ := mod_nat (i := v) h0
    refine s_cons (s_put (r_p2 (r_v rfl (r_v rfl ⟨_, fdiv_i (by omega), r_p2 (r_v rfl (r_lit ⟨_, look_lefts, r_v rfl ⟨_, put_left (hl ▸ hp), ?_⟩⟩))⟩))))
    refine s_cons (s_ret (r_p2 (r_p1 (r_v rfl ⟨.int v, rfl, r_v rfl ⟨_, mod_i (by omega), ?_⟩⟩))))
    rw [er]
    exact q r _ hr ⟨c, _, a + 1, rfl, by rw [List.length_set]; exact hl, hc, by omega⟩
  · rw [decide_eq_false hpos]
    refine s_nil ?_
    refine s_cons (s_asg (r_call (rs_cons (r_call (rs_cons (r_p2 (r_p2 (r_v rfl (r_lit ⟨_, look_cells, r_v rfl ⟨_, look_cell hx, ?_⟩⟩)))))))))
    refine rs_cons (r_v rfl (rs_nil (r_mixed (by omega) (by omega) fun y => ?_)))
    refine rs_cons (r_p2 (r_lit (r_v rfl ⟨_, add_n 40 a, ?_⟩)))
    refine rs_nil (r_mixed (by omega) (by omega) fun z => ⟨_, rfl, ?_⟩)
    refine s_cons (s_ret ?_)
    refine r_p2 (r_p2 (r_p1 (r_p2 (r_p2 (r_v rfl (r_lit ⟨_, mul_i (.inr (by decide)), ?_⟩))))))
    refine r_call (rs_cons (r_v rfl (rs_cons (r_p2 (r_lit (r_v rfl ⟨_, add_n 7 a, ?_⟩))))))
    refine rs_nil (r_mixed (by omega) (by omega) fun w => ?_)
    refine ⟨.int (z * 2147483647 + w), rfl, .int (z * 2147483647 + w), rfl, r_lit ⟨_, fdiv_i (by decide), r_v rfl ⟨_, mod_i (by omega), ?_⟩⟩⟩
    obtain ⟨r, hr, er⟩ := mod_nat (i := (z * 2147483647 + w) / 64) h0
    show Q (.int ((z * 2147483647 + w) / 64 % (many : Int))) _
    rw [er]
    exact q r _ hr ⟨c, l, a + 1, rfl, hl, hc, by omega⟩
end K37
set_option Elab.async false
set_option linter.all false
set_option maxRecDepth 100000
set_option maxHeartbeats 8000000
namespace K37
open Dp
theorem p_begin (ns : List Int) (h : ns.length ≤ 63) {n : Nat} (hn : 1 ≤ n) {Q : D → Store → Prop} (q : ∀ st, StAt 0 st → Q (.ref 1) st) : Runs (run T gv 0 n 1 [.lst (ns.map .int)] []) Q := by
  obtain ⟨n, rfl⟩ : ∃ j, n = j + 1 := ⟨n - 1, by omega⟩
  have go : ∀ cs : List Int, 0 < cs.length → cs.length ≤ 64 → Runs ((Ss.cons (.ret (.new (.dict (.cons (.lit (.str "cells")) (.cons (.lit (.str "lefts")) (.cons (.lit (.str "at")) (.cons (.lit (.str "room")) .nil)))) (.cons (.v 1) (.cons (.new (.lc [2] (.name 2) (.ex (.v 1)) .nil (.ife (.prim (.co .ge) (.cons (.v 2) (.cons (.prim (.bo .pow) (.cons (.lit (.int 10)) (.cons (.lit (.int 18)) .nil))) .nil))) (.v 2) (.lit (.int 0))))) (.cons (.lit (.int 0)) (.cons (.lit (.int 0)) .nil))))))) .nil).ex ⟨gv, 0, run T gv 0 n, n⟩ [some (false, .lst (ns.map .int)), some (false, .lst (cs.map .int)), none] []) fun p st1 => match p.1 with
    | .next => Q .non st1
    | .ret d => Q d st1
    | _ => False := by
    intro cs h0 h1
    have hlc : (Ex.lc [2] (.name 2) (.ex (.v 1)) .nil (.ife (.prim (.co .ge) (.cons (.v 2) (.cons (.prim (.bo .pow) (.cons (.lit (.int 10)) (.cons (.lit (.int 18)) .nil))) .nil))) (.v 2) (.lit (.int 0)))).ev ⟨gv, 0, run T gv 0 n, n⟩ [some (false, .lst (ns.map .int)), some (false, .lst (cs.map .int)), none] [] = .ok (.lst ((cs.map fun c => if 10 ^ 18 ≤ c then c else 0).map .int)) [] := by
      refine Runs.eq (r_lcP cs D.int (fun _ => true) (fun c => .int (if 10 ^ 18 ≤ c then c else 0)) rfl (by unfold LIM; omega) (fun c hc => ⟨_, rfl, rfl, fun _ => ?_⟩) ⟨?_, rfl⟩)
      · refine Runs.eq (r_ife (t_prim (r_p2 (r_v rfl (r_p2 (r_lit (r_lit ⟨.int (10 ^ 18), rfl, .bl (decide ((10 : Int) ^ 18 ≤ c)), rfl, _, rfl, ?_⟩)))))))
        by_cases hcc : (10 : Int) ^ 18 ≤ c
        · rw [decide_eq_true hcc, if_pos hcc]; exact r_v rfl ⟨rfl, rfl⟩
        · rw [decide_eq_false hcc, if_neg hcc]; exact r_lit ⟨rfl, rfl⟩
      · rw [filt_true, List.map_map]; rfl
    refine s_cons (s_ret (r_new ?_))
    refine runs_of (a := stD cs 0) (st := [.lst ((cs.map fun c => if 10 ^ 18 ≤ c then c else 0).map .int)]) ?_ (.inr ⟨_, _, rfl, ?_⟩)
    · refine Runs.eq ?_
      unfold Ex.ev
      refine runs_bind (rs_cons (r_lit (rs_cons (r_lit (rs_cons (r_lit (rs_cons (r_lit (rs_nil ?_)))))))))
      refine runs_bind (rs_cons (r_v rfl (rs_cons (r_new (runs_of hlc (.inl ⟨_, rfl, rs_cons (r_lit (rs_cons (r_lit (rs_nil ?_))))⟩))))))
      exact runs_opt rfl ⟨rfl, rfl⟩
    · exact q _ ⟨cs, _, 0, rfl, by simp, h0, Nat.le_refl _⟩
  refine run_of (fd := ⟨1, 3, b_1⟩) rfl rfl ?_
  have lay : ∀ d ∈ ns.map D.int, D.lay 29 d = true := fun d hd => by
    obtain ⟨i, _, rfl⟩ := List.mem_map.mp hd
    rfl
  refine s_cons (s_asg (r_ife (t_prim (r_p2 (r_v rfl (r_lst (rs_nil ⟨by decide, .bl (!(ns.map D.int).isEmpty), ?_, _, rfl, ?_⟩)))))))
  · show (coEv .ne (.lst (ns.map D.int)) (.lst [])).map D.bl = _
    rw [ne_nil lay]; rfl
  · cases ns with
    | nil => exact r_lst (rs_cons (r_lit (rs_nil ⟨one_lim, _, rfl, go [0] (by decide) (by decide)⟩)))
    | cons i r => exact r_p1 (r_v rfl ⟨_, rfl, _, rfl, go (i :: r) (by simp) (by omega)⟩)
end K37
set_option Elab.async false
set_option linter.all false
set_option maxRecDepth 100000
set_option maxHeartbeats 8000000
namespace K37
open Dp
def okS (r : Res D) : Option Store := match r with | .ok (.bl true) st => some st | _ => none
theorem okS_runs {r : Res D} {st : Store} (h : okS r = some st) : Runs r fun d s => d = .bl true ∧ s = st := by
  unfold okS at h
  split at h
  · cases h
    exact ⟨_, _, rfl, rfl, rfl⟩
  · cases h
def some12 : List D := [.non, .int 0, .int (-1), .int (10 ^ 30), .str "", .str "x y", .tup [], .tup [.str "a", .int 0], .lst [.int 1], .dct [] [], .bl true, .tup [.tup [.int 0, .int 0], .tup [.str "w"]]]
def rightX (c l : List Int) (a : Nat) (x : D) (ys : List D) : List (Option Store) := ys.map fun y => okS (run T gv 0 10 7 [x, y] (stO c l a))
theorem right0_0 (c l : List Int) (a : Nat) : rightX c l a (.non) [.non, .int 0, .int (-1), .str ""] = List.replicate 4 (some (stO c l a)) := by kernel_rfl
theorem right0_1 (c l : List Int) (a : Nat) : rightX c l a (.non) [.str "x y", .tup [], .tup [.str "a", .int 0], .lst [.int 1]] = List.replicate 4 (some (stO c l a)) := by kernel_rfl
theorem right0_2 (c l : List Int) (a : Nat) : rightX c l a (.non) [.dct [] [], .bl true, .tup [.tup [.int 0, .int 0], .tup [.str "w"]]] = List.replicate 3 (some (stO c l a)) := by kernel_rfl
theorem right0_3 (c l : List Int) (a : Nat) : rightX c l a (.non) [.int (10 ^ 30)] = List.replicate 1 (some (stO c l a)) := by kernel_rfl
theorem right1_0 (c l : List Int) (a : Nat) : rightX c l a (.int 0) [.non, .int 0, .int (-1), .str ""] = List.replicate 4 (some (stO c l a)) := by kernel_rfl
theorem right1_1 (c l : List Int) (a : Nat) : rightX c l a (.int 0) [.str "x y", .tup [], .tup [.str "a", .int 0], .lst [.int 1]] = List.replicate 4 (some (stO c l a)) := by kernel_rfl
theorem right1_2 (c l : List Int) (a : Nat) : rightX c l a (.int 0) [.dct [] [], .bl true, .tup [.tup [.int 0, .int 0], .tup [.str "w"]]] = List.replicate 3 (some (stO c l a)) := by kernel_rfl
theorem right1_3 (c l : List Int) (a : Nat) : rightX c l a (.int 0) [.int (10 ^ 30)] = List.replicate 1 (some (stO c l a)) := by kernel_rfl
theorem right2_0 (c l : List Int) (a : Nat) : rightX c l a (.int (-1)) [.non, .int 0, .int (-1), .str ""] = List.replicate 4 (some (stO c l a)) := by kernel_rfl
theorem right2_1 (c l : List Int) (a : Nat) : rightX c l a (.int (-1)) [.str "x y", .tup [], .tup [.str "a", .int 0], .lst [.int 1]] = List.replicate 4 (some (stO c l a)) := by kernel_rfl
theorem right2_2 (c l : List Int) (a : Nat) : rightX c l a (.int (-1)) [.dct [] [], .bl true, .tup [.tup [.int 0, .int 0], .tup [.str "w"]]] = List.replicate 3 (some (stO c l a)) := by kernel_rfl
theorem right2_3 (c l : List Int) (a : Nat) : rightX c l a (.int (-1)) [.int (10 ^ 30)] = List.replicate 1 (some (stO c l a)) := by kernel_rfl
end K37
set_option Elab.async false
set_option linter.all false
set_option maxRecDepth 100000
set_option maxHeartbeats 8000000
namespace K37
open Dp
theorem right4_0 (c l : List Int) (a : Nat) : rightX c l a (.str "") [.non, .int 0, .int (-1), .str ""] = List.replicate 4 (some (stO c l a)) := by kernel_rfl
theorem right4_1 (c l : List Int) (a : Nat) : rightX c l a (.str "") [.str "x y", .tup [], .tup [.str "a", .int 0], .lst [.int 1]] = List.replicate 4 (some (stO c l a)) := by kernel_rfl
theorem right4_2 (c l : List Int) (a : Nat) : rightX c l a (.str "") [.dct [] [], .bl true, .tup [.tup [.int 0, .int 0], .tup [.str "w"]]] = List.replicate 3 (some (stO c l a)) := by kernel_rfl
theorem right4_3 (c l : List Int) (a : Nat) : rightX c l a (.str "") [.int (10 ^ 30)] = List.replicate 1 (some (stO c l a)) := by kernel_rfl
theorem right5_0 (c l : List Int) (a : Nat) : rightX c l a (.str "x y") [.non, .int 0, .int (-1), .str ""] = List.replicate 4 (some (stO c l a)) := by kernel_rfl
theorem right5_1 (c l : List Int) (a : Nat) : rightX c l a (.str "x y") [.str "x y", .tup [], .tup [.str "a", .int 0], .lst [.int 1]] = List.replicate 4 (some (stO c l a)) := by kernel_rfl
theorem right5_2 (c l : List Int) (a : Nat) : rightX c l a (.str "x y") [.dct [] [], .bl true, .tup [.tup [.int 0, .int 0], .tup [.str "w"]]] = List.replicate 3 (some (stO c l a)) := by kernel_rfl
theorem right5_3 (c l : List Int) (a : Nat) : rightX c l a (.str "x y") [.int (10 ^ 30)] = List.replicate 1 (some (stO c l a)) := by kernel_rfl
theorem right6_0 (c l : List Int) (a : Nat) : rightX c l a (.tup []) [.non, .int 0, .int (-1), .str ""] = List.replicate 4 (some (stO c l a)) := by kernel_rfl
theorem right6_1 (c l : List Int) (a : Nat) : rightX c l a (.tup []) [.str "x y", .tup [], .tup [.str "a", .int 0], .lst [.int 1]] = List.replicate 4 (some (stO c l a)) := by kernel_rfl
theorem right6_2 (c l : List Int) (a : Nat) : rightX c l a (.tup []) [.dct [] [], .bl true, .tup [.tup [.int 0, .int 0], .tup [.str "w"]]] = List.replicate 3 (some (stO c l a)) := by kernel_rfl
theorem right6_3 (c l : List Int) (a : Nat) : rightX c l a (.tup []) [.int (10 ^ 30)] = List.replicate 1 (some (stO c l a)) := by kernel_rfl
theorem right7_0 (c l : List Int) (a : Nat) : rightX c l a (.tup [.str "a", .int 0]) [.non, .int 0, .int (-1), .str ""] = List.replicate 4 (some (stO c l a)) := by kernel_rfl
theorem right7_1 (c l : List Int) (a : Nat) : rightX c l a (.tup [.str "a", .int 0]) [.str "x y", .tup [], .tup [.str "a", .int 0], .lst [.int 1]] = List.replicate 4 (some (stO c l a)) := by kernel_rfl
theorem right7_2 (c l : List Int) (a : Nat) : rightX c l a (.tup [.str "a", .int 0]) [.dct [] [], .bl true, .tup [.tup [.int 0, .int 0], .tup [.str "w"]]] = List.replicate 3 (some (stO c l a)) := by kernel_rfl
theorem right7_3 (c l : List Int) (a : Nat) : rightX c l a (.tup [.str "a", .int 0]) [.int (10 ^ 30)] = List.replicate 1 (some (stO c l a)) := by kernel_rfl
end K37
set_option Elab.async false
set_option linter.all false
set_option maxRecDepth 100000
set_option maxHeartbeats 8000000
namespace K37
open Dp
theorem right8_0 (c l : List Int) (a : Nat) : rightX c l a (.lst [.int 1]) [.non, .int 0, .int (-1), .str ""] = List.replicate 4 (some (stO c l a)) := by kernel_rfl
theorem right8_1 (c l : List Int) (a : Nat) : rightX c l a (.lst [.int 1]) [.str "x y", .tup [], .tup [.str "a", .int 0], .lst [.int 1]] = List.replicate 4 (some (stO c l a)) := by kernel_rfl
theorem right8_2 (c l : List Int) (a : Nat) : rightX c l a (.lst [.int 1]) [.dct [] [], .bl true, .tup [.tup [.int 0, .int 0], .tup [.str "w"]]] = List.replicate 3 (some (stO c l a)) := by kernel_rfl
theorem right8_3 (c l : List Int) (a : Nat) : rightX c l a (.lst [.int 1]) [.int (10 ^ 30)] = List.replicate 1 (some (stO c l a)) := by kernel_rfl
theorem right9_0 (c l : List Int) (a : Nat) : rightX c l a (.dct [] []) [.non, .int 0, .int (-1), .str ""] = List.replicate 4 (some (stO c l a)) := by kernel_rfl
theorem right9_1 (c l : List Int) (a : Nat) : rightX c l a (.dct [] []) [.str "x y", .tup [], .tup [.str "a", .int 0], .lst [.int 1]] = List.replicate 4 (some (stO c l a)) := by kernel_rfl
theorem right9_2 (c l : List Int) (a : Nat) : rightX c l a (.dct [] []) [.dct [] [], .bl true, .tup [.tup [.int 0, .int 0], .tup [.str "w"]]] = List.replicate 3 (some (stO c l a)) := by kernel_rfl
theorem right9_3 (c l : List Int) (a : Nat) : rightX c l a (.dct [] []) [.int (10 ^ 30)] = List.replicate 1 (some (stO c l a)) := by kernel_rfl
theorem right10_0 (c l : List Int) (a : Nat) : rightX c l a (.bl true) [.non, .int 0, .int (-1), .str ""] = List.replicate 4 (some (stO c l a)) := by kernel_rfl
theorem right10_1 (c l : List Int) (a : Nat) : rightX c l a (.bl true) [.str "x y", .tup [], .tup [.str "a", .int 0], .lst [.int 1]] = List.replicate 4 (some (stO c l a)) := by kernel_rfl
theorem right10_2 (c l : List Int) (a : Nat) : rightX c l a (.bl true) [.dct [] [], .bl true, .tup [.tup [.int 0, .int 0], .tup [.str "w"]]] = List.replicate 3 (some (stO c l a)) := by kernel_rfl
theorem right10_3 (c l : List Int) (a : Nat) : rightX c l a (.bl true) [.int (10 ^ 30)] = List.replicate 1 (some (stO c l a)) := by kernel_rfl
theorem right11_0 (c l : List Int) (a : Nat) : rightX c l a (.tup [.tup [.int 0, .int 0], .tup [.str "w"]]) [.non, .int 0, .int (-1), .str ""] = List.replicate 4 (some (stO c l a)) := by kernel_rfl
theorem right11_1 (c l : List Int) (a : Nat) : rightX c l a (.tup [.tup [.int 0, .int 0], .tup [.str "w"]]) [.str "x y", .tup [], .tup [.str "a", .int 0], .lst [.int 1]] = List.replicate 4 (some (stO c l a)) := by kernel_rfl
theorem right11_2 (c l : List Int) (a : Nat) : rightX c l a (.tup [.tup [.int 0, .int 0], .tup [.str "w"]]) [.dct [] [], .bl true, .tup [.tup [.int 0, .int 0], .tup [.str "w"]]] = List.replicate 3 (some (stO c l a)) := by kernel_rfl
theorem right11_3 (c l : List Int) (a : Nat) : rightX c l a (.tup [.tup [.int 0, .int 0], .tup [.str "w"]]) [.int (10 ^ 30)] = List.replicate 1 (some (stO c l a)) := by kernel_rfl
end K37
set_option Elab.async false
set_option linter.all false
set_option maxRecDepth 100000
set_option maxHeartbeats 8000000
namespace K37
open Dp
theorem rightS3_0 (c l : List Int) (a : Nat) : rightX c l a (.int (10 ^ 30)) [.non] = List.replicate 1 (some (stO c l a)) := by kernel_rfl
theorem rightS3_1 (c l : List Int) (a : Nat) : rightX c l a (.int (10 ^ 30)) [.int 0] = List.replicate 1 (some (stO c l a)) := by kernel_rfl
theorem rightS3_2 (c l : List Int) (a : Nat) : rightX c l a (.int (10 ^ 30)) [.int (-1)] = List.replicate 1 (some (stO c l a)) := by kernel_rfl
theorem rightS3_3 (c l : List Int) (a : Nat) : rightX c l a (.int (10 ^ 30)) [.int (10 ^ 30)] = List.replicate 1 (some (stO c l a)) := by kernel_rfl
theorem rightS3_4 (c l : List Int) (a : Nat) : rightX c l a (.int (10 ^ 30)) [.str ""] = List.replicate 1 (some (stO c l a)) := by kernel_rfl
theorem rightS3_5 (c l : List Int) (a : Nat) : rightX c l a (.int (10 ^ 30)) [.str "x y"] = List.replicate 1 (some (stO c l a)) := by kernel_rfl
theorem rightS3_6 (c l : List Int) (a : Nat) : rightX c l a (.int (10 ^ 30)) [.tup []] = List.replicate 1 (some (stO c l a)) := by kernel_rfl
theorem rightS3_7 (c l : List Int) (a : Nat) : rightX c l a (.int (10 ^ 30)) [.tup [.str "a", .int 0]] = List.replicate 1 (some (stO c l a)) := by kernel_rfl
theorem rightS3_8 (c l : List Int) (a : Nat) : rightX c l a (.int (10 ^ 30)) [.lst [.int 1]] = List.replicate 1 (some (stO c l a)) := by kernel_rfl
theorem rightS3_9 (c l : List Int) (a : Nat) : rightX c l a (.int (10 ^ 30)) [.dct [] []] = List.replicate 1 (some (stO c l a)) := by kernel_rfl
theorem rightS3_10 (c l : List Int) (a : Nat) : rightX c l a (.int (10 ^ 30)) [.bl true] = List.replicate 1 (some (stO c l a)) := by kernel_rfl
theorem rightS3_11 (c l : List Int) (a : Nat) : rightX c l a (.int (10 ^ 30)) [.tup [.tup [.int 0, .int 0], .tup [.str "w"]]] = List.replicate 1 (some (stO c l a)) := by kernel_rfl
end K37
set_option Elab.async false
set_option linter.all false
set_option maxRecDepth 100000
set_option maxHeartbeats 8000000
namespace K37
open Dp
theorem rightGet {c l : List Int} {a : Nat} {x : D} {ys : List D} {n : Nat} (h : rightX c l a x ys = List.replicate n (some (stO c l a))) {y : D} (hy : y ∈ ys) : okS (run T gv 0 10 7 [x, y] (stO c l a)) = some (stO c l a) := by
  have h3 : okS (run T gv 0 10 7 [x, y] (stO c l a)) ∈ rightX c l a x ys := List.mem_map.mpr ⟨y, hy, rfl⟩
  rw [h] at h3
  exact List.eq_of_mem_replicate h3
theorem right (c l : List Int) (a : Nat) {x y : D} (hx : x ∈ some12) (hy : y ∈ some12) : okS (run T gv 0 10 7 [x, y] (stO c l a)) = some (stO c l a) := by
  have cut : (y ∈ ([.non, .int 0, .int (-1), .str ""] : List D) ∨ y ∈ ([.str "x y", .tup [], .tup [.str "a", .int 0], .lst [.int 1]] : List D)) ∨ y ∈ ([.dct [] [], .bl true, .tup [.tup [.int 0, .int 0], .tup [.str "w"]]] : List D) ∨ y ∈ ([.int (10 ^ 30)] : List D) := by
    simp only [some12, List.mem_cons, List.not_mem_nil, or_false] at hy ⊢
    rcases hy with rfl | rfl | rfl | rfl | rfl | rfl | rfl | rfl | rfl | rfl | rfl | rfl <;> simp
  simp only [some12, List.mem_cons, List.not_mem_nil, or_false] at hx
  rcases hx with rfl | rfl | rfl | rfl | rfl | rfl | rfl | rfl | rfl | rfl | rfl | rfl
  · rcases cut with (h | h) | h | h
    · exact rightGet (right0_0 c l a) h
    · exact rightGet (right0_1 c l a) h
    · exact rightGet (right0_2 c l a) h
    · exact rightGet (right0_3 c l a) h
  · rcases cut with (h | h) | h | h
    · exact rightGet (right1_0 c l a) h
    · exact rightGet (right1_1 c l a) h
    · exact rightGet (right1_2 c l a) h
    · exact rightGet (right1_3 c l a) h
  · rcases cut with (h | h) | h | h
    · exact rightGet (right2_0 c l a) h
    · exact rightGet (right2_1 c l a) h
    · exact rightGet (right2_2 c l a) h
    · exact rightGet (right2_3 c l a) h
  · simp only [some12, List.mem_cons, List.not_mem_nil, or_false] at hy
    rcases hy with rfl | rfl | rfl | rfl | rfl | rfl | rfl | rfl | rfl | rfl | rfl | rfl
    · exact rightGet (rightS3_0 c l a) List.mem_cons_self
    · exact rightGet (rightS3_1 c l a) List.mem_cons_self
    · exact rightGet (rightS3_2 c l a) List.mem_cons_self
    · exact rightGet (rightS3_3 c l a) List.mem_cons_self
    · exact rightGet (rightS3_4 c l a) List.mem_cons_self
    · exact rightGet (rightS3_5 c l a) List.mem_cons_self
    · exact rightGet (rightS3_6 c l a) List.mem_cons_self
    · exact rightGet (rightS3_7 c l a) List.mem_cons_self
    · exact rightGet (rightS3_8 c l a) List.mem_cons_self
    · exact rightGet (rightS3_9 c l a) List.mem_cons_self
    · exact rightGet (rightS3_10 c l a) List.mem_cons_self
    · exact rightGet (rightS3_11 c l a) List.mem_cons_self
  · rcases cut with (h | h) | h | h
    · exact rightGet (right4_0 c l a) h
    · exact rightGet (right4_1 c l a) h
    · exact rightGet (right4_2 c l a) h
    · exact rightGet (right4_3 c l a) h
  · rcases cut with (h | h) | h | h
    · exact rightGet (right5_0 c l a) h
    · exact rightGet (right5_1 c l a) h
    · exact rightGet (right5_2 c l a) h
    · exact rightGet (right5_3 c l a) h
  · rcases cut with (h | h) | h | h
    · exact rightGet (right6_0 c l a) h
    · exact rightGet (right6_1 c l a) h
    · exact rightGet (right6_2 c l a) h
    · exact rightGet (right6_3 c l a) h
  · rcases cut with (h | h) | h | h
    · exact rightGet (right7_0 c l a) h
    · exact rightGet (right7_1 c l a) h
    · exact rightGet (right7_2 c l a) h
    · exact rightGet (right7_3 c l a) h
  · rcases cut with (h | h) | h | h
    · exact rightGet (right8_0 c l a) h
    · exact rightGet (right8_1 c l a) h
    · exact rightGet (right8_2 c l a) h
    · exact rightGet (right8_3 c l a) h
  · rcases cut with (h | h) | h | h
    · exact rightGet (right9_0 c l a) h
    · exact rightGet (right9_1 c l a) h
    · exact rightGet (right9_2 c l a) h
    · exact rightGet (right9_3 c l a) h
  · rcases cut with (h | h) | h | h
    · exact rightGet (right10_0 c l a) h
    · exact rightGet (right10_1 c l a) h
    · exact rightGet (right10_2 c l a) h
    · exact rightGet (right10_3 c l a) h
  · rcases cut with (h | h) | h | h
    · exact rightGet (right11_0 c l a) h
    · exact rightGet (right11_1 c l a) h
    · exact rightGet (right11_2 c l a) h
    · exact rightGet (right11_3 c l a) h
theorem lenl_n {α : Type} (f : α → D) (l : List α) {st : Store} : prEv st (.bi .len) [.lst (l.map f)] = some (nD l.length) := by
  show some (D.int ((l.map f).length : Nat)) = _
  rw [List.length_map]
  rfl
theorem min2_n (a b : Nat) {st : Store} : prEv st (.bi .min2) [nD a, nD b] = some (nD (if b < a then b else a)) := by
  show some (D.int (if ((b : Nat) : Int) < ((a : Nat) : Int) then ((b : Nat) : Int) else ((a : Nat) : Int))) = _
  by_cases c : b < a
  · rw [if_pos (by omega), if_pos c]
    rfl
  · rw [if_neg (by omega), if_neg c]
    rfl
theorem sub_il {α : Type} (f : α → D) {l : List α} {i : Nat} {x : α} (h : l[i]? = some x) {st : Store} : prEv st .sub [.lst (l.map f), nD i] = some (f x) := by
  show atD (l.map f) (i : Int) = _
  unfold atD
  have hi := (List.getElem?_eq_some_iff.mp h).1
  rw [List.length_map, ix_n hi, Option.bind_some, List.getElem?_map, h]
  rfl
theorem r_of {α : Type} {n m : Nat} {st : Store} {f : α → D} {xs : List α} {Q : D → Store → Prop} (hn : 3 ≤ n) (hs : StAt m st) (hm : m ≤ 1000000) (h0 : xs ≠ []) (h1 : xs.length ≤ 1000) (q : ∀ x st', x ∈ xs → StAt (m + 1) st' → Q (f x) st') : Runs (run T gv 0 n 3 [.ref 1, .lst (xs.map f)] st) Q := by
  obtain ⟨n, rfl⟩ : ∃ j, n = j + 1 := ⟨n - 1, by omega⟩
  have hp : 0 < xs.length := by cases xs with | nil => exact (h0 rfl).elim | cons _ _ => simp
  refine run_of (fd := ⟨2, 2, b_3⟩) rfl rfl ?_
  refine s_cons <| s_ret <| r_p2 <| r_v rfl <| r_call <| rs_cons <| r_v rfl <| rs_cons <| r_p1 <| r_v rfl ⟨_, lenl_n f xs, rs_nil <| r_draw (by omega) hs hm hp h1 fun r s1 hr hs1 => ?_⟩
  have hx : xs[r]? = some xs[r] := List.getElem?_eq_getElem hr
  exact ⟨_, sub_il f hx, q _ _ (List.getElem_mem hr) hs1⟩
theorem hevN {n : Nat} (hn : n = 11) (ns : List Int) (hns : ns.length ≤ 63) : Runs (run T gv 0 n 8 [.lst (ns.map .int)] []) fun d _ => d = .bl true := by
  obtain ⟨m, rfl⟩ : ∃ m, n = m + 1 := ⟨10, hn⟩
  have hm : m = 10 := by omega
  refine run_of (fd := ⟨1, 4, b_8⟩) rfl rfl ?_
  refine s_cons <| s_asg <| r_call <| rs_cons <| r_v rfl <| rs_nil <| p_begin ns hns (by omega) fun st hs => ⟨_, rfl, ?_⟩
  refine s_cons <| s_asg <| runs_of (a := .lst (some12.map id)) (st := st) (by kernel_rfl) ⟨_, rfl, ?_⟩
  refine s_cons <| s_for <| i_rng1 <| r_p2 <| r_lit <| r_p2 <| r_lit <| r_p1 <| r_v rfl ⟨_, lenl_n .int ns, _, min2_n 4 ns.length, _, add_n 3 _, _, rng1_n (by split <;> omega), fun j env s => StAt (j * 2) s ∧ ∃ x, env = [some (false, .lst (ns.map .int)), some (false, .ref 1), some (false, .lst (some12.map id)), x], ⟨by simpa using hs, none, rfl⟩, ?_, ?_⟩
  · rintro j x env s hx ⟨hst, y, rfl⟩
    obtain ⟨hj, rfl⟩ := rg_get hx
    have hj8 : j ≤ 8 := by
      have : (if ns.length < 4 then ns.length else 4) ≤ 4 := by split <;> omega
      omega
    refine ⟨_, rfl, s_cons <| s_ifs <| t_not <| t_call <| r_call <| rs_cons <| r_call <| rs_cons <| r_v rfl <| rs_cons <| r_v rfl <| rs_nil <| r_of (f := id) (xs := some12) (by omega) hst (by omega) (by decide) (by decide) fun x1 s1 h1 hs1 => ?_⟩
    refine rs_cons <| r_call <| rs_cons <| r_v rfl <| rs_cons <| r_v rfl <| rs_nil <| r_of (f := id) (xs := some12) (by omega) hs1 (by omega) (by decide) (by decide) fun x2 s2 h2 hs2 => ?_
    obtain ⟨c, l, a, rfl, q⟩ := hs2
    subst hm
    refine rs_nil <| (okS_runs (right c l a h1 h2)).mono fun d s e => ⟨true, by rw [e.1]; rfl, ?_⟩
    rw [e.2]
    exact s_nil <| s_nil ⟨⟨c, l, a, rfl, q.1, q.2.1, by omega⟩, _, rfl⟩
  · rintro env s ⟨_, y, rfl⟩
    exact s_cons <| s_ret <| r_lit rfl
theorem hev (ns : List Int) (h : ns.length ≤ 63) : ∃ st', run T gv 0 11 8 [.lst (ns.map .int)] [] = .ok (.bl true) st' := by
  obtain ⟨d, s, e, q⟩ := hevN rfl ns h
  exact ⟨s, by rw [e, q]⟩
end K37
set_option Elab.async false
set_option linter.all false
set_option maxRecDepth 100000
open PySem
namespace K37
theorem tab_ok : Dp.tabOk bn (ds.map (·.name)) gn en hn (Dp.lsB bn gn T) oc (ds.map (·.mt)) ds T = true := by
  have a : ∀ (d : Dp.Df) (f : Dp.Fd) (ds2 : List Dp.Df) (T2 : List Dp.Fd), Dp.dfOk bn (ds.map (·.name)) gn en hn (Dp.lsB bn gn T) oc (ds.map (·.mt)) d f = true → Dp.tabOk bn (ds.map (·.name)) gn en hn (Dp.lsB bn gn T) oc (ds.map (·.mt)) ds2 T2 = true → Dp.tabOk bn (ds.map (·.name)) gn en hn (Dp.lsB bn gn T) oc (ds.map (·.mt)) (d :: ds2) (f :: T2) = true := fun d f ds2 T2 h1 h2 => by
    show (Dp.dfOk bn (ds.map (·.name)) gn en hn (Dp.lsB bn gn T) oc (ds.map (·.mt)) d f && Dp.tabOk bn (ds.map (·.name)) gn en hn (Dp.lsB bn gn T) oc (ds.map (·.mt)) ds2 T2) = true
    rw [h1, h2]; rfl
  exact a _ _ _ _ ok_0 (a _ _ _ _ ok_1 (a _ _ _ _ ok_2 (a _ _ _ _ ok_3 (a _ _ _ _ ok_4 (a _ _ _ _ ok_5 (a _ _ _ _ ok_6 (a _ _ _ _ ok_7 (a _ _ _ _ ok_8 (rfl)))))))))
end K37
set_option maxHeartbeats 0 in
theorem PySem.Challenge.cw_safeground_k37_errors_by_hand_holds : PySem.Challenge.rw_safeground_k37_errors_by_hand.Holds := by
  w_on; o_law; k_head; (case hw => w_witness2)
  k_fill
  refine Dp.walk_ofD (n := 63) (k := 11) (i := 8) (ds := K37.ds) (bn := K37.bn) (gn := K37.gn) (en := K37.en) (hn := K37.hn) (gv := K37.gv) (T := K37.T) (oc := K37.oc) (wf := 0) (nt := 0) (ot := fun _ => []) (et := fun _ => [(151, ["given"]), (172, ["given"]), (193, ["given"]), (256, ["given"]), (298, ["given"]), (340, ["given"]), (361, ["given"]), (445, ["line", "word"]), (466, ["most"]), (488, ["given"]), (510, ["many"]), (46, ["number"]), (67, ["number"]), (88, ["number"]), (382, ["given"]), (403, ["given"]), (424, ["given"]), (214, ["number"]), (235, ["number"]), (319, ["number"]), (109, ["path"]), (277, ["path"]), (130, ["part"])]) (tbl := fun _ => []) (cs := fun _ => []) rfl (by decide) rfl ⟨rfl, by decide, by decide⟩ (fun w h Y => PySem.W.kIn_of Y) (fun w h Y => fun _ hP => absurd (show _ ∈ ([] : List _) from hP) List.not_mem_nil) rfl (by decide) rfl K37.tab_ok ?F K37.hev
  case F =>
    intro w mg h KX G
    refine ⟨?nl, ⟨rfl, rfl, ?nT, ?hC⟩, Dp.md_of (ds := K37.ds) ?fns ?gls ?nos ?ers ?hds ?nd ?lms ?ocs ?iss, _, rfl⟩
    case nl => rfl
    case nd => decide
    case fns =>
      refine' And.intro (Dp.fn_at KX G ?a ?l ?c ?k fun _ _ _ _ _ _ us hl => match us, hl with | [_, _], _ => rfl) ?_
      (case a => k_is); (case l => k_is); (case c => k_is); (case k => k_is)
      refine' And.intro (Dp.fn_at KX G ?a ?l ?c ?k fun _ _ _ _ _ _ us hl => match us, hl with | [_], _ => rfl) ?_
      (case a => k_is); (case l => k_is); (case c => k_is); (case k => k_is)
      refine' And.intro (Dp.fn_at KX G ?a ?l ?c ?k fun _ _ _ _ _ _ us hl => match us, hl with | [_, _], _ => rfl) ?_
      (case a => k_is); (case l => k_is); (case c => k_is); (case k => k_is)
      refine' And.intro (Dp.fn_at KX G ?a ?l ?c ?k fun _ _ _ _ _ _ us hl => match us, hl with | [_, _], _ => rfl) ?_
      (case a => k_is); (case l => k_is); (case c => k_is); (case k => k_is)
      refine' And.intro (Dp.fn_at KX G ?a ?l ?c ?k fun _ _ _ _ _ _ us hl => match us, hl with | [_], _ => rfl) ?_
      (case a => k_is); (case l => k_is); (case c => k_is); (case k => k_is)
      refine' And.intro (Dp.fn_at KX G ?a ?l ?c ?k fun _ _ _ _ _ _ us hl => match us, hl with | [_], _ => rfl) ?_
      (case a => k_is); (case l => k_is); (case c => k_is); (case k => k_is)
      refine' And.intro (Dp.fn_at KX G ?a ?l ?c ?k fun _ _ _ _ _ _ us hl => match us, hl with | [_, _], _ => rfl) ?_
      (case a => k_is); (case l => k_is); (case c => k_is); (case k => k_is)
      refine' And.intro (Dp.fn_at KX G ?a ?l ?c ?k fun _ _ _ _ _ _ us hl => match us, hl with | [_, _], _ => rfl) ?_
      (case a => k_is); (case l => k_is); (case c => k_is); (case k => k_is)
      refine' And.intro (Dp.fn_at KX G ?a ?l ?c ?k fun _ _ _ _ _ _ us hl => match us, hl with | [_], _ => rfl) ?_
      (case a => k_is); (case l => k_is); (case c => k_is); (case k => k_is)
      exact True.intro
    case lms =>
      refine' And.intro (.inl rfl) ?_
      refine' And.intro (.inl rfl) ?_
      refine' And.intro (.inl rfl) ?_
      refine' And.intro (.inl rfl) ?_
      refine' And.intro (.inl rfl) ?_
      refine' And.intro (.inl rfl) ?_
      refine' And.intro (.inl rfl) ?_
      refine' And.intro (.inl rfl) ?_
      refine' And.intro (.inl rfl) ?_
      exact True.intro
    case gls =>
      exact True.intro
    case nos =>
      refine' And.intro (Dp.no_at KX G ?a) ?_
      (case a => k_is)
      refine' And.intro (Dp.no_at KX G ?a) ?_
      (case a => k_is)
      refine' And.intro (Dp.no_at KX G ?a) ?_
      (case a => k_is)
      refine' And.intro (Dp.no_at KX G ?a) ?_
      (case a => k_is)
      refine' And.intro (Dp.no_at KX G ?a) ?_
      (case a => k_is)
      refine' And.intro (Dp.no_at KX G ?a) ?_
      (case a => k_is)
      refine' And.intro (Dp.no_at KX G ?a) ?_
      (case a => k_is)
      refine' And.intro (Dp.no_at KX G ?a) ?_
      (case a => k_is)
      refine' And.intro (Dp.no_at KX G ?a) ?_
      (case a => k_is)
      exact True.intro
    case ocs =>
      exact True.intro
    case iss =>
      refine' And.intro (Dp.is_own KX G ?a ?b) ?_
      (case a => k_is); (case b => rfl)
      refine' And.intro (Dp.is_bi KX G ?a ?hb ?hn ?b) ?_
      (case a => k_is); (case hb => first | rfl | decide +kernel); (case hn => decide); (case b => rfl)
      refine' And.intro (Dp.is_bi KX G ?a ?hb ?hn ?b) ?_
      (case a => k_is); (case hb => first | rfl | decide +kernel); (case hn => decide); (case b => rfl)
      refine' And.intro (Dp.is_bi KX G ?a ?hb ?hn ?b) ?_
      (case a => k_is); (case hb => first | rfl | decide +kernel); (case hn => decide); (case b => rfl)
      refine' And.intro (Dp.is_bi KX G ?a ?hb ?hn ?b) ?_
      (case a => k_is); (case hb => first | rfl | decide +kernel); (case hn => decide); (case b => rfl)
      refine' And.intro (Dp.is_own KX G ?a ?b) ?_
      (case a => k_is); (case b => rfl)
      refine' And.intro (Dp.is_own KX G ?a ?b) ?_
      (case a => k_is); (case b => rfl)
      refine' And.intro (Dp.is_own KX G ?a ?b) ?_
      (case a => k_is); (case b => rfl)
      refine' And.intro (Dp.is_own KX G ?a ?b) ?_
      (case a => k_is); (case b => rfl)
      refine' And.intro (Dp.is_own KX G ?a ?b) ?_
      (case a => k_is); (case b => rfl)
      refine' And.intro (Dp.is_own KX G ?a ?b) ?_
      (case a => k_is); (case b => rfl)
      refine' And.intro (Dp.is_own KX G ?a ?b) ?_
      (case a => k_is); (case b => rfl)
      refine' And.intro (Dp.is_own KX G ?a ?b) ?_
      (case a => k_is); (case b => rfl)
      refine' And.intro (Dp.is_own KX G ?a ?b) ?_
      (case a => k_is); (case b => rfl)
      refine' And.intro (Dp.is_own KX G ?a ?b) ?_
      (case a => k_is); (case b => rfl)
      refine' And.intro (Dp.is_own KX G ?a ?b) ?_
      (case a => k_is); (case b => rfl)
      refine' And.intro (Dp.is_own KX G ?a ?b) ?_
      (case a => k_is); (case b => rfl)
      refine' And.intro (Dp.is_own KX G ?a ?b) ?_
      (case a => k_is); (case b => rfl)
      refine' And.intro (Dp.is_own KX G ?a ?b) ?_
      (case a => k_is); (case b => rfl)
      refine' And.intro (Dp.is_own KX G ?a ?b) ?_
      (case a => k_is); (case b => rfl)
      refine' And.intro (Dp.is_own KX G ?a ?b) ?_
      (case a => k_is); (case b => rfl)
      refine' And.intro (Dp.is_own KX G ?a ?b) ?_
      (case a => k_is); (case b => rfl)
      refine' And.intro (Dp.is_own KX G ?a ?b) ?_
      (case a => k_is); (case b => rfl)
      refine' And.intro (Dp.is_own KX G ?a ?b) ?_
      (case a => k_is); (case b => rfl)
      refine' And.intro (Dp.is_own KX G ?a ?b) ?_
      (case a => k_is); (case b => rfl)
      refine' And.intro (Dp.is_own KX G ?a ?b) ?_
      (case a => k_is); (case b => rfl)
      refine' And.intro (Dp.is_own KX G ?a ?b) ?_
      (case a => k_is); (case b => rfl)
      refine' And.intro (Dp.is_own KX G ?a ?b) ?_
      (case a => k_is); (case b => rfl)
      exact True.intro
    case ers =>
      refine' And.intro (Dp.er_at Dp.ebV Dp.ebV_ok KX G ?za ?zb ?zc ?zaa ?zd ?yf ?yg ?yh ?yi ?ze ?zf ?zg ?zh ?zi ?zj ?zk ?zl ?zm ?zn ?zo ?zp ?zq ?zr ?zs ?zt ?zu ?zv ?zw ?zx ?zy ?zz) ?_
      (case za => k_is); (case zb => first | k_is | rfl); (case zc => rfl); (case zaa => first | k_is | rfl); (case ze => first | k_is | rfl); (case zf => rfl); (case zg => first | k_is | rfl); (case zh => rfl); (case zi => rfl); (case zj => first | k_is | rfl)
      (case zk => rfl); (case zl => rfl); (case zm => decide); (case zn => rfl); (case zo => rfl); (case zp => rfl); (case zq => rfl); (case zr => rfl); (case zs => rfl); (case zt => rfl); (case zu => rfl); (case zv => rfl); (case zw => rfl); (case zx => rfl); (case zy => rfl); (case yf => rfl); (case yg => rfl); (case yh => rfl); (case yi => rfl); (case zz => exact fun _ _ _ _ _ _ us hl => match us, hl with | [_, _], _ => rfl)
      (case zd => rfl)
      refine' And.intro (Dp.er_at Dp.ebV Dp.ebV_ok KX G ?za ?zb ?zc ?zaa ?zd ?yf ?yg ?yh ?yi ?ze ?zf ?zg ?zh ?zi ?zj ?zk ?zl ?zm ?zn ?zo ?zp ?zq ?zr ?zs ?zt ?zu ?zv ?zw ?zx ?zy ?zz) ?_
      (case za => k_is); (case zb => first | k_is | rfl); (case zc => rfl); (case zaa => first | k_is | rfl); (case ze => first | k_is | rfl); (case zf => rfl); (case zg => first | k_is | rfl); (case zh => rfl); (case zi => rfl); (case zj => first | k_is | rfl)
      (case zk => rfl); (case zl => rfl); (case zm => decide); (case zn => rfl); (case zo => rfl); (case zp => rfl); (case zq => rfl); (case zr => rfl); (case zs => rfl); (case zt => rfl); (case zu => rfl); (case zv => rfl); (case zw => rfl); (case zx => rfl); (case zy => rfl); (case yf => rfl); (case yg => rfl); (case yh => rfl); (case yi => rfl); (case zz => exact fun _ _ _ _ _ _ us hl => match us, hl with | [_, _], _ => rfl)
      (case zd => rfl)
      refine' And.intro (Dp.er_at Dp.ebV Dp.ebV_ok KX G ?za ?zb ?zc ?zaa ?zd ?yf ?yg ?yh ?yi ?ze ?zf ?zg ?zh ?zi ?zj ?zk ?zl ?zm ?zn ?zo ?zp ?zq ?zr ?zs ?zt ?zu ?zv ?zw ?zx ?zy ?zz) ?_
      (case za => k_is); (case zb => first | k_is | rfl); (case zc => rfl); (case zaa => first | k_is | rfl); (case ze => first | k_is | rfl); (case zf => rfl); (case zg => first | k_is | rfl); (case zh => rfl); (case zi => rfl); (case zj => first | k_is | rfl)
      (case zk => rfl); (case zl => rfl); (case zm => decide); (case zn => rfl); (case zo => rfl); (case zp => rfl); (case zq => rfl); (case zr => rfl); (case zs => rfl); (case zt => rfl); (case zu => rfl); (case zv => rfl); (case zw => rfl); (case zx => rfl); (case zy => rfl); (case yf => rfl); (case yg => rfl); (case yh => rfl); (case yi => rfl); (case zz => exact fun _ _ _ _ _ _ us hl => match us, hl with | [_, _], _ => rfl)
      (case zd => rfl)
      refine' And.intro (Dp.er_at Dp.ebV Dp.ebV_ok KX G ?za ?zb ?zc ?zaa ?zd ?yf ?yg ?yh ?yi ?ze ?zf ?zg ?zh ?zi ?zj ?zk ?zl ?zm ?zn ?zo ?zp ?zq ?zr ?zs ?zt ?zu ?zv ?zw ?zx ?zy ?zz) ?_
      (case za => k_is); (case zb => first | k_is | rfl); (case zc => rfl); (case zaa => first | k_is | rfl); (case ze => first | k_is | rfl); (case zf => rfl); (case zg => first | k_is | rfl); (case zh => rfl); (case zi => rfl); (case zj => first | k_is | rfl)
      (case zk => rfl); (case zl => rfl); (case zm => decide); (case zn => rfl); (case zo => rfl); (case zp => rfl); (case zq => rfl); (case zr => rfl); (case zs => rfl); (case zt => rfl); (case zu => rfl); (case zv => rfl); (case zw => rfl); (case zx => rfl); (case zy => rfl); (case yf => rfl); (case yg => rfl); (case yh => rfl); (case yi => rfl); (case zz => exact fun _ _ _ _ _ _ us hl => match us, hl with | [_, _], _ => rfl)
      (case zd => rfl)
      refine' And.intro (Dp.er_at Dp.ebV Dp.ebV_ok KX G ?za ?zb ?zc ?zaa ?zd ?yf ?yg ?yh ?yi ?ze ?zf ?zg ?zh ?zi ?zj ?zk ?zl ?zm ?zn ?zo ?zp ?zq ?zr ?zs ?zt ?zu ?zv ?zw ?zx ?zy ?zz) ?_
      (case za => k_is); (case zb => first | k_is | rfl); (case zc => rfl); (case zaa => first | k_is | rfl); (case ze => first | k_is | rfl); (case zf => rfl); (case zg => first | k_is | rfl); (case zh => rfl); (case zi => rfl); (case zj => first | k_is | rfl)
      (case zk => rfl); (case zl => rfl); (case zm => decide); (case zn => rfl); (case zo => rfl); (case zp => rfl); (case zq => rfl); (case zr => rfl); (case zs => rfl); (case zt => rfl); (case zu => rfl); (case zv => rfl); (case zw => rfl); (case zx => rfl); (case zy => rfl); (case yf => rfl); (case yg => rfl); (case yh => rfl); (case yi => rfl); (case zz => exact fun _ _ _ _ _ _ us hl => match us, hl with | [_, _], _ => rfl)
      (case zd => rfl)
      refine' And.intro (Dp.er_at Dp.ebV Dp.ebV_ok KX G ?za ?zb ?zc ?zaa ?zd ?yf ?yg ?yh ?yi ?ze ?zf ?zg ?zh ?zi ?zj ?zk ?zl ?zm ?zn ?zo ?zp ?zq ?zr ?zs ?zt ?zu ?zv ?zw ?zx ?zy ?zz) ?_
      (case za => k_is); (case zb => first | k_is | rfl); (case zc => rfl); (case zaa => first | k_is | rfl); (case ze => first | k_is | rfl); (case zf => rfl); (case zg => first | k_is | rfl); (case zh => rfl); (case zi => rfl); (case zj => first | k_is | rfl)
      (case zk => rfl); (case zl => rfl); (case zm => decide); (case zn => rfl); (case zo => rfl); (case zp => rfl); (case zq => rfl); (case zr => rfl); (case zs => rfl); (case zt => rfl); (case zu => rfl); (case zv => rfl); (case zw => rfl); (case zx => rfl); (case zy => rfl); (case yf => rfl); (case yg => rfl); (case yh => rfl); (case yi => rfl); (case zz => exact fun _ _ _ _ _ _ us hl => match us, hl with | [_, _], _ => rfl)
      (case zd => rfl)
      refine' And.intro (Dp.er_at Dp.ebV Dp.ebV_ok KX G ?za ?zb ?zc ?zaa ?zd ?yf ?yg ?yh ?yi ?ze ?zf ?zg ?zh ?zi ?zj ?zk ?zl ?zm ?zn ?zo ?zp ?zq ?zr ?zs ?zt ?zu ?zv ?zw ?zx ?zy ?zz) ?_
      (case za => k_is); (case zb => first | k_is | rfl); (case zc => rfl); (case zaa => first | k_is | rfl); (case ze => first | k_is | rfl); (case zf => rfl); (case zg => first | k_is | rfl); (case zh => rfl); (case zi => rfl); (case zj => first | k_is | rfl)
      (case zk => rfl); (case zl => rfl); (case zm => decide); (case zn => rfl); (case zo => rfl); (case zp => rfl); (case zq => rfl); (case zr => rfl); (case zs => rfl); (case zt => rfl); (case zu => rfl); (case zv => rfl); (case zw => rfl); (case zx => rfl); (case zy => rfl); (case yf => rfl); (case yg => rfl); (case yh => rfl); (case yi => rfl); (case zz => exact fun _ _ _ _ _ _ us hl => match us, hl with | [_, _], _ => rfl)
      (case zd => rfl)
      refine' And.intro (Dp.er_at2 Dp.ebV Dp.ebV_ok KX G ?za ?zb ?zc ?zaa ?zd ?wa ?wb ?yf ?yg ?yh ?yi ?ze ?zf ?zg ?zh ?zi ?zj ?zk ?zl ?zm ?wc ?wd ?zn ?zo ?zp ?zq ?we ?zr ?zs ?zt ?zu ?zv ?zw ?zx ?wf ?zy ?zz) ?_
      (case za => k_is); (case zb => first | k_is | rfl); (case zc => rfl); (case zaa => first | k_is | rfl); (case ze => first | k_is | rfl); (case zf => rfl); (case zg => first | k_is | rfl); (case zh => rfl); (case zi => rfl); (case zj => first | k_is | rfl)
      (case zk => rfl); (case zl => rfl); (case zm => decide); (case wa => rfl); (case wb => decide); (case wc => decide); (case wd => decide); (case we => rfl); (case wf => rfl); (case zn => rfl); (case zo => rfl); (case zp => rfl); (case zq => rfl); (case zr => rfl); (case zs => rfl); (case zt => rfl); (case zu => rfl); (case zv => rfl); (case zw => rfl); (case zx => rfl); (case zy => rfl); (case yf => rfl); (case yg => rfl); (case yh => rfl); (case yi => rfl); (case zz => exact fun _ _ _ _ _ _ us hl => match us, hl with | [_, _, _], _ => rfl)
      (case zd => rfl)
      refine' And.intro (Dp.er_at Dp.ebO Dp.ebO_ok KX G ?za ?zb ?zc ?zaa ?zd ?yf ?yg ?yh ?yi ?ze ?zf ?zg ?zh ?zi ?zj ?zk ?zl ?zm ?zn ?zo ?zp ?zq ?zr ?zs ?zt ?zu ?zv ?zw ?zx ?zy ?zz) ?_
      (case za => k_is); (case zb => first | k_is | rfl); (case zc => rfl); (case zaa => first | k_is | rfl); (case ze => first | k_is | rfl); (case zf => rfl); (case zg => first | k_is | rfl); (case zh => rfl); (case zi => rfl); (case zj => first | k_is | rfl)
      (case zk => rfl); (case zl => rfl); (case zm => decide); (case zn => rfl); (case zo => rfl); (case zp => rfl); (case zq => rfl); (case zr => rfl); (case zs => rfl); (case zt => rfl); (case zu => rfl); (case zv => rfl); (case zw => rfl); (case zx => rfl); (case zy => rfl); (case yf => rfl); (case yg => rfl); (case yh => rfl); (case yi => rfl); (case zz => exact fun _ _ _ _ _ _ us hl => match us, hl with | [_, _], _ => rfl)
      (case zd => rfl)
      refine' And.intro (Dp.er_at Dp.ebK Dp.ebK_ok KX G ?za ?zb ?zc ?zaa ?zd ?yf ?yg ?yh ?yi ?ze ?zf ?zg ?zh ?zi ?zj ?zk ?zl ?zm ?zn ?zo ?zp ?zq ?zr ?zs ?zt ?zu ?zv ?zw ?zx ?zy ?zz) ?_
      (case za => k_is); (case zb => first | k_is | rfl); (case zc => rfl); (case zaa => first | k_is | rfl); (case ze => first | k_is | rfl); (case zf => rfl); (case zg => first | k_is | rfl); (case zh => rfl); (case zi => rfl); (case zj => first | k_is | rfl)
      (case zk => rfl); (case zl => rfl); (case zm => decide); (case zn => rfl); (case zo => rfl); (case zp => rfl); (case zq => rfl); (case zr => rfl); (case zs => rfl); (case zt => rfl); (case zu => rfl); (case zv => rfl); (case zw => rfl); (case zx => rfl); (case zy => rfl); (case yf => rfl); (case yg => rfl); (case yh => rfl); (case yi => rfl); (case zz => exact fun _ _ _ _ _ _ us hl => match us, hl with | [_, _], _ => rfl)
      (case zd => rfl)
      refine' And.intro (Dp.er_at Dp.ebR Dp.ebR_ok KX G ?za ?zb ?zc ?zaa ?zd ?yf ?yg ?yh ?yi ?ze ?zf ?zg ?zh ?zi ?zj ?zk ?zl ?zm ?zn ?zo ?zp ?zq ?zr ?zs ?zt ?zu ?zv ?zw ?zx ?zy ?zz) ?_
      (case za => k_is); (case zb => first | k_is | rfl); (case zc => rfl); (case zaa => first | k_is | rfl); (case ze => first | k_is | rfl); (case zf => rfl); (case zg => first | k_is | rfl); (case zh => rfl); (case zi => rfl); (case zj => first | k_is | rfl)
      (case zk => rfl); (case zl => rfl); (case zm => decide); (case zn => rfl); (case zo => rfl); (case zp => rfl); (case zq => rfl); (case zr => rfl); (case zs => rfl); (case zt => rfl); (case zu => rfl); (case zv => rfl); (case zw => rfl); (case zx => rfl); (case zy => rfl); (case yf => rfl); (case yg => rfl); (case yh => rfl); (case yi => rfl); (case zz => exact fun _ _ _ _ _ _ us hl => match us, hl with | [_, _], _ => rfl)
      (case zd => rfl)
      refine' And.intro (Dp.er_at Dp.ebV Dp.ebV_ok KX G ?za ?zb ?zc ?zaa ?zd ?yf ?yg ?yh ?yi ?ze ?zf ?zg ?zh ?zi ?zj ?zk ?zl ?zm ?zn ?zo ?zp ?zq ?zr ?zs ?zt ?zu ?zv ?zw ?zx ?zy ?zz) ?_
      (case za => k_is); (case zb => first | k_is | rfl); (case zc => rfl); (case zaa => first | k_is | rfl); (case ze => first | k_is | rfl); (case zf => rfl); (case zg => first | k_is | rfl); (case zh => rfl); (case zi => rfl); (case zj => first | k_is | rfl)
      (case zk => rfl); (case zl => rfl); (case zm => decide); (case zn => rfl); (case zo => rfl); (case zp => rfl); (case zq => rfl); (case zr => rfl); (case zs => rfl); (case zt => rfl); (case zu => rfl); (case zv => rfl); (case zw => rfl); (case zx => rfl); (case zy => rfl); (case yf => rfl); (case yg => rfl); (case yh => rfl); (case yi => rfl); (case zz => exact fun _ _ _ _ _ _ us hl => match us, hl with | [_, _], _ => rfl)
      (case zd => rfl)
      refine' And.intro (Dp.er_at Dp.ebV Dp.ebV_ok KX G ?za ?zb ?zc ?zaa ?zd ?yf ?yg ?yh ?yi ?ze ?zf ?zg ?zh ?zi ?zj ?zk ?zl ?zm ?zn ?zo ?zp ?zq ?zr ?zs ?zt ?zu ?zv ?zw ?zx ?zy ?zz) ?_
      (case za => k_is); (case zb => first | k_is | rfl); (case zc => rfl); (case zaa => first | k_is | rfl); (case ze => first | k_is | rfl); (case zf => rfl); (case zg => first | k_is | rfl); (case zh => rfl); (case zi => rfl); (case zj => first | k_is | rfl)
      (case zk => rfl); (case zl => rfl); (case zm => decide); (case zn => rfl); (case zo => rfl); (case zp => rfl); (case zq => rfl); (case zr => rfl); (case zs => rfl); (case zt => rfl); (case zu => rfl); (case zv => rfl); (case zw => rfl); (case zx => rfl); (case zy => rfl); (case yf => rfl); (case yg => rfl); (case yh => rfl); (case yi => rfl); (case zz => exact fun _ _ _ _ _ _ us hl => match us, hl with | [_, _], _ => rfl)
      (case zd => rfl)
      refine' And.intro (Dp.er_at Dp.ebV Dp.ebV_ok KX G ?za ?zb ?zc ?zaa ?zd ?yf ?yg ?yh ?yi ?ze ?zf ?zg ?zh ?zi ?zj ?zk ?zl ?zm ?zn ?zo ?zp ?zq ?zr ?zs ?zt ?zu ?zv ?zw ?zx ?zy ?zz) ?_
      (case za => k_is); (case zb => first | k_is | rfl); (case zc => rfl); (case zaa => first | k_is | rfl); (case ze => first | k_is | rfl); (case zf => rfl); (case zg => first | k_is | rfl); (case zh => rfl); (case zi => rfl); (case zj => first | k_is | rfl)
      (case zk => rfl); (case zl => rfl); (case zm => decide); (case zn => rfl); (case zo => rfl); (case zp => rfl); (case zq => rfl); (case zr => rfl); (case zs => rfl); (case zt => rfl); (case zu => rfl); (case zv => rfl); (case zw => rfl); (case zx => rfl); (case zy => rfl); (case yf => rfl); (case yg => rfl); (case yh => rfl); (case yi => rfl); (case zz => exact fun _ _ _ _ _ _ us hl => match us, hl with | [_, _], _ => rfl)
      (case zd => rfl)
      refine' And.intro (Dp.er_at Dp.ebV Dp.ebV_ok KX G ?za ?zb ?zc ?zaa ?zd ?yf ?yg ?yh ?yi ?ze ?zf ?zg ?zh ?zi ?zj ?zk ?zl ?zm ?zn ?zo ?zp ?zq ?zr ?zs ?zt ?zu ?zv ?zw ?zx ?zy ?zz) ?_
      (case za => k_is); (case zb => first | k_is | rfl); (case zc => rfl); (case zaa => first | k_is | rfl); (case ze => first | k_is | rfl); (case zf => rfl); (case zg => first | k_is | rfl); (case zh => rfl); (case zi => rfl); (case zj => first | k_is | rfl)
      (case zk => rfl); (case zl => rfl); (case zm => decide); (case zn => rfl); (case zo => rfl); (case zp => rfl); (case zq => rfl); (case zr => rfl); (case zs => rfl); (case zt => rfl); (case zu => rfl); (case zv => rfl); (case zw => rfl); (case zx => rfl); (case zy => rfl); (case yf => rfl); (case yg => rfl); (case yh => rfl); (case yi => rfl); (case zz => exact fun _ _ _ _ _ _ us hl => match us, hl with | [_, _], _ => rfl)
      (case zd => rfl)
      refine' And.intro (Dp.er_at Dp.ebV Dp.ebV_ok KX G ?za ?zb ?zc ?zaa ?zd ?yf ?yg ?yh ?yi ?ze ?zf ?zg ?zh ?zi ?zj ?zk ?zl ?zm ?zn ?zo ?zp ?zq ?zr ?zs ?zt ?zu ?zv ?zw ?zx ?zy ?zz) ?_
      (case za => k_is); (case zb => first | k_is | rfl); (case zc => rfl); (case zaa => first | k_is | rfl); (case ze => first | k_is | rfl); (case zf => rfl); (case zg => first | k_is | rfl); (case zh => rfl); (case zi => rfl); (case zj => first | k_is | rfl)
      (case zk => rfl); (case zl => rfl); (case zm => decide); (case zn => rfl); (case zo => rfl); (case zp => rfl); (case zq => rfl); (case zr => rfl); (case zs => rfl); (case zt => rfl); (case zu => rfl); (case zv => rfl); (case zw => rfl); (case zx => rfl); (case zy => rfl); (case yf => rfl); (case yg => rfl); (case yh => rfl); (case yi => rfl); (case zz => exact fun _ _ _ _ _ _ us hl => match us, hl with | [_, _], _ => rfl)
      (case zd => rfl)
      refine' And.intro (Dp.er_at Dp.ebV Dp.ebV_ok KX G ?za ?zb ?zc ?zaa ?zd ?yf ?yg ?yh ?yi ?ze ?zf ?zg ?zh ?zi ?zj ?zk ?zl ?zm ?zn ?zo ?zp ?zq ?zr ?zs ?zt ?zu ?zv ?zw ?zx ?zy ?zz) ?_
      (case za => k_is); (case zb => first | k_is | rfl); (case zc => rfl); (case zaa => first | k_is | rfl); (case ze => first | k_is | rfl); (case zf => rfl); (case zg => first | k_is | rfl); (case zh => rfl); (case zi => rfl); (case zj => first | k_is | rfl)
      (case zk => rfl); (case zl => rfl); (case zm => decide); (case zn => rfl); (case zo => rfl); (case zp => rfl); (case zq => rfl); (case zr => rfl); (case zs => rfl); (case zt => rfl); (case zu => rfl); (case zv => rfl); (case zw => rfl); (case zx => rfl); (case zy => rfl); (case yf => rfl); (case yg => rfl); (case yh => rfl); (case yi => rfl); (case zz => exact fun _ _ _ _ _ _ us hl => match us, hl with | [_, _], _ => rfl)
      (case zd => rfl)
      refine' And.intro (Dp.er_at Dp.ebV Dp.ebV_ok KX G ?za ?zb ?zc ?zaa ?zd ?yf ?yg ?yh ?yi ?ze ?zf ?zg ?zh ?zi ?zj ?zk ?zl ?zm ?zn ?zo ?zp ?zq ?zr ?zs ?zt ?zu ?zv ?zw ?zx ?zy ?zz) ?_
      (case za => k_is); (case zb => first | k_is | rfl); (case zc => rfl); (case zaa => first | k_is | rfl); (case ze => first | k_is | rfl); (case zf => rfl); (case zg => first | k_is | rfl); (case zh => rfl); (case zi => rfl); (case zj => first | k_is | rfl)
      (case zk => rfl); (case zl => rfl); (case zm => decide); (case zn => rfl); (case zo => rfl); (case zp => rfl); (case zq => rfl); (case zr => rfl); (case zs => rfl); (case zt => rfl); (case zu => rfl); (case zv => rfl); (case zw => rfl); (case zx => rfl); (case zy => rfl); (case yf => rfl); (case yg => rfl); (case yh => rfl); (case yi => rfl); (case zz => exact fun _ _ _ _ _ _ us hl => match us, hl with | [_, _], _ => rfl)
      (case zd => rfl)
      refine' And.intro (Dp.er_at Dp.ebV Dp.ebV_ok KX G ?za ?zb ?zc ?zaa ?zd ?yf ?yg ?yh ?yi ?ze ?zf ?zg ?zh ?zi ?zj ?zk ?zl ?zm ?zn ?zo ?zp ?zq ?zr ?zs ?zt ?zu ?zv ?zw ?zx ?zy ?zz) ?_
      (case za => k_is); (case zb => first | k_is | rfl); (case zc => rfl); (case zaa => first | k_is | rfl); (case ze => first | k_is | rfl); (case zf => rfl); (case zg => first | k_is | rfl); (case zh => rfl); (case zi => rfl); (case zj => first | k_is | rfl)
      (case zk => rfl); (case zl => rfl); (case zm => decide); (case zn => rfl); (case zo => rfl); (case zp => rfl); (case zq => rfl); (case zr => rfl); (case zs => rfl); (case zt => rfl); (case zu => rfl); (case zv => rfl); (case zw => rfl); (case zx => rfl); (case zy => rfl); (case yf => rfl); (case yg => rfl); (case yh => rfl); (case yi => rfl); (case zz => exact fun _ _ _ _ _ _ us hl => match us, hl with | [_, _], _ => rfl)
      (case zd => rfl)
      refine' And.intro (Dp.er_at Dp.ebV Dp.ebV_ok KX G ?za ?zb ?zc ?zaa ?zd ?yf ?yg ?yh ?yi ?ze ?zf ?zg ?zh ?zi ?zj ?zk ?zl ?zm ?zn ?zo ?zp ?zq ?zr ?zs ?zt ?zu ?zv ?zw ?zx ?zy ?zz) ?_
      (case za => k_is); (case zb => first | k_is | rfl); (case zc => rfl); (case zaa => first | k_is | rfl); (case ze => first | k_is | rfl); (case zf => rfl); (case zg => first | k_is | rfl); (case zh => rfl); (case zi => rfl); (case zj => first | k_is | rfl)
      (case zk => rfl); (case zl => rfl); (case zm => decide); (case zn => rfl); (case zo => rfl); (case zp => rfl); (case zq => rfl); (case zr => rfl); (case zs => rfl); (case zt => rfl); (case zu => rfl); (case zv => rfl); (case zw => rfl); (case zx => rfl); (case zy => rfl); (case yf => rfl); (case yg => rfl); (case yh => rfl); (case yi => rfl); (case zz => exact fun _ _ _ _ _ _ us hl => match us, hl with | [_, _], _ => rfl)
      (case zd => rfl)
      refine' And.intro (Dp.er_at Dp.ebV Dp.ebV_ok KX G ?za ?zb ?zc ?zaa ?zd ?yf ?yg ?yh ?yi ?ze ?zf ?zg ?zh ?zi ?zj ?zk ?zl ?zm ?zn ?zo ?zp ?zq ?zr ?zs ?zt ?zu ?zv ?zw ?zx ?zy ?zz) ?_
      (case za => k_is); (case zb => first | k_is | rfl); (case zc => rfl); (case zaa => first | k_is | rfl); (case ze => first | k_is | rfl); (case zf => rfl); (case zg => first | k_is | rfl); (case zh => rfl); (case zi => rfl); (case zj => first | k_is | rfl)
      (case zk => rfl); (case zl => rfl); (case zm => decide); (case zn => rfl); (case zo => rfl); (case zp => rfl); (case zq => rfl); (case zr => rfl); (case zs => rfl); (case zt => rfl); (case zu => rfl); (case zv => rfl); (case zw => rfl); (case zx => rfl); (case zy => rfl); (case yf => rfl); (case yg => rfl); (case yh => rfl); (case yi => rfl); (case zz => exact fun _ _ _ _ _ _ us hl => match us, hl with | [_, _], _ => rfl)
      (case zd => rfl)
      refine' And.intro (Dp.er_at Dp.ebV Dp.ebV_ok KX G ?za ?zb ?zc ?zaa ?zd ?yf ?yg ?yh ?yi ?ze ?zf ?zg ?zh ?zi ?zj ?zk ?zl ?zm ?zn ?zo ?zp ?zq ?zr ?zs ?zt ?zu ?zv ?zw ?zx ?zy ?zz) ?_
      (case za => k_is); (case zb => first | k_is | rfl); (case zc => rfl); (case zaa => first | k_is | rfl); (case ze => first | k_is | rfl); (case zf => rfl); (case zg => first | k_is | rfl); (case zh => rfl); (case zi => rfl); (case zj => first | k_is | rfl)
      (case zk => rfl); (case zl => rfl); (case zm => decide); (case zn => rfl); (case zo => rfl); (case zp => rfl); (case zq => rfl); (case zr => rfl); (case zs => rfl); (case zt => rfl); (case zu => rfl); (case zv => rfl); (case zw => rfl); (case zx => rfl); (case zy => rfl); (case yf => rfl); (case yg => rfl); (case yh => rfl); (case yi => rfl); (case zz => exact fun _ _ _ _ _ _ us hl => match us, hl with | [_, _], _ => rfl)
      (case zd => rfl)
      refine' And.intro (Dp.er_at Dp.ebV Dp.ebV_ok KX G ?za ?zb ?zc ?zaa ?zd ?yf ?yg ?yh ?yi ?ze ?zf ?zg ?zh ?zi ?zj ?zk ?zl ?zm ?zn ?zo ?zp ?zq ?zr ?zs ?zt ?zu ?zv ?zw ?zx ?zy ?zz) ?_
      (case za => k_is); (case zb => first | k_is | rfl); (case zc => rfl); (case zaa => first | k_is | rfl); (case ze => first | k_is | rfl); (case zf => rfl); (case zg => first | k_is | rfl); (case zh => rfl); (case zi => rfl); (case zj => first | k_is | rfl)
      (case zk => rfl); (case zl => rfl); (case zm => decide); (case zn => rfl); (case zo => rfl); (case zp => rfl); (case zq => rfl); (case zr => rfl); (case zs => rfl); (case zt => rfl); (case zu => rfl); (case zv => rfl); (case zw => rfl); (case zx => rfl); (case zy => rfl); (case yf => rfl); (case yg => rfl); (case yh => rfl); (case yi => rfl); (case zz => exact fun _ _ _ _ _ _ us hl => match us, hl with | [_, _], _ => rfl)
      (case zd => rfl)
      exact True.intro
    case hds =>
      exact True.intro
    case nT =>
      intro P hP
      cases hP
    case hC =>
      intro p hp
      cases hp
