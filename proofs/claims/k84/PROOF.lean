import PyProof.Rows.All
import PySem.Syntax
import KE.SortData
import HandS.Comp
import HandS.ForMost
import HandS.ForExc
import HandS.HeadHook1
import HandS.Flow
import HandS.TupAny
import HandS.Style
import HandS.TupLen
import HandS.IsInst
import HandS.Conv
import HandS.Dict
import KE.DataEq
import HandS.CallSlots
import HandS.Walk
import HandS.NoneIn
import HandS.DictComp
import HandS.SortInts
import KE.GoesZip
import KE.GoesMore
import PyProof.EnumMake
import HandS.SetFor
import HandS.Strs
import PyProof.Rows.SetFrom
import KE.KDictZip
import HandS.Keys
import HandS.ExcSuper
import HandS.ExcInit
import HandS.ExcOwn
import HandS.ExcIs
import HandS.ExcField
import HandS.Nested
import KE.KExcSuper
import HandS.Small
import HandS.Defaults
import HandS.Codes
import HandS.HeadHook2
import HandS.Head0
import HandS.Head1
import HandS.Head2
import HandS.HeadEnd
import HandS.HeadHook4
import HandS.Words
import PySem.Challenge.RW_gameproved_k84_whole_marks_of_ways
set_option autoImplicit false
set_option linter.all false
/-! A small interpreter over plain data, for programs that keep their mutable objects few: values D, cells, expressions Ex, statements Stm. -/
namespace Px
open PySem (Str)

/-- the keys of a dict: ints and texts; tuples of such -/
inductive Kc where
  | k | t
  deriving DecidableEq, Repr
/-- data: what never changes is written out (tup, lst, dct); ref l is the mutable object in cell l -/
inductive D where
  | non | bl (b : Bool) | int (i : Int) | str (s : Str)
  | tup (xs : List D) | lst (xs : List D) | dct (t : Kc) (kvs : List (D × D)) | ref (l : Nat)
  /-- a list from outside, only read -/
  | scr (xs : List D)
  | exn (cls : Str) (fs : List (Str × D))
instance : Inhabited D := ⟨.non⟩

/-- a cell of the heap -/
inductive Cell where
  | l (xs : List D) | d (t : Kc) (kvs : List (D × D)) | inst (cls : Str) (fs : List (Str × D)) | lock
instance : Inhabited Cell := ⟨.l []⟩
abbrev Hh := List Cell

structure Exn where
  cls : Str
  fs : List (Str × D)

inductive Res (α : Type) where
  | ok (a : α) (h : Hh) | exc (e : Exn) (h : Hh) | stuck
abbrev M (α : Type) := Hh → Res α
def Res.bind {α β : Type} (r : Res α) (f : α → M β) : Res β := match r with
  | .ok a h => f a h
  | .exc e h => .exc e h
  | .stuck => .stuck
def ret {α : Type} (a : α) : M α := fun h => .ok a h
def fail {α : Type} : M α := fun _ => .stuck
def bind {α β : Type} (m : M α) (f : α → M β) : M β := fun h => (m h).bind f
def opt {α : Type} (o : Option α) : M α := match o with
  | some a => ret a
  | none => fail
@[simp] theorem bind_ok {α β : Type} (a : α) (h : Hh) (f : α → M β) : (Res.ok a h).bind f = f a h := rfl
@[simp] theorem bind_exc {α β : Type} (e : Exn) (h : Hh) (f : α → M β) : (Res.exc e h : Res α).bind f = .exc e h := rfl
@[simp] theorem bind_stuck {α β : Type} (f : α → M β) : (Res.stuck : Res α).bind f = .stuck := rfl
@[simp] theorem ret_bind {α β : Type} (a : α) (f : α → M β) (h : Hh) : bind (ret a) f h = f a h := rfl
@[simp] theorem bind_at {α β : Type} (m : M α) (f : α → M β) (h : Hh) : bind m f h = (m h).bind f := rfl
@[simp] theorem ret_at {α : Type} (a : α) (h : Hh) : ret a h = .ok a h := rfl
@[simp] theorem fail_at {α : Type} (h : Hh) : (fail : M α) h = .stuck := rfl
@[simp] theorem opt_some {α : Type} (a : α) : opt (some a) = ret a := rfl
@[simp] theorem opt_none {α : Type} : (opt none : M α) = fail := rfl

/-- the longest list -/
abbrev big : Nat := 16777216

/-! ### data -/
mutual
/-- no mutable object within -/
def D.pure : D → Bool
  | .non | .bl _ | .int _ | .str _ => true
  | .tup xs | .lst xs | .scr xs => pureL xs
  | .dct _ kvs => pureK kvs
  | .ref _ | .exn _ _ => false
def pureL : List D → Bool
  | [] => true
  | x :: xs => x.pure && pureL xs
def pureK : List (D × D) → Bool
  | [] => true
  | (k, v) :: r => k.pure && v.pure && pureK r
end
mutual
/-- numbers, truth values, None, texts, lists and tuples of these -/
def D.plain : D → Bool
  | .non | .bl _ | .int _ | .str _ => true
  | .tup xs | .lst xs => plainL xs
  | .dct _ _ | .ref _ | .exn _ _ | .scr _ => false
def plainL : List D → Bool
  | [] => true
  | x :: xs => x.plain && plainL xs
end
mutual
def D.depth : D → Nat
  | .tup xs | .lst xs => depthL xs + 1
  | _ => 1
def depthL : List D → Nat
  | [] => 0
  | x :: xs => max x.depth (depthL xs)
end
mutual
/-- == of Python -/
def D.eqv : D → D → Bool
  | .non, .non => true
  | .bl a, .bl b => a == b
  | .bl a, .int j => (if a then 1 else 0) == j
  | .int i, .bl b => i == (if b then 1 else 0)
  | .int i, .int j => i == j
  | .str x, .str y => x == y
  | .lst xs, .lst ys => eqvL xs ys
  | .tup xs, .tup ys => eqvL xs ys
  | _, _ => false
def eqvL : List D → List D → Bool
  | [], [] => true
  | x :: xs, y :: ys => x.eqv y && eqvL xs ys
  | _, _ => false
end
/-- no list, tuple, dict, object -/
def D.scal : D → Bool
  | .non | .bl _ | .int _ | .str _ => true
  | _ => false
/-- what == is asked of -/
def eqM (a b : D) : M Bool := if a.scal && b.scal then ret (a.eqv b) else if a.plain && b.plain && (decide (a.depth ≤ 100) || decide (b.depth ≤ 100)) then ret (a.eqv b) else fail

def D.flat : D → Bool
  | .int _ | .str _ => true
  | _ => false
/-- a key of a dict of that kind -/
def keyOk : Kc → D → Bool
  | .k, d => d.flat
  | .t, .tup xs => xs.all D.flat
  | .t, _ => false
mutual
def D.keq : D → D → Bool
  | .int i, .int j => decide (i = j)
  | .str x, .str y => decide (x = y)
  | .tup xs, .tup ys => keqL xs ys
  | _, _ => false
def keqL : List D → List D → Bool
  | [], [] => true
  | x :: xs, y :: ys => x.keq y && keqL xs ys
  | _, _ => false
end
def kget (kvs : List (D × D)) (k : D) : Option D := (kvs.find? fun p => p.1.keq k).map (·.2)
def khas (kvs : List (D × D)) (k : D) : Bool := kvs.any fun p => p.1.keq k
def kput (kvs : List (D × D)) (k v : D) : List (D × D) := if khas kvs k then kvs.map fun p => if p.1.keq k then (p.1, v) else p else kvs ++ [(k, v)]

/-! ### cells -/
def cellAt (l : Nat) : M Cell := fun h => match h[l]? with
  | some c => .ok c h
  | none => .stuck
def alloc (c : Cell) : M D := fun h => .ok (.ref h.length) (h ++ [c])
def setCell (l : Nat) (c : Cell) : M Unit := fun h => if l < h.length then .ok () (h.set l c) else .stuck
/-- the items of a list or tuple -/
def seqOf : D → M (List D)
  | .tup xs | .lst xs => ret xs
  | .ref l => bind (cellAt l) fun c => match c with
    | .l xs => ret xs
    | _ => fail
  | _ => fail
/-- the items of a list or tuple that never changes -/
def seqFz : D → M (List D)
  | .tup xs | .lst xs | .scr xs => ret xs
  | _ => fail
/-- the items of a list -/
def lstOf : D → M (List D)
  | .lst xs => ret xs
  | .ref l => bind (cellAt l) fun c => match c with
    | .l xs => ret xs
    | _ => fail
  | _ => fail
def truthy : D → M Bool
  | .non => ret false
  | .bl b => ret b
  | .int i => ret (decide (i ≠ 0))
  | .str _ => fail
  | .tup xs | .lst xs => ret (!xs.isEmpty)
  | .dct _ _ | .scr _ | .exn _ _ => fail
  | .ref l => bind (cellAt l) fun c => match c with
    | .l xs => ret (!xs.isEmpty)
    | _ => fail

/-! ### the language -/
inductive Bop where
  | add | sub | mul | fdiv | mod | pow | band | bxor
  deriving DecidableEq, Repr
inductive Cop where
  | eq | ne | lt | le | gt | ge | is | isnot | inn | notin
  deriving DecidableEq, Repr
inductive Ty where
  | int | bool | str | tuple | list | dict
  deriving DecidableEq, Repr
inductive Prim where
  | len | sum | min | max | min2 | max2 | any | all | tuple | int | abs
  deriving DecidableEq, Repr
/-- methods of lists and dicts -/
inductive Lm where
  | append | pop | popAt | extend | index | get1 | get2
  deriving DecidableEq, Repr
/-- a def: a global's name; a class and its method -/
abbrev Fid := Str × Option Str

/-- a target: slots -/
inductive Tg where
  | name (i : Nat) | tup (ts : List Tg)

mutual
inductive Ex where
  | lit (d : D)
  | var (i : Nat)
  | glob (x : Str)
  | bin (op : Bop) (a b : Ex)
  | neg (a : Ex)
  | not (a : Ex)
  | and (a b : Ex)
  | or (a b : Ex)
  | cmp (op : Cop) (a b : Ex)
  | chain (o1 o2 : Cop) (a b c : Ex)
  | inGlob (neg : Bool) (a : Ex) (x : Str)
  | ite (c a b : Ex)
  | tup (es : List Ex)
  | new (m : Bool) (al : Al)
  | idx (a b : Ex)
  | slice (a : Ex) (lo hi : Option Ex)
  | isinst (a : Ex) (ts : List Ty)
  | isown (a : Ex) (c : Str)
  | prim (p : Prim) (es : List Ex)
  | call (f : Fid) (es : List Ex)
  | make (c : Str) (es : List Ex)
  | meth (m : Str) (a : Ex) (es : List Ex)
  | lmeth (m : Lm) (a : Ex) (es : List Ex)
  | attr (a : Ex) (f : Str)
inductive Al where
  | disp (es : List Ex)
  /-- key, value, key, value, .. -/
  | ddisp (t : Kc) (kvs : List Ex)
  /-- vs: the block's own slots -/
  | comp (vs : List Nat) (e : Ex) (tg : Tg) (it : It) (ifs : List Ex)
  | comp2 (vs : List Nat) (e : Ex) (tg : Tg) (it : It) (ifs : List Ex) (vs2 : List Nat) (tg2 : Tg) (it2 : It) (ifs2 : List Ex)
  | dcomp (t : Kc) (vs : List Nat) (k v : Ex) (tg : Tg) (it : It)
  | listOf (it : It)
  | dictOf (t : Kc) (e : Ex)
  | sorted (e : Ex)
  | sortedSet (e : Ex)
  | cat (a b : Ex)
  | rep (a b : Ex)
  | sliceL (a : Ex) (lo hi : Option Ex)
inductive It where
  | ex (e : Ex)
  | range1 (b : Ex)
  | range2 (a b : Ex)
  | range3 (a b c : Ex)
  | enum (e : Ex)
  | zip (a b : Ex)
  | rev (e : Ex)
end
mutual
inductive Stm where
  | set (i : Nat) (e : Ex)
  | setT (tg : Tg) (e : Ex)
  | par (is : List Nat) (es : List Ex)
  | aug (i : Nat) (op : Bop) (e : Ex)
  | setIdx (o i e : Ex)
  | setAttr (o : Ex) (f : Str) (e : Ex)
  | expr (e : Ex)
  | ret (e : Ex)
  | retN
  | ife (c : Ex) (a b : List Stm)
  | forr (tg : Tg) (it : It) (body : List Stm)
  | whil (c : Ex) (body : List Stm)
  | brk | cont | pass
  | raise (c : Str) (es : List Ex)
  | tryy (e : Ex) (hs : Hs)
/-- except clauses: the class, the name's slot, the suite -/
inductive Hs where
  | nil
  | cons (cls : Str) (i : Option Nat) (body : List Stm) (r : Hs)
end
end Px

set_option autoImplicit false
set_option linter.all false
namespace Px
open PySem (Str)
open PySem (PyData)

/-! ### numbers, places, sorts -/
def two64 : Int := 18446744073709551616
def smallI (i : Int) : Bool := decide (-two64 < i) && decide (i < two64)
def ixn (n : Nat) (i : Int) : Option Nat := if 0 ≤ i then (if i < n then some i.toNat else none) else if -(n : Int) ≤ i then some (i + n).toNat else none
def atD (xs : List D) (i : Int) : Option D := (ixn xs.length i).bind fun j => xs[j]?
def six (n d : Nat) : Option Int → Nat
  | none => d
  | some v => if v < 0 then (v + (n : Int)).toNat else min v.toNat n
def cut (xs : List D) (lo hi : Option Int) : List D := (xs.drop (six xs.length 0 lo)).take (six xs.length xs.length hi - six xs.length 0 lo)

def intsOf : List D → Option (List Int)
  | [] => some []
  | .int i :: r => (intsOf r).map (i :: ·)
  | _ :: _ => none
def blsOf : List D → Option (List Bool)
  | [] => some []
  | .bl b :: r => (blsOf r).map (b :: ·)
  | _ :: _ => none
def ins (x : Int) : List Int → List Int
  | [] => [x]
  | y :: r => if x ≤ y then x :: y :: r else y :: ins x r
def isort : List Int → List Int
  | [] => []
  | x :: r => ins x (isort r)
/-! data as the model reads it -/
mutual
def D.toP : D → PyData
  | .non => .none
  | .bl b => .bool b
  | .int i => .int i
  | .str s => .str s
  | .tup xs => .tuple (toPL xs)
  | .lst xs => .list (toPL xs)
  | _ => .none
def toPL : List D → List PyData
  | [] => []
  | x :: xs => x.toP :: toPL xs
end
/-- what Python's sort puts in order: values of one kind, compared place by place -/
def neTup : D → Bool
  | .tup (_ :: _) => true
  | _ => false
def noTup : D → Bool
  | .tup _ => false
  | .non => false
  | _ => true
def sortable (xs : List D) : Bool := (plainL xs && decide (depthL xs ≤ 100)) && (xs.all neTup || xs.all noTup) && xs.all fun x => xs.all fun y => PySem.W.alike x.toP y.toP
def sortD (xs : List D) : List D := xs.mergeSort fun x y => !PySem.W.dataLt y.toP x.toP
def dedupI : List Int → List Int
  | [] => []
  | x :: r => if x ∈ r then dedupI r else x :: dedupI r
def maxI : List Int → Option Int
  | [] => none
  | x :: r => some (r.foldl max x)
def minI : List Int → Option Int
  | [] => none
  | x :: r => some (r.foldl min x)
/-- lo, lo + 1, .. (n of them) -/
def rangeD (lo : Int) : Nat → List D
  | 0 => []
  | n + 1 => .int lo :: rangeD (lo + 1) n
/-- lo, lo + c, .. -/
def rangeC (lo c : Int) : Nat → List D
  | 0 => []
  | n + 1 => .int lo :: rangeC (lo + c) c n
def enumD (i : Nat) : List D → List D
  | [] => []
  | x :: r => .tup [.int i, x] :: enumD (i + 1) r
def zipD : List D → List D → List D
  | x :: xs, y :: ys => .tup [x, y] :: zipD xs ys
  | _, _ => []
/-- pairs of a list of pairs -/
def pairsOf : List D → Option (List (D × D))
  | [] => some []
  | .tup [k, v] :: r => (pairsOf r).map ((k, v) :: ·)
  | _ :: _ => none
def putAll (kvs : List (D × D)) : List (D × D) → List (D × D)
  | [] => kvs
  | (k, v) :: r => putAll (kput kvs k v) r

/-! ### operators by values -/
def two30 : Int := 1073741824
def binop (op : Bop) (a b : D) : M D := match op, a, b with
  | .add, .int i, .int j => ret (.int (i + j))
  | .add, .tup xs, .tup ys => if xs.length + ys.length ≤ big then ret (.tup (xs ++ ys)) else fail
  | .sub, .int i, .int j => ret (.int (i - j))
  | .mul, .int i, .int j => if smallI i || smallI j then ret (.int (i * j)) else fail
  | .fdiv, .int i, .int j => if 0 < j ∧ j < two30 then ret (.int (i / j)) else fail
  | .mod, .int i, .int j => if 0 < j then ret (.int (i % j)) else fail
  | .pow, .int i, .int j => if (decide (0 ≤ j) && decide (j ≤ 1000000)) && smallI i then ret (.int (i ^ j.toNat)) else fail
  | .add, a, b => bind (lstOf a) fun xs => bind (lstOf b) fun ys => if xs.length + ys.length ≤ big then ret (.lst (xs ++ ys)) else fail
  | .mul, a, .int k => bind (lstOf a) fun xs => if (decide (k < 1048576) && decide (-1048576 < k)) && decide (xs.length * k.toNat ≤ big) then ret (.lst (List.replicate k.toNat xs).flatten) else fail
  | _, _, _ => fail
/-- x in y, by values -/
def inSeq (x : D) (ys : List D) : M Bool :=
  if x.scal && ys.all D.scal then ret (ys.any fun y => y.eqv x) else if x.plain && plainL ys && decide (depthL ys ≤ 100) then ret (ys.any fun y => y.eqv x) else fail
def inD (x y : D) : M Bool := match y with
  | .tup ys | .lst ys => inSeq x ys
  | .dct t kvs => if keyOk t x then ret (khas kvs x) else fail
  | .ref l => bind (cellAt l) fun c => match c with
    | .l ys => inSeq x ys
    | .d t kvs => if keyOk t x then ret (khas kvs x) else fail
    | _ => fail
  | _ => fail
def cmpop (op : Cop) (a b : D) : M Bool := match op with
  | .eq => eqM a b
  | .ne => bind (eqM a b) fun r => ret (!r)
  | .lt => match a, b with
    | .int i, .int j => ret (decide (i < j))
    | _, _ => fail
  | .le => match a, b with
    | .int i, .int j => ret (decide (i ≤ j))
    | _, _ => fail
  | .gt => match a, b with
    | .int i, .int j => ret (decide (j < i))
    | _, _ => fail
  | .ge => match a, b with
    | .int i, .int j => ret (decide (j ≤ i))
    | _, _ => fail
  | .is => match b with
    | .non => ret (match a with | .non => true | _ => false)
    | _ => fail
  | .isnot => match b with
    | .non => ret (match a with | .non => false | _ => true)
    | _ => fail
  | .inn => inD a b
  | .notin => bind (inD a b) fun r => ret (!r)
def isTy (d : D) (t : Ty) : M Bool := match d with
  | .non => ret false
  | .bl _ => ret (match t with | .bool | .int => true | _ => false)
  | .int _ => ret (match t with | .int => true | _ => false)
  | .str _ => ret (match t with | .str => true | _ => false)
  | .tup _ => ret (match t with | .tuple => true | _ => false)
  | .lst _ => ret (match t with | .list => true | _ => false)
  | .dct _ _ => ret (match t with | .dict => true | _ => false)
  | .scr _ => fail
  | .ref l => bind (cellAt l) fun c => match c with
    | .l _ => ret (match t with | .list => true | _ => false)
    | .d _ _ => ret (match t with | .dict => true | _ => false)
    | _ => fail
  | .exn _ _ => fail
def isTys (d : D) : List Ty → M Bool
  | [] => ret false
  | t :: r => bind (isTy d t) fun b => if b then ret true else isTys d r
def lenD : D → M D
  | .tup xs | .lst xs => ret (.int xs.length)
  | .dct _ kvs => ret (.int kvs.length)
  | .ref l => bind (cellAt l) fun c => match c with
    | .l xs => ret (.int xs.length)
    | .d _ kvs => ret (.int kvs.length)
    | _ => fail
  | _ => fail
def primop (p : Prim) (args : List D) : M D := match p, args with
  | .len, [d] => lenD d
  | .sum, [d] => bind (lstOf d) fun xs => match intsOf xs with
    | some ns => ret (.int ns.sum)
    | none => fail
  | .max, [d] => bind (lstOf d) fun xs => match (intsOf xs).bind maxI with
    | some n => ret (.int n)
    | none => fail
  | .min, [d] => bind (lstOf d) fun xs => match (intsOf xs).bind minI with
    | some n => ret (.int n)
    | none => fail
  | .max2, [.int i, .int j] => ret (.int (max i j))
  | .min2, [.int i, .int j] => ret (.int (min i j))
  | .any, [d] => bind (lstOf d) fun xs => match blsOf xs with
    | some bs => ret (.bl (bs.any id))
    | none => fail
  | .all, [d] => bind (lstOf d) fun xs => match blsOf xs with
    | some bs => ret (.bl (bs.all id))
    | none => fail
  | .tuple, [d] => bind (seqOf d) fun xs => ret (.tup xs)
  | .int, [.int i] => ret (.int i)
  | .int, [.bl b] => ret (.int (if b then 1 else 0))
  | .abs, [.int i] => ret (.int (if i < 0 then -i else i))
  | _, _ => fail
/-- a[i], d[k] -/
def idxop (a i : D) : M D := match a with
  | .tup xs | .lst xs => match i with
    | .int k => opt (atD xs k)
    | _ => fail
  | .dct t kvs => if keyOk t i then opt (kget kvs i) else fail
  | .ref l => bind (cellAt l) fun c => match c, i with
    | .l xs, .int k => opt (atD xs k)
    | .d t kvs, i => if keyOk t i then opt (kget kvs i) else fail
    | _, _ => fail
  | _ => fail
def sliceop (x : D) (l h : Option Int) : M D := match x with
  | .tup xs => ret (.tup (cut xs l h))
  | x => bind (lstOf x) fun xs => ret (.lst (cut xs l h))
/-- may d be stored in the cell l: what holds no mutable object, or the cell is of this frame -/
def storable (base l : Nat) (d : D) : Bool := decide (base ≤ l) || d.pure
def setop (base : Nat) (o i v : D) : M Unit := match o with
  | .ref l => bind (cellAt l) fun c => match c, i with
    | .l xs, .int k => bind (opt (ixn xs.length k)) fun j => if storable base l v then setCell l (.l (xs.set j v)) else fail
    | .d t kvs, i => if keyOk t i && storable base l v && decide (kvs.length < big) then setCell l (.d t (kput kvs i v)) else fail
    | _, _ => fail
  | _ => fail
def lmop (base : Nat) (m : Lm) (a : D) (args : List D) : M D := match a with
  | .ref l => bind (cellAt l) fun c => match m, c, args with
    | .append, .l xs, [v] => if storable base l v && decide (xs.length < big) then bind (setCell l (.l (xs ++ [v]))) fun _ => ret .non else fail
    | .pop, .l xs, [] => bind (opt xs.getLast?) fun y => bind (setCell l (.l xs.dropLast)) fun _ => ret y
    | .popAt, .l xs, [.int i] => bind (opt (ixn xs.length i)) fun k => bind (opt xs[k]?) fun y => bind (setCell l (.l (xs.eraseIdx k))) fun _ => ret y
    | _, _, _ => fail
  | _ => fail
def attrop (a : D) (f : Str) : M D := match a with
  | .ref l => bind (cellAt l) fun c => match c with
    | .inst _ fs => opt (fs.lookup f)
    | _ => fail
  | .exn _ fs => opt (fs.lookup f)
  | _ => fail
def putF (fs : List (Str × D)) (f : Str) (v : D) : List (Str × D) := match fs with
  | [] => [(f, v)]
  | (g, w) :: r => if g = f then (g, v) :: r else (g, w) :: putF r f v
def setattr (base : Nat) (o : D) (f : Str) (v : D) : M Unit := match o with
  | .ref l => bind (cellAt l) fun c => match c with
    | .inst cl fs => if storable base l v && decide (fs.length < 900) then setCell l (.inst cl (putF fs f v)) else fail
    | _ => fail
  | _ => fail

/-! ### the context: what the module's top has -/
structure ExcI where
  /-- no __init__ of its own: made with one text; else the parameters' defaults (from the right), the fields by parameters -/
  plain : Bool
  np : Nat
  dfl : List D
  fields : List (Str × Nat)
structure Cxt where
  consts : List (Str × D)
  /-- written tuples of scalars -/
  tcs : List (Str × List D)
  exc : List (Str × ExcI)
  /-- a class with all that it is a subclass of, itself among them -/
  sub : List (Str × List Str)
  call : Fid → Nat → List D → M D

abbrev Env := List (Option D)
def getVar (env : Env) (i : Nat) : M D := match env[i]? with
  | some (some d) => ret d
  | _ => fail
/-- a block's own names are not yet bound -/
def wipeE (env : Env) : List Nat → Env
  | [] => env
  | v :: vs => (wipeE env vs).set v none
mutual
/-- names bound by a target -/
def bindTg : Tg → D → Env → M Env
  | .name i, d, env => ret (env.set i (some d))
  | .tup ts, d, env => bind (seqOf d) fun xs => bindTgs ts xs env
def bindTgs : List Tg → List D → Env → M Env
  | [], [], env => ret env
  | t :: ts, d :: ds, env => bind (bindTg t d env) fun env' => bindTgs ts ds env'
  | _, _, _ => fail
end
/-- what a loop walks: items that stay, the list in a cell as it stands at each turn, a dict's keys (its cell is shut meanwhile) -/
inductive Walk where
  | items (xs : List D) | cell (l : Nat) (n : Nat) | keys (l : Nat)
def walkOf : D → M Walk
  | .tup xs | .lst xs | .scr xs => ret (.items xs)
  | .ref l => bind (cellAt l) fun c => match c with
    | .l xs => ret (.cell l xs.length)
    | .d _ _ => ret (.keys l)
    | _ => fail
  | _ => fail
/-- no exception leaves -/
def nox {α : Type} (m : M α) : M α := fun h => match m h with
  | .ok a h' => .ok a h'
  | _ => .stuck
def collectI (f : D → M (List D)) : List D → M (List D)
  | [] => ret []
  | x :: r => bind (f x) fun a => bind (collectI f r) fun b => ret (a ++ b)
/-- k turns left of n -/
def collectC (l : Nat) (n : Nat) (f : D → M (List D)) : Nat → M (List D)
  | 0 => bind (cellAt l) fun c => match c with
    | .l xs => if xs.length ≤ n then ret [] else fail
    | _ => fail
  | k + 1 => bind (cellAt l) fun c => match c with
    | .l xs => match xs[n - (k + 1)]? with
      | some x => bind (f x) fun a => bind (collectC l n f k) fun b => ret (a ++ b)
      | none => fail
    | _ => fail
def collect (f : D → M (List D)) : Walk → M (List D)
  | .items xs => collectI f xs
  | .cell l n => collectC l n f n
  | .keys l => bind (cellAt l) fun c => match c with
    | .d t kvs => bind (setCell l .lock) fun _ => bind (collectI f (kvs.map (·.1))) fun r => bind (setCell l (.d t kvs)) fun _ => ret r
    | _ => fail
def short (xs : List D) : M (List D) := if xs.length ≤ big then ret xs else fail
def asInt : D → M Int
  | .int i => ret i
  | _ => fail
/-- the contents of a new object -/
def content : Cell → M D
  | .l xs => ret (.lst xs)
  | .d t kvs => ret (.dct t kvs)
  | _ => fail
def optInt : Option D → M (Option Int)
  | none => ret none
  | some (.int i) => ret (some i)
  | _ => fail
def rangeW (i j : Int) : M Walk := if (decide (-4611686018427387904 ≤ i) && decide (i < 4611686018427387904)) && ((decide (-4611686018427387904 ≤ j) && decide (j < 4611686018427387904)) && decide ((j - i).toNat ≤ big)) then ret (.items (rangeD i (j - i).toNat)) else fail

def pairUp : List D → Option (List (D × D))
  | [] => some []
  | k :: v :: r => (pairUp r).map ((k, v) :: ·)
  | [_] => none
def noKeys : Walk → M Walk
  | .keys _ => fail
  | w => ret w
/-- a dict is walked by its name alone -/
def keysOf (it : It) (w : Walk) : M Walk := match w, it with
  | .keys l, .ex (.var _) => ret (.keys l)
  | .keys _, _ => fail
  | w, _ => ret w
mutual
def evE (c : Cxt) (base : Nat) (env : Env) : Ex → M D
  | .lit d => ret d
  | .var i => getVar env i
  | .glob x => opt (c.consts.lookup x)
  | .bin op a b => bind (evE c base env a) fun x => bind (evE c base env b) fun y => binop op x y
  | .neg a => bind (evE c base env a) fun x => match x with
    | .int i => ret (.int (-i))
    | _ => fail
  | .not a => bind (evE c base env a) fun x => bind (truthy x) fun b => ret (.bl (!b))
  | .and a b => bind (evE c base env a) fun x => bind (truthy x) fun t => if t then evE c base env b else ret x
  | .or a b => bind (evE c base env a) fun x => bind (truthy x) fun t => if t then ret x else evE c base env b
  | .cmp op a b => bind (evE c base env a) fun x => bind (evE c base env b) fun y => bind (cmpop op x y) fun r => ret (.bl r)
  | .chain o1 o2 a b d => bind (evE c base env a) fun x => bind (evE c base env b) fun y => bind (cmpop o1 x y) fun r =>
      if r then bind (evE c base env d) fun z => bind (cmpop o2 y z) fun r2 => ret (.bl r2) else ret (.bl false)
  | .inGlob neg a x => bind (evE c base env a) fun v => match c.tcs.lookup x with
    | some ys => bind (inSeq v ys) fun r => ret (.bl (if neg then !r else r))
    | none => fail
  | .ite t a b => bind (evE c base env t) fun x => bind (truthy x) fun r => if r then evE c base env a else evE c base env b
  | .tup es => bind (evEs c base env es) fun xs => bind (short xs) fun xs => ret (.tup xs)
  | .new m al => bind (evAl c base env al) fun ct => if m then alloc ct else content ct
  | .idx a b => bind (evE c base env a) fun x => bind (evE c base env b) fun y => idxop x y
  | .slice a lo hi => bind (evE c base env a) fun x => bind (evO c base env lo) fun l => bind (evO c base env hi) fun h => sliceop x l h
  | .isinst a ts => bind (evE c base env a) fun x => bind (isTys x ts) fun b => ret (.bl b)
  | .isown a cl => bind (evE c base env a) fun x => match x with
    | .exn e _ => bind (opt (c.sub.lookup e)) fun l => ret (.bl (l.contains cl))
    | _ => fail
  | .prim p es => bind (evEs c base env es) fun xs => primop p xs
  | .call f es => bind (evEs c base env es) fun xs => c.call f base xs
  | .make cl es => bind (evEs c base env es) fun xs => bind (alloc (.inst cl [])) fun r => bind (c.call (cl, some "__init__") base (r :: xs)) fun v => match v with
    | .non => ret r
    | _ => fail
  | .meth m a es => bind (evE c base env a) fun x => match x with
    | .ref l => bind (cellAt l) fun ce => match ce with
      | .inst cl _ => bind (evEs c base env es) fun xs => c.call (cl, some m) base (.ref l :: xs)
      | _ => fail
    | _ => fail
  | .lmeth m a es => bind (evE c base env a) fun x => bind (lstOf x) fun _ => bind (evEs c base env es) fun xs => lmop base m x xs
  | .attr a f => bind (evE c base env a) fun x => attrop x f
def evO (c : Cxt) (base : Nat) (env : Env) : Option Ex → M (Option Int)
  | none => ret none
  | some e => bind (evE c base env e) fun x => bind (asInt x) fun i => ret (some i)
def evEs (c : Cxt) (base : Nat) (env : Env) : List Ex → M (List D)
  | [] => ret []
  | e :: es => bind (evE c base env e) fun x => bind (evEs c base env es) fun xs => ret (x :: xs)
/-- all hold -/
def evIfs (c : Cxt) (base : Nat) (env : Env) : List Ex → M Bool
  | [] => ret true
  | e :: es => bind (evE c base env e) fun x => bind (truthy x) fun b => if b then evIfs c base env es else ret false
def evAl (c : Cxt) (base : Nat) (env : Env) : Al → M Cell
  | .disp es => bind (evEs c base env es) fun xs => bind (short xs) fun xs => ret (.l xs)
  | .ddisp t kvs => bind (evEs c base env kvs) fun xs => match pairUp xs with
    | some ps => if ps.all fun p => keyOk t p.1 then ret (.d t (putAll [] ps)) else fail
    | none => fail
  | .comp vs e tg it ifs => bind (evIt c base env it) fun w => bind (keysOf it w) fun w => bind (collect (fun x => nox <| bind (bindTg tg x (wipeE env vs)) fun env' => bind (evIfs c base env' ifs) fun b =>
      if b then bind (evE c base env' e) fun y => ret [y] else ret []) w) fun xs => ret (.l xs)
  | .comp2 vs e tg it ifs vs2 tg2 it2 ifs2 => bind (evIt c base env it) fun w => bind (noKeys w) fun w => bind (collect (fun x => nox <| bind (bindTg tg x (wipeE env vs)) fun env' => bind (evIfs c base env' ifs) fun b =>
      if b then bind (evIt c base env' it2) fun w2 => bind (noKeys w2) fun w2 => collect (fun x2 => bind (bindTg tg2 x2 (wipeE env' vs2)) fun env2 => bind (evIfs c base env2 ifs2) fun b2 =>
        if b2 then bind (evE c base env2 e) fun y => ret [y] else ret []) w2 else ret []) w) fun xs => bind (short xs) fun xs => ret (.l xs)
  | .dcomp t vs k v tg it => bind (evIt c base env it) fun w => bind (noKeys w) fun w => bind (collect (fun x => nox <| bind (bindTg tg x (wipeE env vs)) fun env' => bind (evE c base env' k) fun a => bind (evE c base env' v) fun b =>
      if keyOk t a then ret [.tup [a, b]] else fail) w) fun ps => match pairsOf ps with
        | some kvs => ret (.d t (putAll [] kvs))
        | none => fail
  | .listOf it => bind (evIt c base env it) fun w => match w with
    | .items xs => ret (.l xs)
    | .cell l _ => bind (cellAt l) fun c => match c with
      | .l xs => ret (.l xs)
      | _ => fail
    | .keys l => bind (cellAt l) fun c => match c with
      | .d _ kvs => ret (.l (kvs.map (·.1)))
      | _ => fail
  | .dictOf t e => bind (evE c base env e) fun x => bind (lstOf x) fun xs => match pairsOf xs with
    | some kvs => if kvs.all fun p => keyOk t p.1 then ret (.d t (putAll [] kvs)) else fail
    | none => fail
  | .sorted e => bind (evE c base env e) fun x => bind (lstOf x) fun xs => match intsOf xs with
    | some ns => ret (.l ((isort ns).map .int))
    | none => if sortable xs then ret (.l (sortD xs)) else fail
  | .sortedSet e => bind (evE c base env e) fun x => bind (seqOf x) fun xs => match intsOf xs with
    | some ns => if (dedupI ns).length < 64 ∧ ns.length < 4000 then ret (.l ((isort (dedupI ns)).map .int)) else fail
    | none => fail
  | .cat a b => bind (evE c base env a) fun x => bind (evE c base env b) fun y => bind (lstOf x) fun xs => bind (lstOf y) fun ys => if xs.length + ys.length ≤ big then ret (.l (xs ++ ys)) else fail
  | .rep a b => bind (evE c base env a) fun x => bind (evE c base env b) fun y => bind (asInt y) fun k => bind (lstOf x) fun xs =>
      if (decide (k < 1048576) && decide (-1048576 < k)) && decide (xs.length * k.toNat ≤ big) then ret (.l (List.replicate k.toNat xs).flatten) else fail
  | .sliceL a lo hi => bind (evE c base env a) fun x => bind (evO c base env lo) fun l => bind (evO c base env hi) fun h => bind (lstOf x) fun xs => ret (.l (cut xs l h))
def evIt (c : Cxt) (base : Nat) (env : Env) : It → M Walk
  | .ex e => bind (evE c base env e) fun x => walkOf x
  | .range1 b => bind (evE c base env b) fun y => bind (asInt y) fun j => rangeW 0 j
  | .range2 a b => bind (evE c base env a) fun x => bind (evE c base env b) fun y => bind (asInt x) fun i => bind (asInt y) fun j => rangeW i j
  | .range3 a b d => bind (evE c base env a) fun x => bind (evE c base env b) fun y => bind (evE c base env d) fun z => bind (asInt x) fun i => bind (asInt y) fun j => bind (asInt z) fun k =>
      if decide (k = -1) && ((decide (-4611686018427387904 ≤ i) && decide (i < 4611686018427387904)) && ((decide (-4611686018427387904 ≤ j) && decide (j < 4611686018427387904)) && decide ((i - j).toNat ≤ big)))
      then ret (.items (rangeC i (-1) (i - j).toNat)) else fail
  | .enum e => bind (evE c base env e) fun x => bind (seqFz x) fun xs => ret (.items (enumD 0 xs))
  | .zip a b => bind (evE c base env a) fun x => bind (evE c base env b) fun y => bind (seqFz x) fun xs => bind (seqFz y) fun ys => ret (.items (zipD xs ys))
  | .rev e => bind (evE c base env e) fun x => bind (seqOf x) fun xs => ret (.items xs.reverse)
end

/-! ### statements -/
inductive Flow where
  | next | brk | cont | ret (d : D)
def forI (f : D → Env → M (Flow × Env)) : List D → Env → M (Flow × Env)
  | [], env => ret (.next, env)
  | x :: r, env => bind (f x env) fun p => match p.1 with
    | .next | .cont => forI f r p.2
    | .brk => ret (.next, p.2)
    | .ret d => ret (.ret d, p.2)
def forC (l n : Nat) (f : D → Env → M (Flow × Env)) : Nat → Env → M (Flow × Env)
  | 0, env => bind (cellAt l) fun c => match c with
    | .l xs => if xs.length ≤ n then ret (.next, env) else fail
    | _ => fail
  | k + 1, env => bind (cellAt l) fun c => match c with
    | .l xs => match xs[n - (k + 1)]? with
      | some x => bind (f x env) fun p => match p.1 with
        | .next | .cont => forC l n f k p.2
        | .brk => ret (.next, p.2)
        | .ret d => ret (.ret d, p.2)
      | none => fail
    | _ => fail
def forW (f : D → Env → M (Flow × Env)) : Walk → Env → M (Flow × Env)
  | .items xs, env => forI f xs env
  | .cell l n, env => forC l n f n env
  | .keys _, _ => fail
def whileF (t : Env → M Bool) (f : Env → M (Flow × Env)) : Nat → Env → M (Flow × Env)
  | 0, _ => fail
  | n + 1, env => bind (t env) fun b => if b then bind (f env) fun p => match p.1 with
    | .next | .cont => whileF t f n p.2
    | .brk => ret (.next, p.2)
    | .ret d => ret (.ret d, p.2) else ret (.next, env)
def fuel : Nat := 1000000000000
def setAll : List Nat → List D → Env → M Env
  | [], [], env => ret env
  | i :: is, d :: ds, env => setAll is ds (env.set i (some d))
  | _, _, _ => fail
def mkExn (c : Cxt) (cl : Str) (args : List D) : M Exn := match c.exc.lookup cl with
  | none => fail
  | some i => if i.plain then (match args with
      | [.str _] => ret ⟨cl, []⟩
      | _ => fail)
    else if args.length ≤ i.np then let all := args ++ i.dfl.drop (args.length + i.dfl.length - i.np)
      if all.length = i.np then ret ⟨cl, i.fields.map fun p => (p.1, all.getD p.2 .non)⟩ else fail
    else fail
def caught (c : Cxt) (e : Str) (h : Str) : Bool := match c.sub.lookup e with
  | some l => l.contains h
  | none => false
mutual
def exec (c : Cxt) (base : Nat) : Stm → Env → M (Flow × Env)
  | .set i e, env => bind (evE c base env e) fun x => ret (.next, env.set i (some x))
  | .setT tg e, env => bind (evE c base env e) fun x => bind (bindTg tg x env) fun env' => ret (.next, env')
  | .par is es, env => bind (evEs c base env es) fun xs => bind (setAll is xs env) fun env' => ret (.next, env')
  | .aug i op e, env => bind (getVar env i) fun x => bind (evE c base env e) fun y => match op, x, y with
    | .add, .int a, .int b => ret (.next, env.set i (some (.int (a + b))))
    | .sub, .int a, .int b => ret (.next, env.set i (some (.int (a - b))))
    | _, _, _ => fail
  | .setIdx o i e, env => bind (evE c base env e) fun v => bind (evE c base env o) fun x => bind (evE c base env i) fun y => bind (setop base x y v) fun _ => ret (.next, env)
  | .setAttr o f e, env => bind (evE c base env e) fun v => bind (evE c base env o) fun x => bind (setattr base x f v) fun _ => ret (.next, env)
  | .expr e, env => bind (evE c base env e) fun _ => ret (.next, env)
  | .ret e, env => bind (evE c base env e) fun x => ret (.ret x, env)
  | .retN, env => ret (.ret .non, env)
  | .ife t a b, env => bind (evE c base env t) fun x => bind (truthy x) fun r => if r then execs c base a env else execs c base b env
  | .forr tg it body, env => bind (evIt c base env it) fun w => forW (fun x env => bind (bindTg tg x env) fun env' => execs c base body env') w env
  | .whil t body, env => whileF (fun env => bind (evE c base env t) truthy) (fun env => execs c base body env) fuel env
  | .brk, env => ret (.brk, env)
  | .cont, env => ret (.cont, env)
  | .pass, env => ret (.next, env)
  | .raise cl es, env => bind (evEs c base env es) fun xs => bind (mkExn c cl xs) fun e => fun h => .exc e h
  | .tryy e hs, env => fun h => match evE c base env e h with
    | .ok _ h' => .ok (.next, env) h'
    | .exc x h' => handle c base x hs env h'
    | .stuck => .stuck
def handle (c : Cxt) (base : Nat) (x : Exn) : Hs → Env → M (Flow × Env)
  | .nil, _ => fun h => .exc x h
  | .cons cl i body r, env => if (c.sub.lookup x.cls).isSome then (if caught c x.cls cl then execs c base body (match i with
      | some k => env.set k (some (.exn x.cls x.fs))
      | none => env) else handle c base x r env) else fail
def execs (c : Cxt) (base : Nat) : List Stm → Env → M (Flow × Env)
  | [], env => ret (.next, env)
  | s :: r, env => bind (exec c base s env) fun p => match p.1 with
    | .next => execs c base r p.2
    | _ => ret p
end

/-! ### defs -/
structure Fn where
  np : Nat
  ns : Nat
  /-- what it makes stays (it stores into what it was handed) -/
  keep : Bool
  body : List Stm
structure Prog where
  consts : List (Str × D)
  tcs : List (Str × List D)
  exc : List (Str × ExcI)
  sub : List (Str × List Str)
  fns : List (Fid × Fn)
def optL (f : D → Option D) : List D → Option (List D)
  | [] => some []
  | x :: r => match f x, optL f r with
    | some y, some ys => some (y :: ys)
    | _, _ => none
/-- what leaves a def: its own mutable objects are written out -/
def frz (base : Nat) (h : Hh) : Nat → D → Option D
  | 0, d => if d.pure then some d else none
  | n + 1, d => if d.pure then some d else match d with
    | .ref l => if l < base then some d else match h[l]? with
      | some (.l xs) => (optL (frz base h n) xs).map .lst
      | some (.d t kvs) => if pureK kvs then some (.dct t kvs) else none
      | _ => none
    | .tup xs => (optL (frz base h n) xs).map .tup
    | _ => none
def noLock : Hh → Bool
  | [] => true
  | .lock :: _ => false
  | _ :: r => noLock r
def finish (base : Nat) (d : D) : M D := fun h => match frz base h 3 d with
  | some d' => if noLock (h.drop base) then .ok d' (h.take base) else .stuck
  | none => .stuck
def pureF : List (Str × D) → Bool
  | [] => true
  | (_, d) :: r => d.pure && pureF r
def leave (base : Nat) (r : Res D) : Res D := match r with
  | .ok d h => finish base d h
  | .exc e h => if pureF e.fs && noLock (h.drop base) then .exc e (h.take base) else .stuck
  | .stuck => .stuck
def valOf (p : Flow × Env) : M D := match p.1 with
  | .next => ret .non
  | .ret d => ret d
  | _ => fail
def cxt (P : Prog) (call : Fid → Nat → List D → M D) : Cxt := ⟨P.consts, P.tcs, P.exc, P.sub, call⟩
def startEnv (f : Fn) (args : List D) : Env := args.map some ++ List.replicate (f.ns - f.np) none
def run (P : Prog) : Nat → Fid → Nat → List D → M D
  | 0, _, _, _ => fail
  | n + 1, f, base, args => match P.fns.lookup f with
    | none => fail
    | some fn => if args.length = fn.np then
        if fn.keep then bind (execs (cxt P (run P n)) base fn.body (startEnv fn args)) valOf
        else fun h => leave h.length (bind (execs (cxt P (run P n)) h.length fn.body (startEnv fn args)) valOf h)
      else fail
end Px

set_option autoImplicit false
set_option linter.all false
/-! From the program's own syntax to the small language. What is not of the fragment: none. -/
namespace Px
open PySem (Str Scope Expr Stmt)

/-- what the names of the module's top are -/
structure TrG where
  /-- defs by name, with the number of parameters -/
  fns : List (Str × Nat)
  /-- own classes (no exceptions) that are made -/
  classes : List Str
  excs : List Str
  consts : List Str
  tcs : List Str
  /-- places where a new object is to stay mutable -/
  muts : List (Nat × Nat × Nat)
  /-- dicts whose keys are tuples -/
  tks : List (Nat × Nat × Nat)
  /-- built-in names that the module's top leaves alone -/
  free : List Str
def TrG.kc (g : TrG) (p : PySem.Pos) : Kc := if g.tks.contains (p.line, p.col, p.endCol) then .t else .k
def TrG.isMut (g : TrG) (p : PySem.Pos) : Bool := g.muts.contains (p.line, p.col, p.endCol)

def bopOf : PySem.Operator → Option Bop
  | .Add => some .add
  | .Sub => some .sub
  | .Mult => some .mul
  | .FloorDiv => some .fdiv
  | .Mod => some .mod
  | .Pow => some .pow
  | _ => none
def copOf : PySem.CmpOp → Cop
  | .Eq => .eq | .NotEq => .ne | .Lt => .lt | .LtE => .le | .Gt => .gt | .GtE => .ge | .Is => .is | .IsNot => .isnot | .In => .inn | .NotIn => .notin
def litOf : PySem.Const → Option D
  | .none => some .non
  | .bool b => some (.bl b)
  | .int i => some (.int i)
  | .str s => some (.str s)
  | _ => none
def tyOf (x : Str) : Option Ty :=
  if x = "int" then some .int else if x = "bool" then some .bool else if x = "str" then some .str else if x = "tuple" then some .tuple else if x = "list" then some .list else if x = "dict" then some .dict else none
/-- seen as a slot -/
def vis (sc : Scope) (x : Str) : Bool := match sc.names.lookup x with
  | some .local | some .cell | some .free => true
  | _ => false
def loc (sc : Scope) (x : Str) : Bool := match sc.names.lookup x with
  | some .local | some .cell => true
  | _ => false
def glb (sc : Scope) (x : Str) : Bool := match sc.names.lookup x with
  | some .globalImplicit => true
  | _ => false
def odd (x : Str) : Bool := (x == ("__debug__" : Str)) || (x == ("__classdict__" : Str))
def slotOf : List Str → Str → Option Nat
  | [], _ => none
  | y :: r, x => if y = x then some 0 else (slotOf r x).map (· + 1)
def trL {α β : Type} (f : α → Option β) : List α → Option (List β)
  | [] => some []
  | x :: r => match f x, trL f r with
    | some y, some ys => some (y :: ys)
    | _, _ => none
def trO {α β : Type} (f : α → Option β) : Option α → Option (Option β)
  | none => some none
  | some x => match f x with
    | some y => some (some y)
    | none => none
/-- the type names of isinstance's second argument -/
def trTy (g : TrG) (sc : Scope) : Expr → Option (List Ty)
  | .Name x _ => if glb sc x && g.free.contains x then (tyOf x).map (fun t => [t]) else none
  | .Tuple es _ _ => match trL (fun e => match e with
    | .Name x _ => if glb sc x && g.free.contains x then tyOf x else none
    | _ => none) es with
    | some ts => if ts.isEmpty || decide (100 < ts.length) then none else some ts
    | none => none
  | _ => none
/-- a block's own names with their slots -/
def ownOf (N : List Str) : List (Str × PySem.NameKind) → List (Str × Nat)
  | [] => []
  | (x, k) :: r => match k with
    | .local | .cell => (match slotOf N x with
      | some i => (x, i) :: ownOf N r
      | none => ownOf N r)
    | _ => ownOf N r
def bltn (g : TrG) (sc : Scope) (x : Str) : Bool := glb sc x && g.free.contains x
/-- a written tuple -/
def isTup : Expr → Bool
  | .Tuple .. => true
  | _ => false
/-- the slots that a target stores -/
def tgSlots : Tg → List Nat
  | .name i => [i]
  | .tup ts => tgSlotsL ts
where tgSlotsL : List Tg → List Nat
  | [] => []
  | t :: ts => tgSlots t ++ tgSlotsL ts

section
variable (g : TrG) (N : List Str)
def trTg : Nat → Scope → Expr → Option Tg
  | 0, _, _ => none
  | n + 1, sc, e => match e with
    | .Name x _ => if loc sc x then (slotOf N x).map .name else none
    | .Tuple es _ _ => (trL (trTg n sc) es).map .tup
    | _ => none
def lmOf (m : Str) (n : Nat) : Option Lm :=
  if m = "append" ∧ n = 1 then some .append else if m = "pop" ∧ n = 0 then some .pop else if m = "pop" ∧ n = 1 then some .popAt else none
def primOf (x : Str) (n : Nat) : Option Prim :=
  if n = 1 then (if x = "len" then some .len else if x = "sum" then some .sum else if x = "max" then some .max else if x = "min" then some .min else if x = "any" then some .any else if x = "all" then some .all
    else if x = "tuple" then some .tuple else if x = "int" then some .int else if x = "abs" then some .abs else none)
  else if n = 2 then (if x = "max" then some .max2 else if x = "min" then some .min2 else none) else none
variable (f : Scope → Expr → Option Ex)
/-- what a loop walks; tp: its target is a written tuple -/
def trIt (tp : Bool) (sc : Scope) (e : Expr) : Option It := match e with
  | .Call (.Name x _) args [] _ =>
    if bltn g sc x && x == "range" then match args with
      | [b] => (f sc b).map .range1
      | [a, b] => match f sc a, f sc b with
        | some a', some b' => some (.range2 a' b')
        | _, _ => none
      | [a, b, c] => match f sc a, f sc b, f sc c with
        | some a', some b', some c' => some (.range3 a' b' c')
        | _, _, _ => none
      | _ => none
    else if bltn g sc x && x == "enumerate" then match args with
      | [a] => if tp then (f sc a).map .enum else none
      | _ => none
    else if bltn g sc x && x == "zip" then match args with
      | [a, b] => if tp then match f sc a, f sc b with
        | some a', some b' => some (.zip a' b')
        | _, _ => none else none
      | _ => none
    else (f sc e).map .ex
  | _ => (f sc e).map .ex
/-- a call by name -/
def trCall (sc : Scope) (x : Str) (args : List Expr) (pos : PySem.Pos) : Option Ex :=
  if (!glb sc x) || odd x then none
  else if g.free.contains x then
    (if x = "isinstance" then match args with
      | [a, t] => match f sc a, trTy g sc t with
        | some a', some ts => some (.isinst a' ts)
        | _, _ => none
      | _ => none
    else if x = "list" then match args with
      | [.Call (.Name y p2) bs [] pos2] => if bltn g sc y && y == "range" then match bs with
          | [b] => (f sc b).map fun b' => .new (g.isMut pos) (.listOf (.range1 b'))
          | _ => none
        else if bltn g sc y && y == "zip" then match bs with
          | [a, b] => match f sc a, f sc b with
            | some a', some b' => some (.new (g.isMut pos) (.listOf (.zip a' b')))
            | _, _ => none
          | _ => none
        else (f sc (.Call (.Name y p2) bs [] pos2)).map fun a' => .new (g.isMut pos) (.listOf (.ex a'))
      | [a] => (f sc a).map fun a' => .new (g.isMut pos) (.listOf (.ex a'))
      | _ => none
    else if x = "dict" then match args with
      | [a] => (f sc a).map fun a' => .new (g.isMut pos) (.dictOf (g.kc pos) a')
      | _ => none
    else if x = "sorted" then match args with
      | [.Call (.Name y _) [b] [] _] => if bltn g sc y && y == "set" then (f sc b).map fun b' => .new (g.isMut pos) (.sortedSet b') else match args with
        | [a] => (f sc a).map fun a' => .new (g.isMut pos) (.sorted a')
        | _ => none
      | [a] => (f sc a).map fun a' => .new (g.isMut pos) (.sorted a')
      | _ => none
    else match primOf x args.length with
      | some p => (trL (f sc) args).map (.prim p)
      | none => none)
  else match g.fns.lookup x with
    | some n => if n = args.length then (trL (f sc) args).map (.call (x, none)) else none
    | none => none
/-- key, value, key, value, .. -/
def inter : List (Option Expr) → List Expr → Option (List Expr)
  | [], [] => some []
  | some k :: ks, v :: vs => (inter ks vs).map fun r => k :: v :: r
  | _, _ => none
/-- a written tuple of the module's top -/
def globT (sc : Scope) : Expr → Option Str
  | .Name x _ => if odd x = false ∧ glb sc x = true ∧ g.tcs.contains x = true then some x else none
  | _ => none
def trE : Nat → Scope → Expr → Option Ex
  | 0, _, _ => none
  | n + 1, sc, e => match e with
    | .Constant c _ _ => (litOf c).map .lit
    | .Name x _ => if odd x then none else if vis sc x then (slotOf N x).map .var else if glb sc x && g.consts.contains x then some (.glob x) else none
    | .BinOp a op b pos => match trE n sc a, bopOf op, trE n sc b with
      | some a', some o, some b' => if g.isMut pos then none else some (.bin o a' b')
      | _, _, _ => none
    | .UnaryOp op a _ => match op with
      | .Not => (trE n sc a).map .not
      | .USub => (trE n sc a).map .neg
      | _ => none
    | .BoolOp op vs pos => match vs with
      | [a] => trE n sc a
      | a :: r => match op, trE n sc a, trE n sc (.BoolOp op r pos) with
        | .And, some a', some b' => some (.and a' b')
        | .Or, some a', some b' => some (.or a' b')
        | _, _, _ => none
      | [] => none
    | .IfExp c a b _ => match trE n sc c, trE n sc a, trE n sc b with
      | some c', some a', some b' => some (.ite c' a' b')
      | _, _, _ => none
    | .Compare a ops bs _ => match ops, bs with
      | [o], [b] => match globT g sc b with
        | some x => (match o with
          | .In => (trE n sc a).map (.inGlob false · x)
          | .NotIn => (trE n sc a).map (.inGlob true · x)
          | _ => none)
        | none => match trE n sc a, trE n sc b with
          | some a', some b' => some (.cmp (copOf o) a' b')
          | _, _ => none
      | [o1, o2], [b, c] => match trE n sc a, trE n sc b, trE n sc c with
        | some a', some b', some c' => some (.chain (copOf o1) (copOf o2) a' b' c')
        | _, _, _ => none
      | _, _ => none
    | .Tuple es _ _ => (trL (trE n sc) es).map .tup
    | .List es pos => (trL (trE n sc) es).map fun es' => .new (g.isMut pos) (.disp es')
    | .Dict ks vs pos => match inter ks vs with
      | some es => if ks.length ≤ 15 then (trL (trE n sc) es).map fun es' => .new (g.isMut pos) (.ddisp (g.kc pos) es') else none
      | none => none
    | .ListComp e gens scope pos => match gens with
      | [⟨tg, it, ifs, 0⟩] => let own := ownOf N scope.names
        match L2.blkC N sc scope own, trE n scope e, trTg N n scope tg, trIt g (trE n) (isTup tg) sc it, trL (trE n scope) ifs with
        | true, some e', some tg', some it', some ifs' => if (tgSlots tg').all fun i => (own.map (·.2)).contains i then some (.new (g.isMut pos) (.comp (own.map (·.2)) e' tg' it' ifs')) else none
        | _, _, _, _, _ => none
      | _ => none
    | .DictComp k v gens scope pos => match gens with
      | [⟨tg, it, [], 0⟩] => let own := ownOf N scope.names
        match L2.blkC N sc scope own, trE n scope k, trE n scope v, trTg N n scope tg, trIt g (trE n) (isTup tg) sc it with
        | true, some k', some v', some tg', some it' => if g.kc pos = .k ∧ (tgSlots tg').all fun i => (own.map (·.2)).contains i then some (.new (g.isMut pos) (.dcomp .k (own.map (·.2)) k' v' tg' it')) else none
        | _, _, _, _, _ => none
      | _ => none
    | .Subscript a i pos => match i with
      | .Slice lo hi none _ => match trE n sc a, trO (trE n sc) lo, trO (trE n sc) hi with
        | some a', some l, some h => if g.isMut pos then none else some (.slice a' l h)
        | _, _, _ => none
      | .Slice .. => none
      | _ => match trE n sc a, trE n sc i with
        | some a', some i' => some (.idx a' i')
        | _, _ => none
    | .Call fn args [] pos => match fn with
      | .Name x _ => trCall g (trE n) sc x args pos
      | .Attribute a m apos => if apos.endLine == pos.line then match a with
        | .Call .. => none
        | _ => match lmOf m args.length with
          | some lm => match trE n sc a, trL (trE n sc) args with
            | some a', some es => some (.lmeth lm a' es)
            | _, _ => none
          | none => none else none
      | _ => none
    | _ => none
end
/-- names on the first one's line that are plain locals -/
def swNames (sc : Scope) (ts : List Expr) : List Str := ts.filterMap fun
  | .Name id pos => if sc.names.lookup id == some .local && pos.line == (ts.head?.map (·.pos.line)).getD 0 then some id else none
  | _ => none
def isStar : Expr → Bool
  | .Starred .. => true
  | _ => false
/-- stored from the right? none: the model does not say -/
def swC (sc : Scope) (ts vs : List Expr) : Option Bool :=
  if !(ts.length == 2 || ts.length == 3) || vs.length != ts.length then some false
  else if vs.any isStar then some false
  else if (swNames sc ts).length != ts.length || (swNames sc ts).eraseDups.length != (swNames sc ts).length then some false
  else if vs.all (PySem.foldedForSure 8) then some false
  else if vs.all (PySem.constantsAlone 8) then none
  else some true
section
variable (g : TrG) (N : List Str) (sc : Scope)
/-- an own exception made: the class, its arguments -/
def trMk (n : Nat) : Expr → Option (Str × List Ex)
  | .Call (.Name c _) args [] _ => if glb sc c && g.excs.contains c then (trL (trE g N n sc) args).map fun es => (c, es) else none
  | _ => none
/-- what stands in an except suite: k the exception's name -/
def trU (k : Option Str) : Nat → Expr → Option Ex
  | 0, _ => none
  | n + 1, e => match e with
    | .Constant c _ _ => (litOf c).map .lit
    | .List es pos => if g.isMut pos then none else (trL (trU k n) es).map fun es' => .new false (.disp es')
    | .Tuple es _ _ => (trL (trU k n) es).map .tup
    | .IfExp c a b _ => match trU k n c, trU k n a, trU k n b with
      | some (.isown c' x), some a', some b' => some (.ite (.isown c' x) a' b')
      | _, _, _ => none
    | .Call (.Name f _) [.Name x _, .Name c _] [] _ => if f = "isinstance" ∧ bltn g sc f = true ∧ k = some x ∧ loc sc x = true ∧ odd x = false ∧ g.excs.contains c = true ∧ glb sc c = true ∧ odd c = false then (slotOf N x).map fun i => .isown (.var i) c else none
    | .Attribute (.Name x _) f _ => if k = some x ∧ loc sc x = true ∧ odd x = false then (slotOf N x).map fun i => .attr (.var i) f else none
    | _ => none
/-- a suite: ifs that return, at last a return -/
def trUL (k : Option Str) (n : Nat) : List Stmt → Option (List Stm)
  | [.Return (some e) _] => (trU g N sc k n e).map fun e' => [.ret e']
  | .If c [.Return (some e) _] [] _ :: r => match trU g N sc k n c, trU g N sc k n e, trUL k n r with
    | some (.isown c' x), some e', some r' => some (.ife (.isown c' x) [.ret e'] [] :: r')
    | _, _, _ => none
  | _ => none
def trHs (n : Nat) : List PySem.ExceptHandler → Option Hs
  | [] => some .nil
  | .ExceptHandler (some (.Name c _)) (some x) (b0 :: bs) _ :: r => if glb sc c && g.excs.contains c && sc.names.lookup x == some .local then match slotOf N x, trUL g N sc (some x) n (b0 :: bs), trHs n r with
    | some i, some b, some r' => some (.cons c (some i) b r')
    | _, _, _ => none else none
  | _ :: _ => none
def trS : Nat → Stmt → Option Stm
  | 0, _ => none
  | n + 1, s => match s with
    | .Pass _ => some .pass
    | .Break _ => some .brk
    | .Continue _ => some .cont
    | .Return none _ => some .retN
    | .Return (some e) _ => (trE g N n sc e).map .ret
    | .Expr e _ => match e with
      | .Call .. => (trE g N n sc e).map .expr
      | _ => none
    | .Assign [t] e _ => match t with
      | .Name x _ => if loc sc x then match slotOf N x, trE g N n sc e with
          | some i, some e' => some (.set i e')
          | _, _ => none else none
      | .Tuple ts _ _ => match e with
        | .Tuple es _ _ => match swC sc ts es with
          | some true => match ts, trL (trE g N n sc) es with
            | [.Name x _, .Name y _], some es' => match slotOf N x, slotOf N y with
              | some i, some j => if i ≠ j ∧ sc.names.lookup x = some .local ∧ sc.names.lookup y = some .local ∧ swNames sc ts = [x, y] ∧ es.length = 2 then some (.par [i, j] es') else none
              | _, _ => none
            | [.Name x _, .Name y _, .Name z _], some es' => match slotOf N x, slotOf N y, slotOf N z with
              | some i, some j, some l => if (i ≠ j ∧ i ≠ l ∧ j ≠ l) ∧ (sc.names.lookup x = some .local ∧ sc.names.lookup y = some .local ∧ sc.names.lookup z = some .local) ∧ swNames sc ts = [x, y, z] ∧ es.length = 3 then some (.par [i, j, l] es') else none
              | _, _, _ => none
            | _, _ => none
          | some false => match trTg N n sc t, trE g N n sc e with
            | some tg, some e' => some (.setT tg e')
            | _, _ => none
          | none => none
        | _ => match trTg N n sc t, trE g N n sc e with
          | some tg, some e' => some (.setT tg e')
          | _, _ => none
      | .Subscript o i _ => match i with
        | .Slice .. => none
        | _ => match trE g N n sc o, trE g N n sc i, trE g N n sc e with
          | some o', some i', some e' => some (.setIdx o' i' e')
          | _, _, _ => none
      | _ => none
    | .AugAssign (.Name x _) op e _ => if loc sc x then match slotOf N x, bopOf op, trE g N n sc e with
        | some i, some o, some e' => some (.aug i o e')
        | _, _, _ => none else none
    | .If c a b _ => match trE g N n sc c, trL (trS n) a, trL (trS n) b with
      | some c', some a', some b' => some (.ife c' a' b')
      | _, _, _ => none
    | .For tg it body [] _ => match trTg N n sc tg, trIt g (trE g N n) (isTup tg) sc it, trL (trS n) body with
      | some tg', some it', some b => some (.forr tg' it' b)
      | _, _, _ => none
    | .While c body [] _ => match trE g N n sc c, trL (trS n) body with
      | some c', some b => some (.whil c' b)
      | _, _ => none
    | .Raise (some e) none _ => (trMk g N sc n e).map fun p => .raise p.1 p.2
    | .Try [.Expr (.Call ef ea ek ep) _] [hd] [] [] _ => match trE g N n sc (.Call ef ea ek ep), trHs g N sc n [hd] with
      | some e', some hs' => some (.tryy e' hs')
      | _, _ => none
    | _ => none
end
end Px

set_option autoImplicit false
set_option linter.all false
set_option maxRecDepth 100000
/-! How plain data and cells lie in the hand layer's abstract heap. -/
namespace Px
open PySem (Str Addr)
open L2 (V Hp HO Key upd upd_same upd_ne ne_of_none SqL SqT Rd)
theorem big_eq : big = PySem.sizeLine := by rw [PySem.sizeLine_eq]
def keyD : Key → D
  | .inl i => .int i
  | .inr x => .str x

/-- what never changes (f); what someone else has in hand, and is left alone (g) -/
structure FF where
  f : Hp
  g : Hp
instance : CoeFun FF (fun _ => Addr → Option HO) := ⟨FF.f⟩
/-- .. with one object more -/
def FF.up (F : FF) (p : Addr) (o : HO) : FF := ⟨upd F.f p o, F.g⟩
section
variable (F : FF) (ρ : List Addr)
mutual
/-- F: what never changes; ρ: where the cells stand -/
def Rep : D → V → Prop
  | .non, v => v = .non
  | .bl b, v => v = .bl b
  | .int i, v => v = .int i
  | .str s, v => v = .str s
  | .tup ds, v => ∃ a vs, v = .ref a ∧ F a = some (.tup vs) ∧ ds.length ≤ big ∧ RepL ds vs
  | .lst ds, v => ∃ a vs, v = .ref a ∧ F a = some (.lst vs) ∧ ds.length ≤ big ∧ RepL ds vs
  | .dct .k kvs, v => ∃ a ks, v = .ref a ∧ F a = some (.dK ks) ∧ kvs.length ≤ big ∧ RepK kvs ks
  | .dct .t kvs, v => ∃ a ks, v = .ref a ∧ F a = some (.dT ks) ∧ kvs.length ≤ big ∧ RepT kvs ks
  | .scr ds, v => ∃ a vs, v = .ref a ∧ Rd F.f a (.lst vs) ∧ ds.length ≤ big ∧ RepL ds vs
  | .ref l, v => ∃ a, v = .ref a ∧ ρ[l]? = some a
  | .exn _ _, _ => False
def RepL : List D → List V → Prop
  | [], vs => vs = []
  | d :: ds, vs => ∃ w ws, vs = w :: ws ∧ Rep d w ∧ RepL ds ws
def RepK : List (D × D) → List (Key × V) → Prop
  | [], ks => ks = []
  | (k, d) :: r, ks => ∃ q w s, ks = (q, w) :: s ∧ k = keyD q ∧ Rep d w ∧ RepK r s
def RepT : List (D × D) → List (List Key × V) → Prop
  | [], ks => ks = []
  | (k, d) :: r, ks => ∃ q w s, ks = (q, w) :: s ∧ k = .tup (q.map keyD) ∧ q.length ≤ big ∧ Rep d w ∧ RepT r s
end
end

abbrev Lf (F F' : FF) : Prop := ∀ a o, F.f a = some o → F'.f a = some o
structure Le (F F' : FF) : Prop where
  l : Lf F F'
  g : F'.g = F.g
theorem Le.refl (F : FF) : Le F F := ⟨fun _ _ h => h, rfl⟩
theorem Le.trans {F G H : FF} (a : Le F G) (b : Le G H) : Le F H := ⟨fun c o h => b.l c o (a.l c o h), b.g.trans a.g⟩
theorem Lf.rd {F F' : FF} (l : Lf F F') {a : Addr} {o : HO} (h : Rd F.f a o) : Rd F'.f a o := by
  rcases h with h | ⟨u, h⟩
  · exact .inl (l _ _ h)
  · exact .inr ⟨u, l _ _ h⟩
/-- the cells stay where they are -/
abbrev Pre (ρ ρ' : List Addr) : Prop := ∀ (l : Nat) (a : Addr), ρ[l]? = some a → ρ'[l]? = some a
theorem Pre.refl (ρ : List Addr) : Pre ρ ρ := fun _ _ h => h
theorem Pre.trans {a b c : List Addr} (h : Pre a b) (k : Pre b c) : Pre a c := fun l x e => k l x (h l x e)

section
variable {F F' : FF} {ρ ρ' : List Addr}
mutual
theorem Rep.monof (lf : Lf F F') (lr : Pre ρ ρ') : ∀ (d : D) (v : V), Rep F ρ d v → Rep F' ρ' d v
  | .non, _, h => h
  | .bl _, _, h => h
  | .int _, _, h => h
  | .str _, _, h => h
  | .tup ds, _, h => by
    obtain ⟨a, vs, e, ha, hz, r⟩ := h
    exact ⟨a, vs, e, lf _ _ ha, hz, RepL.monof lf lr ds vs r⟩
  | .lst ds, _, h => by
    obtain ⟨a, vs, e, ha, hz, r⟩ := h
    exact ⟨a, vs, e, lf _ _ ha, hz, RepL.monof lf lr ds vs r⟩
  | .scr ds, _, h => by
    obtain ⟨a, vs, e, ha, hz, r⟩ := h
    exact ⟨a, vs, e, lf.rd ha, hz, RepL.monof lf lr ds vs r⟩
  | .dct .k kvs, _, h => by
    obtain ⟨a, ks, e, ha, hz, r⟩ := h
    exact ⟨a, ks, e, lf _ _ ha, hz, RepK.monof lf lr kvs ks r⟩
  | .dct .t kvs, _, h => by
    obtain ⟨a, ks, e, ha, hz, r⟩ := h
    exact ⟨a, ks, e, lf _ _ ha, hz, RepT.monof lf lr kvs ks r⟩
  | .ref l, _, h => by
    obtain ⟨a, e, h⟩ := h
    exact ⟨a, e, lr _ _ h⟩
  | .exn _ _, _, h => h.elim
theorem RepL.monof (lf : Lf F F') (lr : Pre ρ ρ') : ∀ (ds : List D) (vs : List V), RepL F ρ ds vs → RepL F' ρ' ds vs
  | [], _, h => h
  | d :: ds, _, h => by
    obtain ⟨w, ws, e, r, h⟩ := h
    exact ⟨w, ws, e, Rep.monof lf lr d w r, RepL.monof lf lr ds ws h⟩
theorem RepK.monof (lf : Lf F F') (lr : Pre ρ ρ') : ∀ (kvs : List (D × D)) (ks : List (Key × V)), RepK F ρ kvs ks → RepK F' ρ' kvs ks
  | [], _, h => h
  | (k, d) :: r, _, h => by
    obtain ⟨q, w, s, e, ek, rd, h⟩ := h
    exact ⟨q, w, s, e, ek, Rep.monof lf lr d w rd, RepK.monof lf lr r s h⟩
theorem RepT.monof (lf : Lf F F') (lr : Pre ρ ρ') : ∀ (kvs : List (D × D)) (ks : List (List Key × V)), RepT F ρ kvs ks → RepT F' ρ' kvs ks
  | [], _, h => h
  | (k, d) :: r, _, h => by
    obtain ⟨q, w, s, e, ek, hq, rd, h⟩ := h
    exact ⟨q, w, s, e, ek, hq, Rep.monof lf lr d w rd, RepT.monof lf lr r s h⟩
end

theorem Rep.mono (l : Le F F') (lr : Pre ρ ρ') (d : D) (v : V) (h : Rep F ρ d v) : Rep F' ρ' d v := Rep.monof l.l lr d v h
theorem RepL.mono (l : Le F F') (lr : Pre ρ ρ') (ds : List D) (vs : List V) (h : RepL F ρ ds vs) : RepL F' ρ' ds vs := RepL.monof l.l lr ds vs h
theorem RepK.mono (l : Le F F') (lr : Pre ρ ρ') (ds : List (D × D)) (vs : List (Key × V)) (h : RepK F ρ ds vs) : RepK F' ρ' ds vs := RepK.monof l.l lr ds vs h
theorem RepT.mono (l : Le F F') (lr : Pre ρ ρ') (ds : List (D × D)) (vs : List (List Key × V)) (h : RepT F ρ ds vs) : RepT F' ρ' ds vs := RepT.monof l.l lr ds vs h

theorem RepL.length : ∀ {ds : List D} {vs : List V}, RepL F ρ ds vs → vs.length = ds.length
  | [], _, h => by cases h; rfl
  | d :: ds, _, h => by
    obtain ⟨w, ws, rfl, _, h⟩ := h
    simp [RepL.length h]
theorem RepL.get : ∀ {ds : List D} {vs : List V} {i : Nat} {d : D}, RepL F ρ ds vs → ds[i]? = some d → ∃ v, vs[i]? = some v ∧ Rep F ρ d v
  | [], _, _, _, _, e => by simp at e
  | d :: ds, _, 0, _, h, e => by
    obtain ⟨w, ws, rfl, r, h⟩ := h
    simp at e
    subst e
    exact ⟨w, rfl, r⟩
  | d :: ds, _, i + 1, x, h, e => by
    obtain ⟨w, ws, rfl, r, h⟩ := h
    exact RepL.get (i := i) h (by simpa using e)
theorem RepL.get' : ∀ {ds : List D} {vs : List V} {i : Nat} {v : V}, RepL F ρ ds vs → vs[i]? = some v → ∃ d, ds[i]? = some d ∧ Rep F ρ d v := by
  intro ds vs i v h e
  have hl := h.length
  have hi : i < vs.length := (List.getElem?_eq_some_iff.mp e).1
  have hd : i < ds.length := by omega
  obtain ⟨w, e2, r⟩ := h.get (i := i) (d := ds[i]) (by simp [hd])
  rw [e] at e2
  cases e2
  exact ⟨ds[i], by simp [hd], r⟩
theorem RepL.append : ∀ {ds es : List D} {vs ws : List V}, RepL F ρ ds vs → RepL F ρ es ws → RepL F ρ (ds ++ es) (vs ++ ws)
  | [], _, _, _, h, k => by cases h; exact k
  | d :: ds, _, _, _, h, k => by
    obtain ⟨w, ws, rfl, r, h⟩ := h
    exact ⟨w, _, rfl, r, RepL.append h k⟩
theorem RepL.one {d : D} {v : V} (r : Rep F ρ d v) : RepL F ρ [d] [v] := ⟨v, [], rfl, r, rfl⟩
theorem RepL.cons {d : D} {v : V} {ds : List D} {vs : List V} (r : Rep F ρ d v) (h : RepL F ρ ds vs) : RepL F ρ (d :: ds) (v :: vs) := ⟨v, vs, rfl, r, h⟩
theorem RepL.set : ∀ {ds : List D} {vs : List V} {d : D} {v : V} (i : Nat), RepL F ρ ds vs → Rep F ρ d v → RepL F ρ (ds.set i d) (vs.set i v)
  | [], _, _, _, _, h, _ => by cases h; rfl
  | x :: ds, _, _, _, 0, h, k => by
    obtain ⟨w, ws, rfl, r, h⟩ := h
    exact ⟨_, _, rfl, k, h⟩
  | x :: ds, _, _, _, i + 1, h, k => by
    obtain ⟨w, ws, rfl, r, h⟩ := h
    exact ⟨_, _, rfl, r, RepL.set i h k⟩
theorem RepL.take : ∀ {ds : List D} {vs : List V} (i : Nat), RepL F ρ ds vs → RepL F ρ (ds.take i) (vs.take i)
  | _, _, 0, _ => rfl
  | [], _, _ + 1, h => by cases h; rfl
  | x :: ds, _, i + 1, h => by
    obtain ⟨w, ws, rfl, r, h⟩ := h
    exact ⟨_, _, rfl, r, RepL.take i h⟩
theorem RepL.drop : ∀ {ds : List D} {vs : List V} (i : Nat), RepL F ρ ds vs → RepL F ρ (ds.drop i) (vs.drop i)
  | _, _, 0, h => h
  | [], _, _ + 1, h => by cases h; rfl
  | x :: ds, _, i + 1, h => by
    obtain ⟨w, ws, rfl, r, h⟩ := h
    exact RepL.drop i h
theorem RepL.eraseIdx : ∀ {ds : List D} {vs : List V} (i : Nat), RepL F ρ ds vs → RepL F ρ (ds.eraseIdx i) (vs.eraseIdx i)
  | [], _, _, h => by cases h; rfl
  | x :: ds, _, 0, h => by
    obtain ⟨w, ws, rfl, r, h⟩ := h
    exact h
  | x :: ds, _, i + 1, h => by
    obtain ⟨w, ws, rfl, r, h⟩ := h
    exact ⟨_, _, rfl, r, RepL.eraseIdx i h⟩
theorem RepL.reverse : ∀ {ds : List D} {vs : List V}, RepL F ρ ds vs → RepL F ρ ds.reverse vs.reverse
  | [], _, h => by cases h; rfl
  | x :: ds, _, h => by
    obtain ⟨w, ws, rfl, r, h⟩ := h
    rw [List.reverse_cons, List.reverse_cons]
    exact (RepL.reverse h).append (.one r)
theorem RepL.dropLast {ds : List D} {vs : List V} (h : RepL F ρ ds vs) : RepL F ρ ds.dropLast vs.dropLast := by
  rw [List.dropLast_eq_take, List.dropLast_eq_take, h.length]
  exact h.take _
theorem RepL.rep {ds : List D} {vs : List V} (h : RepL F ρ ds vs) : ∀ k : Nat, RepL F ρ (List.replicate k ds).flatten (List.replicate k vs).flatten
  | 0 => rfl
  | k + 1 => by
    rw [List.replicate_succ, List.replicate_succ, List.flatten_cons, List.flatten_cons]
    exact h.append (RepL.rep h k)
theorem RepL.ints : ∀ {ds : List D} {vs : List V} {ns : List Int}, RepL F ρ ds vs → intsOf ds = some ns → vs = ns.map V.int
  | [], _, _, h, e => by
    cases h
    simp only [intsOf, Option.some.injEq] at e
    subst e
    rfl
  | d :: ds, _, ns, h, e => by
    obtain ⟨w, ws, rfl, r, h⟩ := h
    cases d with
    | int i =>
      simp only [intsOf] at e
      cases q : intsOf ds with
      | none => rw [q] at e; cases e
      | some ms =>
        rw [q] at e
        simp only [Option.map_some, Option.some.injEq] at e
        subst e
        have z : w = .int i := r
        rw [z, RepL.ints h q]
        rfl
    | _ => simp only [intsOf] at e; cases e
theorem RepL.of_ints : ∀ (ns : List Int), RepL F ρ (ns.map .int) (ns.map V.int)
  | [] => rfl
  | n :: ns => ⟨_, _, rfl, rfl, RepL.of_ints ns⟩
theorem RepL.bls : ∀ {ds : List D} {vs : List V} {bs : List Bool}, RepL F ρ ds vs → blsOf ds = some bs → vs = bs.map V.bl
  | [], _, _, h, e => by
    cases h
    simp only [blsOf, Option.some.injEq] at e
    subst e
    rfl
  | d :: ds, _, ns, h, e => by
    obtain ⟨w, ws, rfl, r, h⟩ := h
    cases d with
    | bl i =>
      simp only [blsOf] at e
      cases q : blsOf ds with
      | none => rw [q] at e; cases e
      | some ms =>
        rw [q] at e
        simp only [Option.map_some, Option.some.injEq] at e
        subst e
        have z : w = .bl i := r
        rw [z, RepL.bls h q]
        rfl
    | _ => simp only [blsOf] at e; cases e
end

/-! ### classes, fields -/
def RepF (F : FF) (ρ : List Addr) : List (Str × D) → List (Str × V) → Prop
  | [], gs => gs = []
  | (f, d) :: r, gs => ∃ w s, gs = (f, w) :: s ∧ Rep F ρ d w ∧ RepF F ρ r s
theorem RepF.monof {F F' : FF} {ρ ρ' : List Addr} (lf : Lf F F') (lr : Pre ρ ρ') : ∀ (fs : List (Str × D)) (gs : List (Str × V)), RepF F ρ fs gs → RepF F' ρ' fs gs
  | [], _, h => h
  | (f, d) :: r, _, h => by
    obtain ⟨w, s, e, rd, h⟩ := h
    exact ⟨w, s, e, Rep.monof lf lr d w rd, RepF.monof lf lr r s h⟩

/-- what stands at a cell's address; K: the written part, for the classes -/
def CellOk (K : PySem.W.Frag) (F : FF) (ρ : List Addr) (H : Hp) (a : Addr) : Cell → Prop
  | .l ds => ∃ vs, H a = some (.lst vs) ∧ ds.length ≤ big ∧ RepL F ρ ds vs
  | .d .k kvs => ∃ ks, H a = some (.dK ks) ∧ kvs.length ≤ big ∧ RepK F ρ kvs ks
  | .d .t kvs => ∃ ks, H a = some (.dT ks) ∧ kvs.length ≤ big ∧ RepT F ρ kvs ks
  | .inst c fs => ∃ dx gs, H a = some (.ins (He.ga K c) dx gs) ∧ RepF F ρ fs gs
  | .lock => ∃ od u, H a = some (.frz od u)
/-- what is in hand: under way, or (a cell) shut -/
def Hk (ρ : List Addr) (h : Hh) (a : Addr) (o : HO) : Prop :=
  (a ∉ ρ ∧ ((∃ xs, o = .lst xs) ∨ (∃ k, o = .dK k) ∨ ∃ k, o = .dT k)) ∨ ∃ (l : Nat) (od : PySem.Obj) (u : HO), ρ[l]? = some a ∧ h[l]? = some .lock ∧ o = .frz od u
structure Rel (K : PySem.W.Frag) (F : FF) (ρ : List Addr) (H : Hp) (h : Hh) : Prop where
  sub : ∀ a o, F.f a = some o → H a = some o
  held : ∀ a o, F.g a = some o → H a = some o ∧ F.f a = none ∧ Hk ρ h a o
  nd : ρ.Nodup
  len : ρ.length = h.length
  out : ∀ a, a ∈ ρ → F a = none
  cell : ∀ (l : Nat) (a : Addr) (c : Cell), ρ[l]? = some a → h[l]? = some c → CellOk K F ρ H a c

section
variable {K : PySem.W.Frag} {F F' : FF} {ρ ρ' : List Addr} {H H' : Hp} {h : Hh} {a p : Addr} {c : Cell} {o : HO}
theorem CellOk.monof (lf : Lf F F') (lr : Pre ρ ρ') (e : H' a = H a) (x : CellOk K F ρ H a c) : CellOk K F' ρ' H' a c := by
  cases c with
  | l ds =>
    obtain ⟨vs, h1, h2, h3⟩ := x
    exact ⟨vs, e.trans h1, h2, RepL.monof lf lr _ _ h3⟩
  | d t kvs =>
    cases t with
    | k =>
      obtain ⟨ks, h1, h2, h3⟩ := x
      exact ⟨ks, e.trans h1, h2, RepK.monof lf lr _ _ h3⟩
    | t =>
      obtain ⟨ks, h1, h2, h3⟩ := x
      exact ⟨ks, e.trans h1, h2, RepT.monof lf lr _ _ h3⟩
  | inst cl fs =>
    obtain ⟨dx, gs, h1, h2⟩ := x
    exact ⟨dx, gs, e.trans h1, RepF.monof lf lr _ _ h2⟩
  | lock =>
    obtain ⟨o, u, h1⟩ := x
    exact ⟨o, u, e.trans h1⟩
theorem CellOk.mono (l : Le F F') (lr : Pre ρ ρ') (e : H' a = H a) (x : CellOk K F ρ H a c) : CellOk K F' ρ' H' a c := CellOk.monof l.l lr e x
theorem CellOk.there (x : CellOk K F ρ H a c) : ∃ o, H a = some o := by
  cases c with
  | l ds => obtain ⟨vs, h1, _⟩ := x; exact ⟨_, h1⟩
  | d t kvs =>
    cases t with
    | k => obtain ⟨ks, h1, _⟩ := x; exact ⟨_, h1⟩
    | t => obtain ⟨ks, h1, _⟩ := x; exact ⟨_, h1⟩
  | inst cl fs => obtain ⟨dx, gs, h1, h2⟩ := x; exact ⟨_, h1⟩
  | lock => obtain ⟨o, u, h1⟩ := x; exact ⟨_, h1⟩
theorem Rel.at (R : Rel K F ρ H h) {l : Nat} (e : h[l]? = some c) : ∃ a, ρ[l]? = some a ∧ CellOk K F ρ H a c := by
  have hl : l < h.length := (List.getElem?_eq_some_iff.mp e).1
  rw [← R.len] at hl
  exact ⟨ρ[l], by simp [hl], R.cell l _ c (by simp [hl]) e⟩
theorem Rel.at' (R : Rel K F ρ H h) {l : Nat} (e : ρ[l]? = some a) : ∃ c, h[l]? = some c ∧ CellOk K F ρ H a c := by
  have hl : l < ρ.length := (List.getElem?_eq_some_iff.mp e).1
  rw [R.len] at hl
  exact ⟨h[l], by simp [hl], R.cell l a _ e (by simp [hl])⟩
theorem Rel.there (R : Rel K F ρ H h) (e : a ∈ ρ) : ∃ o, H a = some o := by
  obtain ⟨l, hl, rfl⟩ := List.getElem_of_mem e
  obtain ⟨c, _, x⟩ := R.at' (l := l) (a := ρ[l]) (by simp [hl])
  exact x.there
theorem Rel.notin (R : Rel K F ρ H h) (e : H p = none) : p ∉ ρ := fun q => by
  obtain ⟨o, z⟩ := R.there q
  rw [e] at z
  cases z
theorem Rel.fnone (R : Rel K F ρ H h) (e : H p = none) : F.f p = none := by
  cases q : F.f p with
  | none => rfl
  | some o =>
    have z := R.sub _ _ q
    rw [e] at z
    cases z
theorem Rel.gnone (R : Rel K F ρ H h) (e : H p = none) : F.g p = none := by
  cases q : F.g p with
  | none => rfl
  | some o =>
    have z := (R.held _ _ q).1
    rw [e] at z
    cases z
theorem le_upd (e : F.f p = none) : Le F (F.up p o) := ⟨fun b u q => by
  show upd F.f p o b = _
  rw [upd_ne (ne_of_none q e)]
  exact q, rfl⟩
/-- the heap changes at no address of ours -/
theorem Rel.other (R : Rel K F ρ H h) (hf : ∀ b u, F.f b = some u → H' b = H b) (hg : ∀ b u, F.g b = some u → H' b = H b) (hr : ∀ b, b ∈ ρ → H' b = H b) : Rel K F ρ H' h :=
  ⟨fun b u q => (hf b u q).trans (R.sub b u q), fun b u q => ⟨(hg b u q).trans (R.held b u q).1, (R.held b u q).2⟩, R.nd, R.len, R.out, fun l b d e1 e2 => (R.cell l b d e1 e2).mono (Le.refl F) (Pre.refl ρ) (hr b (List.mem_of_getElem? e1))⟩
/-- a new object that never changes -/
theorem Rel.froze (R : Rel K F ρ H h) (e : H p = none) : Rel K (F.up p o) ρ (upd H p o) h ∧ Le F (F.up p o) := by
  have hp := R.notin e
  have hn := R.fnone e
  have hgn := R.gnone e
  refine ⟨⟨fun b u q => ?_, fun b u q => ?_, R.nd, R.len, fun b hb => ?_, fun l b d e1 e2 => ?_⟩, le_upd hn⟩
  · have q : upd F.f p o b = some u := q
    by_cases hb : b = p
    · subst hb
      rw [upd_same] at q ⊢
      exact q
    · rw [upd_ne hb] at q ⊢
      exact R.sub b u q
  · have hb : b ≠ p := ne_of_none q hgn
    show _ ∧ upd F.f p o b = none ∧ _
    rw [upd_ne hb, upd_ne hb]
    exact R.held b u q
  · have hbp : b ≠ p := fun z => hp (z ▸ hb)
    show upd F.f p o b = none
    rw [upd_ne hbp]
    exact R.out b hb
  · have hbp : b ≠ p := fun z => hp (z ▸ List.mem_of_getElem? e1)
    exact (R.cell l b d e1 e2).mono (le_upd hn) (Pre.refl ρ) (upd_ne hbp)
theorem pre_snoc : Pre ρ (ρ ++ [p]) := fun l b e => by
  have hl : l < ρ.length := (List.getElem?_eq_some_iff.mp e).1
  rw [List.getElem?_append_left hl]
  exact e
/-- a new object that may change -/
theorem Hk.snoc {b : Addr} {u : HO} (k : Hk ρ h b u) (hl : ρ.length = h.length) (hb : b ≠ p) : Hk (ρ ++ [p]) (h ++ [c]) b u := by
  rcases k with ⟨k, o⟩ | ⟨l, od, w, k1, k2, k3⟩
  · exact .inl ⟨fun z => (List.mem_append.mp z).elim k fun z => hb (by simpa using z), o⟩
  · have hk : l < h.length := (List.getElem?_eq_some_iff.mp k2).1
    exact .inr ⟨l, od, w, by rw [List.getElem?_append_left (by omega)]; exact k1, by rw [List.getElem?_append_left hk]; exact k2, k3⟩
theorem Rel.newCell (R : Rel K F ρ H h) (e : H p = none) (x : CellOk K F (ρ ++ [p]) (upd H p o) p c) : Rel K F (ρ ++ [p]) (upd H p o) (h ++ [c]) ∧ Pre ρ (ρ ++ [p]) := by
  have hp := R.notin e
  have hn := R.fnone e
  have hgn := R.gnone e
  refine ⟨⟨fun b u q => ?_, fun b u q => ?_, ?_, ?_, fun b hb => ?_, fun l b d e1 e2 => ?_⟩, pre_snoc⟩
  · rw [upd_ne (ne_of_none q hn)]
    exact R.sub b u q
  · have hb : b ≠ p := ne_of_none q hgn
    rw [upd_ne hb]
    obtain ⟨h1, h2, h3⟩ := R.held b u q
    exact ⟨h1, h2, h3.snoc R.len hb⟩
  · rw [List.nodup_append]
    refine ⟨R.nd, by simp, fun b hb d hd => ?_⟩
    have : d = p := by simpa using hd
    subst this
    exact fun z => hp (z ▸ hb)
  · rw [List.length_append, List.length_append, R.len]
    rfl
  · rcases List.mem_append.mp hb with hb | hb
    · exact R.out b hb
    · have : b = p := by simpa using hb
      subst this
      exact hn
  · by_cases hl : l < ρ.length
    · rw [List.getElem?_append_left hl] at e1
      rw [List.getElem?_append_left (R.len ▸ hl)] at e2
      have hbp : b ≠ p := fun z => hp (z ▸ List.mem_of_getElem? e1)
      exact (R.cell l b d e1 e2).mono (Le.refl F) pre_snoc (upd_ne hbp)
    · have hl' : l < (ρ ++ [p]).length := (List.getElem?_eq_some_iff.mp e1).1
      rw [List.length_append] at hl'
      have : l = ρ.length := by simp at hl'; omega
      subst this
      rw [List.getElem?_append_right (Nat.le_refl _)] at e1
      rw [R.len, List.getElem?_append_right (Nat.le_refl _)] at e2
      simp at e1 e2
      subst e1 e2
      exact x
theorem nodup_get : ∀ {l : List Addr} {i j : Nat} {a : Addr}, l.Nodup → l[i]? = some a → l[j]? = some a → i = j := by
  intro l i j a nd h1 h2
  exact (List.getElem?_inj (List.getElem?_eq_some_iff.mp h1).1 nd).mp (h1.trans h2.symm)
/-- a cell is written -/
theorem Rel.setCell (R : Rel K F ρ H h) {l : Nat} (e : ρ[l]? = some a) (hk : h[l]? ≠ some .lock) (x : CellOk K F ρ (upd H a o) a c) : Rel K F ρ (upd H a o) (h.set l c) := by
  have hm := List.mem_of_getElem? e
  have hn := R.out a hm
  refine ⟨fun b u q => ?_, fun b u q => ?_, R.nd, by rw [List.length_set]; exact R.len, R.out, fun k b d e1 e2 => ?_⟩
  · rw [upd_ne (ne_of_none q hn)]
    exact R.sub b u q
  · obtain ⟨h1, h2, h3⟩ := R.held b u q
    rcases h3 with ⟨h3, ho⟩ | ⟨k, od, w, k1, k2, k3⟩
    · have hb : b ≠ a := fun z => h3 (z ▸ hm)
      rw [upd_ne hb]
      exact ⟨h1, h2, .inl ⟨h3, ho⟩⟩
    · have hkl : k ≠ l := fun z => hk (z ▸ k2)
      have hb : b ≠ a := fun z => hkl (nodup_get R.nd k1 (z ▸ e))
      rw [upd_ne hb]
      exact ⟨h1, h2, .inr ⟨k, od, w, k1, by rw [List.getElem?_set_ne (Ne.symm hkl)]; exact k2, k3⟩⟩
  · by_cases hk : k = l
    · subst hk
      rw [e] at e1
      cases e1
      rw [List.getElem?_set_self (by
        have := (List.getElem?_eq_some_iff.mp e).1
        rw [R.len] at this
        exact this)] at e2
      cases e2
      exact x
    · rw [List.getElem?_set_ne (Ne.symm hk)] at e2
      have hb : b ≠ a := fun z => hk (nodup_get R.nd e1 (z ▸ e))
      exact (R.cell k b d e1 e2).mono (Le.refl F) (Pre.refl ρ) (upd_ne hb)
end

/-! ### leaving a def -/
mutual
def D.und (n : Nat) : D → Bool
  | .tup xs | .lst xs | .scr xs => undL n xs
  | .dct _ kvs => undK n kvs
  | .ref l => decide (l < n)
  | .exn _ fs => undF n fs
  | _ => true
def undL (n : Nat) : List D → Bool
  | [] => true
  | x :: xs => x.und n && undL n xs
def undK (n : Nat) : List (D × D) → Bool
  | [] => true
  | (k, v) :: r => k.und n && v.und n && undK n r
def undF (n : Nat) : List (Str × D) → Bool
  | [] => true
  | (_, v) :: r => v.und n && undF n r
end
def Cell.und (n : Nat) : Cell → Bool
  | .l xs => undL n xs
  | .d _ kvs => undK n kvs
  | .inst _ fs => undF n fs
  | .lock => true
/-- the first n cells hold no later one -/
def Closed (n : Nat) (h : Hh) : Prop := ∀ (l : Nat) (c : Cell), l < n → h[l]? = some c → c.und n = true
section
variable {F F' : FF} {ρ : List Addr} {n : Nat}
theorem take_get {l : Nat} {a : Addr} (hl : l < n) (e : ρ[l]? = some a) : (ρ.take n)[l]? = some a := by
  rw [List.getElem?_take_of_lt hl]
  exact e
theorem of_take {l : Nat} {a : Addr} (e : (ρ.take n)[l]? = some a) : l < n ∧ ρ[l]? = some a := by
  have hl : l < (ρ.take n).length := (List.getElem?_eq_some_iff.mp e).1
  have : l < n := by rw [List.length_take] at hl; omega
  rw [List.getElem?_take_of_lt this] at e
  exact ⟨this, e⟩
mutual
theorem Rep.take (lf : Lf F F') : ∀ (d : D) (v : V), d.und n = true → Rep F ρ d v → Rep F' (ρ.take n) d v
  | .non, _, _, h => h
  | .bl _, _, _, h => h
  | .int _, _, _, h => h
  | .str _, _, _, h => h
  | .tup ds, _, b, h => by
    obtain ⟨a, vs, e, ha, hz, r⟩ := h
    exact ⟨a, vs, e, lf _ _ ha, hz, RepL.takeR lf ds vs (by simpa [D.und] using b) r⟩
  | .lst ds, _, b, h => by
    obtain ⟨a, vs, e, ha, hz, r⟩ := h
    exact ⟨a, vs, e, lf _ _ ha, hz, RepL.takeR lf ds vs (by simpa [D.und] using b) r⟩
  | .scr ds, _, b, h => by
    obtain ⟨a, vs, e, ha, hz, r⟩ := h
    exact ⟨a, vs, e, lf.rd ha, hz, RepL.takeR lf ds vs (by simpa [D.und] using b) r⟩
  | .dct .k kvs, _, b, h => by
    obtain ⟨a, ks, e, ha, hz, r⟩ := h
    exact ⟨a, ks, e, lf _ _ ha, hz, RepK.takeR lf kvs ks (by simpa [D.und] using b) r⟩
  | .dct .t kvs, _, b, h => by
    obtain ⟨a, ks, e, ha, hz, r⟩ := h
    exact ⟨a, ks, e, lf _ _ ha, hz, RepT.takeR lf kvs ks (by simpa [D.und] using b) r⟩
  | .ref l, _, b, h => by
    obtain ⟨a, e, h⟩ := h
    exact ⟨a, e, take_get (by simpa [D.und] using b) h⟩
  | .exn _ _, _, _, h => h.elim
theorem RepL.takeR (lf : Lf F F') : ∀ (ds : List D) (vs : List V), undL n ds = true → RepL F ρ ds vs → RepL F' (ρ.take n) ds vs
  | [], _, _, h => h
  | d :: ds, _, b, h => by
    obtain ⟨w, ws, e, r, h⟩ := h
    simp only [undL, Bool.and_eq_true] at b
    exact ⟨w, ws, e, Rep.take lf d w b.1 r, RepL.takeR lf ds ws b.2 h⟩
theorem RepK.takeR (lf : Lf F F') : ∀ (kvs : List (D × D)) (ks : List (Key × V)), undK n kvs = true → RepK F ρ kvs ks → RepK F' (ρ.take n) kvs ks
  | [], _, _, h => h
  | (k, d) :: r, _, b, h => by
    obtain ⟨q, w, s, e, ek, rd, h⟩ := h
    simp only [undK, Bool.and_eq_true] at b
    exact ⟨q, w, s, e, ek, Rep.take lf d w b.1.2 rd, RepK.takeR lf r s b.2 h⟩
theorem RepT.takeR (lf : Lf F F') : ∀ (kvs : List (D × D)) (ks : List (List Key × V)), undK n kvs = true → RepT F ρ kvs ks → RepT F' (ρ.take n) kvs ks
  | [], _, _, h => h
  | (k, d) :: r, _, b, h => by
    obtain ⟨q, w, s, e, ek, hq, rd, h⟩ := h
    simp only [undK, Bool.and_eq_true] at b
    exact ⟨q, w, s, e, ek, hq, Rep.take lf d w b.1.2 rd, RepT.takeR lf r s b.2 h⟩
end
theorem RepF.takeR (lf : Lf F F') : ∀ (fs : List (Str × D)) (gs : List (Str × V)), undF n fs = true → RepF F ρ fs gs → RepF F' (ρ.take n) fs gs
  | [], _, _, h => h
  | (f, d) :: r, _, b, h => by
    obtain ⟨w, s, e, rd, h⟩ := h
    simp only [undF, Bool.and_eq_true] at b
    exact ⟨w, s, e, Rep.take lf d w b.1 rd, RepF.takeR lf r s b.2 h⟩
mutual
theorem und_pure : ∀ (d : D), d.pure = true → d.und n = true
  | .non, _ => rfl
  | .bl _, _ => rfl
  | .int _, _ => rfl
  | .str _, _ => rfl
  | .tup ds, h => by simp only [D.und]; exact und_pureL ds (by simpa [D.pure] using h)
  | .lst ds, h => by simp only [D.und]; exact und_pureL ds (by simpa [D.pure] using h)
  | .scr ds, h => by simp only [D.und]; exact und_pureL ds (by simpa [D.pure] using h)
  | .dct _ kvs, h => by simp only [D.und]; exact und_pureK kvs (by simpa [D.pure] using h)
  | .ref _, h => by simp [D.pure] at h
  | .exn _ _, h => by simp [D.pure] at h
theorem und_pureL : ∀ (ds : List D), pureL ds = true → undL n ds = true
  | [], _ => rfl
  | d :: ds, h => by
    simp only [pureL, Bool.and_eq_true] at h
    simp only [undL, Bool.and_eq_true]
    exact ⟨und_pure d h.1, und_pureL ds h.2⟩
theorem und_pureK : ∀ (kvs : List (D × D)), pureK kvs = true → undK n kvs = true
  | [], _ => rfl
  | (k, d) :: r, h => by
    simp only [pureK, Bool.and_eq_true] at h
    simp only [undK, Bool.and_eq_true]
    exact ⟨⟨und_pure k h.1.1, und_pure d h.1.2⟩, und_pureK r h.2⟩
end
theorem und_pureF : ∀ (fs : List (Str × D)), pureF fs = true → undF n fs = true
  | [], _ => rfl
  | (f, d) :: r, h => by
    simp only [pureF, Bool.and_eq_true] at h
    simp only [undF, Bool.and_eq_true]
    exact ⟨und_pure d h.1, und_pureF r h.2⟩
end
section
open Classical
/-- all dropped cells stay as they are -/
noncomputable def shed (F : FF) (H : Hp) (ρ : List Addr) (n : Nat) : FF := ⟨fun b => if b ∈ ρ.drop n then H b else F.f b, F.g⟩
variable {K : PySem.W.Frag} {F F' : FF} {ρ : List Addr} {H : Hp} {h : Hh} {n : Nat}
theorem shed_le (R : Rel K F ρ H h) : Lf F (shed F H ρ n) := fun b u q => by
  show (if b ∈ ρ.drop n then H b else F.f b) = some u
  rw [if_neg (fun hb => by rw [R.out b (List.mem_of_mem_drop hb)] at q; cases q)]
  exact q
theorem shed_at {l : Nat} {a : Addr} (hl : n ≤ l) (e : ρ[l]? = some a) : (shed F H ρ n).f a = H a := by
  refine if_pos (List.mem_of_getElem? (i := l - n) ?_)
  rw [List.getElem?_drop]
  rw [show n + (l - n) = l by omega]
  exact e
/-- the def's own cells are let go -/
theorem noLock_at : ∀ {h : Hh} {l : Nat}, noLock h = true → h[l]? ≠ some .lock
  | [], _, _ => by simp
  | c :: r, 0, e => by
    intro z
    simp at z
    subst z
    cases e
  | c :: r, l + 1, e => by
    rw [List.getElem?_cons_succ]
    exact noLock_at (by cases c <;> first | exact e | cases e)
theorem Rel.leave (R : Rel K F ρ H h) (hn : n ≤ h.length) (cl : Closed n h) (nl : noLock (h.drop n) = true) : Rel K (shed F H ρ n) (ρ.take n) H (h.take n) := by
  refine ⟨fun b u q => ?_, fun b u q => ?_, (List.take_sublist n ρ).nodup R.nd, by rw [List.length_take, List.length_take, R.len], fun b hb => ?_, fun l b c e1 e2 => ?_⟩
  · have q : (if b ∈ ρ.drop n then H b else F.f b) = some u := q
    split at q
    · exact q
    · exact R.sub b u q
  · obtain ⟨h1, h2, h3⟩ := R.held b u q
    have nd := R.nd
    rw [← List.take_append_drop n ρ] at nd
    rcases h3 with ⟨h3, ho⟩ | ⟨l, od, w, k1, k2, k3⟩
    · refine ⟨h1, ?_, .inl ⟨fun z => h3 (List.mem_of_mem_take z), ho⟩⟩
      show (if b ∈ ρ.drop n then H b else F.f b) = none
      rw [if_neg fun z => h3 (List.mem_of_mem_drop z)]
      exact h2
    · have hl : l < n := by
        by_cases hl : l < n
        · exact hl
        · refine absurd ?_ (noLock_at (l := l - n) nl)
          rw [List.getElem?_drop, show n + (l - n) = l by omega]
          exact k2
      refine ⟨h1, ?_, .inr ⟨l, od, w, take_get hl k1, by rw [List.getElem?_take_of_lt hl]; exact k2, k3⟩⟩
      show (if b ∈ ρ.drop n then H b else F.f b) = none
      rw [if_neg fun z => (List.nodup_append.mp nd).2.2 b (List.mem_of_getElem? (take_get hl k1)) b z rfl]
      exact h2
  · show (if b ∈ ρ.drop n then H b else F.f b) = none
    have nd := R.nd
    rw [← List.take_append_drop n ρ] at nd
    rw [if_neg fun z => (List.nodup_append.mp nd).2.2 b hb b z rfl]
    exact R.out b (List.mem_of_mem_take hb)
  · obtain ⟨hl, e1⟩ := of_take e1
    rw [List.getElem?_take_of_lt hl] at e2
    have x := R.cell l b c e1 e2
    have bl := cl l c hl e2
    cases c with
    | l ds =>
      obtain ⟨vs, h1, h2, h3⟩ := x
      exact ⟨vs, h1, h2, RepL.takeR (shed_le R) _ _ bl h3⟩
    | d t kvs =>
      cases t with
      | k =>
        obtain ⟨ks, h1, h2, h3⟩ := x
        exact ⟨ks, h1, h2, RepK.takeR (shed_le R) _ _ bl h3⟩
      | t =>
        obtain ⟨ks, h1, h2, h3⟩ := x
        exact ⟨ks, h1, h2, RepT.takeR (shed_le R) _ _ bl h3⟩
    | inst cl fs =>
      obtain ⟨dx, gs, h1, h2⟩ := x
      exact ⟨dx, gs, h1, RepF.takeR (shed_le R) _ _ bl h2⟩
    | lock => exact x
theorem optL_rep {f : D → Option D} {F F' : FF} {ρ ρ' : List Addr} (hf : ∀ d d' v, f d = some d' → Rep F ρ d v → Rep F' ρ' d' v) : ∀ (ds ds' : List D) (vs : List V), optL f ds = some ds' → RepL F ρ ds vs → RepL F' ρ' ds' vs
  | [], ds', vs, e, r => by
    simp only [optL, Option.some.injEq] at e
    subst e
    exact r
  | d :: ds, ds', _, e, r => by
    obtain ⟨w, ws, rfl, r1, r⟩ := r
    simp only [optL] at e
    split at e
    · rename_i y ys h1 h2
      simp only [Option.some.injEq] at e
      subst e
      exact ⟨w, ws, rfl, hf _ _ _ h1 r1, optL_rep hf ds _ _ h2 r⟩
    · cases e
theorem optL_length {f : D → Option D} : ∀ (ds ds' : List D), optL f ds = some ds' → ds'.length = ds.length
  | [], ds', e => by
    simp only [optL, Option.some.injEq] at e
    subst e
    rfl
  | d :: ds, ds', e => by
    simp only [optL] at e
    split at e
    · rename_i y ys h1 h2
      simp only [Option.some.injEq] at e
      subst e
      simp [optL_length ds _ h2]
    · cases e
/-- what leaves is told without the def's own cells -/
theorem frz_rep (R : Rel K F ρ H h) : ∀ (m : Nat) (d d' : D) (v : V), frz n h m d = some d' → Rep F ρ d v → Rep (shed F H ρ n) (ρ.take n) d' v
  | 0, d, d', v, e, r => by
    simp only [frz] at e
    split at e
    · rename_i hp
      simp only [Option.some.injEq] at e
      subst e
      exact Rep.take (shed_le R) d v (und_pure d hp) r
    · cases e
  | m + 1, d, d', v, e, r => by
    unfold frz at e
    split at e
    · rename_i hp
      simp only [Option.some.injEq] at e
      subst e
      exact Rep.take (shed_le R) d v (und_pure d hp) r
    · rename_i hp
      cases d with
      | ref l =>
        simp only at e
        split at e
        · rename_i hl
          simp only [Option.some.injEq] at e
          subst e
          obtain ⟨a, ev, ha⟩ := r
          exact ⟨a, ev, take_get hl ha⟩
        · rename_i hl
          obtain ⟨a, ev, ha⟩ := r
          split at e
          · rename_i xs hc
            cases q : optL (frz n h m) xs with
            | none => rw [q] at e; cases e
            | some ys =>
              rw [q] at e
              simp only [Option.map_some, Option.some.injEq] at e
              subst e
              obtain ⟨vs, h1, h2, h3⟩ := R.cell l a _ ha hc
              exact ⟨a, vs, ev, (shed_at (Nat.le_of_not_lt hl) ha).trans h1, by rw [optL_length _ _ q]; exact h2, optL_rep (frz_rep R m) _ _ _ q h3⟩
          · rename_i t kvs hc
            split at e
            · rename_i hk
              simp only [Option.some.injEq] at e
              subst e
              have x := R.cell l a _ ha hc
              cases t with
              | k =>
                obtain ⟨ks, h1, h2, h3⟩ := x
                exact ⟨a, ks, ev, (shed_at (Nat.le_of_not_lt hl) ha).trans h1, h2, RepK.takeR (shed_le R) _ _ (und_pureK _ hk) h3⟩
              | t =>
                obtain ⟨ks, h1, h2, h3⟩ := x
                exact ⟨a, ks, ev, (shed_at (Nat.le_of_not_lt hl) ha).trans h1, h2, RepT.takeR (shed_le R) _ _ (und_pureK _ hk) h3⟩
            · cases e
          · cases e
      | tup xs =>
        simp only at e
        cases q : optL (frz n h m) xs with
        | none => rw [q] at e; cases e
        | some ys =>
          rw [q] at e
          simp only [Option.map_some, Option.some.injEq] at e
          subst e
          obtain ⟨a, vs, ev, ha, hz, r⟩ := r
          exact ⟨a, vs, ev, shed_le R _ _ ha, by rw [optL_length _ _ q]; exact hz, optL_rep (frz_rep R m) _ _ _ q r⟩
      | _ => simp only at e; cases e
end
end Px

set_option autoImplicit false
set_option linter.all false
set_option maxRecDepth 100000
/-! What a run leaves of the cells of its callers. -/
namespace Px
open PySem (Str)
def Pres (base : Nat) (h h' : Hh) : Prop := base ≤ h.length → h.length ≤ h'.length ∧ ∀ b, b ≤ base → Closed b h → Closed b h'
theorem Pres.refl (base : Nat) (h : Hh) : Pres base h h := fun _ => ⟨Nat.le_refl _, fun _ _ c => c⟩
theorem Pres.trans {base : Nat} {h h1 h2 : Hh} (a : Pres base h h1) (b : Pres base h1 h2) : Pres base h h2 := fun hb => by
  obtain ⟨l1, c1⟩ := a hb
  obtain ⟨l2, c2⟩ := b (Nat.le_trans hb l1)
  exact ⟨Nat.le_trans l1 l2, fun k hk c => c2 k hk (c1 k hk c)⟩
def SaneR {α : Type} (base : Nat) (h : Hh) : Res α → Prop
  | .ok _ h' => Pres base h h'
  | .exc _ h' => Pres base h h'
  | .stuck => True
def Sane {α : Type} (base : Nat) (m : M α) : Prop := ∀ h, SaneR base h (m h)
section
variable {α β : Type} {base : Nat}
theorem sane_ret (a : α) : Sane base (ret a) := fun h => Pres.refl base h
theorem sane_fail : Sane base (fail : M α) := fun _ => trivial
theorem sane_bind {m : M α} {f : α → M β} (hm : Sane base m) (hf : ∀ a, Sane base (f a)) : Sane base (bind m f) := fun h => by
  show SaneR base h ((m h).bind f)
  have q := hm h
  cases e : m h with
  | ok a h1 =>
    rw [e] at q
    have r := hf a h1
    show SaneR base h (f a h1)
    cases e2 : f a h1 with
    | ok b h2 => rw [e2] at r; exact Pres.trans q r
    | exc x h2 => rw [e2] at r; exact Pres.trans q r
    | stuck => trivial
  | exc x h1 => rw [e] at q; exact q
  | stuck => trivial
theorem sane_opt (o : Option α) : Sane base (opt o) := by
  cases o with
  | none => exact sane_fail
  | some a => exact sane_ret a
theorem sane_ite {c : Prop} [Decidable c] {m n : M α} (hm : Sane base m) (hn : Sane base n) : Sane base (if c then m else n) := by
  split <;> assumption
/-- what does not touch the heap -/
def Still (m : M α) : Prop := ∀ h, match m h with
  | .ok _ h' => h' = h
  | .exc _ h' => h' = h
  | .stuck => True
theorem still_ret (a : α) : Still (ret a) := fun _ => rfl
theorem still_fail : Still (fail : M α) := fun _ => trivial
theorem still_opt (o : Option α) : Still (opt o) := by
  cases o with
  | none => exact still_fail
  | some a => exact still_ret a
theorem still_cellAt (l : Nat) : Still (cellAt l) := fun h => by
  unfold cellAt
  cases h[l]? <;> trivial
theorem still_bind {m : M α} {f : α → M β} (hm : Still m) (hf : ∀ a, Still (f a)) : Still (bind m f) := fun h => by
  show match (m h).bind f with
    | .ok _ h' => h' = h
    | .exc _ h' => h' = h
    | .stuck => True
  have q := hm h
  cases e : m h with
  | ok a h1 =>
    rw [e] at q
    simp only at q
    subst q
    exact hf a h1
  | exc x h1 => rw [e] at q; exact q
  | stuck => trivial
theorem still_ite {c : Prop} [Decidable c] {m n : M α} (hm : Still m) (hn : Still n) : Still (if c then m else n) := by
  split <;> assumption
theorem Still.sane {m : M α} (s : Still m) : Sane base m := fun h => by
  have q := s h
  cases e : m h with
  | ok a h1 => rw [e] at q; simp only at q; subst q; exact Pres.refl _ _
  | exc a h1 => rw [e] at q; simp only at q; subst q; exact Pres.refl _ _
  | stuck => trivial
end
theorem still_seqOf (d : D) : Still (seqOf d) := by
  unfold seqOf
  split
  · exact still_ret _
  · exact still_ret _
  · refine still_bind (still_cellAt _) fun c => ?_
    split
    · exact still_ret _
    · exact still_fail
  · exact still_fail
theorem still_seqFz (d : D) : Still (seqFz d) := by
  unfold seqFz
  split
  · exact still_ret _
  · exact still_ret _
  · exact still_ret _
  · exact still_fail
theorem still_lstOf (d : D) : Still (lstOf d) := by
  unfold lstOf
  split
  · exact still_ret _
  · refine still_bind (still_cellAt _) fun c => ?_
    split
    · exact still_ret _
    · exact still_fail
  · exact still_fail
theorem still_truthy (d : D) : Still (truthy d) := by
  unfold truthy
  split <;> first
    | exact still_ret _
    | exact still_fail
    | (refine still_bind (still_cellAt _) fun c => ?_
       split <;> first | exact still_ret _ | exact still_fail)
theorem still_eqM (a b : D) : Still (eqM a b) := by
  unfold eqM
  exact still_ite (still_ret _) (still_ite (still_ret _) still_fail)
theorem still_inSeq (a : D) (b : List D) : Still (inSeq a b) := by
  unfold inSeq
  exact still_ite (still_ret _) (still_ite (still_ret _) still_fail)
theorem still_inD (a b : D) : Still (inD a b) := by
  unfold inD
  split
  · exact still_inSeq _ _
  · exact still_inSeq _ _
  · exact still_ite (still_ret _) still_fail
  · refine still_bind (still_cellAt _) fun c => ?_
    split
    · exact still_inSeq _ _
    · exact still_ite (still_ret _) still_fail
    · exact still_fail
  · exact still_fail
theorem still_cmpop (op : Cop) (a b : D) : Still (cmpop op a b) := by
  unfold cmpop
  split
  · exact still_eqM _ _
  · exact still_bind (still_eqM _ _) fun _ => still_ret _
  · split <;> first | exact still_ret _ | exact still_fail
  · split <;> first | exact still_ret _ | exact still_fail
  · split <;> first | exact still_ret _ | exact still_fail
  · split <;> first | exact still_ret _ | exact still_fail
  · split <;> first | exact still_ret _ | exact still_fail
  · split <;> first | exact still_ret _ | exact still_fail
  · exact still_inD _ _
  · exact still_bind (still_inD _ _) fun _ => still_ret _
theorem still_binop (op : Bop) (a b : D) : Still (binop op a b) := by
  unfold binop
  split <;> first
    | exact still_ret _
    | exact still_fail
    | exact still_ite (still_ret _) still_fail
    | exact still_bind (still_lstOf _) fun _ => still_bind (still_lstOf _) fun _ => still_ite (still_ret _) still_fail
    | exact still_bind (still_lstOf _) fun _ => still_ite (still_ret _) still_fail
theorem still_isTy (d : D) (t : Ty) : Still (isTy d t) := by
  unfold isTy
  split <;> first
    | exact still_ret _
    | exact still_fail
    | (refine still_bind (still_cellAt _) fun c => ?_
       split <;> first | exact still_ret _ | exact still_fail)
theorem still_isTys (d : D) : ∀ ts : List Ty, Still (isTys d ts)
  | [] => still_ret _
  | t :: r => still_bind (still_isTy d t) fun b => still_ite (still_ret _) (still_isTys d r)
theorem still_lenD (d : D) : Still (lenD d) := by
  unfold lenD
  split <;> first
    | exact still_ret _
    | exact still_fail
    | (refine still_bind (still_cellAt _) fun c => ?_
       split <;> first | exact still_ret _ | exact still_fail)
theorem still_primop (p : Prim) (as : List D) : Still (primop p as) := by
  unfold primop
  split <;> first
    | exact still_ret _
    | exact still_fail
    | exact still_lenD _
    | exact still_bind (still_seqOf _) fun _ => still_ret _
    | (refine still_bind (still_lstOf _) fun c => ?_
       split <;> first | exact still_ret _ | exact still_fail)
theorem still_sliceop (x : D) (l h : Option Int) : Still (sliceop x l h) := by
  unfold sliceop
  split
  · exact still_ret _
  · exact still_bind (still_lstOf _) fun _ => still_ret _
theorem still_idxop (a i : D) : Still (idxop a i) := by
  unfold idxop
  split
  · split
    · exact still_opt _
    · exact still_fail
  · split
    · exact still_opt _
    · exact still_fail
  · exact still_ite (still_opt _) still_fail
  · refine still_bind (still_cellAt _) fun c => ?_
    split
    · exact still_opt _
    · exact still_ite (still_opt _) still_fail
    · exact still_fail
  · exact still_fail
theorem still_attrop (a : D) (f : Str) : Still (attrop a f) := by
  unfold attrop
  split
  · refine still_bind (still_cellAt _) fun c => ?_
    split
    · exact still_opt _
    · exact still_fail
  · exact still_opt _
  · exact still_fail
theorem still_getVar (env : Env) (i : Nat) : Still (getVar env i) := by
  unfold getVar
  split
  · exact still_ret _
  · exact still_fail
theorem still_walkOf (d : D) : Still (walkOf d) := by
  unfold walkOf
  split <;> first
    | exact still_ret _
    | exact still_fail
    | (refine still_bind (still_cellAt _) fun c => ?_
       split <;> first | exact still_ret _ | exact still_fail)
theorem still_asInt (d : D) : Still (asInt d) := by
  unfold asInt
  split
  · exact still_ret _
  · exact still_fail
theorem still_short (d : List D) : Still (short d) := by
  unfold short
  exact still_ite (still_ret _) still_fail
theorem still_content (d : Cell) : Still (content d) := by
  unfold content
  split <;> first | exact still_ret _ | exact still_fail
theorem still_rangeW (i j : Int) : Still (rangeW i j) := by
  unfold rangeW
  exact still_ite (still_ret _) still_fail
mutual
theorem still_bindTg : ∀ (t : Tg) (d : D) (env : Env), Still (bindTg t d env)
  | .name i, d, env => still_ret _
  | .tup ts, d, env => by
    rw [bindTg]
    exact still_bind (still_seqOf _) fun xs => still_bindTgs ts xs env
theorem still_bindTgs : ∀ (ts : List Tg) (ds : List D) (env : Env), Still (bindTgs ts ds env)
  | [], [], env => by rw [bindTgs]; exact still_ret _
  | t :: ts, d :: ds, env => by
    rw [bindTgs]
    exact still_bind (still_bindTg t d env) fun e => still_bindTgs ts ds e
  | [], _ :: _, env => by rw [bindTgs] <;> first | exact still_fail | simp
  | _ :: _, [], env => by rw [bindTgs] <;> first | exact still_fail | simp
end
section
variable {base : Nat}
theorem closed_set {b l : Nat} {c : Cell} {h : Hh} (cl : Closed b h) (hc : l < b → c.und b = true) : Closed b (h.set l c) := fun k d hk e => by
  by_cases q : k = l
  · subst q
    by_cases hl : k < h.length
    · rw [List.getElem?_set_self hl] at e
      cases e
      exact hc hk
    · rw [List.getElem?_eq_none (by rw [List.length_set]; omega)] at e
      cases e
  · rw [List.getElem?_set_ne (Ne.symm q)] at e
    exact cl k d hk e
theorem sane_alloc (c : Cell) : Sane base (alloc c) := fun h => by
  show Pres base h (h ++ [c])
  intro hb
  refine ⟨by simp, fun b hk cl l d hl e => ?_⟩
  rw [List.getElem?_append_left (by omega)] at e
  exact cl l d hl e
/-- a write whose contents are fine wherever the old ones are -/
theorem sane_write {α : Type} {l : Nat} {f : Cell → M α} (hf : ∀ h c, h[l]? = some c → SaneR base h (f c h)) : Sane base (bind (cellAt l) f) := fun h => by
  show SaneR base h ((cellAt l h).bind f)
  unfold cellAt
  cases e : h[l]? with
  | none => trivial
  | some c => exact hf h c e
theorem saneR_set {l : Nat} {c c' : Cell} {h : Hh} (e : h[l]? = some c) (hc : ∀ b, b ≤ base → l < b → c.und b = true → c'.und b = true) : SaneR base h (setCell l c' h) := by
  have hl : l < h.length := (List.getElem?_eq_some_iff.mp e).1
  unfold setCell
  rw [if_pos hl]
  intro hb
  refine ⟨by simp, fun b hk cl => closed_set cl fun q => hc b hk q (cl l c q e)⟩
theorem saneR_bind {α β : Type} {m : M α} {f : α → M β} {h : Hh} (hm : SaneR base h (m h)) (hf : ∀ a, Sane base (f a)) : SaneR base h ((m h).bind f) := by
  cases e : m h with
  | ok a h1 =>
    rw [e] at hm
    have r := hf a h1
    show SaneR base h (f a h1)
    cases e2 : f a h1 with
    | ok b h2 => rw [e2] at r; exact Pres.trans hm r
    | exc x h2 => rw [e2] at r; exact Pres.trans hm r
    | stuck => trivial
  | exc x h1 => rw [e] at hm; exact hm
  | stuck => trivial
theorem undL_append {n : Nat} : ∀ {xs ys : List D}, undL n (xs ++ ys) = (undL n xs && undL n ys)
  | [], ys => rfl
  | x :: xs, ys => by simp only [List.cons_append, undL, undL_append (xs := xs), Bool.and_assoc]
theorem undL_mem {n : Nat} : ∀ {xs : List D}, undL n xs = true ↔ ∀ x ∈ xs, x.und n = true
  | [] => by simp [undL]
  | x :: xs => by simp [undL, undL_mem (xs := xs)]
theorem undK_mem {n : Nat} : ∀ {xs : List (D × D)}, undK n xs = true ↔ ∀ x ∈ xs, x.1.und n = true ∧ x.2.und n = true
  | [] => by simp [undK]
  | (k, v) :: xs => by simp [undK, undK_mem (xs := xs), and_assoc]
theorem undF_mem {n : Nat} : ∀ {xs : List (Str × D)}, undF n xs = true ↔ ∀ x ∈ xs, x.2.und n = true
  | [] => by simp [undF]
  | (k, v) :: xs => by simp [undF, undF_mem (xs := xs)]
theorem storable_und {l b : Nat} {d : D} (s : storable base l d = true) (hb : b ≤ base) (hl : l < b) : d.und b = true := by
  unfold storable at s
  simp only [Bool.or_eq_true, decide_eq_true_eq] at s
  rcases s with s | s
  · omega
  · exact und_pure d s
theorem und_flatL {n : Nat} : ∀ {ks : List D}, ks.all D.flat = true → undL n ks = true
  | [], _ => rfl
  | k :: ks, h => by
    simp only [List.all_cons, Bool.and_eq_true] at h
    simp only [undL, Bool.and_eq_true]
    refine ⟨?_, und_flatL h.2⟩
    have q := h.1
    cases k <;> first | rfl | (simp [D.flat] at q)
theorem und_key {n : Nat} {t : Kc} {k : D} (h : keyOk t k = true) : k.und n = true := by
  cases t with
  | k => cases k <;> first | rfl | (simp [keyOk, D.flat] at h)
  | t => cases k <;> first | (simp [keyOk] at h; done) | (simp only [D.und]; exact und_flatL (by simpa [keyOk] using h))
theorem undK_put {n : Nat} {t : Kc} {kvs : List (D × D)} {k v : D} (hk : keyOk t k = true) (hv : v.und n = true) (h : undK n kvs = true) : undK n (kput kvs k v) = true := by
  rw [undK_mem] at h ⊢
  unfold kput
  split
  · intro x hx
    obtain ⟨p, hp, rfl⟩ := List.mem_map.mp hx
    split
    · exact ⟨(h p hp).1, hv⟩
    · exact h p hp
  · intro x hx
    rcases List.mem_append.mp hx with hx | hx
    · exact h x hx
    · have : x = (k, v) := by simpa using hx
      subst this
      exact ⟨und_key hk, hv⟩
theorem saneR_opt {α β : Type} {o : Option α} {f : α → M β} {h : Hh} (k : ∀ a, o = some a → SaneR base h (f a h)) : SaneR base h (bind (opt o) f h) := by
  cases o with
  | none => trivial
  | some a => exact k a rfl
theorem saneR_if {α : Type} {c : Prop} [Decidable c] {m n : M α} {h : Hh} (k : c → SaneR base h (m h)) (k2 : ¬ c → SaneR base h (n h)) : SaneR base h ((if c then m else n) h) := by
  by_cases q : c
  · rw [if_pos q]
    exact k q
  · rw [if_neg q]
    exact k2 q
theorem sane_setop (o i v : D) : Sane base (setop base o i v) := by
  unfold setop
  split
  · refine sane_write fun h c e => ?_
    split
    · refine saneR_opt fun j _ => saneR_if (fun hs => ?_) fun _ => trivial
      refine saneR_set e fun b hb hl u => ?_
      simp only [Cell.und] at u ⊢
      rw [undL_mem] at u ⊢
      intro x hx
      rcases List.mem_or_eq_of_mem_set hx with hx | rfl
      · exact u x hx
      · exact storable_und hs hb hl
    · refine saneR_if (fun hs => ?_) fun _ => trivial
      simp only [Bool.and_eq_true] at hs
      refine saneR_set e fun b hb hl u => ?_
      exact undK_put hs.1.1 (storable_und hs.1.2 hb hl) u
    · trivial
  · exact sane_fail
theorem sane_lmop (m : Lm) (a : D) (as : List D) : Sane base (lmop base m a as) := by
  unfold lmop
  split
  · refine sane_write fun h c e => ?_
    split
    · refine saneR_if (fun hs => ?_) fun _ => trivial
      simp only [Bool.and_eq_true] at hs
      refine saneR_bind (saneR_set e fun b hb hl u => ?_) fun _ => sane_ret _
      simp only [Cell.und] at u ⊢
      rw [undL_append, u]
      simp [undL, storable_und hs.1 hb hl]
    · refine saneR_opt fun y _ => saneR_bind (saneR_set e fun b hb hl u => ?_) fun _ => sane_ret _
      simp only [Cell.und] at u ⊢
      rw [undL_mem] at u ⊢
      exact fun x hx => u x (List.dropLast_subset _ hx)
    · refine saneR_opt fun k _ => saneR_opt fun y _ => saneR_bind (saneR_set e fun b hb hl u => ?_) fun _ => sane_ret _
      simp only [Cell.und] at u ⊢
      rw [undL_mem] at u ⊢
      exact fun x hx => u x (List.mem_of_mem_eraseIdx hx)
    · trivial
  · exact sane_fail
theorem putF_mem {f : Str} {v : D} : ∀ {fs : List (Str × D)} {x : Str × D}, x ∈ putF fs f v → x ∈ fs ∨ x.2 = v
  | [], x, h => by
    have : x = (f, v) := by simpa [putF] using h
    exact .inr (by rw [this])
  | (g, w) :: r, x, h => by
    unfold putF at h
    split at h
    · rcases List.mem_cons.mp h with h | h
      · exact .inr (by rw [h])
      · exact .inl (List.mem_cons_of_mem _ h)
    · rcases List.mem_cons.mp h with h | h
      · exact .inl (by rw [h]; exact List.mem_cons_self)
      · rcases putF_mem h with h | h
        · exact .inl (List.mem_cons_of_mem _ h)
        · exact .inr h
theorem sane_setattr (o : D) (f : Str) (v : D) : Sane base (setattr base o f v) := by
  unfold setattr
  split
  · refine sane_write fun h c e => ?_
    split
    · split
      · rename_i hs
        simp only [Bool.and_eq_true] at hs
        refine saneR_set e fun b hb hl u => ?_
        simp only [Cell.und] at u ⊢
        rw [undF_mem] at u ⊢
        intro x hx
        rcases putF_mem hx with hx | hx
        · exact u x hx
        · rw [hx]
          exact storable_und hs.1 hb hl
      · trivial
    · trivial
  · exact sane_fail
theorem sane_nox {α : Type} {m : M α} (hm : Sane base m) : Sane base (nox m) := fun h => by
  have q := hm h
  unfold nox
  cases e : m h with
  | ok a h1 => rw [e] at q; exact q
  | exc x h1 => trivial
  | stuck => trivial
theorem sane_collectI {f : D → M (List D)} (hf : ∀ x, Sane base (f x)) : ∀ xs, Sane base (collectI f xs)
  | [] => sane_ret _
  | x :: r => sane_bind (hf x) fun a => sane_bind (sane_collectI hf r) fun b => sane_ret _
theorem sane_collectC {l n : Nat} {f : D → M (List D)} (hf : ∀ x, Sane base (f x)) : ∀ k, Sane base (collectC l n f k)
  | 0 => by
    rw [collectC]
    refine sane_bind (still_cellAt l).sane fun c => ?_
    split
    · exact sane_ite (sane_ret _) sane_fail
    · exact sane_fail
  | k + 1 => by
    rw [collectC]
    refine sane_bind (still_cellAt l).sane fun c => ?_
    split
    · split
      · exact sane_bind (hf _) fun a => sane_bind (sane_collectC hf k) fun b => sane_ret _
      · exact sane_fail
    · exact sane_fail
theorem sane_collect {f : D → M (List D)} (hf : ∀ x, Sane base (f x)) (w : Walk) : Sane base (collect f w) := by
  unfold collect
  split
  · exact sane_collectI hf _
  · exact sane_collectC hf _
  · rename_i l
    refine sane_write fun h c e => ?_
    split
    · rename_i t kvs
      have hl : l < h.length := (List.getElem?_eq_some_iff.mp e).1
      have e1 : setCell l .lock h = .ok () (h.set l .lock) := if_pos hl
      show SaneR base h ((setCell l .lock h).bind _)
      rw [e1]
      show SaneR base h ((collectI f (kvs.map (·.1)) (h.set l .lock)).bind _)
      have q := sane_collectI hf (kvs.map (·.1)) (h.set l .lock)
      have p0 : Pres base h (h.set l .lock) := fun hb => ⟨by simp, fun b hk cl => closed_set cl fun _ => rfl⟩
      cases e2 : collectI f (kvs.map (·.1)) (h.set l .lock) with
      | stuck => trivial
      | exc x h2 =>
        rw [e2] at q
        exact Pres.trans p0 q
      | ok r h2 =>
        rw [e2] at q
        show SaneR base h ((setCell l (.d t kvs) h2).bind _)
        unfold setCell
        split
        · intro hb
          obtain ⟨l1, c1⟩ := q (by simpa using hb)
          refine ⟨by simpa using l1, fun b hk cl => ?_⟩
          exact closed_set (c1 b hk (closed_set cl fun _ => rfl)) fun hlb => cl l _ hlb e
        · trivial
    · trivial
end
theorem still_noKeys (w : Walk) : Still (noKeys w) := by
  cases w <;> first | exact still_ret _ | exact still_fail
theorem still_keysOf (it : It) (w : Walk) : Still (keysOf it w) := by
  unfold keysOf
  split <;> first | exact still_ret _ | exact still_fail

section
variable {c : Cxt} (hc : ∀ f base args, Sane base (c.call f base args))
include hc
mutual
theorem sane_evE (base : Nat) (env : Env) : ∀ e : Ex, Sane base (evE c base env e)
  | .lit d => sane_ret _
  | .var i => by rw [evE]; exact (still_getVar _ _).sane
  | .glob x => by rw [evE]; exact sane_opt _
  | .bin op a b => by
    rw [evE]
    exact sane_bind (sane_evE base env a) fun x => sane_bind (sane_evE base env b) fun y => (still_binop _ _ _).sane
  | .neg a => by
    rw [evE]
    refine sane_bind (sane_evE base env a) fun x => ?_
    split
    · exact sane_ret _
    · exact sane_fail
  | .not a => by
    rw [evE]
    exact sane_bind (sane_evE base env a) fun x => sane_bind (still_truthy _).sane fun _ => sane_ret _
  | .and a b => by
    rw [evE]
    exact sane_bind (sane_evE base env a) fun x => sane_bind (still_truthy _).sane fun _ => sane_ite (sane_evE base env b) (sane_ret _)
  | .or a b => by
    rw [evE]
    exact sane_bind (sane_evE base env a) fun x => sane_bind (still_truthy _).sane fun _ => sane_ite (sane_ret _) (sane_evE base env b)
  | .cmp op a b => by
    rw [evE]
    exact sane_bind (sane_evE base env a) fun x => sane_bind (sane_evE base env b) fun y => sane_bind (still_cmpop _ _ _).sane fun _ => sane_ret _
  | .chain o1 o2 a b d => by
    rw [evE]
    exact sane_bind (sane_evE base env a) fun x => sane_bind (sane_evE base env b) fun y => sane_bind (still_cmpop _ _ _).sane fun _ =>
      sane_ite (sane_bind (sane_evE base env d) fun z => sane_bind (still_cmpop _ _ _).sane fun _ => sane_ret _) (sane_ret _)
  | .inGlob neg a x => by
    rw [evE]
    refine sane_bind (sane_evE base env a) fun v => ?_
    split
    · exact sane_bind (still_inSeq _ _).sane fun _ => sane_ret _
    · exact sane_fail
  | .ite t a b => by
    rw [evE]
    exact sane_bind (sane_evE base env t) fun x => sane_bind (still_truthy _).sane fun _ => sane_ite (sane_evE base env a) (sane_evE base env b)
  | .tup es => by
    rw [evE]
    exact sane_bind (sane_evEs base env es) fun x => sane_bind (still_short _).sane fun _ => sane_ret _
  | .new m al => by
    rw [evE]
    exact sane_bind (sane_evAl base env al) fun x => sane_ite (sane_alloc _) (still_content _).sane
  | .idx a b => by
    rw [evE]
    exact sane_bind (sane_evE base env a) fun x => sane_bind (sane_evE base env b) fun y => (still_idxop _ _).sane
  | .slice a lo hi => by
    rw [evE]
    exact sane_bind (sane_evE base env a) fun x => sane_bind (sane_evO base env lo) fun l => sane_bind (sane_evO base env hi) fun h => (still_sliceop _ _ _).sane
  | .isinst a ts => by
    rw [evE]
    exact sane_bind (sane_evE base env a) fun x => sane_bind (still_isTys _ _).sane fun _ => sane_ret _
  | .isown a cl => by
    rw [evE]
    refine sane_bind (sane_evE base env a) fun x => ?_
    split
    · exact sane_bind (sane_opt _) fun _ => sane_ret _
    · exact sane_fail
  | .prim p es => by
    rw [evE]
    exact sane_bind (sane_evEs base env es) fun x => (still_primop _ _).sane
  | .call f es => by
    rw [evE]
    exact sane_bind (sane_evEs base env es) fun x => hc _ _ _
  | .make cl es => by
    rw [evE]
    refine sane_bind (sane_evEs base env es) fun x => sane_bind (sane_alloc _) fun r => sane_bind (hc _ _ _) fun v => ?_
    split
    · exact sane_ret _
    · exact sane_fail
  | .meth m a es => by
    rw [evE]
    refine sane_bind (sane_evE base env a) fun x => ?_
    split
    · refine sane_bind (still_cellAt _).sane fun ce => ?_
      split
      · exact sane_bind (sane_evEs base env es) fun x => hc _ _ _
      · exact sane_fail
    · exact sane_fail
  | .lmeth m a es => by
    rw [evE]
    exact sane_bind (sane_evE base env a) fun x => sane_bind (still_lstOf _).sane fun _ => sane_bind (sane_evEs base env es) fun xs => sane_lmop _ _ _
  | .attr a f => by
    rw [evE]
    exact sane_bind (sane_evE base env a) fun x => (still_attrop _ _).sane
theorem sane_evO (base : Nat) (env : Env) : ∀ o : Option Ex, Sane base (evO c base env o)
  | none => sane_ret _
  | some e => by
    rw [evO]
    exact sane_bind (sane_evE base env e) fun x => sane_bind (still_asInt _).sane fun _ => sane_ret _
theorem sane_evEs (base : Nat) (env : Env) : ∀ es : List Ex, Sane base (evEs c base env es)
  | [] => sane_ret _
  | e :: es => by
    rw [evEs]
    exact sane_bind (sane_evE base env e) fun x => sane_bind (sane_evEs base env es) fun _ => sane_ret _
theorem sane_evIfs (base : Nat) (env : Env) : ∀ es : List Ex, Sane base (evIfs c base env es)
  | [] => sane_ret _
  | e :: es => by
    rw [evIfs]
    exact sane_bind (sane_evE base env e) fun x => sane_bind (still_truthy _).sane fun _ => sane_ite (sane_evIfs base env es) (sane_ret _)
theorem sane_evAl (base : Nat) (env : Env) : ∀ al : Al, Sane base (evAl c base env al)
  | .disp es => by
    rw [evAl]
    exact sane_bind (sane_evEs base env es) fun x => sane_bind (still_short _).sane fun _ => sane_ret _
  | .ddisp t kvs => by
    rw [evAl]
    refine sane_bind (sane_evEs base env kvs) fun x => ?_
    split
    · exact sane_ite (sane_ret _) sane_fail
    · exact sane_fail
  | .comp vs e tg it ifs => by
    rw [evAl]
    exact sane_bind (sane_evIt base env it) fun w => sane_bind (still_keysOf _ _).sane fun w => sane_bind (sane_collect (fun x => sane_nox <| sane_bind (still_bindTg _ _ _).sane fun env' => sane_bind (sane_evIfs base env' ifs) fun b =>
      sane_ite (sane_bind (sane_evE base env' e) fun y => sane_ret _) (sane_ret _)) w) fun _ => sane_ret _
  | .comp2 vs e tg it ifs vs2 tg2 it2 ifs2 => by
    rw [evAl]
    exact sane_bind (sane_evIt base env it) fun w => sane_bind (still_noKeys _).sane fun w => sane_bind (sane_collect (fun x => sane_nox <| sane_bind (still_bindTg _ _ _).sane fun env' => sane_bind (sane_evIfs base env' ifs) fun b =>
      sane_ite (sane_bind (sane_evIt base env' it2) fun w2 => sane_bind (still_noKeys _).sane fun w2 => sane_collect (fun x2 => sane_bind (still_bindTg _ _ _).sane fun env2 => sane_bind (sane_evIfs base env2 ifs2) fun b =>
        sane_ite (sane_bind (sane_evE base env2 e) fun y => sane_ret _) (sane_ret _)) w2) (sane_ret _)) w) fun _ => sane_bind (still_short _).sane fun _ => sane_ret _
  | .dcomp t vs k v tg it => by
    rw [evAl]
    refine sane_bind (sane_evIt base env it) fun w => sane_bind (still_noKeys _).sane fun w => sane_bind (sane_collect (fun x => sane_nox <| sane_bind (still_bindTg _ _ _).sane fun env' => sane_bind (sane_evE base env' k) fun a => sane_bind (sane_evE base env' v) fun b =>
      sane_ite (sane_ret _) sane_fail) w) fun ps => ?_
    split
    · exact sane_ret _
    · exact sane_fail
  | .listOf it => by
    rw [evAl]
    refine sane_bind (sane_evIt base env it) fun w => ?_
    split
    · exact sane_ret _
    · refine sane_bind (still_cellAt _).sane fun ce => ?_
      split
      · exact sane_ret _
      · exact sane_fail
    · refine sane_bind (still_cellAt _).sane fun ce => ?_
      split
      · exact sane_ret _
      · exact sane_fail
  | .dictOf t e => by
    rw [evAl]
    refine sane_bind (sane_evE base env e) fun x => sane_bind (still_lstOf _).sane fun xs => ?_
    split
    · exact sane_ite (sane_ret _) sane_fail
    · exact sane_fail
  | .sorted e => by
    rw [evAl]
    refine sane_bind (sane_evE base env e) fun x => sane_bind (still_lstOf _).sane fun xs => ?_
    split
    · exact sane_ret _
    · exact sane_ite (sane_ret _) sane_fail
  | .sortedSet e => by
    rw [evAl]
    refine sane_bind (sane_evE base env e) fun x => sane_bind (still_seqOf _).sane fun xs => ?_
    split
    · exact sane_ite (sane_ret _) sane_fail
    · exact sane_fail
  | .cat a b => by
    rw [evAl]
    exact sane_bind (sane_evE base env a) fun x => sane_bind (sane_evE base env b) fun y => sane_bind (still_lstOf _).sane fun _ => sane_bind (still_lstOf _).sane fun _ => sane_ite (sane_ret _) sane_fail
  | .rep a b => by
    rw [evAl]
    exact sane_bind (sane_evE base env a) fun x => sane_bind (sane_evE base env b) fun y => sane_bind (still_asInt _).sane fun _ => sane_bind (still_lstOf _).sane fun _ => sane_ite (sane_ret _) sane_fail
  | .sliceL a lo hi => by
    rw [evAl]
    exact sane_bind (sane_evE base env a) fun x => sane_bind (sane_evO base env lo) fun y => sane_bind (sane_evO base env hi) fun _ => sane_bind (still_lstOf _).sane fun _ => sane_ret _
theorem sane_evIt (base : Nat) (env : Env) : ∀ it : It, Sane base (evIt c base env it)
  | .ex e => by
    rw [evIt]
    exact sane_bind (sane_evE base env e) fun x => (still_walkOf _).sane
  | .range1 b => by
    rw [evIt]
    exact sane_bind (sane_evE base env b) fun x => sane_bind (still_asInt _).sane fun _ => (still_rangeW _ _).sane
  | .range2 a b => by
    rw [evIt]
    exact sane_bind (sane_evE base env a) fun x => sane_bind (sane_evE base env b) fun x => sane_bind (still_asInt _).sane fun _ => sane_bind (still_asInt _).sane fun _ => (still_rangeW _ _).sane
  | .range3 a b d => by
    rw [evIt]
    exact sane_bind (sane_evE base env a) fun x => sane_bind (sane_evE base env b) fun x => sane_bind (sane_evE base env d) fun x => sane_bind (still_asInt _).sane fun _ => sane_bind (still_asInt _).sane fun _ => sane_bind (still_asInt _).sane fun _ =>
      sane_ite (sane_ret _) sane_fail
  | .enum e => by
    rw [evIt]
    exact sane_bind (sane_evE base env e) fun x => sane_bind (still_seqFz _).sane fun _ => sane_ret _
  | .zip a b => by
    rw [evIt]
    exact sane_bind (sane_evE base env a) fun x => sane_bind (sane_evE base env b) fun x => sane_bind (still_seqFz _).sane fun _ => sane_bind (still_seqFz _).sane fun _ => sane_ret _
  | .rev e => by
    rw [evIt]
    exact sane_bind (sane_evE base env e) fun x => sane_bind (still_seqOf _).sane fun _ => sane_ret _
end
end
section
variable {base : Nat}
theorem sane_forI {f : D → Env → M (Flow × Env)} (hf : ∀ x env, Sane base (f x env)) : ∀ xs env, Sane base (forI f xs env)
  | [], env => sane_ret _
  | x :: r, env => by
    rw [forI]
    refine sane_bind (hf x env) fun p => ?_
    split
    · exact sane_forI hf r _
    · exact sane_forI hf r _
    · exact sane_ret _
    · exact sane_ret _
theorem sane_forC {l n : Nat} {f : D → Env → M (Flow × Env)} (hf : ∀ x env, Sane base (f x env)) : ∀ k env, Sane base (forC l n f k env)
  | 0, env => by
    rw [forC]
    refine sane_bind (still_cellAt l).sane fun c => ?_
    split
    · exact sane_ite (sane_ret _) sane_fail
    · exact sane_fail
  | k + 1, env => by
    rw [forC]
    refine sane_bind (still_cellAt l).sane fun c => ?_
    split
    · split
      · refine sane_bind (hf _ env) fun p => ?_
        split
        · exact sane_forC hf k _
        · exact sane_forC hf k _
        · exact sane_ret _
        · exact sane_ret _
      · exact sane_fail
    · exact sane_fail
theorem sane_forW {f : D → Env → M (Flow × Env)} (hf : ∀ x env, Sane base (f x env)) (w : Walk) (env : Env) : Sane base (forW f w env) := by
  unfold forW
  split
  · exact sane_forI hf _ _
  · exact sane_forC hf _ _
  · exact sane_fail
theorem sane_whileF {t : Env → M Bool} {f : Env → M (Flow × Env)} (ht : ∀ env, Sane base (t env)) (hf : ∀ env, Sane base (f env)) : ∀ n env, Sane base (whileF t f n env)
  | 0, env => sane_fail
  | n + 1, env => by
    rw [whileF]
    refine sane_bind (ht env) fun b => sane_ite (sane_bind (hf env) fun p => ?_) (sane_ret _)
    split
    · exact sane_whileF ht hf n _
    · exact sane_whileF ht hf n _
    · exact sane_ret _
    · exact sane_ret _
theorem still_setAll : ∀ (is : List Nat) (ds : List D) (env : Env), Still (setAll is ds env)
  | [], [], env => still_ret _
  | i :: is, d :: ds, env => by rw [setAll]; exact still_setAll is ds _
  | [], _ :: _, env => by rw [setAll] <;> first | exact still_fail | simp
  | _ :: _, [], env => by rw [setAll] <;> first | exact still_fail | simp
theorem still_mkExn (c : Cxt) (cl : Str) (as : List D) : Still (mkExn c cl as) := by
  unfold mkExn
  split
  · exact still_fail
  · refine still_ite ?_ (still_ite (still_ite (still_ret _) still_fail) still_fail)
    split
    · exact still_ret _
    · exact still_fail
end
section
variable {c : Cxt} (hc : ∀ f base args, Sane base (c.call f base args))
include hc
mutual
theorem sane_exec (base : Nat) : ∀ (s : Stm) (env : Env), Sane base (exec c base s env)
  | .set i e, env => by
    rw [exec]
    exact sane_bind (sane_evE hc base env e) fun _ => sane_ret _
  | .setT tg e, env => by
    rw [exec]
    exact sane_bind (sane_evE hc base env e) fun _ => sane_bind (still_bindTg _ _ _).sane fun _ => sane_ret _
  | .par is es, env => by
    rw [exec]
    exact sane_bind (sane_evEs hc base env es) fun _ => sane_bind (still_setAll _ _ _).sane fun _ => sane_ret _
  | .aug i op e, env => by
    rw [exec]
    refine sane_bind (still_getVar _ _).sane fun _ => sane_bind (sane_evE hc base env e) fun _ => ?_
    split <;> first
      | exact sane_ret _
      | exact sane_fail
  | .setIdx o i e, env => by
    rw [exec]
    exact sane_bind (sane_evE hc base env e) fun _ => sane_bind (sane_evE hc base env o) fun _ => sane_bind (sane_evE hc base env i) fun _ => sane_bind (sane_setop _ _ _) fun _ => sane_ret _
  | .setAttr o f e, env => by
    rw [exec]
    exact sane_bind (sane_evE hc base env e) fun _ => sane_bind (sane_evE hc base env o) fun _ => sane_bind (sane_setattr _ _ _) fun _ => sane_ret _
  | .expr e, env => by
    rw [exec]
    exact sane_bind (sane_evE hc base env e) fun _ => sane_ret _
  | .ret e, env => by
    rw [exec]
    exact sane_bind (sane_evE hc base env e) fun _ => sane_ret _
  | .retN, env => sane_ret _
  | .ife t a b, env => by
    rw [exec]
    exact sane_bind (sane_evE hc base env t) fun _ => sane_bind (still_truthy _).sane fun _ => sane_ite (sane_execs base a env) (sane_execs base b env)
  | .forr tg it body, env => by
    rw [exec]
    exact sane_bind (sane_evIt hc base env it) fun w => sane_forW (fun x env => sane_bind (still_bindTg _ _ _).sane fun env' => sane_execs base body env') w env
  | .whil t body, env => by
    rw [exec]
    exact sane_whileF (fun env => sane_bind (sane_evE hc base env t) fun _ => (still_truthy _).sane) (fun env => sane_execs base body env) _ env
  | .brk, env => sane_ret _
  | .cont, env => sane_ret _
  | .pass, env => sane_ret _
  | .raise cl es, env => by
    rw [exec]
    exact sane_bind (sane_evEs hc base env es) fun _ => sane_bind (still_mkExn _ _ _).sane fun e h => Pres.refl _ _
  | .tryy e hs, env => by
    intro h
    rw [exec]
    have q := sane_evE hc base env e h
    cases r : evE c base env e h with
    | ok a h1 =>
      rw [r] at q
      simp only
      rw [r]
      exact q
    | exc x h1 =>
      rw [r] at q
      simp only
      rw [r]
      show SaneR base h (handle c base x hs env h1)
      have z := sane_handle base x hs env h1
      cases e2 : handle c base x hs env h1 with
      | ok a h2 => rw [e2] at z; exact Pres.trans q z
      | exc x h2 => rw [e2] at z; exact Pres.trans q z
      | stuck => trivial
    | stuck =>
      simp only
      rw [r]
      trivial
theorem sane_handle (base : Nat) (x : Exn) : ∀ (hs : Hs) (env : Env), Sane base (handle c base x hs env)
  | .nil, env => fun h => Pres.refl _ _
  | .cons cl i body r, env => by
    rw [handle.eq_def]
    exact sane_ite (sane_ite (sane_execs base body _) (sane_handle base x r env)) sane_fail
theorem sane_execs (base : Nat) : ∀ (ss : List Stm) (env : Env), Sane base (execs c base ss env)
  | [], env => sane_ret _
  | s :: r, env => by
    rw [execs]
    refine sane_bind (sane_exec base s env) fun p => ?_
    split
    · exact sane_execs base r _
    · exact sane_ret _
end
end
theorem closed_take {b n : Nat} {h : Hh} (c : Closed b h) : Closed b (h.take n) := fun l d hl e => by
  have hk : l < (h.take n).length := (List.getElem?_eq_some_iff.mp e).1
  have : l < n := by rw [List.length_take] at hk; omega
  rw [List.getElem?_take_of_lt this] at e
  exact c l d hl e
theorem still_valOf (p : Flow × Env) : Still (valOf p) := by
  unfold valOf
  split <;> first | exact still_ret _ | exact still_fail
theorem sane_run (P : Prog) : ∀ (n : Nat) (f : Fid) (base : Nat) (as : List D), Sane base (run P n f base as)
  | 0, _, _, _ => sane_fail
  | n + 1, f, base, as => by
    rw [run]
    split
    · exact sane_fail
    · rename_i fn _
      have hc : ∀ f base args, Sane base ((cxt P (run P n)).call f base args) := fun f base args => sane_run P n f base args
      refine sane_ite (sane_ite (sane_bind (sane_execs hc base _ _) fun p => (still_valOf p).sane) fun h => ?_) sane_fail
      have q : Sane h.length (bind (execs (cxt P (run P n)) h.length fn.body (startEnv fn as)) valOf) := sane_bind (sane_execs hc h.length _ _) fun p => (still_valOf p).sane
      have z := q h
      cases e : bind (execs (cxt P (run P n)) h.length fn.body (startEnv fn as)) valOf h with
      | ok d h1 =>
        rw [e] at z
        obtain ⟨l1, c1⟩ := z (Nat.le_refl _)
        show SaneR base h (finish h.length d h1)
        unfold finish
        split
        · split
          · intro hb
            exact ⟨by rw [List.length_take]; omega, fun b hk cl => closed_take (c1 b (Nat.le_trans hk hb) cl)⟩
          · trivial
        · trivial
      | exc x h1 =>
        rw [e] at z
        obtain ⟨l1, c1⟩ := z (Nat.le_refl _)
        show SaneR base h (if pureF x.fs && noLock (h1.drop h.length) then .exc x (h1.take h.length) else .stuck)
        split
        · intro hb
          exact ⟨by rw [List.length_take]; omega, fun b hk cl => closed_take (c1 b (Nat.le_trans hk hb) cl)⟩
        · trivial
      | stuck => trivial
end Px

set_option autoImplicit false
set_option linter.all false
set_option maxRecDepth 100000
/-! What a computation of the small language promises of the abstract heap; operators by values. -/
namespace Px
open PySem L2 PySem.Spec PyProof.Rows
/-- an exception of an own class, with the fields of its dict -/
def ExnRep (K : PySem.W.Frag) (F : FF) (ρ : List Addr) (H : Hp) (e : Exn) (dd : Option Addr) : Prop :=
  (e.fs = [] ∧ dd = none) ∨ ∃ a gs, dd = some a ∧ H a = some (.xd gs) ∧ ∀ f d, e.fs.lookup f = some d → PySem.W.findIn K (.ref (He.ga K e.cls)) f = some none ∧ ∃ v, gs.lookup f = some v ∧ Rep F ρ d v
section
variable (K : PySem.W.Frag)
def Out {α : Type} (F : FF) (ρ : List Addr) (r : Res α) (Φ : α → FF → List Addr → Hp → Hh → Prop) (E : XK) : Prop := match r with
  | .ok a h' => ∀ F' ρ' H', Le F F' → Pre ρ ρ' → Rel K F' ρ' H' h' → Φ a F' ρ' H' h'
  | .exc e h' => ∀ F' ρ' H' dd, Le F F' → Pre ρ ρ' → Rel K F' ρ' H' h' → ExnRep K F' ρ' H' e dd → E (.ref (He.ga K e.cls)) dd H'
  | .stuck => False
end
section
variable {K : PySem.W.Frag} {α β : Type} {F F' : FF} {ρ ρ' : List Addr} {E : XK}
theorem Out.ext {r : Res α} {Φ : α → FF → List Addr → Hp → Hh → Prop} (o : Out K F ρ r Φ E) (lf : Le F F') (lr : Pre ρ ρ') : Out K F' ρ' r Φ E := by
  cases r with
  | ok a h => exact fun F2 ρ2 H2 l p R => o F2 ρ2 H2 (lf.trans l) (lr.trans p) R
  | exc e h => exact fun F2 ρ2 H2 dd l p R => o F2 ρ2 H2 dd (lf.trans l) (lr.trans p) R
  | stuck => exact o
theorem Out.imp {r : Res α} {Φ Ψ : α → FF → List Addr → Hp → Hh → Prop} (o : Out K F ρ r Φ E) (k : ∀ a h' F' ρ' H', r = .ok a h' → Le F F' → Pre ρ ρ' → Rel K F' ρ' H' h' → Φ a F' ρ' H' h' → Ψ a F' ρ' H' h') : Out K F ρ r Ψ E := by
  cases r with
  | ok a h => exact fun F2 ρ2 H2 l p R => k a h F2 ρ2 H2 rfl l p R (o F2 ρ2 H2 l p R)
  | exc e h => exact o
  | stuck => exact o
theorem Out.bind {r : Res α} {f : α → M β} {Φ : β → FF → List Addr → Hp → Hh → Prop} (o : Out K F ρ (r.bind f) Φ E) : Out K F ρ r (fun a F' ρ' _ h' => Out K F' ρ' (f a h') Φ E) E := by
  cases r with
  | ok a h => exact fun F2 ρ2 H2 l p R => Out.ext o l p
  | exc e h => exact o
  | stuck => exact o
/-- at once: what is already known of the result -/
theorem Out.here {a : α} {h : Hh} {H : Hp} {Φ : α → FF → List Addr → Hp → Hh → Prop} (o : Out K F ρ (.ok a h) Φ E) (R : Rel K F ρ H h) : Φ a F ρ H h := o F ρ H (Le.refl F) (Pre.refl ρ) R
theorem Out.nox {m : M α} {h : Hh} {Φ : α → FF → List Addr → Hp → Hh → Prop} (o : Out K F ρ (Px.nox m h) Φ E) (E' : XK) : Out K F ρ (m h) Φ E' := by
  unfold Px.nox at o
  cases e : m h with
  | ok a h => rw [e] at o; exact o
  | exc x h => rw [e] at o; exact o.elim
  | stuck => rw [e] at o; exact o
end
/-- the slots -/
def RepE (F : FF) (ρ : List Addr) (env : Env) (σ : L2.St) : Prop := env.length = σ.length ∧ ∀ (i : Nat) (d : D), env[i]? = some (some d) → ∃ v, σ[i]? = some (some v) ∧ Rep F ρ d v
theorem RepE.mono {F F' : FF} {ρ ρ' : List Addr} {env : Env} {σ : L2.St} (r : RepE F ρ env σ) (lf : Le F F') (lr : Pre ρ ρ') : RepE F' ρ' env σ :=
  ⟨r.1, fun i d e => let ⟨v, e2, q⟩ := r.2 i d e; ⟨v, e2, Rep.mono lf lr d v q⟩⟩
theorem RepE.set {F : FF} {ρ : List Addr} {env : Env} {σ : L2.St} {d : D} {v : V} (r : RepE F ρ env σ) (i : Nat) (q : Rep F ρ d v) : RepE F ρ (env.set i (some d)) (σ.set i (some v)) := by
  refine ⟨by rw [List.length_set, List.length_set]; exact r.1, fun j x e => ?_⟩
  by_cases hj : j = i
  · subst hj
    by_cases hl : j < env.length
    · rw [List.getElem?_set_self hl] at e
      cases e
      exact ⟨v, List.getElem?_set_self (r.1 ▸ hl), q⟩
    · rw [List.getElem?_eq_none (by rw [List.length_set]; omega)] at e
      cases e
  · rw [List.getElem?_set_ne (Ne.symm hj)] at e ⊢
    exact r.2 j x e
section
variable (K : PySem.W.Frag) (base : Nat) (W : WX)
/-- the reading of an expression: what the small language makes of it -/
def tE (m : Env → M D) : TE := fun σ H Q => ∃ F ρ h env, Rel K F ρ H h ∧ RepE F ρ env σ ∧ base ≤ h.length ∧ Out K F ρ (m env h) (fun d F' ρ' H' _ => ∀ v, Rep F' ρ' d v → Q v H') (WE W σ)
def tTst (m : Env → M Bool) : TT := fun σ H Q => ∃ F ρ h env, Rel K F ρ H h ∧ RepE F ρ env σ ∧ base ≤ h.length ∧ Out K F ρ (m env h) (fun b F' ρ' H' _ => Q b H') (WE W σ)
def tAs (m : Env → M (List D)) : TA := fun σ H Q => ∃ F ρ h env, Rel K F ρ H h ∧ RepE F ρ env σ ∧ base ≤ h.length ∧ Out K F ρ (m env h) (fun ds F' ρ' H' _ => ∀ vs, RepL F' ρ' ds vs → Q vs H') (WE W σ)
end
theorem _root_.L2.PE.weak {X : Cx} {e : Expr} {t t' : TE} (h : PE X e t) (k : ∀ σ H Q, t' σ H Q → t σ H Q) : PE X e t' := ⟨fun pins s σ H Q I q => h.run pins s σ H Q I (k σ H Q q)⟩
theorem _root_.L2.PT.weak {X : Cx} {e : Expr} {t t' : TT} (h : PT X e t) (k : ∀ σ H Q, t' σ H Q → t σ H Q) : PT X e t' := ⟨fun pins s σ H Q I q => h.run pins s σ H Q I (k σ H Q q)⟩
theorem _root_.L2.PA.weak {X : Cx} {e : List Expr} {t t' : TA} (h : PA X e t) (k : ∀ σ H Q, t' σ H Q → t σ H Q) : PA X e t' := ⟨fun pos pins s σ H Q I q => h.run pos pins s σ H Q I (k σ H Q q)⟩
theorem _root_.L2.PS.weak {X : Cx} {e : Stmt} {t t' : TS} (h : PS X e t) (k : ∀ D σ H, t' D σ H → t D σ H) : PS X e t' := ⟨fun pins s σ H D I q => h.run pins s σ H D I (k D σ H q)⟩
theorem _root_.L2.PSs.weak {X : Cx} {e : List Stmt} {t t' : TS} (h : PSs X e t) (k : ∀ D σ H, t' D σ H → t D σ H) : PSs X e t' := ⟨fun pins s σ H D I q => h.run pins s σ H D I (k D σ H q)⟩

/-! ### operators by values -/
section
variable (K : PySem.W.Frag) (E : XK)
/-- what an operator of the small language does with two values -/
def r2 (op : D → D → M D) : R2 := fun x y H Q => ∃ F ρ h a b E, Rel K F ρ H h ∧ Rep F ρ a x ∧ Rep F ρ b y ∧ Out K F ρ (op a b h) (fun d F' ρ' H' _ => ∀ v, Rep F' ρ' d v → Q v H') E
def r1 (op : D → M D) : V → Hp → VK → Prop := fun x H Q => ∃ F ρ h a E, Rel K F ρ H h ∧ Rep F ρ a x ∧ Out K F ρ (op a h) (fun d F' ρ' H' _ => ∀ v, Rep F' ρ' d v → Q v H') E
def rn (op : List D → M D) : List V → Hp → VK → Prop := fun xs H Q => ∃ F ρ h as E, Rel K F ρ H h ∧ RepL F ρ as xs ∧ Out K F ρ (op as h) (fun d F' ρ' H' _ => ∀ v, Rep F' ρ' d v → Q v H') E
end
section
variable {K : PySem.W.Frag} {F : FF} {ρ : List Addr} {H : Hp} {h : Hh} {E : XK} {Q : VK}
/-- a result that needs no object -/
theorem Out.val {d : D} {v : V} (R : Rel K F ρ H h) (o : Out K F ρ (.ok d h) (fun d F' ρ' H' _ => ∀ v, Rep F' ρ' d v → Q v H') E) (r : Rep F ρ d v) : Q v H := o F ρ H (Le.refl F) (Pre.refl ρ) R v r
/-- a new tuple -/
theorem Out.newT {ds : List D} {vs : List V} {p : Addr} (R : Rel K F ρ H h) (o : Out K F ρ (.ok (.tup ds) h) (fun d F' ρ' H' _ => ∀ v, Rep F' ρ' d v → Q v H') E) (r : RepL F ρ ds vs) (hz : ds.length ≤ big) (hp : H p = none) :
    Q (.ref p) (upd H p (.tup vs)) := by
  obtain ⟨R', l⟩ := R.froze (o := .tup vs) hp
  exact o _ ρ _ l (Pre.refl ρ) R' _ ⟨p, vs, rfl, upd_same, hz, RepL.mono l (Pre.refl ρ) _ _ r⟩
theorem Out.newL {ds : List D} {vs : List V} {p : Addr} (R : Rel K F ρ H h) (o : Out K F ρ (.ok (.lst ds) h) (fun d F' ρ' H' _ => ∀ v, Rep F' ρ' d v → Q v H') E) (r : RepL F ρ ds vs) (hz : ds.length ≤ big) (hp : H p = none) :
    Q (.ref p) (upd H p (.lst vs)) := by
  obtain ⟨R', l⟩ := R.froze (o := .lst vs) hp
  exact o _ ρ _ l (Pre.refl ρ) R' _ ⟨p, vs, rfl, upd_same, hz, RepL.mono l (Pre.refl ρ) _ _ r⟩
end
/-- a list: where it stands -/
theorem lstOf_at {K : PySem.W.Frag} {F : FF} {ρ : List Addr} {H : Hp} {h : Hh} {a : D} {x : V} {β : Type} {f : List D → M β} {Φ : β → FF → List Addr → Hp → Hh → Prop} {E : XK} (R : Rel K F ρ H h) (r : Rep F ρ a x) (o : Out K F ρ (((lstOf a) h).bind f) Φ E) :
    ∃ p ds vs, x = .ref p ∧ H p = some (.lst vs) ∧ ds.length ≤ big ∧ RepL F ρ ds vs ∧ Out K F ρ (f ds h) Φ E := by
  cases a with
  | lst ds =>
    obtain ⟨p, vs, e, hp, hz, rl⟩ := r
    exact ⟨p, ds, vs, e, R.sub _ _ hp, hz, rl, o⟩
  | ref l =>
    obtain ⟨p, e, hp⟩ := r
    simp only [lstOf, bind_at, cellAt] at o
    obtain ⟨c, hc, x⟩ := R.at' hp
    rw [hc] at o
    cases c with
    | l ds =>
      obtain ⟨vs, h1, h2, h3⟩ := x
      exact ⟨p, ds, vs, e, h1, h2, h3, o⟩
    | _ => exact o.elim
  | _ => exact o.elim
/-- a list or tuple -/
theorem seqOf_at {K : PySem.W.Frag} {F : FF} {ρ : List Addr} {H : Hp} {h : Hh} {a : D} {x : V} {β : Type} {f : List D → M β} {Φ : β → FF → List Addr → Hp → Hh → Prop} {E : XK} (R : Rel K F ρ H h) (r : Rep F ρ a x) (o : Out K F ρ (((seqOf a) h).bind f) Φ E) :
    ∃ p ds vs, x = .ref p ∧ (H p = some (.lst vs) ∨ H p = some (.tup vs)) ∧ ds.length ≤ big ∧ RepL F ρ ds vs ∧ Out K F ρ (f ds h) Φ E := by
  cases a with
  | lst ds =>
    obtain ⟨p, vs, e, hp, hz, rl⟩ := r
    exact ⟨p, ds, vs, e, .inl (R.sub _ _ hp), hz, rl, o⟩
  | tup ds =>
    obtain ⟨p, vs, e, hp, hz, rl⟩ := r
    exact ⟨p, ds, vs, e, .inr (R.sub _ _ hp), hz, rl, o⟩
  | ref l =>
    obtain ⟨p, e, hp⟩ := r
    simp only [seqOf, bind_at, cellAt] at o
    obtain ⟨c, hc, x⟩ := R.at' hp
    rw [hc] at o
    cases c with
    | l ds =>
      obtain ⟨vs, h1, h2, h3⟩ := x
      exact ⟨p, ds, vs, e, .inl h1, h2, h3, o⟩
    | _ => exact o.elim
  | _ => exact o.elim
def opOf : Bop → PySem.Operator
  | .add => .Add
  | .sub => .Sub
  | .mul => .Mult
  | .fdiv => .FloorDiv
  | .mod => .Mod
  | .pow => .Pow
  | .band => .BitAnd
  | .bxor => .BitXor
theorem bopOf_eq {o : PySem.Operator} {b : Bop} (h : bopOf o = some b) : opOf b = o := by
  cases o <;> simp [bopOf] at h <;> subst h <;> rfl
theorem small_iff {i : Int} (h : smallI i = true) : -(2 ^ 64) < i ∧ i < 2 ^ 64 := by
  unfold smallI two64 at h
  simp only [Bool.and_eq_true, decide_eq_true_eq] at h
  exact ⟨h.1, h.2⟩
section
variable {X : Cx}
theorem op_bin (o : Bop) : OpR X (binaryOp (opOf o)) (r2 X.K (binop o)) := by
  intro pins s σ H x y v u Q I rx ry ⟨F, ρ, h, a, b, E, R, ra, rb, out⟩
  have cat : ∀ {a b : D}, Rep F ρ a x → Rep F ρ b y → Out X.K F ρ ((bind (lstOf a) fun xs => bind (lstOf b) fun ys => if xs.length + ys.length ≤ big then ret (.lst (xs ++ ys)) else fail) h) (fun d F' ρ' H' _ => ∀ v, Rep F' ρ' d v → Q v H') E →
      wpAny (model X.prog X.w) X.A (binaryOp .Add v u) (EP X pins σ Q) X.xe s := by
    intro a b ra rb out
    obtain ⟨p, ds, vs, rfl, hp, hz, rl, out⟩ := lstOf_at R ra out
    obtain ⟨q, es, ws, rfl, hq, hz2, rl2, out⟩ := lstOf_at R rb out
    split at out
    · rename_i hs
      refine op_cat pins s σ H _ _ v u Q I rx ry ⟨p, q, vs, ws, rfl, rfl, hp, hq, by rw [rl.length, rl2.length, ← big_eq]; exact hs, fun z hn => ?_⟩
      exact Out.newL R out (rl.append rl2) (by rw [List.length_append]; exact hs) hn
    · exact out.elim
  have rp : ∀ {a : D} {k : Int}, Rep F ρ a x → y = .int k → Out X.K F ρ ((bind (lstOf a) fun xs => if (decide (k < 1048576) && decide (-1048576 < k)) && decide (xs.length * k.toNat ≤ big) then ret (.lst (List.replicate k.toNat xs).flatten) else fail) h) (fun d F' ρ' H' _ => ∀ v, Rep F' ρ' d v → Q v H') E →
      wpAny (model X.prog X.w) X.A (binaryOp .Mult v u) (EP X pins σ Q) X.xe s := by
    intro a k ra ey out
    obtain ⟨p, ds, vs, rfl, hp, hz, rl, out⟩ := lstOf_at R ra out
    split at out
    · rename_i hs
      simp only [Bool.and_eq_true, decide_eq_true_eq] at hs
      refine op_rep pins s σ H _ _ v u Q I rx ry ⟨p, k, vs, rfl, ey, hp, by omega, by omega, by rw [rl.length, ← big_eq]; exact hs.2, fun z hn => ?_⟩
      refine Out.newL R out (rl.rep _) ?_ hn
      rw [List.length_flatten, List.map_replicate, List.sum_replicate_nat, Nat.mul_comm]
      exact hs.2
    · exact out.elim
  cases o with
  | add =>
    cases a with
    | int i =>
      cases b with
      | int j => exact op_add pins s σ H x y v u Q I rx ry ⟨i, j, ra, rb, out.val R rfl⟩
      | _ => exact cat ra rb out
    | tup xs =>
      cases b with
      | tup ys =>
        simp only [binop] at out
        split at out
        · rename_i hs
          obtain ⟨p, vs, rfl, hp, hz, rl⟩ := id ra
          obtain ⟨q, ws, rfl, hq, hz2, rl2⟩ := id rb
          refine op_catA pins s σ H _ _ v u Q I rx ry ⟨p, q, vs, ws, rfl, rfl, SqT.of (R.sub _ _ hp), SqT.of (R.sub _ _ hq), by rw [rl.length, rl2.length, ← big_eq]; exact hs, fun e => ?_, fun _ e => ?_, fun _ _ z hn => ?_⟩
          · have : xs = [] := by
              have := rl.length
              rw [e] at this
              exact List.eq_nil_of_length_eq_zero this.symm
            subst this
            exact out.val R rb
          · have : ys = [] := by
              have := rl2.length
              rw [e] at this
              exact List.eq_nil_of_length_eq_zero this.symm
            subst this
            exact out.val R (by simpa using ra)
          · exact Out.newT R out (rl.append rl2) (by rw [List.length_append]; exact hs) hn
        · exact out.elim
      | _ => exact cat ra rb out
    | _ => cases b <;> exact cat ra rb out
  | sub =>
    cases a with
    | int i =>
      cases b with
      | int j => exact op_sub pins s σ H x y v u Q I rx ry ⟨i, j, ra, rb, out.val R rfl⟩
      | _ => exact out.elim
    | _ => exact out.elim
  | mul =>
    cases a with
    | int i =>
      cases b with
      | int j =>
        simp only [binop] at out
        split at out
        · rename_i hs
          rw [Bool.or_eq_true] at hs
          refine op_mul pins s σ H x y v u Q I rx ry ⟨i, j, ra, rb, ?_, out.val R rfl⟩
          rcases hs with hs | hs
          · exact .inl (small_iff hs)
          · exact .inr (small_iff hs)
        · exact out.elim
      | _ => exact out.elim
    | _ =>
      cases b with
      | int k => exact rp ra rb out
      | _ => exact out.elim
  | fdiv =>
    cases a with
    | int i =>
      cases b with
      | int j =>
        simp only [binop] at out
        split at out
        · rename_i hs
          exact op_fdiv pins s σ H x y v u Q I rx ry ⟨i, j, ra, rb, hs, out.val R rfl⟩
        · exact out.elim
      | _ => exact out.elim
    | _ => exact out.elim
  | mod =>
    cases a with
    | int i =>
      cases b with
      | int j =>
        simp only [binop] at out
        split at out
        · rename_i hs
          exact op_mod pins s σ H x y v u Q I rx ry ⟨i, j, ra, rb, hs, out.val R rfl⟩
        · exact out.elim
      | _ => exact out.elim
    | _ => exact out.elim
  | pow =>
    cases a with
    | int i =>
      cases b with
      | int j =>
        simp only [binop] at out
        split at out
        · rename_i hs
          simp only [Bool.and_eq_true, decide_eq_true_eq] at hs
          refine op_pow pins s σ H x y v u Q I rx ry ⟨i, j, ra, rb, ⟨hs.1.1, hs.1.2, ?_⟩, out.val R rfl⟩
          have := small_iff hs.2
          omega
        · exact out.elim
      | _ => exact out.elim
    | _ => exact out.elim
  | band => exact out.elim
  | bxor => exact out.elim
/-- truth -/
theorem tru_at {K : PySem.W.Frag} {F : FF} {ρ : List Addr} {H : Hp} {h : Hh} {a : D} {x : V} {β : Type} {f : Bool → M β} {Φ : β → FF → List Addr → Hp → Hh → Prop} {E : XK} (R : Rel K F ρ H h) (r : Rep F ρ a x) (o : Out K F ρ (((truthy a) h).bind f) Φ E) :
    ∃ k, TruV K x H k ∧ Out K F ρ (f k h) Φ E := by
  have emp : ∀ {ds : List D} {vs : List V}, RepL F ρ ds vs → ds.isEmpty = vs.isEmpty := fun {ds vs} rl => by
    have := rl.length
    cases ds <;> cases vs <;> first | rfl | (simp at this)
  cases a with
  | non => cases r; exact ⟨_, rfl, o⟩
  | bl b => cases r; exact ⟨_, rfl, o⟩
  | int i =>
    cases r
    refine ⟨_, rfl, ?_⟩
    have : (i != 0) = decide (i ≠ 0) := by by_cases e : i = 0 <;> simp [e]
    rw [this]
    exact o
  | tup ds =>
    obtain ⟨p, vs, rfl, hp, hz, rl⟩ := r
    exact ⟨_, .inr (.inl ⟨vs, SqT.of (R.sub _ _ hp), rfl⟩), by rw [← emp rl]; exact o⟩
  | lst ds =>
    obtain ⟨p, vs, rfl, hp, hz, rl⟩ := r
    exact ⟨_, .inl ⟨vs, SqL.of (R.sub _ _ hp), rfl⟩, by rw [← emp rl]; exact o⟩
  | ref l =>
    obtain ⟨p, rfl, hp⟩ := r
    simp only [truthy, bind_at, cellAt] at o
    obtain ⟨c, hc, x⟩ := R.at' hp
    rw [hc] at o
    cases c with
    | l ds =>
      obtain ⟨vs, h1, h2, h3⟩ := x
      exact ⟨_, .inl ⟨vs, SqL.of h1, rfl⟩, by rw [← emp h3]; exact o⟩
    | _ => exact o.elim
  | _ => exact o.elim
end
end Px

set_option autoImplicit false
set_option linter.all false
set_option maxRecDepth 100000
/-! Comparisons, subscripts, builtins by values. -/
namespace Px
open PySem L2 PySem.Spec PyProof.Rows
/-! ### data as the model reads it -/
mutual
theorem toP_plain : ∀ d : D, d.plain = true → d.toP.plain = true
  | .non, _ => rfl
  | .bl _, _ => rfl
  | .int _, _ => rfl
  | .str _, _ => rfl
  | .tup xs, h => by simp only [D.toP, PyData.plain]; exact toPL_plain xs (by simpa [D.plain] using h)
  | .lst xs, h => by simp only [D.toP, PyData.plain]; exact toPL_plain xs (by simpa [D.plain] using h)
  | .dct _ _, h => by simp [D.plain] at h
  | .ref _, h => by simp [D.plain] at h
  | .scr _, h => by simp [D.plain] at h
  | .exn _ _, h => by simp [D.plain] at h
theorem toPL_plain : ∀ ds : List D, plainL ds = true → PyData.plainAll (toPL ds) = true
  | [], _ => rfl
  | d :: ds, h => by
    simp only [plainL, Bool.and_eq_true] at h
    simp only [toPL, PyData.plainAll, Bool.and_eq_true]
    exact ⟨toP_plain d h.1, toPL_plain ds h.2⟩
end
mutual
theorem toP_depth : ∀ d : D, d.toP.depth ≤ d.depth
  | .non => Nat.zero_le _
  | .bl _ => Nat.zero_le _
  | .int _ => Nat.zero_le _
  | .str _ => Nat.zero_le _
  | .tup xs => by simp only [D.toP, PyData.depth, D.depth]; exact Nat.succ_le_succ (toPL_depth xs)
  | .lst xs => by simp only [D.toP, PyData.depth, D.depth]; exact Nat.succ_le_succ (toPL_depth xs)
  | .dct _ _ => Nat.zero_le _
  | .ref _ => Nat.zero_le _
  | .scr _ => Nat.zero_le _
  | .exn _ _ => Nat.zero_le _
theorem toPL_depth : ∀ ds : List D, PyData.depthAll (toPL ds) ≤ depthL ds
  | [] => Nat.le_refl _
  | d :: ds => by
    simp only [toPL, PyData.depthAll, depthL]
    have := toP_depth d
    have := toPL_depth ds
    omega
end
theorem toP_scal : ∀ d : D, d.scal = true → d.plain = true ∧ d.toP.depth = 0
  | .non, _ => ⟨rfl, rfl⟩
  | .bl _, _ => ⟨rfl, rfl⟩
  | .int _, _ => ⟨rfl, rfl⟩
  | .str _, _ => ⟨rfl, rfl⟩
  | .tup _, h => by simp [D.scal] at h
  | .lst _, h => by simp [D.scal] at h
  | .dct _ _, h => by simp [D.scal] at h
  | .ref _, h => by simp [D.scal] at h
  | .scr _, h => by simp [D.scal] at h
  | .exn _ _, h => by simp [D.scal] at h
theorem toPL_scal : ∀ ds : List D, ds.all D.scal = true → plainL ds = true ∧ PyData.depthAll (toPL ds) = 0
  | [], _ => ⟨rfl, rfl⟩
  | d :: ds, h => by
    simp only [List.all_cons, Bool.and_eq_true] at h
    obtain ⟨h1, h2⟩ := toP_scal d h.1
    obtain ⟨h3, h4⟩ := toPL_scal ds h.2
    simp only [plainL, toPL, PyData.depthAll, h1, h2, h3, h4, Bool.and_self, true_and]
    rfl
mutual
theorem toP_eqv : ∀ a b : D, a.plain = true → b.plain = true → PyData.eqv a.toP b.toP = a.eqv b
  | .non, b, _, hb => by cases b <;> first | rfl | (simp [D.plain] at hb)
  | .bl x, b, _, hb => by cases b <;> first | rfl | (simp [D.plain] at hb)
  | .int x, b, _, hb => by cases b <;> first | rfl | (simp [D.plain] at hb)
  | .str x, b, _, hb => by cases b <;> first | rfl | (simp [D.plain] at hb)
  | .tup xs, b, ha, hb => by
    cases b with
    | tup ys => simp only [D.toP, PyData.eqv, D.eqv]; exact toPL_eqv xs ys (by simpa [D.plain] using ha) (by simpa [D.plain] using hb)
    | _ => first | rfl | (simp [D.plain] at hb)
  | .lst xs, b, ha, hb => by
    cases b with
    | lst ys => simp only [D.toP, PyData.eqv, D.eqv]; exact toPL_eqv xs ys (by simpa [D.plain] using ha) (by simpa [D.plain] using hb)
    | _ => first | rfl | (simp [D.plain] at hb)
  | .dct _ _, _, h, _ => by simp [D.plain] at h
  | .ref _, _, h, _ => by simp [D.plain] at h
  | .scr _, _, h, _ => by simp [D.plain] at h
  | .exn _ _, _, h, _ => by simp [D.plain] at h
theorem toPL_eqv : ∀ a b : List D, plainL a = true → plainL b = true → PyData.eqvAll (toPL a) (toPL b) = eqvL a b
  | [], [], _, _ => rfl
  | [], _ :: _, _, _ => rfl
  | _ :: _, [], _, _ => rfl
  | x :: xs, y :: ys, ha, hb => by
    simp only [plainL, Bool.and_eq_true] at ha hb
    simp only [toPL, PyData.eqvAll, eqvL, toP_eqv x y ha.1 hb.1, toPL_eqv xs ys ha.2 hb.2]
end
section
variable {K : PySem.W.Frag} {F : FF} {ρ : List Addr} {H : Hp}
mutual
theorem Rep.dp (l : ∀ a o, F.f a = some o → H a = some o) : ∀ (d : D) (v : V), d.plain = true → Rep F ρ d v → Dp K H v d.toP
  | .non, _, _, r => by cases r; exact .non
  | .bl b, _, _, r => by cases r; exact .bl b
  | .int i, _, _, r => by cases r; exact .int i
  | .str x, _, _, r => by cases r; exact .str x
  | .tup ds, _, h, r => by
    obtain ⟨a, vs, rfl, ha, hz, rl⟩ := r
    exact .tup (SqT.of (l _ _ ha)) (RepL.dp l ds vs (by simpa [D.plain] using h) rl)
  | .lst ds, _, h, r => by
    obtain ⟨a, vs, rfl, ha, hz, rl⟩ := r
    exact .lst (SqL.of (l _ _ ha)) (RepL.dp l ds vs (by simpa [D.plain] using h) rl)
  | .dct _ _, _, h, _ => by simp [D.plain] at h
  | .ref _, _, h, _ => by simp [D.plain] at h
  | .scr _, _, h, _ => by simp [D.plain] at h
  | .exn _ _, _, h, _ => by simp [D.plain] at h
theorem RepL.dp (l : ∀ a o, F.f a = some o → H a = some o) : ∀ (ds : List D) (vs : List V), plainL ds = true → RepL F ρ ds vs → DpAll K H vs (toPL ds)
  | [], _, _, r => by cases r; exact .nil
  | d :: ds, _, h, r => by
    obtain ⟨w, ws, rfl, r1, r2⟩ := r
    simp only [plainL, Bool.and_eq_true] at h
    exact .cons (Rep.dp l d w h.1 r1) (RepL.dp l ds ws h.2 r2)
end
end
def cmpV (op : Cop) (a b : D) : M D := bind (cmpop op a b) fun r => ret (.bl r)
def copOp : Cop → PySem.CmpOp
  | .eq => .Eq | .ne => .NotEq | .lt => .Lt | .le => .LtE | .gt => .Gt | .ge => .GtE | .is => .Is | .isnot => .IsNot | .inn => .In | .notin => .NotIn
theorem copOf_eq (o : PySem.CmpOp) : copOp (copOf o) = o := by cases o <;> rfl
/-! ### dicts by keys -/
def dKey : D → Key
  | .int i => .inl i
  | .str x => .inr x
  | _ => .inl 0
theorem dKey_of {d : D} (h : d.flat = true) : d = keyD (dKey d) := by
  cases d <;> first | rfl | (simp [D.flat] at h)
theorem keyD_inj {a b : Key} (h : keyD a = keyD b) : a = b := by
  cases a <;> cases b <;> simp [keyD] at h <;> rw [h]
theorem keq_keyD (a b : Key) : (keyD a).keq (keyD b) = decide (a = b) := by
  cases a <;> cases b <;> simp [keyD, D.keq]
theorem keqL_keyD : ∀ (a b : List Key), keqL (a.map keyD) (b.map keyD) = decide (a = b)
  | [], [] => rfl
  | [], _ :: _ => rfl
  | _ :: _, [] => rfl
  | x :: xs, y :: ys => by
    simp only [List.map_cons, keqL, keq_keyD, keqL_keyD xs ys, List.cons.injEq, Bool.decide_and]
theorem rep_keyD {F : FF} {ρ : List Addr} {k : Key} {v : V} (r : Rep F ρ (keyD k) v) : v = kV k := by
  cases k <;> exact r
theorem repL_keyD {F : FF} {ρ : List Addr} : ∀ {ks : List Key} {vs : List V}, RepL F ρ (ks.map keyD) vs → vs = ks.map kV
  | [], _, r => r
  | k :: ks, _, r => by
    obtain ⟨w, ws, rfl, r1, r2⟩ := r
    rw [rep_keyD r1, repL_keyD r2]
    rfl
theorem flats : ∀ {xs : List D}, xs.all D.flat = true → xs = (xs.map dKey).map keyD
  | [], _ => rfl
  | x :: xs, h => by
    simp only [List.all_cons, Bool.and_eq_true] at h
    rw [List.map_cons, List.map_cons, ← dKey_of h.1, ← flats h.2]
section
variable {F : FF} {ρ : List Addr}
theorem RepK.find : ∀ {kvs : List (D × D)} {ks : List (Key × V)} (k : Key), RepK F ρ kvs ks → match kget kvs (keyD k) with
    | some d => ∃ v, valV ks k = some v ∧ Rep F ρ d v
    | none => valV ks k = none
  | [], _, k, h => by cases h; rfl
  | (a, d) :: r, _, k, h => by
    obtain ⟨q, w, s, rfl, rfl, r1, r2⟩ := h
    have ih := RepK.find k r2
    unfold kget at ih ⊢
    rw [List.find?_cons]
    by_cases e : q = k
    · subst e
      simp only [keq_keyD, decide_true]
      exact ⟨w, valV_pos rfl, r1⟩
    · rw [valV_neg e]
      simp only [keq_keyD, e, decide_false]
      exact ih
theorem RepT.find : ∀ {kvs : List (D × D)} {ks : List (List Key × V)} (k : List Key), RepT F ρ kvs ks → match kget kvs (.tup (k.map keyD)) with
    | some d => ∃ v, valV ks k = some v ∧ Rep F ρ d v
    | none => valV ks k = none
  | [], _, k, h => by cases h; rfl
  | (a, d) :: r, _, k, h => by
    obtain ⟨q, w, s, rfl, rfl, hq, r1, r2⟩ := h
    have ih := RepT.find k r2
    unfold kget at ih ⊢
    rw [List.find?_cons]
    by_cases e : q = k
    · subst e
      simp only [D.keq, keqL_keyD, decide_true]
      exact ⟨w, valV_pos rfl, r1⟩
    · rw [valV_neg e]
      simp only [D.keq, keqL_keyD, e, decide_false]
      exact ih
theorem khas_get (kvs : List (D × D)) (k : D) : khas kvs k = (kget kvs k).isSome := by
  unfold khas kget
  rw [Option.isSome_map]
  induction kvs with
  | nil => rfl
  | cons p r ih =>
    rw [List.any_cons, List.find?_cons]
    cases q : p.1.keq k
    · rw [Bool.false_or]
      exact ih
    · rfl
end
/-- a dict, asked for a key of its kind -/
theorem dget_at {K : PySem.W.Frag} {F : FF} {ρ : List Addr} {H : Hp} {h : Hh} {t : Kc} {kvs : List (D × D)} {a : Addr} {k : D} {y : V} (R : Rel K F ρ H h) (rd : (∃ l : Nat, ρ[l]? = some a ∧ h[l]? = some (Cell.d t kvs)) ∨ Rep F ρ (.dct t kvs) (.ref a)) (ok : keyOk t k = true) (rk : Rep F ρ k y) :
    ∃ o, DGet H a y o ∧ match kget kvs k with
      | some d => ∃ v, o = some v ∧ Rep F ρ d v
      | none => o = none := by
  cases t with
  | k =>
    have ⟨ks, hd, rk2⟩ : ∃ ks, H a = some (.dK ks) ∧ RepK F ρ kvs ks := by
      rcases rd with ⟨l, h1, h2⟩ | ⟨b, ks, e, h1, _, h2⟩
      · obtain ⟨ks, h3, _, h4⟩ := R.cell l a _ h1 h2
        exact ⟨ks, h3, h4⟩
      · cases e
        exact ⟨ks, R.sub _ _ h1, h2⟩
    have e := dKey_of (show k.flat = true from ok)
    rw [e] at rk ⊢
    rw [rep_keyD rk]
    refine ⟨_, DGet.k hd, ?_⟩
    have := RepK.find (dKey k) rk2
    split at this <;> exact this
  | t =>
    have ⟨ks, hd, rk2⟩ : ∃ ks, H a = some (.dT ks) ∧ RepT F ρ kvs ks := by
      rcases rd with ⟨l, h1, h2⟩ | ⟨b, ks, e, h1, _, h2⟩
      · obtain ⟨ks, h3, _, h4⟩ := R.cell l a _ h1 h2
        exact ⟨ks, h3, h4⟩
      · cases e
        exact ⟨ks, R.sub _ _ h1, h2⟩
    cases k with
    | tup xs =>
      obtain ⟨b, vs, rfl, hb, hz, rl⟩ := rk
      have e := flats (show xs.all D.flat = true from ok)
      rw [e] at rl ⊢
      rw [repL_keyD rl] at hb
      refine ⟨_, DGet.t hd (R.sub _ _ hb), ?_⟩
      have := RepT.find (xs.map dKey) rk2
      split at this <;> exact this
    | _ => simp [keyOk] at ok
section
variable {X : Cx}
theorem op_cmp (hu : X.A.units + 200 < cLine) (o : Cop) : OpR X (compareOp (copOp o)) (r2 X.K (cmpV o)) := by
  intro pins s σ H x y v u Q I rx ry ⟨F, ρ, h, a, b, E, R, ra, rb, out⟩
  -- equality
  have eq0 : ∀ (neg : Bool), Out X.K F ρ ((bind (bind (eqM a b) fun r => ret (if neg then !r else r)) fun r => ret (.bl r)) h) (fun d F' ρ' H' _ => ∀ v, Rep F' ρ' d v → Q v H') E →
      wpAny (model X.prog X.w) X.A (compareOp (if neg then .NotEq else .Eq) v u) (EP X pins σ Q) X.xe s := by
    intro neg out
    have key : a.plain = true → b.plain = true → min a.toP.depth b.toP.depth ≤ 100 → Out X.K F ρ ((bind (bind (ret (a.eqv b)) fun r => ret (if neg then !r else r)) fun r => ret (.bl r)) h) (fun d F' ρ' H' _ => ∀ v, Rep F' ρ' d v → Q v H') E →
        wpAny (model X.prog X.w) X.A (compareOp (if neg then .NotEq else .Eq) v u) (EP X pins σ Q) X.xe s := by
      intro pa pb hd out
      obtain ⟨as, r1⟩ := Dp.reads I _ x v (Rep.dp R.sub a x pa ra) rx
      obtain ⟨bs, r2⟩ := Dp.reads I _ y u (Rep.dp R.sub b y pb rb) ry
      cases neg with
      | false =>
        refine SeqAt.eq_plain r1 r2 (toP_plain a pa) (toP_plain b pb) (by omega) ⟨.bl _, H, I, rfl, ?_⟩
        rw [toP_eqv a b pa pb]
        exact Out.val R out rfl
      | true =>
        refine SeqAt.ne_plain r1 r2 (toP_plain a pa) (toP_plain b pb) (by omega) ⟨.bl _, H, I, rfl, ?_⟩
        rw [toP_eqv a b pa pb]
        exact Out.val R out rfl
    unfold eqM at out
    split at out
    · rename_i hs
      simp only [Bool.and_eq_true] at hs
      obtain ⟨p1, d1⟩ := toP_scal a hs.1
      obtain ⟨p2, d2⟩ := toP_scal b hs.2
      exact key p1 p2 (by rw [d1, d2]; exact Nat.zero_le _) out
    · split at out
      · rename_i hs
        simp only [Bool.and_eq_true, Bool.or_eq_true, decide_eq_true_eq] at hs
        refine key hs.1.1 hs.1.2 ?_ out
        have := toP_depth a
        have := toP_depth b
        omega
      · exact out.elim
  -- membership
  have in0 : ∀ (neg : Bool), Out X.K F ρ ((bind (bind (inD a b) fun r => ret (if neg then !r else r)) fun r => ret (.bl r)) h) (fun d F' ρ' H' _ => ∀ v, Rep F' ρ' d v → Q v H') E →
      wpAny (model X.prog X.w) X.A (compareOp (if neg then .NotIn else .In) v u) (EP X pins σ Q) X.xe s := by
    intro neg out
    have key : ∀ {ys : List D} {p : Addr} {vs : List V}, y = .ref p → (H p = some (.lst vs) ∨ H p = some (.tup vs)) → RepL F ρ ys vs →
        Out X.K F ρ ((bind (bind (inSeq a ys) fun r => ret (if neg then !r else r)) fun r => ret (.bl r)) h) (fun d F' ρ' H' _ => ∀ v, Rep F' ρ' d v → Q v H') E →
        wpAny (model X.prog X.w) X.A (compareOp (if neg then .NotIn else .In) v u) (EP X pins σ Q) X.xe s := by
      intro ys p vs ey hp rl out
      have fin : a.plain = true → plainL ys = true → min (PyData.depthAll (toPL ys)) a.toP.depth ≤ 100 → Out X.K F ρ ((bind (bind (ret (ys.any fun y => y.eqv a)) fun r => ret (if neg then !r else r)) fun r => ret (.bl r)) h) (fun d F' ρ' H' _ => ∀ v, Rep F' ρ' d v → Q v H') E →
          wpAny (model X.prog X.w) X.A (compareOp (if neg then .NotIn else .In) v u) (EP X pins σ Q) X.xe s := by
        intro pa py hd out
        obtain ⟨as, r1⟩ := Dp.reads I _ x v (Rep.dp R.sub a x pa ra) rx
        have ea : ∀ zs : List D, plainL zs = true → ((toPL zs).any fun z => PyData.eqv z a.toP) = zs.any fun z => z.eqv a := by
          intro zs
          induction zs with
          | nil => intro _; rfl
          | cons z zs ih =>
            intro hz
            simp only [plainL, Bool.and_eq_true] at hz
            simp only [toPL, List.any_cons, toP_eqv z a hz.1 pa, ih hz.2]
        rcases hp with hp | hp
        · have dy : Dp X.K H y (.list (toPL ys)) := by rw [ey]; exact .lst (SqL.of hp) (RepL.dp R.sub ys vs py rl)
          obtain ⟨bs, r2⟩ := Dp.reads I _ y u dy ry
          cases neg with
          | false =>
            refine SeqAt.in_list_data r2 r1 (toPL_plain ys py) (toP_plain a pa) (by omega) ⟨.bl _, H, I, rfl, ?_⟩
            rw [ea ys py]
            exact Out.val R out rfl
          | true =>
            refine SeqAt.notIn_list_data r2 r1 (toPL_plain ys py) (toP_plain a pa) (by omega) ⟨.bl _, H, I, rfl, ?_⟩
            rw [ea ys py]
            exact Out.val R out rfl
        · have dy : Dp X.K H y (.tuple (toPL ys)) := by rw [ey]; exact .tup (SqT.of hp) (RepL.dp R.sub ys vs py rl)
          obtain ⟨bs, r2⟩ := Dp.reads I _ y u dy ry
          cases neg with
          | false =>
            refine SeqAt.in_tuple_data r2 r1 (toPL_plain ys py) (toP_plain a pa) (by omega) ⟨.bl _, H, I, rfl, ?_⟩
            rw [ea ys py]
            exact Out.val R out rfl
          | true =>
            refine SeqAt.notIn_tuple_data r2 r1 (toPL_plain ys py) (toP_plain a pa) (by omega) ⟨.bl _, H, I, rfl, ?_⟩
            rw [ea ys py]
            exact Out.val R out rfl
      unfold inSeq at out
      split at out
      · rename_i hs
        simp only [Bool.and_eq_true] at hs
        obtain ⟨p1, d1⟩ := toP_scal a hs.1
        obtain ⟨p2, d2⟩ := toPL_scal ys hs.2
        exact fin p1 p2 (by rw [d1, d2]; exact Nat.zero_le _) out
      · split at out
        · rename_i hs
          simp only [Bool.and_eq_true, decide_eq_true_eq] at hs
          refine fin hs.1.1 hs.1.2 ?_ out
          have := toPL_depth ys
          omega
        · exact out.elim
    have dic : ∀ {t : Kc} {kvs : List (D × D)} {p : Addr}, y = .ref p → ((∃ l : Nat, ρ[l]? = some p ∧ h[l]? = some (Cell.d t kvs)) ∨ Rep F ρ (.dct t kvs) (.ref p)) →
        Out X.K F ρ ((bind (bind (if keyOk t a then ret (khas kvs a) else fail) fun r => ret (if neg then !r else r)) fun r => ret (.bl r)) h) (fun d F' ρ' H' _ => ∀ v, Rep F' ρ' d v → Q v H') E →
        wpAny (model X.prog X.w) X.A (compareOp (if neg then .NotIn else .In) v u) (EP X pins σ Q) X.xe s := by
      intro t kvs p ey hd out
      split at out
      · rename_i ok
        obtain ⟨o, dg, q⟩ := dget_at R hd ok ra
        have eo : o.isSome = khas kvs a := by
          rw [khas_get]
          split at q
          · rename_i d e
            obtain ⟨w, ew, _⟩ := q
            rw [ew, e]
            rfl
          · rename_i e
            rw [q, e]
            rfl
        subst ey
        cases ry
        cases neg with
        | false =>
          refine d_in (by omega) I dg rx fun s' I' => ⟨.bl _, H, I', rfl, ?_⟩
          rw [eo]
          exact Out.val R out rfl
        | true =>
          refine d_notIn (by omega) I dg rx fun s' I' => ⟨.bl _, H, I', rfl, ?_⟩
          rw [eo]
          exact Out.val R out rfl
      · exact out.elim
    cases b with
    | tup ys =>
      obtain ⟨p, vs, ey, hp, hz, rl⟩ := id rb
      exact key ey (.inr (R.sub _ _ hp)) rl out
    | lst ys =>
      obtain ⟨p, vs, ey, hp, hz, rl⟩ := id rb
      exact key ey (.inl (R.sub _ _ hp)) rl out
    | dct t kvs =>
      have ⟨p, ey⟩ : ∃ p, y = .ref p := by cases t <;> (obtain ⟨p, ks, e, _⟩ := id rb; exact ⟨p, e⟩)
      exact dic ey (.inr (ey ▸ rb)) out
    | ref l =>
      obtain ⟨p, ey, hp⟩ := id rb
      simp only [inD, bind_at, cellAt] at out
      obtain ⟨c, hc, x⟩ := R.at' hp
      rw [hc] at out
      cases c with
      | l ys =>
        obtain ⟨vs, h1, h2, h3⟩ := x
        exact key ey (.inl h1) h3 out
      | d t kvs => exact dic ey (.inl ⟨l, hp, hc⟩) out
      | _ => exact out.elim
    | _ => exact out.elim
  have bb : ∀ m : M Bool, (bind (bind m fun r => ret (if false = true then !r else r)) fun r => ret (D.bl r)) h = (bind m fun r => ret (D.bl r)) h := by
    intro m
    simp only [bind_at]
    cases m h <;> rfl
  cases o with
  | eq => exact eq0 false (by rw [bb]; exact out)
  | ne => exact eq0 true out
  | inn => exact in0 false (by rw [bb]; exact out)
  | notin => exact in0 true out
  | lt =>
    cases a with
    | int i =>
      cases b with
      | int j => exact op_lt pins s σ H x y v u Q I rx ry ⟨i, j, ra, rb, out.val R rfl⟩
      | _ => exact out.elim
    | _ => exact out.elim
  | le =>
    cases a with
    | int i =>
      cases b with
      | int j => exact op_le pins s σ H x y v u Q I rx ry ⟨i, j, ra, rb, out.val R rfl⟩
      | _ => exact out.elim
    | _ => exact out.elim
  | gt =>
    cases a with
    | int i =>
      cases b with
      | int j => exact op_gt pins s σ H x y v u Q I rx ry ⟨i, j, ra, rb, out.val R rfl⟩
      | _ => exact out.elim
    | _ => exact out.elim
  | ge =>
    cases a with
    | int i =>
      cases b with
      | int j => exact op_ge pins s σ H x y v u Q I rx ry ⟨i, j, ra, rb, out.val R rfl⟩
      | _ => exact out.elim
    | _ => exact out.elim
  | is =>
    cases b with
    | non =>
      refine op_isN pins s σ H x y v u Q I rx ry ⟨rb, ?_⟩
      cases a with
      | non => cases ra; exact out.val R rfl
      | bl _ => cases ra; exact out.val R rfl
      | int _ => cases ra; exact out.val R rfl
      | str _ => cases ra; exact out.val R rfl
      | tup _ => obtain ⟨p, vs, rfl, _⟩ := ra; exact out.val R rfl
      | lst _ => obtain ⟨p, vs, rfl, _⟩ := ra; exact out.val R rfl
      | scr _ => obtain ⟨p, vs, rfl, _⟩ := ra; exact out.val R rfl
      | dct t _ => cases t <;> (obtain ⟨p, vs, rfl, _⟩ := ra; exact out.val R rfl)
      | ref _ => obtain ⟨p, rfl, _⟩ := ra; exact out.val R rfl
      | exn _ _ => exact ra.elim
    | _ => exact out.elim
  | isnot =>
    cases b with
    | non =>
      refine op_notN pins s σ H x y v u Q I rx ry ⟨rb, ?_⟩
      cases a with
      | non => cases ra; exact out.val R rfl
      | bl _ => cases ra; exact out.val R rfl
      | int _ => cases ra; exact out.val R rfl
      | str _ => cases ra; exact out.val R rfl
      | tup _ => obtain ⟨p, vs, rfl, _⟩ := ra; exact out.val R rfl
      | lst _ => obtain ⟨p, vs, rfl, _⟩ := ra; exact out.val R rfl
      | scr _ => obtain ⟨p, vs, rfl, _⟩ := ra; exact out.val R rfl
      | dct t _ => cases t <;> (obtain ⟨p, vs, rfl, _⟩ := ra; exact out.val R rfl)
      | ref _ => obtain ⟨p, rfl, _⟩ := ra; exact out.val R rfl
      | exn _ _ => exact ra.elim
    | _ => exact out.elim
end
end Px

set_option autoImplicit false
set_option linter.all false
set_option maxRecDepth 100000
/-! Subscripts, slices, builtins, stores by values. -/
namespace Px
open PySem L2 PySem.Spec PyProof.Rows
theorem ixn_eq (n : Nat) (i : Int) : ixn n i = L2.ixN n i := rfl
theorem six_eq (n d : Nat) (o : Option Int) : six n d o = HT.sIx n d o := by cases o <;> rfl
section
variable {F : FF} {ρ : List Addr}
theorem RepL.at {ds : List D} {vs : List V} {i : Int} {d : D} (r : RepL F ρ ds vs) (e : atD ds i = some d) : ∃ v, L2.atI vs i = some v ∧ Rep F ρ d v := by
  unfold atD at e
  unfold L2.atI
  rw [r.length]
  cases q : ixn ds.length i with
  | none => rw [q] at e; cases e
  | some j =>
    rw [q] at e
    rw [ixn_eq] at q
    rw [q]
    exact r.get e
theorem RepL.cut {ds : List D} {vs : List V} (r : RepL F ρ ds vs) (lo hi : Option Int) : RepL F ρ (Px.cut ds lo hi) (L2.cutV vs lo hi) := by
  unfold Px.cut L2.cutV
  rw [six_eq, six_eq, r.length]
  exact (r.drop _).take _
theorem cut_le (ds : List D) (lo hi : Option Int) : (Px.cut ds lo hi).length ≤ ds.length := by
  unfold Px.cut
  rw [List.length_take, List.length_drop]
  omega
end
section
variable {X : Cx}
theorem sub_dict {value slice : Expr} {s : Shared} {o i : Value} {Q : Value → Shared → Prop} {E : Value → Shared → Prop} {A : Around} {prog : Program} {w : World} (ty : s.TypeIs o "dict") (hw : wpAny (model prog w) A (getItem o i) Q E s)
    (sl : subscripted slice false o i = operate [o, i] (getItem o i)) : wpAny (model prog w) A (subscriptTail value slice o i) Q E s := by
  have lk := PySem.F.slot_dict_getitem.lookup
  have rest : wpAny (model prog w) A (subscripted slice false o i) (fun r s3 => wpAny (model prog w) A (letTemporaryGo value o r >>= fun _ => pure r) Q E s3) E s := by
    rw [sl]
    exact wpAny_operating (wpAny_mono hw (fun _ _ q => wpAny_bind (wpAny_letTemporaryGo (wpAny_pure q))) fun _ _ q => q)
  unfold subscriptTail
  refine wpAny_bind ?_
  rw [getitemInPython_of_ne ty.not_modules]
  refine wpAny_bind (wpAny_specialOf ty lk ?_)
  first
    | exact wpAny_pure (wpAny_bind rest)
    | exact wpAny_bind (wpAny_pure (wpAny_bind rest))
    | exact wpAny_bind rest
theorem ix_any (hu : X.A.units + 200 < cLine) : IxR X (r2 X.K idxop) := by
  intro value slice pins s σ H x y v u Q I rx ry ⟨F, ρ, h, a, b, E, R, ra, rb, out⟩ hs
  have seqL : ∀ {ds : List D} {p : Addr} {vs : List V} {i : Int}, x = .ref p → y = .int i → H p = some (.lst vs) → RepL F ρ ds vs → Out X.K F ρ (opt (atD ds i) h) (fun d F' ρ' H' _ => ∀ v, Rep F' ρ' d v → Q v H') E →
      wpAny (model X.prog X.w) X.A (subscriptTail value slice v u) (EP X pins σ Q) X.xe s := by
    intro ds p vs i ex ey hp rl out
    cases q : atD ds i with
    | none => rw [q] at out; exact out.elim
    | some d =>
      rw [q] at out
      obtain ⟨w, hw, rw'⟩ := rl.at q
      exact ix_list value slice pins s σ H x y v u Q I rx ry ⟨p, vs, i, w, ex, ey, SqL.of hp, hw, Out.val R out rw'⟩ hs
  have dic : ∀ {t : Kc} {kvs : List (D × D)} {p : Addr}, x = .ref p → ((∃ l : Nat, ρ[l]? = some p ∧ h[l]? = some (Cell.d t kvs)) ∨ Rep F ρ (.dct t kvs) (.ref p)) →
      Out X.K F ρ ((if keyOk t b then opt (kget kvs b) else fail) h) (fun d F' ρ' H' _ => ∀ v, Rep F' ρ' d v → Q v H') E →
      wpAny (model X.prog X.w) X.A (subscriptTail value slice v u) (EP X pins σ Q) X.xe s := by
    intro t kvs p ex hd out
    split at out
    · rename_i ok
      obtain ⟨o, dg, q⟩ := dget_at R hd ok rb
      subst ex
      cases rx
      cases e : kget kvs b with
      | none => rw [e] at out; exact out.elim
      | some d =>
        rw [e] at out q
        obtain ⟨w, rfl, rw'⟩ := q
        exact sub_dict (dict_typeIs I dg) (d_getItem (by omega) I dg ry fun w' s' I' r' => ⟨w, H, I', r', Out.val R out rw'⟩) hs
    · exact out.elim
  cases a with
  | tup ds =>
    obtain ⟨p, vs, ex, hp, hz, rl⟩ := id ra
    cases b with
    | int i =>
      simp only [idxop] at out
      cases q : atD ds i with
      | none => rw [q] at out; exact out.elim
      | some d =>
        rw [q] at out
        obtain ⟨w, hw, rw'⟩ := rl.at q
        exact ix_tup value slice pins s σ H x y v u Q I rx ry ⟨p, vs, i, w, ex, rb, SqT.of (R.sub _ _ hp), hw, Out.val R out rw'⟩ hs
    | _ => exact out.elim
  | lst ds =>
    obtain ⟨p, vs, ex, hp, hz, rl⟩ := id ra
    cases b with
    | int i => exact seqL ex rb (R.sub _ _ hp) rl out
    | _ => exact out.elim
  | dct t kvs =>
    have ⟨p, ex⟩ : ∃ p, x = .ref p := by cases t <;> (obtain ⟨p, ks, e, _⟩ := id ra; exact ⟨p, e⟩)
    exact dic ex (.inr (ex ▸ ra)) out
  | ref l =>
    obtain ⟨p, ex, hp⟩ := id ra
    simp only [idxop, bind_at, cellAt] at out
    obtain ⟨c, hc, x'⟩ := R.at' hp
    rw [hc] at out
    cases c with
    | l ds =>
      obtain ⟨vs, h1, h2, h3⟩ := x'
      cases b with
      | int i => exact seqL ex rb h1 h3 out
      | _ => exact out.elim
    | d t kvs => exact dic ex (.inl ⟨l, hp, hc⟩) (by cases b <;> exact out)
    | _ => cases b <;> exact out.elim
  | _ => exact out.elim
def rSl (K : PySem.W.Frag) : V → Option Int → Option Int → Hp → VK → Prop := fun x lo hi H Q => ∃ F ρ h a E, Rel K F ρ H h ∧ Rep F ρ a x ∧ Out K F ρ (sliceop a lo hi h) (fun d F' ρ' H' _ => ∀ v, Rep F' ρ' d v → Q v H') E
theorem sl_any : SlR X (rSl X.K) := by
  intro pins s σ H x v vl vu lo hi sl Q I rx hs pl pu ⟨F, ρ, h, a, E, R, ra, out⟩
  have lists : ∀ {a : D}, Rep F ρ a x → Out X.K F ρ ((bind (lstOf a) fun xs => ret (.lst (cut xs lo hi))) h) (fun d F' ρ' H' _ => ∀ v, Rep F' ρ' d v → Q v H') E →
      ∃ T id, typeLookup (.type T) "__getitem__" = pure (some (.builtin id)) ∧ s.TypeIs v T ∧ wpAny (model X.prog X.w) X.A (getItem v (.ref sl)) (EP X pins σ Q) X.xe s := by
    intro a ra out
    obtain ⟨p, ds, vs, ex, hp, hz, rl, out⟩ := lstOf_at R ra out
    refine sl_list pins s σ H x v vl vu lo hi sl Q I rx hs pl pu ⟨p, vs, ex, SqL.of hp, fun z hn => ?_⟩
    exact Out.newL R out (rl.cut lo hi) (Nat.le_trans (cut_le _ _ _) hz) hn
  cases a with
  | tup ds =>
    obtain ⟨p, vs, ex, hp, hz, rl⟩ := id ra
    refine sl_tupA pins s σ H x v vl vu lo hi sl Q I rx hs pl pu ⟨p, vs, ex, SqT.of (R.sub _ _ hp), fun e => ?_, fun _ z hn => Out.newT R out (rl.cut lo hi) (Nat.le_trans (cut_le _ _ _) hz) hn⟩
    have ec : cut ds lo hi = ds := by
      unfold Px.cut
      rw [six_eq, six_eq, ← rl.length, e.1, e.2, List.drop_zero, rl.length, Nat.sub_zero, List.take_length]
    have out2 : Out X.K F ρ (.ok (.tup (cut ds lo hi)) h) (fun d F' ρ' H' _ => ∀ v, Rep F' ρ' d v → Q v H') E := out
    rw [ec] at out2
    rw [← ex]
    exact Out.val R out2 ra
  | lst ds => exact lists ra out
  | ref l => exact lists ra out
  | _ => exact out.elim
/-! ### builtins -/
theorem maxI_eq : ∀ {ns : List Int} {m : Int}, m ∈ ns → (∀ y, y ∈ ns → y ≤ m) → maxI ns = some m := by
  intro ns m hm hle
  cases ns with
  | nil => cases hm
  | cons x r =>
    have key : ∀ (r : List Int) (x : Int), (x = m ∨ m ∈ r) → x ≤ m → (∀ y, y ∈ r → y ≤ m) → r.foldl max x = m := by
      intro r
      induction r with
      | nil => intro x h _ _; simpa using h
      | cons y r ih =>
        intro x h hx hy
        rw [List.foldl_cons]
        refine ih (max x y) ?_ (by have := hy y List.mem_cons_self; omega) fun z hz => hy z (List.mem_cons_of_mem _ hz)
        rcases h with h | h
        · left; have := hy y List.mem_cons_self; omega
        · rcases List.mem_cons.mp h with h | h
          · left; omega
          · right; exact h
    show some (r.foldl max x) = some m
    rw [key r x ?_ (hle x List.mem_cons_self) fun y hy => hle y (List.mem_cons_of_mem _ hy)]
    rcases List.mem_cons.mp hm with h | h
    · exact .inl h.symm
    · exact .inr h
theorem minI_eq : ∀ {ns : List Int} {m : Int}, m ∈ ns → (∀ y, y ∈ ns → m ≤ y) → minI ns = some m := by
  intro ns m hm hle
  cases ns with
  | nil => cases hm
  | cons x r =>
    have key : ∀ (r : List Int) (x : Int), (x = m ∨ m ∈ r) → m ≤ x → (∀ y, y ∈ r → m ≤ y) → r.foldl min x = m := by
      intro r
      induction r with
      | nil => intro x h _ _; simpa using h
      | cons y r ih =>
        intro x h hx hy
        rw [List.foldl_cons]
        refine ih (min x y) ?_ (by have := hy y List.mem_cons_self; omega) fun z hz => hy z (List.mem_cons_of_mem _ hz)
        rcases h with h | h
        · left; have := hy y List.mem_cons_self; omega
        · rcases List.mem_cons.mp h with h | h
          · left; omega
          · right; exact h
    show some (r.foldl min x) = some m
    rw [key r x ?_ (hle x List.mem_cons_self) fun y hy => hle y (List.mem_cons_of_mem _ hy)]
    rcases List.mem_cons.mp hm with h | h
    · exact .inl h.symm
    · exact .inr h
theorem RepL.len2 {F : FF} {ρ : List Addr} {as : List D} {xs : List V} (r : RepL F ρ as xs) : as.length = xs.length := r.length.symm
theorem RepK.length {F : FF} {ρ : List Addr} : ∀ {kvs : List (D × D)} {ks : List (Key × V)}, RepK F ρ kvs ks → ks.length = kvs.length
  | [], _, h => by cases h; rfl
  | (a, d) :: r, _, h => by
    obtain ⟨q, w, s, rfl, rfl, r1, r2⟩ := h
    simp [RepK.length r2]
theorem RepT.length {F : FF} {ρ : List Addr} : ∀ {kvs : List (D × D)} {ks : List (List Key × V)}, RepT F ρ kvs ks → ks.length = kvs.length
  | [], _, h => by cases h; rfl
  | (a, d) :: r, _, h => by
    obtain ⟨q, w, s, rfl, rfl, hq, r1, r2⟩ := h
    simp [RepT.length r2]
def primTy : Prim → Value
  | .tuple => .type "tuple"
  | .int => .type "int"
  | .len => .builtin "len"
  | .sum => .builtin "sum"
  | .min => .builtin "min"
  | .max => .builtin "max"
  | .min2 => .builtin "min"
  | .max2 => .builtin "max"
  | .any => .builtin "any"
  | .all => .builtin "all"
  | .abs => .builtin "abs"
theorem call_prim (hc : X.calm = true) (p : Prim) : CallR X (primTy p) (rn X.K (primop p)) := by
  intro pins s σ H xs us Q I r ⟨F, ρ, h, as, E, R, ra, out⟩
  -- one argument
  have one : ∀ {a : D}, as = [a] → ∃ x, xs = [x] ∧ Rep F ρ a x := by
    intro a e
    subst e
    obtain ⟨w, ws, rfl, r1, r2⟩ := ra
    cases r2
    exact ⟨w, rfl, r1⟩
  have two : ∀ {a b : D}, as = [a, b] → ∃ x y, xs = [x, y] ∧ Rep F ρ a x ∧ Rep F ρ b y := by
    intro a b e
    subst e
    obtain ⟨w, ws, rfl, r1, w2, ws2, rfl, r2, r3⟩ := ra
    cases r3
    exact ⟨w, w2, rfl, r1, r2⟩
  unfold primop at out
  split at out
  · rename_i d
    obtain ⟨x, rfl, rx⟩ := one rfl
    cases d with
    | tup ds =>
      obtain ⟨q, vs, rfl, hp, hz, rl⟩ := rx
      exact call_len_seq pins s σ H _ us Q I r ⟨q, vs, rfl, .inr (SqT.of (R.sub _ _ hp)), by rw [rl.length]; exact out.val R rfl⟩
    | lst ds =>
      obtain ⟨q, vs, rfl, hp, hz, rl⟩ := rx
      exact call_len_seq pins s σ H _ us Q I r ⟨q, vs, rfl, .inl (SqL.of (R.sub _ _ hp)), by rw [rl.length]; exact out.val R rfl⟩
    | dct t kvs =>
      cases t with
      | k =>
        obtain ⟨q, ks, rfl, hp, hz, rl⟩ := rx
        exact call_lenD pins s σ H _ us Q I r ⟨q, ks, rfl, R.sub _ _ hp, by rw [rl.length]; exact out.val R rfl⟩
      | t =>
        obtain ⟨q, ks, rfl, hp, hz, rl⟩ := rx
        exact call_len_dT pins s σ H _ us Q I r ⟨q, ks, rfl, R.sub _ _ hp, by rw [rl.length]; exact out.val R rfl⟩
    | ref l =>
      obtain ⟨q, rfl, hp⟩ := rx
      simp only [lenD, bind_at, cellAt] at out
      obtain ⟨c, hc2, x'⟩ := R.at' hp
      rw [hc2] at out
      cases c with
      | l ds =>
        obtain ⟨vs, h1, h2, h3⟩ := x'
        exact call_len_seq pins s σ H _ us Q I r ⟨q, vs, rfl, .inl (SqL.of h1), by rw [h3.length]; exact out.val R rfl⟩
      | d t kvs =>
        cases t with
        | k =>
          obtain ⟨ks, h1, h2, h3⟩ := x'
          exact call_lenD pins s σ H _ us Q I r ⟨q, ks, rfl, h1, by rw [h3.length]; exact out.val R rfl⟩
        | t =>
          obtain ⟨ks, h1, h2, h3⟩ := x'
          exact call_len_dT pins s σ H _ us Q I r ⟨q, ks, rfl, h1, by rw [h3.length]; exact out.val R rfl⟩
      | _ => exact out.elim
    | _ => exact out.elim
  · obtain ⟨x, rfl, rx⟩ := one rfl
    obtain ⟨q, ds, vs, rfl, hp, hz, rl, out⟩ := lstOf_at R rx out
    cases e : intsOf ds with
    | none => rw [e] at out; exact out.elim
    | some ns =>
      rw [e] at out
      have := rl.ints e
      subst this
      exact cr_sum hc pins s σ H _ us Q I r ⟨q, ns, rfl, SqL.of hp, Out.val R out rfl⟩
  · obtain ⟨x, rfl, rx⟩ := one rfl
    obtain ⟨q, ds, vs, rfl, hp, hz, rl, out⟩ := lstOf_at R rx out
    cases e1 : intsOf ds with
    | none => rw [e1] at out; exact out.elim
    | some ns =>
      rw [e1] at out
      have := rl.ints e1
      subst this
      refine cr_max hc pins s σ H _ us Q I r ⟨q, ns, rfl, SqL.of hp, ?_, fun m hm hle => ?_⟩
      · cases ns with
        | nil => exact out.elim
        | cons _ _ => exact Nat.succ_pos _
      · have e' := maxI_eq hm hle
        simp only [Option.bind_some, e'] at out
        exact Out.val R out rfl
  · obtain ⟨x, rfl, rx⟩ := one rfl
    obtain ⟨q, ds, vs, rfl, hp, hz, rl, out⟩ := lstOf_at R rx out
    cases e1 : intsOf ds with
    | none => rw [e1] at out; exact out.elim
    | some ns =>
      rw [e1] at out
      have := rl.ints e1
      subst this
      refine cr_min hc pins s σ H _ us Q I r ⟨q, ns, rfl, SqL.of hp, ?_, fun m hm hle => ?_⟩
      · cases ns with
        | nil => exact out.elim
        | cons _ _ => exact Nat.succ_pos _
      · have e' := minI_eq hm hle
        simp only [Option.bind_some, e'] at out
        exact Out.val R out rfl
  · rename_i i j
    obtain ⟨x, y, rfl, rx, ry⟩ := two rfl
    cases rx
    cases ry
    refine call_max2 hc pins s σ H _ us Q I r ⟨i, j, rfl, ?_⟩
    have : (if j > i then j else i) = max i j := by split <;> omega
    rw [this]
    exact out.val R rfl
  · rename_i i j
    obtain ⟨x, y, rfl, rx, ry⟩ := two rfl
    cases rx
    cases ry
    refine call_min2 hc pins s σ H _ us Q I r ⟨i, j, rfl, ?_⟩
    have : (if j < i then j else i) = min i j := by split <;> omega
    rw [this]
    exact out.val R rfl
  · obtain ⟨x, rfl, rx⟩ := one rfl
    obtain ⟨q, ds, vs, rfl, hp, hz, rl, out⟩ := lstOf_at R rx out
    cases e : blsOf ds with
    | none => rw [e] at out; exact out.elim
    | some bs =>
      rw [e] at out
      have := rl.bls e
      subst this
      exact cr_any hc pins s σ H _ us Q I r ⟨q, bs, rfl, SqL.of hp, Out.val R out rfl⟩
  · obtain ⟨x, rfl, rx⟩ := one rfl
    obtain ⟨q, ds, vs, rfl, hp, hz, rl, out⟩ := lstOf_at R rx out
    cases e : blsOf ds with
    | none => rw [e] at out; exact out.elim
    | some bs =>
      rw [e] at out
      have := rl.bls e
      subst this
      exact cr_all hc pins s σ H _ us Q I r ⟨q, bs, rfl, SqL.of hp, Out.val R out rfl⟩
  · rename_i d
    obtain ⟨x, rfl, rx⟩ := one rfl
    cases d with
    | tup ds =>
      obtain ⟨q, vs, rfl, hp, hz, rl⟩ := id rx
      exact call_tuple_of pins s σ H _ us Q I r ⟨q, vs, rfl, .inr ⟨SqT.of (R.sub _ _ hp), out.val R rx⟩⟩
    | lst ds =>
      obtain ⟨q, vs, rfl, hp, hz, rl⟩ := id rx
      exact call_tuple_of pins s σ H _ us Q I r ⟨q, vs, rfl, .inl ⟨SqL.of (R.sub _ _ hp), fun l hl => Out.newT R out rl hz hl⟩⟩
    | ref k =>
      obtain ⟨q, rfl, hp⟩ := id rx
      simp only [seqOf, bind_at, cellAt] at out
      obtain ⟨c, hc2, x'⟩ := R.at' hp
      rw [hc2] at out
      cases c with
      | l ds =>
        obtain ⟨vs, h1, h2, h3⟩ := x'
        exact call_tuple_of pins s σ H _ us Q I r ⟨q, vs, rfl, .inl ⟨SqL.of h1, fun l hl => Out.newT R out h3 h2 hl⟩⟩
      | _ => exact out.elim
    | _ => exact out.elim
  · rename_i i
    obtain ⟨x, rfl, rx⟩ := one rfl
    cases rx
    exact call_int1 pins s σ H _ us Q I r (.inl ⟨i, rfl, out.val R rfl⟩)
  · rename_i b
    obtain ⟨x, rfl, rx⟩ := one rfl
    cases rx
    exact call_int1 pins s σ H _ us Q I r (.inr ⟨b, rfl, out.val R rfl⟩)
  · rename_i i
    obtain ⟨x, rfl, rx⟩ := one rfl
    cases rx
    exact call_abs pins s σ H _ us Q I r ⟨i, rfl, out.val R rfl⟩
  · exact out.elim
end
end Px

set_option autoImplicit false
set_option linter.all false
set_option maxRecDepth 100000
/-! Types, stores, methods of lists. -/
namespace Px
open PySem L2 PySem.Spec PyProof.Rows
theorem cellAt_some {l : Nat} {c : Cell} {h : Hh} (e : h[l]? = some c) : cellAt l h = .ok c h := by
  unfold cellAt
  rw [e]
theorem cellAt_none {l : Nat} {h : Hh} (e : h[l]? = none) : cellAt l h = .stuck := by
  unfold cellAt
  rw [e]
def tyS : Ty → String
  | .int => "int" | .bool => "bool" | .str => "str" | .tuple => "tuple" | .list => "list" | .dict => "dict"
/-- is a value of the type n one of t -/
def tyHas (n : String) (t : Ty) : Bool := (n == tyS t) || (n == "bool" && t == .int)
theorem kit_all (K : PySem.W.Frag) (t : Ty) : kitB "NoneType" (tyS t) = some (tyHas "NoneType" t) ∧ kitB "bool" (tyS t) = some (tyHas "bool" t) ∧ kitB "int" (tyS t) = some (tyHas "int" t) ∧ kitB "str" (tyS t) = some (tyHas "str" t) ∧
    kitB "list" (tyS t) = some (tyHas "list" t) ∧ kitB "tuple" (tyS t) = some (tyHas "tuple" t) ∧ kitB "dict" (tyS t) = some (tyHas "dict" t) := by
  cases t <;> refine ⟨?_, ?_, ?_, ?_, ?_, ?_, ?_⟩ <;> decide +kernel
section
variable {K : PySem.W.Frag} {F : FF} {ρ : List Addr} {H : Hp} {h : Hh} {a : D} {x : V}
/-- the type that isinstance sees -/
theorem ty_at (R : Rel K F ρ H h) (r : Rep F ρ a x) (t : Ty) {b : Bool} (e : isTy a t h = .ok b h) : ∃ n, TyX K H x (.type n) ∧ (∀ t, isTy a t h = .ok (tyHas n t) h) ∧ ∀ t, kitB n (tyS t) = some (tyHas n t) := by
  cases a with
  | non => cases r; exact ⟨"NoneType", .base .non, fun t => by cases t <;> rfl, fun t => (kit_all K t).1⟩
  | bl b => cases r; exact ⟨"bool", .base (.bl _), fun t => by cases t <;> rfl, fun t => (kit_all K t).2.1⟩
  | int i => cases r; exact ⟨"int", .base (.int _), fun t => by cases t <;> rfl, fun t => (kit_all K t).2.2.1⟩
  | str z => cases r; exact ⟨"str", .base (.str _), fun t => by cases t <;> rfl, fun t => (kit_all K t).2.2.2.1⟩
  | lst ds =>
    obtain ⟨p, vs, rfl, hp, _, _⟩ := r
    exact ⟨"list", .base (.lst (R.sub _ _ hp)), fun t => by cases t <;> rfl, fun t => (kit_all K t).2.2.2.2.1⟩
  | tup ds =>
    obtain ⟨p, vs, rfl, hp, _, _⟩ := r
    exact ⟨"tuple", .base (.tup (R.sub _ _ hp)), fun t => by cases t <;> rfl, fun t => (kit_all K t).2.2.2.2.2.1⟩
  | dct k kvs =>
    cases k with
    | k =>
      obtain ⟨p, ks, rfl, hp, _, _⟩ := r
      exact ⟨"dict", .base (.dK (R.sub _ _ hp)), fun t => by cases t <;> rfl, fun t => (kit_all K t).2.2.2.2.2.2⟩
    | t =>
      obtain ⟨p, ks, rfl, hp, _, _⟩ := r
      exact ⟨"dict", .base (.dT (R.sub _ _ hp)), fun t => by cases t <;> rfl, fun t => (kit_all K t).2.2.2.2.2.2⟩
  | ref l =>
    obtain ⟨p, rfl, hp⟩ := r
    obtain ⟨c, hc, x'⟩ := R.at' hp
    have ev : ∀ t, isTy (.ref l) t h = (match c with
      | .l _ => ret (match t with | .list => true | _ => false)
      | .d _ _ => ret (match t with | .dict => true | _ => false)
      | _ => fail : M Bool) h := fun t => by
      show (cellAt l h).bind _ = _
      rw [cellAt_some hc]
      cases c <;> cases t <;> rfl
    rw [ev] at e
    cases c with
    | l ds =>
      obtain ⟨vs, h1, _, _⟩ := x'
      exact ⟨"list", .base (.lst h1), fun t => by rw [ev]; cases t <;> rfl, fun t => (kit_all K t).2.2.2.2.1⟩
    | d k kvs =>
      cases k with
      | k =>
        obtain ⟨ks, h1, _, _⟩ := x'
        exact ⟨"dict", .base (.dK h1), fun t => by rw [ev]; cases t <;> rfl, fun t => (kit_all K t).2.2.2.2.2.2⟩
      | t =>
        obtain ⟨ks, h1, _, _⟩ := x'
        exact ⟨"dict", .base (.dT h1), fun t => by rw [ev]; cases t <;> rfl, fun t => (kit_all K t).2.2.2.2.2.2⟩
    | _ => cases e
  | scr _ => cases e
  | exn _ _ => cases e
theorem isTy_same (a : D) (t : Ty) (h : Hh) : (∃ b, isTy a t h = .ok b h) ∨ isTy a t h = .stuck := by
  cases a with
  | ref l =>
    cases q : h[l]? with
    | none => exact .inr (by show (cellAt l h).bind _ = _; rw [cellAt_none q]; rfl)
    | some c =>
      cases c with
      | l xs => exact .inl ⟨_, by show (cellAt l h).bind _ = _; rw [cellAt_some q]; rfl⟩
      | d k xs => exact .inl ⟨_, by show (cellAt l h).bind _ = _; rw [cellAt_some q]; rfl⟩
      | inst _ _ => exact .inr (by show (cellAt l h).bind _ = _; rw [cellAt_some q]; rfl)
      | lock => exact .inr (by show (cellAt l h).bind _ = _; rw [cellAt_some q]; rfl)
  | scr _ => exact .inr rfl
  | exn _ _ => exact .inr rfl
  | _ => exact .inl ⟨_, rfl⟩
theorem isTys_at (R : Rel K F ρ H h) (r : Rep F ρ a x) : ∀ {ts : List Ty} {β : Type} {f : Bool → M β} {Φ : β → FF → List Addr → Hp → Hh → Prop} {E : XK}, ts ≠ [] → Out K F ρ ((isTys a ts h).bind f) Φ E →
    ∃ n, TyX K H x (.type n) ∧ ∃ b, PySem.W.kitAny K (.type n) (ts.map fun t => .type (tyS t)) = some b ∧ (∀ t, ts = [t] → PySem.W.kitOne K (.type n) (.type (tyS t)) = some b) ∧ Out K F ρ (f b h) Φ E := by
  intro ts β f Φ E hne o
  have ⟨n, ty, hi, hk⟩ : ∃ n, TyX K H x (.type n) ∧ (∀ t, isTy a t h = .ok (tyHas n t) h) ∧ ∀ t, kitB n (tyS t) = some (tyHas n t) := by
    cases ts with
    | nil => exact absurd rfl hne
    | cons t r2 =>
      rcases isTy_same a t h with ⟨b, e⟩ | e
      · exact ty_at R r t e
      · simp only [isTys, bind_at, e, bind_stuck] at o
        exact o.elim
  refine ⟨n, ty, ts.any (tyHas n), ?_, ?_, ?_⟩
  · clear o hne
    induction ts with
    | nil => exact kitAny_nil
    | cons t r2 ih =>
      refine kitAny_cons (kit_ty (hk t)) (fun hb => ?_) fun hb => ?_
      · rw [List.any_cons, hb, Bool.false_or]
        exact ih
      · rw [List.any_cons, hb, Bool.true_or]
  · intro t e
    subst e
    rw [List.any_cons, List.any_nil, Bool.or_false]
    exact kit_ty (hk t)
  · have ev : ∀ ts, isTys a ts h = .ok (ts.any (tyHas n)) h := by
      intro ts
      induction ts with
      | nil => rfl
      | cons t r2 ih =>
        simp only [isTys, bind_at, hi t, bind_ok]
        cases q : tyHas n t
        · simp only [Bool.false_eq_true, if_false, List.any_cons, q, Bool.false_or]
          exact ih
        · simp [List.any_cons, q]
    rw [ev] at o
    exact o
end
/-! ### stores -/
theorem ixn_lt {n : Nat} {i : Int} {j : Nat} (h : ixn n i = some j) : j < n := (L2.ixN_seq h).2.1
section
variable {F : FF} {ρ : List Addr}
theorem any_K {kvs : List (D × D)} {ks : List (Key × V)} (k : Key) (r : RepK F ρ kvs ks) : khas kvs (keyD k) = (ks.any fun p => decide (p.1 = k)) := by
  rw [khas_get, valV_any]
  have := RepK.find k r
  split at this
  · rename_i d e
    obtain ⟨v, ev, _⟩ := this
    rw [ev, e]
    rfl
  · rename_i e
    rw [this, e]
    rfl
theorem any_T {kvs : List (D × D)} {ks : List (List Key × V)} (k : List Key) (r : RepT F ρ kvs ks) : khas kvs (.tup (k.map keyD)) = (ks.any fun p => decide (p.1 = k)) := by
  rw [khas_get, valV_any]
  have := RepT.find k r
  split at this
  · rename_i d e
    obtain ⟨v, ev, _⟩ := this
    rw [ev, e]
    rfl
  · rename_i e
    rw [this, e]
    rfl
theorem RepK.snoc {k : Key} {d : D} {w : V} (rd : Rep F ρ d w) : ∀ {kvs : List (D × D)} {ks : List (Key × V)}, RepK F ρ kvs ks → RepK F ρ (kvs ++ [(keyD k, d)]) (ks ++ [(k, w)])
  | [], _, h => by cases h; exact ⟨k, w, [], rfl, rfl, rd, rfl⟩
  | (a, b) :: r, _, h => by
    obtain ⟨q, w2, s, rfl, rfl, r1, r2⟩ := h
    exact ⟨q, w2, _, rfl, rfl, r1, RepK.snoc rd r2⟩
theorem RepK.repl {k : Key} {d : D} {w : V} (rd : Rep F ρ d w) : ∀ {kvs : List (D × D)} {ks : List (Key × V)}, RepK F ρ kvs ks →
    RepK F ρ (kvs.map fun p => if p.1.keq (keyD k) then (p.1, d) else p) (ks.map fun p => if p.1 = k then (p.1, w) else p)
  | [], _, h => by cases h; rfl
  | (a, b) :: r, _, h => by
    obtain ⟨q, w2, s, rfl, rfl, r1, r2⟩ := h
    rw [List.map_cons, List.map_cons, keq_keyD]
    by_cases e : q = k
    · rw [if_pos (by simpa using e), if_pos e]
      exact ⟨q, w, _, rfl, rfl, rd, RepK.repl rd r2⟩
    · rw [if_neg (by simpa using e), if_neg e]
      exact ⟨q, w2, _, rfl, rfl, r1, RepK.repl rd r2⟩
theorem RepK.put {kvs : List (D × D)} {ks : List (Key × V)} {k : Key} {d : D} {w : V} (r : RepK F ρ kvs ks) (rd : Rep F ρ d w) : RepK F ρ (kput kvs (keyD k) d) (putK ks k w) := by
  unfold kput putK
  rw [any_K k r]
  split
  · exact RepK.repl rd r
  · exact RepK.snoc rd r
theorem RepT.snoc {k : List Key} {d : D} {w : V} (hk : k.length ≤ big) (rd : Rep F ρ d w) : ∀ {kvs : List (D × D)} {ks : List (List Key × V)}, RepT F ρ kvs ks → RepT F ρ (kvs ++ [(.tup (k.map keyD), d)]) (ks ++ [(k, w)])
  | [], _, h => by cases h; exact ⟨k, w, [], rfl, rfl, hk, rd, rfl⟩
  | (a, b) :: r, _, h => by
    obtain ⟨q, w2, s, rfl, rfl, hq, r1, r2⟩ := h
    exact ⟨q, w2, _, rfl, rfl, hq, r1, RepT.snoc hk rd r2⟩
theorem RepT.repl {k : List Key} {d : D} {w : V} (hk : k.length ≤ big) (rd : Rep F ρ d w) : ∀ {kvs : List (D × D)} {ks : List (List Key × V)}, RepT F ρ kvs ks →
    RepT F ρ (kvs.map fun p => if p.1.keq (.tup (k.map keyD)) then (p.1, d) else p) (ks.map fun p => if p.1 = k then (p.1, w) else p)
  | [], _, h => by cases h; rfl
  | (a, b) :: r, _, h => by
    obtain ⟨q, w2, s, rfl, rfl, hq, r1, r2⟩ := h
    rw [List.map_cons, List.map_cons]
    by_cases e : q = k
    · rw [if_pos (by simp [D.keq, keqL_keyD, e]), if_pos e]
      exact ⟨q, w, _, rfl, rfl, hq, rd, RepT.repl hk rd r2⟩
    · rw [if_neg (by simp [D.keq, keqL_keyD, e]), if_neg e]
      exact ⟨q, w2, _, rfl, rfl, hq, r1, RepT.repl hk rd r2⟩
theorem RepT.put {kvs : List (D × D)} {ks : List (List Key × V)} {k : List Key} {d : D} {w : V} (r : RepT F ρ kvs ks) (hk : k.length ≤ big) (rd : Rep F ρ d w) : RepT F ρ (kput kvs (.tup (k.map keyD)) d) (putK ks k w) := by
  unfold kput putK
  rw [any_T k r]
  split
  · exact RepT.repl hk rd r
  · exact RepT.snoc hk rd r
theorem kput_length (kvs : List (D × D)) (k v : D) : (kput kvs k v).length ≤ kvs.length + 1 := by
  unfold kput
  split
  · rw [List.length_map]; omega
  · rw [List.length_append]; exact Nat.le_refl _
end
def rSet (K : PySem.W.Frag) (base : Nat) : TSet := fun o i v H Q => ∃ F ρ h a b c E, Rel K F ρ H h ∧ Rep F ρ a o ∧ Rep F ρ b i ∧ Rep F ρ c v ∧ Out K F ρ (setop base a b c h) (fun _ F' ρ' H' _ => Q H') E
/-- a cell written, told -/
theorem Out.wrote {K : PySem.W.Frag} {F : FF} {ρ : List Addr} {H : Hp} {h : Hh} {l : Nat} {p : Addr} {c : Cell} {u : HO} {Φ : Unit → FF → List Addr → Hp → Hh → Prop} {E : XK} (R : Rel K F ρ H h) (hp : ρ[l]? = some p) (hk : h[l]? ≠ some .lock)
    (x : CellOk K F ρ (upd H p u) p c) (o : Out K F ρ (setCell l c h) Φ E) : Φ () F ρ (upd H p u) (h.set l c) := by
  have hl : l < h.length := by rw [← R.len]; exact (List.getElem?_eq_some_iff.mp hp).1
  unfold setCell at o
  rw [if_pos hl] at o
  exact o F ρ _ (Le.refl F) (Pre.refl ρ) (R.setCell hp hk x)
section
variable {X : Cx}
theorem set_any (hu : X.A.units + 200 < cLine) (base : Nat) : PSet X (rSet X.K base) := by
  intro pins s σ H o i v ov iv u Q I ro ri rv ⟨F, ρ, h, a, b, c, E, R, ra, rb, rc, out⟩
  cases a with
  | ref l =>
    obtain ⟨p, rfl, hp⟩ := ra
    simp only [setop, bind_at, cellAt] at out
    obtain ⟨ce, hc, x'⟩ := R.at' hp
    rw [hc] at out
    simp only [bind_ok] at out
    cases ce with
    | l ds =>
      obtain ⟨vs, h1, h2, h3⟩ := x'
      cases b with
      | int k =>
        simp only at out
        cases e : ixn ds.length k with
        | none => rw [e] at out; exact out.elim
        | some j =>
          rw [e] at out
          simp only [bind_at, opt_some, ret_at, bind_ok] at out
          split at out
          · refine set_list pins s σ H _ i v ov iv u Q I ro ri rv ⟨p, vs, k, j, rfl, rb, h1, by rw [h3.length]; exact e, ?_⟩
            have ok : CellOk X.K F ρ (upd H p (.lst (vs.set j v))) p (.l (ds.set j c)) := ⟨_, upd_same, by rw [List.length_set]; exact h2, h3.set j rc⟩
            exact Out.wrote R hp (by rw [hc]; simp) ok out
          · exact out.elim
      | _ => exact out.elim
    | d t kvs =>
      have out : Out X.K F ρ ((if (keyOk t b && storable base l c && decide (kvs.length < big)) = true then setCell l (.d t (kput kvs b c)) else fail) h) (fun _ F' ρ' H' _ => Q H') E := by
        cases b <;> exact out
      split at out
      · rename_i hs
        simp only [Bool.and_eq_true, decide_eq_true_eq] at hs
        cases ro
        cases t with
        | k =>
          obtain ⟨ks, h1, h2, h3⟩ := x'
          have e := dKey_of (show b.flat = true from hs.1.1)
          rw [e] at rb out
          cases rep_keyD rb
          refine d_setItem (by omega) I (DPut.k h1 (by rw [h3.length, ← big_eq]; exact hs.2)) ri rv fun s' I' => ⟨_, I', ?_⟩
          have ok : CellOk X.K F ρ (upd H p (.dK (putK ks (dKey b) v))) p (.d .k (kput kvs (keyD (dKey b)) c)) := ⟨_, upd_same, Nat.le_trans (kput_length _ _ _) hs.2, h3.put rc⟩
          exact Out.wrote R hp (by rw [hc]; simp) ok out
        | t =>
          obtain ⟨ks, h1, h2, h3⟩ := x'
          cases b with
          | tup xs =>
            obtain ⟨q, ws, rfl, hq, hz, rl⟩ := rb
            have e := flats (show xs.all D.flat = true from hs.1.1)
            rw [e] at rl out
            rw [repL_keyD rl] at hq
            refine d_setItem (by omega) I (DPut.t h1 (R.sub _ _ hq) (by rw [h3.length, ← big_eq]; exact hs.2)) ri rv fun s' I' => ⟨_, I', ?_⟩
            have ok : CellOk X.K F ρ (upd H p (.dT (putK ks (xs.map dKey) v))) p (.d .t (kput kvs (.tup ((xs.map dKey).map keyD)) c)) := ⟨_, upd_same, Nat.le_trans (kput_length _ _ _) hs.2, h3.put (by rw [List.length_map]; exact hz) rc⟩
            exact Out.wrote R hp (by rw [hc]; simp) ok out
          | _ => exact absurd hs.1.1 (by simp [keyOk])
      · exact out.elim
    | _ => cases b <;> exact out.elim
  | _ => exact out.elim
def lmId : Lm → String
  | .append => "list.append"
  | .pop => "list.pop"
  | .popAt => "list.pop"
  | .extend => "list.extend"
  | .index => "list.index"
  | _ => ""
def rM (K : PySem.W.Frag) (base : Nat) (m : Lm) : V → List V → Hp → VK → Prop := fun x xs H Q => ∃ F ρ h a as E, Rel K F ρ H h ∧ Rep F ρ a x ∧ RepL F ρ as xs ∧ Out K F ρ (lmop base m a as h) (fun d F' ρ' H' _ => ∀ v, Rep F' ρ' d v → Q v H') E
theorem mt_any (base : Nat) (m : Lm) : MtR X (lmId m) (rM X.K base m) := by
  intro pins s σ H x xs v us Q I rx rs ⟨F, ρ, h, a, as, E, R, ra, rl, out⟩
  cases a with
  | ref l =>
    obtain ⟨p, rfl, hp⟩ := ra
    simp only [lmop, bind_at, cellAt] at out
    obtain ⟨ce, hc, x'⟩ := R.at' hp
    rw [hc] at out
    simp only [bind_ok] at out
    cases ce with
    | l ds =>
      obtain ⟨vs, h1, h2, h3⟩ := x'
      cases m with
      | append =>
        cases as with
        | nil => exact out.elim
        | cons d r =>
          cases r with
          | cons _ _ => exact out.elim
          | nil =>
            obtain ⟨w, ws, rfl, r1, r2⟩ := rl
            cases r2
            simp only at out
            split at out
            · rename_i hs
              simp only [Bool.and_eq_true, decide_eq_true_eq] at hs
              refine mt_append pins s σ H _ [w] v us Q I rx rs ⟨p, vs, w, rfl, rfl, h1, by rw [h3.length, ← big_eq]; exact hs.2, ?_⟩
              have ok : CellOk X.K F ρ (upd H p (.lst (vs ++ [w]))) p (.l (ds ++ [d])) := ⟨_, upd_same, by rw [List.length_append]; exact hs.2, h3.append (.one r1)⟩
              exact Out.val (R.setCell hp (by rw [hc]; simp) ok) (Out.wrote R hp (by rw [hc]; simp) ok (Out.bind out)) rfl
            · exact out.elim
      | pop =>
        cases as with
        | cons _ _ => exact out.elim
        | nil =>
          cases rl
          simp only at out
          cases e : ds.getLast? with
          | none => rw [e] at out; exact out.elim
          | some y =>
            rw [e] at out
            simp only [bind_at, opt_some, ret_at, bind_ok] at out
            rw [List.getLast?_eq_getElem?] at e
            obtain ⟨w, ew, rw'⟩ := h3.get e
            refine mt_pop pins s σ H _ [] v us Q I rx rs ⟨p, vs, w, rfl, rfl, h1, by rw [h3.length]; exact ew, ?_⟩
            have ok : CellOk X.K F ρ (upd H p (.lst vs.dropLast)) p (.l ds.dropLast) := ⟨_, upd_same, by rw [List.length_dropLast]; omega, h3.dropLast⟩
            exact Out.val (R.setCell hp (by rw [hc]; simp) ok) (Out.wrote R hp (by rw [hc]; simp) ok (Out.bind out)) rw'
      | popAt =>
        cases as with
        | nil => exact out.elim
        | cons d r =>
          cases r with
          | cons _ _ => cases d <;> exact out.elim
          | nil =>
            cases d with
            | int i =>
              obtain ⟨w, ws, rfl, r1, r2⟩ := rl
              cases r2
              cases r1
              simp only at out
              cases e : ixn ds.length i with
              | none => rw [e] at out; exact out.elim
              | some k =>
                rw [e] at out
                simp only [bind_at, opt_some, ret_at, bind_ok] at out
                cases e2 : ds[k]? with
                | none => rw [e2] at out; exact out.elim
                | some y =>
                  rw [e2] at out
                  simp only [bind_at, opt_some, ret_at, bind_ok] at out
                  obtain ⟨w, ew, rw'⟩ := h3.get e2
                  have e3 := L2.ixN_seq e
                  have hb : big < 2 ^ 62 := by decide
                  refine mt_popAt pins s σ H _ _ v us Q I rx rs ⟨p, vs, i, k, w, rfl, rfl, h1, by omega, by omega, by rw [h3.length]; exact e3.1, ew, ?_⟩
                  have ok : CellOk X.K F ρ (upd H p (.lst (vs.eraseIdx k))) p (.l (ds.eraseIdx k)) := ⟨_, upd_same, Nat.le_trans (List.length_eraseIdx_le _ _) h2, h3.eraseIdx k⟩
                  exact Out.val (R.setCell hp (by rw [hc]; simp) ok) (Out.wrote R hp (by rw [hc]; simp) ok (Out.bind out)) rw'
            | _ => exact out.elim
      | _ => cases as <;> exact out.elim
    | _ => cases m <;> exact out.elim
  | _ => exact out.elim
end
end Px

set_option autoImplicit false
set_option linter.all false
set_option maxRecDepth 100000
/-! Expressions of the text, one form after another: what the small language says of them the model does. -/
namespace Px
open PySem L2 PySem.Spec PyProof.Rows
theorem Res.bind_assoc {α β γ : Type} (r : Res α) (f : α → M β) (g : β → M γ) : (r.bind f).bind g = r.bind fun a h => (f a h).bind g := by
  cases r <;> rfl
/-- what a def promises -/
def spI (P : Prog) (K : PySem.W.Frag) (n : Nat) (f : Fid) : Sp := fun vs H Q E => ∃ F ρ h ds base, Rel K F ρ H h ∧ RepL F ρ ds vs ∧ base ≤ h.length ∧ Out K F ρ (run P n f base ds h) (fun d F' ρ' H' _ => ∀ v, Rep F' ρ' d v → Q v H') E
/-- what the module's top has -/
structure Tops (P : Prog) (g : TrG) (prog : Program) (w : World) (K : PySem.W.Frag) (mg : Str → Option Value) (base : Heap) (n : Nat) : Prop where
  fns : ∀ x m, g.fns.lookup x = some m → ∃ f fd ps, FnOk prog w K mg base (L2.CX prog w) (n + 1) f fd ps (spI P K n (x, none)) ∧ mg x = some (.ref f) ∧ PySem.W.keepIn K (.ref f) = true ∧ Binds K fd ps []
  free : ∀ x, g.free.contains x = true → mg x = none
  consts : ∀ x d, P.consts.lookup x = some d → ∃ v u, mg x = some u ∧ RelV v u ∧ ∀ F ρ, Rep F ρ d v
  tcs : ∀ x, g.tcs.contains x = true → ∃ ds a vs, P.tcs.lookup x = some ds ∧ mg x = some (.ref a) ∧ (∀ H, SqT K H a vs) ∧ ∀ F ρ, RepL F ρ ds vs
/-- a place in the text, and what runs there -/
structure XOk (P : Prog) (g : TrG) (N : List Str) (n : Nat) (W : WX) (sc : Scope) (X : Cx) : Prop where
  calm : X.calm = true
  names : X.N = N
  nd : N.Nodup
  tk : Takes X W
  rm : Room (n + 1) X.A
  tops : Tops P g X.prog X.w X.K X.mg X.base n
  like : ∀ x k, sc.names.lookup x = some k → ∃ k', X.env.scope.names.lookup x = some k' ∧ (k' = k ∨ (k = .free ∧ k' = .cell))
  st : ∀ x, loc sc x = true → X.fn x = true ∨ X.env.scope.names.lookup x = some .local
section
variable {P : Prog} {g : TrG} {N : List Str} {n : Nat} {W : WX} {sc : Scope} {X : Cx}
theorem XOk.vis (o : XOk P g N n W sc X) {x : Str} (h : Px.vis sc x = true) : Vis X.env.scope x := by
  unfold Px.vis at h
  split at h
  · rename_i e
    obtain ⟨k', e', r⟩ := o.like x _ e
    rcases r with rfl | ⟨z, _⟩
    · exact .inl e'
    · cases z
  · rename_i e
    obtain ⟨k', e', r⟩ := o.like x _ e
    rcases r with rfl | ⟨z, _⟩
    · exact .inr (.inl e')
    · cases z
  · rename_i e
    obtain ⟨k', e', r⟩ := o.like x _ e
    rcases r with rfl | ⟨_, rfl⟩
    · exact .inr (.inr e')
    · exact .inr (.inl e')
  · cases h
theorem XOk.loc (o : XOk P g N n W sc X) {x : Str} (h : Px.loc sc x = true) : Loc X.env.scope x := by
  unfold Px.loc at h
  split at h
  · rename_i e
    obtain ⟨k', e', r⟩ := o.like x _ e
    rcases r with rfl | ⟨z, _⟩
    · exact .inl e'
    · cases z
  · rename_i e
    obtain ⟨k', e', r⟩ := o.like x _ e
    rcases r with rfl | ⟨z, _⟩
    · exact .inr e'
    · cases z
  · cases h
theorem XOk.glb (o : XOk P g N n W sc X) {x : Str} (h : Px.glb sc x = true) : Gl X x := by
  unfold Px.glb at h
  split at h
  · rename_i e
    obtain ⟨k', e', r⟩ := o.like x _ e
    rcases r with rfl | ⟨z, _⟩
    · exact e'
    · cases z
  · cases h
theorem XOk.hu (o : XOk P g N n W sc X) : X.A.units + 200 < cLine := by
  have := o.rm.un
  omega
theorem slotOf_get : ∀ {N : List Str} {x : Str} {i : Nat}, slotOf N x = some i → N[i]? = some x
  | [], _, _, h => by cases h
  | y :: r, x, i, h => by
    unfold slotOf at h
    split at h
    · rename_i e
      simp only [Option.some.injEq] at h
      subst h e
      rfl
    · cases q : slotOf r x with
      | none => rw [q] at h; cases h
      | some j =>
        rw [q] at h
        simp only [Option.map_some, Option.some.injEq] at h
        subst h
        exact slotOf_get (N := r) q
theorem XOk.slot (o : XOk P g N n W sc X) {x : Str} {i : Nat} (h : slotOf N x = some i) : X.N[i]? = some x := by
  rw [o.names]
  exact slotOf_get h
end
theorem odd_no {x : Str} (h : odd x = false) : (x == ("__debug__" : Str)) = false ∧ (x == ("__classdict__" : Str)) = false := by
  unfold odd at h
  exact Bool.or_eq_false_iff.mp h
theorem trL_nil {α β : Type} {f : α → Option β} {ys : List β} (h : trL f [] = some ys) : ys = [] := by
  simp only [trL, Option.some.injEq] at h
  exact h.symm
theorem trL_cons {α β : Type} {f : α → Option β} {x : α} {r : List α} {ys : List β} (h : trL f (x :: r) = some ys) : ∃ y s, ys = y :: s ∧ f x = some y ∧ trL f r = some s := by
  simp only [trL] at h
  split at h
  · rename_i y s h1 h2
    simp only [Option.some.injEq] at h
    exact ⟨y, s, h.symm, h1, h2⟩
  · cases h
section
variable {X : Cx} {W : WX} {base : Nat} {c : Cxt} (hc : ∀ f base args, Sane base (c.call f base args))
abbrev eX (c : Cxt) (base : Nat) (ex : Ex) : Env → M D := fun env => evE c base env ex
abbrev eT (c : Cxt) (base : Nat) (ex : Ex) : Env → M Bool := fun env => bind (evE c base env ex) truthy
abbrev eXs (c : Cxt) (base : Nat) (es : List Ex) : Env → M (List D) := fun env => evEs c base env es
theorem grow {base : Nat} {α : Type} {m : M α} (s : Sane base m) {h h' : Hh} {a : α} (hl : base ≤ h.length) (e : m h = .ok a h') : base ≤ h'.length := by
  have q := s h
  rw [e] at q
  exact Nat.le_trans hl (q hl).1
theorem s_lit {k : Const} {j : Nat} {pos : Pos} {d : D} (e : litOf k = some d) : PE X (.Constant k j pos) (tE X.K base W (eX c base (.lit d))) := by
  have key : ∀ {v : V}, PE X (.Constant k j pos) (tC v) → (∀ F ρ, Rep F ρ d v) → PE X (.Constant k j pos) (tE X.K base W (eX c base (.lit d))) := fun {v} h r =>
    h.weak fun σ H Q ⟨F, ρ, h', env, R, re, hl, o⟩ => Out.val R o (r F ρ)
  cases k with
  | none => cases e; exact key pe_non fun _ _ => rfl
  | bool b => cases e; exact key pe_bl fun _ _ => rfl
  | int i => cases e; exact key pe_int fun _ _ => rfl
  | str x => cases e; exact key pe_str fun _ _ => rfl
  | _ => cases e
theorem s_var {x : Str} {i : Nat} {pos : Pos} (hN : X.N[i]? = some x) (hv : Vis X.env.scope x) (ho : odd x = false) : PE X (.Name x pos) (tE X.K base W (eX c base (.var i))) :=
  (pe_var hN hv (odd_no ho).1 (odd_no ho).2).weak fun σ H Q ⟨F, ρ, h, env, R, re, hl, o⟩ => by
    have o : Out X.K F ρ (getVar env i h) (fun d F' ρ' H' _ => ∀ v, Rep F' ρ' d v → Q v H') (WE W σ) := o
    unfold getVar at o
    cases e : env[i]? with
    | none => rw [e] at o; exact o.elim
    | some od =>
      rw [e] at o
      cases od with
      | none => exact o.elim
      | some d =>
        obtain ⟨v, e2, r⟩ := re.2 i d e
        exact ⟨v, e2, Out.val R o r⟩
theorem s_glob {x : Str} {pos : Pos} (hg : Gl X x) (ho : odd x = false) (hk : ∀ d, c.consts.lookup x = some d → ∃ v u, X.mg x = some u ∧ RelV v u ∧ ∀ F ρ, Rep F ρ d v) : PE X (.Name x pos) (tE X.K base W (eX c base (.glob x))) := by
  cases e : c.consts.lookup x with
  | none => exact ⟨fun pins s σ H Q I ⟨F, ρ, h, env, R, re, hl, o⟩ => by
      simp only [eX, evE, e] at o
      exact o.elim⟩
  | some d =>
    obtain ⟨v, u, hm, r, rep⟩ := hk d e
    refine (pe_glob hg hm r (odd_no ho).1).weak fun σ H Q ⟨F, ρ, h, env, R, re, hl, o⟩ => ?_
    simp only [eX, evE, e] at o
    exact Out.val R o (rep F ρ)
include hc
theorem s_bin {a b : Expr} {a' b' : Ex} {op : PySem.Operator} {o : Bop} {pos : Pos} (eo : bopOf op = some o) (ha : PE X a (tE X.K base W (eX c base a'))) (hb : PE X b (tE X.K base W (eX c base b'))) :
    PE X (.BinOp a op b pos) (tE X.K base W (eX c base (.bin o a' b'))) := by
  rw [← bopOf_eq eo]
  refine (pe_op (op_bin o) ha hb).weak fun σ H Q ⟨F, ρ, h, env, R, re, hl, out⟩ => ?_
  simp only [eX, evE, bind_at] at out
  refine ⟨F, ρ, h, env, R, re, hl, out.bind.imp fun x h1 F1 ρ1 H1 e1 l1 p1 R1 o1 v rv => ?_⟩
  refine ⟨F1, ρ1, h1, env, R1, re.mono l1 p1, grow (sane_evE hc base env a') hl e1, o1.bind.imp fun y h2 F2 ρ2 H2 e2 l2 p2 R2 o2 w rw' => ?_⟩
  exact ⟨F2, ρ2, h2, x, y, _, R2, Rep.mono l2 p2 _ _ rv, rw', o2⟩
theorem s_cmp {a b : Expr} {a' b' : Ex} {op : PySem.CmpOp} {pos : Pos} (hu : X.A.units + 200 < cLine) (hm : behindInMarks op b = false) (ha : PE X a (tE X.K base W (eX c base a'))) (hb : PE X b (tE X.K base W (eX c base b'))) :
    PE X (.Compare a [op] [b] pos) (tE X.K base W (eX c base (.cmp (copOf op) a' b'))) ∧ PT X (.Compare a [op] [b] pos) (tTst X.K base W (eT c base (.cmp (copOf op) a' b'))) := by
  have oo := op_cmp (X := X) hu (copOf op)
  rw [copOf_eq] at oo
  refine ⟨(pe_cmpR oo ha hb hm).weak fun σ H Q ⟨F, ρ, h, env, R, re, hl, out⟩ => ?_, (pt_cmpR oo ha hb hm).weak fun σ H Q ⟨F, ρ, h, env, R, re, hl, out⟩ => ?_⟩
  · simp only [eX, evE, bind_at] at out
    refine ⟨F, ρ, h, env, R, re, hl, out.bind.imp fun x h1 F1 ρ1 H1 e1 l1 p1 R1 o1 v rv => ?_⟩
    refine ⟨F1, ρ1, h1, env, R1, re.mono l1 p1, grow (sane_evE hc base env a') hl e1, o1.bind.imp fun y h2 F2 ρ2 H2 e2 l2 p2 R2 o2 w rw' => ?_⟩
    exact ⟨F2, ρ2, h2, x, y, _, R2, Rep.mono l2 p2 _ _ rv, rw', o2⟩
  · simp only [eT, evE, bind_at, Res.bind_assoc] at out
    refine ⟨F, ρ, h, env, R, re, hl, out.bind.imp fun x h1 F1 ρ1 H1 e1 l1 p1 R1 o1 v rv => ?_⟩
    refine ⟨F1, ρ1, h1, env, R1, re.mono l1 p1, grow (sane_evE hc base env a') hl e1, o1.bind.imp fun y h2 F2 ρ2 H2 e2 l2 p2 R2 o2 w rw' => ?_⟩
    refine ⟨F2, ρ2, h2, x, y, WE W σ, R2, Rep.mono l2 p2 _ _ rv, rw', ?_⟩
    simp only [bind_at, Res.bind_assoc, ret_at, bind_ok, truthy] at o2
    show Out X.K F2 ρ2 ((cmpop (copOf op) x y h2).bind fun r => ret (D.bl r)) _ _
    cases e3 : cmpop (copOf op) x y h2 with
    | ok r h3 =>
      rw [e3] at o2
      exact fun F3 ρ3 H3 l3 p3 R3 v hv => ⟨r, hv, o2 F3 ρ3 H3 l3 p3 R3⟩
    | exc z h3 => rw [e3] at o2; exact o2
    | stuck => rw [e3] at o2; exact o2
theorem s_chain {a b d : Expr} {a' b' d' : Ex} {oa ob : PySem.CmpOp} {pos : Pos} (hu : X.A.units + 200 < cLine) (hm : lastMarks [oa, ob] [b, d] = false) (ha : PE X a (tE X.K base W (eX c base a'))) (hb : PE X b (tE X.K base W (eX c base b')))
    (hd : PE X d (tE X.K base W (eX c base d'))) :
    PE X (.Compare a [oa, ob] [b, d] pos) (tE X.K base W (eX c base (.chain (copOf oa) (copOf ob) a' b' d'))) ∧ PT X (.Compare a [oa, ob] [b, d] pos) (tTst X.K base W (eT c base (.chain (copOf oa) (copOf ob) a' b' d'))) := by
  have q1 := op_cmp (X := X) hu (copOf oa)
  have q2 := op_cmp (X := X) hu (copOf ob)
  rw [copOf_eq] at q1 q2
  have key : ∀ {σ : L2.St} {H : Hp} {Q : VK}, tE X.K base W (eX c base (.chain (copOf oa) (copOf ob) a' b' d')) σ H Q → tChain (r2 X.K (cmpV (copOf oa))) (r2 X.K (cmpV (copOf ob))) (tE X.K base W (eX c base a')) (tE X.K base W (eX c base b')) (tE X.K base W (eX c base d')) σ H Q := by
    intro σ H Q ⟨F, ρ, h, env, R, re, hl, out⟩
    simp only [eX, evE, bind_at] at out
    refine ⟨F, ρ, h, env, R, re, hl, out.bind.imp fun x h1 F1 ρ1 H1 e1 l1 p1 R1 o1 v rv => ?_⟩
    have hl1 := grow (sane_evE hc base env a') hl e1
    refine ⟨F1, ρ1, h1, env, R1, re.mono l1 p1, hl1, o1.bind.imp fun y h2 F2 ρ2 H2 e2 l2 p2 R2 o2 w rw' => ?_⟩
    have hl2 := grow (sane_evE hc base env b') hl1 e2
    refine ⟨F2, ρ2, h2, x, y, WE W σ, R2, Rep.mono l2 p2 _ _ rv, rw', ?_⟩
    simp only [bind_at] at o2
    show Out X.K F2 ρ2 ((cmpop (copOf oa) x y h2).bind fun r => ret (D.bl r)) _ _
    cases e3 : cmpop (copOf oa) x y h2 with
    | ok r h3 =>
      rw [e3] at o2
      simp only [bind_ok] at o2
      have hh : h3 = h2 := by
        have := still_cmpop (copOf oa) x y h2
        rw [e3] at this
        exact this
      subst hh
      intro F3 ρ3 H3 l3 p3 R3 v hv
      cases hv
      refine ⟨r, rfl, ?_⟩
      cases r with
      | false =>
        simp only [Bool.false_eq_true, if_false] at o2 ⊢
        exact Out.val R3 (o2.ext l3 p3) rfl
      | true =>
        simp only [if_true, bind_at] at o2 ⊢
        refine ⟨F3, ρ3, h3, env, R3, ((re.mono l1 p1).mono l2 p2).mono l3 p3, hl2, (o2.ext l3 p3).bind.imp fun z h4 F4 ρ4 H4 e4 l4 p4 R4 o4 u ru => ?_⟩
        exact ⟨F4, ρ4, h4, y, z, _, R4, Rep.mono l4 p4 _ _ (Rep.mono l3 p3 _ _ rw'), ru, o4⟩
    | exc z h3 => rw [e3] at o2; exact o2
    | stuck => rw [e3] at o2; exact o2
  refine ⟨(pe_chain q1 q2 ha hb hd hm).weak fun σ H Q t => key t, (pt_chain q1 q2 ha hb hd hm).weak fun σ H Q ⟨F, ρ, h, env, R, re, hl, out⟩ => key ⟨F, ρ, h, env, R, re, hl, ?_⟩⟩
  -- the value is a bool
  have bl : ∀ (hh : Hh), (∃ b h', evE c base env (.chain (copOf oa) (copOf ob) a' b' d') hh = .ok (.bl b) h') ∨ ∀ z h', evE c base env (.chain (copOf oa) (copOf ob) a' b' d') hh ≠ .ok z h' := by
    intro hh
    simp only [evE, bind_at]
    cases evE c base env a' hh with
    | ok x h1 =>
      simp only [bind_ok, bind_at]
      cases evE c base env b' h1 with
      | ok y h2 =>
        simp only [bind_ok, bind_at]
        cases cmpop (copOf oa) x y h2 with
        | ok r h3 =>
          simp only [bind_ok]
          cases r with
          | false => exact .inl ⟨_, _, rfl⟩
          | true =>
            simp only [if_true, bind_at]
            cases evE c base env d' h3 with
            | ok z h4 =>
              simp only [bind_ok, bind_at]
              cases cmpop (copOf ob) y z h4 with
              | ok r2 h5 => exact .inl ⟨_, _, rfl⟩
              | exc _ _ => exact .inr fun _ _ q => by cases q
              | stuck => exact .inr fun _ _ q => by cases q
            | exc _ _ => exact .inr fun _ _ q => by cases q
            | stuck => exact .inr fun _ _ q => by cases q
        | exc _ _ => exact .inr fun _ _ q => by cases q
        | stuck => exact .inr fun _ _ q => by cases q
      | exc _ _ => exact .inr fun _ _ q => by cases q
      | stuck => exact .inr fun _ _ q => by cases q
    | exc _ _ => exact .inr fun _ _ q => by cases q
    | stuck => exact .inr fun _ _ q => by cases q
  simp only [eT, bind_at] at out
  rcases bl h with ⟨b, h', e⟩ | e
  · simp only [eX]
    rw [e] at out ⊢
    simp only [bind_ok, truthy, ret_at] at out
    exact fun F3 ρ3 H3 l3 p3 R3 v hv => ⟨b, hv, out F3 ρ3 H3 l3 p3 R3⟩
  · simp only [eX]
    cases e2 : evE c base env (.chain (copOf oa) (copOf ob) a' b' d') h with
    | ok z h' => exact absurd e2 (e z h')
    | exc z h' => rw [e2] at out; exact out
    | stuck => rw [e2] at out; exact out
omit hc in
theorem truthy_noexc (d : D) (h : Hh) (z : Exn) (h' : Hh) : truthy d h ≠ .exc z h' := by
  intro q
  cases d with
  | ref l =>
    have q : (cellAt l h).bind _ = _ := q
    cases e : h[l]? with
    | none => rw [cellAt_none e] at q; cases q
    | some ce =>
      rw [cellAt_some e] at q
      cases ce <;> cases q
  | _ => cases q
/-- a value as a test -/
theorem s_test {a : Expr} {a' : Ex} (ha : PE X a (tE X.K base W (eX c base a'))) (he : ∀ whole, isTrue a X.env whole = (do let v ← whole; standAt a.pos; holding [v] (PySem.truthy v))) : PT X a (tTst X.K base W (eT c base a')) := by
  refine (pt_truth ha he).weak fun σ H Q ⟨F, ρ, h, env, R, re, hl, out⟩ => ?_
  simp only [eT, bind_at] at out
  refine ⟨F, ρ, h, env, R, re, hl, out.bind.imp fun x h1 F1 ρ1 H1 e1 l1 p1 R1 o1 v rv => ?_⟩
  cases e3 : truthy x h1 with
  | ok k h2 =>
    have hh : h2 = h1 := by
      have := still_truthy x h1
      rw [e3] at this
      exact this
    subst hh
    rw [e3] at o1
    obtain ⟨k2, t, o2⟩ := tru_at (f := fun b => ret b) R1 rv (by rw [e3]; exact o1)
    exact ⟨k2, t, Out.here o2 R1⟩
  | exc z h2 => exact absurd e3 (truthy_noexc x h1 z h2)
  | stuck => rw [e3] at o1; exact o1.elim
theorem s_not {a : Expr} {a' : Ex} {pos : Pos} (ha : PE X a (tE X.K base W (eX c base a'))) (ht : PT X a (tTst X.K base W (eT c base a'))) :
    PE X (.UnaryOp .Not a pos) (tE X.K base W (eX c base (.not a'))) ∧ PT X (.UnaryOp .Not a pos) (tTst X.K base W (eT c base (.not a'))) := by
  refine ⟨(pe_notT ha).weak fun σ H Q ⟨F, ρ, h, env, R, re, hl, out⟩ => ?_, (pt_not ht).weak fun σ H Q ⟨F, ρ, h, env, R, re, hl, out⟩ => ?_⟩
  · simp only [eX, evE, bind_at] at out
    refine ⟨F, ρ, h, env, R, re, hl, out.bind.imp fun x h1 F1 ρ1 H1 e1 l1 p1 R1 o1 v rv => ?_⟩
    simp only [bind_at] at o1
    obtain ⟨k, t, o2⟩ := tru_at R1 rv o1
    exact ⟨k, t, Out.val R1 o2 rfl⟩
  · have t : eT c base (.not a') env h = ((evE c base env a' h).bind truthy).bind (fun k h => .ok (!k) h) := by
      show ((evE c base env (.not a') h).bind truthy) = _
      rw [evE]
      show (((evE c base env a' h).bind fun x => bind (truthy x) fun b => ret (.bl (!b))).bind truthy) = _
      rw [Res.bind_assoc, Res.bind_assoc]
      refine congrArg _ (funext fun x => funext fun h1 => ?_)
      show ((truthy x h1).bind fun b => ret (.bl (!b))).bind truthy = _
      rw [Res.bind_assoc]
      rfl
    rw [t] at out
    refine ⟨F, ρ, h, env, R, re, hl, out.bind.imp fun k h1 F1 ρ1 H1 e1 l1 p1 R1 o1 => ?_⟩
    exact Out.here o1 R1
theorem s_neg {a : Expr} {a' : Ex} {pos : Pos} (ha : PE X a (tE X.K base W (eX c base a'))) : PE X (.UnaryOp .USub a pos) (tE X.K base W (eX c base (.neg a'))) := by
  refine (pe_un un_neg ha).weak fun σ H Q ⟨F, ρ, h, env, R, re, hl, out⟩ => ?_
  simp only [eX, evE, bind_at] at out
  refine ⟨F, ρ, h, env, R, re, hl, out.bind.imp fun x h1 F1 ρ1 H1 e1 l1 p1 R1 o1 v rv => ?_⟩
  cases x with
  | int i => exact ⟨i, rv, Out.val R1 o1 rfl⟩
  | _ => exact o1.elim
theorem pw_of {op : PySem.BoolOp} {vs : List Expr} {pos : Pos} {t : TT} (h : PT X (.BoolOp op vs pos) t) : PW X (.BoolOp op vs pos) t := ⟨fun whole pins s σ H Q I q => h.run pins s σ H Q I q⟩
theorem s_and {a b : Expr} {rest : List Expr} {a' b' : Ex} {pos : Pos} (ha : PE X a (tE X.K base W (eX c base a'))) (hat : PT X a (tTst X.K base W (eT c base a')))
    (hb : PE X (.BoolOp .And (b :: rest) pos) (tE X.K base W (eX c base b'))) (hbt : PT X (.BoolOp .And (b :: rest) pos) (tTst X.K base W (eT c base b'))) :
    PE X (.BoolOp .And (a :: b :: rest) pos) (tE X.K base W (eX c base (.and a' b'))) ∧ PT X (.BoolOp .And (a :: b :: rest) pos) (tTst X.K base W (eT c base (.and a' b'))) := by
  refine ⟨(pe_andT ha hb).weak fun σ H Q ⟨F, ρ, h, env, R, re, hl, out⟩ => ?_, (pw_and hat (pw_of hc hbt)).pt.weak fun σ H Q ⟨F, ρ, h, env, R, re, hl, out⟩ => ?_⟩
  · simp only [eX, evE, bind_at] at out
    refine ⟨F, ρ, h, env, R, re, hl, out.bind.imp fun x h1 F1 ρ1 H1 e1 l1 p1 R1 o1 v rv => ?_⟩
    simp only [bind_at] at o1
    obtain ⟨k, t, o2⟩ := tru_at R1 rv o1
    refine ⟨k, t, ?_⟩
    cases k with
    | true => exact ⟨F1, ρ1, h1, env, R1, re.mono l1 p1, grow (sane_evE hc base env a') hl e1, o2⟩
    | false => exact Out.val R1 o2 rv
  · simp only [eT, evE, bind_at, Res.bind_assoc] at out
    refine ⟨F, ρ, h, env, R, re, hl, ?_⟩
    simp only [eT, bind_at]
    have out2 : Out X.K F ρ (((evE c base env a' h).bind truthy).bind fun t => if t then bind (evE c base env b') truthy else ret false) (fun b F' ρ' H' _ => Q b H') (WE W σ) := by
      rw [Res.bind_assoc]
      cases e : evE c base env a' h with
      | ok x h1 =>
        rw [e] at out
        simp only [bind_ok] at out ⊢
        cases e2 : truthy x h1 with
        | ok k h2 =>
          rw [e2] at out
          simp only [bind_ok] at out ⊢
          cases k with
          | true => exact out
          | false =>
            simp only [Bool.false_eq_true, if_false] at out ⊢
            have hh : h2 = h1 := by
              have := still_truthy x h1
              rw [e2] at this
              exact this
            subst hh
            simp only [ret_at, bind_ok, e2] at out
            exact out
        | exc z h2 => rw [e2] at out; exact out
        | stuck => rw [e2] at out; exact out
      | exc z h1 => rw [e] at out; exact out
      | stuck => rw [e] at out; exact out
    refine out2.bind.imp fun k h1 F1 ρ1 H1 e1 l1 p1 R1 o1 => ?_
    cases k with
    | true => exact ⟨F1, ρ1, h1, env, R1, re.mono l1 p1, grow (sane_bind (sane_evE hc base env a') fun x => (still_truthy x).sane) hl e1, o1⟩
    | false => exact Out.here o1 R1
theorem s_or {a b : Expr} {rest : List Expr} {a' b' : Ex} {pos : Pos} (ha : PE X a (tE X.K base W (eX c base a'))) (hat : PT X a (tTst X.K base W (eT c base a')))
    (hb : PE X (.BoolOp .Or (b :: rest) pos) (tE X.K base W (eX c base b'))) (hbt : PT X (.BoolOp .Or (b :: rest) pos) (tTst X.K base W (eT c base b'))) :
    PE X (.BoolOp .Or (a :: b :: rest) pos) (tE X.K base W (eX c base (.or a' b'))) ∧ PT X (.BoolOp .Or (a :: b :: rest) pos) (tTst X.K base W (eT c base (.or a' b'))) := by
  refine ⟨(pe_orT ha hb).weak fun σ H Q ⟨F, ρ, h, env, R, re, hl, out⟩ => ?_, (pw_or hat (pw_of hc hbt)).pt.weak fun σ H Q ⟨F, ρ, h, env, R, re, hl, out⟩ => ?_⟩
  · simp only [eX, evE, bind_at] at out
    refine ⟨F, ρ, h, env, R, re, hl, out.bind.imp fun x h1 F1 ρ1 H1 e1 l1 p1 R1 o1 v rv => ?_⟩
    simp only [bind_at] at o1
    obtain ⟨k, t, o2⟩ := tru_at R1 rv o1
    refine ⟨k, t, ?_⟩
    cases k with
    | false => exact ⟨F1, ρ1, h1, env, R1, re.mono l1 p1, grow (sane_evE hc base env a') hl e1, o2⟩
    | true => exact Out.val R1 o2 rv
  · simp only [eT, evE, bind_at, Res.bind_assoc] at out
    refine ⟨F, ρ, h, env, R, re, hl, ?_⟩
    simp only [eT, bind_at]
    have out2 : Out X.K F ρ (((evE c base env a' h).bind truthy).bind fun t => if t then ret true else bind (evE c base env b') truthy) (fun b F' ρ' H' _ => Q b H') (WE W σ) := by
      rw [Res.bind_assoc]
      cases e : evE c base env a' h with
      | ok x h1 =>
        rw [e] at out
        simp only [bind_ok] at out ⊢
        cases e2 : truthy x h1 with
        | ok k h2 =>
          rw [e2] at out
          simp only [bind_ok] at out ⊢
          cases k with
          | false => exact out
          | true =>
            simp only [if_true] at out ⊢
            have hh : h2 = h1 := by
              have := still_truthy x h1
              rw [e2] at this
              exact this
            subst hh
            simp only [ret_at, bind_ok, e2] at out
            exact out
        | exc z h2 => rw [e2] at out; exact out
        | stuck => rw [e2] at out; exact out
      | exc z h1 => rw [e] at out; exact out
      | stuck => rw [e] at out; exact out
    refine out2.bind.imp fun k h1 F1 ρ1 H1 e1 l1 p1 R1 o1 => ?_
    cases k with
    | false => exact ⟨F1, ρ1, h1, env, R1, re.mono l1 p1, grow (sane_bind (sane_evE hc base env a') fun x => (still_truthy x).sane) hl e1, o1⟩
    | true => exact Out.here o1 R1
end
end Px

set_option autoImplicit false
set_option linter.all false
set_option maxRecDepth 100000
/-! Expressions of the text, one form after another (2): arguments, calls, subscripts. -/
namespace Px
open PySem L2 PySem.Spec PyProof.Rows
/-- no starred expression -/
def ns : Expr → Bool
  | .Starred .. => false
  | _ => true
theorem star_cons {e : Expr} {es : List Expr} {env : PySem.Env} (h : ns e = true) : starEach (e :: es) env = (false, eval e env) :: starEach es env := by
  cases e <;> first | rfl | cases h
theorem star_plain {pos : Pos} {env : PySem.Env} : ∀ {es : List Expr}, es.all ns = true → (backTo pos (starEach es env)).any (·.1) = false
  | [], _ => rfl
  | e :: es, h => by
    rw [List.all_cons, Bool.and_eq_true] at h
    rw [star_cons h.1]
    show (false || (backTo pos (starEach es env)).any (·.1)) = false
    rw [star_plain h.2]
    rfl
theorem plainIx {b : Expr} (h : ∀ lo hi p, b ≠ .Slice lo hi none p) : PlainIx b := by
  intro o i
  cases b with
  | Slice lo hi st p => cases st with
    | none => exact absurd rfl (h lo hi p)
    | some _ => rfl
  | _ => rfl
section
variable {X : Cx}
theorem pt_ifExp {c a b : Expr} {tA ta tb : TT} {pos : Pos} (hc : PT X c tA) (ha : PT X a ta) (hb : PT X b tb) : PT X (.IfExp c a b pos) (fun σ H Q => tA σ H fun k H1 => if k = true then ta σ H1 Q else tb σ H1 Q) := by
  refine ⟨fun pins s σ H Q I h => ?_⟩
  show wpAny _ _ (do if ← isTrue c X.env (eval c X.env) then isTrue a X.env (eval a X.env) else isTrue b X.env (eval b X.env)) _ _ s
  refine wpAny_bind (thn (hc.run pins s σ H _ I h) fun d s1 ⟨H1, I1, q1⟩ => ?_)
  cases d with
  | true => exact ha.run pins s1 σ H1 Q I1 q1
  | false => exact hb.run pins s1 σ H1 Q I1 q1
end
section
variable {X : Cx} {W : WX} {base : Nat} {c : Cxt} (hc : ∀ f base args, Sane base (c.call f base args))
include hc
theorem s_ite {t a b : Expr} {t' a' b' : Ex} {pos : Pos} (ht : PT X t (tTst X.K base W (eT c base t'))) (ha : PE X a (tE X.K base W (eX c base a'))) (hb : PE X b (tE X.K base W (eX c base b')))
    (hat : PT X a (tTst X.K base W (eT c base a'))) (hbt : PT X b (tTst X.K base W (eT c base b'))) :
    PE X (.IfExp t a b pos) (tE X.K base W (eX c base (.ite t' a' b'))) ∧ PT X (.IfExp t a b pos) (tTst X.K base W (eT c base (.ite t' a' b'))) := by
  refine ⟨(pe_ifExp ht ha hb).weak fun σ H Q ⟨F, ρ, h, env, R, re, hl, out⟩ => ?_, (pt_ifExp ht hat hbt).weak fun σ H Q ⟨F, ρ, h, env, R, re, hl, out⟩ => ?_⟩
  · have e : eX c base (.ite t' a' b') env h = ((eT c base t') env h).bind fun r => if r then evE c base env a' else evE c base env b' := by
      simp only [eX, eT, evE, bind_at, Res.bind_assoc]
      rfl
    rw [e] at out
    refine ⟨F, ρ, h, env, R, re, hl, out.bind.imp fun k h1 F1 ρ1 H1 e1 l1 p1 R1 o1 => ?_⟩
    have hl1 := grow (sane_bind (sane_evE hc base env t') fun x => (still_truthy x).sane) hl e1
    cases k with
    | true => exact ⟨F1, ρ1, h1, env, R1, re.mono l1 p1, hl1, o1⟩
    | false => exact ⟨F1, ρ1, h1, env, R1, re.mono l1 p1, hl1, o1⟩
  · have e : eT c base (.ite t' a' b') env h = ((eT c base t') env h).bind fun r => if r then eT c base a' env else eT c base b' env := by
      simp only [eX, eT, evE, bind_at, Res.bind_assoc]
      refine congrArg _ (funext fun x => funext fun h1 => ?_)
      refine congrArg _ (funext fun r => funext fun h2 => ?_)
      cases r <;> rfl
    rw [e] at out
    refine ⟨F, ρ, h, env, R, re, hl, out.bind.imp fun k h1 F1 ρ1 H1 e1 l1 p1 R1 o1 => ?_⟩
    have hl1 := grow (sane_bind (sane_evE hc base env t') fun x => (still_truthy x).sane) hl e1
    cases k with
    | true => exact ⟨F1, ρ1, h1, env, R1, re.mono l1 p1, hl1, o1⟩
    | false => exact ⟨F1, ρ1, h1, env, R1, re.mono l1 p1, hl1, o1⟩
/-- arguments, from the left -/
theorem s_nil : PA X [] (tAs X.K base W (eXs c base [])) :=
  pa_nil.weak fun σ H Q ⟨F, ρ, h, env, R, re, hl, out⟩ => by
    simp only [eXs, evEs] at out
    exact Out.here out R [] rfl
theorem s_cons {a : Expr} {as : List Expr} {a' : Ex} {as' : List Ex} (hn : ns a = true) (ha : PE X a (tE X.K base W (eX c base a'))) (hr : PA X as (tAs X.K base W (eXs c base as'))) : PA X (a :: as) (tAs X.K base W (eXs c base (a' :: as'))) := by
  refine (pa_cons ha hr (star_cons hn)).weak fun σ H Q ⟨F, ρ, h, env, R, re, hl, out⟩ => ?_
  simp only [eXs, evEs, bind_at] at out
  refine ⟨F, ρ, h, env, R, re, hl, out.bind.imp fun x h1 F1 ρ1 H1 e1 l1 p1 R1 o1 v rv => ?_⟩
  refine ⟨F1, ρ1, h1, env, R1, re.mono l1 p1, grow (sane_evE hc base env a') hl e1, o1.bind.imp fun xs h2 F2 ρ2 H2 e2 l2 p2 R2 o2 vs rvs => ?_⟩
  exact Out.here o2 R2 _ (.cons (Rep.mono l2 p2 _ _ rv) rvs)
theorem s_tup {es : List Expr} {es' : List Ex} {x1} {pos : Pos} (h : PA X es (tAs X.K base W (eXs c base es'))) : PE X (.Tuple es x1 pos) (tE X.K base W (eX c base (.tup es'))) := by
  refine (pe_tup h).weak fun σ H Q ⟨F, ρ, h, env, R, re, hl, out⟩ => ?_
  simp only [eX, evE, bind_at] at out
  refine ⟨F, ρ, h, env, R, re, hl, out.bind.imp fun xs h1 F1 ρ1 H1 e1 l1 p1 R1 o1 vs rvs => ?_⟩
  simp only [short, bind_at] at o1
  split at o1
  · rename_i hs
    exact ⟨by rw [rvs.length, ← big_eq]; exact hs, fun p hp => Out.newT R1 o1 rvs hs hp⟩
  · exact o1.elim
/-- what an args' call does -/
theorem as_rn {es' : List Ex} {m : List D → M D} {ex : Ex} {E : XK} (he : ∀ env h, evE c base env ex h = (evEs c base env es' h).bind m) : ∀ σ H Q, tE X.K base W (eX c base ex) σ H Q → tAs X.K base W (eXs c base es') σ H fun vs H1 => rn X.K m vs H1 Q := by
  intro σ H Q ⟨F, ρ, h, env, R, re, hl, out⟩
  rw [eX, he] at out
  exact ⟨F, ρ, h, env, R, re, hl, out.bind.imp fun xs h1 F1 ρ1 H1 e1 l1 p1 R1 o1 vs rvs => ⟨F1, ρ1, h1, xs, _, R1, rvs, o1⟩⟩
theorem s_idx {a b : Expr} {a' b' : Ex} {pos : Pos} (hu : X.A.units + 200 < cLine) (hb' : ∀ lo hi p, b ≠ .Slice lo hi none p) (ha : PE X a (tE X.K base W (eX c base a'))) (hb : PE X b (tE X.K base W (eX c base b'))) :
    PE X (.Subscript a b pos) (tE X.K base W (eX c base (.idx a' b'))) := by
  refine (pe_ix (ix_any hu) ha hb (plainIx hb')).weak fun σ H Q ⟨F, ρ, h, env, R, re, hl, out⟩ => ?_
  simp only [eX, evE, bind_at] at out
  refine ⟨F, ρ, h, env, R, re, hl, out.bind.imp fun x h1 F1 ρ1 H1 e1 l1 p1 R1 o1 v rv => ?_⟩
  refine ⟨F1, ρ1, h1, env, R1, re.mono l1 p1, grow (sane_evE hc base env a') hl e1, o1.bind.imp fun y h2 F2 ρ2 H2 e2 l2 p2 R2 o2 w rw' => ?_⟩
  exact ⟨F2, ρ2, h2, x, y, _, R2, Rep.mono l2 p2 _ _ rv, rw', o2⟩
/-- a part of a slice -/
abbrev eO (c : Cxt) (base : Nat) (o : Option Ex) : Px.Env → M (Option Int) := fun env => evO c base env o
def tOs (K : PySem.W.Frag) (base : Nat) (W : WX) (m : Px.Env → M (Option Int)) : TO := fun σ H Q => ∃ F ρ h env, Rel K F ρ H h ∧ RepE F ρ env σ ∧ base ≤ h.length ∧ Out K F ρ (m env h) (fun o F' ρ' H' _ => Q o H') (WE W σ)
theorem s_none : PO X none (tOs X.K base W (eO c base none)) :=
  ⟨fun pins s σ H Q I ⟨F, ρ, h, env, R, re, hl, out⟩ => po_none.run pins s σ H Q I (by
    simp only [eO, evO] at out
    exact Out.here out R)⟩
theorem s_some {a : Expr} {a' : Ex} (ha : PE X a (tE X.K base W (eX c base a'))) : PO X (some a) (tOs X.K base W (eO c base (some a'))) :=
  ⟨fun pins s σ H Q I ⟨F, ρ, h, env, R, re, hl, out⟩ => (po_some ha).run pins s σ H Q I (by
    simp only [eO, evO, bind_at] at out
    refine ⟨F, ρ, h, env, R, re, hl, out.bind.imp fun x h1 F1 ρ1 H1 e1 l1 p1 R1 o1 v rv => ?_⟩
    cases x with
    | int i => exact ⟨i, rv, Out.here o1 R1⟩
    | _ => exact o1.elim)⟩
theorem s_slice {a : Expr} {a' : Ex} {lo hi : Option Expr} {lo' hi' : Option Ex} {pos p2 : Pos} (ha : PE X a (tE X.K base W (eX c base a'))) (hlo : PO X lo (tOs X.K base W (eO c base lo'))) (hhi : PO X hi (tOs X.K base W (eO c base hi'))) :
    PE X (.Subscript a (.Slice lo hi none p2) pos) (tE X.K base W (eX c base (.slice a' lo' hi'))) := by
  refine (pe_slice sl_any ha hlo hhi).weak fun σ H Q ⟨F, ρ, h, env, R, re, hl, out⟩ => ?_
  simp only [eX, evE, bind_at] at out
  refine ⟨F, ρ, h, env, R, re, hl, out.bind.imp fun x h1 F1 ρ1 H1 e1 l1 p1 R1 o1 v rv => ?_⟩
  have hl1 := grow (sane_evE hc base env a') hl e1
  refine ⟨F1, ρ1, h1, env, R1, re.mono l1 p1, hl1, o1.bind.imp fun l h2 F2 ρ2 H2 e2 l2 p2 R2 o2 => ?_⟩
  have hl2 := grow (sane_evO hc base env lo') hl1 e2
  refine ⟨F2, ρ2, h2, env, R2, (re.mono l1 p1).mono l2 p2, hl2, o2.bind.imp fun u h3 F3 ρ3 H3 e3 l3 p3 R3 o3 => ?_⟩
  exact ⟨F3, ρ3, h3, x, _, R3, Rep.mono l3 p3 _ _ (Rep.mono l2 p2 _ _ rv), o3⟩
end
end Px

set_option autoImplicit false
set_option linter.all false
set_option maxRecDepth 100000
/-! Expressions of the text, one form after another (3): builtins, defs, methods of lists. -/
namespace Px
open PySem L2 PySem.Spec PyProof.Rows
/-- x in T, T a tuple of the module -/
def rInT (K : PySem.W.Frag) (neg : Bool) (ds : List D) : R2 := fun x y H Q => ∃ F ρ h d E p vs, Rel K F ρ H h ∧ Rep F ρ d x ∧ y = .ref p ∧ SqT K H p vs ∧ RepL F ρ ds vs ∧ Out K F ρ (((inSeq d ds) h).bind fun r => ret (D.bl (if neg then !r else r))) (fun d F' ρ' H' _ => ∀ v, Rep F' ρ' d v → Q v H') E
section
variable {X : Cx}
theorem op_inT (hu : X.A.units + 200 < cLine) (neg : Bool) (ys : List D) : OpR X (compareOp (if neg then .NotIn else .In)) (rInT X.K neg ys) := by
  intro pins s σ H x y v u Q I rx ry ⟨F, ρ, h, a, E, p, vs, R, ra, ey, hp, rl, out⟩
  have fin : a.plain = true → plainL ys = true → min (PyData.depthAll (toPL ys)) a.toP.depth ≤ 100 → Out X.K F ρ (((ret (ys.any fun y => y.eqv a)) h).bind fun r => ret (D.bl (if neg then !r else r))) (fun d F' ρ' H' _ => ∀ v, Rep F' ρ' d v → Q v H') E →
      wpAny (model X.prog X.w) X.A (compareOp (if neg then .NotIn else .In) v u) (EP X pins σ Q) X.xe s := by
    intro pa py hd out
    obtain ⟨as, r1⟩ := Dp.reads I _ x v (Rep.dp R.sub a x pa ra) rx
    have ea : ∀ zs : List D, plainL zs = true → ((toPL zs).any fun z => PyData.eqv z a.toP) = zs.any fun z => z.eqv a := by
      intro zs
      induction zs with
      | nil => intro _; rfl
      | cons z zs ih =>
        intro hz
        simp only [plainL, Bool.and_eq_true] at hz
        simp only [toPL, List.any_cons, toP_eqv z a hz.1 pa, ih hz.2]
    have dy : Dp X.K H y (.tuple (toPL ys)) := by rw [ey]; exact .tup hp (RepL.dp R.sub ys vs py rl)
    obtain ⟨bs, r2⟩ := Dp.reads I _ y u dy ry
    cases neg with
    | false =>
      refine SeqAt.in_tuple_data r2 r1 (toPL_plain ys py) (toP_plain a pa) (by omega) ⟨.bl _, H, I, rfl, ?_⟩
      rw [ea ys py]
      exact Out.val R out rfl
    | true =>
      refine SeqAt.notIn_tuple_data r2 r1 (toPL_plain ys py) (toP_plain a pa) (by omega) ⟨.bl _, H, I, rfl, ?_⟩
      rw [ea ys py]
      exact Out.val R out rfl
  unfold inSeq at out
  split at out
  · rename_i hs
    simp only [Bool.and_eq_true] at hs
    obtain ⟨p1, d1⟩ := toP_scal a hs.1
    obtain ⟨p2, d2⟩ := toPL_scal ys hs.2
    exact fin p1 p2 (by rw [d1, d2]; exact Nat.zero_le _) out
  · split at out
    · rename_i hs
      simp only [Bool.and_eq_true, decide_eq_true_eq] at hs
      refine fin hs.1.1 hs.1.2 ?_ out
      have := toPL_depth ys
      omega
    · exact out.elim
end
theorem tyOf_bt {x : Str} {t : Ty} (h : tyOf x = some t) : bootBuiltins x = some (.type (tyS t)) ∧ x ≠ "__name__" ∧ (x == ("__debug__" : Str)) = false := by
  unfold tyOf at h
  split at h
  · rename_i e; subst e; cases h; exact ⟨by decide +kernel, by decide, by decide⟩
  split at h
  · rename_i e; subst e; cases h; exact ⟨by decide +kernel, by decide, by decide⟩
  split at h
  · rename_i e; subst e; cases h; exact ⟨by decide +kernel, by decide, by decide⟩
  split at h
  · rename_i e; subst e; cases h; exact ⟨by decide +kernel, by decide, by decide⟩
  split at h
  · rename_i e; subst e; cases h; exact ⟨by decide +kernel, by decide, by decide⟩
  split at h
  · rename_i e; subst e; cases h; exact ⟨by decide +kernel, by decide, by decide⟩
  · cases h
theorem primOf_bt {x : Str} {n : Nat} {p : Prim} (h : primOf x n = some p) : bootBuiltins x = some (primTy p) ∧ x ≠ "__name__" ∧ (x == ("__debug__" : Str)) = false ∧ 0 < n := by
  unfold primOf at h
  split at h
  · rename_i hn
    subst hn
    split at h
    · rename_i e; subst e; cases h; exact ⟨by decide +kernel, by decide, by decide, by decide⟩
    split at h
    · rename_i e; subst e; cases h; exact ⟨by decide +kernel, by decide, by decide, by decide⟩
    split at h
    · rename_i e; subst e; cases h; exact ⟨by decide +kernel, by decide, by decide, by decide⟩
    split at h
    · rename_i e; subst e; cases h; exact ⟨by decide +kernel, by decide, by decide, by decide⟩
    split at h
    · rename_i e; subst e; cases h; exact ⟨by decide +kernel, by decide, by decide, by decide⟩
    split at h
    · rename_i e; subst e; cases h; exact ⟨by decide +kernel, by decide, by decide, by decide⟩
    split at h
    · rename_i e; subst e; cases h; exact ⟨by decide +kernel, by decide, by decide, by decide⟩
    split at h
    · rename_i e; subst e; cases h; exact ⟨by decide +kernel, by decide, by decide, by decide⟩
    split at h
    · rename_i e; subst e; cases h; exact ⟨by decide +kernel, by decide, by decide, by decide⟩
    · cases h
  split at h
  · rename_i hn
    subst hn
    split at h
    · rename_i e; subst e; cases h; exact ⟨by decide +kernel, by decide, by decide, by decide⟩
    split at h
    · rename_i e; subst e; cases h; exact ⟨by decide +kernel, by decide, by decide, by decide⟩
    · cases h
  · cases h
section
variable {X : Cx} {W : WX} {base : Nat} {c : Cxt} (hc : ∀ f base args, Sane base (c.call f base args))
include hc
theorem s_inGlob {a : Expr} {a' : Ex} {x : Str} {neg : Bool} {pos p : Pos} (hu : X.A.units + 200 < cLine) (hg : Gl X x) (ho : odd x = false) (hk : ∃ ds q vs, c.tcs.lookup x = some ds ∧ X.mg x = some (.ref q) ∧ (∀ H, SqT X.K H q vs) ∧ ∀ F ρ, RepL F ρ ds vs)
    (hm : behindInMarks (if neg then .NotIn else .In) (.Name x p) = false)
    (ha : PE X a (tE X.K base W (eX c base a'))) : PE X (.Compare a [if neg then .NotIn else .In] [.Name x p] pos) (tE X.K base W (eX c base (.inGlob neg a' x))) ∧ PT X (.Compare a [if neg then .NotIn else .In] [.Name x p] pos) (tTst X.K base W (eT c base (.inGlob neg a' x))) := by
  obtain ⟨ds, q, vs, e, hm', sq, rep⟩ := hk
  have hb := pe_glob (pos := p) hg hm' (show RelV (.ref q) (.ref q) from rfl) (odd_no ho).1
  refine ⟨(pe_cmpR (op_inT hu neg ds) ha hb hm).weak fun σ H Q ⟨F, ρ, h, env, R, re, hl, out⟩ => ?_, (pt_cmpR (op_inT hu neg ds) ha hb hm).weak fun σ H Q ⟨F, ρ, h, env, R, re, hl, out⟩ => ?_⟩
  · simp only [eX, evE, bind_at, e] at out
    refine ⟨F, ρ, h, env, R, re, hl, out.bind.imp fun x h1 F1 ρ1 H1 e1 l1 p1 R1 o1 v rv => ?_⟩
    exact ⟨F1, ρ1, h1, x, _, q, vs, R1, rv, rfl, sq _, rep _ _, o1⟩
  · simp only [eT, evE, bind_at, e, Res.bind_assoc] at out
    refine ⟨F, ρ, h, env, R, re, hl, out.bind.imp fun x h1 F1 ρ1 H1 e1 l1 p1 R1 o1 v rv => ?_⟩
    refine ⟨F1, ρ1, h1, x, WE W σ, q, vs, R1, rv, rfl, sq _, rep _ _, ?_⟩
    cases e3 : inSeq x ds h1 with
    | ok r h3 =>
      rw [e3] at o1
      exact fun F3 ρ3 H3 l3 p3 R3 v hv => ⟨_, hv, o1 F3 ρ3 H3 l3 p3 R3⟩
    | exc z h3 => rw [e3] at o1; exact o1
    | stuck => rw [e3] at o1; exact o1
theorem s_isinst1 {a : Expr} {a' : Ex} {x y : Str} {t : Ty} {pos p p2 : Pos} (hgx : Gl X "isinstance") (hmx : X.mg "isinstance" = none) (hg : Gl X y) (hm : X.mg y = none) (ht : tyOf y = some t) (hn : ns a = true) (ha : PE X a (tE X.K base W (eX c base a'))) :
    PE X (.Call (.Name "isinstance" p) [a, .Name y p2] [] pos) (tE X.K base W (eX c base (.isinst a' [t]))) := by
  obtain ⟨b1, b2, b3⟩ := tyOf_bt ht
  have hb : PE X (.Name y p2) (tC (.ty (tyS t))) := pe_bltn hg hm b1 (show RelV (.ty (tyS t)) (.type (tyS t)) from rfl) b2 b3
  refine (pe_callB call_isi hgx hmx (by decide +kernel) (pa_cons ha (pa_cons hb pa_nil) (star_cons hn)) (he := star_cons hn)).weak fun σ H Q ⟨F, ρ, h, env, R, re, hl, out⟩ => ?_
  simp only [eX, evE, bind_at] at out
  refine ⟨F, ρ, h, env, R, re, hl, out.bind.imp fun x h1 F1 ρ1 H1 e1 l1 p1 R1 o1 v rv => ?_⟩
  obtain ⟨n, ty, b, h1, h2, o2⟩ := isTys_at (f := fun b => ret (D.bl b)) R1 rv (by simp) o1
  exact ⟨v, .ty (tyS t), .type n, .type (tyS t), b, rfl, .ty _, ty, h2 t rfl, Out.val R1 o2 rfl⟩
theorem s_isinstN {a : Expr} {a' : Ex} {es : List Expr} {ts : List Ty} {pos p p2 : Pos} {x1} (hgx : Gl X "isinstance") (hmx : X.mg "isinstance" = none)
    (he : ∀ (i : Nat) (e : Expr), es[i]? = some e → ∃ y q t, e = .Name y q ∧ Gl X y ∧ X.mg y = none ∧ ts[i]? = some t ∧ tyOf y = some t) (hl : es.length = ts.length) (hz : ts.length ≤ sizeLine) (hne : ts ≠ []) (hn : ns a = true) (ha : PE X a (tE X.K base W (eX c base a'))) :
    PE X (.Call (.Name "isinstance" p) [a, .Tuple es x1 p2] [] pos) (tE X.K base W (eX c base (.isinst a' ts))) := by
  have hb : ∀ (es : List Expr) (ts : List Ty), (∀ (i : Nat) (e : Expr), es[i]? = some e → ∃ y q t, e = .Name y q ∧ Gl X y ∧ X.mg y = none ∧ ts[i]? = some t ∧ tyOf y = some t) → es.length = ts.length →
      PA X es (fun _ H Q => Q (ts.map fun t => V.ty (tyS t)) H) := by
    intro es
    induction es with
    | nil =>
      intro ts _ hl
      cases ts with
      | nil => exact pa_nil
      | cons _ _ => cases hl
    | cons e es ih =>
      intro ts he hl
      cases ts with
      | nil => cases hl
      | cons t ts =>
        obtain ⟨y, q, t2, rfl, hg, hm, e2, ht⟩ := he 0 e rfl
        simp only [List.getElem?_cons_zero, Option.some.injEq] at e2
        subst e2
        obtain ⟨b1, b2, b3⟩ := tyOf_bt ht
        exact pa_cons (pe_bltn hg hm b1 (show RelV (.ty (tyS t)) (.type (tyS t)) from rfl) b2 b3) (ih ts (fun i e h => he (i + 1) e (by simpa using h)) (by simpa using hl))
  refine (pe_callB call_isiT hgx hmx (by decide +kernel) (pa_cons ha (pa_cons (pe_tup (hb es ts he hl)) pa_nil) (star_cons hn)) (he := star_cons hn)).weak fun σ H Q ⟨F, ρ, h, env, R, re, hl, out⟩ => ?_
  simp only [eX, evE, bind_at] at out
  refine ⟨F, ρ, h, env, R, re, hl, out.bind.imp fun x h1 F1 ρ1 H1 e1 l1 p1 R1 o1 v rv => ?_⟩
  refine ⟨by rw [List.length_map]; exact hz, fun q hq => ?_⟩
  obtain ⟨R2, l2⟩ := R1.froze (o := .tup (ts.map fun t => V.ty (tyS t))) hq
  obtain ⟨n, ty, b, h1, h2, o2⟩ := isTys_at (f := fun b => ret (D.bl b)) R2 (Rep.mono l2 (Pre.refl _) _ _ rv) hne (o1.ext l2 (Pre.refl _))
  have pr : ∀ ts : List Ty, Paired ClsV (ts.map fun t => V.ty (tyS t)) (ts.map fun t => Value.type (tyS t)) := by
    intro ts
    induction ts with
    | nil => exact .nil
    | cons t ts ih => exact .cons (.ty _) ih
  exact ⟨v, q, _, .type n, _, b, rfl, upd_same, pr ts, ty, h1, Out.val R2 o2 rfl⟩
theorem s_prim {as : List Expr} {as' : List Ex} {x : Str} {p : Prim} {pos q : Pos} (hcalm : X.calm = true) (hg : Gl X x) (hm : X.mg x = none) (hp : primOf x as.length = some p) (hn : as.all ns = true) (ha : PA X as (tAs X.K base W (eXs c base as'))) :
    PE X (.Call (.Name x q) as [] pos) (tE X.K base W (eX c base (.prim p as'))) := by
  obtain ⟨b1, b2, b3, b4⟩ := primOf_bt hp
  cases as with
  | nil => cases b4
  | cons a as =>
    rw [List.all_cons, Bool.and_eq_true] at hn
    have key : PE X (.Call (.Name x q) (a :: as) [] pos) (tCB (rn X.K (primop p)) (tAs X.K base W (eXs c base as'))) := by
      have cp := call_prim (X := X) hcalm p
      cases p <;> first
        | exact pe_callB cp hg hm b1 ha b2 b3 (star_cons hn.1) (star_plain hn.2)
        | exact pe_callTy cp hg hm b1 ha b2 b3 (star_cons hn.1) (star_plain hn.2)
    exact key.weak fun σ H Q q => as_rn (E := fun _ _ _ => True) hc (fun env h => by simp only [evE, bind_at]) σ H Q q
/-- f(..), f a def -/
theorem s_call {P : Prog} {n kr : Nat} {f : Addr} {fd : FuncData} {ps : List Str} {as : List Expr} {as' : List Ex} {x : Str} {pos q : Pos} (hcc : c.call = run P n) (F : FnOk X.prog X.w X.K X.mg X.base (L2.CX X.prog X.w) kr f fd ps (spI P X.K n (x, none))) (hr : Room kr X.A) (tk : Takes X W)
    (hg : Gl X x) (ho : odd x = false) (hm : X.mg x = some (.ref f)) (hk : PySem.W.keepIn X.K (.ref f) = true) (hb : Binds X.K fd ps []) (hn : as.all ns = true) (hlen : as.length = as'.length) (ha : PA X as (tAs X.K base W (eXs c base as'))) :
    PE X (.Call (.Name x q) as [] pos) (tE X.K base W (eX c base (.call (x, none) as'))) := by
  have key : PE X (.Call (.Name x q) as [] pos) (tCallS (spI P X.K n (x, none)) (WE W) (tAs X.K base W (eXs c base as'))) := by
    cases as with
    | nil =>
      cases as' with
      | cons _ _ => cases hlen
      | nil =>
        refine ⟨fun pins s σ H Q I h => ?_⟩
        refine wpAny_Call_Name_kw (ld_glob I hg hm ?_ (odd_no ho).1)
        refine PySem.W.callWith_K0 I.kIn hk ?_
        obtain ⟨F', ρ, h', env, R, re, hl, out⟩ := h
        simp only [eXs, evEs] at out
        exact run_fnS F hr hb (passAt tk σ) I .nil (Out.here out R [] rfl)
    | cons a as =>
      rw [List.all_cons, Bool.and_eq_true] at hn
      exact pe_callS F hr hg hm hk hb (passAt tk) ha (odd_no ho).1 (star_cons hn.1) (star_plain hn.2)
  refine key.weak fun σ H Q ⟨F, ρ, h, env, R, re, hl, out⟩ => ?_
  simp only [eX, evE, bind_at] at out
  refine ⟨F, ρ, h, env, R, re, hl, out.bind.imp fun xs h1 F1 ρ1 H1 e1 l1 p1 R1 o1 vs rvs => ?_⟩
  rw [hcc] at o1
  exact ⟨F1, ρ1, h1, xs, base, R1, rvs, grow (sane_evEs hc base env as') hl e1, o1⟩
end
end Px

set_option autoImplicit false
set_option linter.all false
set_option maxRecDepth 100000
/-! Expressions of the text, one form after another (4): methods of lists. -/
namespace Px
open PySem L2 PySem.Spec PyProof.Rows
/-- no call -/
def nc : Expr → Bool
  | .Call .. => false
  | _ => true
theorem base_of {o : Expr} {name : Str} {env : PySem.Env} {w : Sem Value} (h : nc o = true) : attributeBase o name env w = w := by
  cases o <;> first | rfl | cases h
/-- one method of a list -/
theorem lmOf_eq {m : Str} {n : Nat} {lm : Lm} (h : lmOf m n = some lm) : (m = "append" ∧ n = 1 ∧ lm = .append) ∨ (m = "pop" ∧ n = 0 ∧ lm = .pop) ∨ (m = "pop" ∧ n = 1 ∧ lm = .popAt) := by
  unfold lmOf at h
  split at h
  · rename_i e; cases h; exact .inl ⟨e.1, e.2, rfl⟩
  split at h
  · rename_i e; cases h; exact .inr (.inl ⟨e.1, e.2, rfl⟩)
  split at h
  · rename_i e; cases h; exact .inr (.inr ⟨e.1, e.2, rfl⟩)
  · cases h
section
variable {X : Cx} {W : WX} {base : Nat} {c : Cxt} (hc : ∀ f base args, Sane base (c.call f base args))
include hc
theorem s_lmeth {o : Expr} {o' : Ex} {as : List Expr} {as' : List Ex} {m : Str} {lm : Lm} {apos cpos : Pos} (hm : lmOf m as.length = some lm) (hlen : as.length = as'.length) (hn : as.all ns = true) (hb : nc o = true) (hline : (apos.endLine == cpos.line) = true)
    (ho : PE X o (tE X.K base W (eX c base o'))) (ha : PA X as (tAs X.K base W (eXs c base as'))) :
    PE X (.Call (.Attribute o m apos) as [] cpos) (tE X.K base W (eX c base (.lmeth lm o' as'))) := by
  have key : ∀ {σ H Q}, tE X.K base W (eX c base (.lmeth lm o' as')) σ H Q → tE X.K base W (eX c base o') σ H fun x H1 => tyV X.K "list" x H1 ∧ tAs X.K base W (eXs c base as') σ H1 fun xs H2 => rM X.K base lm x xs H2 Q := by
    intro σ H Q ⟨F, ρ, h, env, R, re, hl, out⟩
    simp only [eX, evE, bind_at] at out
    refine ⟨F, ρ, h, env, R, re, hl, out.bind.imp fun x h1 F1 ρ1 H1 e1 l1 p1 R1 o1 v rv => ?_⟩
    have hl1 := grow (sane_evE hc base env o') hl e1
    obtain ⟨p, ds, vs, rfl, hp, hz, rl, o2⟩ := lstOf_at R1 rv o1
    refine ⟨.inl ⟨rfl, vs, SqL.of hp⟩, F1, ρ1, h1, env, R1, re.mono l1 p1, hl1, ?_⟩
    simp only [bind_at] at o2
    refine o2.bind.imp fun xs h2 F2 ρ2 H2 e2 l2 p2 R2 o3 ws rws => ?_
    exact ⟨F2, ρ2, h2, x, xs, _, R2, Rep.mono l2 p2 _ _ rv, rws, o3⟩
  rcases lmOf_eq hm with ⟨rfl, hl, rfl⟩ | ⟨rfl, hl, rfl⟩ | ⟨rfl, hl, rfl⟩
  · cases as with
    | nil => cases hl
    | cons a as =>
      cases as with
      | cons _ _ => cases hl
      | nil =>
        rw [List.all_cons, Bool.and_eq_true] at hn
        refine (pe_bm PySem.F.plainAttrs_list PySem.F.slot_list_append PySem.F.type_list_append (mt_any base .append) ho ha (base_of hb) (by rw [star_cons hn.1]; rfl) hline (star_cons hn.1)).weak fun σ H Q q => key q
  · cases as with
    | cons _ _ => cases hl
    | nil =>
      cases as' with
      | cons _ _ => cases hlen
      | nil =>
        refine (pe_bm0 PySem.F.plainAttrs_list PySem.F.slot_list_pop PySem.F.type_list_pop (mt_any base .pop) ho (base_of hb) hline).weak fun σ H Q q => ?_
        obtain ⟨F, ρ, h, env, R, re, hl, out⟩ := key q
        refine ⟨F, ρ, h, env, R, re, hl, out.imp fun x h1 F1 ρ1 H1 e1 l1 p1 R1 o1 v rv => ?_⟩
        obtain ⟨ty, F2, ρ2, h2, env2, R2, re2, hl2, o2⟩ := o1 v rv
        simp only [eXs, evEs] at o2
        exact ⟨ty, Out.here o2 R2 [] rfl⟩
  · cases as with
    | nil => cases hl
    | cons a as =>
      cases as with
      | cons _ _ => cases hl
      | nil =>
        rw [List.all_cons, Bool.and_eq_true] at hn
        refine (pe_bm PySem.F.plainAttrs_list PySem.F.slot_list_pop PySem.F.type_list_pop (mt_any base .popAt) ho ha (base_of hb) (by rw [star_cons hn.1]; rfl) hline (star_cons hn.1)).weak fun σ H Q q => key q
end
end Px

set_option autoImplicit false
set_option linter.all false
set_option maxRecDepth 100000
/-! Objects under way (held), new objects placed. -/
namespace Px
open PySem L2 PySem.Spec PyProof.Rows
section
variable {K : PySem.W.Frag} {F F' : FF} {ρ ρ' : List Addr} {H H' : Hp} {h h' : Hh} {p : Addr} {o o' : HO} {c : Cell} {g : Hp}
theorem upd_upd {H : Hp} {p : Addr} {o o' : HO} : upd (upd H p o) p o' = upd H p o' := by
  funext b
  by_cases hb : b = p
  · subst hb; rw [upd_same, upd_same]
  · rw [upd_ne hb, upd_ne hb, upd_ne hb]
theorem lfg {F : FF} {g : Hp} : Lf F ⟨F.f, g⟩ := fun _ _ h => h
theorem lfs {f g g' : Hp} : Lf ⟨f, g⟩ ⟨f, g'⟩ := fun _ _ h => h
abbrev Raw (o : HO) : Prop := (∃ xs, o = .lst xs) ∨ (∃ k, o = .dK k) ∨ ∃ k, o = .dT k
/-- an object is taken in hand -/
theorem Rel.hold (R : Rel K F ρ H h) (e : H p = none) (ho : Raw o) : Rel K ⟨F.f, upd F.g p o⟩ ρ (upd H p o) h := by
  have hp := R.notin e
  have hn := R.fnone e
  refine ⟨fun b u q => ?_, fun b u q => ?_, R.nd, R.len, R.out, fun l b d e1 e2 => ?_⟩
  · rw [upd_ne (ne_of_none q hn)]
    exact R.sub b u q
  · have q : upd F.g p o b = some u := q
    by_cases hb : b = p
    · subst hb
      rw [upd_same] at q ⊢
      cases q
      exact ⟨rfl, hn, .inl ⟨hp, ho⟩⟩
    · rw [upd_ne hb] at q ⊢
      exact R.held b u q
  · have hbp : b ≠ p := fun z => hp (z ▸ List.mem_of_getElem? e1)
    exact (R.cell l b d e1 e2).monof lfg (Pre.refl ρ) (upd_ne hbp)
/-- .. and changed -/
theorem Hk.raw (k : Hk ρ h p o) (ho : Raw o) : p ∉ ρ := by
  rcases k with ⟨k, _⟩ | ⟨l, od, w, _, _, e⟩
  · exact k
  · subst e
    rcases ho with ⟨_, z⟩ | ⟨_, z⟩ | ⟨_, z⟩ <;> cases z
theorem Rel.rehold {f : Hp} (R : Rel K ⟨f, upd g p o⟩ ρ H h) (ho : Raw o) (o' : HO) (ho' : Raw o') : Rel K ⟨f, upd g p o'⟩ ρ (upd H p o') h := by
  obtain ⟨h1, h2, h3⟩ := R.held p o upd_same
  have h3 := h3.raw ho
  refine ⟨fun b u q => ?_, fun b u q => ?_, R.nd, R.len, R.out, fun l b d e1 e2 => ?_⟩
  · rw [upd_ne (ne_of_none q h2)]
    exact R.sub b u q
  · have q : upd g p o' b = some u := q
    by_cases hb : b = p
    · subst hb
      rw [upd_same] at q ⊢
      cases q
      exact ⟨rfl, h2, .inl ⟨h3, ho'⟩⟩
    · rw [upd_ne hb] at q ⊢
      exact R.held b u (show upd g p o b = some u by rw [upd_ne hb]; exact q)
  · have hbp : b ≠ p := fun z => h3 (z ▸ List.mem_of_getElem? e1)
    exact (R.cell l b d e1 e2).monof lfs (Pre.refl ρ) (upd_ne hbp)
/-- .. and let stand: it never changes again -/
theorem Rel.letStand {f : Hp} (R : Rel K ⟨f, upd g p o⟩ ρ H h) (ho : Raw o) (hg : g p = none) : Rel K ⟨upd f p o, g⟩ ρ H h := by
  obtain ⟨h1, h2, h3⟩ := R.held p o upd_same
  have h3 := h3.raw ho
  have h2 : f p = none := h2
  have lf : Lf ⟨f, upd g p o⟩ ⟨upd f p o, g⟩ := fun b u q => by
    show upd f p o b = some u
    rw [upd_ne (ne_of_none q h2)]
    exact q
  refine ⟨fun b u q => ?_, fun b u q => ?_, R.nd, R.len, fun b hb => ?_, fun l b d e1 e2 => ?_⟩
  · have q : upd f p o b = some u := q
    by_cases hb : b = p
    · subst hb
      rw [upd_same] at q
      exact h1.trans q
    · rw [upd_ne hb] at q
      exact R.sub b u q
  · have hb : b ≠ p := ne_of_none q hg
    obtain ⟨k1, k2, k3⟩ := R.held b u (show upd g p o b = some u by rw [upd_ne hb]; exact q)
    refine ⟨k1, ?_, k3⟩
    show upd f p o b = none
    rw [upd_ne hb]
    exact k2
  · have hb : b ≠ p := fun z => h3 (z ▸ hb)
    show upd f p o b = none
    rw [upd_ne hb]
    exact R.out b (by assumption)
  · exact (R.cell l b d e1 e2).monof lf (Pre.refl ρ) rfl
/-- .. and let go as a cell -/
theorem Rel.letCell {f : Hp} (R : Rel K ⟨f, upd g p o⟩ ρ H h) (ho : Raw o) (hg : g p = none) (x : CellOk K ⟨f, g⟩ (ρ ++ [p]) H p c) : Rel K ⟨f, g⟩ (ρ ++ [p]) H (h ++ [c]) := by
  obtain ⟨h1, h2, h3⟩ := R.held p o upd_same
  have h3 := h3.raw ho
  refine ⟨R.sub, fun b u q => ?_, ?_, ?_, fun b hb => ?_, fun l b d e1 e2 => ?_⟩
  · have hb : b ≠ p := ne_of_none q hg
    obtain ⟨k1, k2, k3⟩ := R.held b u (show upd g p o b = some u by rw [upd_ne hb]; exact q)
    exact ⟨k1, k2, k3.snoc R.len hb⟩
  · rw [List.nodup_append]
    refine ⟨R.nd, by simp, fun b hb d hd => ?_⟩
    have : d = p := by simpa using hd
    subst this
    exact fun z => h3 (z ▸ hb)
  · rw [List.length_append, List.length_append, R.len]
    rfl
  · rcases List.mem_append.mp hb with hb | hb
    · exact R.out b hb
    · have : b = p := by simpa using hb
      subst this
      exact h2
  · by_cases hl : l < ρ.length
    · rw [List.getElem?_append_left hl] at e1
      rw [List.getElem?_append_left (R.len ▸ hl)] at e2
      exact (R.cell l b d e1 e2).monof lfs pre_snoc rfl
    · have hl' : l < (ρ ++ [p]).length := (List.getElem?_eq_some_iff.mp e1).1
      rw [List.length_append] at hl'
      have : l = ρ.length := by simp at hl'; omega
      subst this
      rw [List.getElem?_append_right (Nat.le_refl _)] at e1
      rw [R.len, List.getElem?_append_right (Nat.le_refl _)] at e2
      simp at e1 e2
      subst e1 e2
      exact x
/-- a tuple that stands in the heap -/
theorem Rel.seen {vs : List V} (R : Rel K F ρ H h) (e : H p = some (.tup vs)) : Rel K (F.up p (.tup vs)) ρ H h ∧ Le F (F.up p (.tup vs)) := by
  have hp : p ∉ ρ := fun z => by
    obtain ⟨l, hl, rfl⟩ := List.getElem_of_mem z
    obtain ⟨c, _, x⟩ := R.at' (l := l) (a := ρ[l]) (by simp [hl])
    cases c with
    | l ds => obtain ⟨vs, h1, _⟩ := x; rw [e] at h1; cases h1
    | d t kvs =>
      cases t with
      | k => obtain ⟨vs, h1, _⟩ := x; rw [e] at h1; cases h1
      | t => obtain ⟨vs, h1, _⟩ := x; rw [e] at h1; cases h1
    | inst cl fs => obtain ⟨dx, gs, h1, _⟩ := x; rw [e] at h1; cases h1
    | lock => obtain ⟨od, u, h1⟩ := x; rw [e] at h1; cases h1
  have hg : F.g p = none := by
    cases q : F.g p with
    | none => rfl
    | some o =>
      obtain ⟨h1, h2, h3⟩ := R.held _ _ q
      rw [e] at h1
      cases h1
      rcases h3 with ⟨_, ⟨_, z⟩ | ⟨_, z⟩ | ⟨_, z⟩⟩ | ⟨_, _, _, _, _, z⟩ <;> cases z
  have le : Le F (F.up p (.tup vs)) := ⟨fun b u q => by
    show upd F.f p _ b = _
    by_cases hb : b = p
    · subst hb
      rw [upd_same, ← e, R.sub _ _ q]
    · rw [upd_ne hb]
      exact q, rfl⟩
  refine ⟨⟨fun b u q => ?_, fun b u q => ?_, R.nd, R.len, fun b hb => ?_, fun l b d e1 e2 => (R.cell l b d e1 e2).mono le (Pre.refl ρ) rfl⟩, le⟩
  · have q : upd F.f p _ b = some u := q
    by_cases hb : b = p
    · subst hb
      rw [upd_same] at q
      exact e.trans q
    · rw [upd_ne hb] at q
      exact R.sub b u q
  · have hb : b ≠ p := ne_of_none q hg
    obtain ⟨h1, h2, h3⟩ := R.held b u q
    refine ⟨h1, ?_, h3⟩
    show upd F.f p _ b = none
    rw [upd_ne hb]
    exact h2
  · have hbp : b ≠ p := fun z => hp (z ▸ hb)
    show upd F.f p _ b = none
    rw [upd_ne hbp]
    exact R.out b hb
/-- a cell is shut -/
theorem Rel.shut {l : Nat} {a : Addr} {od : Obj} {u : HO} (R : Rel K F ρ H h) (e : ρ[l]? = some a) (hk : h[l]? ≠ some .lock) : Rel K ⟨F.f, upd F.g a (.frz od u)⟩ ρ (upd H a (.frz od u)) (h.set l .lock) := by
  have hl : l < h.length := by rw [← R.len]; exact (List.getElem?_eq_some_iff.mp e).1
  have R2 := R.setCell (o := .frz od u) e hk (c := .lock) ⟨od, u, upd_same⟩
  refine ⟨R2.sub, fun b w q => ?_, R2.nd, R2.len, R2.out, fun k b d e1 e2 => (R2.cell k b d e1 e2).monof lfg (Pre.refl ρ) rfl⟩
  have q : upd F.g a _ b = some w := q
  by_cases hb : b = a
  · subst hb
    rw [upd_same] at q ⊢
    cases q
    exact ⟨rfl, R.out b (List.mem_of_getElem? e), .inr ⟨l, od, u, e, List.getElem?_set_self hl, rfl⟩⟩
  · rw [upd_ne hb] at q
    exact R2.held b w q
/-- .. and opened -/
theorem Rel.open {f : Hp} {l : Nat} {a : Addr} {od : Obj} {u : HO} (R : Rel K ⟨f, upd g a (.frz od u)⟩ ρ H h) (e : ρ[l]? = some a) (hg : g a = none) (x : CellOk K ⟨f, g⟩ ρ (upd H a o) a c) : h[l]? = some .lock ∧ Rel K ⟨f, g⟩ ρ (upd H a o) (h.set l c) := by
  obtain ⟨h1, h2, h3⟩ := R.held a _ upd_same
  have hm := List.mem_of_getElem? e
  rcases h3 with ⟨h3, _⟩ | ⟨k, od', w, k1, k2, k3⟩
  · exact absurd hm h3
  have hkl : k = l := nodup_get R.nd k1 e
  subst hkl
  have hl : k < h.length := (List.getElem?_eq_some_iff.mp k2).1
  refine ⟨k2, ⟨fun b w q => ?_, fun b w q => ?_, R.nd, by rw [List.length_set]; exact R.len, R.out, fun j b d e1 e2 => ?_⟩⟩
  · have hb : b ≠ a := ne_of_none q (R.out a hm)
    rw [upd_ne hb]
    exact R.sub b w q
  · have hb : b ≠ a := ne_of_none q hg
    rw [upd_ne hb]
    obtain ⟨j1, j2, j3⟩ := R.held b w (show upd g a _ b = some w by rw [upd_ne hb]; exact q)
    refine ⟨j1, j2, ?_⟩
    rcases j3 with j3 | ⟨j, od2, w2, m1, m2, m3⟩
    · exact .inl j3
    · have hjk : j ≠ k := fun z => hb (by subst z; rw [e] at m1; exact (Option.some.inj m1).symm)
      exact .inr ⟨j, od2, w2, m1, by rw [List.getElem?_set_ne (Ne.symm hjk)]; exact m2, m3⟩
  · by_cases hj : j = k
    · subst hj
      rw [e] at e1
      cases e1
      rw [List.getElem?_set_self hl] at e2
      cases e2
      exact x
    · rw [List.getElem?_set_ne (Ne.symm hj)] at e2
      have hb : b ≠ a := fun z => hj (nodup_get R.nd e1 (z ▸ e))
      exact (R.cell j b d e1 e2).monof lfs (Pre.refl ρ) (upd_ne hb)
/-- less in hand -/
theorem Rel.less {g' : Hp} (R : Rel K F ρ H h) (hg : ∀ a o, g' a = some o → F.g a = some o) : Rel K ⟨F.f, g'⟩ ρ H h :=
  ⟨R.sub, fun b u q => R.held b u (hg b u q), R.nd, R.len, R.out, fun l b d e1 e2 => (R.cell l b d e1 e2).monof lfg (Pre.refl ρ) rfl⟩
theorem ExnRep.monof {e : Exn} {dd : Option Addr} (l : Lf F F') (lr : Pre ρ ρ') (r : ExnRep K F ρ H e dd) : ExnRep K F' ρ' H e dd := by
  rcases r with r | ⟨a, gs, h1, h2, h3⟩
  · exact .inl r
  · exact .inr ⟨a, gs, h1, h2, fun f d q => let ⟨nf, v, a, b⟩ := h3 f d q; ⟨nf, v, a, Rep.monof l lr d v b⟩⟩
/-- what is promised is promised with more in hand, too -/
theorem Out.held {α : Type} {r : Res α} {Φ : α → FF → List Addr → Hp → Hh → Prop} {E : XK} (hg : ∀ a o, F.g a = some o → g a = some o) (out : Out K F ρ r Φ E) : Out K ⟨F.f, g⟩ ρ r (fun a F' ρ' H' h' => Φ a ⟨F'.f, F.g⟩ ρ' H' h') E := by
  cases r with
  | ok a h2 => exact fun F2 ρ2 H2 l p R => out ⟨F2.f, F.g⟩ ρ2 H2 ⟨l.l, rfl⟩ p (R.less fun b u q => by rw [l.g]; exact hg b u q)
  | exc e h2 => exact fun F2 ρ2 H2 dd l p R x => out ⟨F2.f, F.g⟩ ρ2 H2 dd ⟨l.l, rfl⟩ p (R.less fun b u q => by rw [l.g]; exact hg b u q) (x.monof (show Lf F2 ⟨F2.f, F.g⟩ from lfg) (Pre.refl _))
  | stuck => exact out
/-- a new object with its contents -/
def NewOk (F : FF) (ρ : List Addr) : Cell → HO → Prop
  | .l ds, o => ∃ vs, o = .lst vs ∧ ds.length ≤ big ∧ RepL F ρ ds vs
  | .d .k kvs, o => ∃ ks, o = .dK ks ∧ kvs.length ≤ big ∧ RepK F ρ kvs ks
  | .d .t kvs, o => ∃ ks, o = .dT ks ∧ kvs.length ≤ big ∧ RepT F ρ kvs ks
  | _, _ => False
theorem NewOk.cell {H : Hp} (n : NewOk F ρ c o) (lf : Lf F F') (lr : Pre ρ ρ') (e : H p = some o) : CellOk K F' ρ' H p c := by
  cases c with
  | l ds => obtain ⟨vs, rfl, hz, r⟩ := n; exact ⟨vs, e, hz, RepL.monof lf lr _ _ r⟩
  | d t kvs =>
    cases t with
    | k => obtain ⟨vs, rfl, hz, r⟩ := n; exact ⟨vs, e, hz, RepK.monof lf lr _ _ r⟩
    | t => obtain ⟨vs, rfl, hz, r⟩ := n; exact ⟨vs, e, hz, RepT.monof lf lr _ _ r⟩
  | _ => exact n.elim
theorem NewOk.rep {d : D} {h h2 : Hh} (n : NewOk F ρ c o) (e : content c h = .ok d h2) (lf : Lf F F') (hp : F'.f p = some o) : Rep F' ρ d (.ref p) ∧ h2 = h := by
  cases c with
  | l ds => obtain ⟨vs, rfl, hz, r⟩ := n; cases e; exact ⟨⟨p, vs, rfl, hp, hz, RepL.monof lf (Pre.refl ρ) _ _ r⟩, rfl⟩
  | d t kvs =>
    cases t with
    | k => obtain ⟨vs, rfl, hz, r⟩ := n; cases e; exact ⟨⟨p, vs, rfl, hp, hz, RepK.monof lf (Pre.refl ρ) _ _ r⟩, rfl⟩
    | t => obtain ⟨vs, rfl, hz, r⟩ := n; cases e; exact ⟨⟨p, vs, rfl, hp, hz, RepT.monof lf (Pre.refl ρ) _ _ r⟩, rfl⟩
  | _ => exact n.elim
/-- it is new -/
theorem Out.place {m : Bool} {Q : VK} {E : XK} (R : Rel K F ρ H h) (out : Out K F ρ ((if m then alloc c else content c) h) (fun d F' ρ' H' _ => ∀ v, Rep F' ρ' d v → Q v H') E) (hp : H p = none) (n : NewOk F ρ c o) : Q (.ref p) (upd H p o) := by
  cases m with
  | true =>
    obtain ⟨R2, pr⟩ := R.newCell (c := c) (o := o) hp (n.cell (fun _ _ h => h) pre_snoc upd_same)
    refine out F _ _ (Le.refl F) pr R2 _ ⟨p, rfl, ?_⟩
    rw [← R.len, List.getElem?_append_right (Nat.le_refl _)]
    simp
  | false =>
    obtain ⟨R2, l⟩ := R.froze (o := o) hp
    cases e : content c h with
    | ok d h2 =>
      simp only [Bool.false_eq_true, if_false] at out
      rw [e] at out
      obtain ⟨r, rfl⟩ := n.rep e l.l (show (F.up p o).f p = some o from upd_same)
      exact out _ _ _ l (Pre.refl ρ) R2 _ r
    | exc z h2 => cases c <;> cases e
    | stuck =>
      simp only [Bool.false_eq_true, if_false] at out
      rw [e] at out
      exact out.elim
/-- it was in hand -/
theorem Out.let {f : Hp} {m : Bool} {Q : VK} {E : XK} (R : Rel K ⟨f, upd g p o⟩ ρ H h) (ho : Raw o) (hg : g p = none) (out : Out K ⟨f, g⟩ ρ ((if m then alloc c else content c) h) (fun d F' ρ' H' _ => ∀ v, Rep F' ρ' d v → Q v H') E) (n : NewOk ⟨f, g⟩ ρ c o) : Q (.ref p) H := by
  obtain ⟨k1, k2, k3⟩ := R.held p o upd_same
  have k2 : f p = none := k2
  cases m with
  | true =>
    have R2 := R.letCell (c := c) ho hg (n.cell (fun _ _ h => h) pre_snoc k1)
    refine out ⟨f, g⟩ _ _ (Le.refl _) pre_snoc R2 _ ⟨p, rfl, ?_⟩
    rw [← R.len, List.getElem?_append_right (Nat.le_refl _)]
    simp
  | false =>
    have R2 := R.letStand ho hg
    have lf : Lf ⟨f, g⟩ ⟨upd f p o, g⟩ := fun b u q => by
      show upd f p o b = some u
      rw [upd_ne (ne_of_none q k2)]
      exact q
    cases e : content c h with
    | ok d h2 =>
      simp only [Bool.false_eq_true, if_false] at out
      rw [e] at out
      obtain ⟨r, rfl⟩ := n.rep (p := p) (F' := ⟨upd f p o, g⟩) e lf upd_same
      exact out _ _ _ ⟨lf, rfl⟩ (Pre.refl ρ) R2 _ r
    | exc z h2 => cases c <;> cases e
    | stuck =>
      simp only [Bool.false_eq_true, if_false] at out
      rw [e] at out
      exact out.elim
end
section
variable {X : Cx} {W : WX} {base : Nat} {c : Cxt} (hc : ∀ f base args, Sane base (c.call f base args))
theorem new_ev {m : Bool} {al : Al} {env : Px.Env} {h : Hh} : evE c base env (.new m al) h = (evAl c base env al h).bind fun ct => if m then alloc ct else content ct := by
  simp only [evE, bind_at]
end
end Px

set_option autoImplicit false
set_option linter.all false
set_option maxRecDepth 100000
/-! What a loop walks. -/
namespace Px
open PySem L2 PySem.Spec PyProof.Rows
def Walk.len : Walk → Nat
  | .items xs => xs.length
  | .cell _ n => n
  | .keys _ => 0
/-- the item of turn i -/
def ItemAt : Walk → Hh → Nat → D → Prop
  | .items xs, _, i, x => xs[i]? = some x
  | .cell l _, h, i, x => ∃ xs, h[l]? = some (.l xs) ∧ xs[i]? = some x
  | .keys _, _, _, _ => False
/-- there is none at turn i -/
def EndsAt : Walk → Hh → Nat → Prop
  | .items xs, _, i => xs.length ≤ i
  | .cell l _, h, i => ∃ xs, h[l]? = some (.l xs) ∧ xs.length ≤ i
  | .keys _, _, _ => False
/-- later: what stands stands, what is in hand is in hand -/
structure Lg (F F' : FF) : Prop where
  l : Lf F F'
  g : ∀ a o, F.g a = some o → F'.g a = some o
/-- the model's iterator J walks w -/
structure ItOk (K : PySem.W.Frag) (F : FF) (ρ : List Addr) (w : Walk) (J : L2.It) : Prop where
  small : w.len ≤ big
  go : ∀ (i : Nat) (x : D) (F1 : FF) (ρ1 : List Addr) (H1 : Hp) (h1 : Hh), Lg F F1 → Pre ρ ρ1 → Rel K F1 ρ1 H1 h1 → ItemAt w h1 i x → J.go i H1 ∧ ∀ v H2, J.yld i H1 v H2 → ∃ F2, Le F1 F2 ∧ Rel K F2 ρ1 H2 h1 ∧ Rep F2 ρ1 x v
  stop : ∀ (i : Nat) (F1 : FF) (ρ1 : List Addr) (H1 : Hp) (h1 : Hh), Lg F F1 → Pre ρ ρ1 → Rel K F1 ρ1 H1 h1 → EndsAt w h1 i → i = w.len → J.stop i H1
section
variable {K : PySem.W.Frag} {F : FF} {ρ : List Addr} {H : Hp} {h : Hh}
theorem itok_list {a : Addr} {ds : List D} {vs : List V} (ha : Rd F.f a (.lst vs)) (hz : ds.length ≤ big) (r : RepL F ρ ds vs) : ItOk K F ρ (.items ds) (Itl K a) := by
  have sq : ∀ {F1 : FF} {ρ1 : List Addr} {H1 : Hp} {h1 : Hh}, Lg F F1 → Rel K F1 ρ1 H1 h1 → SqL K H1 a vs := fun l R => .inl (by
    rcases l.l.rd ha with e | ⟨u, e⟩
    · exact .inl (R.sub _ _ e)
    · exact .inr ⟨u, R.sub _ _ e⟩)
  have w := walk_list (K := K) (a := a) (xs := vs)
  refine ⟨hz, fun i x F1 ρ1 H1 h1 l p R e => ?_, fun i F1 ρ1 H1 h1 l p R e _ => ⟨vs, sq l R, by rw [r.length]; exact e⟩⟩
  have e : ds[i]? = some x := e
  have hi : i < vs.length := by rw [r.length]; exact (List.getElem?_eq_some_iff.mp e).1
  refine ⟨w.goes i H1 hi (sq l R), fun v H2 y => ?_⟩
  obtain ⟨e2, y2⟩ := w.yields i H1 v H2 hi (sq l R) y
  subst e2
  obtain ⟨v', e3, rv⟩ := r.get e
  rw [y2] at e3
  cases e3
  exact ⟨F1, Le.refl _, R, Rep.monof l.l p _ _ rv⟩
theorem itok_tup {a : Addr} {ds : List D} {vs : List V} (ha : F.f a = some (.tup vs)) (hz : ds.length ≤ big) (r : RepL F ρ ds vs) : ItOk K F ρ (.items ds) (Itt K a) := by
  have sq : ∀ {F1 : FF} {ρ1 : List Addr} {H1 : Hp} {h1 : Hh}, Lg F F1 → Rel K F1 ρ1 H1 h1 → SqT K H1 a vs := fun l R => SqT.of (R.sub _ _ (l.l _ _ ha))
  have w := walk_tup (K := K) (a := a) (xs := vs)
  refine ⟨hz, fun i x F1 ρ1 H1 h1 l p R e => ?_, fun i F1 ρ1 H1 h1 l p R e _ => ⟨vs, sq l R, by rw [r.length]; exact e⟩⟩
  have e : ds[i]? = some x := e
  have hi : i < vs.length := by rw [r.length]; exact (List.getElem?_eq_some_iff.mp e).1
  refine ⟨w.goes i H1 hi (sq l R), fun v H2 y => ?_⟩
  obtain ⟨e2, y2⟩ := w.yields i H1 v H2 hi (sq l R) y
  subst e2
  obtain ⟨v', e3, rv⟩ := r.get e
  rw [y2] at e3
  cases e3
  exact ⟨F1, Le.refl _, R, Rep.monof l.l p _ _ rv⟩
theorem itok_cell {a : Addr} {l n : Nat} (ha : ρ[l]? = some a) (hz : n ≤ big) : ItOk K F ρ (.cell l n) (Itl K a) := by
  have sq : ∀ {F1 : FF} {ρ1 : List Addr} {H1 : Hp} {h1 : Hh} {xs : List D}, Pre ρ ρ1 → Rel K F1 ρ1 H1 h1 → h1[l]? = some (.l xs) → ∃ vs, SqL K H1 a vs ∧ RepL F1 ρ1 xs vs := fun p R e => by
    obtain ⟨vs, h1, h2, h3⟩ := R.cell _ _ _ (p _ _ ha) e
    exact ⟨vs, SqL.of h1, h3⟩
  refine ⟨hz, fun i x F1 ρ1 H1 h1 _ p R e => ?_, fun i F1 ρ1 H1 h1 _ p R e _ => ?_⟩
  · obtain ⟨xs, hc, e⟩ := e
    obtain ⟨vs, s, r⟩ := sq p R hc
    have w := walk_list (K := K) (a := a) (xs := vs)
    have hi : i < vs.length := by rw [r.length]; exact (List.getElem?_eq_some_iff.mp e).1
    refine ⟨w.goes i H1 hi s, fun v H2 y => ?_⟩
    obtain ⟨e2, y2⟩ := w.yields i H1 v H2 hi s y
    subst e2
    obtain ⟨v', e3, rv⟩ := r.get e
    rw [y2] at e3
    cases e3
    exact ⟨F1, Le.refl _, R, rv⟩
  · obtain ⟨xs, hc, e⟩ := e
    obtain ⟨vs, s, r⟩ := sq p R hc
    exact ⟨vs, s, by rw [r.length]; exact e⟩
theorem rangeD_get : ∀ {n : Nat} {lo : Int} {i : Nat}, i < n → (rangeD lo n)[i]? = some (.int (lo + i))
  | n + 1, lo, 0, _ => by simp [rangeD]
  | n + 1, lo, i + 1, h => by
    rw [rangeD, List.getElem?_cons_succ, rangeD_get (by omega)]
    congr 2
    omega
theorem rangeD_length : ∀ {n : Nat} {lo : Int}, (rangeD lo n).length = n
  | 0, _ => rfl
  | n + 1, lo => by rw [rangeD, List.length_cons, rangeD_length]
theorem rangeC_get : ∀ {n : Nat} {lo c : Int} {i : Nat}, i < n → (rangeC lo c n)[i]? = some (.int (lo + (i : Nat) * c))
  | n + 1, lo, c, 0, _ => by simp [rangeC]
  | n + 1, lo, c, i + 1, h => by
    rw [rangeC, List.getElem?_cons_succ, rangeC_get (by omega)]
    congr 2
    have : ((i + 1 : Nat) : Int) * c = (i : Int) * c + c := by
      rw [show ((i + 1 : Nat) : Int) = (i : Int) + 1 by omega, Int.add_mul, Int.one_mul]
    rw [this]
    omega
theorem rangeC_length : ∀ {n : Nat} {lo c : Int}, (rangeC lo c n).length = n
  | 0, _, _ => rfl
  | n + 1, lo, c => by rw [rangeC, List.length_cons, rangeC_length]
theorem itok_range {lo : Int} {n : Nat} (hz : n ≤ big) : ItOk K F ρ (.items (rangeD lo n)) (Itr lo n) := by
  refine ⟨by rw [Walk.len, rangeD_length]; exact hz, fun i x F1 ρ1 H1 h1 l p R e => ?_, fun i F1 ρ1 H1 h1 l p R e _ => by have e : (rangeD lo n).length ≤ i := e; rw [rangeD_length] at e; exact e⟩
  have e : (rangeD lo n)[i]? = some x := e
  have hi : i < n := by have := (List.getElem?_eq_some_iff.mp e).1; rw [rangeD_length] at this; exact this
  rw [rangeD_get hi] at e
  cases e
  refine ⟨hi, fun v H2 y => ?_⟩
  obtain ⟨e2, y2⟩ := y
  subst e2
  exact ⟨F1, Le.refl _, R, y2⟩
theorem itok_rangeC {lo c : Int} {n : Nat} (hz : n ≤ big) : ItOk K F ρ (.items (rangeC lo c n)) (Itc lo c n) := by
  refine ⟨by rw [Walk.len, rangeC_length]; exact hz, fun i x F1 ρ1 H1 h1 l p R e => ?_, fun i F1 ρ1 H1 h1 l p R e _ => by have e : (rangeC lo c n).length ≤ i := e; rw [rangeC_length] at e; exact e⟩
  have e : (rangeC lo c n)[i]? = some x := e
  have hi : i < n := by have := (List.getElem?_eq_some_iff.mp e).1; rw [rangeC_length] at this; exact this
  rw [rangeC_get hi] at e
  cases e
  refine ⟨hi, fun v H2 y => ?_⟩
  obtain ⟨e2, y2⟩ := y
  subst e2
  exact ⟨F1, Le.refl _, R, y2⟩
end
theorem rep_key (F : FF) (ρ : List Addr) (k : Key) : Rep F ρ (keyD k) (kV k) := by cases k <;> rfl
theorem repL_key (F : FF) (ρ : List Addr) : ∀ ks : List Key, RepL F ρ (ks.map keyD) (ks.map kV)
  | [] => rfl
  | k :: ks => ⟨_, _, rfl, rep_key F ρ k, repL_key F ρ ks⟩
section
variable {K : PySem.W.Frag} {F : FF} {ρ : List Addr} {H : Hp} {h : Hh} {d : Addr} {od : Obj}
theorem RepK.get {kvs : List (D × D)} {ks : List (Key × V)} (r : RepK F ρ kvs ks) : ∀ {i : Nat} {k : Key} {v : V}, ks[i]? = some (k, v) → (kvs.map (·.1))[i]? = some (keyD k) := by
  induction kvs generalizing ks with
  | nil => cases r; intro i k v e; simp at e
  | cons a r2 ih =>
    obtain ⟨x, y⟩ := a
    obtain ⟨q, w, s, rfl, rfl, r1, r3⟩ := r
    intro i k v e
    cases i with
    | zero => simp at e; simp [e.1]
    | succ i => exact ih r3 (by simpa using e)
theorem RepT.get {kvs : List (D × D)} {ks : List (List Key × V)} (r : RepT F ρ kvs ks) : ∀ {i : Nat} {k : List Key} {v : V}, ks[i]? = some (k, v) → (kvs.map (·.1))[i]? = some (.tup (k.map keyD)) ∧ k.length ≤ big := by
  induction kvs generalizing ks with
  | nil => cases r; intro i k v e; simp at e
  | cons a r2 ih =>
    obtain ⟨x, y⟩ := a
    obtain ⟨q, w, s, rfl, rfl, hq, r1, r3⟩ := r
    intro i k v e
    cases i with
    | zero => simp at e; obtain ⟨rfl, rfl⟩ := e; simp [hq]
    | succ i => exact ih r3 (by simpa using e)
theorem itok_keysK {kvs : List (D × D)} {ks : List (Key × V)} (hd : F.g d = some (.frz od (.dK ks))) (hz : kvs.length ≤ big) (r : RepK F ρ kvs ks) : ItOk K F ρ (.items (kvs.map (·.1))) (Itk d od ks) := by
  have w := walk_keys (d := d) (o := od) (kvs := ks)
  refine ⟨by simpa [Walk.len] using hz, fun i x F1 ρ1 H1 h1 l p R e => ?_, fun i F1 ρ1 H1 h1 l p R e _ => ⟨(R.held _ _ (l.g _ _ hd)).1, by have e : (kvs.map (·.1)).length ≤ i := e; rw [List.length_map] at e; rw [r.length]; exact e⟩⟩
  have fz := (R.held _ _ (l.g _ _ hd)).1
  have e : (kvs.map (·.1))[i]? = some x := e
  have hi : i < ks.length := by rw [r.length]; have := (List.getElem?_eq_some_iff.mp e).1; simpa using this
  refine ⟨w.goes i H1 hi fz, fun v H2 y => ?_⟩
  obtain ⟨e2, k, v2, e3, rfl⟩ := w.yields i H1 v H2 hi fz y
  subst e2
  rw [r.get e3] at e
  cases e
  exact ⟨F1, Le.refl _, R, rep_key _ _ k⟩
theorem itok_keysT {kvs : List (D × D)} {ks : List (List Key × V)} (hd : F.g d = some (.frz od (.dT ks))) (hz : kvs.length ≤ big) (r : RepT F ρ kvs ks) : ItOk K F ρ (.items (kvs.map (·.1))) (Itkt d od ks) := by
  have w := walk_keysT (d := d) (o := od) (kvs := ks)
  refine ⟨by simpa [Walk.len] using hz, fun i x F1 ρ1 H1 h1 l p R e => ?_, fun i F1 ρ1 H1 h1 l p R e _ => ⟨(R.held _ _ (l.g _ _ hd)).1, by have e : (kvs.map (·.1)).length ≤ i := e; rw [List.length_map] at e; rw [r.length]; exact e⟩⟩
  have fz := (R.held _ _ (l.g _ _ hd)).1
  have e : (kvs.map (·.1))[i]? = some x := e
  have hi : i < ks.length := by rw [r.length]; have := (List.getElem?_eq_some_iff.mp e).1; simpa using this
  refine ⟨w.goes i H1 hi fz, fun v H2 y => ?_⟩
  obtain ⟨e2, k, v2, q, e3, rfl, hq⟩ := w.yields i H1 v H2 hi fz y
  subst e2
  obtain ⟨e4, hk⟩ := r.get e3
  rw [e4] at e
  cases e
  obtain ⟨R2, le⟩ := R.seen hq
  exact ⟨_, le, R2, q, k.map kV, rfl, upd_same, by rw [List.length_map]; exact hk, repL_key _ _ k⟩
end
/-- what an iterable's text promises: no dict -/
def tIt (K : PySem.W.Frag) (base : Nat) (W : WX) (m : Px.Env → M Walk) : TI := fun σ H R => ∃ F ρ h env, Rel K F ρ H h ∧ RepE F ρ env σ ∧ base ≤ h.length ∧ Out K F ρ (m env h) (fun w F' ρ' H' _ => (∀ l, w ≠ .keys l) ∧ ∀ J, ItOk K F' ρ' w J → R J H') (WE W σ)
theorem _root_.L2.PI.weak {X : Cx} {tg it : Expr} {t t' : TI} (h : PI X tg it t) (k : ∀ σ H R, t' σ H R → t σ H R) : PI X tg it t' := ⟨fun pins s σ H R I q => h.run pins s σ H R I (k σ H R q)⟩
section
variable {X : Cx} {W : WX} {base : Nat} {c : Cxt} (hc : ∀ f base args, Sane base (c.call f base args))
abbrev eW (c : Cxt) (base : Nat) (it : It) : Px.Env → M Walk := fun env => evIt c base env it
include hc
theorem i_ex {tg a : Expr} {a' : Ex} (ha : PE X a (tE X.K base W (eX c base a'))) : PI X tg a (tIt X.K base W (eW c base (.ex a'))) := by
  refine ⟨fun pins s σ H R I ⟨F, ρ, h, env, Rl, re, hl, out⟩ => ?_⟩
  simp only [eW, evIt, bind_at] at out
  -- the value: a list or a tuple
  have key : tE X.K base W (eX c base a') σ H fun x H1 => (∃ p, x = .ref p ∧ (∃ xs, SqL X.K H1 p xs) ∧ R (Itl X.K p) H1) ∨ (∃ p, x = .ref p ∧ (∃ xs, SqT X.K H1 p xs) ∧ R (Itt X.K p) H1) := by
    refine ⟨F, ρ, h, env, Rl, re, hl, out.bind.imp fun x h1 F1 ρ1 H1 e1 l1 p1 R1 o1 v rv => ?_⟩
    cases x with
    | tup ds =>
      obtain ⟨p, vs, rfl, hp, hz, rl⟩ := rv
      obtain ⟨_, k⟩ := Out.here o1 R1
      exact .inr ⟨p, rfl, ⟨vs, SqT.of (R1.sub _ _ hp)⟩, k _ (itok_tup hp hz rl)⟩
    | lst ds =>
      obtain ⟨p, vs, rfl, hp, hz, rl⟩ := rv
      obtain ⟨_, k⟩ := Out.here o1 R1
      exact .inl ⟨p, rfl, ⟨vs, SqL.of (R1.sub _ _ hp)⟩, k _ (itok_list (.inl hp) hz rl)⟩
    | scr ds =>
      obtain ⟨p, vs, rfl, hp, hz, rl⟩ := rv
      obtain ⟨_, k⟩ := Out.here o1 R1
      refine .inl ⟨p, rfl, ⟨vs, .inl ?_⟩, k _ (itok_list hp hz rl)⟩
      rcases hp with e | ⟨u, e⟩
      · exact .inl (R1.sub _ _ e)
      · exact .inr ⟨u, R1.sub _ _ e⟩
    | ref l =>
      obtain ⟨p, rfl, hp⟩ := rv
      simp only [walkOf, bind_at, cellAt] at o1
      obtain ⟨ce, hce, x'⟩ := R1.at' hp
      rw [hce] at o1
      cases ce with
      | l ds =>
        obtain ⟨vs, k1, k2, k3⟩ := x'
        obtain ⟨_, k⟩ := Out.here o1 R1
        exact .inl ⟨p, rfl, ⟨vs, SqL.of k1⟩, k _ (itok_cell hp k2)⟩
      | d t kvs => exact absurd rfl ((Out.here o1 R1).1 l)
      | _ => exact o1.elim
    | _ => exact o1.elim
  refine thn (ha.run pins s σ H _ I key) fun v s1 ⟨x, H1, I1, r1, q1⟩ => ?_
  have fresh : ∀ b ∈ [s1.heap.objs.size], FpOk X pins H1 b := fun b hb => by
    have e : b = s1.heap.objs.size := by simpa using hb
    subst e
    exact I1.fpOk (Nat.le_refl _) (I1.hok.fresh (Nat.le_refl _))
  rcases q1 with ⟨p, e, ⟨xs, hq⟩, q⟩ | ⟨p, e, ⟨xs, hq⟩, q⟩
  · subst e
    cases r1
    obtain ⟨its, rv, pl, hz⟩ := I1.list hq
    exact wpAny_pyIter_list pl.isList ⟨s1.heap.objs.size, [s1.heap.objs.size], _, _, H1, rfl, I1.kept (t' := s1.toks) fun b o e => Heap.get?_push_of_some _ e, turn_list p _, ⟨_, Heap.get?_push_size _ rfl, rfl, rfl⟩, fresh, q⟩
  · subst e
    cases r1
    obtain ⟨its, rv, pl, hz⟩ := I1.tuple hq
    exact wpAny_pyIter_tuple (show s1.heap.IsTuple p its.toArray from pl) ⟨s1.heap.objs.size, [s1.heap.objs.size], _, _, H1, rfl, I1.kept (t' := s1.toks) fun b o e => Heap.get?_push_of_some _ e, turn_tuple p _, ⟨_, Heap.get?_push_size _ rfl, rfl, rfl⟩, fresh, q⟩
/-- the bounds of ranges -/
theorem rangeW_out {K : PySem.W.Frag} {F : FF} {ρ : List Addr} {H : Hp} {h : Hh} {i j : Int} {E : XK} {Q : L2.It → Hp → Prop} (R : Rel K F ρ H h) (out : Out K F ρ (rangeW i j h) (fun w F' ρ' H' _ => (∀ l, w ≠ .keys l) ∧ ∀ J, ItOk K F' ρ' w J → Q J H') E) :
    (-(2 ^ 62) ≤ i ∧ i < 2 ^ 62 ∧ -(2 ^ 62) ≤ j ∧ j < 2 ^ 62) ∧ Q (Itr i (j - i).toNat) H := by
  unfold rangeW at out
  split at out
  · rename_i hs
    simp only [Bool.and_eq_true, decide_eq_true_eq] at hs
    obtain ⟨_, k⟩ := Out.here out R
    exact ⟨by omega, k _ (itok_range hs.2.2)⟩
  · exact out.elim
theorem i_range1 {tg a : Expr} {a' : Ex} {p pos : Pos} (hg : Gl X "range") (hm : X.mg "range" = none) (hn : ns a = true) (ha : PE X a (tE X.K base W (eX c base a'))) : PI X tg (.Call (.Name "range" p) [a] [] pos) (tIt X.K base W (eW c base (.range1 a'))) := by
  refine (pi_range1 hg hm (s_cons hc hn ha (s_nil hc)) (star_cons hn)).weak fun σ H R ⟨F, ρ, h, env, Rl, re, hl, out⟩ => ?_
  simp only [eW, evIt, bind_at] at out
  refine ⟨F, ρ, h, env, Rl, re, hl, ?_⟩
  simp only [eXs, evEs, bind_at]
  cases e1 : evE c base env a' h with
  | stuck => rw [e1] at out; exact out
  | exc z h1 => rw [e1] at out; exact out
  | ok x h1 =>
    rw [e1] at out
    intro F1 ρ1 H1 l1 p1 R1 vs rvs
    have out := out.ext l1 p1
    cases x with
    | int j =>
      obtain ⟨w, ws, rfl, rw', rn⟩ := rvs
      cases rw'
      cases rn
      obtain ⟨q1, q2⟩ := rangeW_out hc R1 out
      exact ⟨j, rfl, q1.2.2.1, q1.2.2.2, by simpa using q2⟩
    | _ => exact out.elim
theorem i_range2 {tg a b : Expr} {a' b' : Ex} {p pos : Pos} (hg : Gl X "range") (hm : X.mg "range" = none) (hn : ns a = true) (hn2 : ns b = true) (ha : PE X a (tE X.K base W (eX c base a'))) (hb : PE X b (tE X.K base W (eX c base b'))) :
    PI X tg (.Call (.Name "range" p) [a, b] [] pos) (tIt X.K base W (eW c base (.range2 a' b'))) := by
  refine (pi_range2 hg hm (s_cons hc hn ha (s_cons hc hn2 hb (s_nil hc))) (by rw [star_cons hn, star_cons hn2]; rfl) (star_cons hn2)).weak fun σ H R ⟨F, ρ, h, env, Rl, re, hl, out⟩ => ?_
  simp only [eW, evIt, bind_at] at out
  refine ⟨F, ρ, h, env, Rl, re, hl, ?_⟩
  simp only [eXs, evEs, bind_at]
  cases e1 : evE c base env a' h with
  | stuck => rw [e1] at out; exact out
  | exc z h1 => rw [e1] at out; exact out
  | ok x h1 =>
    rw [e1] at out
    simp only [bind_ok, bind_at] at out ⊢
    cases e2 : evE c base env b' h1 with
    | stuck => rw [e2] at out; exact out
    | exc z h2 => rw [e2] at out; exact out
    | ok y h2 =>
      rw [e2] at out
      intro F1 ρ1 H1 l1 p1 R1 vs rvs
      have out := out.ext l1 p1
      cases x with
      | int i =>
        cases y with
        | int j =>
          obtain ⟨w, ws, rfl, rw', w2, ws2, rfl, rw2, rn⟩ := rvs
          cases rw'
          cases rw2
          cases rn
          obtain ⟨q1, q2⟩ := rangeW_out hc R1 out
          exact ⟨i, j, rfl, q1, q2⟩
        | _ => exact out.elim
      | _ => exact out.elim
theorem i_range3 {tg a b d : Expr} {a' b' d' : Ex} {p pos : Pos} (hg : Gl X "range") (hm : X.mg "range" = none) (hn : ns a = true) (hn2 : ns b = true) (hn3 : ns d = true) (ha : PE X a (tE X.K base W (eX c base a'))) (hb : PE X b (tE X.K base W (eX c base b')))
    (hd : PE X d (tE X.K base W (eX c base d'))) : PI X tg (.Call (.Name "range" p) [a, b, d] [] pos) (tIt X.K base W (eW c base (.range3 a' b' d'))) := by
  refine (pi_range3 hg hm (s_cons hc hn ha (s_cons hc hn2 hb (s_cons hc hn3 hd (s_nil hc)))) (star_cons hn) (star_plain (by simp [hn2, hn3]))).weak fun σ H R ⟨F, ρ, h, env, Rl, re, hl, out⟩ => ?_
  simp only [eW, evIt, bind_at] at out
  refine ⟨F, ρ, h, env, Rl, re, hl, ?_⟩
  simp only [eXs, evEs, bind_at]
  cases e1 : evE c base env a' h with
  | stuck => rw [e1] at out; exact out
  | exc z h1 => rw [e1] at out; exact out
  | ok x h1 =>
    rw [e1] at out
    simp only [bind_ok, bind_at] at out ⊢
    cases e2 : evE c base env b' h1 with
    | stuck => rw [e2] at out; exact out
    | exc z h2 => rw [e2] at out; exact out
    | ok y h2 =>
      rw [e2] at out
      simp only [bind_ok, bind_at] at out ⊢
      cases e3 : evE c base env d' h2 with
      | stuck => rw [e3] at out; exact out
      | exc z h3 => rw [e3] at out; exact out
      | ok z h3 =>
        rw [e3] at out
        intro F1 ρ1 H1 l1 p1 R1 vs rvs
        have out2 := out.ext l1 p1
        clear out
        cases x with
        | int i =>
          cases y with
          | int j =>
            cases z with
            | int k =>
              obtain ⟨w, ws, rfl, rw', w2, ws2, rfl, rw2, w3, ws3, rfl, rw3, rn⟩ := rvs
              cases rw'
              cases rw2
              cases rw3
              cases rn
              simp only [asInt, ret_at, bind_ok, bind_at] at out2
              split at out2
              · rename_i hs
                simp only [Bool.and_eq_true, decide_eq_true_eq] at hs
                obtain ⟨rfl, hs⟩ := hs
                obtain ⟨_, k⟩ := Out.here out2 R1
                exact ⟨i, j, -1, _, rfl, RgC.neg (by omega) (by omega) (by omega) (by omega), k _ (itok_rangeC hs.2.2)⟩
              · exact out2.elim
            | _ => exact out2.elim
          | _ => cases z <;> exact out2.elim
        | _ => cases y <;> cases z <;> exact out2.elim
end
end Px

set_option autoImplicit false
set_option linter.all false
set_option maxRecDepth 100000
/-! Targets. -/
namespace Px
open PySem L2 PySem.Spec PyProof.Rows
/-- the slots without S are alike -/
def Agree (S : List Nat) (σ σ' : L2.St) : Prop := σ'.length = σ.length ∧ ∀ i, i ∉ S → σ'[i]? = σ[i]?
theorem Agree.refl (S : List Nat) (σ : L2.St) : Agree S σ σ := ⟨rfl, fun _ _ => rfl⟩
theorem Agree.trans {S : List Nat} {a b c : L2.St} (h : Agree S a b) (k : Agree S b c) : Agree S a c := ⟨k.1.trans h.1, fun i hi => (k.2 i hi).trans (h.2 i hi)⟩
theorem Agree.mono {S T : List Nat} {a b : L2.St} (h : Agree S a b) (k : ∀ i, i ∈ S → i ∈ T) : Agree T a b := ⟨h.1, fun i hi => h.2 i fun z => hi (k i z)⟩
theorem Agree.set {S : List Nat} {σ : L2.St} {i : Nat} {v : Option V} (hi : i ∈ S) : Agree S σ (σ.set i v) := ⟨List.length_set .., fun j hj => List.getElem?_set_ne (fun z : i = j => hj (z ▸ hi))⟩
theorem wipe_at {σ : L2.St} {j : Nat} : ∀ {vs : List Nat}, j ∈ vs → (wipe σ vs)[j]? = if j < σ.length then some none else none
  | v :: vs, h => by
    unfold wipe
    by_cases hv : v = j
    · subst hv
      by_cases hl : v < σ.length
      · rw [List.getElem?_set_self (by rw [wipe_length]; exact hl), if_pos hl]
      · rw [List.getElem?_eq_none (by rw [List.length_set, wipe_length]; omega), if_neg hl]
    · rw [List.getElem?_set_ne hv]
      exact wipe_at ((List.mem_cons.mp h).resolve_left fun z => hv z.symm)
theorem wipe_off {σ : L2.St} {j : Nat} : ∀ {vs : List Nat}, j ∉ vs → (wipe σ vs)[j]? = σ[j]?
  | [], _ => rfl
  | v :: vs, h => by
    unfold wipe
    rw [List.getElem?_set_ne (fun z : v = j => h (by rw [z]; exact List.mem_cons_self))]
    exact wipe_off fun z => h (List.mem_cons_of_mem _ z)
theorem Agree.wipe {S vs : List Nat} {a b : L2.St} (h : Agree S a b) (k : ∀ i, i ∈ S → i ∈ vs) : L2.wipe b vs = L2.wipe a vs := by
  refine List.ext_getElem? fun j => ?_
  by_cases hj : j ∈ vs
  · rw [wipe_at hj, wipe_at hj, h.1]
  · rw [wipe_off hj, wipe_off hj, h.2 j fun z => hj (k j z)]
theorem wipe_wipe {σ : L2.St} {vs : List Nat} : L2.wipe (L2.wipe σ vs) vs = L2.wipe σ vs := by
  refine List.ext_getElem? fun j => ?_
  by_cases hj : j ∈ vs
  · rw [wipe_at hj, wipe_at hj, wipe_length]
  · rw [wipe_off hj]
theorem RepE.wipe {F : FF} {ρ : List Addr} {env : Px.Env} {σ : L2.St} (r : RepE F ρ env σ) : ∀ vs : List Nat, RepE F ρ (wipeE env vs) (L2.wipe σ vs)
  | [] => r
  | v :: vs => by
    obtain ⟨h1, h2⟩ := RepE.wipe r vs
    unfold wipeE L2.wipe
    refine ⟨by rw [List.length_set, List.length_set]; exact h1, fun i d e => ?_⟩
    by_cases hv : v = i
    · subst hv
      by_cases hl : v < (wipeE env vs).length
      · rw [List.getElem?_set_self hl] at e
        cases e
      · rw [List.getElem?_eq_none (by rw [List.length_set]; omega)] at e
        cases e
    · rw [List.getElem?_set_ne hv] at e ⊢
      exact h2 i d e
/-- what a target promises; S: the slots it stores -/
def gT (K : PySem.W.Frag) (S : List Nat) (m : D → Px.Env → M Px.Env) : TG := fun v σ H Q => ∃ F ρ h env d E, Rel K F ρ H h ∧ Rep F ρ d v ∧ RepE F ρ env σ ∧ Out K F ρ (m d env h) (fun env' F' ρ' H' _ => ∀ σ', RepE F' ρ' env' σ' → Agree S σ σ' → Q σ' H') E
def gTs (K : PySem.W.Frag) (S : List Nat) (m : List D → Px.Env → M Px.Env) : TGs := fun vs σ H Q => ∃ F ρ h env ds E, Rel K F ρ H h ∧ RepL F ρ ds vs ∧ RepE F ρ env σ ∧ Out K F ρ (m ds env h) (fun env' F' ρ' H' _ => ∀ σ', RepE F' ρ' env' σ' → Agree S σ σ' → Q σ' H') E
theorem _root_.L2.PG.weak {X : Cx} {tg : Expr} {t t' : TG} (h : PG X tg t) (k : ∀ v σ H Q, t' v σ H Q → t v σ H Q) : PG X tg t' := ⟨fun pins s σ H v u Q I r q => h.run pins s σ H v u Q I r (k v σ H Q q)⟩
theorem _root_.L2.PGs.weak {X : Cx} {tg : List Expr} {t t' : TGs} (h : PGs X tg t) (k : ∀ v σ H Q, t' v σ H Q → t v σ H Q) : PGs X tg t' := ⟨fun pins s σ H v u Q I r q => h.run pins s σ H v u Q I r (k v σ H Q q)⟩
theorem asg_cons {e : Expr} {es : List Expr} {env : PySem.Env} (h : ns e = true) : assignEach (e :: es) env = (false, assign e env) :: assignEach es env := by
  cases e <;> first | rfl | cases h
theorem asg_length {env : PySem.Env} : ∀ {es : List Expr}, es.all ns = true → (assignEach es env).length = es.length
  | [], _ => rfl
  | e :: es, h => by
    rw [List.all_cons, Bool.and_eq_true] at h
    rw [asg_cons h.1, List.length_cons, List.length_cons, asg_length h.2]
theorem asg_plain {env : PySem.Env} : ∀ {es : List Expr}, es.all ns = true → (assignEach es env).findIdx? (·.1) = none
  | [], _ => rfl
  | e :: es, h => by
    rw [List.all_cons, Bool.and_eq_true] at h
    rw [asg_cons h.1, List.findIdx?_cons]
    simp [asg_plain h.2]
section
variable {X : Cx}
theorem g_name {i : Nat} {x : Str} {pos : Pos} (hN : X.N.Nodup) (hi : X.N[i]? = some x) (hx : Loc X.env.scope x) (hf : X.fn x = true ∨ X.env.scope.names.lookup x = some .local) : PG X (.Name x pos) (gT X.K [i] (bindTg (.name i))) :=
  (pg_name hN hi hx hf).weak fun v σ H Q ⟨F, ρ, h, env, d, E, R, rd, re, out⟩ => by
    simp only [bindTg] at out
    exact Out.here out R _ (re.set i rd) (Agree.set List.mem_cons_self)
theorem g_nil : PGs X [] (gTs X.K [] (bindTgs [])) :=
  pgs_nil.weak fun v σ H Q ⟨F, ρ, h, env, ds, E, R, rd, re, out⟩ => by
    cases ds with
    | nil =>
      simp only [bindTgs] at out
      cases rd
      exact ⟨rfl, Out.here out R _ re (Agree.refl _ _)⟩
    | cons d ds => simp only [bindTgs] at out; exact out.elim
theorem g_cons {e : Expr} {es : List Expr} {t : Tg} {ts : List Tg} {S T : List Nat} (hn : ns e = true) (h : PG X e (gT X.K S (bindTg t))) (k : PGs X es (gTs X.K T (bindTgs ts))) : PGs X (e :: es) (gTs X.K (S ++ T) (bindTgs (t :: ts))) := by
  refine (pgs_cons h k (by rw [asg_cons hn]; rfl)).weak fun v σ H Q ⟨F, ρ, h, env, ds, E, R, rd, re, out⟩ => ?_
  cases ds with
  | nil => simp only [bindTgs] at out; exact out.elim
  | cons d ds =>
    simp only [bindTgs, bind_at] at out
    obtain ⟨w, ws, rfl, r1, r2⟩ := rd
    refine ⟨w, ws, rfl, F, ρ, h, env, d, E, R, r1, re, out.bind.imp fun env1 h1 F1 ρ1 H1 e1 l1 p1 R1 o1 σ1 re1 a1 => ?_⟩
    refine ⟨F1, ρ1, h1, env1, ds, E, R1, RepL.mono l1 p1 _ _ r2, re1, o1.imp fun env2 h2 F2 ρ2 H2 e2 l2 p2 R2 o2 σ2 re2 a2 => ?_⟩
    exact o2 σ2 re2 ((a1.mono fun i hi => List.mem_append_left _ hi).trans (a2.mono fun i hi => List.mem_append_right _ hi))
theorem bindTgs_length {ts : List Tg} : ∀ {ds : List D} {env : Px.Env} {h : Hh}, ds.length ≠ ts.length → ∀ env' h', bindTgs ts ds env h ≠ .ok env' h' := by
  induction ts with
  | nil =>
    intro ds env h hl env' h' e
    cases ds with
    | nil => exact hl rfl
    | cons _ _ => simp only [bindTgs] at e; cases e
  | cons t ts ih =>
    intro ds env h hl env' h' e
    cases ds with
    | nil => simp only [bindTgs] at e; cases e
    | cons d ds =>
      simp only [bindTgs, bind_at] at e
      cases q : bindTg t d env h with
      | ok env1 h1 =>
        rw [q] at e
        exact ih (by simpa using hl) env' h' e
      | exc z h1 => rw [q] at e; cases e
      | stuck => rw [q] at e; cases e
mutual
theorem bindTg_noexc : ∀ (t : Tg) (d : D) (env : Px.Env) (h : Hh) (z : Exn) (h' : Hh), bindTg t d env h ≠ .exc z h'
  | .name i, d, env, h, z, h', e => by simp only [bindTg] at e; cases e
  | .tup ts, d, env, h, z, h', e => by
    simp only [bindTg, bind_at] at e
    have : ∀ z h', seqOf d h ≠ .exc z h' := by
      intro z h' q
      cases d with
      | ref l =>
        have q : (cellAt l h).bind _ = _ := q
        cases e2 : h[l]? with
        | none => rw [cellAt_none e2] at q; cases q
        | some ce =>
          rw [cellAt_some e2] at q
          cases ce <;> cases q
      | _ => cases q
    cases q : seqOf d h with
    | ok xs h1 => rw [q] at e; exact bindTgs_noexc ts xs env h1 z h' e
    | exc w h1 => exact this w h1 q
    | stuck => rw [q] at e; cases e
theorem bindTgs_noexc : ∀ (ts : List Tg) (ds : List D) (env : Px.Env) (h : Hh) (z : Exn) (h' : Hh), bindTgs ts ds env h ≠ .exc z h'
  | [], [], env, h, z, h', e => by simp only [bindTgs] at e; cases e
  | [], _ :: _, env, h, z, h', e => by simp only [bindTgs] at e; cases e
  | _ :: _, [], env, h, z, h', e => by simp only [bindTgs] at e; cases e
  | t :: ts, d :: ds, env, h, z, h', e => by
    simp only [bindTgs, bind_at] at e
    cases q : bindTg t d env h with
    | ok env1 h1 => rw [q] at e; exact bindTgs_noexc ts ds env1 h1 z h' e
    | exc w h1 => exact bindTg_noexc t d env h w h1 q
    | stuck => rw [q] at e; cases e
end
theorem g_tup {es : List Expr} {ts : List Tg} {k : Nat} {pos : Pos} {S : List Nat} (hc : X.calm = true) (hn : es.all ns = true) (hl : es.length = ts.length) (h : PGs X es (gTs X.K S (bindTgs ts))) : PG X (.Tuple es k pos) (gT X.K S (bindTg (.tup ts))) := by
  refine ⟨fun pins s σ H v u Q I r ⟨F, ρ, h', env, d, E, R, rd, re, out⟩ => ?_⟩
  simp only [bindTg, bind_at] at out
  obtain ⟨p, ds, vs, rfl, hp, hz, rl, out⟩ := seqOf_at R rd out
  have len : vs.length = es.length := by
    rw [rl.length, hl]
    by_cases q : ds.length = ts.length
    · exact q
    · cases e : bindTgs ts ds env h' with
      | ok env1 h1 => exact absurd e (bindTgs_length q env1 h1)
      | exc z h1 => exact absurd e (bindTgs_noexc ts ds env h' z h1)
      | stuck => rw [e] at out; exact out.elim
  rcases hp with hp | hp
  · exact (pg_unl hc h (asg_length hn) (asg_plain hn)).run pins s σ H _ u Q I r ⟨p, vs, rfl, SqL.of hp, len, F, ρ, h', env, ds, E, R, rl, re, out⟩
  · exact (pg_tup hc h (asg_length hn) (asg_plain hn)).run pins s σ H _ u Q I r ⟨p, vs, rfl, SqT.of hp, len, F, ρ, h', env, ds, E, R, rl, re, out⟩
end
/-- a target of the text -/
theorem trTg_ns {N : List Str} {n : Nat} {sc : Scope} {e : Expr} {t : Tg} (h : trTg N n sc e = some t) : ns e = true := by
  cases n with
  | zero => cases h
  | succ n => cases e <;> first | rfl | cases h
theorem g_all {N : List Str} {sc : Scope} {X : Cx} (hN : X.N = N) (nd : N.Nodup) (hcalm : X.calm = true) (hl : ∀ x, Px.loc sc x = true → Loc X.env.scope x) (hst : ∀ x, Px.loc sc x = true → X.fn x = true ∨ X.env.scope.names.lookup x = some .local) :
    ∀ (n : Nat) (e : Expr) (t : Tg), trTg N n sc e = some t → PG X e (gT X.K (tgSlots t) (bindTg t))
  | 0, _, _, h => by cases h
  | n + 1, e, t, h => by
    cases e with
    | Name x pos =>
      simp only [trTg] at h
      split at h
      · rename_i hx
        cases q : slotOf N x with
        | none => rw [q] at h; cases h
        | some i =>
          rw [q] at h
          cases h
          exact g_name (hN ▸ nd) (hN ▸ slotOf_get q) (hl x hx) (hst x hx)
      · cases h
    | Tuple es k pos =>
      simp only [trTg] at h
      cases q : trL (trTg N n sc) es with
      | none => rw [q] at h; cases h
      | some ts =>
        rw [q] at h
        cases h
        have key : ∀ (es : List Expr) (ts : List Tg), trL (trTg N n sc) es = some ts → es.all ns = true ∧ es.length = ts.length ∧ PGs X es (gTs X.K (tgSlots.tgSlotsL ts) (bindTgs ts)) := by
          intro es
          induction es with
          | nil =>
            intro ts h
            cases trL_nil h
            exact ⟨rfl, rfl, g_nil⟩
          | cons e es ih =>
            intro ts h
            obtain ⟨y, s, rfl, h1, h2⟩ := trL_cons h
            obtain ⟨i1, i2, i3⟩ := ih s h2
            have hn := trTg_ns h1
            exact ⟨by rw [List.all_cons, hn, i1]; rfl, by simp [i2], g_cons hn (g_all hN nd hcalm hl hst n e y h1) i3⟩
        obtain ⟨k1, k2, k3⟩ := key es ts q
        exact g_tup hcalm k1 k2 k3
    | _ => simp only [trTg] at h; cases h
end Px

set_option autoImplicit false
set_option linter.all false
set_option maxRecDepth 100000
/-! List comprehensions. -/
namespace Px
open PySem L2 PySem.Spec PyProof.Rows
/-- what is left of a walk from turn i on -/
def restI (f : D → M (List D)) (w : Walk) (i : Nat) : M (List D) := match w with
  | .items xs => collectI f (xs.drop i)
  | .cell l n => collectC l n f (n - i)
  | .keys _ => fail
theorem rest_step (f : D → M (List D)) (w : Walk) {i : Nat} (hi : i < w.len) (h : Hh) : restI f w i h = .stuck ∨ ∃ x, ItemAt w h i x ∧ restI f w i h = (f x h).bind fun a => bind (restI f w (i + 1)) fun b => ret (a ++ b) := by
  cases w with
  | items xs =>
    have hi : i < xs.length := hi
    refine .inr ⟨xs[i], by simp [ItemAt, hi], ?_⟩
    show collectI f (xs.drop i) h = _
    rw [List.drop_eq_getElem_cons hi]
    rfl
  | cell l n =>
    have hi : i < n := hi
    show collectC l n f (n - i) h = .stuck ∨ _
    have e : n - i = (n - (i + 1)) + 1 := by omega
    have e2 : n - (n - (i + 1) + 1) = i := by omega
    cases q : h[l]? with
    | none =>
      refine .inl ?_
      rw [e]
      simp only [collectC, bind_at, cellAt_none q, bind_stuck]
    | some ce =>
      cases ce with
      | l xs =>
        cases q2 : xs[i]? with
        | none =>
          refine .inl ?_
          rw [e]
          simp only [collectC, bind_at, cellAt_some q, bind_ok, e2, q2, fail_at]
        | some x =>
          refine .inr ⟨x, ⟨xs, q, q2⟩, ?_⟩
          show collectC l n f (n - i) h = _
          rw [e]
          simp only [collectC, bind_at, cellAt_some q, bind_ok, e2, q2]
          rfl
      | _ =>
        refine .inl ?_
        rw [e]
        simp only [collectC, bind_at, cellAt_some q, bind_ok, fail_at]
  | keys l => cases hi
theorem rest_end (f : D → M (List D)) (w : Walk) (h : Hh) : restI f w w.len h = .stuck ∨ (EndsAt w h w.len ∧ restI f w w.len h = .ok [] h) := by
  cases w with
  | items xs =>
    refine .inr ⟨Nat.le_refl _, ?_⟩
    show collectI f (xs.drop xs.length) h = _
    rw [List.drop_length]
    rfl
  | cell l n =>
    show collectC l n f (n - n) h = .stuck ∨ (_ ∧ collectC l n f (n - n) h = _)
    rw [Nat.sub_self]
    cases q : h[l]? with
    | none => exact .inl (by simp only [collectC, bind_at, cellAt_none q, bind_stuck])
    | some ce =>
      cases ce with
      | l xs =>
        by_cases hx : xs.length ≤ n
        · exact .inr ⟨⟨xs, q, hx⟩, by simp only [collectC, bind_at, cellAt_some q, bind_ok, if_pos hx, ret_at]⟩
        · exact .inl (by simp only [collectC, bind_at, cellAt_some q, bind_ok, if_neg hx, fail_at])
      | _ => exact .inl (by simp only [collectC, bind_at, cellAt_some q, bind_ok, fail_at])
  | keys l => exact .inl rfl
theorem collect_rest (f : D → M (List D)) {w : Walk} (hw : ∀ l, w ≠ .keys l) : collect f w = restI f w 0 := by
  cases w with
  | items xs => rfl
  | cell l n => rfl
  | keys l => exact absurd rfl (hw l)
section
variable {X : Cx} {W : WX} {base : Nat} {c : Cxt} (hc : ∀ f base args, Sane base (c.call f base args))
abbrev eIs (c : Cxt) (base : Nat) (es : List Ex) : Px.Env → M Bool := fun env => evIfs c base env es
theorem tests_false {env : PySem.Env} : ∀ (cs : List Expr), (forIn cs false fun (c : Expr) (r : Bool) => if r = true then do let ok ← isTrue c env (eval c env); pure (ForInStep.yield ok) else pure (ForInStep.yield r)) = (pure false : Sem Bool)
  | [] => rfl
  | c :: cs => by
    rw [List.forIn_cons]
    exact tests_false cs
theorem pts_cons {e : Expr} {cs : List Expr} {t u : TT} (he : PT X e t) (hr : PTs X cs u) : PTs X (e :: cs) (fun σ H Q => t σ H fun b H1 => if b = true then u σ H1 Q else Q false H1) := by
  refine ⟨fun pins s σ H Q I h => ?_⟩
  rw [List.forIn_cons]
  refine wpAny_bind (wpAny_bind (thn (he.run pins s σ H _ I h) fun b s1 ⟨H1, I1, q1⟩ => wpAny_pure ?_))
  cases b with
  | true => exact hr.run pins s1 σ H1 Q I1 q1
  | false =>
    show wpAny _ _ (forIn cs false _) _ _ s1
    rw [tests_false]
    exact wpAny_pure ⟨H1, I1, q1⟩
theorem s_ifs_nil : PTs X [] (tTst X.K base W (eIs c base [])) :=
  ⟨fun pins s σ H Q I ⟨F, ρ, h, env, R, re, hl, out⟩ => pts_nil.run pins s σ H Q I (by
    simp only [eIs, evIfs] at out
    exact Out.here out R)⟩
include hc
theorem s_ifs_cons {e : Expr} {es : List Expr} {e' : Ex} {es' : List Ex} (he : PT X e (tTst X.K base W (eT c base e'))) (hr : PTs X es (tTst X.K base W (eIs c base es'))) : PTs X (e :: es) (tTst X.K base W (eIs c base (e' :: es'))) := by
  refine ⟨fun pins s σ H Q I ⟨F, ρ, h, env, R, re, hl, out⟩ => (pts_cons he hr).run pins s σ H Q I ?_⟩
  have e1 : eIs c base (e' :: es') env h = (eT c base e' env h).bind fun b => if b then evIfs c base env es' else ret false := by
    simp only [eIs, eT, evIfs, bind_at, Res.bind_assoc]
    rfl
  rw [e1] at out
  refine ⟨F, ρ, h, env, R, re, hl, out.bind.imp fun k h1 F1 ρ1 H1 e2 l1 p1 R1 o1 => ?_⟩
  have hl1 := grow (sane_bind (sane_evE hc base env e') fun x => (still_truthy x).sane) hl e2
  cases k with
  | true => exact ⟨F1, ρ1, h1, env, R1, re.mono l1 p1, hl1, o1⟩
  | false => exact Out.here o1 R1
/-- nothing may leave a block -/
abbrev W0 : WX := fun _ _ _ _ => False
/-- a block's body -/
def bodyL (c : Cxt) (base : Nat) (env : Px.Env) (vs : List Nat) (e : Ex) (tg : Tg) (ifs : List Ex) : D → M (List D) := fun x => nox <| bind (bindTg tg x (wipeE env vs)) fun env' => bind (evIfs c base env' ifs) fun b =>
  if b then bind (evE c base env' e) fun y => ret [y] else ret []
/-- the loop of a block, from the iterator's coming -/
theorem lc_loop {F : FF} {g0 : Hp} {ρ : List Addr} {H : Hp} {h : Hh} {env : Px.Env} {σ : L2.St} {vs : List Nat} {e : Ex} {tg : Tg} {ifs : List Ex} {w : Walk} {J : L2.It} {fin : List D → M D} {E : XK} {p0 : Addr} {Qd : Hp → Prop}
    (R : Rel X.K F ρ H h) (re : RepE F ρ env σ) (hl : base ≤ h.length) (ok : ItOk X.K F ρ w J) (hS : ∀ i, i ∈ tgSlots tg → i ∈ vs) (hD : H p0 = none) (hg0 : ∀ a o, g0 a = some o → F.g a = some o) {Φ : D → FF → List Addr → Hp → Hh → Prop}
    (out : Out X.K ⟨F.f, g0⟩ ρ ((restI (bodyL c base env vs e tg ifs) w 0 h).bind fin) Φ E)
    (hd : ∀ (f' : Hp) (ρ' : List Addr) (H' : Hp) (h' : Hh) (acc : List D) (avs : List V), Lf F ⟨f', g0⟩ → Pre ρ ρ' → Rel X.K ⟨f', upd F.g p0 (.lst avs)⟩ ρ' H' h' → acc.length ≤ big → RepL ⟨f', g0⟩ ρ' acc avs → Out X.K ⟨f', g0⟩ ρ' (fin acc h') Φ E → Qd H') :
    ∃ Wi : Nat → Nat → Hp → Prop, (∃ m, Wi 0 m (upd H p0 (.lst []))) ∧ ∀ i m H, Wi i m H →
      (J.stop i H ∧ Qd H) ∨ (J.go i H ∧ ∃ Nx : Hp → Prop, (∀ H', Nx H' → ∃ m', m' < m ∧ Wi (i + 1) m' H') ∧ ∀ x H', J.yld i H x H' → gT X.K (tgSlots tg) (bindTg tg) x (wipe σ vs) H' fun σ2 H2 => wipe σ2 vs = wipe σ vs ∧ tTst X.K base W0 (eIs c base ifs) σ2 H2 fun b H3 =>
        if b = true then tE X.K base W0 (eX c base e) σ2 H3 fun y H4 => ∃ acc, H4 p0 = some (.lst acc) ∧ acc.length < sizeLine ∧ Nx (upd H4 p0 (.lst (acc ++ [y]))) else Nx H3) := by
  have hgD := R.gnone hD
  have hg1 : ∀ {avs : List V} (a : Addr) (o : HO), F.g a = some o → upd F.g p0 (.lst avs) a = some o := fun a o q => by rw [upd_ne (ne_of_none q hgD)]; exact q
  have hg : ∀ {avs : List V} (a : Addr) (o : HO), g0 a = some o → upd F.g p0 (.lst avs) a = some o := fun a o q => hg1 a o (hg0 a o q)
  refine ⟨fun i m H' => m = w.len - i ∧ i ≤ w.len ∧ ∃ (f' : Hp) (ρ' : List Addr) (h' : Hh) (acc : List D) (avs : List V), Lf F ⟨f', g0⟩ ∧ Pre ρ ρ' ∧ Rel X.K ⟨f', upd F.g p0 (.lst avs)⟩ ρ' H' h' ∧ acc.length ≤ i ∧ RepL ⟨f', g0⟩ ρ' acc avs ∧ base ≤ h'.length ∧
    Out X.K ⟨f', g0⟩ ρ' ((restI (bodyL c base env vs e tg ifs) w i h').bind fun b => fin (acc ++ b)) Φ E,
    ⟨w.len, by simp, Nat.zero_le _, F.f, ρ, h, [], [], fun _ _ h => h, Pre.refl ρ, R.hold hD (.inl ⟨[], rfl⟩), Nat.le_refl _, rfl, hl, ?_⟩, ?_⟩
  · simpa using out
  rintro i m H' ⟨rfl, hi, f', ρ', h', acc, avs, lf, lp, R', hz, ra, hl', out'⟩
  by_cases hlt : i < w.len
  · refine .inr ?_
    rcases rest_step (bodyL c base env vs e tg ifs) w hlt h' with st | ⟨x, hx, st⟩
    · rw [st] at out'; exact out'.elim
    rw [st, Res.bind_assoc] at out'
    obtain ⟨go, yl⟩ := ok.go i x ⟨f', upd F.g p0 (.lst avs)⟩ ρ' H' h' ⟨lf, hg1⟩ lp R' hx
    refine ⟨go, fun H2 => ∃ (f' : Hp) (ρ' : List Addr) (h' : Hh) (acc : List D) (avs : List V), Lf F ⟨f', g0⟩ ∧ Pre ρ ρ' ∧ Rel X.K ⟨f', upd F.g p0 (.lst avs)⟩ ρ' H2 h' ∧ acc.length ≤ i + 1 ∧ RepL ⟨f', g0⟩ ρ' acc avs ∧ base ≤ h'.length ∧
      Out X.K ⟨f', g0⟩ ρ' ((restI (bodyL c base env vs e tg ifs) w (i + 1) h').bind fun b => fin (acc ++ b)) Φ E,
      fun H2 q => ⟨w.len - (i + 1), by omega, rfl, hlt, q⟩, fun v H2 y => ?_⟩
    obtain ⟨F2, l2, R2, rx⟩ := yl v H2 y
    have g2 : F2.g = upd F.g p0 (.lst avs) := l2.g
    have out2 := out'.ext (F' := ⟨F2.f, g0⟩) (ρ' := ρ') ⟨l2.l, rfl⟩ (Pre.refl _)
    have out3 := (out2.bind.held (g := F2.g) (by rw [g2]; exact hg)).nox (fun _ _ _ => False)
    have re2 : RepE F2 ρ' (wipeE env vs) (wipe σ vs) := ((show RepE F2 ρ' env σ from ⟨re.1, fun j d q => let ⟨v, a, b⟩ := re.2 j d q; ⟨v, a, Rep.monof (fun a o q => l2.l a o (lf a o q)) lp d v b⟩⟩)).wipe vs
    refine ⟨F2, ρ', h', wipeE env vs, x, _, R2, rx, re2, out3.bind.imp fun env3 h3 F3 ρ3 H3 e3 l3 p3 R3 o3 σ3 re3 ag => ?_⟩
    have hl3 : base ≤ h3.length := grow (still_bindTg tg x (wipeE env vs)).sane hl' e3
    refine ⟨by rw [ag.wipe hS, wipe_wipe], F3, ρ3, h3, env3, R3, re3, hl3, o3.bind.imp fun b h4 F4 ρ4 H4 e4 l4 p4 R4 o4 => ?_⟩
    have hl4 : base ≤ h4.length := grow (sane_evIfs hc base env3 ifs) hl3 e4
    have g4 : F4.g = upd F.g p0 (.lst avs) := (l4.g.trans l3.g).trans g2
    have lf4 : Lf F ⟨F4.f, g0⟩ := fun a o q => l4.l a o (l3.l a o (l2.l a o (lf a o q)))
    have lp4 : Pre ρ ρ4 := (lp.trans p3).trans p4
    have ra4 : RepL ⟨F4.f, g0⟩ ρ4 acc avs := RepL.monof (F := ⟨f', g0⟩) (F' := ⟨F4.f, g0⟩) (fun a o q => l4.l a o (l3.l a o (l2.l a o q))) (p3.trans p4) _ _ ra
    cases b with
    | false =>
      simp only [Bool.false_eq_true, if_false] at o4 ⊢
      have o5 := Out.here o4 R4
      have R4' : Rel X.K ⟨F4.f, upd F.g p0 (.lst avs)⟩ ρ4 H4 h4 := by rw [← g4]; exact R4
      refine ⟨F4.f, ρ4, h4, acc, avs, lf4, lp4, R4', by omega, ra4, hl4, ?_⟩
      have e5 : (fun b => fin (acc ++ b)) = fun b => fin (acc ++ ([] ++ b)) := by funext b; simp
      rw [e5]
      have e6 : (((bind (restI (bodyL c base env vs e tg ifs) w (i + 1)) fun b => ret ([] ++ b)) h4).bind fun b => fin (acc ++ b)) = (restI (bodyL c base env vs e tg ifs) w (i + 1) h4).bind fun b => fin (acc ++ ([] ++ b)) := by
        rw [bind_at, Res.bind_assoc]
        rfl
      rw [← e6]
      exact o5
    | true =>
      simp only [if_true] at o4 ⊢
      refine ⟨F4, ρ4, h4, env3, R4, re3.mono l4 p4, hl4, o4.bind.imp fun y h5 F5 ρ5 H5 e5 l5 p5 R5 o5 v5 r5 => ?_⟩
      have g5 : F5.g = upd F.g p0 (.lst avs) := l5.g.trans g4
      have R5' : Rel X.K ⟨F5.f, upd F.g p0 (.lst avs)⟩ ρ5 H5 h5 := by rw [← g5]; exact R5
      have o6 := Out.here o5 R5
      refine ⟨avs, (R5'.held p0 _ upd_same).1, by rw [ra.length, ← big_eq]; have := ok.small; omega, F5.f, ρ5, h5, acc ++ [y], avs ++ [v5], fun a o q => l5.l a o (lf4 a o q), lp4.trans p5, R5'.rehold (.inl ⟨_, rfl⟩) _ (.inl ⟨_, rfl⟩), by rw [List.length_append]; simp; omega,
        RepL.append (RepL.monof (F := ⟨F4.f, g0⟩) (F' := ⟨F5.f, g0⟩) (fun a o q => l5.l a o q) p5 _ _ ra4) (.one (Rep.monof (F := F5) (F' := ⟨F5.f, g0⟩) (fun a o q => q) (Pre.refl _) _ _ r5)), grow (sane_evE hc base env3 e) hl4 e5, ?_⟩
      have e6 : (((bind (restI (bodyL c base env vs e tg ifs) w (i + 1)) fun b => ret ([y] ++ b)) h5).bind fun b => fin (acc ++ b)) = (restI (bodyL c base env vs e tg ifs) w (i + 1) h5).bind fun b => fin (acc ++ [y] ++ b) := by
        rw [bind_at, Res.bind_assoc]
        refine congrArg _ (funext fun b => funext fun h => ?_)
        show fin (acc ++ ([y] ++ b)) h = _
        rw [List.append_assoc]
      rw [← e6]
      exact o6
  · have e1 : i = w.len := by omega
    subst e1
    rcases rest_end (bodyL c base env vs e tg ifs) w h' with st | ⟨en, st⟩
    · rw [st] at out'; exact out'.elim
    rw [st] at out'
    refine .inl ⟨ok.stop _ ⟨f', upd F.g p0 (.lst avs)⟩ _ _ _ ⟨lf, hg1⟩ lp R' en rfl, hd f' ρ' H' h' acc avs lf lp R' (by have := ok.small; omega) ra ?_⟩
    simpa using out'
end
end Px

set_option autoImplicit false
set_option linter.all false
set_option maxRecDepth 100000
/-! List comprehensions, put together. -/
namespace Px
open PySem L2 PySem.Spec PyProof.Rows
theorem upd_comm {H : Hp} {p q : Addr} {o u : HO} (h : p ≠ q) : upd (upd H p o) q u = upd (upd H q u) p o := by
  funext b
  by_cases h1 : b = p
  · subst h1
    rw [upd_ne h, upd_same, upd_same]
  · by_cases h2 : b = q
    · subst h2
      rw [upd_same, upd_ne h1, upd_same]
    · rw [upd_ne h2, upd_ne h1, upd_ne h1, upd_ne h2]
theorem upd_get {H : Hp} {p : Addr} {o : HO} (h : H p = some o) : upd H p o = H := by
  funext b
  by_cases h1 : b = p
  · subst h1; rw [upd_same, h]
  · rw [upd_ne h1]
section
variable {K : PySem.W.Frag} {F : FF} {ρ : List Addr} {H : Hp} {h : Hh}
theorem Rel.gfree (R : Rel K F ρ H h) {l : Nat} {a : Addr} (e : ρ[l]? = some a) (hk : h[l]? ≠ some .lock) : F.g a = none := by
  cases q : F.g a with
  | none => rfl
  | some o =>
    obtain ⟨_, _, h3⟩ := R.held _ _ q
    rcases h3 with ⟨h3, _⟩ | ⟨k, od, u, k1, k2, k3⟩
    · exact absurd (List.mem_of_getElem? e) h3
    · rw [nodup_get R.nd k1 e] at k2
      exact absurd k2 hk
end
section
variable {X : Cx} {W : WX} {base : Nat} {c : Cxt} (hc : ∀ f base args, Sane base (c.call f base args))
include hc
/-- a comprehension, but over a dict's keys -/
theorem comp_norm {F : FF} {ρ : List Addr} {h : Hh} {env : Px.Env} {σ : L2.St} {H : Hp} {Q : VK} {m : Bool} {vs : List Nat} {e : Ex} {tg : Tg} {it : It} {ifs : List Ex} (hS : ∀ i, i ∈ tgSlots tg → i ∈ vs)
    (R : Rel X.K F ρ H h) (re : RepE F ρ env σ) (hl : base ≤ h.length) (out : Out X.K F ρ (evE c base env (.new m (.comp vs e tg it ifs)) h) (fun d F' ρ' H' _ => ∀ v, Rep F' ρ' d v → Q v H') (WE W σ))
    (hk : ∀ l h1, evIt c base env it h ≠ .ok (.keys l) h1) : tLc (tIt X.K base W (eW c base it)) (gT X.K (tgSlots tg) (bindTg tg)) (tTst X.K base W0 (eIs c base ifs)) (tE X.K base W0 (eX c base e)) vs σ H Q := by
  rw [new_ev, evAl, bind_at, Res.bind_assoc] at out
  refine ⟨F, ρ, h, env, R, re, hl, out.bind.imp fun w h1 F1 ρ1 H1 e1 l1 p1 R1 o1 => ?_⟩
  have hw : ∀ l, w ≠ .keys l := fun l z => by subst z; exact hk l h1 e1
  refine ⟨hw, fun J ok p0 hp0 => ?_⟩
  have e2 : keysOf it w = ret w := by
    cases w with
    | keys l => exact absurd rfl (hw l)
    | _ => rfl
  have o2 : Out X.K F1 ρ1 ((restI (bodyL c base env vs e tg ifs) w 0 h1).bind fun xs => bind (ret (Cell.l xs)) fun ct => if m then alloc ct else content ct) (fun d F' ρ' H' _ => ∀ v, Rep F' ρ' d v → Q v H') (WE W σ) := by
    rw [← collect_rest _ hw]
    have o3 := o1
    simp only [bind_at, e2, ret_at, bind_ok] at o3
    rw [Res.bind_assoc] at o3
    exact o3
  have hl1 := grow (sane_evIt hc base env it) hl e1
  refine lc_loop hc R1 (re.mono l1 p1) hl1 ok hS hp0 (fun _ _ q => q) (g0 := F1.g) o2 fun f' ρ' H' h' acc avs lf lp R' hz ra o4 => ?_
  simp only [bind_at, ret_at, bind_ok] at o4
  exact Out.let R' (.inl ⟨_, rfl⟩) (R1.gnone hp0) o4 ⟨avs, rfl, hz, ra⟩
/-- .. over the keys of a dict that a name has -/
theorem comp_keys {F : FF} {ρ : List Addr} {h h1 : Hh} {env : Px.Env} {σ : L2.St} {H : Hp} {Q : VK} {m : Bool} {vs : List Nat} {e : Ex} {tg : Tg} {i l : Nat} {ifs : List Ex} (hS : ∀ i, i ∈ tgSlots tg → i ∈ vs)
    (R : Rel X.K F ρ H h) (re : RepE F ρ env σ) (hl : base ≤ h.length) (out : Out X.K F ρ (evE c base env (.new m (.comp vs e tg (.ex (.var i)) ifs)) h) (fun d F' ρ' H' _ => ∀ v, Rep F' ρ' d v → Q v H') (WE W σ))
    (hk : evIt c base env (.ex (.var i)) h = .ok (.keys l) h1) : tLockE (tLc (iKeys (tVar i)) (gT X.K (tgSlots tg) (bindTg tg)) (tTst X.K base W0 (eIs c base ifs)) (tE X.K base W0 (eX c base e)) vs) σ H Q := by
  -- what the name has
  have ⟨t, kvs, ev, hcell, hh⟩ : ∃ t kvs, env[i]? = some (some (.ref l)) ∧ h[l]? = some (Cell.d t kvs) ∧ h1 = h := by
    simp only [evIt, evE, bind_at] at hk
    unfold getVar at hk
    cases q : env[i]? with
    | none => rw [q] at hk; cases hk
    | some od =>
      rw [q] at hk
      cases od with
      | none => cases hk
      | some d =>
        simp only [ret_at, bind_ok] at hk
        cases d with
        | ref l' =>
          have hk : (cellAt l' h).bind _ = _ := hk
          cases q2 : h[l']? with
          | none => rw [cellAt_none q2] at hk; cases hk
          | some ce =>
            rw [cellAt_some q2] at hk
            cases ce with
            | d t kvs =>
              cases hk
              exact ⟨t, kvs, rfl, q2, rfl⟩
            | _ => cases hk
        | _ => cases hk
  subst hh
  obtain ⟨v, es, ra⟩ := re.2 i _ ev
  obtain ⟨a, rfl, ha⟩ := ra
  have cok := R.cell l a _ ha hcell
  have hnl : h1[l]? ≠ some .lock := by rw [hcell]; simp
  have hga := R.gfree ha hnl
  have hlen : l < h1.length := (List.getElem?_eq_some_iff.mp hcell).1
  -- the walk of the keys, in the end
  have fin2 : ∀ {od : Obj} {u : HO} {J : L2.It}, H a = some u → (∀ {F' : FF} {ρ' : List Addr} {H' : Hp}, Lf F F' → Pre ρ ρ' → CellOk X.K F' ρ' (upd H' a u) a (.d t kvs)) → ItOk X.K ⟨F.f, upd F.g a (.frz od u)⟩ ρ (.items (kvs.map (·.1))) J →
      ∀ p0, upd H a (.frz od u) p0 = none → ∃ Wi : Nat → Nat → Hp → Prop, (∃ m, Wi 0 m (upd (upd H a (.frz od u)) p0 (.lst []))) ∧ ∀ i m H2, Wi i m H2 →
      (J.stop i H2 ∧ (H2 a = some (.frz od u) ∧ Q (.ref p0) (upd H2 a u))) ∨ (J.go i H2 ∧ ∃ Nx : Hp → Prop, (∀ H', Nx H' → ∃ m', m' < m ∧ Wi (i + 1) m' H') ∧ ∀ x H', J.yld i H2 x H' → gT X.K (tgSlots tg) (bindTg tg) x (wipe σ vs) H' fun σ2 H2 => wipe σ2 vs = wipe σ vs ∧ tTst X.K base W0 (eIs c base ifs) σ2 H2 fun b H3 =>
        if b = true then tE X.K base W0 (eX c base e) σ2 H3 fun y H4 => ∃ acc, H4 p0 = some (.lst acc) ∧ acc.length < sizeLine ∧ Nx (upd H4 p0 (.lst (acc ++ [y]))) else Nx H3) := by
    intro od u J hu back ok p0 hp0
    have hpa : p0 ≠ a := fun z => by subst z; rw [upd_same] at hp0; cases hp0
    have R2 := R.shut (od := od) (u := u) ha hnl
    rw [new_ev, evAl, bind_at, hk, bind_ok] at out
    have o2 : Out X.K ⟨F.f, F.g⟩ ρ ((restI (bodyL c base env vs e tg ifs) (.items (kvs.map (·.1))) 0 (h1.set l .lock)).bind fun xs => bind (setCell l (.d t kvs)) fun _ => bind (ret (Cell.l xs)) fun ct => if m then alloc ct else content ct) (fun d F' ρ' H' _ => ∀ v, Rep F' ρ' d v → Q v H') (WE W σ) := by
      have o3 := out
      simp only [bind_at, keysOf, ret_at, bind_ok, collect, cellAt_some hcell, setCell, if_pos hlen, Res.bind_assoc] at o3
      exact o3
    refine lc_loop hc R2 (show RepE ⟨F.f, upd F.g a (.frz od u)⟩ ρ env σ from ⟨re.1, fun j d q => let ⟨v, a, b⟩ := re.2 j d q; ⟨v, a, Rep.monof lfg (Pre.refl _) d v b⟩⟩) (by rw [List.length_set]; exact hl) ok hS hp0
      (fun b o q => by show upd F.g a _ b = _; rw [upd_ne (ne_of_none q hga)]; exact q) (g0 := F.g) o2 fun f' ρ' H' h' acc avs lf lp R' hz rac o4 => ?_
    have lf : Lf F ⟨f', F.g⟩ := lf
    have fz : H' a = some (.frz od u) := (R'.held a _ (show upd (upd F.g a (.frz od u)) p0 (.lst avs) a = _ by rw [upd_ne (Ne.symm hpa), upd_same])).1
    refine ⟨fz, ?_⟩
    have R3 : Rel X.K ⟨f', upd (upd F.g p0 (.lst avs)) a (.frz od u)⟩ ρ' H' h' := by
      have e := upd_comm (H := F.g) (o := HO.frz od u) (u := HO.lst avs) (Ne.symm hpa)
      rw [← e]
      exact R'
    have hgp : F.g p0 = none := R.gnone (by rw [upd_ne hpa] at hp0; exact hp0)
    obtain ⟨hlk, R4⟩ := R3.open (c := .d t kvs) (o := u) (lp _ _ ha) (by rw [upd_ne (Ne.symm hpa)]; exact hga) (back (F' := ⟨f', upd F.g p0 (.lst avs)⟩) lf lp)
    have hl4 : l < h'.length := (List.getElem?_eq_some_iff.mp hlk).1
    simp only [bind_at, setCell, if_pos hl4, bind_ok, ret_at] at o4
    exact Out.let (g := F.g) R4 (.inl ⟨_, rfl⟩) hgp o4 ⟨avs, rfl, hz, rac⟩
  cases t with
  | k =>
    obtain ⟨ks, k1, k2, k3⟩ := cok
    refine ⟨a, .dK ks, k1, True.intro, fun od => ⟨.ref a, es, a, od, rfl, .inl ⟨ks, upd_same, ?_⟩⟩⟩
    exact fin2 k1 (fun lf lp => ⟨ks, upd_same, k2, RepK.monof lf lp _ _ k3⟩) (itok_keysK (F := ⟨F.f, upd F.g a (.frz od (.dK ks))⟩) upd_same k2 (RepK.monof lfg (Pre.refl _) _ _ k3))
  | t =>
    obtain ⟨ks, k1, k2, k3⟩ := cok
    refine ⟨a, .dT ks, k1, True.intro, fun od => ⟨.ref a, es, a, od, rfl, .inr ⟨ks, upd_same, ?_⟩⟩⟩
    exact fin2 k1 (fun lf lp => ⟨ks, upd_same, k2, RepT.monof lf lp _ _ k3⟩) (itok_keysT (F := ⟨F.f, upd F.g a (.frz od (.dT ks))⟩) upd_same k2 (RepT.monof lfg (Pre.refl _) _ _ k3))
end
end Px

set_option autoImplicit false
set_option linter.all false
set_option maxRecDepth 100000
/-! List comprehensions of the text. -/
namespace Px
open PySem L2 PySem.Spec PyProof.Rows
/-- the parts of a comprehension in the text, and what they promise -/
structure LcOk (X : Cx) (W : WX) (base : Nat) (c : Cxt) (elt tg iter : Expr) (ifs : List Expr) (scope : Scope) (own : List (Str × Nat)) (e' : Ex) (tg' : Tg) (it' : It) (ifs' : List Ex) : Prop where
  calm : X.calm = true
  nd : X.N.Nodup
  it : PI X tg iter (tIt X.K base W (eW c base it'))
  keys : ∀ i, it' = .ex (.var i) → PI X tg iter (iKeys (tVar i))
  blk : BlkOk X.N X.env.scope scope own
  sub : ∀ i, i ∈ tgSlots tg' → i ∈ own.map (·.2)
  tgt : ∀ (s : Shared) (H : Hp) (C : Addr) (cl : List (Str × Addr)) (fp : List Addr), PG (X.blk s H scope (compEnvC scope cl C X.env) fp) tg (gT X.K (tgSlots tg') (bindTg tg'))
  ifs : ∀ (s : Shared) (H : Hp) (C : Addr) (cl : List (Str × Addr)) (fp : List Addr), PTs (X.blk s H scope (compEnvC scope cl C X.env) fp) ifs (tTst X.K base W0 (eIs c base ifs'))
  elt : ∀ (s : Shared) (H : Hp) (C : Addr) (cl : List (Str × Addr)) (fp : List Addr), PE (X.blk s H scope (compEnvC scope cl C X.env) fp) elt (tE X.K base W0 (eX c base e'))
  fold : ∀ x, foldedSetIterable iter X.env x = pure x
section
variable {X : Cx} {W : WX} {base : Nat} {c : Cxt} (hc : ∀ f base args, Sane base (c.call f base args))
include hc
/-- which rule serves -/
theorem comp_which {elt tg iter : Expr} {ifs : List Expr} {scope : Scope} {own : List (Str × Nat)} {e' : Ex} {tg' : Tg} {it' : It} {ifs' : List Ex} (K : LcOk X W base c elt tg iter ifs scope own e' tg' it' ifs') {m : Bool} {σ : L2.St} {H : Hp} {Q : VK}
    (t : tE X.K base W (eX c base (.new m (.comp (own.map (·.2)) e' tg' it' ifs'))) σ H Q) :
    tLc (tIt X.K base W (eW c base it')) (gT X.K (tgSlots tg') (bindTg tg')) (tTst X.K base W0 (eIs c base ifs')) (tE X.K base W0 (eX c base e')) (own.map (·.2)) σ H Q ∨
    ∃ i, it' = .ex (.var i) ∧ tLockE (tLc (iKeys (tVar i)) (gT X.K (tgSlots tg') (bindTg tg')) (tTst X.K base W0 (eIs c base ifs')) (tE X.K base W0 (eX c base e')) (own.map (·.2))) σ H Q := by
  obtain ⟨F, ρ, h, env, R, re, hl, out⟩ := t
  by_cases hk : ∃ l h1, evIt c base env it' h = .ok (.keys l) h1
  · obtain ⟨l, h1, hk⟩ := hk
    have ⟨i, hi⟩ : ∃ i, it' = .ex (.var i) := by
      have o := out
      simp only [eX] at o
      rw [new_ev, evAl, bind_at, hk] at o
      simp only [bind_ok, bind_at] at o
      cases it' with
      | ex e =>
        cases e with
        | var i => exact ⟨i, rfl⟩
        | _ => exact o.elim
      | _ => exact o.elim
    subst hi
    exact .inr ⟨i, rfl, comp_keys hc K.sub R re hl out hk⟩
  · exact .inl (comp_norm hc K.sub R re hl out fun l h1 z => hk ⟨l, h1, z⟩)
theorem s_comp {elt tg iter : Expr} {ifs : List Expr} {scope : Scope} {own : List (Str × Nat)} {e' : Ex} {tg' : Tg} {it' : It} {ifs' : List Ex} {m : Bool} {pos : Pos} (K : LcOk X W base c elt tg iter ifs scope own e' tg' it' ifs') :
    PE X (.ListComp elt [⟨tg, iter, ifs, 0⟩] scope pos) (tE X.K base W (eX c base (.new m (.comp (own.map (·.2)) e' tg' it' ifs')))) := by
  refine ⟨fun pins s σ H Q I t => ?_⟩
  rcases comp_which hc K t with t | ⟨i, hi, t⟩
  · exact (pe_lc K.calm K.nd K.it K.blk K.tgt K.ifs K.elt K.fold).run pins s σ H Q I t
  · exact (pe_lock (pe_lc K.calm K.nd (K.keys i hi) K.blk K.tgt K.ifs K.elt K.fold)).run pins s σ H Q I t
/-- name = [..], the name's store before the block's own are let go -/
theorem s_setComp {elt tg iter : Expr} {ifs : List Expr} {scope : Scope} {own : List (Str × Nat)} {e' : Ex} {tg' : Tg} {it' : It} {ifs' : List Ex} {m : Bool} {pos py spos : Pos} {i : Nat} {y : Str} (K : LcOk X W base c elt tg iter ifs scope own e' tg' it' ifs')
    (hy : X.N[i]? = some y) (hyl : X.env.scope.names.lookup y = some .local) (hsw : swapsWith (.ListComp elt [⟨tg, iter, ifs, 0⟩] scope pos) (some (.Name y py)) spos.line X.env = pure true) :
    PS X (.Assign [.Name y py] (.ListComp elt [⟨tg, iter, ifs, 0⟩] scope pos) spos) (tAsg (tE X.K base W (eX c base (.new m (.comp (own.map (·.2)) e' tg' it' ifs')))) (gName i)) := by
  refine ⟨fun pins s σ H D I t => ?_⟩
  have t : tE X.K base W (eX c base (.new m (.comp (own.map (·.2)) e' tg' it' ifs'))) σ H (fun x H1 => gName i x σ H1 D.nx) := t
  rcases comp_which hc K t with t | ⟨j, hj, t⟩
  · exact (ps_setLc K.calm K.nd hy hyl hsw K.it K.blk K.tgt K.ifs K.elt K.fold).run pins s σ H D I t
  · refine (ps_lock (ps_setLc K.calm K.nd hy hyl hsw (K.keys j hj) K.blk K.tgt K.ifs K.elt K.fold)).run pins s σ H D I ?_
    obtain ⟨d, u, h1, h2, h3⟩ := t
    exact ⟨d, u, h1, h2, fun od => h3 od⟩
end
end Px

set_option autoImplicit false
set_option linter.all false
set_option maxRecDepth 100000
/-! Dict comprehensions (keys ints and texts). -/
namespace Px
open PySem L2 PySem.Spec PyProof.Rows
theorem putAll_snoc : ∀ (more kvs : List (D × D)) (k v : D), putAll kvs (more ++ [(k, v)]) = kput (putAll kvs more) k v
  | [], _, _, _ => rfl
  | (a, b) :: r, kvs, k, v => putAll_snoc r (kput kvs a b) k v
theorem putAll_length : ∀ (more kvs : List (D × D)), (putAll kvs more).length ≤ kvs.length + more.length
  | [], kvs => Nat.le_refl _
  | (a, b) :: r, kvs => by
    have h1 := putAll_length r (kput kvs a b)
    have h2 := kput_length kvs a b
    show (putAll (kput kvs a b) r).length ≤ _
    rw [List.length_cons]
    omega
def tupsOf (kvs : List (D × D)) : List D := kvs.map fun p => .tup [p.1, p.2]
theorem pairsOf_tups : ∀ kvs : List (D × D), pairsOf (tupsOf kvs) = some kvs
  | [] => rfl
  | (a, b) :: r => by
    show (pairsOf (tupsOf r)).map _ = _
    rw [pairsOf_tups r]
    rfl
theorem flat_key {F : FF} {ρ : List Addr} {d : D} {v : V} (hd : d.flat = true) (r : Rep F ρ d v) : ∃ k, d = keyD k ∧ v = kV k := by
  cases d with
  | int i => exact ⟨.inl i, rfl, r⟩
  | str s => exact ⟨.inr s, rfl, r⟩
  | _ => cases hd
section
variable {X : Cx} {W : WX} {base : Nat} {c : Cxt} (hc : ∀ f base args, Sane base (c.call f base args))
def bodyD (c : Cxt) (base : Nat) (env : Px.Env) (t : Kc) (vs : List Nat) (k v : Ex) (tg : Tg) : D → M (List D) := fun x => nox <| bind (bindTg tg x (wipeE env vs)) fun env' => bind (evE c base env' k) fun a => bind (evE c base env' v) fun b =>
  if keyOk t a then ret [.tup [a, b]] else fail
include hc
theorem dc_loop {F : FF} {ρ : List Addr} {H : Hp} {h : Hh} {env : Px.Env} {σ : L2.St} {vs : List Nat} {ek ev : Ex} {tg : Tg} {w : Walk} {J : L2.It} {fin : List D → M D} {E : XK} {p0 : Addr} {Qd : Hp → Prop}
    (R : Rel X.K F ρ H h) (re : RepE F ρ env σ) (hl : base ≤ h.length) (ok : ItOk X.K F ρ w J) (hS : ∀ i, i ∈ tgSlots tg → i ∈ vs) (hD : H p0 = none) {Φ : D → FF → List Addr → Hp → Hh → Prop}
    (out : Out X.K F ρ ((restI (bodyD c base env .k vs ek ev tg) w 0 h).bind fin) Φ E)
    (hd : ∀ (f' : Hp) (ρ' : List Addr) (H' : Hp) (h' : Hh) (kvs : List (D × D)) (ks : List (Key × V)), Lf F ⟨f', F.g⟩ → Pre ρ ρ' → Rel X.K ⟨f', upd F.g p0 (.dK ks)⟩ ρ' H' h' → (putAll [] kvs).length ≤ big → RepK ⟨f', F.g⟩ ρ' (putAll [] kvs) ks → Out X.K ⟨f', F.g⟩ ρ' (fin (tupsOf kvs) h') Φ E → Qd H') :
    ∃ Wi : Nat → Nat → Hp → Prop, (∃ m, Wi 0 m (upd H p0 (.dK []))) ∧ ∀ i m H, Wi i m H →
      (J.stop i H ∧ Qd H) ∨ (J.go i H ∧ ∃ Nx : Hp → Prop, (∀ H', Nx H' → ∃ m', m' < m ∧ Wi (i + 1) m' H') ∧ ∀ x H', J.yld i H x H' → gT X.K (tgSlots tg) (bindTg tg) x (wipe σ vs) H' fun σ2 H2 => wipe σ2 vs = wipe σ vs ∧ tYes σ2 H2 fun b H3 =>
        if b = true then tE X.K base W0 (eX c base ek) σ2 H3 fun y H4 => tE X.K base W0 (eX c base ev) σ2 H4 fun z H5 => ∃ kvs k, y = kV k ∧ H5 p0 = some (.dK kvs) ∧ kvs.length < sizeLine ∧ Nx (upd H5 p0 (.dK (putK kvs k z))) else Nx H3) := by
  have hgD := R.gnone hD
  have hg : ∀ {ks : List (Key × V)} (a : Addr) (o : HO), F.g a = some o → upd F.g p0 (.dK ks) a = some o := fun a o q => by rw [upd_ne (ne_of_none q hgD)]; exact q
  have raw : ∀ ks : List (Key × V), Raw (.dK ks) := fun ks => .inr (.inl ⟨ks, rfl⟩)
  refine ⟨fun i m H' => m = w.len - i ∧ i ≤ w.len ∧ ∃ (f' : Hp) (ρ' : List Addr) (h' : Hh) (kvs : List (D × D)) (ks : List (Key × V)), Lf F ⟨f', F.g⟩ ∧ Pre ρ ρ' ∧ Rel X.K ⟨f', upd F.g p0 (.dK ks)⟩ ρ' H' h' ∧ kvs.length ≤ i ∧ RepK ⟨f', F.g⟩ ρ' (putAll [] kvs) ks ∧ base ≤ h'.length ∧
    Out X.K ⟨f', F.g⟩ ρ' ((restI (bodyD c base env .k vs ek ev tg) w i h').bind fun b => fin (tupsOf kvs ++ b)) Φ E,
    ⟨w.len, by simp, Nat.zero_le _, F.f, ρ, h, [], [], fun _ _ h => h, Pre.refl ρ, R.hold hD (raw []), Nat.le_refl _, rfl, hl, ?_⟩, ?_⟩
  · simpa [tupsOf] using out
  rintro i m H' ⟨rfl, hi, f', ρ', h', kvs, ks, lf, lp, R', hz, ra, hl', out'⟩
  by_cases hlt : i < w.len
  · refine .inr ?_
    rcases rest_step (bodyD c base env .k vs ek ev tg) w hlt h' with st | ⟨x, hx, st⟩
    · rw [st] at out'; exact out'.elim
    rw [st, Res.bind_assoc] at out'
    obtain ⟨go, yl⟩ := ok.go i x ⟨f', upd F.g p0 (.dK ks)⟩ ρ' H' h' ⟨lf, hg⟩ lp R' hx
    refine ⟨go, fun H2 => ∃ (f' : Hp) (ρ' : List Addr) (h' : Hh) (kvs : List (D × D)) (ks : List (Key × V)), Lf F ⟨f', F.g⟩ ∧ Pre ρ ρ' ∧ Rel X.K ⟨f', upd F.g p0 (.dK ks)⟩ ρ' H2 h' ∧ kvs.length ≤ i + 1 ∧ RepK ⟨f', F.g⟩ ρ' (putAll [] kvs) ks ∧ base ≤ h'.length ∧
      Out X.K ⟨f', F.g⟩ ρ' ((restI (bodyD c base env .k vs ek ev tg) w (i + 1) h').bind fun b => fin (tupsOf kvs ++ b)) Φ E,
      fun H2 q => ⟨w.len - (i + 1), by omega, rfl, hlt, q⟩, fun v H2 y => ?_⟩
    obtain ⟨F2, l2, R2, rx⟩ := yl v H2 y
    have g2 : F2.g = upd F.g p0 (.dK ks) := l2.g
    have out2 := out'.ext (F' := ⟨F2.f, F.g⟩) (ρ' := ρ') ⟨l2.l, rfl⟩ (Pre.refl _)
    have out3 := (out2.bind.held (g := F2.g) (by rw [g2]; exact hg)).nox (fun _ _ _ => False)
    have re2 : RepE F2 ρ' (wipeE env vs) (wipe σ vs) := ((show RepE F2 ρ' env σ from ⟨re.1, fun j d q => let ⟨v, a, b⟩ := re.2 j d q; ⟨v, a, Rep.monof (fun a o q => l2.l a o (lf a o q)) lp d v b⟩⟩)).wipe vs
    refine ⟨F2, ρ', h', wipeE env vs, x, _, R2, rx, re2, out3.bind.imp fun env3 h3 F3 ρ3 H3 e3 l3 p3 R3 o3 σ3 re3 ag => ?_⟩
    have hl3 : base ≤ h3.length := grow (still_bindTg tg x (wipeE env vs)).sane hl' e3
    refine ⟨by rw [ag.wipe hS, wipe_wipe], ?_⟩
    rw [tYes, if_pos rfl]
    refine ⟨F3, ρ3, h3, env3, R3, re3, hl3, o3.bind.imp fun a h4 F4 ρ4 H4 e4 l4 p4 R4 o4 va r4 => ?_⟩
    have hl4 : base ≤ h4.length := grow (sane_evE hc base env3 ek) hl3 e4
    refine ⟨F4, ρ4, h4, env3, R4, re3.mono l4 p4, hl4, o4.bind.imp fun b h5 F5 ρ5 H5 e5 l5 p5 R5 o5 vb r5 => ?_⟩
    have hl5 : base ≤ h5.length := grow (sane_evE hc base env3 ev) hl4 e5
    have g5 : F5.g = upd F.g p0 (.dK ks) := ((l5.g.trans l4.g).trans l3.g).trans g2
    have lf5 : Lf F ⟨F5.f, F.g⟩ := fun a o q => l5.l a o (l4.l a o (l3.l a o (l2.l a o (lf a o q))))
    have lp5 : Pre ρ ρ5 := ((lp.trans p3).trans p4).trans p5
    have ra5 : RepK ⟨F5.f, F.g⟩ ρ5 (putAll [] kvs) ks := RepK.monof (F := ⟨f', F.g⟩) (F' := ⟨F5.f, F.g⟩) (fun a o q => l5.l a o (l4.l a o (l3.l a o (l2.l a o q)))) ((p3.trans p4).trans p5) _ _ ra
    have R5' : Rel X.K ⟨F5.f, upd F.g p0 (.dK ks)⟩ ρ5 H5 h5 := by rw [← g5]; exact R5
    split at o5
    · rename_i hk
      obtain ⟨k, rfl, rfl⟩ := flat_key (show a.flat = true from hk) r4
      have o6 := Out.here o5 R5
      refine ⟨ks, k, rfl, (R5'.held p0 _ upd_same).1, ?_, F5.f, ρ5, h5, kvs ++ [(keyD k, b)], putK ks k vb, lf5, lp5, R5'.rehold (raw _) _ (raw _), by rw [List.length_append]; simp; omega, ?_, hl5, ?_⟩
      · have h1 := putAll_length kvs []
        rw [ra.length, ← big_eq]
        have := ok.small
        simp at h1
        omega
      · rw [putAll_snoc]
        exact ra5.put (Rep.monof (F := F5) (F' := ⟨F5.f, F.g⟩) (fun a o q => q) (Pre.refl _) _ _ r5)
      · have e6 : (((bind (restI (bodyD c base env .k vs ek ev tg) w (i + 1)) fun z => ret ([D.tup [keyD k, b]] ++ z)) h5).bind fun z => fin (tupsOf kvs ++ z)) = (restI (bodyD c base env .k vs ek ev tg) w (i + 1) h5).bind fun z => fin (tupsOf (kvs ++ [(keyD k, b)]) ++ z) := by
          rw [bind_at, Res.bind_assoc]
          refine congrArg _ (funext fun z => funext fun h => ?_)
          show fin (tupsOf kvs ++ ([_] ++ z)) h = _
          unfold tupsOf
          rw [List.map_append, List.append_assoc]
          rfl
        rw [← e6]
        exact o6
    · exact o5.elim
  · have e1 : i = w.len := by omega
    subst e1
    rcases rest_end (bodyD c base env .k vs ek ev tg) w h' with st | ⟨en, st⟩
    · rw [st] at out'; exact out'.elim
    rw [st] at out'
    refine .inl ⟨ok.stop _ ⟨f', upd F.g p0 (.dK ks)⟩ _ _ _ ⟨lf, hg⟩ lp R' en rfl, hd f' ρ' H' h' kvs ks lf lp R' ?_ ra ?_⟩
    · have h1 := putAll_length kvs []
      have := ok.small
      simp at h1
      omega
    · simpa using out'
theorem dcomp_norm {F : FF} {ρ : List Addr} {h : Hh} {env : Px.Env} {σ : L2.St} {H : Hp} {Q : VK} {m : Bool} {vs : List Nat} {ek ev : Ex} {tg : Tg} {it : It} (hS : ∀ i, i ∈ tgSlots tg → i ∈ vs)
    (R : Rel X.K F ρ H h) (re : RepE F ρ env σ) (hl : base ≤ h.length) (out : Out X.K F ρ (evE c base env (.new m (.dcomp .k vs ek ev tg it)) h) (fun d F' ρ' H' _ => ∀ v, Rep F' ρ' d v → Q v H') (WE W σ)) :
    tDc (tIt X.K base W (eW c base it)) (gT X.K (tgSlots tg) (bindTg tg)) tYes (tE X.K base W0 (eX c base ek)) (tE X.K base W0 (eX c base ev)) vs σ H Q := by
  rw [new_ev, evAl, bind_at, Res.bind_assoc] at out
  refine ⟨F, ρ, h, env, R, re, hl, out.bind.imp fun w h1 F1 ρ1 H1 e1 l1 p1 R1 o1 => ?_⟩
  have hw : ∀ l, w ≠ .keys l := fun l z => by
    subst z
    simp only [bind_at, noKeys, fail_at, bind_stuck] at o1
    exact o1
  refine ⟨hw, fun J ok p0 hp0 => ?_⟩
  have e2 : noKeys w = ret w := by
    cases w with
    | keys l => exact absurd rfl (hw l)
    | _ => rfl
  have hl1 := grow (sane_evIt hc base env it) hl e1
  simp only [bind_at, e2, ret_at, bind_ok] at o1
  rw [collect_rest _ hw, Res.bind_assoc] at o1
  refine dc_loop hc R1 (re.mono l1 p1) hl1 ok hS hp0 o1 fun f' ρ' H' h' kvs ks lf lp R' hz ra o4 => ?_
  simp only [pairsOf_tups, bind_at, ret_at, bind_ok] at o4
  exact Out.let R' (.inr (.inl ⟨_, rfl⟩)) (R1.gnone hp0) o4 ⟨ks, rfl, hz, ra⟩
end
structure DcOk (X : Cx) (W : WX) (base : Nat) (c : Cxt) (kx vx tg iter : Expr) (scope : Scope) (own : List (Str × Nat)) (k' v' : Ex) (tg' : Tg) (it' : It) : Prop where
  calm : X.calm = true
  nd : X.N.Nodup
  it : PI X tg iter (tIt X.K base W (eW c base it'))
  blk : BlkOk X.N X.env.scope scope own
  sub : ∀ i, i ∈ tgSlots tg' → i ∈ own.map (·.2)
  tgt : ∀ (s : Shared) (H : Hp) (C : Addr) (cl : List (Str × Addr)) (fp : List Addr), PG (X.blk s H scope (compEnvC scope cl C X.env) fp) tg (gT X.K (tgSlots tg') (bindTg tg'))
  kx : ∀ (s : Shared) (H : Hp) (C : Addr) (cl : List (Str × Addr)) (fp : List Addr), PE (X.blk s H scope (compEnvC scope cl C X.env) fp) kx (tE X.K base W0 (eX c base k'))
  vx : ∀ (s : Shared) (H : Hp) (C : Addr) (cl : List (Str × Addr)) (fp : List Addr), PE (X.blk s H scope (compEnvC scope cl C X.env) fp) vx (tE X.K base W0 (eX c base v'))
  fold : ∀ x, foldedSetIterable iter X.env x = pure x
section
variable {X : Cx} {W : WX} {base : Nat} {c : Cxt} (hc : ∀ f base args, Sane base (c.call f base args))
include hc
theorem s_dcomp {kx vx tg iter : Expr} {scope : Scope} {own : List (Str × Nat)} {k' v' : Ex} {tg' : Tg} {it' : It} {m : Bool} {pos : Pos} (K : DcOk X W base c kx vx tg iter scope own k' v' tg' it') :
    PE X (.DictComp kx vx [⟨tg, iter, [], 0⟩] scope pos) (tE X.K base W (eX c base (.new m (.dcomp .k (own.map (·.2)) k' v' tg' it')))) :=
  (pe_dc K.calm K.nd K.it K.blk K.tgt (fun _ _ _ _ _ => pts_nil) K.kx K.vx K.fold).weak fun σ H Q ⟨F, ρ, h, env, R, re, hl, out⟩ => dcomp_norm hc K.sub R re hl out
end
end Px

set_option autoImplicit false
set_option linter.all false
set_option maxRecDepth 100000
/-! name = {k: v ..}, the name's store ahead of the block's end. -/
namespace Px
open PySem L2 PySem.Spec PyProof.Rows
section
variable {X : Cx} {W : WX} {base : Nat} {c : Cxt} (hc : ∀ f base args, Sane base (c.call f base args))
theorem ps_dcUsed {i : Nat} {y : Str} {py pos spos : Pos} {kx vx tg iter : Expr} {ifs : List Expr} {scope : Scope} {own : List (Str × Nat)} {wi : TI} {g : TG} {tt : TT} {tk tv : TE}
    (calm : X.calm = true) (nd : X.N.Nodup) (hy : X.N[i]? = some y) (loc : X.env.scope.names.lookup y = some .local) (used : swapsWith (.DictComp kx vx [⟨tg, iter, ifs, 0⟩] scope pos) (some (.Name y py)) spos.line X.env = pure true)
    (hi : PI X tg iter wi) (blk : BlkOk X.N X.env.scope scope own)
    (hg : ∀ (s : Shared) (H : Hp) (C : Addr) (cl : List (Str × Addr)) (fp : List Addr), PG (X.blk s H scope (compEnvC scope cl C X.env) fp) tg g)
    (ht : ∀ (s : Shared) (H : Hp) (C : Addr) (cl : List (Str × Addr)) (fp : List Addr), PTs (X.blk s H scope (compEnvC scope cl C X.env) fp) ifs tt)
    (hk : ∀ (s : Shared) (H : Hp) (C : Addr) (cl : List (Str × Addr)) (fp : List Addr), PE (X.blk s H scope (compEnvC scope cl C X.env) fp) kx tk)
    (hv : ∀ (s : Shared) (H : Hp) (C : Addr) (cl : List (Str × Addr)) (fp : List Addr), PE (X.blk s H scope (compEnvC scope cl C X.env) fp) vx tv) (fold : ∀ x, foldedSetIterable iter X.env x = pure x) :
    PS X (.Assign [.Name y py] (.DictComp kx vx [⟨tg, iter, ifs, 0⟩] scope pos) spos) (tAsg (tDc wi g tt tk tv (own.map (·.2))) (gName i)) := by
  constructor
  intro pins s σ H D I t
  rw [exec_Assign_Name_used _ _ _ _ used]
  refine wpAny_bind (wpAny_standAt (wpAny_bind ?_))
  have core := dc_core (Qf := fun _ s' => SP X pins D .next s') (pos := pos) (pos' := firstIterPos [⟨tg, iter, ifs, 0⟩] pos) (use := some (assign (.Name y py) X.env)) calm nd I hi blk hg ht hk hv fold
    (show tDc wi g tt tk tv (own.map (·.2)) σ H (fun x H1 => gName i x σ H1 D.nx) from t)
  refine wpAny_bind (thn (core fun L C s' m H' I' q hn fr => ?_) fun _ s' hq => wpAny_pure (wpAny_pure hq))
  refine wpAny_assign_Name (store_ok2 (v := V.ref L) I' nd hy (.inl loc) rfl (fun s2 I2 ⟨a, same, ha⟩ => ?_) (.inr loc))
  have apart : C ≠ a := by
    rcases ha with z | z
    · subst z; exact fr.2.1
    · exact fun e => fr.2.2.2.2.1 y a z e.symm
  exact ⟨m, hn.sameBut same apart, fun h3 sb3 => ⟨_, H', I2.turned (t' := s2.toks) (fun b o hb e => (sb3.2 b hb).trans e) fr.1 fr.2.1 fr.2.2.2.1 fr.2.2.2.2.1 fr.2.2.2.2.2, q⟩⟩
include hc
theorem s_setDcomp {kx vx tg iter : Expr} {scope : Scope} {own : List (Str × Nat)} {k' v' : Ex} {tg' : Tg} {it' : It} {m : Bool} {pos py spos : Pos} {i : Nat} {y : Str} (K : DcOk X W base c kx vx tg iter scope own k' v' tg' it')
    (hy : X.N[i]? = some y) (hyl : X.env.scope.names.lookup y = some .local) (hsw : swapsWith (.DictComp kx vx [⟨tg, iter, [], 0⟩] scope pos) (some (.Name y py)) spos.line X.env = pure true) :
    PS X (.Assign [.Name y py] (.DictComp kx vx [⟨tg, iter, [], 0⟩] scope pos) spos) (tAsg (tE X.K base W (eX c base (.new m (.dcomp .k (own.map (·.2)) k' v' tg' it')))) (gName i)) :=
  (ps_dcUsed K.calm K.nd hy hyl hsw K.it K.blk K.tgt (fun _ _ _ _ _ => pts_nil) K.kx K.vx K.fold).weak fun D σ H ⟨F, ρ, h, env, R, re, hl, out⟩ => dcomp_norm (Q := fun x H1 => gName i x σ H1 D.nx) hc K.sub R re hl out
end
end Px

set_option autoImplicit false
set_option linter.all false
set_option maxRecDepth 100000
/-! Dict displays, dict(pairs): any keys. -/
namespace Px
open PySem L2 PySem.Spec PyProof.Rows
/-- a dict's object -/
def DRep (F : FF) (ρ : List Addr) (t : Kc) (kvs : List (D × D)) (o : HO) : Prop := match t with
  | .k => ∃ ks, o = .dK ks ∧ RepK F ρ kvs ks
  | .t => ∃ ks, o = .dT ks ∧ RepT F ρ kvs ks
theorem DRep.raw {F : FF} {ρ : List Addr} {t : Kc} {kvs : List (D × D)} {o : HO} (d : DRep F ρ t kvs o) : Raw o := by
  cases t with
  | k => obtain ⟨ks, rfl, _⟩ := d; exact .inr (.inl ⟨ks, rfl⟩)
  | t => obtain ⟨ks, rfl, _⟩ := d; exact .inr (.inr ⟨ks, rfl⟩)
theorem DRep.monof {F F' : FF} {ρ ρ' : List Addr} {t : Kc} {kvs : List (D × D)} {o : HO} (l : Lf F F') (p : Pre ρ ρ') (d : DRep F ρ t kvs o) : DRep F' ρ' t kvs o := by
  cases t with
  | k => obtain ⟨ks, rfl, r⟩ := d; exact ⟨ks, rfl, RepK.monof l p _ _ r⟩
  | t => obtain ⟨ks, rfl, r⟩ := d; exact ⟨ks, rfl, RepT.monof l p _ _ r⟩
theorem DRep.new {F : FF} {ρ : List Addr} {t : Kc} {kvs : List (D × D)} {o : HO} (d : DRep F ρ t kvs o) (hz : kvs.length ≤ big) : NewOk F ρ (.d t kvs) o := by
  cases t with
  | k => obtain ⟨ks, rfl, r⟩ := d; exact ⟨ks, rfl, hz, r⟩
  | t => obtain ⟨ks, rfl, r⟩ := d; exact ⟨ks, rfl, hz, r⟩
/-- the empty dict of the kind -/
def dNil : Kc → HO
  | .k => .dK []
  | .t => .dT []
theorem dNil_rep (F : FF) (ρ : List Addr) (t : Kc) : DRep F ρ t [] (dNil t) := by cases t <;> exact ⟨[], rfl, rfl⟩
/-- one more -/
theorem DRep.put {K : PySem.W.Frag} {F : FF} {ρ : List Addr} {H : Hp} {h : Hh} {p : Addr} {o : HO} {t : Kc} {kvs : List (D × D)} {a b : D} {x y : V} (R : Rel K F ρ H h) (d : DRep F ρ t kvs o) (hp : H p = some o) (hz : kvs.length < big) (hk : keyOk t a = true) (ra : Rep F ρ a x) (rb : Rep F ρ b y) :
    ∃ o', DPut H p x y (upd H p o') ∧ DRep F ρ t (kput kvs a b) o' := by
  cases t with
  | k =>
    obtain ⟨ks, rfl, r⟩ := d
    obtain ⟨k, rfl, rfl⟩ := flat_key (show a.flat = true from hk) ra
    exact ⟨_, DPut.k hp (by rw [r.length, ← big_eq]; exact hz), _, rfl, r.put rb⟩
  | t =>
    obtain ⟨ks, rfl, r⟩ := d
    cases a with
    | tup xs =>
      obtain ⟨q, ws, rfl, hq, hlen, rl⟩ := ra
      have e := flats (show xs.all D.flat = true from hk)
      rw [e] at rl ⊢
      rw [repL_keyD rl] at hq
      exact ⟨_, DPut.t hp (R.sub _ _ hq) (by rw [r.length, ← big_eq]; exact hz), _, rfl, r.put (by rw [List.length_map]; exact hlen) rb⟩
    | _ => exact absurd hk (by simp [keyOk])
section
variable {X : Cx} {pins : List (Addr × Obj)} {σ : L2.St} {H H' : Hp} {s : Shared} {a : Addr} {y v : V} {u r : Value}
theorem d_dset {E : Value → Shared → Prop} {Q : Unit → Shared → Prop} (hu : X.A.units + 1 < cLine) (I : Inv X pins σ H s) (g : DPut H a y v H') (ry : RelV y u) (rv : RelV v r) (h : ∀ s', Inv X pins σ H' s' → Q () s') : wpAny (model X.prog X.w) X.A (dictSet a u r) Q E s := by
  rcases g with ⟨kvs, k, e, ey, l, eH⟩ | ⟨kvs, k, b, e, ey, eb, l, eH⟩
  · subst ey eH
    exact d_dictSet I e l ry rv h
  · subst ey eH
    cases (show u = Value.ref b from ry)
    obtain ⟨z, hd, xs, rel, dd⟩ := dt_of I.hok e
    have hl : (putK kvs k v).length ≤ sizeLine := by have := length_putK kvs k v; omega
    refine wpAny_dictSet_heap (hsz := by rw [← Paired.length rel]; exact z) (show X.A.units < cLine by omega) (key_of I.hok eb) dd fun h' dd' hs => h _ ?_
    obtain ⟨q, es, ep, hq, h2, h3, h4, _, h5⟩ := dd'
    have keep : ∀ c ys, H c = some (.tup ys) → upd H a (.dT (putK kvs k v)) c = some (.tup ys) := fun c ys ec => by
      have hne : c ≠ a := fun z => by subst z; rw [e] at ec; cases ec
      rw [upd_ne hne]
      exact ec
    exact d_write I (by rw [e]; exact True.intro) hs ⟨q, hq⟩ ⟨hl, hd, _, (rel.put k eb rv).keeps keep, q, es, ep, hq, h2, h3, h4, h5⟩
theorem pairUp_cons {k v : D} {r : List D} {ps : List (D × D)} (h : pairUp (k :: v :: r) = some ps) : ∃ qs, pairUp r = some qs ∧ ps = (k, v) :: qs := by
  simp only [pairUp] at h
  cases e : pairUp r with
  | none => rw [e] at h; cases h
  | some qs => rw [e] at h; cases h; exact ⟨qs, rfl, rfl⟩
/-- the pairs are stored, one after another -/
theorem store_all {X : Cx} {E : Value → Shared → Prop} {pins : List (Addr × Obj)} {σ : L2.St} {f g : Hp} {ρ : List Addr} {h : Hh} {p : Addr} {t : Kc} (hu : X.A.units + 1 < cLine) : ∀ (ws : List (Value × Value)) (xs : List D) (vs : List V) (ps kvs : List (D × D)) (o : HO) (H : Hp) (s : Shared),
    pairUp xs = some ps → (∀ q ∈ ps, keyOk t q.1 = true) → RepL ⟨f, g⟩ ρ xs vs → Vals vs (ws.flatMap fun q => [q.1, q.2]) → kvs.length + ps.length ≤ big → Inv X pins σ H s → Rel X.K ⟨f, upd g p o⟩ ρ H h → DRep ⟨f, g⟩ ρ t kvs o →
    wpAny (model X.prog X.w) X.A (forIn ws PUnit.unit fun (x : Value × Value) (_ : PUnit) => (do dictSet p x.1 x.2; pure (ForInStep.yield PUnit.unit) : Sem (ForInStep PUnit))) (fun _ s' => ∃ o' H', Inv X pins σ H' s' ∧ Rel X.K ⟨f, upd g p o'⟩ ρ H' h ∧ DRep ⟨f, g⟩ ρ t (putAll kvs ps) o') E s
  | [], xs, vs, ps, kvs, o, H, s, hx, hk, rl, hv, hz, I, R, dr => by
    cases hv
    have : xs = [] := by
      have := rl.length
      exact List.eq_nil_of_length_eq_zero this.symm
    subst this
    cases hx
    rw [List.forIn_nil]
    exact wpAny_pure ⟨o, H, I, R, dr⟩
  | (w1, w2) :: ws, xs, vs, ps, kvs, o, H, s, hx, hk, rl, hv, hz, I, R, dr => by
    rw [List.flatMap_cons] at hv
    cases hv with
    | @cons v1 _ vs1 _ r1 hv =>
      cases hv with
      | @cons v2 _ vs2 _ r2 hv =>
        cases xs with
        | nil => cases rl
        | cons x1 xs =>
          cases xs with
          | nil => obtain ⟨_, _, e, _, e2⟩ := rl; cases e2; cases e
          | cons x2 xs =>
            obtain ⟨_, _, e, q1, _, _, e2, q2, rl⟩ := rl
            cases e
            cases e2
            obtain ⟨qs, hq, rfl⟩ := pairUp_cons hx
            rw [List.length_cons] at hz
            have hp := (R.held p _ upd_same).1
            obtain ⟨o', hput, dr'⟩ := DRep.put (p := p) R (dr.monof (F' := ⟨f, upd g p o⟩) lfs (Pre.refl _)) hp (by omega) (hk _ List.mem_cons_self) (Rep.monof (F' := ⟨f, upd g p o⟩) lfs (Pre.refl _) _ _ q1) (Rep.monof (F' := ⟨f, upd g p o⟩) lfs (Pre.refl _) _ _ q2)
            rw [List.forIn_cons]
            refine wpAny_bind (wpAny_bind (d_dset hu I hput r1 r2 fun s' I' => wpAny_pure ?_))
            have dr2 : DRep ⟨f, g⟩ ρ t (kput kvs x1 x2) o' := dr'.monof lfs (Pre.refl _)
            refine store_all hu ws xs vs2 qs (kput kvs x1 x2) o' _ s' hq (fun q hm => hk q (List.mem_cons_of_mem _ hm)) rl hv ?_ I' (R.rehold dr.raw o' dr2.raw) dr2
            have := kput_length kvs x1 x2
            omega
/-- the texts of the pairs, from the left -/
structure PPf (X : Cx) (pos : Pos) (keys : List (Option Expr)) (values : List Expr) (t : TA) : Prop where
  run : ∀ (pins : List (Addr × Obj)) (s : Shared) (σ : L2.St) (H : Hp) (Q : List V → Hp → Prop), Inv X pins σ H s → t σ H Q →
    wpAny (model X.prog X.w) X.A (evalPairs (pairTrees keys values X.env pos)) (fun ws s' => ∃ vs H', Inv X pins σ H' s' ∧ Vals vs (ws.flatMap fun q => [q.1, q.2]) ∧ Q vs H') X.xe s
section
variable {X : Cx} {W : WX} {base : Nat} {c : Cxt} (hc : ∀ f base args, Sane base (c.call f base args))
theorem ppf_nil {pos : Pos} : PPf X pos [] [] (tAs X.K base W (eXs c base [])) := ⟨fun pins s σ H Q I ⟨F, ρ, h, env, R, re, hl, out⟩ => by
  simp only [eXs, evEs] at out
  exact pairTrees_nil_walk ⟨[], H, I, .nil, Out.here out R [] rfl⟩⟩
include hc
theorem ppf_cons {pos : Pos} {k v : Expr} {ks : List (Option Expr)} {vs : List Expr} {k' v' : Ex} {es' : List Ex} (hk : PE X k (tE X.K base W (eX c base k'))) (hv : PE X v (tE X.K base W (eX c base v'))) (hr : PPf X pos ks vs (tAs X.K base W (eXs c base es'))) :
    PPf X pos (some k :: ks) (v :: vs) (tAs X.K base W (eXs c base (k' :: v' :: es'))) := by
  refine ⟨fun pins s σ H Q I ⟨F, ρ, h, env, R, re, hl, out⟩ => ?_⟩
  simp only [eXs, evEs, bind_at, Res.bind_assoc] at out
  have t : tE X.K base W (eX c base k') σ H fun x H1 => tE X.K base W (eX c base v') σ H1 fun y H2 => tAs X.K base W (eXs c base es') σ H2 fun zs H3 => Q (x :: y :: zs) H3 := by
    refine ⟨F, ρ, h, env, R, re, hl, out.bind.imp fun a h1 F1 ρ1 H1 e1 l1 p1 R1 o1 x rx => ?_⟩
    have hl1 := grow (sane_evE hc base env k') hl e1
    simp only [bind_at, Res.bind_assoc] at o1
    refine ⟨F1, ρ1, h1, env, R1, re.mono l1 p1, hl1, o1.bind.imp fun b h2 F2 ρ2 H2 e2 l2 p2 R2 o2 y ry => ?_⟩
    have hl2 := grow (sane_evE hc base env v') hl1 e2
    refine ⟨F2, ρ2, h2, env, R2, (re.mono l1 p1).mono l2 p2, hl2, o2.bind.imp fun zs h3 F3 ρ3 H3 e3 l3 p3 R3 o3 us rus => ?_⟩
    exact Out.here o3 R3 _ (.cons (Rep.mono l3 p3 _ _ (Rep.mono l2 p2 _ _ rx)) (.cons (Rep.mono l3 p3 _ _ ry) rus))
  refine pairTrees_cons_walk (thn (hk.run pins s σ H _ I t) fun u s1 ⟨x, H1, I1, rx, q1⟩ => thn (hv.run pins s1 σ H1 _ I1 q1) fun w2 s2 ⟨y, H2, I2, ry, q2⟩ =>
    thn (hr.run pins s2 σ H2 _ I2 q2) fun ws s3 ⟨zs, H3, I3, rel, q3⟩ => ⟨x :: y :: zs, H3, I3, ?_, q3⟩)
  rw [List.flatMap_cons]
  exact .cons rx (.cons ry rel)
theorem evEs_length {env : Px.Env} : ∀ (es : List Ex) (h h1 : Hh) (xs : List D), evEs c base env es h = .ok xs h1 → xs.length = es.length
  | [], h, h1, xs, e => by simp only [evEs] at e; cases e; rfl
  | e0 :: es, h, h1, xs, e => by
    simp only [evEs, bind_at] at e
    cases e1 : evE c base env e0 h with
    | ok x h2 =>
      rw [e1] at e
      simp only [bind_ok, bind_at] at e
      cases e2 : evEs c base env es h2 with
      | ok ys h3 =>
        rw [e2] at e
        cases e
        simp [evEs_length es h2 _ ys e2]
      | exc _ _ => rw [e2] at e; cases e
      | stuck => rw [e2] at e; cases e
    | exc _ _ => rw [e1] at e; cases e
    | stuck => rw [e1] at e; cases e
theorem pairUp_length : ∀ (n : Nat) (xs : List D) (ps : List (D × D)), xs.length ≤ n → pairUp xs = some ps → ps.length ≤ xs.length
  | _, [], ps, _, e => by cases e; exact Nat.le_refl _
  | _, [_], ps, _, e => by cases e
  | 0, _ :: _ :: _, ps, h, e => by simp at h
  | n + 1, x :: y :: r, ps, h, e => by
    obtain ⟨qs, hq, rfl⟩ := pairUp_cons e
    have := pairUp_length n r qs (by simp at h; omega) hq
    simp
    omega
/-- {k: v, ..} -/
theorem s_ddisp {pos : Pos} {keys : List (Option Expr)} {values : List Expr} {es' : List Ex} {t : Kc} {m : Bool} (hu : X.A.units + 1 < cLine) (hall : keys.all (·.isSome) = true) (hlen : keys.length = values.length) (h15 : keys.length ≤ 15) (h30 : es'.length ≤ 30) (hnil : keys = [] → es' = [])
    (hp : PPf X pos keys values (tAs X.K base W (eXs c base es'))) : PE X (.Dict keys values pos) (tE X.K base W (eX c base (.new m (.ddisp t es')))) := by
  refine ⟨fun pins s σ H Q I ⟨F, ρ, h, env, R, re, hl, out⟩ => ?_⟩
  simp only [eX] at out
  rw [new_ev, evAl, bind_at, Res.bind_assoc] at out
  have hp0 := I.hok.fresh (Nat.le_refl s.heap.objs.size)
  have I1 : Inv X pins σ (upd H s.heap.objs.size (dNil t)) { s with heap := s.heap.push { cls := .type "dict", data := .dict #[] }, toks := s.toks } := by
    refine I.laid (fun _ _ q => Heap.get?_push_of_some _ q) (Nat.le_refl _) ?_
    cases t with
    | k => exact dk_empty s.heap I.big
    | t => exact dt_empty s.heap I.big
  have R1 := R.hold hp0 (o := dNil t) (dNil_rep F ρ t).raw
  have hgn := R.gnone hp0
  have hg : ∀ a o, F.g a = some o → upd F.g s.heap.objs.size (dNil t) a = some o := fun a o q => by rw [upd_ne (ne_of_none q hgn)]; exact q
  -- the end: the pairs are stored
  have hT : tAs X.K base W (eXs c base es') σ (upd H s.heap.objs.size (dNil t)) fun vs H2 => ∃ (f2 : Hp) (ρ2 : List Addr) (h2 : Hh) (xs : List D) (ps : List (D × D)) (E : XK), Rel X.K ⟨f2, upd F.g s.heap.objs.size (dNil t)⟩ ρ2 H2 h2 ∧ RepL ⟨f2, F.g⟩ ρ2 xs vs ∧ pairUp xs = some ps ∧ (∀ q ∈ ps, keyOk t q.1 = true) ∧ ps.length ≤ 30 ∧
      Out X.K ⟨f2, F.g⟩ ρ2 ((if m then alloc (.d t (putAll [] ps)) else content (.d t (putAll [] ps))) h2) (fun d F' ρ' H' _ => ∀ v, Rep F' ρ' d v → Q v H') E := by
    refine ⟨⟨F.f, upd F.g s.heap.objs.size (dNil t)⟩, ρ, h, env, R1, show RepE _ ρ env σ from ⟨re.1, fun j d q => let ⟨v, a, b⟩ := re.2 j d q; ⟨v, a, Rep.monof lfg (Pre.refl _) d v b⟩⟩, hl, (out.bind.held (g := upd F.g s.heap.objs.size (dNil t)) hg).imp fun xs h2 F2 ρ2 H2 e2 l2 p2 R2 o2 vs rvs => ?_⟩
    have g2 : F2.g = upd F.g s.heap.objs.size (dNil t) := l2.g
    have hxs := evEs_length hc es' h h2 xs e2
    cases e3 : pairUp xs with
    | none => rw [e3] at o2; exact o2.elim
    | some ps =>
      simp only [e3] at o2
      split at o2
      · rename_i hk
        rw [List.all_eq_true] at hk
        have h3 := pairUp_length hc xs.length xs ps (Nat.le_refl _) e3
        refine ⟨F2.f, ρ2, h2, xs, ps, WE W σ, by rw [← g2]; exact R2, RepL.monof (F := F2) lfg (Pre.refl _) _ _ rvs, e3, hk, by omega, ?_⟩
        simp only [ret_at, bind_ok] at o2
        exact o2
      · exact o2.elim
  by_cases h0 : keys = []
  · subst h0
    cases values with
    | cons _ _ => cases hlen
    | nil =>
      have e0 := hnil rfl
      subst e0
      simp only [evEs, ret_at, bind_ok, pairUp, List.all_nil, if_true, putAll] at out
      exact wpAny_Dict_empty ⟨.ref s.heap.objs.size, _, I1, rfl, Out.let R1 (dNil_rep F ρ t).raw hgn out ((dNil_rep F ρ t).new (Nat.zero_le _))⟩
  · have hn := pairTrees_length keys values X.env pos hall hlen
    rw [arm_eval_Dict, zip_pairTrees keys values X.env pos hall hlen, dictDisplay_pairs _ (fun z => h0 (List.length_eq_zero_iff.mp (by rw [← hn, z]; rfl))) (by omega)]
    refine wpAny_bind (wpAny_standAt (wpAny_bind ?_))
    unfold subDict
    refine wpAny_bind (wpAny_alloc (wpAny_bind (wpAny_holding ?_)))
    rw [if_pos (by omega)]
    refine wpAny_bind (thn (hp.run pins _ σ _ _ I1 hT) fun ws s2 ⟨vs, H2, I2, rv, f2, ρ2, h2, xs, ps, E, R2, rvs, e3, hk, hz, o2⟩ => ?_)
    refine wpAny_holding (wpAny_bind (thn (store_all hu ws xs vs ps [] (dNil t) H2 s2 e3 hk rvs rv (by rw [List.length_nil]; have : (30 : Nat) ≤ big := (by decide); omega) I2 R2 (dNil_rep _ _ t)) fun _ s3 ⟨o', H3, I3, R3, dr⟩ => ?_))
    have hq := Out.let R3 dr.raw hgn o2 (dr.new (by have h1 := putAll_length ps []; rw [List.length_nil] at h1; have : (30 : Nat) ≤ big := (by decide); omega))
    exact wpAny_pure (wpAny_pure (wpAny_pure ⟨.ref s.heap.objs.size, H3, I3, rfl, hq⟩))
end
end
end Px

set_option autoImplicit false
set_option linter.all false
set_option maxRecDepth 100000
/-! New lists and dicts. -/
namespace Px
open PySem L2 PySem.Spec PyProof.Rows
theorem RepL.keys {F : FF} {ρ : List Addr} : ∀ {kvs : List (D × D)} {ks : List (Key × V)}, RepK F ρ kvs ks → RepL F ρ (kvs.map (·.1)) (ks.map fun kv => kV kv.1)
  | [], _, h => by cases h; rfl
  | (a, d) :: r, _, h => by
    obtain ⟨q, w, s, rfl, rfl, r1, r2⟩ := h
    exact ⟨_, _, rfl, rep_key _ _ q, RepL.keys r2⟩
/-- the tuples at bs never change -/
theorem Rel.seens {K : PySem.W.Frag} {ρ : List Addr} {H : Hp} {h : Hh} : ∀ {bs : List Addr} {F : FF} {kvs : List (D × D)} {ks : List (List Key × V)}, Rel K F ρ H h → RepT F ρ kvs ks → IsKeys H ks bs → ∃ F', Le F F' ∧ Rel K F' ρ H h ∧ RepL F' ρ (kvs.map (·.1)) (bs.map V.ref)
  | [], F, kvs, ks, R, r, k => by
    cases k
    cases kvs with
    | nil => exact ⟨F, Le.refl F, R, rfl⟩
    | cons a s => obtain ⟨_, _⟩ := a; obtain ⟨_, _, _, e, _⟩ := r; cases e
  | b :: bs, F, kvs, ks, R, r, k => by
    cases k with
    | @cons p _ ps _ hb k =>
      cases kvs with
      | nil => cases r
      | cons a s =>
        obtain ⟨x, y⟩ := a
        obtain ⟨q, w, s', e, rfl, hq, r1, r2⟩ := r
        cases e
        obtain ⟨R2, l2⟩ := R.seen hb
        obtain ⟨F3, l3, R3, r3⟩ := Rel.seens R2 (RepT.mono l2 (Pre.refl _) _ _ r2) k
        exact ⟨F3, l2.trans l3, R3, _, _, rfl, ⟨b, q.map kV, rfl, l3.l _ _ upd_same, by rw [List.length_map]; exact hq, repL_key _ _ q⟩, r3⟩
/-- what a new object's making promises -/
def rAl (K : PySem.W.Frag) (m : Bool) (op : D → M Cell) : List V → Hp → VK → Prop := fun xs H Q => ∃ F ρ h d x E, xs = [x] ∧ Rel K F ρ H h ∧ Rep F ρ d x ∧ Out K F ρ ((op d h).bind fun ct => if m then alloc ct else content ct) (fun d F' ρ' H' _ => ∀ v, Rep F' ρ' d v → Q v H') E
def listop (d : D) : M Cell := bind (walkOf d) fun w => match w with
  | .items xs => ret (.l xs)
  | .cell l _ => bind (cellAt l) fun c => match c with
    | .l xs => ret (.l xs)
    | _ => fail
  | .keys l => bind (cellAt l) fun c => match c with
    | .d _ kvs => ret (.l (kvs.map (·.1)))
    | _ => fail
def dictop (t : Kc) (d : D) : M Cell := bind (lstOf d) fun xs => match pairsOf xs with
  | some kvs => if kvs.all fun p => keyOk t p.1 then ret (.d t (putAll [] kvs)) else fail
  | none => fail
def sortop (d : D) : M Cell := bind (lstOf d) fun xs => match intsOf xs with
  | some ns => ret (.l ((isort ns).map .int))
  | none => if sortable xs then ret (.l (sortD xs)) else fail
theorem ins_perm (x : Int) : ∀ l : List Int, (ins x l).Perm (x :: l)
  | [] => .refl _
  | y :: r => by
    unfold ins
    split
    · exact .refl _
    · exact ((ins_perm x r).cons y).trans (.swap x y r)
theorem isort_perm : ∀ l : List Int, (isort l).Perm l
  | [] => .refl _
  | x :: r => (ins_perm x _).trans ((isort_perm r).cons x)
theorem ins_sorted (x : Int) : ∀ l : List Int, l.Pairwise (· ≤ ·) → (ins x l).Pairwise (· ≤ ·)
  | [], _ => by simp [ins]
  | y :: r, h => by
    unfold ins
    rw [List.pairwise_cons] at h
    split
    · rename_i hxy
      rw [List.pairwise_cons, List.pairwise_cons]
      refine ⟨fun z hz => ?_, h⟩
      rcases List.mem_cons.mp hz with e | hz
      · omega
      · have := h.1 z hz
        omega
    · rename_i hxy
      rw [List.pairwise_cons]
      refine ⟨fun z hz => ?_, ins_sorted x r h.2⟩
      rcases List.mem_cons.mp ((ins_perm x r).mem_iff.mp hz) with e | hz
      · omega
      · exact h.1 z hz
theorem isort_sorted : ∀ l : List Int, (isort l).Pairwise (· ≤ ·)
  | [] => .nil
  | x :: r => ins_sorted x _ (isort_sorted r)
theorem sorted_unique {a b : List Int} (p : a.Perm b) (ha : a.Pairwise (· ≤ ·)) (hb : b.Pairwise (· ≤ ·)) : a = b :=
  p.eq_of_pairwise (fun x y _ _ h k => Int.le_antisymm h k) ha hb
section
variable {X : Cx}
theorem call_listop (hc : X.calm = true) (m : Bool) : CallR X (.type "list") (rAl X.K m listop) := by
  intro pins s σ H xs us Q I r ⟨F, ρ, h, d, x, E, ex, R, rd, out⟩
  subst ex
  have seq : ∀ {p : Addr} {ds : List D} {vs : List V}, x = .ref p → (SqL X.K H p vs ∨ SqT X.K H p vs) → ds.length ≤ big → RepL F ρ ds vs → Out X.K F ρ ((if m then alloc (.l ds) else content (.l ds)) h) (fun d F' ρ' H' _ => ∀ v, Rep F' ρ' d v → Q v H') E → wpAny (model X.prog X.w) X.A (call (.type "list") us) (EP X pins σ Q) X.xe s := by
    intro p ds vs ex hs hz rl o
    subst ex
    exact call_list_of pins s σ H _ us Q I r ⟨p, vs, rfl, hs, fun l hl => Out.place R o hl ⟨vs, rfl, hz, rl⟩⟩
  cases d with
  | tup ds =>
    obtain ⟨p, vs, rfl, hp, hz, rl⟩ := rd
    exact seq rfl (.inr (SqT.of (R.sub _ _ hp))) hz rl out
  | lst ds =>
    obtain ⟨p, vs, rfl, hp, hz, rl⟩ := rd
    exact seq rfl (.inl (SqL.of (R.sub _ _ hp))) hz rl out
  | scr ds =>
    obtain ⟨p, vs, rfl, hp, hz, rl⟩ := rd
    refine seq rfl (.inl (.inl ?_)) hz rl out
    rcases hp with e | ⟨u, e⟩
    · exact .inl (R.sub _ _ e)
    · exact .inr ⟨u, R.sub _ _ e⟩
  | ref l =>
    obtain ⟨p, rfl, hp⟩ := rd
    obtain ⟨ce, hce, x'⟩ := R.at' hp
    simp only [listop, walkOf, bind_at, cellAt_some hce, bind_ok] at out
    cases ce with
    | l ds =>
      obtain ⟨vs, k1, k2, k3⟩ := x'
      simp only [ret_at, bind_ok, bind_at, cellAt_some hce] at out
      exact seq rfl (.inl (SqL.of k1)) k2 k3 out
    | d t kvs =>
      simp only [ret_at, bind_ok, bind_at, cellAt_some hce] at out
      cases t with
      | k =>
        obtain ⟨ks, k1, k2, k3⟩ := x'
        exact call_list_dK hc pins s σ H _ us Q I r ⟨p, ks, rfl, k1, fun q hq => Out.place R out hq ⟨_, rfl, by rw [List.length_map]; exact k2, RepL.keys k3⟩⟩
      | t =>
        obtain ⟨ks, k1, k2, k3⟩ := x'
        refine call_list_dT hc pins s σ H _ us Q I r ⟨p, ks, rfl, .inl k1, fun q bs hq hb => ?_⟩
        obtain ⟨F2, l2, R2, r2⟩ := Rel.seens R k3 hb
        exact Out.place R2 (out.ext l2 (Pre.refl _)) hq ⟨_, rfl, by rw [List.length_map]; exact k2, r2⟩
    | _ => exact out.elim
  | _ => exact out.elim
/-- pairs of a list -/
theorem pairs_rep {F : FF} {ρ : List Addr} {K : PySem.W.Frag} {H : Hp} {h : Hh} (R : Rel K F ρ H h) : ∀ {xs : List D} {vs : List V} {kvs : List (D × D)}, RepL F ρ xs vs → pairsOf xs = some kvs → (∀ p ∈ kvs, keyOk .k p.1 = true) →
    ∃ (ps : List Addr) (ks : List (Key × V)), vs = ps.map V.ref ∧ RepK F ρ kvs ks ∧ Paired (fun p kv => SqT K H p [kV kv.1, kv.2]) ps ks
  | [], _, kvs, rl, e, _ => by
    cases rl
    cases e
    exact ⟨[], [], rfl, rfl, .nil⟩
  | d :: xs, _, kvs, rl, e, hk => by
    obtain ⟨w, ws, rfl, rd, rl⟩ := rl
    cases d with
    | tup ds =>
      cases ds with
      | nil => cases e
      | cons a ds =>
        cases ds with
        | nil => cases e
        | cons b ds =>
          cases ds with
          | cons _ _ => cases e
          | nil =>
            have e : (pairsOf xs).map ((a, b) :: ·) = some kvs := e
            cases q : pairsOf xs with
            | none => rw [q] at e; cases e
            | some r =>
              rw [q] at e
              cases e
              obtain ⟨p, us, rfl, hp, hz, u1, us1, rfl, r1, u2, us2, rfl, r2, r3⟩ := rd
              cases r3
              obtain ⟨k, rfl, rfl⟩ := flat_key (show a.flat = true from hk _ List.mem_cons_self) r1
              obtain ⟨ps, ks, rfl, i2, i3⟩ := pairs_rep R rl q fun z hz => hk z (List.mem_cons_of_mem _ hz)
              exact ⟨p :: ps, (k, u2) :: ks, rfl, ⟨k, u2, ks, rfl, rfl, r2, i2⟩, .cons (SqT.of (R.sub _ _ hp)) i3⟩
    | _ => cases e
theorem mergeK_put {F : FF} {ρ : List Addr} : ∀ {more : List (D × D)} {ms : List (Key × V)} {kvs : List (D × D)} {ks : List (Key × V)}, RepK F ρ more ms → RepK F ρ kvs ks → RepK F ρ (putAll kvs more) (mergeK ks ms)
  | [], _, _, _, h, k => by cases h; exact k
  | (a, b) :: r, _, kvs, ks, h, k => by
    obtain ⟨q, w, s, rfl, rfl, r1, r2⟩ := h
    have z := mergeK_put (more := r) (ms := s) r2 (k.put (k := q) r1)
    exact z
theorem pairsOf_length : ∀ {xs : List D} {kvs : List (D × D)}, pairsOf xs = some kvs → kvs.length = xs.length
  | [], kvs, e => by cases e; rfl
  | d :: xs, kvs, e => by
    cases d with
    | tup ds =>
      cases ds with
      | nil => cases e
      | cons a ds =>
        cases ds with
        | nil => cases e
        | cons b ds =>
          cases ds with
          | cons _ _ => cases e
          | nil =>
            have e : (pairsOf xs).map ((a, b) :: ·) = some kvs := e
            cases q : pairsOf xs with
            | none => rw [q] at e; cases e
            | some r => rw [q] at e; cases e; simp [pairsOf_length q]
    | _ => cases e
theorem call_dictK (hc : X.calm = true) (m : Bool) : CallR X (.type "dict") (rAl X.K m (dictop .k)) := by
  intro pins s σ H xs us Q I r ⟨F, ρ, h, d, x, E, ex, R, rd, out⟩
  subst ex
  simp only [dictop, bind_at, Res.bind_assoc] at out
  obtain ⟨p, ds, vs, rfl, hp, hz, rl, out⟩ := lstOf_at R rd out
  cases e : pairsOf ds with
  | none => simp only [e] at out; exact out.elim
  | some kvs =>
    simp only [e] at out
    split at out
    · rename_i hk
      rw [List.all_eq_true] at hk
      obtain ⟨ps, ks, rfl, r1, r2⟩ := pairs_rep R rl e hk
      refine call_dictP hc pins s σ H _ us Q I r ⟨p, ps, ks, rfl, SqL.of hp, r2, fun q hq => Out.place R out hq ⟨_, rfl, ?_, mergeK_put r1 rfl⟩⟩
      have h1 := putAll_length kvs []
      have h2 := pairsOf_length e
      simp at h1
      omega
    · exact out.elim
end
end Px

set_option autoImplicit false
set_option linter.all false
set_option maxRecDepth 100000
/-! New lists and dicts in the text. -/
namespace Px
open PySem L2 PySem.Spec PyProof.Rows
section
variable {X : Cx} {W : WX} {base : Nat} {c : Cxt} (hc : ∀ f base args, Sane base (c.call f base args))
include hc
theorem s_disp {es : List Expr} {es' : List Ex} {m : Bool} {pos : Pos} (h : PA X es (tAs X.K base W (eXs c base es'))) : PE X (.List es pos) (tE X.K base W (eX c base (.new m (.disp es')))) := by
  refine (pe_lst h).weak fun σ H Q ⟨F, ρ, h, env, R, re, hl, out⟩ => ?_
  simp only [eX] at out
  rw [new_ev, evAl, bind_at, Res.bind_assoc] at out
  refine ⟨F, ρ, h, env, R, re, hl, out.bind.imp fun xs h1 F1 ρ1 H1 e1 l1 p1 R1 o1 vs rvs => ?_⟩
  simp only [short, bind_at] at o1
  split at o1
  · rename_i hs
    simp only [ret_at, bind_ok] at o1
    exact ⟨by rw [rvs.length, ← big_eq]; exact hs, fun p hp => Out.place R1 o1 hp ⟨vs, rfl, hs, rvs⟩⟩
  · exact o1.elim
theorem al1 {al : Al} {a' : Ex} {op : D → M Cell} {m : Bool} (he : ∀ env h, evAl c base env al h = (evE c base env a' h).bind op) : ∀ σ H Q, tE X.K base W (eX c base (.new m al)) σ H Q → tAs X.K base W (eXs c base [a']) σ H fun vs H1 => rAl X.K m op vs H1 Q := by
  intro σ H Q ⟨F, ρ, h, env, R, re, hl, out⟩
  simp only [eX] at out
  rw [new_ev, he, Res.bind_assoc] at out
  refine ⟨F, ρ, h, env, R, re, hl, ?_⟩
  have e : eXs c base [a'] env h = (evE c base env a' h).bind fun x => ret [x] := by
    simp only [eXs, evEs, bind_at]
    cases evE c base env a' h <;> rfl
  rw [e]
  cases e1 : evE c base env a' h with
  | ok x h1 =>
    rw [e1] at out
    intro F1 ρ1 H1 l1 p1 R1 vs rvs
    obtain ⟨v, vs', rfl, rv, rn⟩ := rvs
    cases rn
    exact ⟨F1, ρ1, h1, x, v, WE W σ, rfl, R1, rv, out.ext l1 p1⟩
  | exc z h1 => rw [e1] at out; exact out
  | stuck => rw [e1] at out; exact out
theorem s_call1 {a : Expr} {a' : Ex} {x : Str} {T : String} {r : List V → Hp → VK → Prop} {op : D → M Cell} {al : Al} {m : Bool} {p pos : Pos} (cr : CallR X (.type T) (rAl X.K m op)) (hg : Gl X x) (hm : X.mg x = none) (hv : bootBuiltins x = some (.type T)) (hx : x ≠ "__name__" := by decide) (hdb : (x == ("__debug__" : Str)) = false := by decide)
    (hn : ns a = true) (ha : PE X a (tE X.K base W (eX c base a'))) (he : ∀ env h, evAl c base env al h = (evE c base env a' h).bind op) : PE X (.Call (.Name x p) [a] [] pos) (tE X.K base W (eX c base (.new m al))) :=
  (pe_callTy cr hg hm hv (s_cons hc hn ha (s_nil hc)) hx hdb (star_cons hn) rfl).weak fun σ H Q q => al1 hc he σ H Q q
theorem s_listEx {a : Expr} {a' : Ex} {m : Bool} {p pos : Pos} (hcalm : X.calm = true) (hg : Gl X "list") (hm : X.mg "list" = none) (hn : ns a = true) (ha : PE X a (tE X.K base W (eX c base a'))) :
    PE X (.Call (.Name "list" p) [a] [] pos) (tE X.K base W (eX c base (.new m (.listOf (.ex a'))))) :=
  (pe_callTy (call_listop hcalm m) hg hm (by decide +kernel) (s_cons hc hn ha (s_nil hc)) (he := star_cons hn)).weak fun σ H Q q => al1 hc (fun env h => by
    simp only [evAl, evIt, bind_at, Res.bind_assoc]
    rfl) σ H Q q
theorem s_dictK {a : Expr} {a' : Ex} {m : Bool} {p pos : Pos} (hcalm : X.calm = true) (hg : Gl X "dict") (hm : X.mg "dict" = none) (hn : ns a = true) (ha : PE X a (tE X.K base W (eX c base a'))) :
    PE X (.Call (.Name "dict" p) [a] [] pos) (tE X.K base W (eX c base (.new m (.dictOf .k a')))) :=
  (pe_callTy (call_dictK hcalm m) hg hm (by decide +kernel) (s_cons hc hn ha (s_nil hc)) (he := star_cons hn)).weak fun σ H Q q => al1 hc (fun env h => by
    simp only [evAl, bind_at]
    rfl) σ H Q q
theorem rgV_rep {F : FF} {ρ : List Addr} {i j : Int} : RepL F ρ (rangeD i (j - i).toNat) (rgV i j) := by
  have key : ∀ (n : Nat) (lo : Int), RepL F ρ (rangeD lo n) ((List.range n).map fun k => V.int (lo + (k : Nat))) := by
    intro n
    induction n with
    | zero => intro lo; rfl
    | succ n ih =>
      intro lo
      rw [List.range_succ_eq_map, List.map_cons, List.map_map]
      refine ⟨_, _, rfl, by simp [Rep], ?_⟩
      have e : (fun k : Nat => V.int (lo + (k : Nat))) ∘ Nat.succ = fun k : Nat => V.int (lo + 1 + (k : Nat)) := by
        funext k
        show V.int (lo + ((k + 1 : Nat) : Int)) = _
        congr 1
        omega
      rw [e]
      exact ih (lo + 1)
  exact key _ i
/-- list(range(b)) -/
theorem s_listR1 {b : Expr} {b' : Ex} {m : Bool} {p p2 pos pos2 : Pos} (hcalm : X.calm = true) (hg : Gl X "list") (hm : X.mg "list" = none) (hg2 : Gl X "range") (hm2 : X.mg "range" = none) (hn : ns b = true) (hb : PE X b (tE X.K base W (eX c base b'))) :
    PE X (.Call (.Name "list" p) [.Call (.Name "range" p2) [b] [] pos2] [] pos) (tE X.K base W (eX c base (.new m (.listOf (.range1 b'))))) := by
  refine (pe_listRg hcalm hg hm (prg_1 hg2 hm2 hb (star_cons hn))).weak fun σ H Q ⟨F, ρ, h, env, R, re, hl, out⟩ => ?_
  simp only [eX] at out
  rw [new_ev, evAl, evIt, bind_at, bind_at, Res.bind_assoc, Res.bind_assoc] at out
  refine ⟨F, ρ, h, env, R, re, hl, out.bind.imp fun x h1 F1 ρ1 H1 e1 l1 p1 R1 o1 v rv => ?_⟩
  cases x with
  | int j =>
    refine ⟨j, rv, ?_⟩
    simp only [asInt, bind_at, ret_at, bind_ok, rangeW] at o1
    split at o1
    · rename_i hs
      simp only [Bool.and_eq_true, decide_eq_true_eq] at hs
      simp only [ret_at, bind_ok, bind_at] at o1
      have hb : big = 2 ^ 24 := by decide
      refine ⟨⟨by omega, by omega, by omega, by omega, by omega⟩, fun q hq => Out.place R1 o1 hq ⟨_, rfl, by rw [rangeD_length]; exact hs.2.2, rgV_rep hc⟩⟩
    · exact o1.elim
  | _ => exact o1.elim
/-- sorted(list of ints) -/
theorem call_sortI (m : Bool) : CallR X (.builtin "sorted") (fun xs H Q => ∃ F ρ h d x E ds ns, xs = [x] ∧ Rel X.K F ρ H h ∧ Rep F ρ d x ∧ lstOf d h = .ok ds h ∧ intsOf ds = some ns ∧ Out X.K F ρ ((if m then alloc (.l ((isort ns).map .int)) else content (.l ((isort ns).map .int))) h) (fun d F' ρ' H' _ => ∀ v, Rep F' ρ' d v → Q v H') E) := by
  intro pins s σ H xs us Q I r ⟨F, ρ, h, d, x, E, ds, ns, ex, R, rd, e1, e2, out⟩
  subst ex
  obtain ⟨p, ds', vs, rfl, hp, hz, rl, o2⟩ := lstOf_at (f := fun ds' => ret ds') (Φ := fun a _ _ _ _ => a = ds) (E := fun _ _ _ => True) R rd (by rw [e1]; exact fun _ _ _ _ _ _ => rfl)
  have e3 : ds' = ds := Out.here o2 R
  subst e3
  have e4 := rl.ints e2
  subst e4
  refine cr_sortedI pins s σ H _ us Q I r ⟨p, ns, rfl, SqL.of hp, fun ns' q hperm hsort hq => ?_⟩
  have e5 : ns' = isort ns := sorted_unique (hperm.trans (isort_perm ns).symm) hsort (isort_sorted ns)
  subst e5
  exact Out.place R out hq ⟨_, rfl, by rw [List.length_map, (isort_perm ns).length_eq]; have := rl.length; rw [List.length_map] at this; omega, RepL.of_ints _⟩
end
end Px

set_option autoImplicit false
set_option linter.all false
set_option maxRecDepth 100000
/-! Statements, one form after another. -/
namespace Px
open PySem L2 PySem.Spec PyProof.Rows
/-- how a statement ends -/
def Fin (D : Ends) : Flow × Px.Env → FF → List Addr → Hp → Hh → Prop := fun p F' ρ' H' _ => match p.1 with
  | .next => ∀ σ', RepE F' ρ' p.2 σ' → D.nx σ' H'
  | .brk => ∀ σ', RepE F' ρ' p.2 σ' → D.bk σ' H'
  | .cont => ∀ σ', RepE F' ρ' p.2 σ' → D.ct σ' H'
  | .ret d => ∀ v, Rep F' ρ' d v → D.rt v H'
/-- what is wished of an exception, whatever the slots -/
abbrev Wk (E : XK) : WX := fun c d _ H => E c d H
def tS (K : PySem.W.Frag) (base : Nat) (E : XK) (m : Px.Env → M (Flow × Px.Env)) : TS := fun D σ H => ∃ F ρ h env, Rel K F ρ H h ∧ RepE F ρ env σ ∧ base ≤ h.length ∧ Out K F ρ (m env h) (Fin D) E
section
variable {X : Cx} {E : XK} {base : Nat} {c : Cxt} (hc : ∀ f base args, Sane base (c.call f base args))
abbrev eSt (c : Cxt) (base : Nat) (s : Stm) : Px.Env → M (Flow × Px.Env) := fun env => exec c base s env
abbrev eSs (c : Cxt) (base : Nat) (ss : List Stm) : Px.Env → M (Flow × Px.Env) := fun env => execs c base ss env
theorem st_pass {pos : Pos} : PS X (.Pass pos) (tS X.K base E (eSt c base .pass)) :=
  ps_pass.weak fun D σ H ⟨F, ρ, h, env, R, re, hl, out⟩ => by
    simp only [eSt, exec] at out
    exact Out.here out R σ re
theorem st_brk {pos : Pos} : PS X (.Break pos) (tS X.K base E (eSt c base .brk)) :=
  ps_break.weak fun D σ H ⟨F, ρ, h, env, R, re, hl, out⟩ => by
    simp only [eSt, exec] at out
    exact Out.here out R σ re
theorem st_cont {pos : Pos} : PS X (.Continue pos) (tS X.K base E (eSt c base .cont)) :=
  ps_continue.weak fun D σ H ⟨F, ρ, h, env, R, re, hl, out⟩ => by
    simp only [eSt, exec] at out
    exact Out.here out R σ re
theorem st_retN {pos : Pos} : PS X (.Return none pos) (tS X.K base E (eSt c base .retN)) :=
  ps_retN.weak fun D σ H ⟨F, ρ, h, env, R, re, hl, out⟩ => by
    simp only [eSt, exec] at out
    exact Out.here out R .non rfl
theorem st_ret {e : Expr} {e' : Ex} {pos : Pos} (he : PE X e (tE X.K base (Wk E) (eX c base e'))) : PS X (.Return (some e) pos) (tS X.K base E (eSt c base (.ret e'))) :=
  (ps_ret he).weak fun D σ H ⟨F, ρ, h, env, R, re, hl, out⟩ => by
    simp only [eSt, exec, bind_at] at out
    exact ⟨F, ρ, h, env, R, re, hl, out.bind.imp fun x h1 F1 ρ1 H1 e1 l1 p1 R1 o1 v rv => Out.here o1 R1 v rv⟩
theorem st_expr {e : Expr} {e' : Ex} {pos : Pos} (he : PE X e (tE X.K base (Wk E) (eX c base e'))) (hs : swapsWith e none pos.line X.env = pure false) : PS X (.Expr e pos) (tS X.K base E (eSt c base (.expr e'))) :=
  (ps_expr he hs).weak fun D σ H ⟨F, ρ, h, env, R, re, hl, out⟩ => by
    simp only [eSt, exec, bind_at] at out
    exact ⟨F, ρ, h, env, R, re, hl, out.bind.imp fun x h1 F1 ρ1 H1 e1 l1 p1 R1 o1 v rv => Out.here o1 R1 σ (re.mono l1 p1)⟩
/-- name = value: what the store leaves -/
theorem set_fin {e' : Ex} {i : Nat} {D : Ends} {σ : L2.St} {H : Hp} (t : tS X.K base E (eSt c base (.set i e')) D σ H) : tE X.K base (Wk E) (eX c base e') σ H (fun x H1 => gName i x σ H1 D.nx) := by
  obtain ⟨F, ρ, h, env, R, re, hl, out⟩ := t
  simp only [eSt, exec, bind_at] at out
  exact ⟨F, ρ, h, env, R, re, hl, out.bind.imp fun x h1 F1 ρ1 H1 e1 l1 p1 R1 o1 v rv => Out.here o1 R1 _ ((re.mono l1 p1).set i rv)⟩
theorem st_set {i : Nat} {x : Str} {e : Expr} {e' : Ex} {pos pos' : Pos} (hN : X.N.Nodup) (hi : X.N[i]? = some x) (hx : Loc X.env.scope x) (hf : X.fn x = true ∨ X.env.scope.names.lookup x = some .local) (he : PE X e (tE X.K base (Wk E) (eX c base e')))
    (hs : swapsWith e (some (.Name x pos')) pos.line X.env = pure false) : PS X (.Assign [.Name x pos'] e pos) (tS X.K base E (eSt c base (.set i e'))) :=
  (ps_set hN hi hx he hs hf).weak fun D σ H t => set_fin t
theorem st_setU {i : Nat} {x : Str} {e : Expr} {e' : Ex} {pos pos' : Pos} (h : PS X (.Assign [.Name x pos'] e pos) (tAsg (tE X.K base (Wk E) (eX c base e')) (gName i))) : PS X (.Assign [.Name x pos'] e pos) (tS X.K base E (eSt c base (.set i e'))) :=
  h.weak fun D σ H t => set_fin t
theorem st_setT {tg e : Expr} {e' : Ex} {tg' : Tg} {S : List Nat} {pos : Pos} (he : PE X e (tE X.K base (Wk E) (eX c base e'))) (hg : PG X tg (gT X.K S (bindTg tg'))) (hs : swapsWithSole [tg] e pos.line X.env = pure false) (hw : swappedStores [tg] e X.env = pure none) (hn : ns tg = true) :
    PS X (.Assign [tg] e pos) (tS X.K base E (eSt c base (.setT tg' e'))) := by
  refine (ps_asg he hg hs hw (by rw [asg_cons hn]; rfl)).weak fun D σ H ⟨F, ρ, h, env, R, re, hl, out⟩ => ?_
  simp only [eSt, exec, bind_at] at out
  refine ⟨F, ρ, h, env, R, re, hl, out.bind.imp fun x h1 F1 ρ1 H1 e1 l1 p1 R1 o1 v rv => ?_⟩
  simp only [bind_at] at o1
  exact ⟨F1, ρ1, h1, env, x, _, R1, rv, re.mono l1 p1, o1.bind.imp fun env' h2 F2 ρ2 H2 e2 l2 p2 R2 o2 σ' re' ag => Out.here o2 R2 σ' re'⟩
theorem st_aug {i : Nat} {x : Str} {e : Expr} {e' : Ex} {op : Bop} {pos pos' : Pos} (hN : X.N.Nodup) (hi : X.N[i]? = some x) (hx : Loc X.env.scope x) (hf : X.fn x = true ∨ X.env.scope.names.lookup x = some .local) (he : PE X e (tE X.K base (Wk E) (eX c base e'))) :
    PS X (.AugAssign (.Name x pos') (opOf op) e pos) (tS X.K base E (eSt c base (.aug i op e'))) := by
  have key : ∀ {ti : TIp}, (∀ {a b : D} {v w : V} {F : FF} {ρ : List Addr} {env : Px.Env} {σ : L2.St} {H : Hp} {h : Hh} {Dn : Ends}, Rel X.K F ρ H h → RepE F ρ env σ → Rep F ρ a v → Rep F ρ b w → Out X.K F ρ ((match op, a, b with
        | .add, .int a, .int b => ret (Flow.next, env.set i (some (.int (a + b))))
        | .sub, .int a, .int b => ret (Flow.next, env.set i (some (.int (a - b))))
        | _, _, _ => fail : M (Flow × Px.Env)) h) (Fin Dn) E → ti v w H fun z H2 => Dn.nx (σ.set i (some z)) H2) →
      ∀ D σ H, tS X.K base E (eSt c base (.aug i op e')) D σ H → tAug i (tE X.K base (Wk E) (eX c base e')) ti D σ H := by
    intro ti hti D σ H ⟨F, ρ, h, env, R, re, hl, out⟩
    simp only [eSt, exec, bind_at] at out
    unfold getVar at out
    cases q : env[i]? with
    | none => rw [q] at out; exact out.elim
    | some od =>
      rw [q] at out
      cases od with
      | none => exact out.elim
      | some d =>
        obtain ⟨v, ev, rv⟩ := re.2 i d q
        refine ⟨v, ev, F, ρ, h, env, R, re, hl, ?_⟩
        simp only [ret_at, bind_ok] at out
        exact out.bind.imp fun y h1 F1 ρ1 H1 e1 l1 p1 R1 o1 w rw' => hti R1 (re.mono l1 p1) (Rep.mono l1 p1 _ _ rv) rw' o1
  cases op with
  | add =>
    refine (ps_aug hN hi hx he ip_add hf).weak (key fun {a b v w F ρ env σ H h D} R re ra rb o => ?_)
    cases a with
    | int a =>
      cases b with
      | int b => exact ⟨a, b, ra, rb, Out.here o R _ (re.set i rfl)⟩
      | _ => exact o.elim
    | _ => exact o.elim
  | sub =>
    refine (ps_aug hN hi hx he ip_sub hf).weak (key fun {a b v w F ρ env σ H h D} R re ra rb o => ?_)
    cases a with
    | int a =>
      cases b with
      | int b => exact ⟨a, b, ra, rb, Out.here o R _ (re.set i rfl)⟩
      | _ => exact o.elim
    | _ => exact o.elim
  | _ => exact (ps_aug (ti := fun _ _ _ _ => False) hN hi hx he (fun _ _ _ _ _ _ _ _ _ _ _ _ z => z.elim) hf).weak (key fun {a b v w F ρ env σ H h D} R re ra rb o => by cases a <;> cases b <;> exact o.elim)
include hc
theorem st_setIdx {o i e : Expr} {o' i' e' : Ex} {pos tpos : Pos} (hu : X.A.units + 200 < cLine) (nsl : ∀ lo up p, i ≠ .Slice lo up none p) (ho : PE X o (tE X.K base (Wk E) (eX c base o'))) (hi : PE X i (tE X.K base (Wk E) (eX c base i'))) (he : PE X e (tE X.K base (Wk E) (eX c base e'))) :
    PS X (.Assign [.Subscript o i tpos] e pos) (tS X.K base E (eSt c base (.setIdx o' i' e'))) := by
  have ha : ∀ v, assign (.Subscript o i tpos) X.env v = (do
      let ov ← holding [v] (eval o X.env)
      let iv ← holding [v, ov] (eval i X.env)
      standAt tpos
      holding [v, ov, iv] (setItem ov iv v)
      release [v, ov, iv] []) := by
    intro v
    cases i with
    | Slice lo up st p => cases st with
      | none => exact absurd rfl (nsl lo up p)
      | some _ => rfl
    | _ => rfl
  have sw : swapsWithSole [.Subscript o i tpos] e pos.line X.env = pure false := by
    cases e <;> rfl
  refine (ps_asg he (pg_sub ho hi (set_any hu base) ha) sw (by unfold swappedStores; rfl) rfl).weak fun D σ H ⟨F, ρ, h, env, R, re, hl, out⟩ => ?_
  simp only [eSt, exec, bind_at] at out
  refine ⟨F, ρ, h, env, R, re, hl, out.bind.imp fun x h1 F1 ρ1 H1 e1 l1 p1 R1 o1 v rv => ?_⟩
  have hl1 := grow (sane_evE hc base env e') hl e1
  simp only [bind_at] at o1
  refine ⟨F1, ρ1, h1, env, R1, re.mono l1 p1, hl1, o1.bind.imp fun y h2 F2 ρ2 H2 e2 l2 p2 R2 o2 w rw' => ?_⟩
  have hl2 := grow (sane_evE hc base env o') hl1 e2
  simp only [bind_at] at o2
  refine ⟨F2, ρ2, h2, env, R2, (re.mono l1 p1).mono l2 p2, hl2, o2.bind.imp fun z h3 F3 ρ3 H3 e3 l3 p3 R3 o3 u ru => ?_⟩
  simp only [bind_at] at o3
  refine ⟨F3, ρ3, h3, y, z, x, _, R3, Rep.mono l3 p3 _ _ rw', ru, Rep.mono l3 p3 _ _ (Rep.mono l2 p2 _ _ rv), o3.bind.imp fun _ h4 F4 ρ4 H4 e4 l4 p4 R4 o4 => ?_⟩
  exact Out.here o4 R4 σ ((((re.mono l1 p1).mono l2 p2).mono l3 p3).mono l4 p4)
theorem st_if {t : Expr} {a b : List Stmt} {t' : Ex} {a' b' : List Stm} {pos : Pos} (ht : PT X t (tTst X.K base (Wk E) (eT c base t'))) (ha : PSs X a (tS X.K base E (eSs c base a'))) (hb : PSs X b (tS X.K base E (eSs c base b'))) :
    PS X (.If t a b pos) (tS X.K base E (eSt c base (.ife t' a' b'))) := by
  refine (ps_if ht ha hb).weak fun D σ H ⟨F, ρ, h, env, R, re, hl, out⟩ => ?_
  have e : eSt c base (.ife t' a' b') env h = (eT c base t' env h).bind fun r => if r then execs c base a' env else execs c base b' env := by
    simp only [eSt, exec, bind_at, eT, Res.bind_assoc]
    rfl
  rw [e] at out
  refine ⟨F, ρ, h, env, R, re, hl, out.bind.imp fun k h1 F1 ρ1 H1 e1 l1 p1 R1 o1 => ?_⟩
  have hl1 := grow (sane_bind (sane_evE hc base env t') fun x => (still_truthy x).sane) hl e1
  cases k with
  | true => exact ⟨F1, ρ1, h1, env, R1, re.mono l1 p1, hl1, o1⟩
  | false => exact ⟨F1, ρ1, h1, env, R1, re.mono l1 p1, hl1, o1⟩
omit hc in
theorem st_nil : PSs X [] (tS X.K base E (eSs c base [])) :=
  pss_nil.weak fun D σ H ⟨F, ρ, h, env, R, re, hl, out⟩ => by
    simp only [eSs, execs] at out
    exact Out.here out R σ re
theorem st_cons {s : Stmt} {ss : List Stmt} {s' : Stm} {ss' : List Stm} (h1 : PS X s (tS X.K base E (eSt c base s'))) (h2 : PSs X ss (tS X.K base E (eSs c base ss'))) : PSs X (s :: ss) (tS X.K base E (eSs c base (s' :: ss'))) := by
  refine (pss_cons h1 h2).weak fun D σ H ⟨F, ρ, h, env, R, re, hl, out⟩ => ?_
  simp only [eSs, execs, bind_at] at out
  refine ⟨F, ρ, h, env, R, re, hl, out.bind.imp fun p h1 F1 ρ1 H1 e1 l1 p1 R1 o1 => ?_⟩
  have hl1 := grow (sane_exec hc base s' env) hl e1
  obtain ⟨fl, env1⟩ := p
  cases fl with
  | next => exact fun σ1 re1 => ⟨F1, ρ1, h1, env1, R1, re1, hl1, o1⟩
  | brk => exact Out.here (E := E) o1 R1
  | cont => exact Out.here (E := E) o1 R1
  | ret d => exact Out.here (E := E) o1 R1
end
end Px

set_option autoImplicit false
set_option linter.all false
set_option maxRecDepth 100000
/-! Loops. -/
namespace Px
open PySem L2 PySem.Spec PyProof.Rows
def restF (f : D → Px.Env → M (Flow × Px.Env)) (w : Walk) (i : Nat) (env : Px.Env) : M (Flow × Px.Env) := match w with
  | .items xs => forI f (xs.drop i) env
  | .cell l n => forC l n f (n - i) env
  | .keys _ => fail
/-- after a turn -/
def nextF (k : Px.Env → M (Flow × Px.Env)) (p : Flow × Px.Env) : M (Flow × Px.Env) := match p.1 with
  | .next | .cont => k p.2
  | .brk => ret (.next, p.2)
  | .ret d => ret (.ret d, p.2)
theorem restF_step (f : D → Px.Env → M (Flow × Px.Env)) (w : Walk) {i : Nat} (hi : i < w.len) (env : Px.Env) (h : Hh) : restF f w i env h = .stuck ∨ ∃ x, ItemAt w h i x ∧ restF f w i env h = (f x env h).bind (nextF (restF f w (i + 1))) := by
  cases w with
  | items xs =>
    have hi : i < xs.length := hi
    refine .inr ⟨xs[i], by simp [ItemAt, hi], ?_⟩
    show forI f (xs.drop i) env h = _
    rw [List.drop_eq_getElem_cons hi]
    rfl
  | cell l n =>
    have hi : i < n := hi
    show forC l n f (n - i) env h = .stuck ∨ _
    have e : n - i = (n - (i + 1)) + 1 := by omega
    have e2 : n - (n - (i + 1) + 1) = i := by omega
    cases q : h[l]? with
    | none =>
      refine .inl ?_
      rw [e]
      simp only [forC, bind_at, cellAt_none q, bind_stuck]
    | some ce =>
      cases ce with
      | l xs =>
        cases q2 : xs[i]? with
        | none =>
          refine .inl ?_
          rw [e]
          simp only [forC, bind_at, cellAt_some q, bind_ok, e2, q2, fail_at]
        | some x =>
          refine .inr ⟨x, ⟨xs, q, q2⟩, ?_⟩
          show forC l n f (n - i) env h = _
          rw [e]
          simp only [forC, bind_at, cellAt_some q, bind_ok, e2, q2]
          rfl
      | _ =>
        refine .inl ?_
        rw [e]
        simp only [forC, bind_at, cellAt_some q, bind_ok, fail_at]
  | keys l => cases hi
theorem restF_end (f : D → Px.Env → M (Flow × Px.Env)) (w : Walk) (env : Px.Env) (h : Hh) : restF f w w.len env h = .stuck ∨ (EndsAt w h w.len ∧ restF f w w.len env h = .ok (.next, env) h) := by
  cases w with
  | items xs =>
    refine .inr ⟨Nat.le_refl _, ?_⟩
    show forI f (xs.drop xs.length) env h = _
    rw [List.drop_length]
    rfl
  | cell l n =>
    show forC l n f (n - n) env h = .stuck ∨ (_ ∧ forC l n f (n - n) env h = _)
    rw [Nat.sub_self]
    cases q : h[l]? with
    | none => exact .inl (by simp only [forC, bind_at, cellAt_none q, bind_stuck])
    | some ce =>
      cases ce with
      | l xs =>
        by_cases hx : xs.length ≤ n
        · exact .inr ⟨⟨xs, q, hx⟩, by simp only [forC, bind_at, cellAt_some q, bind_ok, if_pos hx, ret_at]⟩
        · exact .inl (by simp only [forC, bind_at, cellAt_some q, bind_ok, if_neg hx, fail_at])
      | _ => exact .inl (by simp only [forC, bind_at, cellAt_some q, bind_ok, fail_at])
  | keys l => exact .inl rfl
theorem for_rest (f : D → Px.Env → M (Flow × Px.Env)) {w : Walk} (hw : ∀ l, w ≠ .keys l) : forW f w = restF f w 0 := by
  cases w with
  | items xs => rfl
  | cell l n => rfl
  | keys l => exact absurd rfl (hw l)
section
variable {X : Cx} {E : XK} {base : Nat} {c : Cxt} (hc : ∀ f base args, Sane base (c.call f base args))
abbrev bodyF (c : Cxt) (base : Nat) (tg : Tg) (body : List Stm) : D → Px.Env → M (Flow × Px.Env) := fun x env => bind (bindTg tg x env) fun env' => execs c base body env'
theorem st_forI {tg iter : Expr} {body : List Stmt} {tg' : Tg} {it' : It} {body' : List Stm} {S : List Nat} {pos : Pos} (hp : PassesOwn (model X.prog X.w) X.A X.env X.xe) (hcalm : X.calm = true) (hi : PI X tg iter (tIt X.K base (Wk E) (eW c base it'))) (hg : PG X tg (gT X.K S (bindTg tg')))
    (hb : PSs X body (tS X.K base E (eSs c base body'))) (hs : ∀ x, foldedSetIterable iter X.env x = pure x) (hc : ∀ f base args, Sane base (c.call f base args)) : PS X (.For tg iter body [] pos) (tS X.K base E (eSt c base (.forr tg' it' body'))) := by
  refine (ps_for hp hcalm hi hg hb hs).weak fun Dn σ H ⟨F, ρ, h, env, R, re, hl, out⟩ => ?_
  simp only [eSt, exec, bind_at] at out
  refine ⟨F, ρ, h, env, R, re, hl, out.bind.imp fun w h1 F1 ρ1 H1 e1 l1 p1 R1 o1 => ?_⟩
  have hw : ∀ l, w ≠ .keys l := fun l z => by
    subst z
    exact o1.elim
  refine ⟨hw, fun J ok => ?_⟩
  have hl1 := grow (sane_evIt hc base env it') hl e1
  have o2 : Out X.K F1 ρ1 (restF (bodyF c base tg' body') w 0 env h1) (Fin Dn) E := by rw [← for_rest _ hw]; exact o1
  refine ⟨fun i m σ' H' => m = w.len - i ∧ i ≤ w.len ∧ ∃ F' ρ' h' env', Le F1 F' ∧ Pre ρ1 ρ' ∧ Rel X.K F' ρ' H' h' ∧ RepE F' ρ' env' σ' ∧ base ≤ h'.length ∧ Out X.K F' ρ' (restF (bodyF c base tg' body') w i env' h') (Fin Dn) E,
    ⟨w.len, by simp, Nat.zero_le _, F1, ρ1, h1, env, Le.refl _, Pre.refl _, R1, re.mono l1 p1, hl1, o2⟩, ?_⟩
  rintro i m σ' H' ⟨rfl, hi, F', ρ', h', env', lf, lp, R', re', hl', out'⟩
  have lg : Lg F1 F' := ⟨lf.l, fun a o q => by rw [lf.g]; exact q⟩
  by_cases hlt : i < w.len
  · refine .inr ?_
    rcases restF_step (bodyF c base tg' body') w hlt env' h' with st | ⟨x, hx, st⟩
    · rw [st] at out'; exact out'.elim
    rw [st] at out'
    obtain ⟨go, yl⟩ := ok.go i x F' ρ' H' h' lg lp R' hx
    refine ⟨go, fun σ2 H2 => ∃ F' ρ' h' env', Le F1 F' ∧ Pre ρ1 ρ' ∧ Rel X.K F' ρ' H2 h' ∧ RepE F' ρ' env' σ2 ∧ base ≤ h'.length ∧ Out X.K F' ρ' (restF (bodyF c base tg' body') w (i + 1) env' h') (Fin Dn) E,
      fun σ2 H2 q => ⟨w.len - (i + 1), by omega, rfl, hlt, q⟩, fun v H2 y => ?_⟩
    obtain ⟨F2, l2, R2, rx⟩ := yl v H2 y
    have out2 := out'.ext (F' := F2) (ρ' := ρ') l2 (Pre.refl _)
    rw [show bodyF c base tg' body' x env' h' = (bindTg tg' x env' h').bind fun env' => execs c base body' env' from rfl, Res.bind_assoc] at out2
    refine ⟨F2, ρ', h', env', x, _, R2, rx, re'.mono l2 (Pre.refl _), out2.bind.imp fun env3 h3 F3 ρ3 H3 e3 l3 p3 R3 o3 σ3 re3 ag => ?_⟩
    have hl3 : base ≤ h3.length := grow (still_bindTg tg' x env').sane hl' e3
    refine ⟨F3, ρ3, h3, env3, R3, re3, hl3, o3.bind.imp fun p h4 F4 ρ4 H4 e4 l4 p4 R4 o4 => ?_⟩
    have hl4 : base ≤ h4.length := grow (sane_execs hc base body' env3) hl3 e4
    have lf4 : Le F1 F4 := ((lf.trans l2).trans l3).trans l4
    have lp4 : Pre ρ1 ρ4 := (lp.trans p3).trans p4
    obtain ⟨fl, env4⟩ := p
    cases fl with
    | next => exact fun σ4 re4 => ⟨F4, ρ4, h4, env4, lf4, lp4, R4, re4, hl4, o4⟩
    | cont => exact fun σ4 re4 => ⟨F4, ρ4, h4, env4, lf4, lp4, R4, re4, hl4, o4⟩
    | brk => exact Out.here (E := E) o4 R4
    | ret d => exact Out.here (E := E) o4 R4
  · have e1 : i = w.len := by omega
    subst e1
    rcases restF_end (bodyF c base tg' body') w env' h' with st | ⟨en, st⟩
    · rw [st] at out'; exact out'.elim
    rw [st] at out'
    exact .inl ⟨ok.stop _ F' _ _ _ lg lp R' en rfl, Out.here out' R' σ' re'⟩
theorem st_while {t : Expr} {body : List Stmt} {t' : Ex} {body' : List Stm} {pos : Pos} (hc : ∀ f base args, Sane base (c.call f base args)) (hp : PassesOwn (model X.prog X.w) X.A X.env X.xe) (ht : PT X t (tTst X.K base (Wk E) (eT c base t'))) (hb : PSs X body (tS X.K base E (eSs c base body'))) :
    PS X (.While t body [] pos) (tS X.K base E (eSt c base (.whil t' body'))) := by
  refine (ps_while hp ht hb).weak fun Dn σ H ⟨F, ρ, h, env, R, re, hl, out⟩ => ?_
  simp only [eSt, exec] at out
  refine ⟨fun m σ' H' => ∃ F' ρ' h' env', Rel X.K F' ρ' H' h' ∧ RepE F' ρ' env' σ' ∧ base ≤ h'.length ∧ Out X.K F' ρ' (whileF (eT c base t') (eSs c base body') m env' h') (Fin Dn) E, ⟨fuel, F, ρ, h, env, R, re, hl, out⟩, ?_⟩
  rintro m σ' H' ⟨F', ρ', h', env', R', re', hl', out'⟩
  cases m with
  | zero => exact out'.elim
  | succ m =>
    rw [whileF] at out'
    refine ⟨F', ρ', h', env', R', re', hl', out'.bind.imp fun k h1 F1 ρ1 H1 e1 l1 p1 R1 o1 => ?_⟩
    have hl1 := grow (sane_bind (sane_evE hc base env' t') fun x => (still_truthy x).sane) hl' e1
    cases k with
    | false =>
      simp only [Bool.false_eq_true, if_false] at o1 ⊢
      exact Out.here o1 R1 σ' (re'.mono l1 p1)
    | true =>
      simp only [if_true, bind_at] at o1 ⊢
      refine ⟨fun σ2 H2 => ∃ F' ρ' h' env', Rel X.K F' ρ' H2 h' ∧ RepE F' ρ' env' σ2 ∧ base ≤ h'.length ∧ Out X.K F' ρ' (whileF (eT c base t') (eSs c base body') m env' h') (Fin Dn) E, fun σ2 H2 q => ⟨m, Nat.lt_succ_self m, q⟩, ?_⟩
      refine ⟨F1, ρ1, h1, env', R1, re'.mono l1 p1, hl1, o1.bind.imp fun p h4 F4 ρ4 H4 e4 l4 p4 R4 o4 => ?_⟩
      have hl4 : base ≤ h4.length := grow (sane_execs hc base body' env') hl1 e4
      obtain ⟨fl, env4⟩ := p
      cases fl with
      | next => exact fun σ4 re4 => ⟨F4, ρ4, h4, env4, R4, re4, hl4, o4⟩
      | cont => exact fun σ4 re4 => ⟨F4, ρ4, h4, env4, R4, re4, hl4, o4⟩
      | brk => exact Out.here (E := E) o4 R4
      | ret d => exact Out.here (E := E) o4 R4
end
end Px

set_option autoImplicit false
set_option linter.all false
set_option maxRecDepth 100000
/-! a, b = x, y. -/
namespace Px
open PySem L2 PySem.Spec PyProof.Rows
theorem swapped_of {env : PySem.Env} {ts vs : List Expr} {k k2 : Nat} {pos pos2 : Pos} {b : Bool} (hk : env.scope.kind = .function) (h : swC env.scope ts vs = some b) :
    swappedStores [.Tuple ts k pos] (.Tuple vs k2 pos2) env = pure (if b then some (swNames env.scope ts) else none) := by
  have hb : (env.blockKind != .function) = false := by unfold Env.blockKind; rw [hk]; rfl
  unfold swappedStores
  simp only [hb, Bool.or_false]
  change (if _ = true then pure none else if (vs.any isStar) = true then pure none else if ((swNames env.scope ts).length != ts.length || (swNames env.scope ts).eraseDups.length != (swNames env.scope ts).length) = true then pure none
    else if vs.all (foldedForSure 8) = true then pure none else if vs.all (constantsAlone 8) = true then (do let _ : Unit ← unsupported "assign.tuple-of-constant-expressions:order-of-the-stores"; pure (some (swNames env.scope ts))) else pure (some (swNames env.scope ts))) = _
  unfold swC at h
  split at h
  · rename_i h1
    cases h
    rw [if_pos h1] <;> rfl
  rename_i h1
  rw [if_neg h1]
  split at h
  · rename_i h2
    cases h
    rw [if_pos h2] <;> rfl
  rename_i h2
  rw [if_neg h2]
  split at h
  · rename_i h3
    cases h
    rw [if_pos h3] <;> rfl
  rename_i h3
  rw [if_neg h3]
  split at h
  · rename_i h4
    cases h
    rw [if_pos h4] <;> rfl
  rename_i h4
  rw [if_neg h4]
  split at h
  · cases h
  rename_i h5
  cases h
  rw [if_neg h5] <;> rfl
section
variable {X : Cx} {E : XK} {base : Nat} {c : Cxt}
/-- two names -/
theorem st_par2 {i j : Nat} {x y : Str} {a b : Expr} {es' : List Ex} {px py pt pos : Pos} {kt k2 pt2} (hcalm : X.calm = true) (hN : X.N.Nodup) (hi : X.N[i]? = some x) (hj : X.N[j]? = some y) (hij : i ≠ j)
    (hx : X.env.scope.names.lookup x = some .local) (hy : X.env.scope.names.lookup y = some .local) (ha : PA X [a, b] (tAs X.K base (Wk E) (eXs c base es')))
    (hw : swappedStores [.Tuple [.Name x px, .Name y py] kt pt] (.Tuple [a, b] k2 pt2) X.env = pure (some [x, y])) :
    PS X (.Assign [.Tuple [.Name x px, .Name y py] kt pt] (.Tuple [a, b] k2 pt2) pos) (tS X.K base E (eSt c base (.par [i, j] es'))) := by
  refine (ps_par hcalm hN hi hj hij hx hy ha hw).weak fun Dn σ H ⟨F, ρ, h, env, R, re, hl, out⟩ => ?_
  simp only [eSt, exec, bind_at] at out
  refine ⟨F, ρ, h, env, R, re, hl, out.bind.imp fun xs h1 F1 ρ1 H1 e1 l1 p1 R1 o1 vs rvs => ?_⟩
  cases xs with
  | nil => exact o1.elim
  | cons u xs =>
    cases xs with
    | nil => exact o1.elim
    | cons v xs =>
      cases xs with
      | cons _ _ => exact o1.elim
      | nil =>
        obtain ⟨w1, ws, rfl, r1, w2, ws2, rfl, r2, rn⟩ := rvs
        cases rn
        exact ⟨w1, w2, rfl, Out.here (E := E) o1 R1 _ (((re.mono l1 p1).set i r1).set j r2)⟩
/-- three names -/
theorem st_par3 {i j l : Nat} {x y z : Str} {a b d : Expr} {es' : List Ex} {px py pz pt pos : Pos} {kt k2 pt2} (hcalm : X.calm = true) (hN : X.N.Nodup) (hi : X.N[i]? = some x) (hj : X.N[j]? = some y) (hl : X.N[l]? = some z) (hij : i ≠ j) (hil : i ≠ l) (hjl : j ≠ l)
    (hx : X.env.scope.names.lookup x = some .local) (hy : X.env.scope.names.lookup y = some .local) (hz : X.env.scope.names.lookup z = some .local) (ha : PA X [a, b, d] (tAs X.K base (Wk E) (eXs c base es')))
    (hw : swappedStores [.Tuple [.Name x px, .Name y py, .Name z pz] kt pt] (.Tuple [a, b, d] k2 pt2) X.env = pure (some [x, y, z])) :
    PS X (.Assign [.Tuple [.Name x px, .Name y py, .Name z pz] kt pt] (.Tuple [a, b, d] k2 pt2) pos) (tS X.K base E (eSt c base (.par [i, j, l] es'))) := by
  refine (ps_par3 hcalm hN hi hj hl hij hil hjl hx hy hz ha hw).weak fun Dn σ H ⟨F, ρ, h, env, R, re, hl, out⟩ => ?_
  simp only [eSt, exec, bind_at] at out
  refine ⟨F, ρ, h, env, R, re, hl, out.bind.imp fun xs h1 F1 ρ1 H1 e1 l1 p1 R1 o1 vs rvs => ?_⟩
  cases xs with
  | nil => exact o1.elim
  | cons u xs =>
    cases xs with
    | nil => exact o1.elim
    | cons v xs =>
      cases xs with
      | nil => exact o1.elim
      | cons t xs =>
        cases xs with
        | cons _ _ => exact o1.elim
        | nil =>
          obtain ⟨w1, ws, rfl, r1, w2, ws2, rfl, r2, w3, ws3, rfl, r3, rn⟩ := rvs
          cases rn
          exact ⟨w1, w2, w3, rfl, Out.here (E := E) o1 R1 _ ((((re.mono l1 p1).set i r1).set j r2).set l r3)⟩
end
end Px

set_option autoImplicit false
set_option linter.all false
set_option maxRecDepth 100000
set_option maxHeartbeats 4000000
/-! enumerate and zip over lists and tuples. -/
namespace PySem
namespace PxI
/-- a list (k = false), a tuple (k = true) with its items -/
def SeqP (k : Bool) (h : Heap) (a : Addr) (items : Array Value) : Prop := match k with
  | false => h.IsList a items
  | true => h.IsTuple a items
def ItP (k : Bool) (h : Heap) (it a : Addr) (i : Nat) : Prop := match k with
  | false => h.IsListIter it a i
  | true => h.IsTupleIter it a i
def itCls (k : Bool) : String := match k with
  | false => "list_iterator"
  | true => "tuple_iterator"
abbrev itObj (k : Bool) (a : Addr) : Obj := { cls := .type (itCls k), data := .fields #[.ref a, .int 0 0] }
theorem SeqP.push {k : Bool} {h : Heap} {a : Addr} {items : Array Value} (x : SeqP k h a items) (o : Obj) : SeqP k (h.push o) a items := by
  cases k with
  | false => exact Heap.IsList.push x o
  | true => exact Heap.IsTuple.push x o
theorem SeqP.lt {k : Bool} {h : Heap} {a : Addr} {items : Array Value} (x : SeqP k h a items) : a < h.objs.size := by
  cases k with
  | false => obtain ⟨o, e, _⟩ := (show h.IsList a items from x); exact Heap.lt_size e
  | true => obtain ⟨o, e, _⟩ := (show h.IsTuple a items from x); exact Heap.lt_size e
theorem ItP.at {k : Bool} {h h' : Heap} {it a : Addr} {i : Nat} (x : ItP k h it a i) (e : ∀ o, h.get? it = some o → h'.get? it = some o) : ItP k h' it a i := by
  cases k with
  | false => exact Heap.IsListIter.at x e
  | true => exact Heap.IsTupleIter.at x e
theorem ItP.obj {k : Bool} {h : Heap} {it a : Addr} {i : Nat} (x : ItP k h it a i) : ∃ o, h.get? it = some o ∧ ∀ v, o.data ≠ .cell v := by
  cases k with
  | false => obtain ⟨o, e, c, d⟩ := (show h.IsListIter it a i from x); exact ⟨o, e, fun v z => by rw [d] at z; cases z⟩
  | true => obtain ⟨o, e, c, d⟩ := (show h.IsTupleIter it a i from x); exact ⟨o, e, fun v z => by rw [d] at z; cases z⟩
theorem ItP.new {k : Bool} {h : Heap} {a : Addr} : ItP k (h.push (itObj k a)) h.objs.size a 0 := by
  cases k with
  | false => exact ⟨_, Heap.get?_push_size _ rfl, rfl, rfl⟩
  | true => exact ⟨_, Heap.get?_push_size _ rfl, rfl, rfl⟩
section
variable {prog : Program} {w : World} {A : Around} {E : Value → Shared → Prop} {s : Shared}
theorem iter_seq {k : Bool} {a : Addr} {items : Array Value} {Q : Value → Shared → Prop} (h : SeqP k s.heap a items) (hQ : Q (.ref s.heap.objs.size) { s with heap := s.heap.push (itObj k a) }) : wpAny (model prog w) A (pyIter (.ref a)) Q E s := by
  cases k with
  | false => exact wpAny_pyIter_list h hQ
  | true => exact wpAny_pyIter_tuple h hQ
end
theorem draws_seq {prog : Program} {w : World} {A : Around} (k : Bool) (hh : A.handled = none) (it a : Addr) (hne : a ≠ it) (items : Array Value) :
    Draws prog w A it [it, a] items.size (fun i v => items[i]? = some v) (fun i h => ItP k h it a i ∧ SeqP k h a items) := by
  cases k with
  | false => exact Draws.list hh it a hne items
  | true => exact Draws.tuple hh it a hne items
abbrev zh1 (k1 : Bool) (h : Heap) (a : Addr) : Heap := h.push (itObj k1 a)
abbrev zh2 (k1 k2 : Bool) (h : Heap) (a b : Addr) : Heap := (zh1 k1 h a).push (itObj k2 b)
abbrev zh3 (k1 k2 : Bool) (h : Heap) (a b : Addr) : Heap := (zh2 k1 k2 h a b).push { cls := .type "tuple", data := .seq #[.ref h.objs.size, .ref (zh1 k1 h a).objs.size] }
abbrev zh4 (k1 k2 : Bool) (h : Heap) (a b : Addr) : Heap := (zh3 k1 k2 h a b).push { cls := .type "tuple", data := .seq #[.none, .none] }
abbrev zh5 (k1 k2 : Bool) (h : Heap) (a b : Addr) : Heap := (zh4 k1 k2 h a b).push { cls := .type "zip", data := .fields #[.none, .bool false, .bool false, .ref (zh2 k1 k2 h a b).objs.size, .ref (zh3 k1 k2 h a b).objs.size] }
theorem meets_zipK (k1 k2 : Bool) (a b : Addr) (xs ys : Array Value) : Meets (Builtin.«zip.__new__» ⟨[.type "zip", .ref a, .ref b], []⟩) (fun _ R s => SeqP k1 s.heap a xs ∧ SeqP k2 s.heap b ys ∧ R (.ok (.ret (.ref (zh4 k1 k2 s.heap a b).objs.size))) { s with heap := zh5 k1 k2 s.heap a b }) :=
  .of_wp fun prog w A R s hyp => by
    obtain ⟨hp, gn, dr, tk, os⟩ := s
    obtain ⟨ha, hb, hr⟩ := hyp
    have hsub := sub_zip
    have sa : SeqP k1 (Shared.heap ⟨hp, gn, dr, tk, os⟩) a xs := ha
    have sb : SeqP k2 (Shared.heap ⟨hp.push (itObj k1 a), gn, dr, tk, os⟩) b ys := SeqP.push hb _
    wp_walk using iter_seq sa, iter_seq sb
    exact ⟨_, rfl, hr⟩
theorem meets_enumK (k : Bool) (a : Addr) (items : Array Value) : Meets (Builtin.«enumerate.__new__» ⟨[.type "enumerate", .ref a], []⟩) (fun _ R s => SeqP k s.heap a items ∧
    R (.ok (.ret (.ref (s.heap.push (itObj k a)).objs.size))) { s with heap := (s.heap.push (itObj k a)).push { cls := .type "enumerate", data := .fields #[.none, .bool false, .ref s.heap.objs.size, rawInt 0, .none, .none] } }) :=
  .of_wp fun prog w A R s hyp => by
    obtain ⟨hp, gn, dr, tk, os⟩ := s
    obtain ⟨hl, hr⟩ := hyp
    have hsub := sub_enumerate
    have sl : SeqP k (Shared.heap ⟨hp, gn, dr, tk, os⟩) a items := hl
    have hlo : ∃ o, (Shared.heap ⟨hp, gn, dr, tk, os⟩).get? a = some o := by
      cases k with
      | false => obtain ⟨o, e, _⟩ := (show Heap.IsList _ a items from sl); exact ⟨o, e⟩
      | true => obtain ⟨o, e, _⟩ := (show Heap.IsTuple _ a items from sl); exact ⟨o, e⟩
    obtain ⟨o, ho⟩ := hlo
    wp_walk using AutoSeq1.wpAny_loadPart' ho
    refine wpAny_stack_any fun st => wpAny_pure ?_
    split
    · rename_i c _ _ _ _ _
      cases (c == Value.type "enumerate")
      · wp_walk using AutoSeq1.wpAny_loadPart' ho, iter_seq sl
        exact ⟨_, rfl, hr⟩
      · wp_walk using AutoSeq1.wpAny_loadPart' ho, iter_seq sl
        exact ⟨_, rfl, hr⟩
    · wp_walk using AutoSeq1.wpAny_loadPart' ho, iter_seq sl
      exact ⟨_, rfl, hr⟩
end PxI
end PySem

set_option autoImplicit false
set_option linter.all false
set_option maxRecDepth 100000
set_option maxHeartbeats 4000000
/-! enumerate and zip over lists and tuples: their turns. -/
namespace PxI
end PxI
namespace PySem
namespace PxI
section
variable {prog : Program} {w : World} {A : Around} {E : Value → Shared → Prop} {s : Shared}
theorem call_zipK {k1 k2 : Bool} {a b : Addr} {xs ys : Array Value} {Q : Value → Shared → Prop} (ha : SeqP k1 s.heap a xs) (hb : SeqP k2 s.heap b ys)
    (h : ∀ h', IsZip h' (s.heap.objs.size + 4) (s.heap.objs.size + 2) (s.heap.objs.size + 3) .none → IsTupOf2 h' (s.heap.objs.size + 2) (.ref s.heap.objs.size) (.ref (s.heap.objs.size + 1)) → IsTupOf2 h' (s.heap.objs.size + 3) .none .none →
      ItP k1 h' s.heap.objs.size a 0 → ItP k2 h' (s.heap.objs.size + 1) b 0 → (∀ c o, s.heap.get? c = some o → h'.get? c = some o) → Q (.ref (s.heap.objs.size + 4)) { s with heap := h' }) :
    wpAny (model prog w) A (call (.type "zip") [.ref a, .ref b]) Q E s := by
  refine callType_new F.called_zip (by decide) (F.typeCall_zip_2 _ _) (F.newCall_zip_2 _ _) (fun obj => F.args_object_init_3 obj _ _) F.entry_zip_new (meets_zipK k1 k2 a b xs ys) ⟨ha, hb, ?_⟩
  have z1 : (zh1 k1 s.heap a).objs.size = s.heap.objs.size + 1 := Heap.size_push ..
  have z2 : (zh2 k1 k2 s.heap a b).objs.size = s.heap.objs.size + 2 := by rw [Heap.size_push, z1]
  have z3 : (zh3 k1 k2 s.heap a b).objs.size = s.heap.objs.size + 3 := by rw [Heap.size_push, z2]
  have z4 : (zh4 k1 k2 s.heap a b).objs.size = s.heap.objs.size + 4 := by rw [Heap.size_push, z3]
  have up : ∀ {h : Heap} (o : Obj) {c : Addr} {u : Obj}, h.get? c = some u → (h.push o).get? c = some u := fun {_} _ {_} {_} e => Heap.get?_push_of_some _ e
  have g5 : (zh5 k1 k2 s.heap a b).get? (zh4 k1 k2 s.heap a b).objs.size = some _ := Heap.get?_push_size _ rfl
  have g4 : (zh5 k1 k2 s.heap a b).get? (zh3 k1 k2 s.heap a b).objs.size = some _ := up _ (Heap.get?_push_size _ rfl)
  have g3 : (zh5 k1 k2 s.heap a b).get? (zh2 k1 k2 s.heap a b).objs.size = some _ := up _ (up _ (Heap.get?_push_size _ rfl))
  have i2 : ItP k2 (zh2 k1 k2 s.heap a b) (zh1 k1 s.heap a).objs.size b 0 := ItP.new
  have i1 : ItP k1 (zh1 k1 s.heap a) s.heap.objs.size a 0 := ItP.new
  have j2 : ItP k2 (zh5 k1 k2 s.heap a b) (zh1 k1 s.heap a).objs.size b 0 := i2.at fun o e => up _ (up _ (up _ e))
  have j1 : ItP k1 (zh5 k1 k2 s.heap a b) s.heap.objs.size a 0 := i1.at fun o e => up _ (up _ (up _ (up _ e)))
  show _ ∧ _
  rw [z2, z3, z4] at g5
  rw [z1, z2] at g3
  rw [z3] at g4
  rw [z1] at j2
  rw [z4]
  exact ⟨⟨_, g5, rfl⟩, h _ g5 g3 g4 j1 j2 fun c o e => up _ (up _ (up _ (up _ (up _ e))))⟩
theorem call_enumK {k : Bool} {a : Addr} {items : Array Value} {Q : Value → Shared → Prop} (ha : SeqP k s.heap a items)
    (h : ∀ h', IsEnum h' (s.heap.objs.size + 1) s.heap.objs.size 0 .none → ItP k h' s.heap.objs.size a 0 → (∀ b o, s.heap.get? b = some o → h'.get? b = some o) → Q (.ref (s.heap.objs.size + 1)) { s with heap := h' }) :
    wpAny (model prog w) A (call (.type "enumerate") [.ref a]) Q E s := by
  refine callType_new F.called_enumerate (by decide) (F.typeCall_enumerate_1 _) (F.newCall_enumerate_1 _) (fun obj => F.args_object_init_2 obj _) F.entry_enumerate_new (meets_enumK k a items) ⟨ha, ?_⟩
  have z1 : (s.heap.push (itObj k a)).objs.size = s.heap.objs.size + 1 := Heap.size_push ..
  have ge : ((s.heap.push (itObj k a)).push { cls := .type "enumerate", data := .fields #[.none, .bool false, .ref s.heap.objs.size, rawInt 0, .none, .none] }).get? (s.heap.push (itObj k a)).objs.size = some _ := Heap.get?_push_size _ rfl
  have i1 : ItP k (s.heap.push (itObj k a)) s.heap.objs.size a 0 := ItP.new
  show _ ∧ _
  rw [z1] at ge ⊢
  exact ⟨⟨_, ge, rfl⟩, h _ ge (i1.at fun o e => Heap.get?_push_of_some _ e) fun b o x => Heap.get?_push_of_some _ (Heap.get?_push_of_some _ x)⟩
end
end PxI
end PySem
namespace Px
open PySem L2 PySem.Spec PyProof.Rows PySem.PxI
def SqK (K : PySem.W.Frag) : Bool → Hp → Addr → List V → Prop
  | false => SqL K
  | true => SqT K
section
variable {X : Cx} {pins : List (Addr × Obj)} {σ : L2.St} {H : Hp} {s : Shared} {a : Addr} {xs ys : List V}
theorem seqK {k : Bool} (I : Inv X pins σ H s) (h : SqK X.K k H a xs) : ∃ its : List Value, Vals xs its ∧ SeqP k s.heap a its.toArray := by
  cases k with
  | false => obtain ⟨its, rv, p, _⟩ := I.list h; exact ⟨its, rv, p.isList⟩
  | true => obtain ⟨its, rv, p, _⟩ := I.tuple h; exact ⟨its, rv, p⟩
theorem seqK_inj {k : Bool} (I : Inv X pins σ H s) (h : SqK X.K k H a xs) (h' : SqK X.K k H a ys) : xs = ys := by
  cases k with
  | false => exact I.list_inj h h'
  | true => exact I.tuple_inj h h'
end
/-- the items of the list or tuple at a, each with its number in a new pair -/
def ItEK (K : PySem.W.Frag) (k : Bool) (a : Addr) : L2.It :=
  ⟨fun i H => ∃ (xs : List V) (x : V), SqK K k H a xs ∧ xs[i]? = some x, fun i H v H' => ∃ T x, v = .ref T ∧ H T = none ∧ H' = upd H T (.tup [.int (i : Nat), x]) ∧ ∀ xs, SqK K k H a xs → xs[i]? = some x, fun i H => ∃ xs : List V, SqK K k H a xs ∧ xs.length = i⟩
theorem turn_enumK {P : Program} {w : World} {K : PySem.W.Frag} {elts : List Expr} {kk : Nat} {tpos : Pos} (k : Bool) (a e it : Addr) (ae : a ≠ e) (ai : a ≠ it) :
    Turn P w K (.Tuple elts kk tpos) (ItEK K k a) [e, it] e (fun i h => (∃ old, IsEnum h e it ((i : Nat) : Int) old) ∧ ItP k h it a i ∧ e ≠ it) where
  mem := by simp
  obj := fun i h st b hb => by
    obtain ⟨⟨old, he⟩, hi, _⟩ := st
    rcases (show b = e ∨ b = it by simpa using hb) with z | z
    · subst z; exact ⟨_, he, fun v q => nomatch q⟩
    · subst z; exact hi.obj
  keep := fun i h h' st kp => ⟨⟨st.1.choose, kp e (by simp) _ st.1.choose_spec⟩, st.2.1.at fun o q => kp it (by simp) o q, st.2.2⟩
  item := by
    intro X hP hw hK hc i pins s σ H E I hf st hg
    subst hP hw hK
    obtain ⟨⟨old, he⟩, hit, hne⟩ := st
    obtain ⟨xs, x, hq, hx⟩ := hg
    obtain ⟨its, rv, sp⟩ := seqK I hq
    have hlen : i < its.toArray.size := by rw [List.size_toArray, ← rv.length]; exact (List.getElem?_eq_some_iff.mp hx).1
    have hel := Heap.lt_size he
    have hil : it < s.heap.objs.size := by obtain ⟨o, q, _⟩ := hit.obj; exact Heap.lt_size q
    refine wpAny_pyNext_enum_itemD (draws_seq (A := X.A.in1) k (show X.A.in1.handled = none from I.ok.hd hc) it a ai its.toArray) he ⟨hit, sp⟩ hlen hne (by simp [hne, Ne.symm ae]) fun u h' tk hu ho st' hT hsz hk => ?_
    refine ⟨_, rfl, wpAny_letOwnedTupleGo_enum (s := { s with heap := h', toks := tk + 1 }) ho fun h'' he' sb => ?_⟩
    obtain ⟨u', hu', ru⟩ := rv.get hx
    have eu : u' = u := by
      have hu : its.toArray[i]? = some u := hu
      rw [List.getElem?_toArray, hu'] at hu
      exact Option.some.inj hu
    subst eu
    have hT2 : h''.get? s.heap.objs.size = some { cls := .type "tuple", data := .seq #[.int i tk, u'] } := (sb.2 _ (Nat.ne_of_gt hel)).trans hT
    have new : ObjOk X.prog X.w (upd H s.heap.objs.size (.tup [.int (i : Nat), x])) h'' s.heap.objs.size (.tup [.int (i : Nat), x]) := ⟨by show 2 ≤ sizeLine; decide, [.int i tk, u'], .cons ⟨_, rfl⟩ (.cons ru .nil), ⟨_, hT2, rfl, _, rfl⟩⟩
    have I1 : Inv X pins σ (upd H s.heap.objs.size (.tup [.int (i : Nat), x])) { s with heap := h'', toks := tk + 1 } :=
      I.turnedNew (t' := tk + 1) (ch := [e, it]) (fun b ob hb q => (sb.2 b (fun z => hb (by simp [z]))).trans (hk b ob (fun z => hb (by simp [z])) (fun z => hb (by simp [z])) q)) hf (Nat.le_refl _) new
    refine ⟨.ref s.heap.objs.size, _, I1, rfl, ⟨_, x, rfl, I.hok.fresh (Nat.le_refl _), rfl, fun ys hy => by rw [seqK_inj I hy hq]; exact hx⟩, ⟨⟨u', ?_⟩, st'.1.at fun o q => (sb.2 it (Ne.symm hne)).trans q, hne⟩, fun b hb => ?_⟩
    · rw [show ((i + 1 : Nat) : Int) = (i : Int) + 1 by omega]; exact he'
    · have hb' : b < s.heap.objs.size := by
        rcases (show b = e ∨ b = it by simpa using hb) with z | z
        · rw [z]; exact hel
        · rw [z]; exact hil
      rw [upd_ne (Nat.ne_of_lt hb')]
      exact (hf b hb).1
  done := by
    intro X hP hw hK hc i pins s σ H E I hf st hg
    subst hP hw hK
    obtain ⟨⟨old, he⟩, hit, hne⟩ := st
    obtain ⟨xs, hq, hx⟩ := hg
    obtain ⟨its, rv, sp⟩ := seqK I hq
    obtain ⟨f0, f1, f2, f3, f4, f5⟩ := hf it (by simp)
    have en : its.toArray.size = i := by rw [List.size_toArray, ← rv.length]; exact hx
    refine wpAny_pyNext_enum_endD (draws_seq (A := X.A.in1) k (show X.A.in1.handled = none from I.ok.hd hc) it a ai its.toArray) he (by rw [en]; exact ⟨hit, sp⟩) fun h' eb => ⟨rfl, I.turned (t' := s.toks) (fun b o hb q => eb b o hb q) f0 f1 f3 f4 f5⟩
  self := fun A i s Q E st h => wpAny_pyIter_enum st.1.choose_spec h
end Px
namespace Px
open PySem L2 PySem.Spec PyProof.Rows PySem.PxI
def iEnumK (K : PySem.W.Frag) (ta : TA) : TI := fun σ H R => ta σ H fun vs H1 => ∃ k a xs, vs = [.ref a] ∧ SqK K k H1 a xs ∧ R (ItEK K k a) H1
theorem pi_enumK {X : Cx} {e : Expr} {ta : TA} {p pos tpos : Pos} {elts : List Expr} {kk : Nat} (hg : Gl X "enumerate") (hm : X.mg "enumerate" = none) (hn : ns e = true) (ha : PA X [e] ta) : PI X (.Tuple elts kk tpos) (.Call (.Name "enumerate" p) [e] [] pos) (iEnumK X.K ta) := by
  constructor
  intro pins s σ H R I h
  refine Call_ (ld_blt I hg hm boot_enumerate (PyProof.Rows.callWith_type1 (thn (ha.run pos pins s σ H _ I h) fun us s1 ⟨vs, H1, I1, r1, k, a, xs, ex, hq, q⟩ => ?_) (star_cons hn) rfl))
  subst ex
  obtain rfl := Vals.ref1 r1
  obtain ⟨its, rv, sp⟩ := seqK I1 hq
  have la := sp.lt
  refine call_enumK sp fun h' he hit hk => wpAny_pyIter_enum he ?_
  have I2 : Inv X pins σ H1 { s1 with heap := h' } := I1.kept (t' := s1.toks) hk
  refine ⟨s1.heap.objs.size + 1, [s1.heap.objs.size + 1, s1.heap.objs.size], _, _, H1, rfl, I2, turn_enumK k a (s1.heap.objs.size + 1) s1.heap.objs.size (Nat.ne_of_lt (Nat.lt_succ_of_lt la)) (Nat.ne_of_lt la), ⟨⟨.none, he⟩, hit, Nat.succ_ne_self _⟩, fun b hb => ?_, q⟩
  have hle : s1.heap.objs.size ≤ b := by
    rcases (show b = s1.heap.objs.size + 1 ∨ b = s1.heap.objs.size by simpa using hb) with z | z
    · rw [z]; exact Nat.le_succ _
    · rw [z]; exact Nat.le_refl _
  exact I1.fpOk hle (I1.hok.fresh hle)
theorem itok_enum {K : PySem.W.Frag} {F : FF} {ρ : List Addr} {k : Bool} {a : Addr} {ds : List D} {vs : List V} (sq : ∀ {F1 : FF} {ρ1 : List Addr} {H1 : Hp} {h1 : Hh}, Lg F F1 → Rel K F1 ρ1 H1 h1 → SqK K k H1 a vs) (hz : ds.length ≤ big) (r : RepL F ρ ds vs) :
    ItOk K F ρ (.items (enumD 0 ds)) (ItEK K k a) := by
  have len : ∀ (ds : List D) (j : Nat), (enumD j ds).length = ds.length := by
    intro ds
    induction ds with
    | nil => intro j; rfl
    | cons d ds ih => intro j; simp [enumD, ih]
  have get : ∀ (ds : List D) (j i : Nat) (x : D), (enumD j ds)[i]? = some x → ∃ d, ds[i]? = some d ∧ x = .tup [.int ((j + i : Nat) : Int), d] := by
    intro ds
    induction ds with
    | nil => intro j i x e; simp [enumD] at e
    | cons d ds ih =>
      intro j i x e
      cases i with
      | zero => simp [enumD] at e; exact ⟨d, rfl, e.symm⟩
      | succ i =>
        obtain ⟨d', e1, e2⟩ := ih (j + 1) i x (by simpa [enumD] using e)
        exact ⟨d', by simpa using e1, by rw [e2]; congr 3; omega⟩
  refine ⟨by rw [Walk.len, len]; exact hz, fun i x F1 ρ1 H1 h1 l p R e => ?_, fun i F1 ρ1 H1 h1 l p R _ e => ⟨vs, sq l R, by rw [e, Walk.len, len]; exact r.length⟩⟩
  · obtain ⟨d, e1, e2⟩ := get ds 0 i x e
    obtain ⟨v, ev, rv⟩ := r.get e1
    refine ⟨⟨vs, v, sq l R, ev⟩, fun u H2 y => ?_⟩
    obtain ⟨T, v', rfl, hT, rfl, y4⟩ := y
    have := y4 vs (sq l R)
    rw [ev] at this
    cases this
    obtain ⟨R2, l2⟩ := R.froze (o := .tup [.int (i : Nat), v]) hT
    refine ⟨_, l2, R2, ?_⟩
    rw [e2, Nat.zero_add]
    exact ⟨T, _, rfl, upd_same, by show (2 : Nat) ≤ big; decide, _, _, rfl, rfl, _, _, rfl, Rep.monof l2.l (Pre.refl _) _ _ (Rep.monof l.l p _ _ rv), rfl⟩
end Px

set_option autoImplicit false
set_option linter.all false
set_option maxRecDepth 100000
set_option maxHeartbeats 4000000
/-! zip over lists and tuples: its turns. -/
namespace Px
open PySem L2 PySem.Spec PyProof.Rows PySem.PxI
/-- the items of the lists or tuples at a and b, in new pairs -/
def ItZK (K : PySem.W.Frag) (k1 k2 : Bool) (a b : Addr) : L2.It :=
  ⟨fun i H => ∃ (xs ys : List V) (x y : V), SqK K k1 H a xs ∧ SqK K k2 H b ys ∧ xs[i]? = some x ∧ ys[i]? = some y,
    fun i H v H' => ∃ T x y, v = .ref T ∧ H T = none ∧ H' = upd H T (.tup [x, y]) ∧ (∀ xs, SqK K k1 H a xs → xs[i]? = some x) ∧ ∀ ys, SqK K k2 H b ys → ys[i]? = some y,
    fun i H => ∃ xs ys : List V, SqK K k1 H a xs ∧ SqK K k2 H b ys ∧ i ≤ xs.length ∧ i ≤ ys.length ∧ (i = xs.length ∨ i = ys.length)⟩
theorem sepK (I a b : Nat) (ha : a < I) (hb : b < I) : ZipSep2 (I + 4) (I + 2) (I + 3) I (I + 1) [I, a] [I + 1, b] := by
  constructor <;> (simp only [List.mem_cons, List.not_mem_nil, or_false, not_or, true_or, ne_eq]) <;> (try constructor) <;> (try exact Nat.ne_of_gt (by omega)) <;> (try exact Nat.ne_of_lt (by omega))
theorem turn_zipK {P : Program} {w : World} {K : PySem.W.Frag} {elts : List Expr} {kk : Nat} {tpos : Pos} (k1 k2 : Bool) {a b z TI TO i1 i2 : Addr} (S : ZipSep2 z TI TO i1 i2 [i1, a] [i2, b]) (ai : a ≠ i1) (bi : b ≠ i2) :
    Turn P w K (.Tuple elts kk tpos) (ItZK K k1 k2 a b) [z, TI, TO, i1, i2] z (fun i h => IsZip h z TI TO .none ∧ IsTupOf2 h TI (.ref i1) (.ref i2) ∧ (∃ x y, IsTupOf2 h TO x y) ∧ ItP k1 h i1 a i ∧ ItP k2 h i2 b i) where
  mem := by simp
  obj := fun i h st c hc => by
    obtain ⟨hz, hTI, ⟨x, y, hTO⟩, h1, h2⟩ := st
    have e' : c = z ∨ c = TI ∨ c = TO ∨ c = i1 ∨ c = i2 := by simpa using hc
    rcases e' with q | q | q | q | q
    · rw [q]; exact ⟨_, hz, fun v q => nomatch q⟩
    · rw [q]; exact ⟨_, hTI, fun v q => nomatch q⟩
    · rw [q]; exact ⟨_, hTO, fun v q => nomatch q⟩
    · rw [q]; exact h1.obj
    · rw [q]; exact h2.obj
  keep := fun i h h' st k => by
    obtain ⟨hz, hTI, ⟨x, y, hTO⟩, h1, h2⟩ := st
    exact ⟨k z (by simp) _ hz, k TI (by simp) _ hTI, ⟨x, y, k TO (by simp) _ hTO⟩, h1.at fun o q => k i1 (by simp) o q, h2.at fun o q => k i2 (by simp) o q⟩
  item := by
    intro X hP hw hK hc i pins s σ H E I hf st hg
    subst hP hw hK
    obtain ⟨hz, hTI, ⟨x0, y0, hTO⟩, h1, h2⟩ := st
    obtain ⟨xs, ys, x, y, hqx, hqy, hx, hy⟩ := hg
    obtain ⟨its, rv, sp⟩ := seqK I hqx
    obtain ⟨its2, rv2, sp2⟩ := seqK I hqy
    obtain ⟨u, hu, ru⟩ := rv.get hx
    obtain ⟨u2, hu2, ru2⟩ := rv2.get hy
    have hl1 : i < its.toArray.size := by rw [List.size_toArray, ← rv.length]; exact (List.getElem?_eq_some_iff.mp hx).1
    have hl2 : i < its2.toArray.size := by rw [List.size_toArray, ← rv2.length]; exact (List.getElem?_eq_some_iff.mp hy).1
    have hzl : z < s.heap.objs.size := Heap.lt_size hz
    have hh : X.A.in1.handled = none := I.ok.hd hc
    refine wpAny_pyNext_zipD2_item S (draws_seq (A := X.A.in1) k1 hh i1 a ai its.toArray) (draws_seq (A := X.A.in1) k2 hh i2 b bi its2.toArray) hz hTI hTO ⟨h1, sp⟩ ⟨h2, sp2⟩ hl1 hl2 fun x1 x2 h' tk p1 p2 z' TO' st1 st2 hT hsz hk => ?_
    have e1 : u = x1 := by
      have p1 : its.toArray[i]? = some x1 := p1
      rw [List.getElem?_toArray, hu] at p1
      exact Option.some.inj p1
    have e2 : u2 = x2 := by
      have p2 : its2.toArray[i]? = some x2 := p2
      rw [List.getElem?_toArray, hu2] at p2
      exact Option.some.inj p2
    subst e1 e2
    refine ⟨_, rfl, wpAny_letOwnedTupleGo_zip (s := { s with heap := h', toks := tk }) z' fun h'' z'' sb => ?_⟩
    have hT2 : h''.get? s.heap.objs.size = some { cls := .type "tuple", data := .seq #[u, u2] } := (sb.2 _ (Nat.ne_of_gt hzl)).trans hT
    have new : ObjOk X.prog X.w (upd H s.heap.objs.size (.tup [x, y])) h'' s.heap.objs.size (.tup [x, y]) :=
      ⟨by show 2 ≤ sizeLine; decide, [u, u2], .cons ru (.cons ru2 .nil), ⟨_, hT2, rfl, _, rfl⟩⟩
    have I1 : Inv X pins σ (upd H s.heap.objs.size (.tup [x, y])) { s with heap := h'', toks := tk } :=
      I.turnedNew (t' := tk) (ch := [z, TI, TO, i1, i2]) (fun c o hb q => (sb.2 c (fun q' => hb (by simp [q']))).trans (hk c o (fun q' => hb (by simp [q'])) (fun q' => hb (by simp [q'])) (fun q' => hb (by simp [q'])) (fun q' => hb (by simp [q'])) q)) hf (Nat.le_refl _) new
    refine ⟨.ref s.heap.objs.size, _, I1, rfl, ⟨_, x, y, rfl, I.hok.fresh (Nat.le_refl _), rfl, fun l hl => by rw [seqK_inj I hl hqx]; exact hx, fun l hl => by rw [seqK_inj I hl hqy]; exact hy⟩, ⟨z'', ?_, ⟨u, u2, ?_⟩, ?_, ?_⟩, fun c hcm => ?_⟩
    · exact (sb.2 _ S.TIz).trans (hk _ _ S.TIz S.TITO S.TIi1 S.TIi2 hTI)
    · exact (sb.2 _ S.TOz).trans TO'
    · exact st1.1.at fun o q => (sb.2 _ (Ne.symm S.zi1)).trans q
    · exact st2.1.at fun o q => (sb.2 _ (Ne.symm S.zi2)).trans q
    · have hlt : c < s.heap.objs.size := by
        have e' : c = z ∨ c = TI ∨ c = TO ∨ c = i1 ∨ c = i2 := by simpa using hcm
        rcases e' with q | q | q | q | q
        · rw [q]; exact hzl
        · rw [q]; exact Heap.lt_size hTI
        · rw [q]; exact Heap.lt_size hTO
        · rw [q]; obtain ⟨_, e1, _⟩ := h1.obj; exact Heap.lt_size e1
        · rw [q]; obtain ⟨_, e2, _⟩ := h2.obj; exact Heap.lt_size e2
      rw [upd_ne (Nat.ne_of_lt hlt)]
      exact (hf c hcm).1
  done := by
    intro X hP hw hK hc i pins s σ H E I hf st hg
    subst hP hw hK
    obtain ⟨hz, hTI, ⟨x0, y0, hTO⟩, h1, h2⟩ := st
    obtain ⟨xs, ys, hqx, hqy, hle1, hle2, hend⟩ := hg
    obtain ⟨its, rv, sp⟩ := seqK I hqx
    obtain ⟨its2, rv2, sp2⟩ := seqK I hqy
    have l1 : its.toArray.size = xs.length := by rw [List.size_toArray, ← rv.length]
    have l2 : its2.toArray.size = ys.length := by rw [List.size_toArray, ← rv2.length]
    have hh : X.A.in1.handled = none := I.ok.hd hc
    exact wpAny_pyNext_zipD2_end S (draws_seq (A := X.A.in1) k1 hh i1 a ai its.toArray) (draws_seq (A := X.A.in1) k2 hh i2 b bi its2.toArray) hz hTI hTO ⟨h1, sp⟩ ⟨h2, sp2⟩ (by rw [l1]; exact hle1) (by rw [l2]; exact hle2) (by rw [l1, l2]; exact hend) fun h' tk hk => ⟨rfl, I.turnedL (t' := tk) (ch := [z, TI, TO, i1, i2]) (fun c o hb q =>
      hk c o (fun q' => hb (by simp [q'])) (fun q' => hb (by simp [q'])) (fun q' => hb (by simp [q'])) (fun q' => hb (by simp [q'])) q) hf⟩
  self := fun A i s Q E st h => wpAny_pyIter_zip st.1 h
def iZipK (K : PySem.W.Frag) (ta : TA) : TI := fun σ H R => ta σ H fun vs H1 => ∃ k1 k2 a b xs ys, vs = [.ref a, .ref b] ∧ SqK K k1 H1 a xs ∧ SqK K k2 H1 b ys ∧ R (ItZK K k1 k2 a b) H1
theorem pi_zipK {X : Cx} {e e2 : Expr} {ta : TA} {p pos tpos : Pos} {elts : List Expr} {kk : Nat} (hg : Gl X "zip") (hm : X.mg "zip" = none) (hn : ns e = true) (hn2 : ns e2 = true) (ha : PA X [e, e2] ta) : PI X (.Tuple elts kk tpos) (.Call (.Name "zip" p) [e, e2] [] pos) (iZipK X.K ta) := by
  constructor
  intro pins s σ H R I h
  refine Call_ (ld_blt I hg hm PyProof.Rows.boot_zip (PyProof.Rows.callWith_type1 (thn (ha.run pos pins s σ H _ I h) fun us s1 ⟨vs, H1, I1, r1, k1, k2, a, b, xs, ys, ex, hqx, hqy, q⟩ => ?_) (star_cons hn) (star_plain (by simp [hn2]))))
  subst ex
  cases r1 with
  | cons r rr =>
    cases rr with
    | cons r' rr =>
      cases rr
      cases r
      cases r'
      obtain ⟨its, rv, sp⟩ := seqK I1 hqx
      obtain ⟨its2, rv2, sp2⟩ := seqK I1 hqy
      have la := sp.lt
      have lb := sp2.lt
      refine call_zipK sp sp2 fun h' hz hTI hTO h1 h2 hk => wpAny_pyIter_zip hz ?_
      have I2 : Inv X pins σ H1 { s1 with heap := h' } := I1.kept (t' := s1.toks) hk
      refine ⟨s1.heap.objs.size + 4, [s1.heap.objs.size + 4, s1.heap.objs.size + 2, s1.heap.objs.size + 3, s1.heap.objs.size, s1.heap.objs.size + 1], _, _, H1, rfl, I2, turn_zipK k1 k2 (sepK s1.heap.objs.size a b la lb) (Nat.ne_of_lt la) (Nat.ne_of_lt (Nat.lt_succ_of_lt lb)), ⟨hz, hTI, ⟨_, _, hTO⟩, h1, h2⟩, fun c hcm => ?_, q⟩
      have e' : c = s1.heap.objs.size + 4 ∨ c = s1.heap.objs.size + 2 ∨ c = s1.heap.objs.size + 3 ∨ c = s1.heap.objs.size ∨ c = s1.heap.objs.size + 1 := by simpa using hcm
      have hle : s1.heap.objs.size ≤ c := by
        rcases e' with z | z | z | z | z
        · rw [z]; exact Nat.le_add_right _ _
        · rw [z]; exact Nat.le_add_right _ _
        · rw [z]; exact Nat.le_add_right _ _
        · rw [z]; exact Nat.le_refl _
        · rw [z]; exact Nat.le_add_right _ _
      exact I1.fpOk hle (I1.hok.fresh hle)
end Px
namespace Px
open PySem L2 PySem.Spec PyProof.Rows PySem.PxI
theorem zipD_len : ∀ (as bs : List D), (zipD as bs).length = min as.length bs.length
  | [], _ => by simp [zipD]
  | _ :: _, [] => by simp [zipD]
  | a :: as, b :: bs => by
    have := zipD_len as bs
    simp only [zipD, List.length_cons]
    omega
theorem zipD_get : ∀ (as bs : List D) (i : Nat) (x : D), (zipD as bs)[i]? = some x → ∃ p q, as[i]? = some p ∧ bs[i]? = some q ∧ x = .tup [p, q]
  | [], _, i, x, e => by simp [zipD] at e
  | _ :: _, [], i, x, e => by simp [zipD] at e
  | a :: as, b :: bs, 0, x, e => by simp [zipD] at e; exact ⟨a, b, rfl, rfl, e.symm⟩
  | a :: as, b :: bs, i + 1, x, e => by
    obtain ⟨p, q, e1, e2, e3⟩ := zipD_get as bs i x (by simpa [zipD] using e)
    exact ⟨p, q, by simpa using e1, by simpa using e2, e3⟩
theorem itok_zip {K : PySem.W.Frag} {F : FF} {ρ : List Addr} {k1 k2 : Bool} {a b : Addr} {ds es : List D} {vs ws : List V} (sq : ∀ {F1 : FF} {ρ1 : List Addr} {H1 : Hp} {h1 : Hh}, Lg F F1 → Rel K F1 ρ1 H1 h1 → SqK K k1 H1 a vs) (sq2 : ∀ {F1 : FF} {ρ1 : List Addr} {H1 : Hp} {h1 : Hh}, Lg F F1 → Rel K F1 ρ1 H1 h1 → SqK K k2 H1 b ws)
    (hz : ds.length ≤ big) (r : RepL F ρ ds vs) (r2 : RepL F ρ es ws) : ItOk K F ρ (.items (zipD ds es)) (ItZK K k1 k2 a b) := by
  refine ⟨by rw [Walk.len, zipD_len]; omega, fun i x F1 ρ1 H1 h1 l p R e => ?_, fun i F1 ρ1 H1 h1 l p R _ e => ?_⟩
  · obtain ⟨d, d', e1, e1', e2⟩ := zipD_get ds es i x e
    obtain ⟨v, ev, rv⟩ := r.get e1
    obtain ⟨v', ev', rv'⟩ := r2.get e1'
    refine ⟨⟨vs, ws, v, v', sq l R, sq2 l R, ev, ev'⟩, fun u H2 y => ?_⟩
    obtain ⟨T, w1, w2, rfl, hT, rfl, y4, y5⟩ := y
    have z1 := y4 vs (sq l R)
    have z2 := y5 ws (sq2 l R)
    rw [ev] at z1
    rw [ev'] at z2
    cases z1
    cases z2
    obtain ⟨R2, l2⟩ := R.froze (o := .tup [v, v']) hT
    refine ⟨_, l2, R2, ?_⟩
    rw [e2]
    exact ⟨T, _, rfl, upd_same, by show (2 : Nat) ≤ big; decide, _, _, rfl, Rep.monof l2.l (Pre.refl _) _ _ (Rep.monof l.l p _ _ rv), _, _, rfl, Rep.monof l2.l (Pre.refl _) _ _ (Rep.monof l.l p _ _ rv'), rfl⟩
  · have q1 := r.length
    have q2 := r2.length
    rw [Walk.len, zipD_len] at e
    refine ⟨vs, ws, sq l R, sq2 l R, ?_, ?_, ?_⟩ <;> omega
/-- a list or tuple that never changes -/
theorem seqFz_at {K : PySem.W.Frag} {F : FF} {ρ : List Addr} {H : Hp} {h : Hh} {a : D} {x : V} {β : Type} {f : List D → M β} {Φ : β → FF → List Addr → Hp → Hh → Prop} {E : XK} (R : Rel K F ρ H h) (r : Rep F ρ a x) (o : Out K F ρ (((seqFz a) h).bind f) Φ E) :
    ∃ p k ds vs, x = .ref p ∧ (∀ {F1 : FF} {ρ1 : List Addr} {H1 : Hp} {h1 : Hh}, Lf F F1 → Rel K F1 ρ1 H1 h1 → SqK K k H1 p vs) ∧ ds.length ≤ big ∧ RepL F ρ ds vs ∧ Out K F ρ (f ds h) Φ E := by
  cases a with
  | lst ds =>
    obtain ⟨p, vs, e, hp, hz, rl⟩ := r
    exact ⟨p, false, ds, vs, e, fun l R1 => SqL.of (R1.sub _ _ (l _ _ hp)), hz, rl, o⟩
  | tup ds =>
    obtain ⟨p, vs, e, hp, hz, rl⟩ := r
    exact ⟨p, true, ds, vs, e, fun l R1 => SqT.of (R1.sub _ _ (l _ _ hp)), hz, rl, o⟩
  | scr ds =>
    obtain ⟨p, vs, e, hp, hz, rl⟩ := r
    refine ⟨p, false, ds, vs, e, fun l R1 => ?_, hz, rl, o⟩
    refine .inl ?_
    rcases hp with e | ⟨u, e⟩
    · exact .inl (R1.sub _ _ (l _ _ e))
    · exact .inr ⟨u, R1.sub _ _ (l _ _ e)⟩
  | _ => exact o.elim
end Px

set_option autoImplicit false
set_option linter.all false
set_option maxRecDepth 100000
/-! sorted(list): whole numbers; data that are alike. -/
namespace Px
open PySem L2 PySem.Spec PyProof.Rows
section
variable {F : FF} {ρ : List Addr}
theorem each_of : ∀ {ds : List D} {vs : List V} {its : List Value}, RepL F ρ ds vs → Vals vs its → PySem.W.EachIs (fun u d => ∃ y, RelV y u ∧ Rep F ρ d y) its ds
  | [], _, _, rl, rv => by
    cases rl
    cases rv
    exact .nil
  | d :: ds, _, _, rl, rv => by
    obtain ⟨w, ws, rfl, rd, rl⟩ := rl
    cases rv with
    | cons r rv => exact .cons ⟨w, r, rd⟩ (each_of rl rv)
theorem of_each : ∀ {ds : List D} {its : List Value}, PySem.W.EachIs (fun u d => ∃ y, RelV y u ∧ Rep F ρ d y) its ds → ∃ vs, Vals vs its ∧ RepL F ρ ds vs
  | _, _, .nil => ⟨[], .nil, rfl⟩
  | _, _, .cons ⟨y, r, rd⟩ t => by
    obtain ⟨vs, rv, rl⟩ := of_each t
    exact ⟨y :: vs, .cons r rv, y, vs, rfl, rd, rl⟩
end
theorem plainL_mem : ∀ {ds : List D}, plainL ds = true → ∀ d ∈ ds, d.plain = true
  | d :: ds, h, x, hx => by
    simp only [plainL, Bool.and_eq_true] at h
    rcases List.mem_cons.mp hx with e | hx
    · rw [e]; exact h.1
    · exact plainL_mem h.2 x hx
theorem depthL_mem : ∀ {ds : List D}, ∀ d ∈ ds, d.depth ≤ depthL ds
  | d :: ds, x, hx => by
    rw [depthL]
    rcases List.mem_cons.mp hx with e | hx
    · rw [e]; omega
    · have := depthL_mem x hx
      omega
theorem mergeSort_length' (ds : List D) (le : D → D → Bool) : (ds.mergeSort le).length = ds.length := List.length_mergeSort ds
section
variable {X : Cx}
theorem call_sortD (hu : X.A.units + 200 < cLine) (m : Bool) : CallR X (.builtin "sorted") (rAl X.K m sortop) := by
  intro pins s σ H xs us Q I r ⟨F, ρ, h, d, x, E, ex, R, rd, out⟩
  subst ex
  simp only [sortop, bind_at, Res.bind_assoc] at out
  obtain ⟨p, ds, vs, rfl, hp, hz, rl, out⟩ := lstOf_at R rd out
  cases e : intsOf ds with
  | some ns =>
    simp only [e] at out
    have e4 := rl.ints e
    subst e4
    refine cr_sortedI pins s σ H _ us Q I r ⟨p, ns, rfl, SqL.of hp, fun ns' q hperm hsort hq => ?_⟩
    have e5 : ns' = isort ns := sorted_unique (hperm.trans (isort_perm ns).symm) hsort (isort_sorted ns)
    subst e5
    exact Out.place R out hq ⟨_, rfl, by rw [List.length_map, (isort_perm ns).length_eq]; have := rl.length; rw [List.length_map] at this; omega, RepL.of_ints _⟩
  | none =>
    simp only [e] at out
    split at out
    · rename_i hs
      unfold sortable at hs
      simp only [Bool.and_eq_true, Bool.or_eq_true, decide_eq_true_eq] at hs
      obtain ⟨⟨⟨hpl, hde⟩, hk⟩, hal⟩ := hs
      obtain ⟨its, rv, hl, hz2⟩ := I.list (SqL.of hp)
      rw [Vals.ref1 r]
      have eR := each_of rl rv
      have er : PySem.W.EachIs (fun v d => ∃ as, Reads s.heap v (D.toP d) as) its ds := (PySem.W.each_mem eR).mono fun u d ⟨⟨y, ry, rd⟩, hd⟩ => Dp.reads I _ y u (Rep.dp R.sub d y (plainL_mem hpl d hd) rd) ry
      have al : PySem.W.AllAlike (ds.map D.toP) := by
        intro a ha b hb
        obtain ⟨x, hx, rfl⟩ := List.mem_map.mp ha
        obtain ⟨y, hy, rfl⟩ := List.mem_map.mp hb
        exact List.all_eq_true.mp (List.all_eq_true.mp hal x hx) y hy
      have so : PySem.W.Sortable (ds.map D.toP) := by
        rcases hk with hk | hk
        · refine .inl fun a ha => ?_
          obtain ⟨x, hx, rfl⟩ := List.mem_map.mp ha
          have := List.all_eq_true.mp hk x hx
          cases x with
          | tup zs =>
            cases zs with
            | nil => cases this
            | cons z zs => exact ⟨_, _, rfl⟩
          | _ => cases this
        · refine .inr fun a ha => ?_
          obtain ⟨x, hx, rfl⟩ := List.mem_map.mp ha
          have h1 := List.all_eq_true.mp hk x hx
          have h2 := plainL_mem hpl x hx
          cases x <;> first | (refine ⟨?_, fun zs => ?_⟩ <;> intro z <;> cases z; done) | (cases h1; done) | (cases h2; done)
      refine PySem.W.sorted_data hl.isList eR er al so (by rw [← big_eq]; exact hz) (fun b hb => ?_) fun out' hlen hout => ?_
      · have h1 := depthL_mem b hb
        have h2 := toP_depth b
        omega
      · obtain ⟨ws, rw', rl'⟩ := of_each hout
        obtain ⟨ep, he'⟩ := PyProof.Rows.sortedAll_at s.heap its out'.toArray
        have hsd : (ds.mergeSort (PySem.W.dataLe false D.toP)) = sortD ds := rfl
        rw [hsd] at rl'
        have hzz : (sortD ds).length ≤ big := by rw [show (sortD ds).length = ds.length from List.length_mergeSort ds]; exact hz
        refine ⟨.ref _, upd H (s.heap.objs.size + 1) (.lst ws), I.laid (t' := s.toks) (fun _ _ => PyProof.Rows.sortedAll_old) (Nat.le_succ _) ⟨by rw [rl'.length, ← big_eq]; exact hzz, _, ep, rw', he'⟩, rfl, ?_⟩
        exact Out.place R out (I.hok.fresh (Nat.le_succ _)) ⟨ws, rfl, hzz, rl'⟩
    · exact out.elim
end
section
variable {X : Cx} {W : WX} {base : Nat} {c : Cxt} (hc : ∀ f base args, Sane base (c.call f base args))
include hc
theorem s_sorted {a : Expr} {a' : Ex} {m : Bool} {p pos : Pos} (hu : X.A.units + 200 < cLine) (hcalm : X.calm = true) (hg : Gl X "sorted") (hm : X.mg "sorted" = none) (hn : ns a = true) (ha : PE X a (tE X.K base W (eX c base a'))) :
    PE X (.Call (.Name "sorted" p) [a] [] pos) (tE X.K base W (eX c base (.new m (.sorted a')))) :=
  (pe_callB (call_sortD hu m) hg hm (by decide +kernel) (s_cons hc hn ha (s_nil hc)) (he := star_cons hn)).weak fun σ H Q q => al1 hc (fun env h => by
    simp only [evAl, bind_at]
    rfl) σ H Q q
end
end Px

set_option autoImplicit false
set_option linter.all false
set_option maxRecDepth 100000
/-! set(list of ints), sorted(set(..)). -/
namespace Px
open PySem L2 PySem.Spec PyProof.Rows
/-- an empty set's object -/
abbrev set0 (w : World) : Obj := ⟨.type "set", none, .set #[] 0 (.fresh 0 0 (!w.params.followText "set-order")), #[]⟩
section
variable {P : Program} {w : World} {A : Around} {E : Value → Shared → Prop} {s : Shared}
theorem set0_new : SetR w (s.heap.push (set0 w)) s.heap.objs.size (fun _ => false) 0 := setR_fresh w
set_option maxHeartbeats 3200000 in
theorem call_set_lstI {l : Addr} {its : Array Value} (ns : List Int) {Q : Value → Shared → Prop} (calm : A.handled = none) (lst : s.heap.IsList l its) (nums : IntsAre its.toList ns) (room : ns.length + 1 < scanBound)
    (fin : ∀ (hp : Heap) (tk c : Nat), SetR w hp s.heap.objs.size (fun j => decide (j ∈ ns)) c → c ≤ ns.length → (∀ b o, s.heap.get? b = some o → hp.get? b = some o) → Q (.ref s.heap.objs.size) { s with heap := hp, toks := tk }) :
    wpAny (model P w) A (call (.type "set") [.ref l]) Q E s := by
  have size : its.size = ns.length := by have := IntsAre.length nums; rwa [Array.length_toList] at this
  obtain ⟨cm, rm, f1⟩ := F.called_set.mro
  have f2 := F.called_set.made; have f3 := F.called_set.sub; have f4 := F.called_set.notType; have f5 := F.called_set.canCreate
  have f6 := F.typeCall_set_1 (.ref l); have f7 := F.called_set.init.lookup; have f8 := F.called_set.init.bind (.ref s.heap.objs.size)
  have new : (s.heap.push (set0 w)).get? s.heap.objs.size = some (set0 w) := Heap.get?_push_size _ rfl
  refine wpAny_call (codeAny_of_tree (?_ : wpAny _ _ (callAny (.type "set") _) _ _ _))
  refine wpAny_pure ⟨Code.quiet_builtin _ (by decide +kernel), codeAny_builtin F.entry_type_call ?_⟩; rw [Around.under_plain (weight_type_call_type "set" [.ref l] []) rfl]
  repeat (any_goals (first | assumption | wp_step))
  refine codeAny_mono (code_set_led1 (.ref l) (E := E) (Q₁ := fun x t => x = .ref s.heap.objs.size ∧ t = { s with heap := s.heap.push (set0 w) }) ⟨rfl, rfl⟩) fun r t hr => ?_
  match r, hr with
  | .error e, hr => exact hr
  | .ok (.ret x), hr =>
    obtain ⟨rfl, rfl⟩ := hr
    have ty : Shared.TypeIs { s with heap := s.heap.push (set0 w) } (.ref s.heap.objs.size) "set" := ⟨_, new, rfl⟩
    repeat (any_goals (first | assumption | wp_step))
    let After : Value → Shared → Prop := fun r t => r = .none ∧ ∃ hp tk c, t = { s with heap := hp, toks := tk } ∧ SetR w hp s.heap.objs.size (fun j => decide (j ∈ ns)) c ∧ c ≤ ns.length ∧ ∀ b o, s.heap.get? b = some o → hp.get? b = some o
    refine codeAny_mono (codeAny_call_builtin (R := wants After E) F.called_set.init.plain F.entry_set_init (check_set_init_1 ty ?_)) fun r t hr => ?_
    · obtain ⟨⟨k1, k2, k3, k4⟩, at0, c0, ep, d0⟩ := lst
      simp only at c0 d0
      subst c0 d0
      have at1 : (s.heap.push (set0 w)).get? l = some ⟨.type "list", k2, .seq its ep, k4⟩ := Heap.get?_push_of_some _ at0
      have no1 := F.sub_list_set; have no2 := F.sub_list_frozenset; have no3 : (Value.type "list" == Value.type "dict") = false := by decide
      have lst1 : (s.heap.push (set0 w)).IsList l its := ⟨_, at1, rfl, ep, rfl⟩
      unfold Builtin.«set.__init__» noKeywords Builtin.Frozenset.updateFrom
      generalize gen : pyIter = PI
      wp_walk
      subst gen
      refine wpAny_pyIter_list lst1 (wpAny_bind (wpAny_runValue ?_))
      have small : l < s.heap.objs.size := Heap.lt_size at0
      have size1 : (s.heap.push (set0 w)).objs.size = s.heap.objs.size + 1 := Heap.size_push ..
      have ne1 : l ≠ (s.heap.push (set0 w)).objs.size := by rw [size1]; exact Nat.ne_of_lt (Nat.lt_succ_of_lt small)
      have out1 : s.heap.objs.size ∉ [(s.heap.push (set0 w)).objs.size, l] := by
        rw [size1]
        intro z
        rcases List.mem_cons.mp z with z | z
        · exact absurd z (Nat.ne_of_lt (Nat.lt_succ_self _))
        · exact absurd (List.mem_singleton.mp z) (Nat.ne_of_gt small)
      have val : ∀ (i : Nat) (v : Value), its[i]? = some v → ∃ k t, ns[i]? = some k ∧ v = .int k t := fun i v hv => by
        have hi : i < ns.length := size ▸ (Array.getElem?_eq_some_iff.mp hv).1
        obtain ⟨t, e⟩ := PyProof.Rows.IntsAre.int_at nums i v (by rw [Array.getElem?_toList]; exact hv)
        refine ⟨ns[i], t, List.getElem?_eq_getElem hi, e.trans ?_⟩
        rw [List.getD_eq_getElem?_getD, List.getElem?_eq_getElem hi]
        rfl
      have walk := (Walks.list (prog := P) (w := w) (A := A.in1.in1.in1) (by simp [calm]) (s.heap.push (set0 w)).objs.size l ne1 its).toS
      refine set_update_ints walk s.heap.objs.size out1 ns size room val (its.size - 0) 0 _ (by omega) (Nat.zero_le _) ⟨⟨_, Heap.get?_push_size _ rfl, rfl, rfl⟩, lst1.push _⟩ ⟨0, Nat.le_refl 0, setR_new_at ?_⟩ ?_
      · exact Heap.get?_push_of_some _ new
      rintro ⟨hp, gs, dr, tk, os⟩ c moved hc hS
      obtain rfl : gs = s.gens := moved.gens
      obtain rfl : dr = s.drawn := moved.drawn
      obtain rfl : os = s.os := moved.os
      refine wpAny_pure (?_ : wpAny _ _ (PySem.ret Value.none) _ _ _)
      refine wpAny_pure ⟨rfl, hp, tk, c, rfl, hS, size ▸ hc, fun b o e => moved.heap b o (fun z => ?_) (Heap.get?_push_of_some _ (Heap.get?_push_of_some _ e))⟩
      have lt := Heap.lt_size e
      rcases List.mem_cons.mp z with z | z
      · exact Nat.ne_of_lt lt z
      · rw [List.mem_singleton.mp z, size1] at lt
        exact absurd lt (Nat.not_lt.mpr (Nat.le_succ _))
    · match r, hr with
      | .error e, hr => exact hr
      | .ok (.ret x), hr =>
        obtain ⟨rfl, hp, tk, c, rfl, hS, hc, keep⟩ := hr
        repeat (any_goals (first | assumption | wp_step))
        exact fin _ _ _ hS hc keep
      | .ok (.next), hr => exact hr.elim
      | .ok (.brk), hr => exact hr.elim
      | .ok (.cont), hr => exact hr.elim
  | .ok (.next), hr => exact hr.elim
  | .ok (.brk), hr => exact hr.elim
  | .ok (.cont), hr => exact hr.elim
end
theorem dedup_mem : ∀ (l : List Int) (y : Int), y ∈ dedupI l ↔ y ∈ l
  | [], y => Iff.rfl
  | x :: l, y => by
    rw [dedupI]
    by_cases hx : x ∈ l
    · rw [if_pos hx, dedup_mem l, List.mem_cons]
      exact ⟨.inr, fun h => h.elim (fun e => e ▸ hx) id⟩
    · rw [if_neg hx, List.mem_cons, List.mem_cons, dedup_mem l]
theorem dedup_nodup : ∀ l : List Int, (dedupI l).Nodup
  | [] => List.nodup_nil
  | x :: l => by
    rw [dedupI]
    by_cases hx : x ∈ l
    · rw [if_pos hx]; exact dedup_nodup l
    · rw [if_neg hx]; exact List.nodup_cons.mpr ⟨fun h => hx ((dedup_mem l x).mp h), dedup_nodup l⟩
/-- how many members -/
theorem set_count {w : World} {hp : Heap} {a : Addr} {ns : List Int} {c : Nat} (S : SetR w hp a (fun j => decide (j ∈ ns)) c) : c = (dedupI ns).length := by
  obtain ⟨o, es, ep, t, _, _, _, _, nd, hm, _, _, hn, _⟩ := S
  have p : (es.toList.map keyOf).Perm (dedupI ns) := (List.perm_ext_iff_of_nodup nd (dedup_nodup ns)).mpr fun k => by
    rw [dedup_mem, ← hm k]
    exact decide_eq_true_iff
  have := p.length_eq
  rw [List.length_map, Array.length_toList, hn] at this
  exact this
def rSetI (X : Cx) : List V → Hp → VK → Prop := fun xs H Q => ∃ (a : Addr) (ns : List Int), xs = [.ref a] ∧ (SqL X.K H a (ns.map V.int) ∨ SqT X.K H a (ns.map V.int)) ∧ ns.length < 4000 ∧ ∀ p c, H p = none → c = (dedupI ns).length → Q (.ref p) (upd H p (SetO X.w p (fun j => decide (j ∈ ns)) c))
section
variable {X : Cx}
theorem cr_setI (calm : X.calm = true) : CallR X (.type "set") (rSetI X) := by
  intro pins s σ H xs us Q I r ⟨a, ns, ex, hs, few, q⟩
  subst ex
  rw [Vals.ref1 r]
  have room : ns.length + 1 < scanBound := by unfold scanBound; omega
  rcases hs with hs | hs
  · obtain ⟨its, rv, hl, _⟩ := I.list hs
    refine call_set_lstI ns (I.ok.hd calm) hl.isList rv.ints room fun hp tk c hS hc keep => ?_
    exact ⟨.ref _, _, I.laid (t' := tk) keep (Nat.le_refl _) (setO_new hS), rfl, q _ c (I.hok.fresh (Nat.le_refl _)) (set_count hS)⟩
  · obtain ⟨its, rv, hl, _⟩ := I.tuple hs
    refine call_set_tupI ns (I.ok.hd calm) hl rv.ints room fun hp tk c hS hc keep => ?_
    exact ⟨.ref _, _, I.laid (t' := tk) keep (Nat.le_refl _) (setO_new hS), rfl, q _ c (I.hok.fresh (Nat.le_refl _)) (set_count hS)⟩
end
def ssop (d : D) : M Cell := bind (seqOf d) fun xs => match intsOf xs with
  | some ns => if (dedupI ns).length < 64 ∧ ns.length < 4000 then ret (.l ((isort (dedupI ns)).map .int)) else fail
  | none => fail
section
variable {X : Cx} {W : WX} {base : Nat} {c : Cxt} (hc : ∀ f base args, Sane base (c.call f base args))
include hc
theorem s_sortedSet {b : Expr} {b' : Ex} {m : Bool} {p p2 pos pos2 : Pos} (hu : X.A.units + 200 < cLine) (hcalm : X.calm = true) (hg : Gl X "sorted") (hm : X.mg "sorted" = none) (hg2 : Gl X "set") (hm2 : X.mg "set" = none) (hn : ns b = true) (hb : PE X b (tE X.K base W (eX c base b'))) :
    PE X (.Call (.Name "sorted" p) [.Call (.Name "set" p2) [b] [] pos2] [] pos) (tE X.K base W (eX c base (.new m (.sortedSet b')))) := by
  have inner := pe_callTy (pos := pos2) (p := p2) (cr_setI hcalm) hg2 hm2 (by decide +kernel) (s_cons hc hn hb (s_nil hc)) (he := star_cons hn)
  refine (pe_callB (cr_sortedSet hcalm) hg hm (by decide +kernel) (pa_cons inner pa_nil)).weak fun σ H Q q => ?_
  have q := al1 hc (op := ssop) (a' := b') (fun env h => by
    simp only [evAl, bind_at]
    rfl) σ H Q q
  obtain ⟨F, ρ, h, env, R, re, hl, out⟩ := q
  refine ⟨F, ρ, h, env, R, re, hl, out.imp fun xs h1 F1 ρ1 H1 e1 l1 p1 R1 o1 vs rvs => ?_⟩
  obtain ⟨F2, ρ2, h2, d, x, E, rfl, R2, rd, o2⟩ := o1 vs rvs
  simp only [ssop, bind_at, Res.bind_assoc] at o2
  obtain ⟨a, ds, us, rfl, ha, hz, rl, o2⟩ := seqOf_at R2 rd o2
  cases e : intsOf ds with
  | none => simp only [e] at o2; exact o2.elim
  | some ns =>
    simp only [e] at o2
    split at o2
    · rename_i hs
      have e4 := rl.ints e
      subst e4
      refine ⟨a, ns, rfl, ha.imp SqL.of SqT.of, hs.2, fun q k hq hk => ⟨q, _, k, rfl, upd_same, by omega, fun ns' r hsrt hmem hlen hr => ?_⟩⟩
      obtain ⟨R3, l3⟩ := R2.froze (o := SetO X.w q (fun j => decide (j ∈ ns)) k) hq
      have ep : ns'.Perm (isort (dedupI ns)) := ((List.perm_ext_iff_of_nodup (hsrt.imp fun h => by omega) (dedup_nodup ns)).mpr fun z => by
        rw [hmem, dedup_mem]
        exact decide_eq_true_iff).trans (isort_perm _).symm
      have e5 : ns' = isort (dedupI ns) := sorted_unique ep (hsrt.imp fun h => by omega) (isort_sorted _)
      subst e5
      refine Out.place R3 (o2.ext l3 (Pre.refl _)) hr ⟨_, rfl, ?_, RepL.of_ints _⟩
      rw [List.length_map, (isort_perm _).length_eq]
      have := hs.1
      show _ ≤ 16777216
      omega
    · exact o2.elim
end
end Px

set_option autoImplicit false
set_option linter.all false
set_option maxRecDepth 100000
/-! dict(list of pairs), the keys tuples. -/
namespace Px
open PySem L2 PySem.Spec PyProof.Rows
theorem pairsOf_cons {d : D} {xs : List D} {prs : List (D × D)} (h : pairsOf (d :: xs) = some prs) : ∃ a b r, d = .tup [a, b] ∧ pairsOf xs = some r ∧ prs = (a, b) :: r := by
  cases d with
  | tup ds =>
    cases ds with
    | nil => cases h
    | cons a ds =>
      cases ds with
      | nil => cases h
      | cons b ds =>
        cases ds with
        | cons _ _ => cases h
        | nil =>
          have e : (pairsOf xs).map ((a, b) :: ·) = some prs := h
          cases q : pairsOf xs with
          | none => rw [q] at e; cases e
          | some r => rw [q] at e; cases e; exact ⟨a, b, r, rfl, rfl, rfl⟩
  | _ => cases h
section
variable {X : Cx} {pins : List (Addr × Obj)} {σ : L2.St} {A : Around}
/-- one entry, and what it keeps -/
theorem d_dsetT {H H' : Hp} {s : Shared} {a : Addr} {y v : V} {u r : Value} {kvs : List (List Key × V)} {E : Value → Shared → Prop} {Q : Unit → Shared → Prop} (hu : A.units < cLine) (I : Inv X pins σ H s) (e0 : H a = some (.dT kvs)) (g : DPut H a y v H') (ry : RelV y u) (rv : RelV v r)
    (h : ∀ h' tk, Heap.SameBut a s.heap h' → Inv X pins σ H' { s with heap := h', toks := tk } → Q () { s with heap := h', toks := tk }) : wpAny (model X.prog X.w) A (dictSet a u r) Q E s := by
  rcases g with ⟨kvs, k, e, ey, l, eH⟩ | ⟨kvs, k, b, e, ey, eb, l, eH⟩
  · rw [e0] at e; cases e
  · subst ey eH
    cases (show u = Value.ref b from ry)
    obtain ⟨z, hd, xs, rel, dd⟩ := dt_of I.hok e
    have hl : (putK kvs k v).length ≤ sizeLine := by have := length_putK kvs k v; omega
    refine wpAny_dictSet_heap (hsz := by rw [← Paired.length rel]; exact z) (show A.units < cLine from hu) (key_of I.hok eb) dd fun h' dd' hs => h _ _ hs ?_
    obtain ⟨q, es, ep, hq, h2, h3, h4, _, h5⟩ := dd'
    have keep : ∀ c ys, H c = some (.tup ys) → upd H a (.dT (putK kvs k v)) c = some (.tup ys) := fun c ys ec => by
      have hne : c ≠ a := fun z => by subst z; rw [e] at ec; cases ec
      rw [upd_ne hne]
      exact ec
    exact d_write I (by rw [e]; exact True.intro) hs ⟨q, hq⟩ ⟨hl, hd, _, (rel.put k eb rv).keeps keep, q, es, ep, hq, h2, h3, h4, h5⟩
theorem upd_loopT {R : Result → Shared → Prop} {S I l : Addr} {items : Array Value} {res : Value} {f g : Hp} {ρ : List Addr} {h : Hh} (hh : A.handled = none) (hu : A.units + 1 < cLine) (hSI : S ≠ I) (hlI : l ≠ I) (hSl : S ≠ l) :
    ∀ (xs : List D) (vs : List V) (prs kvs : List (D × D)) (o : HO) (H : Hp) (i : Nat) (ix : Int) (t : Tok) (s : Shared), pairsOf xs = some prs → (∀ p ∈ prs, keyOk .t p.1 = true) → RepL ⟨f, g⟩ ρ xs vs → Vals vs (items.toList.drop i) → kvs.length + prs.length ≤ big →
      FpOk X pins H I → s.heap.IsListIter I l i → s.heap.IsList l items → Inv X pins σ H s → Rel X.K ⟨f, upd g S o⟩ ρ H h → DRep ⟨f, g⟩ ρ .t kvs o →
      (∀ o' H' s', Inv X pins σ H' s' → Rel X.K ⟨f, upd g S o'⟩ ρ H' h → DRep ⟨f, g⟩ ρ .t (putAll kvs prs) o' → R (.ok (.ret res)) s') →
      codeAny (model X.prog X.w) A (.builtin "dict.update.loop" ⟨[.ref S, .ref I, .int ix t, res], []⟩) R s
  | [], vs, prs, kvs, o, H, i, ix, t, s, hx, hk, rl, hv, hz, fp, hit, hl, In, Rl, dr, hR => by
    cases hx
    cases rl
    have hend : items.size ≤ i := by
      cases hd : items.toList.drop i with
      | nil => have := List.drop_eq_nil_iff.mp hd; simpa using this
      | cons _ _ => rw [hd] at hv; cases hv
    refine codeAny_builtin ud_entry ?_
    rw [Around.under_plainId ud_plain _]
    show wpAny _ A.in1 (pyNext (.ref I) >>= _) _ _ s
    refine wpAny_bind (wpAny_pyNext_list_end (A := A.in1) hh hit hl (Array.getElem?_eq_none hend) fun h' he => ?_)
    show wpAny _ A.in1 (Builtin.Dict.addKeywords S [] >>= _) _ _ _
    refine wpAny_bind (wpAny_pure (wpAny_pure ?_))
    exact hR o H _ (In.turnedL (t' := s.toks) (ch := [I]) (fun b o hb e => he b o (fun z => hb (List.mem_singleton.mpr z)) e) (fun b hb => by rw [List.mem_singleton.mp hb]; exact fp)) Rl dr
  | d :: xs, vs, prs, kvs, o, H, i, ix, t, s, hx, hk, rl, hv, hz, fp, hit, hl, In, Rl, dr, hR => by
    obtain ⟨a, b, r, rfl, hr, rfl⟩ := pairsOf_cons hx
    obtain ⟨w, ws, rfl, rd, rl⟩ := rl
    obtain ⟨p, us, rfl, hp, hlen, u1, us1, rfl, r1, u2, us2, rfl, r2, r3⟩ := rd
    cases r3
    -- the item
    have hi : i < items.toList.length := by
      by_cases z : i < items.toList.length
      · exact z
      · rw [List.drop_eq_nil_iff.mpr (by omega)] at hv; cases hv
    have hdrop := List.drop_eq_getElem_cons hi
    rw [hdrop] at hv
    cases hv with
    | cons rv0 hv =>
      have rv0 : items.toList[i] = .ref p := rv0
      have hb : items[i]? = some (.ref p) := by
        rw [← Array.getElem?_toList, List.getElem?_eq_getElem hi, rv0]
      refine codeAny_builtin ud_entry ?_
      rw [Around.under_plainId ud_plain _]
      show wpAny _ A.in1 (pyNext (.ref I) >>= _) _ _ s
      refine wpAny_bind (wpAny_pyNext_list_item (x := .ref p) hit hl hb fun h1 hit1 hs1 => ?_)
      have hl1 : h1.IsList l items := hl.extBut hs1.extBut hlI
      have In1 : Inv X pins σ H { s with heap := h1 } := In.turnedL (t' := s.toks) (ch := [I]) (fun b o hb e => hs1.extBut b o (fun z => hb (List.mem_singleton.mpr z)) e) (fun b hb => by rw [List.mem_singleton.mp hb]; exact fp)
      have hpH : H p = some (.tup [u1, u2]) := Rl.sub _ _ hp
      obtain ⟨its, rv, ht1, _⟩ := In1.tuple (SqT.of hpH)
      obtain ⟨x, y, ei, rx, ry⟩ := vals2 rv
      subst ei
      obtain ⟨ob, ho, hc, n, hd⟩ := id ht1
      obtain ⟨ks, rfl, dr0⟩ := id dr
      have hS := (Rl.held S _ upd_same).1
      have ra : Rep ⟨f, upd g S (.dT ks)⟩ ρ a u1 := Rep.monof lfs (Pre.refl _) _ _ r1
      have rb : Rep ⟨f, upd g S (.dT ks)⟩ ρ b u2 := Rep.monof lfs (Pre.refl _) _ _ r2
      rw [List.length_cons] at hz
      obtain ⟨o', hput, dr'⟩ := DRep.put (p := S) Rl (dr.monof (F' := ⟨f, upd g S (.dT ks)⟩) lfs (Pre.refl _)) hS (by omega) (hk _ List.mem_cons_self) ra rb
      have dr2 : DRep ⟨f, g⟩ ρ .t (kput kvs a b) o' := dr'.monof lfs (Pre.refl _)
      show wpAny _ A.in1 (holding [Value.ref p] _ >>= _) _ _ _
      refine wpAny_bind (wpAny_holding ?_)
      refine wpAny_bind (wpAny_tryCatch ?_)
      unfold Builtin.Dict.pairItems
      refine wpAny_bind (wpAny_typeOf (T := "tuple") ⟨ob, ho, hc⟩ ?_)
      rw [if_pos (by first | decide | rfl | simp)]
      refine wpAny_bind (wpAny_seqItems ho hd (wpAny_pure ?_))
      show wpAny _ A.in1 (holding [x, y] (dictSet S x y)) _ _ _
      refine wpAny_holding (d_dsetT (A := A.in1) hu In1 hS hput rx ry fun h2 tk hs2 In2 => ?_)
      refine wpAny_pure ⟨plainId_quiet ud_plain _, upd_loopT (f := f) (g := g) (ρ := ρ) (h := h) hh hu hSI hlI hSl xs ws r (kput kvs a b) o' _ (i + 1) (ix + 1) 0 _ hr (fun q hm => hk q (List.mem_cons_of_mem _ hm)) rl hv ?_ ?_ ?_ ?_ In2 (Rl.rehold dr.raw o' dr2.raw) dr2 hR⟩
      · have := kput_length kvs a b
        omega
      · exact ⟨by rw [upd_ne (Ne.symm hSI)]; exact fp.1, fp.2⟩
      · exact hit1.at fun o' e => hs2.extBut I o' (Ne.symm hSI) e
      · exact hl1.extBut hs2.extBut (Ne.symm hSl)
end
theorem call_dictT {X : Cx} (hc : X.calm = true) (hu : X.A.units + 200 < cLine) (m : Bool) : CallR X (.type "dict") (rAl X.K m (dictop .t)) := by
  intro pins s σ H xs us Q In rr ⟨F, ρ, h, d, x, E, ex, R, rd, out⟩
  subst ex
  simp only [dictop, bind_at, Res.bind_assoc] at out
  obtain ⟨p, ds, vs, rfl, hp, hz, rl, out⟩ := lstOf_at R rd out
  cases e : pairsOf ds with
  | none => simp only [e] at out; exact out.elim
  | some kvs =>
    simp only [e] at out
    split at out
    · rename_i hk
      rw [List.all_eq_true] at hk
      rw [Vals.ref1 rr]
      obtain ⟨its, rv, hl, _⟩ := In.list (SqL.of hp)
      have hl0 : s.heap.IsList p its.toArray := hl.isList
      obtain ⟨ol, n, ho, hcl, hdl, hdat⟩ := id hl
      have hh : X.A.handled = none := In.ok.hd hc
      refine callType_codes (Q₁ := fun obj s₁ => obj = .ref s.heap.objs.size ∧ s₁ = { s with heap := s.heap.push { cls := .type "dict", data := .dict #[] } }) PySem.F.kt_called_dict (PySem.F.kt_typeCall_dict_1 _) PySem.F.entry_dict_init (kt_code_dict_new _ ⟨rfl, rfl⟩) ?_
      rintro obj s₁ ⟨rfl, rfl⟩
      have hnew : (s.heap.push { cls := .type "dict", data := .dict #[] }).DictOf (mixKind X.prog X.w) s.heap.objs.size [] := Heap.DictOf.new s.heap
      have k0 : ∀ b o, s.heap.get? b = some o → (s.heap.push { cls := .type "dict", data := .dict #[] }).get? b = some o := fun b o e => Heap.get?_push_of_some _ e
      refine ⟨hnew.typeIs, PySem.F.args_dict_init_2 _ _, ?_⟩
      unfold Builtin.«dict.__init__»
      refine wpAny_bind ?_
      unfold Builtin.Dict.selfAndRest
      refine wpAny_bind (wpAny_notOrdered_dict hnew.typeIs ?_)
      show wpAny _ _ (pure (s.heap.objs.size, [Value.ref p])) _ _ _
      refine wpAny_pure ?_
      show wpAny _ _ (Builtin.Dict.updateFrom "dict.__init__" s.heap.objs.size (.ref p) [] .none) _ _ _
      unfold Builtin.Dict.updateFrom
      refine wpAny_bind (wpAny_typeOf (T := "list") ⟨ol, k0 _ _ ho, hcl⟩ ?_)
      rw [if_pos (by first | decide | rfl | simp)]
      refine wpAny_bind (miss_list (k0 _ _ ho) hcl hdat hdl hh fun h1 tk1 hk1 => ?_)
      rw [if_pos (show (none : Option Value).isNone = true from rfl)]
      refine wpAny_bind (wpAny_rule ?_)
      have hl1 : h1.IsList p its.toArray := ⟨ol, hk1 _ _ (k0 _ _ ho), hcl, n, hdat⟩
      have e1 : (s.heap.push { cls := .type "dict", data := .dict #[] }).get? s.heap.objs.size = some { cls := .type "dict", data := .dict #[] } := Heap.get?_push_size _ rfl
      have hS1 : s.heap.objs.size < h1.objs.size := Heap.lt_size (hk1 _ _ e1)
      refine wpAny_bind (wpAny_pyIter_list hl1 ?_)
      have k2 : ∀ b o, h1.get? b = some o → (h1.push { cls := .type "list_iterator", data := .fields #[.ref p, .int 0 0] }).get? b = some o := fun b o e => Heap.get?_push_of_some _ e
      have hlt : p < s.heap.objs.size := Heap.lt_size ho
      have hgn := R.gnone (In.hok.fresh (Nat.le_refl s.heap.objs.size))
      have I1 : Inv X pins σ (upd H s.heap.objs.size (.dT [])) { s with heap := h1.push { cls := .type "list_iterator", data := .fields #[.ref p, .int 0 0] }, toks := tk1 } := by
        refine In.laid (t' := tk1) (fun b o e => k2 _ _ (hk1 _ _ (k0 _ _ e))) (Nat.le_refl _) ?_
        have z := dt_empty (P := X.prog) (w := X.w) (H := H) s.heap In.big
        obtain ⟨z1, z2, zs, z3, zo, es, ep, y1, y2⟩ := z
        cases z3
        exact ⟨z1, z2, [], .nil, zo, es, ep, k2 _ _ (hk1 _ _ y1), y2⟩
      have fp : FpOk X pins (upd H s.heap.objs.size (.dT [])) h1.objs.size := by
        have hle : s.heap.objs.size ≤ h1.objs.size := Nat.le_of_lt hS1
        exact In.fpOk hle (by rw [upd_ne (Nat.ne_of_gt hS1)]; exact In.hok.fresh hle)
      have R1 := R.hold (In.hok.fresh (Nat.le_refl s.heap.objs.size)) (o := dNil .t) (dNil_rep F ρ .t).raw
      have key := upd_loopT (X := X) (A := X.A.in1) (R := wants (fun r s₂ => r = .none ∧ EP X pins σ Q (.ref s.heap.objs.size) s₂) X.xe) (S := s.heap.objs.size) (I := h1.objs.size) (l := p) (items := its.toArray) (res := Value.none) (f := F.f) (g := F.g) (ρ := ρ) (h := h) hh (show X.A.units + 1 + 1 < cLine by omega) (Nat.ne_of_lt hS1) (Nat.ne_of_lt (Nat.lt_trans hlt hS1)) (Nat.ne_of_gt hlt)
        ds vs kvs [] (dNil .t) _ 0 0 0 _ e hk rl (by simpa using rv) (by have := pairsOf_length e; simp; omega) fp ⟨_, Heap.get?_push_size _ rfl, rfl, rfl⟩ (hl1.at fun o e => k2 _ _ e) I1 R1 (dNil_rep F ρ .t) (fun o' H' s' I' R' dr' => ⟨rfl, .ref s.heap.objs.size, H', I', rfl, ?_⟩)
      · first
          | exact wpAny_pure ⟨plainId_quiet ud_plain _, key⟩
          | exact wpAny_bind (wpAny_pure (wpAny_pure ⟨plainId_quiet ud_plain _, key⟩))
      · exact Out.let R' dr'.raw hgn out (dr'.new (by have h1 := putAll_length kvs []; have h2 := pairsOf_length e; simp at h1; omega))
    · exact out.elim
section
variable {X : Cx} {W : WX} {base : Nat} {c : Cxt} (hc : ∀ f base args, Sane base (c.call f base args))
include hc
theorem s_dictT {a : Expr} {a' : Ex} {m : Bool} {p pos : Pos} (hu : X.A.units + 200 < cLine) (hcalm : X.calm = true) (hg : Gl X "dict") (hm : X.mg "dict" = none) (hn : ns a = true) (ha : PE X a (tE X.K base W (eX c base a'))) :
    PE X (.Call (.Name "dict" p) [a] [] pos) (tE X.K base W (eX c base (.new m (.dictOf .t a')))) :=
  (pe_callTy (call_dictT hcalm hu m) hg hm (by decide +kernel) (s_cons hc hn ha (s_nil hc)) (he := star_cons hn)).weak fun σ H Q q => al1 hc (fun env h => by
    simp only [evAl, bind_at]
    rfl) σ H Q q
end
end Px

set_option autoImplicit false
set_option linter.all false
set_option maxRecDepth 100000
/-! list(zip(a, b)). -/
namespace PySem
open Sem (wp)
namespace PxI
open PySem.W (kdx_alive)
theorem zl_nolen : typeLookup (.type "zip") "__len__" = pure none := by rw [typeLookup_type, builtinLookup_eq_fast]; kernel_rfl
theorem zl_nohint : typeLookup (.type "zip") "__length_hint__" = pure none := by rw [typeLookup_type, builtinLookup_eq_fast]; kernel_rfl
section
variable {prog : Program} {w : World} {A : Around} {E : Value → Shared → Prop} {s : Shared} {z TI TO T i1 i2 : Addr} {fp1 fp2 : List Addr} {n1 n2 i : Nat} {P1 P2 : Nat → Value → Prop} {St1 St2 : Nat → Heap → Prop} {f : Bool} {oT : Obj}
theorem zl_item {Q : Value → Shared → Prop} (S : ZipSep2 z TI TO i1 i2 fp1 fp2) (D1 : Draws prog w A i1 fp1 n1 P1 St1) (D2 : Draws prog w A i2 fp2 n2 P2 St2)
    (hz : IsZipHeld s.heap z TI TO T f) (hT : s.heap.get? T = some oT) (hTI : IsTupOf2 s.heap TI (.ref i1) (.ref i2)) (st1 : St1 i s.heap) (st2 : St2 i s.heap) (hlt1 : i < n1) (hlt2 : i < n2)
    (hQ : ∀ x1 x2 h' tk, P1 i x1 → P2 i x2 → IsZipHeld h' z TI TO T true → St1 (i + 1) h' → St2 (i + 1) h' → IsTupOf2 h' s.heap.objs.size x1 x2 → h'.objs.size = s.heap.objs.size + 1 →
      (∀ c o, c ≠ z → c ≠ i1 → c ≠ i2 → s.heap.get? c = some o → h'.get? c = some o) → Q (.ref s.heap.objs.size) { s with heap := h', toks := tk }) :
    wpAny (model prog w) A (Builtin.«zip.__next__» ⟨[.ref z], []⟩) (fun fin s' => ∃ v, fin = .done (.ret v) ∧ Q v s') E s := by
  obtain ⟨hp, g, d, tk0, os⟩ := s
  show wpAny _ _ (field (.ref z) 2 >>= _) _ _ _
  refine wpAny_bind (wpAny_field hz rfl (x := .bool false) rfl ?_)
  show wpAny _ _ (field (.ref z) 3 >>= _) _ _ _
  refine wpAny_bind (wpAny_field hz rfl (x := .ref TI) rfl ?_)
  refine wpAny_bind (wpAny_seqItems hTI rfl ?_)
  show wpAny _ _ (Builtin.SmallTypes.ownedTupleIsFree (.ref z) >>= _) _ _ _
  refine wpAny_bind (wpAny_tupleHeld_zip hz hT fun h₁ hz₁ hs₁ => ?_)
  replace hs₁ : Heap.SameBut z hp h₁ := hs₁
  simp only [Bool.false_eq_true, if_false]
  refine wpAny_bind ?_
  rw [← Array.forIn_toList]
  simp only [List.forIn_cons, List.forIn_nil]
  refine wpAny_bind (wpAny_bind (wpAny_holding ?_))
  show wpAny _ _ (Builtin.SmallTypes.nextOf (.ref i1) >>= _) _ _ _
  refine wpAny_bind (D1.item i _ _ _ hlt1 (D1.over st1 hs₁ S.zf1) fun x1 p1 tk1 hx1 sn1 hp1 => wpAny_pure ?_)
  replace hp1 : Heap.SameBut i1 h₁ p1 := hp1
  refine wpAny_pure ?_
  refine wpAny_bind (wpAny_bind (wpAny_holding ?_))
  show wpAny _ _ (Builtin.SmallTypes.nextOf (.ref i2) >>= _) _ _ ⟨p1, g, d, tk1, os⟩
  refine wpAny_bind (D2.item i _ _ _ hlt2 (D2.over (D2.over st2 hs₁ S.zf2) hp1 S.sep1_2) fun x2 p2 tk2 hx2 sn2 hp2 => wpAny_pure ?_)
  replace hp2 : Heap.SameBut i2 p1 p2 := hp2
  refine wpAny_pure (wpAny_pure ?_)
  show wpAny _ _ (newTuple [x1, x2] >>= _) _ _ _
  refine wpAny_bind (wpAny_newTuple ?_)
  have hsz : p2.objs.size = hp.objs.size := by rw [hp2.1, hp1.1, hs₁.1]
  have hz₃ : IsZipHeld p2 z TI TO T true := hp2.extBut _ _ S.zi2 (hp1.extBut _ _ S.zi1 hz₁)
  have hk : ∀ c o, c ≠ z → c ≠ i1 → c ≠ i2 → hp.get? c = some o → p2.get? c = some o := fun c o c1 c2 c3 e => hp2.extBut _ _ c3 (hp1.extBut _ _ c2 (hs₁.extBut _ _ c1 e))
  have j1 : St1 (i + 1) p2 := D1.over sn1 hp2 S.sep2_1
  refine wpAny_pure ⟨_, rfl, ?_⟩
  have hp3 : IsTupOf2 (p2.push { cls := .type "tuple", data := .seq #[x1, x2] }) p2.objs.size x1 x2 := Heap.get?_push_size _ rfl
  have hz4 : (p2.push { cls := .type "tuple", data := .seq #[x1, x2] }).objs.size = p2.objs.size + 1 := Heap.size_push ..
  show Q (.ref p2.objs.size) ⟨p2.push { cls := .type "tuple", data := .seq #[x1, x2] }, g, d, tk2, os⟩
  rw [hsz] at hp3 hz4 ⊢
  exact hQ x1 x2 _ tk2 hx1 hx2 (Heap.get?_push_of_some _ hz₃) (D1.frame _ _ _ j1 fun b _ o e => Heap.get?_push_of_some _ e) (D2.frame _ _ _ sn2 fun b _ o e => Heap.get?_push_of_some _ e) hp3 hz4 fun c o c1 c2 c3 e => Heap.get?_push_of_some _ (hk c o c1 c2 c3 e)
theorem zl_end {Q : Fin → Shared → Prop} (S : ZipSep2 z TI TO i1 i2 fp1 fp2) (D1 : Draws prog w A i1 fp1 n1 P1 St1) (D2 : Draws prog w A i2 fp2 n2 P2 St2)
    (hz : IsZipHeld s.heap z TI TO T f) (hT : s.heap.get? T = some oT) (hTI : IsTupOf2 s.heap TI (.ref i1) (.ref i2)) (st1 : St1 i s.heap) (st2 : St2 i s.heap) (hle1 : i ≤ n1) (hle2 : i ≤ n2) (hend : i = n1 ∨ i = n2)
    (hE : ∀ h' tk e, (∀ c o, c ≠ z → c ≠ i1 → c ≠ i2 → s.heap.get? c = some o → h'.get? c = some o) → (∃ o, h'.get? e = some o ∧ o.cls = .type "StopIteration") → E (.ref e) { s with heap := h', toks := tk }) :
    wpAny (model prog w) A (Builtin.«zip.__next__» ⟨[.ref z], []⟩) Q E s := by
  obtain ⟨hp, g, d, tk0, os⟩ := s
  show wpAny _ _ (field (.ref z) 2 >>= _) _ _ _
  refine wpAny_bind (wpAny_field hz rfl (x := .bool false) rfl ?_)
  show wpAny _ _ (field (.ref z) 3 >>= _) _ _ _
  refine wpAny_bind (wpAny_field hz rfl (x := .ref TI) rfl ?_)
  refine wpAny_bind (wpAny_seqItems hTI rfl ?_)
  show wpAny _ _ (Builtin.SmallTypes.ownedTupleIsFree (.ref z) >>= _) _ _ _
  refine wpAny_bind (wpAny_tupleHeld_zip hz hT fun h₁ hz₁ hs₁ => ?_)
  replace hs₁ : Heap.SameBut z hp h₁ := hs₁
  simp only [Bool.false_eq_true, if_false]
  refine wpAny_bind ?_
  rw [← Array.forIn_toList]
  simp only [List.forIn_cons, List.forIn_nil]
  refine wpAny_bind (wpAny_bind (wpAny_holding ?_))
  show wpAny _ _ (Builtin.SmallTypes.nextOf (.ref i1) >>= _) _ _ _
  by_cases hlt1 : i < n1
  · refine wpAny_bind (D1.item i _ _ _ hlt1 (D1.over st1 hs₁ S.zf1) fun x1 p1 tk1 hx1 sn1 hp1 => wpAny_pure ?_)
    replace hp1 : Heap.SameBut i1 h₁ p1 := hp1
    refine wpAny_pure ?_
    refine wpAny_bind (wpAny_bind (wpAny_holding ?_))
    have hi2 : i = n2 := by omega
    show wpAny _ _ (Builtin.SmallTypes.nextOf (.ref i2) >>= _) _ _ ⟨p1, g, d, tk1, os⟩
    refine wpAny_bind (D2.done ⟨p1, g, d, tk1, os⟩ _ _ (by rw [← hi2]; exact D2.over (D2.over st2 hs₁ S.zf2) hp1 S.sep1_2) fun q e hq he => ?_)
    exact hE q tk1 e (fun c o c1 c2 c3 x => hq _ _ c3 (hp1.extBut _ _ c2 (hs₁.extBut _ _ c1 x))) he
  · have hi1 : i = n1 := by omega
    refine wpAny_bind (D1.done ⟨h₁, g, d, tk0, os⟩ _ _ (by rw [← hi1]; exact D1.over st1 hs₁ S.zf1) fun q e hq he => ?_)
    exact hE q tk0 e (fun c o c1 c2 c3 x => hq _ _ c2 (hs₁.extBut _ _ c1 x)) he
/-- the zip's cells, its tuple free or still out -/
def ZSt (h : Heap) (z TI TO i1 i2 : Addr) : Prop :=
  IsTupOf2 h TI (.ref i1) (.ref i2) ∧ ((IsZip h z TI TO .none ∧ ∃ x y, IsTupOf2 h TO x y) ∨ ∃ T f oT, IsZipHeld h z TI TO T f ∧ h.get? T = some oT ∧ T ≠ z ∧ T ≠ TO ∧ T ≠ i1 ∧ T ≠ i2)
theorem ZSt.isType {z TI TO i1 i2 : Addr} {s : Shared} (x : ZSt s.heap z TI TO i1 i2) : s.TypeIs (.ref z) "zip" := by
  obtain ⟨_, ⟨h, _⟩ | ⟨_, _, _, h, _⟩⟩ := x
  · exact ⟨_, h, rfl⟩
  · exact ⟨_, h, rfl⟩
theorem ZSt.lt {z TI TO i1 i2 : Addr} {h : Heap} (x : ZSt h z TI TO i1 i2) : z < h.objs.size := by
  obtain ⟨_, ⟨h, _⟩ | ⟨_, _, _, h, _⟩⟩ := x <;> exact Heap.lt_size h
theorem ZSt.pyIter {z TI TO i1 i2 : Addr} {Q : Value → Shared → Prop} (x : ZSt s.heap z TI TO i1 i2) (h : Q (.ref z) s) : wpAny (model prog w) A (PySem.pyIter (.ref z)) Q E s := by
  have hT := x.isType
  refine wpAny_pyIter_slot hT F.slot_zip_iter (wpAny_call_entry F.slot_zip_iter hT F.entry_zip_iter ?_ (F.args_zip_iter_1 _))
  show wpAny _ _ (ret (.ref z)) _ _ s
  exact wpAny_pure ⟨_, rfl, "zip", _, hT, F.slot_zip_next.lookup, h⟩
theorem zs_item {Q : Option Value → Shared → Prop} (S : ZipSep2 z TI TO i1 i2 fp1 fp2) (D1 : Draws prog w A.in1 i1 fp1 n1 P1 St1) (D2 : Draws prog w A.in1 i2 fp2 n2 P2 St2)
    (hz : ZSt s.heap z TI TO i1 i2) (hTO : TO < s.heap.objs.size) (hi1 : i1 < s.heap.objs.size) (hi2 : i2 < s.heap.objs.size) (st1 : St1 i s.heap) (st2 : St2 i s.heap) (hlt1 : i < n1) (hlt2 : i < n2)
    (hQ : ∀ x1 x2 h' tk, P1 i x1 → P2 i x2 → ZSt h' z TI TO i1 i2 → St1 (i + 1) h' → St2 (i + 1) h' → IsTupOf2 h' s.heap.objs.size x1 x2 → h'.objs.size = s.heap.objs.size + 1 →
      (∀ c o, c ≠ z → c ≠ TO → c ≠ i1 → c ≠ i2 → s.heap.get? c = some o → h'.get? c = some o) → Q (some (.ref s.heap.objs.size)) { s with heap := h', toks := tk }) :
    wpAny (model prog w) A (pyNext (.ref z)) Q E s := by
  have hTy := hz.isType
  have hzl := hz.lt
  obtain ⟨hTI, ⟨hz, x, y, hTOx⟩ | ⟨T, f, oT, hz, hT, t1, t2, t3, t4⟩⟩ := hz
  · refine wpAny_pyNext_zipD2_item S D1 D2 hz hTI hTOx st1 st2 hlt1 hlt2 fun x1 x2 h' tk p1 p2 z' to' s1 s2 t' sz k => hQ x1 x2 h' tk p1 p2 ⟨k _ _ S.TIz S.TITO S.TIi1 S.TIi2 hTI, .inr ⟨_, false, _, z', t', Nat.ne_of_gt hzl, Nat.ne_of_gt hTO, Nat.ne_of_gt hi1, Nat.ne_of_gt hi2⟩⟩ s1 s2 t' sz k
  · unfold pyNext
    exact wpAny_bind (wpAny_attempt (wpAny_callSpecial?_slot (name := Str.ofString "__next__") hTy F.slot_zip_next
      (wpAny_call_entry F.slot_zip_next hTy F.entry_zip_next
        (zl_item S D1 D2 hz hT hTI st1 st2 hlt1 hlt2 fun x1 x2 h' tk p1 p2 z' s1 s2 t' sz k => wpAny_pure (hQ x1 x2 h' tk p1 p2 ⟨k _ _ S.TIz S.TIi1 S.TIi2 hTI, .inr ⟨T, true, oT, z', k _ _ t1 t3 t4 hT, t1, t2, t3, t4⟩⟩ s1 s2 t' sz fun c o c1 _ c3 c4 e => k c o c1 c3 c4 e)) (F.args_zip_next_1 _))))
theorem zs_end {Q : Option Value → Shared → Prop} (S : ZipSep2 z TI TO i1 i2 fp1 fp2) (D1 : Draws prog w A.in1 i1 fp1 n1 P1 St1) (D2 : Draws prog w A.in1 i2 fp2 n2 P2 St2)
    (hz : ZSt s.heap z TI TO i1 i2) (st1 : St1 i s.heap) (st2 : St2 i s.heap) (hle1 : i ≤ n1) (hle2 : i ≤ n2) (hend : i = n1 ∨ i = n2)
    (hQ : ∀ h' tk, (∀ c o, c ≠ z → c ≠ TO → c ≠ i1 → c ≠ i2 → s.heap.get? c = some o → h'.get? c = some o) → Q none { s with heap := h', toks := tk }) : wpAny (model prog w) A (pyNext (.ref z)) Q E s := by
  have hTy := hz.isType
  obtain ⟨hTI, ⟨hz, x, y, hTOx⟩ | ⟨T, f, oT, hz, hT, t1, t2, t3, t4⟩⟩ := hz
  · exact wpAny_pyNext_zipD2_end S D1 D2 hz hTI hTOx st1 st2 hle1 hle2 hend hQ
  · unfold pyNext
    refine wpAny_bind (wpAny_attempt (wpAny_callSpecial?_slot (name := Str.ofString "__next__") hTy F.slot_zip_next
      (wpAny_call_entry F.slot_zip_next hTy F.entry_zip_next (zl_end S D1 D2 hz hT hTI st1 st2 hle1 hle2 hend fun h' tk e hk he => ?_) (F.args_zip_next_1 _))))
    obtain ⟨o, ho, hc⟩ := he
    refine wpAny_bind (wpAny_isInstance (T := "StopIteration") (b := true) ⟨o, ho, hc⟩ isSubtype_stop ?_)
    exact wpAny_pure (hQ _ _ fun c o c1 _ c3 c4 e => hk c o c1 c3 c4 e)
end
end PxI
end PySem

set_option autoImplicit false
set_option linter.all false
set_option maxRecDepth 100000
/-! list(zip(a, b)): the loop, the rule. -/
namespace Px
open PySem L2 PySem.Spec PyProof.Rows PySem.PxI
theorem zipD_take : ∀ (as bs : List D) (i : Nat) (p q : D), as[i]? = some p → bs[i]? = some q → (zipD as bs).take (i + 1) = (zipD as bs).take i ++ [.tup [p, q]]
  | [], _, i, p, q, e, _ => by simp at e
  | _ :: _, [], i, p, q, _, e => by simp at e
  | a :: as, b :: bs, 0, p, q, e1, e2 => by
    simp at e1 e2
    subst e1 e2
    simp [zipD]
  | a :: as, b :: bs, i + 1, p, q, e1, e2 => by
    have := zipD_take as bs i p q (by simpa using e1) (by simpa using e2)
    simp only [zipD, List.take_succ_cons, List.cons_append, this]
abbrev oL (acc : Array Value) (c : Nat) : Obj := { cls := .type "list", dict := none, data := .seq acc c, slots := #[] }
section
variable {X : Cx} {pins : List (Addr × Obj)} {σ : L2.St} {A : Around}
theorem ext_loopZ {R : Result → Shared → Prop} {z TI TO i1 i2 a b S : Addr} {k1 k2 : Bool} {its its2 : Array Value} {res : Value} {F0 : FF} {ρ : List Addr} {h : Hh} {ds es : List D} {us us2 : List V} (hh : A.handled = none) (Sep : ZipSep2 z TI TO i1 i2 [i1, a] [i2, b]) (ai : a ≠ i1) (bi : b ≠ i2)
    (hSf : S ∉ [z, TI, TO, i1, i2, a, b]) (rv : Vals us its.toList) (rv2 : Vals us2 its2.toList) (rl : RepL F0 ρ ds us) (rl2 : RepL F0 ρ es us2) (hz : ds.length ≤ big) :
    ∀ (k i : Nat) (H : Hp) (F : FF) (s : Shared) (acc : Array Value) (c : Nat) (vs : List V), min its.size its2.size - i = k → i ≤ min its.size its2.size → Inv X pins σ H s → Rel X.K F ρ H h → Le F0 F → (∀ b ∈ [S, z, TI, TO, i1, i2], FpOk X pins H b) →
      (∀ b ∈ [S, z, TI, TO, i1, i2], b < s.heap.objs.size) → ZSt s.heap z TI TO i1 i2 → ItP k1 s.heap i1 a i ∧ SeqP k1 s.heap a its → ItP k2 s.heap i2 b i ∧ SeqP k2 s.heap b its2 → s.heap.get? S = some (oL acc c) → Vals vs acc.toList → acc.size = i → RepL F ρ ((zipD ds es).take i) vs →
      (∀ F' H' s' acc' c' vs', Inv X pins σ H' s' → Rel X.K F' ρ H' h → Le F0 F' → FpOk X pins H' S → s'.heap.get? S = some (oL acc' c') → Vals vs' acc'.toList → acc'.size ≤ sizeLine → RepL F' ρ (zipD ds es) vs' → R (.ok (.ret res)) s') →
      codeAny (model X.prog X.w) A (.builtin "list.extend.loop" ⟨[.ref S, .ref z, res], []⟩) R s := by
  have q1 := rl.length
  have q2 := rl2.length
  have w1 := rv.length
  have w2 := rv2.length
  have n1 : its.size = ds.length := by rw [← Array.length_toList]; omega
  have n2 : its2.size = es.length := by rw [← Array.length_toList]; omega
  have D1 := draws_seq (prog := X.prog) (w := X.w) (A := A.in1.in1) k1 hh i1 a ai its
  have D2 := draws_seq (prog := X.prog) (w := X.w) (A := A.in1.in1) k2 hh i2 b bi its2
  simp only [List.mem_cons, List.not_mem_nil, or_false, not_or] at hSf
  obtain ⟨Sz, STI, STO, S1, S2, Sa, Sb⟩ := hSf
  have hbig : big ≤ sizeLine := by first | decide | size_fits
  intro k
  induction k with
  | zero =>
    intro i H F s acc c vs hk hi In Rl lF fp hlt zs st1 st2 hS hv hacc rvs fin
    refine codeAny_builtin PySem.F.entry_extend_loop ?_
    rw [Around.under_plainId PySem.F.plain_extend_loop _]
    show wpAny _ A.in1 (pyNext (.ref z) >>= _) _ _ s
    refine wpAny_bind (zs_end Sep D1 D2 zs st1 st2 (by omega) (by omega) (by omega) fun h' tk hk' => ?_)
    refine wpAny_pure (fin F H _ acc c vs (In.turnedL (t' := tk) (ch := [S, z, TI, TO, i1, i2]) (fun c o hc e => ?_) fp) Rl lF (fp S (by simp)) ?_ hv (by rw [hacc]; omega) ?_)
    · simp only [List.mem_cons, List.not_mem_nil, or_false, not_or] at hc
      exact hk' c o hc.2.1 hc.2.2.2.1 hc.2.2.2.2.1 hc.2.2.2.2.2 e
    · exact hk' S _ Sz STO S1 S2 hS
    · rw [List.take_of_length_le (by rw [zipD_len]; omega)] at rvs
      exact rvs
  | succ k ih =>
    intro i H F s acc c vs hk hi In Rl lF fp hlt zs st1 st2 hS hv hacc rvs fin
    have hlt1 : i < its.size := by omega
    have hlt2 : i < its2.size := by omega
    refine codeAny_builtin PySem.F.entry_extend_loop ?_
    rw [Around.under_plainId PySem.F.plain_extend_loop _]
    show wpAny _ A.in1 (pyNext (.ref z) >>= _) _ _ s
    refine wpAny_bind (zs_item Sep D1 D2 zs (hlt TO (by simp)) (hlt i1 (by simp)) (hlt i2 (by simp)) st1 st2 hlt1 hlt2 fun x1 x2 h1 tk p1 p2 zs1 sn1 sn2 hT sz kp => ?_)
    -- the pair
    have hd : ds[i]? = some (ds[i]'(by omega)) := List.getElem?_eq_getElem _
    have he : es[i]? = some (es[i]'(by omega)) := List.getElem?_eq_getElem _
    obtain ⟨v1, ev1, r1⟩ := rl.get hd
    obtain ⟨v2, ev2, r2⟩ := rl2.get he
    obtain ⟨y1, ey1, ry1⟩ := rv.get ev1
    obtain ⟨y2, ey2, ry2⟩ := rv2.get ev2
    have e1 : y1 = x1 := by
      have p1 : its[i]? = some x1 := p1
      rw [Array.getElem?_toList] at ey1
      rw [p1] at ey1
      exact (Option.some.inj ey1).symm
    have e2 : y2 = x2 := by
      have p2 : its2[i]? = some x2 := p2
      rw [Array.getElem?_toList] at ey2
      rw [p2] at ey2
      exact (Option.some.inj ey2).symm
    subst e1 e2
    have hSl := hlt S (by simp)
    have hS1 : h1.get? S = some (oL acc c) := kp S _ Sz STO S1 S2 hS
    have I1 : Inv X pins σ (upd H s.heap.objs.size (.tup [v1, v2])) { s with heap := h1, toks := tk } := by
      refine In.turnedNew (t' := tk) (ch := [S, z, TI, TO, i1, i2]) (fun c o hc e => ?_) fp (Nat.le_refl _) ⟨by show 2 ≤ sizeLine; decide, [y1, y2], .cons ry1 (.cons ry2 .nil), ⟨_, hT, rfl, _, rfl⟩⟩
      simp only [List.mem_cons, List.not_mem_nil, or_false, not_or] at hc
      exact kp c o hc.2.1 hc.2.2.2.1 hc.2.2.2.2.1 hc.2.2.2.2.2 e
    have hnew := In.hok.fresh (Nat.le_refl s.heap.objs.size)
    obtain ⟨R1, l1⟩ := Rl.froze (o := .tup [v1, v2]) hnew
    have fp1 : ∀ b ∈ [S, z, TI, TO, i1, i2], FpOk X pins (upd H s.heap.objs.size (.tup [v1, v2])) b := fun b hb => ⟨by rw [upd_ne (Nat.ne_of_lt (hlt b hb))]; exact (fp b hb).1, (fp b hb).2⟩
    show wpAny _ A.in1 (updateSeq S (·.push (.ref s.heap.objs.size)) >>= _) _ _ _
    refine wpAny_bind ?_
    refine wpAny_updateSeq hS1 rfl (wpAny_pure ⟨plainId_quiet PySem.F.plain_extend_loop _, ?_⟩) (by show acc.size ≤ _; rw [hacc]; omega) (by show (acc.push (.ref s.heap.objs.size)).size ≤ sizeLine + 1; rw [Array.size_push, hacc]; omega)
    have oth : ∀ b o, b ≠ S → h1.get? b = some o → (h1.update S (Obj.mapSeq (·.push (.ref s.heap.objs.size)))).get? b = some o := fun b o hb e => (Heap.get?_update_other _ _ (Ne.symm hb)).trans e
    have hsz2 : (h1.update S (Obj.mapSeq (·.push (Value.ref s.heap.objs.size)))).objs.size = s.heap.objs.size + 1 := by rw [(Heap.SameBut.update (h := h1) (a := S) ..).1, sz]
    refine ih (i + 1) _ (F.up s.heap.objs.size (.tup [v1, v2])) _ (acc.push (.ref s.heap.objs.size)) _ (vs ++ [.ref s.heap.objs.size]) (by omega) (by omega) ?_ R1 (lF.trans l1) fp1 ?_ ?_ ?_ ?_ (Heap.get?_update_self _ hS1 rfl) ?_ (by rw [Array.size_push, hacc]) ?_ fin
    · exact I1.turnedL (t' := tk) (ch := [S]) (fun c o hc e => oth c o (fun z => hc (by simp [z])) e) (fun b hb => by rw [List.mem_singleton.mp hb]; exact fp1 S (by simp))
    · intro b hb
      show b < (h1.update S _).objs.size
      rw [hsz2]
      exact Nat.lt_succ_of_lt (hlt b hb)
    · obtain ⟨t1, ⟨t2, x, y, t3⟩ | ⟨T, f, oT, t2, t3, t4, t5, t6, t7⟩⟩ := zs1
      · exact ⟨oth _ _ (Ne.symm STI) t1, .inl ⟨oth _ _ (Ne.symm Sz) t2, x, y, oth _ _ (Ne.symm STO) t3⟩⟩
      · by_cases hTS : T = S
        · subst hTS
          exact ⟨oth _ _ (Ne.symm STI) t1, .inr ⟨T, f, _, oth _ _ (Ne.symm Sz) t2, Heap.get?_update_self _ hS1 rfl, t4, t5, t6, t7⟩⟩
        · exact ⟨oth _ _ (Ne.symm STI) t1, .inr ⟨T, f, oT, oth _ _ (Ne.symm Sz) t2, oth _ _ hTS t3, t4, t5, t6, t7⟩⟩
    · exact D1.frame _ _ _ sn1 fun b hb o e => oth b o (fun z => (show b = i1 ∨ b = a by simpa using hb).elim (fun q => S1 (z ▸ q)) fun q => Sa (z ▸ q)) e
    · exact D2.frame _ _ _ sn2 fun d hd' o e => oth d o (fun z => (show d = i2 ∨ d = b by simpa using hd').elim (fun q => S2 (z ▸ q)) fun q => Sb (z ▸ q)) e
    · rw [Array.toList_push]
      exact hv.append (.cons rfl .nil)
    · rw [zipD_take ds es i _ _ hd he]
      exact (RepL.mono l1 (Pre.refl _) _ _ rvs).append (RepL.one ⟨_, [v1, v2], rfl, upd_same, by show (2 : Nat) ≤ big; decide, _, _, rfl, Rep.mono (lF.trans l1) (Pre.refl _) _ _ r1, _, _, rfl, Rep.mono (lF.trans l1) (Pre.refl _) _ _ r2, rfl⟩)
end
end Px

set_option autoImplicit false
set_option linter.all false
set_option maxRecDepth 100000
/-! list(zip(a, b)): the rule. -/
namespace Px
open PySem L2 PySem.Spec PyProof.Rows PySem.PxI
theorem SeqP_at {k : Bool} {h h' : Heap} {a : Addr} {items : Array Value} (x : SeqP k h a items) (e : ∀ o, h.get? a = some o → h'.get? a = some o) : SeqP k h' a items := by
  cases k with
  | false => exact Heap.IsList.at x e
  | true => exact Heap.IsTuple.at x e
section
variable {X : Cx} {pins : List (Addr × Obj)} {σ : L2.St} {A : Around}
/-- list(z), z a new zip -/
theorem call_listZ {E : Value → Shared → Prop} {z TI TO i1 i2 a b : Addr} {k1 k2 : Bool} {its its2 : Array Value} {F0 : FF} {ρ : List Addr} {h : Hh} {H : Hp} {s : Shared} {ds es : List D} {us us2 : List V} {Q : Value → Shared → Prop} (hh : A.handled = none) (Sep : ZipSep2 z TI TO i1 i2 [i1, a] [i2, b]) (ai : a ≠ i1) (bi : b ≠ i2)
    (rv : Vals us its.toList) (rv2 : Vals us2 its2.toList) (rl : RepL F0 ρ ds us) (rl2 : RepL F0 ρ es us2) (hz : ds.length ≤ big) (In : Inv X pins σ H s) (Rl : Rel X.K F0 ρ H h) (fp : ∀ b ∈ [z, TI, TO, i1, i2], FpOk X pins H b) (hlt : ∀ b ∈ [z, TI, TO, i1, i2], b < s.heap.objs.size) (zs : ZSt s.heap z TI TO i1 i2)
    (st1 : ItP k1 s.heap i1 a 0 ∧ SeqP k1 s.heap a its) (st2 : ItP k2 s.heap i2 b 0 ∧ SeqP k2 s.heap b its2)
    (fin : ∀ p F' H' s' vs', Inv X pins σ (upd H' p (.lst vs')) s' → Rel X.K F' ρ H' h → Le F0 F' → H' p = none → RepL F' ρ (zipD ds es) vs' → Q (.ref p) s') :
    wpAny (model X.prog X.w) A (call (.type "list") [.ref z]) Q E s := by
  have al := st1.2.lt
  have bl := st2.2.lt
  have lz := hlt z (by simp)
  have lTI := hlt TI (by simp)
  have lTO := hlt TO (by simp)
  have l1 := hlt i1 (by simp)
  have l2 := hlt i2 (by simp)
  refine callType_codes (Q₁ := fun obj s₁ => obj = .ref s.heap.objs.size ∧ s₁ = { s with heap := s.heap.push { cls := .type "list", data := .seq #[] } }) PySem.F.called_list (PySem.F.typeCall_list_1 _) PySem.F.entry_list_init
    (code_list_new _ ⟨rfl, rfl⟩) fun obj s₁ h₁ => ?_
  obtain ⟨rfl, rfl⟩ := h₁
  have hS : (s.heap.push { cls := .type "list", data := .seq #[] }).get? s.heap.objs.size = some { cls := .type "list", data := .seq #[] } := Heap.get?_push_size _ rfl
  refine ⟨⟨_, hS, rfl⟩, PySem.F.args_list_init_2 _ _, ?_⟩
  show wpAny _ _ (do let old ← Builtin.List.listItems (.ref s.heap.objs.size); Builtin.List.listUpdate (.ref s.heap.objs.size) (fun _ => #[]); letGo old.toList.reverse; Builtin.List.listExtendWith (.ref s.heap.objs.size) (.ref z) .none) _ _ _
  refine wpAny_bind ?_
  unfold Builtin.List.listItems
  refine wpAny_bind (wpAny_seqItems hS rfl (wpAny_pure ?_))
  show wpAny _ _ (updateSeq s.heap.objs.size (fun _ => #[]) >>= fun _ => letGo (#[] : Array Value).toList.reverse >>= fun _ => Builtin.List.listExtendWith (.ref s.heap.objs.size) (.ref z) .none) _ _ _
  refine wpAny_bind (wpAny_updateSeq hS rfl ?_)
  have hS₂ := Heap.get?_update_self (Obj.mapSeq (fun _ => (#[] : Array Value))) hS rfl
  refine wpAny_bind (wpAny_letGo ?_)
  have k0 : ∀ b o, s.heap.get? b = some o → ((s.heap.push { cls := .type "list", data := .seq #[] }).update s.heap.objs.size (Obj.mapSeq (fun _ => (#[] : Array Value)))).get? b = some o := fun b o e =>
    (Heap.get?_update_other _ _ (Nat.ne_of_gt (Heap.lt_size e))).trans (Heap.get?_push_of_some _ e)
  have zk : ∀ {hp : Heap}, (∀ b o, s.heap.get? b = some o → hp.get? b = some o) → ZSt hp z TI TO i1 i2 := fun k => by
    obtain ⟨t1, ⟨t2, x, y, t3⟩ | ⟨T, f, oT, t2, t3, t4⟩⟩ := zs
    · exact ⟨k _ _ t1, .inl ⟨k _ _ t2, x, y, k _ _ t3⟩⟩
    · exact ⟨k _ _ t1, .inr ⟨T, f, oT, k _ _ t2, k _ _ t3, t4⟩⟩
  generalize hg : (s.heap.push { cls := .type "list", data := .seq #[] }).update s.heap.objs.size (Obj.mapSeq (fun _ => (#[] : Array Value))) = g at hS₂ k0
  have zs1 := zk k0
  unfold Builtin.List.listExtendWith
  refine wpAny_bind (wpAny_typeOf (ZSt.isType (s := { s with heap := g }) zs1) ?_)
  have h1 : Builtin.List.listSameRef (.ref s.heap.objs.size) (.ref z) = false := by simp [Builtin.List.listSameRef, Nat.ne_of_gt lz]
  have h2 : (Value.type "zip" == Value.type "list") = false := by decide
  have h3 : (Value.type "zip" == Value.type "tuple") = false := by decide
  simp only [h1, h2, h3, Bool.or_false, Bool.false_eq_true, if_false]
  refine wpAny_bind (ZSt.pyIter (s := { s with heap := g }) zs1 ?_)
  refine wpAny_bind (wpAny_holding ?_)
  unfold Builtin.List.listLengthHint
  refine wpAny_bind (wpAny_specialOf (ZSt.isType (s := { s with heap := g }) zs1) zl_nolen ?_)
  show wpAny _ _ (specialOf (Value.ref z) (Str.ofString "__length_hint__") >>= _) _ _ _
  refine wpAny_bind (wpAny_specialOf (ZSt.isType (s := { s with heap := g }) zs1) zl_nohint ?_)
  refine wpAny_pure ?_
  show wpAny _ _ (rule "list.extend.makes-room" >>= fun _ => Builtin.List.listTouch (.ref s.heap.objs.size) >>= fun _ =>
    again (.builtin "list.extend.loop" ⟨[.ref s.heap.objs.size, .ref z, .none], []⟩)) _ _ _
  refine wpAny_bind (wpAny_rule ?_)
  refine wpAny_bind ?_
  show wpAny _ _ (updateSeq s.heap.objs.size (·.push .none) >>= fun _ => updateSeq s.heap.objs.size (·.pop)) _ _ _
  refine wpAny_bind (wpAny_updateSeq hS₂ rfl ?_)
  have hS3 := Heap.get?_update_self (Obj.mapSeq (·.push Value.none)) hS₂ rfl
  refine wpAny_updateSeq (hz := by seq_fits) hS3 rfl ?_
  have hS4 := Heap.get?_update_self (Obj.mapSeq (·.pop)) hS3 rfl
  have k1 : ∀ b o, s.heap.get? b = some o → ((g.update s.heap.objs.size (Obj.mapSeq (·.push Value.none))).update s.heap.objs.size (Obj.mapSeq (·.pop))).get? b = some o := fun b o e =>
    (Heap.get?_update_other _ _ (Nat.ne_of_gt (Heap.lt_size e))).trans ((Heap.get?_update_other _ _ (Nat.ne_of_gt (Heap.lt_size e))).trans (k0 b o e))
  have hSz := Heap.lt_size hS4
  generalize hg2 : (g.update s.heap.objs.size (Obj.mapSeq (·.push Value.none))).update s.heap.objs.size (Obj.mapSeq (·.pop)) = g2 at hS4 k1 hSz
  have f0 : FpOk X pins H s.heap.objs.size := In.fpOk (Nat.le_refl _) (In.hok.fresh (Nat.le_refl _))
  obtain ⟨c4, hS5⟩ : ∃ c4, g2.get? s.heap.objs.size = some (oL #[] c4) := ⟨_, hS4⟩
  have key := ext_loopZ (X := X) (A := A.in1) (R := wants (fun r s₂ => r = .none ∧ Q (.ref s.heap.objs.size) s₂) E) (res := Value.none) (S := s.heap.objs.size) (h := h) hh Sep ai bi (by
      simp only [List.mem_cons, List.not_mem_nil, or_false, not_or]
      exact ⟨Nat.ne_of_gt lz, Nat.ne_of_gt lTI, Nat.ne_of_gt lTO, Nat.ne_of_gt l1, Nat.ne_of_gt l2, Nat.ne_of_gt al, Nat.ne_of_gt bl⟩) rv rv2 rl rl2 hz _ 0 H F0 { s with heap := g2 } #[] c4 [] rfl (Nat.zero_le _) (In.kept (t' := s.toks) k1) Rl (Le.refl _)
    (fun d hd => by
      rcases List.mem_cons.mp hd with q | q
      · rw [q]; exact f0
      · exact fp d q) (fun d hd => by
      rcases List.mem_cons.mp hd with q | q
      · rw [q]; exact hSz
      · exact Nat.lt_trans (hlt d q) hSz) (zk k1) ⟨st1.1.at fun o e => k1 _ o e, SeqP_at st1.2 fun o e => k1 _ o e⟩ ⟨st2.1.at fun o e => k1 _ o e, SeqP_at st2.2 fun o e => k1 _ o e⟩ hS5 .nil rfl rfl (fun F' H' s' acc' c' vs' I' R' l' fS hS' hv hsz rp => ⟨rfl, by
      have hvl : vs'.length ≤ sizeLine := by rw [hv.length, Array.length_toList]; exact hsz
      exact fin _ F' H' s' vs' (I'.take (t' := s'.toks) (fun _ _ _ e => e) fS ⟨hvl, acc'.toList, c', hv, hS'⟩) R' l' fS.1 rp⟩)
  exact wpAny_pure ⟨plainId_quiet PySem.F.plain_extend_loop _, key⟩
end
section
variable {X : Cx} {W : WX} {base : Nat} {c : Cxt} (hc : ∀ f base args, Sane base (c.call f base args))
include hc
theorem s_listZip {a b : Expr} {a' b' : Ex} {m : Bool} {p p2 pos pos2 : Pos} (hu : X.A.units + 200 < cLine) (hcalm : X.calm = true) (hg : Gl X "list") (hm : X.mg "list" = none) (hg2 : Gl X "zip") (hm2 : X.mg "zip" = none) (hn : ns a = true) (hn2 : ns b = true)
    (ha : PE X a (tE X.K base W (eX c base a'))) (hb : PE X b (tE X.K base W (eX c base b'))) :
    PE X (.Call (.Name "list" p) [.Call (.Name "zip" p2) [a, b] [] pos2] [] pos) (tE X.K base W (eX c base (.new m (.listOf (.zip a' b'))))) := by
  have hab : PA X [a, b] (tAs X.K base W (eXs c base [a', b'])) := s_cons hc hn ha (s_cons hc hn2 hb (s_nil hc))
  refine ⟨fun pins s σ H Q I t => ?_⟩
  obtain ⟨F, ρ, h, env, Rl, re, hl, out⟩ := t
  simp only [eX, new_ev, evAl, evIt, bind_at, Res.bind_assoc] at out
  refine Call_ (ld_blt I hg hm PyProof.Rows.boot_list (PyProof.Rows.callWith_type1 (args_cons (Call_ (ld_blt I hg2 hm2 PyProof.Rows.boot_zip (PyProof.Rows.callWith_type1 (thn (hab.run pos2 pins s σ H (fun vs H1 => ∃ F1 ρ1 h1 x y E, Rel X.K F1 ρ1 H1 h1 ∧ RepL F1 ρ1 [x, y] vs ∧ Out X.K F1 ρ1 (((seqFz x) h1).bind fun xs h2 => ((seqFz y) h2).bind fun ys h3 => (if m then alloc (.l (zipD xs ys)) else content (.l (zipD xs ys))) h3) (fun d F' ρ' H' _ => ∀ v, Rep F' ρ' d v → Q v H') E) I ?_) fun us s1 ⟨vs, H1, I1, r1, F1, ρ1, h1, x, y, E, R1, rl, o1⟩ => ?_) (star_cons hn) (star_plain (by simp [hn2]))))))))
  · refine ⟨F, ρ, h, env, Rl, re, hl, ?_⟩
    simp only [eXs, evEs, bind_at, Res.bind_assoc]
    cases e1 : evE c base env a' h with
    | stuck => rw [e1] at out; exact out
    | exc z h1 => rw [e1] at out; exact out
    | ok x h1 =>
      rw [e1] at out
      simp only [bind_ok, bind_at, Res.bind_assoc] at out ⊢
      cases e2 : evE c base env b' h1 with
      | stuck => rw [e2] at out; exact out
      | exc z h2 => rw [e2] at out; exact out
      | ok y h2 =>
        rw [e2] at out
        intro F1 ρ1 H1 l1 p1 R1 vs rvs
        refine ⟨F1, ρ1, h2, x, y, WE W σ, R1, rvs, ?_⟩
        have out := out.ext l1 p1
        simp only [bind_ok, bind_at, ret_at, Res.bind_assoc] at out
        exact out
  · obtain ⟨w, ws, rfl, rw1, w2, ws2, rfl, rw2, rn⟩ := rl
    cases rn
    obtain ⟨qa, k, ds, us1, rfl, sq, hz, rl1, o2⟩ := seqFz_at R1 rw1 o1
    obtain ⟨qb, k2, ds2, us2, rfl, sq2, hz2, rl2, o3⟩ := seqFz_at R1 rw2 o2
    cases r1 with
    | cons r rr =>
    cases rr with
    | cons r' rr =>
    cases rr
    cases r
    cases r'
    obtain ⟨its, rv, sp⟩ := seqK I1 (sq (fun _ _ h => h) R1)
    obtain ⟨its2, rv2, sp2⟩ := seqK I1 (sq2 (fun _ _ h => h) R1)
    have la := sp.lt
    have lb := sp2.lt
    refine call_zipK sp sp2 fun h' hzz hTI hTO h1' h2' hk => args_nil ?_
    have I2 : Inv X pins σ H1 { s1 with heap := h' } := I1.kept (t' := s1.toks) hk
    have big4 : s1.heap.objs.size + 4 < h'.objs.size := Heap.lt_size hzz
    have mem : ∀ c ∈ [s1.heap.objs.size + 4, s1.heap.objs.size + 2, s1.heap.objs.size + 3, s1.heap.objs.size, s1.heap.objs.size + 1], s1.heap.objs.size ≤ c ∧ c < h'.objs.size := by
      intro c hcm
      have e' : c = s1.heap.objs.size + 4 ∨ c = s1.heap.objs.size + 2 ∨ c = s1.heap.objs.size + 3 ∨ c = s1.heap.objs.size ∨ c = s1.heap.objs.size + 1 := by simpa using hcm
      have big4 : (s1.heap.objs.size + 4 : Nat) < h'.objs.size := big4
      rcases e' with z | z | z | z | z <;> (rw [z]; refine ⟨?_, ?_⟩ <;> first | exact Nat.le_add_right _ _ | exact Nat.le_refl _ | exact big4 | exact Nat.lt_of_le_of_lt (Nat.add_le_add_left (by decide) _) big4 | exact Nat.lt_of_le_of_lt (Nat.le_add_right _ _) big4)
    refine call_listZ (I1.ok.hd hcalm) (sepK s1.heap.objs.size qa qb la lb) (Nat.ne_of_lt la) (Nat.ne_of_lt (Nat.lt_succ_of_lt lb)) (by simpa using rv) (by simpa using rv2) rl1 rl2 hz I2 R1 (fun c hcm => I1.fpOk (mem c hcm).1 (I1.hok.fresh (mem c hcm).1)) (fun c hcm => (mem c hcm).2) ⟨hTI, .inl ⟨hzz, _, _, hTO⟩⟩ ⟨h1', SeqP_at sp fun o e => hk _ o e⟩ ⟨h2', SeqP_at sp2 fun o e => hk _ o e⟩ fun p3 F' H' s' vs' I' R' l' hn' rp => ⟨.ref p3, _, I', rfl, ?_⟩
    exact Out.place R' (o3.ext l' (Pre.refl _)) hn' ⟨vs', rfl, by rw [zipD_len]; omega, rp⟩
end
end Px

set_option autoImplicit false
set_option linter.all false
set_option maxRecDepth 100000
/-! Special forms. -/
namespace Px
open PySem L2 PySem.Spec PyProof.Rows
section
variable {X : Cx} {W : WX} {base : Nat} {c : Cxt} (hc : ∀ f base args, Sane base (c.call f base args))
include hc
theorem i_enum {tg a : Expr} {a' : Ex} {p pos : Pos} (ht : isTup tg = true) (hg : Gl X "enumerate") (hm : X.mg "enumerate" = none) (hn : ns a = true) (ha : PE X a (tE X.K base W (eX c base a'))) :
    PI X tg (.Call (.Name "enumerate" p) [a] [] pos) (tIt X.K base W (eW c base (.enum a'))) := by
  cases tg with
  | Tuple elts kk tpos =>
    refine (pi_enumK hg hm hn (s_cons hc hn ha (s_nil hc))).weak fun σ H R ⟨F, ρ, h, env, Rl, re, hl, out⟩ => ?_
    simp only [eW, evIt, bind_at] at out
    refine ⟨F, ρ, h, env, Rl, re, hl, ?_⟩
    simp only [eXs, evEs, bind_at]
    cases e1 : evE c base env a' h with
    | stuck => rw [e1] at out; exact out
    | exc z h1 => rw [e1] at out; exact out
    | ok x h1 =>
      rw [e1] at out
      intro F1 ρ1 H1 l1 p1 R1 vs rvs
      have out := out.ext l1 p1
      obtain ⟨w, ws, rfl, rw', rn⟩ := rvs
      cases rn
      obtain ⟨q, k, ds, us, rfl, sq, hz, rl, out⟩ := seqFz_at R1 rw' out
      obtain ⟨_, kk⟩ := Out.here out R1
      exact ⟨k, q, us, rfl, sq (fun _ _ h => h) R1, kk _ (itok_enum (fun l R => sq l.l R) hz rl)⟩
  | _ => simp [isTup] at ht
theorem i_zip {tg a b : Expr} {a' b' : Ex} {p pos : Pos} (ht : isTup tg = true) (hg : Gl X "zip") (hm : X.mg "zip" = none) (hn : ns a = true) (hn2 : ns b = true) (ha : PE X a (tE X.K base W (eX c base a'))) (hb : PE X b (tE X.K base W (eX c base b'))) :
    PI X tg (.Call (.Name "zip" p) [a, b] [] pos) (tIt X.K base W (eW c base (.zip a' b'))) := by
  cases tg with
  | Tuple elts kk tpos =>
    refine (pi_zipK hg hm hn hn2 (s_cons hc hn ha (s_cons hc hn2 hb (s_nil hc)))).weak fun σ H R ⟨F, ρ, h, env, Rl, re, hl, out⟩ => ?_
    simp only [eW, evIt, bind_at] at out
    refine ⟨F, ρ, h, env, Rl, re, hl, ?_⟩
    simp only [eXs, evEs, bind_at]
    cases e1 : evE c base env a' h with
    | stuck => rw [e1] at out; exact out
    | exc z h1 => rw [e1] at out; exact out
    | ok x h1 =>
      rw [e1] at out
      simp only [bind_ok, bind_at] at out ⊢
      cases e2 : evE c base env b' h1 with
      | stuck => rw [e2] at out; exact out
      | exc z h2 => rw [e2] at out; exact out
      | ok y h2 =>
        rw [e2] at out
        intro F1 ρ1 H1 l1 p1 R1 vs rvs
        have out := out.ext l1 p1
        obtain ⟨w, ws, rfl, rw', w2, ws2, rfl, rw2, rn⟩ := rvs
        cases rn
        obtain ⟨q, k, ds, us, rfl, sq, hz, rl, out⟩ := seqFz_at R1 rw' out
        obtain ⟨q2, k2, ds2, us2, rfl, sq2, hz2, rl2, out⟩ := seqFz_at R1 rw2 out
        obtain ⟨_, kk⟩ := Out.here out R1
        exact ⟨k, k2, q, q2, us, us2, rfl, sq (fun _ _ h => h) R1, sq2 (fun _ _ h => h) R1, kk _ (itok_zip (fun l R => sq l.l R) (fun l R => sq2 l.l R) hz rl rl2)⟩
  | _ => simp [isTup] at ht
end
end Px

set_option autoImplicit false
set_option linter.all false
set_option maxRecDepth 100000
/-! What the translation gives the model does: expressions. -/
namespace Px
open PySem L2 PySem.Spec PyProof.Rows
/-- a block's names as they run -/
theorem relS_like {sc : Scope} : ∀ {names : List (Str × NameKind)} {x : Str} {k : NameKind}, names.lookup x = some k →
    ∃ k', (names.map fun (n, k) => if (k == NameKind.free && sc.kind == .function && sc.names.lookup n == some .cell) then (n, NameKind.cell) else (n, k)).lookup x = some k' ∧ (k' = k ∨ (k = .free ∧ k' = .cell))
  | [], x, k, h => by simp at h
  | (n, k₀) :: r, x, k, h => by
    have ih := @relS_like sc r x k
    show ∃ k', List.lookup x ((if (k₀ == NameKind.free && sc.kind == .function && sc.names.lookup n == some .cell) = true then (n, NameKind.cell) else (n, k₀)) :: (r.map _)) = some k' ∧ _
    cases hx : x == n with
    | true =>
      simp only [List.lookup_cons, hx, Option.some.injEq] at h
      subst h
      by_cases hq : (k₀ == NameKind.free && sc.kind == .function && sc.names.lookup n == some .cell) = true
      · rw [if_pos hq]
        simp only [List.lookup_cons, hx]
        simp only [Bool.and_eq_true, beq_iff_eq] at hq
        exact ⟨_, rfl, .inr ⟨hq.1.1, rfl⟩⟩
      · rw [if_neg hq]
        simp only [List.lookup_cons, hx]
        exact ⟨_, rfl, .inl rfl⟩
    | false =>
      simp only [List.lookup_cons, hx] at h
      by_cases hq : (k₀ == NameKind.free && sc.kind == .function && sc.names.lookup n == some .cell) = true
      · rw [if_pos hq]
        simp only [List.lookup_cons, hx]
        exact ih h
      · rw [if_neg hq]
        simp only [List.lookup_cons, hx]
        exact ih h
section
variable {P : Prog} {g : TrG} {N : List Str} {n : Nat}
theorem takes0 (X : Cx) : Takes X W0 := fun u s' ⟨_, _, _, _, _, _, _, _, _, _, _, _, _, _, _, _, w⟩ => w.elim
/-- within a comprehension's block -/
theorem XOk.blk {W : WX} {sc : Scope} {X : Cx} (o : XOk P g N n W sc X) (scope : Scope) (s : Shared) (H : Hp) (C : Addr) (cl : List (Str × Addr)) (fp : List Addr) : XOk P g N n W0 scope (X.blk s H scope (compEnvC scope cl C X.env) fp) where
  calm := o.calm
  names := o.names
  nd := o.nd
  tk := takes0 _
  rm := o.rm
  tops := o.tops
  like := fun x k h => relS_like h
  st := fun x h => by
    unfold Px.loc at h
    split at h
    · rename_i e
      obtain ⟨k', e', r⟩ := relS_like (sc := X.env.scope) e
      rcases r with rfl | ⟨z, _⟩
      · exact .inr e'
      · cases z
    · rename_i e
      refine .inl ?_
      show (scope.names.lookup x == some .cell) = true
      rw [e]
      rfl
    · cases h
theorem blk_of {W : WX} {sc scope : Scope} {X : Cx} {own : List (Str × Nat)} (o : XOk P g N n W sc X) (h : L2.blkC N sc scope own = true) : BlkOk X.N X.env.scope scope own := by
  have b := blkOk_by h
  rw [o.names]
  refine ⟨b.kind, b.uniq, b.ix, fun y hy e => ?_, b.own⟩
  rcases b.free y hy e with q | q
  · obtain ⟨k', e', r⟩ := o.like _ _ q
    rcases r with rfl | ⟨z, _⟩
    · exact .inl e'
    · cases z
  · obtain ⟨k', e', r⟩ := o.like _ _ q
    rcases r with rfl | ⟨_, rfl⟩
    · exact .inr e'
    · exact .inl e'
/-- the context of a run -/
abbrev cx (P : Prog) (n : Nat) : Cxt := cxt P (run P n)
theorem cx_sane (P : Prog) (n : Nat) : ∀ f base args, Sane base ((cx P n).call f base args) := fun f base args => sane_run P n f base args
theorem trE_ns {m : Nat} {sc : Scope} {e : Expr} {e' : Ex} (h : trE g N m sc e = some e') : ns e = true := by
  cases m with
  | zero => cases h
  | succ m => cases e <;> first | rfl | cases h
theorem trE_marks {m : Nat} {sc : Scope} {e : Expr} {e' : Ex} (op : CmpOp) (h : trE g N m sc e = some e') : behindInMarks op e = false := by
  cases m with
  | zero => cases h
  | succ m => cases e <;> first | rfl | cases h
theorem trE_fold {m : Nat} {sc : Scope} {e : Expr} {e' : Ex} {env : PySem.Env} (h : trE g N m sc e = some e') : ∀ x, foldedSetIterable e env x = pure x := by
  intro x
  cases m with
  | zero => cases h
  | succ m => cases e <;> first | rfl | cases h
theorem bltn_of {W : WX} {sc : Scope} {X : Cx} (o : XOk P g N n W sc X) {x : Str} (h : bltn g sc x = true) : Gl X x ∧ X.mg x = none := by
  unfold bltn at h
  rw [Bool.and_eq_true] at h
  exact ⟨o.glb h.1, o.tops.free x h.2⟩
/-- what the promise of one fuel is -/
def SndE (P : Prog) (g : TrG) (N : List Str) (n m : Nat) : Prop := ∀ (W : WX) (sc : Scope) (X : Cx), XOk P g N n W sc X → ∀ (base : Nat) (e : Expr) (e' : Ex), trE g N m sc e = some e' →
  PE X e (tE X.K base W (eX (cx P n) base e')) ∧ PT X e (tTst X.K base W (eT (cx P n) base e'))
theorem snd_args {m : Nat} (ih : SndE P g N n m) {W : WX} {sc : Scope} {X : Cx} (o : XOk P g N n W sc X) (base : Nat) : ∀ {es : List Expr} {es' : List Ex}, trL (trE g N m sc) es = some es' → es.all ns = true ∧ es.length = es'.length ∧ PA X es (tAs X.K base W (eXs (cx P n) base es'))
  | [], es', h => by cases trL_nil h; exact ⟨rfl, rfl, s_nil (cx_sane P n)⟩
  | e :: es, es', h => by
    obtain ⟨y, s, rfl, h1, h2⟩ := trL_cons h
    obtain ⟨i1, i2, i3⟩ := snd_args ih o base h2
    have hn := trE_ns h1
    exact ⟨by rw [List.all_cons, hn, i1]; rfl, by simp [i2], s_cons (cx_sane P n) hn (ih W sc X o base e y h1).1 i3⟩
theorem snd_ifs {m : Nat} (ih : SndE P g N n m) {W : WX} {sc : Scope} {X : Cx} (o : XOk P g N n W sc X) (base : Nat) : ∀ {es : List Expr} {es' : List Ex}, trL (trE g N m sc) es = some es' → PTs X es (tTst X.K base W (eIs (cx P n) base es'))
  | [], es', h => by cases trL_nil h; exact s_ifs_nil
  | e :: es, es', h => by
    obtain ⟨y, s, rfl, h1, h2⟩ := trL_cons h
    exact s_ifs_cons (cx_sane P n) (ih W sc X o base e y h1).2 (snd_ifs ih o base h2)
theorem map_ne {α : Type} {o : Option α} {f : α → Ex} {y : Ex} (h : o.map f = some y) : ∃ a, o = some a ∧ f a = y := by
  cases o with
  | none => cases h
  | some a => exact ⟨a, rfl, by simpa using h⟩
theorem trCall_nv {f : Scope → Expr → Option Ex} {sc : Scope} {x : Str} {args : List Expr} {pos : Pos} {i : Nat} : trCall g f sc x args pos ≠ some (.var i) := by
  intro h
  unfold trCall at h
  repeat' split at h
  all_goals first
    | cases h
    | (obtain ⟨_, _, e⟩ := map_ne h; cases e)
theorem var_E {X : Cx} (hs : ∀ {x : Str} {i : Nat}, slotOf N x = some i → X.N[i]? = some x) {sc : Scope} (hv : ∀ x, vis sc x = true → Vis X.env.scope x) : ∀ (m : Nat) (e : Expr) (i : Nat), trE g N m sc e = some (.var i) → PE X e (tVar i)
  | 0, _, _, h => by cases h
  | m + 1, e, i, h => by
    cases e with
    | Name x pos =>
      simp only [trE] at h
      split at h
      · cases h
      · rename_i ho
        split at h
        · rename_i hx
          cases q : slotOf N x with
          | none => rw [q] at h; cases h
          | some j =>
            rw [q] at h
            cases h
            exact pe_var (hs q) (hv x hx) (odd_no (by simpa using ho)).1 (odd_no (by simpa using ho)).2
        · split at h <;> cases h
    | BoolOp op vs pos =>
      simp only [trE] at h
      split at h
      · rename_i a
        exact pe_one (var_E hs hv m a i h)
      · split at h <;> cases h
      · cases h
    | Constant c j pos =>
      simp only [trE] at h
      obtain ⟨_, _, e⟩ := map_ne h; cases e
    | Call fn args kws pos =>
      exfalso
      cases kws with
      | cons _ _ => simp only [trE] at h; cases h
      | nil =>
        cases fn with
        | Name x p => exact trCall_nv h
        | Attribute a mm apos =>
          simp only [trE] at h
          repeat' split at h
          all_goals cases h
        | _ => simp only [trE] at h; cases h
    | Compare a ops bs pos =>
      exfalso
      simp only [trE] at h
      repeat' split at h
      all_goals first
        | cases h
        | (obtain ⟨_, _, e⟩ := map_ne h; cases e)
    | _ =>
      exfalso
      simp only [trE] at h
      repeat' split at h
      all_goals first
        | cases h
        | (obtain ⟨_, _, e⟩ := map_ne h; cases e)

/-- what a loop walks -/
theorem snd_it {m : Nat} (ih : SndE P g N n m) {W : WX} {sc : Scope} {X : Cx} (o : XOk P g N n W sc X) (base : Nat) {tg e : Expr} {it' : It} (h : trIt g (trE g N m) (isTup tg) sc e = some it') :
    PI X tg e (tIt X.K base W (eW (cx P n) base it')) ∧ (∀ i, it' = .ex (.var i) → PI X tg e (iKeys (tVar i))) ∧ (∀ env x, foldedSetIterable e env x = pure x) := by
  have dflt : (trE g N m sc e).map It.ex = some it' → PI X tg e (tIt X.K base W (eW (cx P n) base it')) ∧ (∀ i, it' = .ex (.var i) → PI X tg e (iKeys (tVar i))) ∧ (∀ env x, foldedSetIterable e env x = pure x) := by
    intro h
    cases q : trE g N m sc e with
    | none => rw [q] at h; cases h
    | some e' =>
      rw [q] at h
      cases h
      refine ⟨i_ex (cx_sane P n) (ih W sc X o base e e' q).1, fun i z => ?_, fun env => trE_fold q⟩
      cases z
      exact pi_keys (var_E (fun h => o.slot h) (fun x h => o.vis h) m e i q)
  unfold trIt at h
  split at h
  · rename_i x p args pos
    split at h
    · rename_i hb
      rw [Bool.and_eq_true] at hb
      obtain ⟨h1, h2⟩ := bltn_of o hb.1
      have hx : x = "range" := by simpa using hb.2
      subst hx
      split at h
      · rename_i b
        cases q : trE g N m sc b with
        | none => rw [q] at h; cases h
        | some b' =>
          rw [q] at h
          cases h
          exact ⟨i_range1 (cx_sane P n) h1 h2 (trE_ns q) (ih W sc X o base b b' q).1, fun i z => (nomatch z), fun _ _ => rfl⟩
      · rename_i a b
        split at h
        · rename_i a' b' qa qb
          cases h
          exact ⟨i_range2 (cx_sane P n) h1 h2 (trE_ns qa) (trE_ns qb) (ih W sc X o base a a' qa).1 (ih W sc X o base b b' qb).1, fun i z => (nomatch z), fun _ _ => rfl⟩
        · cases h
      · rename_i a b d
        split at h
        · rename_i a' b' d' qa qb qd
          cases h
          exact ⟨i_range3 (cx_sane P n) h1 h2 (trE_ns qa) (trE_ns qb) (trE_ns qd) (ih W sc X o base a a' qa).1 (ih W sc X o base b b' qb).1 (ih W sc X o base d d' qd).1, fun i z => (nomatch z), fun _ _ => rfl⟩
        · cases h
      · cases h
    split at h
    · rename_i hb
      rw [Bool.and_eq_true] at hb
      obtain ⟨h1, h2⟩ := bltn_of o hb.1
      have hx : x = "enumerate" := by simpa using hb.2
      subst hx
      split at h
      · rename_i a
        split at h
        · rename_i ht
          cases q : trE g N m sc a with
          | none => rw [q] at h; cases h
          | some a' =>
            rw [q] at h
            cases h
            exact ⟨i_enum (cx_sane P n) ht h1 h2 (trE_ns q) (ih W sc X o base a a' q).1, fun i z => (nomatch z), fun _ _ => rfl⟩
        · cases h
      · cases h
    split at h
    · rename_i hb
      rw [Bool.and_eq_true] at hb
      obtain ⟨h1, h2⟩ := bltn_of o hb.1
      have hx : x = "zip" := by simpa using hb.2
      subst hx
      split at h
      · rename_i a b
        split at h
        · rename_i ht
          split at h
          · rename_i a' b' qa qb
            cases h
            exact ⟨i_zip (cx_sane P n) ht h1 h2 (trE_ns qa) (trE_ns qb) (ih W sc X o base a a' qa).1 (ih W sc X o base b b' qb).1, fun i z => (nomatch z), fun _ _ => rfl⟩
          · cases h
        · cases h
      · cases h
    · exact dflt h
  · exact dflt h

theorem tyL_of {W : WX} {sc : Scope} {X : Cx} (o : XOk P g N n W sc X) : ∀ {es : List Expr} {ts : List Ty}, trL (fun e => match e with
    | .Name x _ => if glb sc x && g.free.contains x then tyOf x else none
    | _ => none) es = some ts → es.length = ts.length ∧ ∀ (i : Nat) (e : Expr), es[i]? = some e → ∃ y q t, e = .Name y q ∧ Gl X y ∧ X.mg y = none ∧ ts[i]? = some t ∧ tyOf y = some t
  | [], ts, h => by cases trL_nil h; exact ⟨rfl, fun i e z => by simp at z⟩
  | e :: es, ts, h => by
    obtain ⟨y, s, rfl, h1, h2⟩ := trL_cons h
    obtain ⟨i1, i2⟩ := tyL_of o h2
    refine ⟨by simp [i1], fun i e' z => ?_⟩
    cases i with
    | zero =>
      simp at z
      subst z
      cases e with
      | Name x q =>
        simp only at h1
        split at h1
        · rename_i hb
          obtain ⟨k1, k2⟩ := bltn_of o hb
          exact ⟨x, q, y, rfl, k1, k2, rfl, h1⟩
        · cases h1
      | _ => cases h1
    | succ i => exact i2 i e' (by simpa using z)
/-- calls by name -/
theorem snd_call {m : Nat} (ih : SndE P g N n m) {W : WX} {sc : Scope} {X : Cx} (o : XOk P g N n W sc X) (base : Nat) {x : Str} {args : List Expr} {p pos : Pos} {e' : Ex} (h : trCall g (trE g N m) sc x args pos = some e') :
    PE X (.Call (.Name x p) args [] pos) (tE X.K base W (eX (cx P n) base e')) := by
  have hc := cx_sane P n
  unfold trCall at h
  split at h
  · cases h
  rename_i hx
  simp only [Bool.or_eq_true, Bool.not_eq_true', not_or, Bool.not_eq_false] at hx
  have hgl : Gl X x := o.glb hx.1
  have hodd : odd x = false := by simpa using hx.2
  split at h
  · rename_i hfree
    have hm := o.tops.free x hfree
    split at h
    · rename_i ex
      subst ex
      split at h
      · rename_i a t
        split at h
        · rename_i a' ts qa qt
          cases h
          have ha := (ih W sc X o base a a' qa).1
          have hn := trE_ns qa
          unfold trTy at qt
          split at qt
          · rename_i y q
            split at qt
            · rename_i hb
              obtain ⟨k1, k2⟩ := bltn_of o hb
              cases q2 : tyOf y with
              | none => rw [q2] at qt; cases qt
              | some ty =>
                rw [q2] at qt
                cases qt
                exact s_isinst1 (x := y) hc hgl hm k1 k2 q2 hn ha
            · cases qt
          · rename_i es k q
            split at qt
            · rename_i ts' qL
              split at qt
              · cases qt
              · rename_i hlen
                cases qt
                obtain ⟨k1, k2⟩ := tyL_of o qL
                simp only [Bool.or_eq_true, List.isEmpty_iff, decide_eq_true_eq, not_or] at hlen
                have : (100 : Nat) ≤ sizeLine := by rw [sizeLine_eq]; decide
                exact s_isinstN hc hgl hm k2 k1 (by omega) hlen.1 hn ha
            · cases qt
          · cases qt
        · cases h
      · cases h
    split at h
    · rename_i ex
      subst ex
      split at h
      · rename_i y p2 bs pos2
        split at h
        · rename_i hb
          rw [Bool.and_eq_true] at hb
          obtain ⟨k1, k2⟩ := bltn_of o hb.1
          have hy : y = "range" := by simpa using hb.2
          subst hy
          split at h
          · rename_i b
            obtain ⟨b', qb, rfl⟩ := map_ne h
            exact s_listR1 hc o.calm hgl hm k1 k2 (trE_ns qb) (ih W sc X o base b b' qb).1
          · cases h
        split at h
        · rename_i hb
          rw [Bool.and_eq_true] at hb
          obtain ⟨k1, k2⟩ := bltn_of o hb.1
          have hy : y = "zip" := by simpa using hb.2
          subst hy
          split at h
          · rename_i a b
            split at h
            · rename_i a' b' qa qb
              cases h
              exact s_listZip hc o.hu o.calm hgl hm k1 k2 (trE_ns qa) (trE_ns qb) (ih W sc X o base a a' qa).1 (ih W sc X o base b b' qb).1
            · cases h
          · cases h
        · obtain ⟨a', qa, rfl⟩ := map_ne h
          exact s_listEx hc o.calm hgl hm rfl (ih W sc X o base _ a' qa).1
      · rename_i a _
        obtain ⟨a', qa, rfl⟩ := map_ne h
        exact s_listEx hc o.calm hgl hm (trE_ns qa) (ih W sc X o base _ a' qa).1
      · cases h
    split at h
    · rename_i ex
      subst ex
      split at h
      · rename_i a
        obtain ⟨a', qa, rfl⟩ := map_ne h
        cases g.kc pos with
        | k => exact s_dictK hc o.calm hgl hm (trE_ns qa) (ih W sc X o base _ a' qa).1
        | t => exact s_dictT hc o.hu o.calm hgl hm (trE_ns qa) (ih W sc X o base _ a' qa).1
      · cases h
    split at h
    · rename_i ex
      subst ex
      have gen : ∀ {a : Expr} {a' : Ex}, trE g N m sc a = some a' → PE X (.Call (.Name "sorted" p) [a] [] pos) (tE X.K base W (eX (cx P n) base (.new (g.isMut pos) (.sorted a')))) := fun {a a'} qa => s_sorted hc o.hu o.calm hgl hm (trE_ns qa) (ih W sc X o base _ a' qa).1
      split at h
      · rename_i y p2 b pos2
        split at h
        · rename_i hb
          rw [Bool.and_eq_true] at hb
          obtain ⟨k1, k2⟩ := bltn_of o hb.1
          have hy : y = "set" := by simpa using hb.2
          subst hy
          obtain ⟨b', qb, rfl⟩ := map_ne h
          exact s_sortedSet hc o.hu o.calm hgl hm k1 k2 (trE_ns qb) (ih W sc X o base b b' qb).1
        · obtain ⟨a', qa, rfl⟩ := map_ne h
          exact gen qa
      · rename_i a _
        obtain ⟨a', qa, rfl⟩ := map_ne h
        exact gen qa
      · cases h
    · split at h
      · rename_i pr qp
        obtain ⟨es', qe, rfl⟩ := map_ne h
        obtain ⟨i1, i2, i3⟩ := snd_args ih o base qe
        exact s_prim hc o.calm hgl hm qp i1 i3
      · cases h
  · split at h
    · rename_i k hf
      split at h
      · rename_i hk
        obtain ⟨es', qe, rfl⟩ := map_ne h
        obtain ⟨i1, i2, i3⟩ := snd_args ih o base qe
        obtain ⟨f, fd, ps, F, h1, h2, h3⟩ := o.tops.fns x k hf
        exact s_call hc rfl F o.rm o.tk hgl hodd h1 h2 h3 i1 i2 i3
      · cases h
    · cases h
end
end Px

set_option autoImplicit false
set_option linter.all false
set_option maxRecDepth 100000
/-! What the translation gives the model does: all expressions. -/
namespace Px
open PySem L2 PySem.Spec PyProof.Rows
section
variable {P : Prog} {g : TrG} {N : List Str} {n : Nat}
theorem snd_pairs {m : Nat} (ih : SndE P g N n m) {W : WX} {sc : Scope} {X : Cx} (o : XOk P g N n W sc X) (base : Nat) {pos : Pos} : ∀ {ks : List (Option Expr)} {vs es : List Expr} {es' : List Ex}, inter ks vs = some es → trL (trE g N m sc) es = some es' →
    ks.all (·.isSome) = true ∧ ks.length = vs.length ∧ es'.length = 2 * ks.length ∧ PPf X pos ks vs (tAs X.K base W (eXs (cx P n) base es'))
  | [], [], es, es', h, h2 => by
    cases h
    cases trL_nil h2
    exact ⟨rfl, rfl, rfl, ppf_nil⟩
  | [], _ :: _, es, es', h, h2 => by cases h
  | none :: ks, _, es, es', h, h2 => by cases h
  | some k :: ks, [], es, es', h, h2 => by cases h
  | some k :: ks, v :: vs, es, es', h, h2 => by
    simp only [inter] at h
    cases q : inter ks vs with
    | none => rw [q] at h; cases h
    | some r =>
      rw [q] at h
      cases h
      obtain ⟨k', s1, rfl, q1, h2⟩ := trL_cons h2
      obtain ⟨v', s2, rfl, q2, h2⟩ := trL_cons h2
      obtain ⟨i1, i2, i3, i4⟩ := snd_pairs ih o base q h2
      exact ⟨by simpa using i1, by simp [i2], by simp [i3]; omega, ppf_cons (cx_sane P n) (ih W sc X o base k k' q1).1 (ih W sc X o base v v' q2).1 i4⟩
theorem globT_eq {sc : Scope} {b : Expr} {x : Str} (h : globT g sc b = some x) : ∃ p, b = .Name x p ∧ odd x = false ∧ glb sc x = true ∧ g.tcs.contains x = true := by
  unfold globT at h
  split at h
  · split at h
    · rename_i hh
      cases h
      exact ⟨_, rfl, hh⟩
    · cases h
  · cases h
/-- the parts of a list comprehension -/
theorem snd_lc {m : Nat} (ih : SndE P g N n m) {W : WX} {sc : Scope} {X : Cx} (o : XOk P g N n W sc X) (base : Nat) {elt tg it : Expr} {ifs : List Expr} {scope : Scope} {e1 : Ex} {tg1 : Tg} {it1 : It} {ifs1 : List Ex}
    (hb : L2.blkC N sc scope (ownOf N scope.names) = true) (q1 : trE g N m scope elt = some e1) (q2 : trTg N m scope tg = some tg1) (q3 : trIt g (trE g N m) (isTup tg) sc it = some it1) (q4 : trL (trE g N m scope) ifs = some ifs1)
    (hs : ((tgSlots tg1).all fun i => ((ownOf N scope.names).map (·.2)).contains i) = true) : LcOk X W base (cx P n) elt tg it ifs scope (ownOf N scope.names) e1 tg1 it1 ifs1 := by
  obtain ⟨k1, k2, k3⟩ := snd_it ih o base (tg := tg) q3
  have ob := fun s H C cl fp => o.blk scope s H C cl fp
  exact ⟨o.calm, o.names ▸ o.nd, k1, k2, blk_of o hb, fun i hi => by
      have := List.all_eq_true.mp hs i hi
      simpa using this,
    fun s H C cl fp => g_all (X := X.blk s H scope (compEnvC scope cl C X.env) fp) o.names o.nd o.calm (fun x h => (ob s H C cl fp).loc h) (fun x h => (ob s H C cl fp).st x h) m tg tg1 q2,
    fun s H C cl fp => snd_ifs ih (ob s H C cl fp) base q4, fun s H C cl fp => (ih W0 scope _ (ob s H C cl fp) base elt e1 q1).1, k3 X.env⟩
theorem snd_dc {m : Nat} (ih : SndE P g N n m) {W : WX} {sc : Scope} {X : Cx} (o : XOk P g N n W sc X) (base : Nat) {k v tg it : Expr} {scope : Scope} {k1 v1 : Ex} {tg1 : Tg} {it1 : It}
    (hb : L2.blkC N sc scope (ownOf N scope.names) = true) (q1 : trE g N m scope k = some k1) (q5 : trE g N m scope v = some v1) (q2 : trTg N m scope tg = some tg1) (q3 : trIt g (trE g N m) (isTup tg) sc it = some it1)
    (hs : ((tgSlots tg1).all fun i => ((ownOf N scope.names).map (·.2)).contains i) = true) : DcOk X W base (cx P n) k v tg it scope (ownOf N scope.names) k1 v1 tg1 it1 := by
  obtain ⟨j1, j2, j3⟩ := snd_it ih o base (tg := tg) q3
  have ob := fun s H C cl fp => o.blk scope s H C cl fp
  exact ⟨o.calm, o.names ▸ o.nd, j1, blk_of o hb, fun i hi => by
      have := List.all_eq_true.mp hs i hi
      simpa using this,
    fun s H C cl fp => g_all (X := X.blk s H scope (compEnvC scope cl C X.env) fp) o.names o.nd o.calm (fun x h => (ob s H C cl fp).loc h) (fun x h => (ob s H C cl fp).st x h) m tg tg1 q2,
    fun s H C cl fp => (ih W0 scope _ (ob s H C cl fp) base k k1 q1).1, fun s H C cl fp => (ih W0 scope _ (ob s H C cl fp) base v v1 q5).1, j3 X.env⟩
theorem snd_part {m : Nat} (ih : SndE P g N n m) {W : WX} {sc : Scope} {X : Cx} (o : XOk P g N n W sc X) (base : Nat) {lo : Option Expr} {l : Option Ex} (h : trO (trE g N m sc) lo = some l) : PO X lo (tOs X.K base W (eO (cx P n) base l)) := by
  cases lo with
  | none => cases h; exact s_none (cx_sane P n)
  | some a =>
    simp only [trO] at h
    split at h
    · rename_i y q
      cases h
      exact s_some (cx_sane P n) (ih W sc X o base a y q).1
    · cases h
theorem snd_E : ∀ m, SndE P g N n m
  | 0 => fun _ _ _ _ _ _ _ h => by cases h
  | m + 1 => by
    have ih : SndE P g N n m := snd_E m
    intro W sc X o base e e' h
    have hc := cx_sane P n
    cases e with
    | Constant k j pos =>
      simp only [trE] at h
      obtain ⟨d, q, rfl⟩ := map_ne h
      have pe : PE X (.Constant k j pos) (tE X.K base W (eX (cx P n) base (.lit d))) := s_lit q
      exact ⟨pe, s_test hc pe fun _ => rfl⟩
    | Name x pos =>
      simp only [trE] at h
      split at h
      · cases h
      · rename_i ho
        have ho : odd x = false := by simpa using ho
        split at h
        · rename_i hx
          obtain ⟨i, q, rfl⟩ := map_ne h
          have pe : PE X (.Name x pos) (tE X.K base W (eX (cx P n) base (.var i))) := s_var (o.slot q) (o.vis hx) ho
          exact ⟨pe, s_test hc pe fun _ => rfl⟩
        · split at h
          · rename_i hb
            cases h
            rw [Bool.and_eq_true] at hb
            have pe : PE X (.Name x pos) (tE X.K base W (eX (cx P n) base (.glob x))) := s_glob (o.glb hb.1) ho fun d q => o.tops.consts x d q
            exact ⟨pe, s_test hc pe fun _ => rfl⟩
          · cases h
    | BinOp a op b pos =>
      simp only [trE] at h
      split at h
      · rename_i a' op' b' qa qo qb
        split at h
        · cases h
        · cases h
          have pe := s_bin hc (pos := pos) qo (ih W sc X o base a a' qa).1 (ih W sc X o base b b' qb).1
          exact ⟨pe, s_test hc pe fun _ => rfl⟩
      · cases h
    | UnaryOp op a pos =>
      cases op with
      | Not =>
        simp only [trE] at h
        obtain ⟨a', qa, rfl⟩ := map_ne h
        obtain ⟨i1, i2⟩ := ih W sc X o base a a' qa
        exact s_not hc i1 i2
      | USub =>
        simp only [trE] at h
        obtain ⟨a', qa, rfl⟩ := map_ne h
        have pe := s_neg hc (pos := pos) (ih W sc X o base a a' qa).1
        exact ⟨pe, s_test hc pe fun _ => rfl⟩
      | _ => simp only [trE] at h; cases h
    | BoolOp op vs pos =>
      cases vs with
      | nil => simp only [trE] at h; cases h
      | cons a r =>
        cases r with
        | nil =>
          simp only [trE] at h
          obtain ⟨i1, i2⟩ := ih W sc X o base a e' h
          exact ⟨pe_one i1, by cases op; exact (pw_and1 i2).pt; exact (pw_or1 i2).pt⟩
        | cons b r =>
          simp only [trE] at h
          split at h
          · rename_i a' b' qa qb
            cases h
            obtain ⟨i1, i2⟩ := ih W sc X o base a a' qa
            obtain ⟨j1, j2⟩ := ih W sc X o base _ b' qb
            exact s_and hc i1 i2 j1 j2
          · rename_i a' b' qa qb
            cases h
            obtain ⟨i1, i2⟩ := ih W sc X o base a a' qa
            obtain ⟨j1, j2⟩ := ih W sc X o base _ b' qb
            exact s_or hc i1 i2 j1 j2
          · cases h
    | IfExp t a b pos =>
      simp only [trE] at h
      split at h
      · rename_i t' a' b' qt qa qb
        cases h
        obtain ⟨i1, i2⟩ := ih W sc X o base t t' qt
        obtain ⟨j1, j2⟩ := ih W sc X o base a a' qa
        obtain ⟨k1, k2⟩ := ih W sc X o base b b' qb
        exact s_ite hc i2 j1 k1 j2 k2
      · cases h
    | Compare a ops bs pos =>
      simp only [trE] at h
      split at h
      · rename_i op b
        split at h
        · rename_i x qx
          obtain ⟨p, rfl, ho, hg, ht⟩ := globT_eq qx
          split at h
          · obtain ⟨a', qa, rfl⟩ := map_ne h
            exact s_inGlob hc (neg := false) o.hu (o.glb hg) ho (o.tops.tcs x ht) rfl (ih W sc X o base a a' qa).1
          · obtain ⟨a', qa, rfl⟩ := map_ne h
            exact s_inGlob hc (neg := true) o.hu (o.glb hg) ho (o.tops.tcs x ht) rfl (ih W sc X o base a a' qa).1
          · cases h
        · split at h
          · rename_i a' b' qa qb
            cases h
            exact s_cmp hc o.hu (trE_marks op qb) (ih W sc X o base a a' qa).1 (ih W sc X o base b b' qb).1
          · cases h
      · rename_i o1 o2 b d
        split at h
        · rename_i a' b' d' qa qb qd
          cases h
          exact s_chain hc o.hu (trE_marks o2 qd) (ih W sc X o base a a' qa).1 (ih W sc X o base b b' qb).1 (ih W sc X o base d d' qd).1
        · cases h
      · cases h
    | Tuple es k pos =>
      simp only [trE] at h
      obtain ⟨es', qe, rfl⟩ := map_ne h
      obtain ⟨i1, i2, i3⟩ := snd_args ih o base qe
      have pe := s_tup hc (x1 := k) (pos := pos) i3
      exact ⟨pe, s_test hc pe fun _ => rfl⟩
    | List es pos =>
      simp only [trE] at h
      obtain ⟨es', qe, rfl⟩ := map_ne h
      obtain ⟨i1, i2, i3⟩ := snd_args ih o base qe
      have pe := s_disp hc (m := g.isMut pos) (pos := pos) i3
      exact ⟨pe, s_test hc pe fun _ => rfl⟩
    | Dict ks vs pos =>
      simp only [trE] at h
      split at h
      · rename_i es qi
        split at h
        · rename_i hl
          obtain ⟨es', qe, rfl⟩ := map_ne h
          obtain ⟨i1, i2, i3, i4⟩ := snd_pairs ih o base (pos := pos) qi qe
          have hu := o.hu
          have pe := s_ddisp hc (m := g.isMut pos) (t := g.kc pos) (by omega) i1 i2 hl (by omega) (fun z => by subst z; exact List.eq_nil_of_length_eq_zero i3) i4
          exact ⟨pe, s_test hc pe fun _ => rfl⟩
        · cases h
      · cases h
    | ListComp elt gens scope pos =>
      simp only [trE] at h
      split at h
      · rename_i tg it ifs
        split at h
        · rename_i e1 tg1 it1 ifs1 hb q1 q2 q3 q4
          split at h
          · rename_i hs
            cases h
            have pe := s_comp hc (m := g.isMut pos) (pos := pos) (snd_lc ih o base hb q1 q2 q3 q4 hs)
            exact ⟨pe, s_test hc pe fun _ => rfl⟩
          · cases h
        · cases h
      · cases h
    | DictComp k v gens scope pos =>
      simp only [trE] at h
      split at h
      · rename_i tg it
        split at h
        · rename_i k1 v1 tg1 it1 hb q1 q5 q2 q3
          split at h
          · rename_i hs
            cases h
            have pe := s_dcomp hc (m := g.isMut pos) (pos := pos) (snd_dc ih o base hb q1 q5 q2 q3 hs.2)
            exact ⟨pe, s_test hc pe fun _ => rfl⟩
          · cases h
        · cases h
      · cases h
    | Subscript a i pos =>
      cases i with
      | Slice lo hi st p2 =>
        cases st with
        | some _ => simp only [trE] at h; cases h
        | none =>
          simp only [trE] at h
          split at h
          · rename_i a' l u qa ql qu
            split at h
            · cases h
            · cases h
              have pe := s_slice hc (pos := pos) (p2 := p2) (ih W sc X o base a a' qa).1 (snd_part ih o base ql) (snd_part ih o base qu)
              exact ⟨pe, s_test hc pe fun _ => rfl⟩
          · cases h
      | _ =>
        simp only [trE] at h
        split at h
        · rename_i a' i' qa qi
          cases h
          have pe := s_idx hc (pos := pos) o.hu (fun _ _ _ z => by cases z) (ih W sc X o base a a' qa).1 (ih W sc X o base _ i' qi).1
          exact ⟨pe, s_test hc pe fun _ => rfl⟩
        · cases h
    | Call fn args kws pos =>
      cases kws with
      | cons _ _ => simp only [trE] at h; cases h
      | nil =>
        cases fn with
        | Name x p =>
          have pe := snd_call ih o base (p := p) (show trCall g (trE g N m) sc x args pos = some e' from h)
          exact ⟨pe, s_test hc pe fun _ => rfl⟩
        | Attribute a mm apos =>
          have hna : nc a = true := by
            cases a <;> first | rfl | (simp only [trE] at h; split at h <;> cases h)
          have key : PE X (.Call (.Attribute a mm apos) args [] pos) (tE X.K base W (eX (cx P n) base e')) := by
            have h : (if apos.endLine == pos.line then match lmOf mm args.length with
                | some lm => match trE g N m sc a, trL (trE g N m sc) args with
                  | some a', some es => some (.lmeth lm a' es)
                  | _, _ => none
                | none => none else none) = some e' := by
              cases a <;> first | exact h | cases hna
            split at h
            · rename_i hline
              split at h
              · rename_i lm ql
                split at h
                · rename_i a' es' qa qe
                  cases h
                  obtain ⟨i1, i2, i3⟩ := snd_args ih o base qe
                  exact s_lmeth hc ql i2 i1 hna hline (ih W sc X o base a a' qa).1 i3
                · cases h
              · cases h
            · cases h
          exact ⟨key, s_test hc key fun _ => rfl⟩
        | _ => simp only [trE] at h; cases h
    | _ => simp only [trE] at h; cases h
end
end Px

set_option autoImplicit false
set_option linter.all false
set_option maxRecDepth 100000
set_option maxHeartbeats 4000000
/-! An own __init__ over ValueError's: super().__init__(..), then fields. -/
namespace Px
open PySem L2 PySem.Spec PySem.Calls PyProof.Rows
open PySem.W (Frag kxs_mw KxsAt)
section
variable {prog : Program} {w : World} {A : Around} {E : Value → Shared → Prop} {s : Shared}
/-- ValueError.__init__, bound, called -/
theorem xs_call {K : Frag} {C u e : Addr} {rest : List Value} {Q : Value → Shared → Prop} (T : OexC K C) (kin : K.In s.heap) {t0 : Addr} (he : s.heap.get? e = some (HandSPX.excO C t0)) (hu : s.heap.get? u = some (kxs_mw "ValueError.__init__" e)) (hz : rest.length ≤ sizeLine)
    (fin : ∀ h' t1, (∀ b o, b ≠ e → s.heap.get? b = some o → h'.get? b = some o) → h'.get? e = some (HandSPX.excO C t1) → Q .none { s with heap := h' }) : wpAny (model prog w) A (call (.ref u) rest) Q E s := by
  obtain ⟨nm, q, N, bs, bm, sn, sub, ab, col, dd, k0, k1, k2, k3, k5, hC, hbm⟩ := T.cls
  have hC := kin _ _ hC
  obtain ⟨h, g, d, t, os⟩ := s
  refine wpAny_call (codeAny_of_tree ?_)
  show wpAny _ A.in1 (callAny (.ref u) ⟨rest, []⟩) _ _ _
  simp only [callAny]
  refine wpAny_bind (wpAny_load hu ?_)
  simp only [kxs_mw, show (Value.type "method-wrapper" == Value.type "method" || Value.type "method-wrapper" == Value.type "builtin_function_or_method" || Value.type "method-wrapper" == Value.type "method-wrapper") = true by decide, if_true]
  refine PySem.W.KFB.if_so (by decide) (wpAny_bind (ESX.check_bound PySem.F.excBase_ValueError hC he rfl (wpAny_bind (wpAny_pure (wpAny_pure ⟨Code.quiet_builtin _ (by decide +kernel), codeAny_builtin PySem.F.excBase_ValueError.initEntry ?_⟩)))))
  rw [Around.under_plainId PySem.F.excBase_ValueError.init.plain _]
  exact PySem.W.exc_init_tree he hz fun h' k e' _ => fin h' _ k e'
end
/-- what the written part says of such a class and its __init__ -/
structure InitF (prog : Program) (K : Frag) (C fI : Addr) (fd : FuncData) (ps : List Str) (body : List Stmt) : Prop where
  T : OexC K C
  mro : ∃ cd, PySem.W.clsIn K C = some cd ∧ PySem.W.alongIn K "__init__" ((cd.mro.dropWhile (· != .ref C)).drop 1) = some (some (.builtin "ValueError.__init__"))
  vE : PySem.W.subIn K (.ref C) (.type "ValueError") = some true
  self : PySem.W.subIn K (.ref C) (.ref C) = some true
  fn : ∃ (oc : Value) (od : Option Addr) (osl : Array (Option Value)), K.lookup fI = some ⟨oc, od, .func fd, osl⟩
  body : fd.body = .stmts body
  code : PySem.W.codeIn K fd.code fd.qualname = true
  file : ∃ (cda : Addr) (oc : Value) (od : Option Addr) (osl : Array (Option Value)) (vs : Array Value) (file : Str) (tf : Tok), fd.code = .ref cda ∧ K.lookup cda = some ⟨oc, od, .fields vs, osl⟩ ∧ vs[2]? = some (.str file tf) ∧ ((prog.main.file : Str) == file) = true
  cell : ∃ (cc : Addr) (oc : Value) (od : Option Addr) (osl : Array (Option Value)), fd.closure = [(("__class__" : Str), cc)] ∧ K.lookup cc = some ⟨oc, od, .cell (some (.ref C)), osl⟩
  any : PySem.W.nsIn K cStatics "thirdparty.any" = some none
  glob : fd.globals = mainGlobals
  blts : fd.builtins = builtinsNs
  sup : (prog.main.scope.names.lookup ("super" : Str)).isSome = false
end Px

set_option autoImplicit false
set_option linter.all false
set_option maxRecDepth 100000
set_option maxHeartbeats 4000000
/-! Such an __init__, walked. -/
namespace Px
open PySem L2 PySem.Spec PySem.Calls PyProof.Rows
open PySem.W (Frag kxs_mw KxsAt)
/-- self.f = p, one after another -/
def tFs (K : Frag) : List (Str × Nat) → TS
  | [] => fun D σ H => D.nx σ H
  | (f, i) :: r => fun D σ H => tOst K f (tVar 0) (tVar i) { D with nx := fun σ' H' => tFs K r D σ' H' } σ H
/-- the statements' words -/
inductive FsOk (N : List Str) (sc : Scope) : List Stmt → List (Str × Nat) → Prop
  | nil : FsOk N sc [] []
  | cons {s x f : Str} {i : Nat} {q1 q2 q3 q4 : Pos} {r : List Stmt} {fs : List (Str × Nat)} (h0 : N[0]? = some s) (v0 : Vis sc s) (d0 : (s == ("__debug__" : Str)) = false ∧ (s == ("__classdict__" : Str)) = false)
      (hi : N[i]? = some x) (vi : Vis sc x) (di : (x == ("__debug__" : Str)) = false ∧ (x == ("__classdict__" : Str)) = false) (t : FsOk N sc r fs) :
      FsOk N sc (.Assign [.Attribute (.Name s q1) f q2] (.Name x q3) q4 :: r) ((f, i) :: fs)
theorem fs_walk {X : Cx} : ∀ {r : List Stmt} {fs : List (Str × Nat)}, FsOk X.N X.env.scope r fs → PSs X r (tFs X.K fs)
  | _, _, .nil => pss_nil
  | _, _, .cons h0 v0 d0 hi vi di t => pss_cons (ps_ost (pe_var h0 v0 d0.1 d0.2) (pe_var hi vi di.1 di.2)) (fs_walk t)
theorem upd_swap {H : Hp} {a b : Addr} {o u : HO} (h : a ≠ b) : upd (upd H a o) b u = upd (upd H b u) a o := by
  funext c
  by_cases hb : c = b
  · subst hb
    rw [upd_same, upd_ne (Ne.symm h), upd_same]
  · rw [upd_ne hb]
    by_cases ha : c = a
    · subst ha; rw [upd_same, upd_same]
    · rw [upd_ne ha, upd_ne ha, upd_ne hb]
/-- the later fields -/
theorem fs_more {K : Frag} {C a d : Addr} {D : Ends} {σ : L2.St} {vs : List V} (T : OexC K C) (h0 : σ[0]? = some (some (.ref a))) (hda : d ≠ a) {H : Hp} : ∀ (fs : List (Str × Nat)) (done : List (Str × V)), (∀ p ∈ fs, PySem.W.findIn K (.ref C) p.1 = some none) → (∀ p ∈ fs, ∃ v, vs[p.2]? = some v ∧ σ[p.2]? = some (some v)) → done.length + fs.length ≤ 900 →
    D.nx σ (upd (upd H d (exd d ((fs.map fun p => (p.1, vs.getD p.2 .non)).reverse ++ done))) a (exo a C (some d))) → tFs K fs D σ (upd (upd H d (exd d done)) a (exo a C (some d)))
  | [], done, _, _, _, q => q
  | (f, i) :: fs, done, hn, hv, hz, q => by
    obtain ⟨v, e1, e2⟩ := hv (f, i) List.mem_cons_self
    refine ⟨v, e2, .ref a, h0, a, C, rfl, T, hn (f, i) List.mem_cons_self, .inr ⟨d, done, upd_same, by rw [upd_ne hda, upd_same], ?_, ?_⟩⟩
    · rw [List.length_cons] at hz; omega
    show tFs K fs D σ _
    have e : upd (upd (upd H d (exd d done)) a (exo a C (some d))) d (exd d ((f, v) :: done)) = upd (upd H d (exd d ((f, v) :: done))) a (exo a C (some d)) := by
      rw [upd_swap (Ne.symm hda), upd_upd]
    rw [e]
    refine fs_more T h0 hda fs ((f, v) :: done) (fun p hp => hn p (List.mem_cons_of_mem _ hp)) (fun p hp => hv p (List.mem_cons_of_mem _ hp)) (by rw [List.length_cons] at hz ⊢; omega) ?_
    rw [List.map_cons, List.reverse_cons, List.append_assoc] at q
    have ev : vs.getD i .non = v := by rw [List.getD_eq_getElem?_getD, e1]; rfl
    simp only [ev] at q
    exact q
/-- the def's promise -/
def spX (C : Addr) (np : Nat) (fs : List (Str × Nat)) : Sp := fun vs H Q _ => vs.length = np ∧ ∃ a, vs[0]? = some (.ref a) ∧ H a = some (exo a C none) ∧
  ∀ d, H d = none → d ≠ a → Q .non (upd (upd H d (exd d (fs.map fun p => (p.1, vs.getD p.2 .non)).reverse)) a (exo a C (some d)))
theorem fs_all {K : Frag} {C a : Addr} {D : Ends} {σ : L2.St} {vs : List V} (T : OexC K C) (h0 : σ[0]? = some (some (.ref a))) {H : Hp} (ha : H a = some (exo a C none)) {fs : List (Str × Nat)} (hne : fs ≠ []) (hn : ∀ p ∈ fs, PySem.W.findIn K (.ref C) p.1 = some none) (hv : ∀ p ∈ fs, ∃ v, vs[p.2]? = some v ∧ σ[p.2]? = some (some v)) (hz : fs.length ≤ 900)
    (q : ∀ d, H d = none → d ≠ a → D.nx σ (upd (upd H d (exd d (fs.map fun p => (p.1, vs.getD p.2 .non)).reverse)) a (exo a C (some d)))) : tFs K fs D σ H := by
  cases fs with
  | nil => exact absurd rfl hne
  | cons p fs =>
    obtain ⟨f, i⟩ := p
    obtain ⟨v, e1, e2⟩ := hv (f, i) List.mem_cons_self
    refine ⟨v, e2, .ref a, h0, a, C, rfl, T, hn (f, i) List.mem_cons_self, .inl ⟨ha, fun d hd hda => ?_⟩⟩
    refine fs_more T h0 hda fs [(f, v)] (fun p hp => hn p (List.mem_cons_of_mem _ hp)) (fun p hp => hv p (List.mem_cons_of_mem _ hp)) (by rw [List.length_cons] at hz; simp; omega) ?_
    have q := q d hd hda
    rw [List.map_cons, List.reverse_cons] at q
    have ev : vs.getD i .non = v := by rw [List.getD_eq_getElem?_getD, e1]; rfl
    simp only [ev] at q
    exact q
/-- the arguments of super().__init__ -/
def argB (N : List Str) (sc : Scope) (np : Nat) : Expr → Bool
  | .Constant (.str _) _ _ => true
  | .Name x _ => (N.take np).contains x && sc.names.lookup x == some .local && !(x == ("__debug__" : Str)) && !(x == ("__classdict__" : Str))
  | _ => false
theorem args_walk {X : Cx} {np : Nat} {σ : L2.St} {vs : List V} (hs : ∀ i < np, ∃ v, σ[i]? = some (some v)) : ∀ (es : List Expr), (∀ e ∈ es, argB X.N X.env.scope np e = true) → ∃ ta, PA X es ta ∧ ∀ H (Q : List V → Hp → Prop), (∀ vs, vs.length = es.length → Q vs H) → ta σ H Q
  | [], _ => ⟨tNil, pa_nil, fun H Q q => q [] rfl⟩
  | e :: es, h => by
    obtain ⟨ta, p, k⟩ := args_walk (vs := vs) hs es fun e he => h e (List.mem_cons_of_mem _ he)
    have he := h e List.mem_cons_self
    cases e with
    | Constant c j p0 =>
      cases c with
      | str m => exact ⟨tCons (tC (.str m)) ta, pa_cons pe_str p, fun H Q q => k H _ fun ws hl => q _ (by simp [hl])⟩
      | _ => cases he
    | Name x p0 =>
      simp only [argB, Bool.and_eq_true, beq_iff_eq, Bool.not_eq_true'] at he
      obtain ⟨⟨⟨h1, h2⟩, h3⟩, h4⟩ := he
      obtain ⟨i, hi, ei⟩ := List.getElem_of_mem (List.contains_iff_mem.mp h1)
      rw [List.length_take] at hi
      obtain ⟨v, ev⟩ := hs i (by omega)
      have eN : X.N[i]? = some x := by rw [List.getElem_take] at ei; rw [← ei]; exact List.getElem?_eq_getElem _
      exact ⟨tCons (tVar i) ta, pa_cons (pe_var eN (.inl h2) h3 h4) p, fun H Q q => ⟨v, ev, k H _ fun ws hl => q _ (by simp [hl])⟩⟩
    | _ => cases he
end Px

set_option autoImplicit false
set_option linter.all false
set_option maxRecDepth 100000
set_option maxHeartbeats 8000000
/-! Such an __init__: its promise. -/
namespace Px
open PySem L2 PySem.Spec PySem.Calls PyProof.Rows
open PySem.W (Frag kxs_mw KxsAt)
open NdefX
theorem argB_ns {N : List Str} {sc : Scope} {np : Nat} {e : Expr} (h : argB N sc np e = true) : ns e = true := by
  cases e with
  | Starred => cases h
  | _ => rfl
theorem init_ok {CX : CXT} {prog : Program} {w : World} {K : Frag} {mg : Str → Option Value} {base : Heap} {C fI : Addr} {fd : FuncData} {ps N : List Str} {body rest : List Stmt} {args0 : Expr} {args1 : List Expr} {fs : List (Str × Nat)} {k : Nat} {p0 p1 p2 p3 p4 : Pos} {ar : Arg}
    (D : InitF prog K C fI fd ps body) (S : NScope N ps ["__class__"] fd.scope) (hks : fd.scope.names.lookup ("super" : Str) = some .globalImplicit) (ms : mg "super" = none) (hb : body = .Expr (.Call (.Attribute (.Call (.Name "super" p0) [] [] p1) "__init__" p2) (args0 :: args1) [] p3) p4 :: rest)
    (har : (fd.params.posonlyargs ++ fd.params.args).head? = some ar) (h0 : ps[0]? = some ar.arg) (hne : fs ≠ []) (hargs : ∀ e ∈ args0 :: args1, argB N fd.scope ps.length e = true) (hsz : (args0 :: args1).length ≤ 1000) (hfs : FsOk N fd.scope rest fs) (hno : ∀ p ∈ fs, PySem.W.findIn K (.ref C) p.1 = some none)
    (hev : ∀ env : PySem.Env, ∃ pl : Sem Bool, eval (.Call (.Attribute (.Call (.Name "super" p0) [] [] p1) "__init__" p2) (args0 :: args1) [] p3) env = (do
      let ov ← attributeBase (.Call (.Name "super" p0) [] [] p1) "__init__" env (eval (.Call (.Name "super" p0) [] [] p1) env)
      standAt p2.atName
      let (f, first) ← holding [ov] (getMethod ov "__init__" pl)
      callWith p3 f first (backTo p3 (starEach (args0 :: args1) env)) []))
    (hix : ∀ p ∈ fs, p.2 < ps.length) (hl9 : fs.length ≤ 900) : FnOk prog w K mg base CX k fI fd ps (spX C ps.length fs) := by
  refine ⟨fun vs H Q E q => q.1, fun A outer s H args us vs Q E hr e0 hbind r hsp => ?_⟩
  obtain ⟨hl, a, ea, ha, fin⟩ := hsp
  obtain ⟨oc, od, osl, hfI⟩ := D.fn
  obtain ⟨cda, occ, odc, oslc, cvs, file, tf, hcode, hcda, hv2, hfile⟩ := D.file
  obtain ⟨cc, ocl, odl, osl2, hclo, hcc⟩ := D.cell
  have kin0 : K.In base := e0.mod.kin
  have kin : K.In s.heap := fun b o e => (e0.bs b o (kin0 b o e)).1
  have lim : s.heap.NoLimit := e0.mod.nolimit.keeps fun b o e => (e0.bs b o e).1
  let F : NF := ⟨fd.name, fd.qualname, fd.params, body, fd.scope, [(("__class__" : Str), cc)], cda⟩
  have eenv : callEnv fd s.heap.objs.size fI = envF F fI s.heap.objs.size := by
    unfold callEnv
    rw [D.glob, D.blts, hcode, hclo]
    rfl
  refine ks_codeAny_call_defAt (fd := fd) (body := body) (binds := ps.zip us) hr.depth (kin _ _ hfI) rfl lim (PySem.W.codeRec_of kin D.code) D.body hbind S.nocell (fun ⟨n, _⟩ hy => S.par n (List.of_mem_zip hy).1) (fun h₁ hns kp => ?_) S.co S.gen S.kind
  rw [eenv]
  have CA : CellsAt F.cl ["__class__"] [some (.ref C)] s.heap H := by
    have key : ∀ {y : Str} {c : Addr}, F.cl.lookup y = some c → y = "__class__" ∧ c = cc := by
      intro y c e
      have e : ([(("__class__" : Str), cc)] : List (Str × Addr)).lookup y = some c := e
      rw [List.lookup_cons] at e
      split at e
      · rename_i z
        cases e
        exact ⟨by simpa using z, rfl⟩
      · cases e
    refine ⟨rfl, fun y c e => ?_, fun x y c e1 e2 => (key e1).1.trans (key e2).1.symm, fun i y e => ?_⟩
    · rw [(key e).2]
      exact ⟨(e0.bs cc _ (kin0 _ _ hcc)).2, _, _, kin _ _ hcc, rfl⟩
    · cases i with
      | zero =>
        cases e
        exact ⟨cc, by show ([(("__class__" : Str), cc)] : List (Str × Addr)).lookup _ = _; rw [List.lookup_cons]; simp, fun v ev => by cases ev; exact ⟨.ref C, rfl, _, kin _ _ hcc, rfl⟩⟩
      | succ i => simp at e
  have I : Inv (ncx CX prog w K mg base N F fI A outer s H E) [] (startF N vs [some (.ref C)]) H { s with heap := h₁, toks := s.toks + (ps.zip us).length } := inv_startN S hr.hd e0 hl r CA hns kp
  generalize hX : ncx CX prog w K mg base N F fI A outer s H E = X at I
  have XK : X.K = K := by rw [← hX]; rfl
  have Xp : X.prog = prog := by rw [← hX]; rfl
  have Xw : X.w = w := by rw [← hX]; rfl
  have Xe : X.env = envF F fI s.heap.objs.size := by rw [← hX]; rfl
  have XA : X.A = A.deeper (envF F fI s.heap.objs.size) := by rw [← hX]; rfl
  have XN : X.N = N := by rw [← hX]; rfl
  have Xs : X.env.scope = fd.scope := by rw [Xe]
  have Xm : X.mg = mg := by rw [← hX]; rfl
  -- the slots
  have nlen : ps.length + 1 ≤ N.length := by
    have q := congrArg List.length S.pre
    rw [List.length_take, List.length_append] at q
    simp at q
    omega
  have slot : ∀ i < ps.length, ∃ v, vs[i]? = some v ∧ (startF N vs [some (.ref C)])[i]? = some (some v) := fun i hi => by
    have e := List.getElem?_eq_getElem (l := vs) (i := i) (by omega)
    exact ⟨vs[i], e, by unfold startF; rw [List.getElem?_append_left (by simp; omega), List.getElem?_map, e]; rfl⟩
  have lps : 0 < ps.length := by
    cases ps with
    | nil => simp at h0
    | cons _ _ => simp
  have hs0 : (startF N vs [some (.ref C)])[0]? = some (some (.ref a)) := by
    obtain ⟨v, e1, e2⟩ := slot 0 lps
    rw [ea] at e1
    cases e1
    exact e2
  obtain ⟨u0, hu0, ru0⟩ := r.get ea
  obtain rfl : u0 = Value.ref a := ru0
  have ndP : ps.Nodup := by
    have q := S.nd.sublist (List.take_sublist (ps.length + 1) N)
    rw [show ps.length + 1 = ps.length + (["__class__"] : List Str).length from rfl, S.pre] at q
    exact (List.nodup_append.mp q).1
  have hself : (ps.zip us).reverse.lookup ar.arg = some (.ref a) := zip_look ndP h0 hu0
  obtain ⟨cd, hcd, hal⟩ := D.mro
  obtain ⟨nm, qn, NN, bs, bm, sn, sub, ab, col, dd, k0, k1, k2, k3, k5, hCo, hbm⟩ := D.T.cls
  have kin1 : K.In h₁ := kin.keeps kp
  obtain ⟨t1, hax⟩ := exo_at I.hok ha
  have hax : h₁.get? a = some (HandSPX.excO C t1) := hax
  have hkc : fd.scope.names.lookup ("__class__" : Str) = some .free := S.frk _ (by simp)
  have hka : fd.scope.names.lookup ar.arg = some .local := S.par _ (List.mem_of_getElem? h0)
  obtain ⟨mb, hmb1, hmb2⟩ := e0.mod.blt
  subst hb
  obtain ⟨pl, hev⟩ := hev (envF F fI s.heap.objs.size)
  refine ks_wpAt_execs_cons (ks_wpAt_Expr_any (ks_wpAt_MethodCall (he := hev) (ks_wpAt_super_base (env := envF F fI s.heap.objs.size) hks hkc (by decide +kernel) rfl (kin1 _ _ hfI) rfl har rfl (kin1 _ _ hcda) rfl hv2 hfile D.sup ?_)) (hi := by rw [← Xe]; exact I.quiet))
  refine PySem.W.ks_loadName_global S.kind hks (loadGlobal_builtin (env := envF F fI s.heap.objs.size) (e0.mod.glob.keeps fun b o e => kp b o (e0.bs b o e).1) ms (hmb1.keeps fun b o e => kp b o (e0.bs b o e).1) ((hmb2 "super" (by decide +kernel)).trans (by decide +kernel)) ⟨rfl, ?_⟩)
  refine wpAny_loadName_free S.kind hkc rfl ⟨_, kin1 _ _ hcc, rfl⟩ ?_
  refine wpAny_loadName_local S.kind hka hns hself ?_
  have hCd : h₁.get? C = some (excClassObj nm qn C NN bs bm true sn sub ab col dd k0 k1 k2 k3 k5 "ValueError.__new__") := kin1 _ _ hCo
  refine ks_wpAny_isType_cls hCd rfl ⟨rfl, ?_⟩
  refine ks_wpAny_call_super hCd rfl hax rfl (fun c z => nomatch z) (PySem.W.looks_subIn kin1 D.self) (fun h2 eso k2 => ?_)
  have kin2 : K.In h2 := kin1.keeps k2
  have haC : a ≠ C := fun z => by
    rw [z, hCd] at hax
    cases hax
  have hax2 := k2 _ _ hax
  refine PySem.W.kxs_getMethod (l₀ := cd.mro) PySem.W.kxs_ValueError eso (PySem.W.looks_opaque kin2 D.any) ((PySem.W.looks_clsIn kin2 hcd).andThen .now) rfl kin2 hal ?_ haC (by decide +kernel) ?_
  · have LT : PySem.W.Looks (model prog w) h2 (typeOf (.ref a)) (.ref C) := fun A Q E s' k q => wpAny_typeOf_ref (k _ _ hax2) q
    exact LT.andThen (PySem.W.looks_subIn kin2 D.vE)
  -- the arguments
  have kept3 : ∀ b o, h₁.get? b = some o → (h2.push (kxs_mw "ValueError.__init__" a)).get? b = some o := fun b o e => Heap.get?_push_of_some _ (k2 _ _ e)
  have hsz2 : h₁.objs.size < h2.objs.size := Heap.lt_size eso
  have hu : (h2.push (kxs_mw "ValueError.__init__" a)).get? h2.objs.size = some (kxs_mw "ValueError.__init__" a) := Heap.get?_push_size _ rfl
  generalize hh3 : h2.push (kxs_mw "ValueError.__init__" a) = h3 at kept3 hu
  generalize hu2 : h2.objs.size = u at hu hsz2
  have I2 := I.kept (t' := s.toks + (ps.zip us).length + 1) kept3
  have fu : FpOk X [] H u := I.fpOk (Nat.le_of_lt hsz2) (I.hok.fresh (Nat.le_of_lt hsz2))
  have I3 := I2.pinned (fp := [u]) (fun b hb => by rw [List.mem_singleton.mp hb]; exact fu) (fun b hb => by rw [List.mem_singleton.mp hb]; exact ⟨_, hu, fun v z => nomatch z⟩)
  obtain ⟨ta, pa, kta⟩ := args_walk (X := X) (np := ps.length) (σ := startF N vs [some (.ref C)]) (vs := vs) (fun i hi => let ⟨v, _, e⟩ := slot i hi; ⟨v, e⟩) (args0 :: args1) (fun e he => by rw [XN, Xs]; exact hargs e he)
  have run := pa.run p3 _ _ (startF N vs [some (.ref C)]) H (fun ws H' => ws.length = (args0 :: args1).length ∧ H' = H) I3 (kta H _ fun ws hl => ⟨hl, rfl⟩)
  rw [Xp, Xw, XA, Xe] at run
  have ns0 : ns args0 = true := argB_ns (hargs args0 List.mem_cons_self)
  have ns1 : ∀ e ∈ args1, ns e = true := fun e he => argB_ns (hargs e (List.mem_cons_of_mem _ he))
  have Xx : X.xe = fun e s' => wpAny (model prog w) (A.deeper (envF F fI s.heap.objs.size)) (leaving (envF F fI s.heap.objs.size) e) (fun _ s'' => CR CX outer prog w H s Q E (.error e) s'') (fun e' s'' => CR CX outer prog w H s Q E (.error e') s'') s' := by rw [← hX]; rfl
  rw [Xx] at run
  show wpAny _ _ (callWith p3 (.ref u) [] (backTo p3 (starEach (args0 :: args1) (envF F fI s.heap.objs.size))) []) _ _ _
  have sc := star_cons (env := envF F fI s.heap.objs.size) (es := args1) ns0
  have sp := star_plain (pos := p3) (env := envF F fI s.heap.objs.size) (es := args1) (List.all_eq_true.mpr ns1)
  rw [sc] at run ⊢
  refine PySem.W.kxs_callWith (i := "ValueError.__init__") (x := a) (by show (false || (backTo p3 (starEach args1 (envF F fI s.heap.objs.size))).any (·.1)) = false; rw [sp]; rfl) ?_
  refine evalArgs_plain (wpAny_mono run (fun us4 s4 ⟨ws, H4, I4, rel, hlen, e4⟩ => ?_) fun _ _ z => z)
  rw [e4] at I4
  have hu4 : s4.heap.get? u = some (kxs_mw "ValueError.__init__" a) := (I4.pin (u, _) (List.mem_append_right _ (List.mem_append_right _ (mem_pinsAt (List.mem_singleton.mpr rfl) hu)))).1
  obtain ⟨t4, ha4⟩ := exo_at I4.hok ha
  have kin4 : K.In s4.heap := by rw [← XK]; exact I4.kIn
  refine ⟨hu4, ?_⟩
  have hzz : us4.length ≤ sizeLine := by
    rw [← Vals.length rel, hlen, sizeLine_eq]
    omega
  refine xs_call D.T kin4 ha4 hu4 hzz fun h5 t5 k5 e5 => ?_
  have J := I4.unpinned.write (t' := s4.toks) (x := a) (e := a) (o := exo a C none) (by rw [ha]; exact True.intro) (.inl rfl) k5 ⟨_, e5⟩ (exo_ok e5)
  have eu : upd H a (exo a C none) = H := by
    funext b
    by_cases hb : b = a
    · rw [hb, upd_same, ha]
    · rw [upd_ne hb]
  rw [eu] at J
  have hfs' : FsOk X.N X.env.scope rest fs := by rw [XN, Xs]; exact hfs
  have walk := (fs_walk hfs').run [] _ (startF N vs [some (.ref C)]) H { nx := fun _ H' => Q .non H', rt := Q } J (by
    rw [XK]
    exact fs_all D.T hs0 ha hne hno (fun p hp => slot p.2 (hix p hp)) hl9 fin)
  rw [Xp, Xw, XA, Xe, Xx] at walk
  refine wpAt_of_wpAny (wpAny_mono walk (fun fl s' hs => ?_) fun e s' z => z)
  have fin2 : ∀ {σ' : L2.St} {H' : Hp} {v : V} {u : Value}, Inv X [] σ' H' s' → L2.RelV v u → Q v H' → CE outer prog w H s Q u s' := by
    rw [← hX]
    exact fun {σ' H' v u} J rv q => ⟨v, H', J.os, J.bare, J.base, J.hok, rv, q⟩
  cases fl with
  | ret u =>
    obtain ⟨v, σ', H', J, rv, q⟩ := hs
    exact fin2 J rv q
  | next =>
    obtain ⟨σ', H', J, q⟩ := hs
    exact fin2 (v := V.non) (u := Value.none) J rfl q
  | brk =>
    obtain ⟨_, _, _, q⟩ := hs
    exact False.elim q
  | cont =>
    obtain ⟨_, _, _, q⟩ := hs
    exact False.elim q
end Px

set_option autoImplicit false
set_option linter.all false
set_option maxRecDepth 100000
set_option maxHeartbeats 4000000
/-! raise. -/
namespace Px
open PySem L2 PySem.Spec PySem.Calls PyProof.Rows
open PySem.W (Frag)
/-- an own __init__, by its promise -/
structure OwnI (prog : Program) (K : Frag) (mg : Str → Option Value) (c : Str) (i : ExcI) : Prop where
  T : OexC K (He.ga K c)
  few : i.np ≤ 900
  ix : ∀ p ∈ i.fields, p.2 < i.np
  nd : (i.fields.map (·.1)).Nodup
  ex : ∃ (fI : Addr) (fd : FuncData) (ps : List Str) (dV : List V) (dU : List Value), (∀ (w : World) (base : Heap) (k : Nat), FnOk prog w K mg base CX0 k fI fd ps (spX (He.ga K c) ps.length (i.fields.map fun p => (p.1, p.2 + 1)))) ∧
    PySem.W.findIn K (.ref (He.ga K c)) "__init__" = some (some (.ref fI)) ∧ PySem.W.typeIn K (.ref fI) = some (.type "function") ∧ ps.length = i.np + 1 ∧ Vals dV dU ∧ (∀ F ρ, RepL F ρ i.dfl dV) ∧ ∀ j, Binds K fd ps (dU.drop j)
/-- what the written part says of an own exception class -/
structure ExcOk (P : Prog) (g : TrG) (prog : Program) (K : Frag) (mg : Str → Option Value) (c : Str) : Prop where
  mgf : mg c = some (.ref (He.ga K c))
  kp : PySem.W.keepIn K (.ref (He.ga K c)) = true
  exB : PySem.W.subIn K (.ref (He.ga K c)) (.type "BaseException") = some true
  ty : PySem.W.typeIn K (.ref (He.ga K c)) = some (.type "type")
  sub : ∃ l, P.sub.lookup c = some l ∧ ∀ c', g.excs.contains c' = true → PySem.W.subIn K (.ref (He.ga K c)) (.ref (He.ga K c')) = some (l.contains c')
  xc : ExcC K (He.ga K c)
  xf : XfC K (He.ga K c)
  dbg : (c == ("__debug__" : Str)) = false
  self : PySem.W.subIn K (.ref (He.ga K c)) (.ref (He.ga K c)) = some true
  made : ∃ i, P.exc.lookup c = some i ∧ ((i.plain = true ∧ PySem.W.excIn K (He.ga K c) He.veBase "ValueError.__new__" = true) ∨ (i.plain = false ∧ OwnI prog K mg c i ∧ ∀ p ∈ i.fields, PySem.W.findIn K (.ref (He.ga K c)) p.1 = some none))
section
variable {X : Cx}
/-- C(..), the arguments there -/
theorem oex_call {C fI : Addr} {k : Nat} {fd : FuncData} {ps : List Str} {sp : Sp} {ds : List Value} {dvs : List V} {pins : List (Addr × Obj)} {σ : L2.St} {H : Hp} {Q : XK} {s : Shared} {vs : List V} {us : List Value} (T : OexC X.K C) (iC : PySem.W.findIn X.K (.ref C) "__init__" = some (some (.ref fI))) (tI : PySem.W.typeIn X.K (.ref fI) = some (.type "function"))
    (F1 : FnOk X.prog X.w X.K X.mg X.base CX0 k fI fd ps sp) (hr : Room (k + 1) X.A) (hb : Binds X.K fd ps ds) (hd : Vals dvs ds) (I : Inv X pins σ H s) (r : Vals vs us) (hz : vs.length ≤ 1000)
    (q : ∀ a, H a = none → sp (.ref a :: (vs ++ dvs)) (upd H a (exo a C none)) (fun v H2 => v = .non ∧ ∃ (d : Addr) (fs : List (Str × V)), H2 a = some (exo a C (some d)) ∧ H2 d = some (exd d fs) ∧ H d = none ∧ Q (.ref C) (some d) (upd (del H2 a) d (.xd fs))) (fun _ _ _ => False)) :
    wpAny (model X.prog X.w) X.A (call (.ref C) us) (MkP X pins σ Q) X.xe s := by
  obtain ⟨nm, qn, N, bs, bm, sn, sub, ab, col, dd, k0, k1, k2, k3, k5, hC, hbm⟩ := T.cls
  obtain ⟨hp, g, dr, tk, os⟩ := s
  have lt := Nat.le_succ hp.objs.size
  have hq := q (hp.objs.size + 1) (I.hok.fresh lt)
  let h2 := (hp.push (PySem.W.kdv_tup us)).push (PySem.HandSPX.excO C hp.objs.size)
  have keep : ∀ b o, hp.get? b = some o → h2.get? b = some o := fun b o e => Heap.get?_push_of_some _ (Heap.get?_push_of_some _ e)
  have atN : h2.get? (hp.objs.size + 1) = some (PySem.HandSPX.excO C hp.objs.size) := by show Heap.get? (Heap.push _ _) _ = _; heap_get
  have I2 : Inv X pins σ (upd H (hp.objs.size + 1) (exo (hp.objs.size + 1) C none)) ⟨h2, g, dr, tk, os⟩ := I.laid (t' := tk) (a := hp.objs.size + 1) keep lt (exo_ok atN)
  have rel : Vals (V.ref (hp.objs.size + 1) :: (vs ++ dvs)) (Value.ref (hp.objs.size + 1) :: (us ++ ds)) := .cons rfl (r.append hd)
  have len : (Value.ref (hp.objs.size + 1) :: us ++ ds).length = ps.length := (F1.len _ _ _ _ hq ▸ rel.length).symm
  have lus : us.length ≤ sizeLine := by rw [← r.length, sizeLine_eq]; omega
  refine wpAny_call (PySem.HandSPX.call_own PySem.F.excBase_ValueError (fun Y => PySem.HandSPX.refsVE_contains Y bm hbm) (I.kIn _ _ hC) (PySem.W.looks_findIn I.kIn iC) (fun self => PySem.W.bind_fn I.kIn self tI) lus
    (codeAny_mono (F1.run _ X.stack _ _ ⟨Value.ref (hp.objs.size + 1) :: us, []⟩ _ _ _ (fun _ _ _ => False) (hr.make C us []) (I2.env0.make C us []) (hb _ (Value.ref (hp.objs.size + 1) :: us) I2.kIn len) rel hq) fun res s' hq' => ?_))
  cases res with
  | error er => exact False.elim hq'
  | ok fl =>
    cases fl with
    | ret u =>
      obtain ⟨v, H2, os2, bare2, un2, hok2, rv, ev, d, fs, e1, e2, e3, q2⟩ := hq'
      subst ev
      obtain ⟨h4, g2, d2, t2, os'⟩ := s'
      exact ⟨rv, mk_end (raises_own T.exC T.tyC) I lt keep un2 hok2 os2 bare2 e1 e2 e3 q2⟩
    | next => exact False.elim hq'
    | brk => exact False.elim hq'
    | cont => exact False.elim hq'
/-- C(e, ..) -/
def oexT (X : Cx) (C : Addr) (sp : Sp) (fd : FuncData) (ps : List Str) (Q : XK) : List V → Hp → Prop := fun vs H1 => vs.length ≤ 1000 ∧ ∃ (ds : List Value) (dvs : List V), Binds X.K fd ps ds ∧ Vals dvs ds ∧ ∀ a, H1 a = none → sp (.ref a :: (vs ++ dvs)) (upd H1 a (exo a C none)) (fun v H2 => v = .non ∧ ∃ (d : Addr) (fs : List (Str × V)), H2 a = some (exo a C (some d)) ∧ H2 d = some (exd d fs) ∧ H1 d = none ∧ Q (.ref C) (some d) (upd (del H2 a) d (.xd fs))) (fun _ _ _ => False)
theorem pmk_oexA {x : Str} {C fI : Addr} {k : Nat} {fd : FuncData} {ps : List Str} {sp : Sp} {ta : TA} {es : List Expr} {p pos : Pos} (T : OexC X.K C) (iC : PySem.W.findIn X.K (.ref C) "__init__" = some (some (.ref fI))) (tI : PySem.W.typeIn X.K (.ref fI) = some (.type "function"))
    (F1 : FnOk X.prog X.w X.K X.mg X.base CX0 k fI fd ps sp) (hr : Room (k + 1) X.A) (hg : Gl X x) (hm : X.mg x = some (.ref C)) (hdb : (x == ("__debug__" : Str)) = false) (hn : ∀ e ∈ es, ns e = true) (ha : PA X es ta) (h0 : es = [] → ∀ σ H Q, ta σ H Q → Q [] H) :
    PMk X (.Call (.Name x p) es [] pos) (fun σ H Q => ta σ H (oexT X C sp fd ps Q)) := by
  intro pins s σ H Q I h
  refine wpAny_Call_Name_kw (ld_glob I hg hm ?_ hdb)
  cases es with
  | nil =>
    obtain ⟨hz, ds, dvs, hb, hd, q1⟩ := h0 rfl σ H _ h
    exact PySem.W.callWith_K0 I.kIn T.kC (oex_call T iC tI F1 hr hb hd I .nil hz q1)
  | cons e es =>
    refine PySem.W.callWith_K (h₀ := X.base) I.ok.mod.kin T.kC (thn (ha.run pos pins s σ H _ I h) fun us s1 ⟨vs, H1, I1, r1, hz, ds, dvs, hb, hd, q1⟩ => ⟨I1.kIn, ?_⟩) (star_cons (hn e List.mem_cons_self)) (star_plain (List.all_eq_true.mpr fun e he => hn e (List.mem_cons_of_mem _ he)))
    exact oex_call T iC tI F1 hr hb hd I1 r1 hz q1
end
theorem lookup_rev {α : Type} {f : Str} {v : α} : ∀ {l : List (Str × α)}, (l.map (·.1)).Nodup → l.lookup f = some v → l.reverse.lookup f = some v
  | [], _, e => by cases e
  | (g, w) :: l, nd, e => by
    rw [List.map_cons, List.nodup_cons] at nd
    rw [List.reverse_cons, List.lookup_append]
    rw [List.lookup_cons] at e
    split at e
    · rename_i hg
      have hg : f = g := by simpa using hg
      cases e
      have : l.reverse.lookup f = none := by
        cases q : l.reverse.lookup f with
        | none => rfl
        | some z =>
          have m := List.mem_reverse.mp (PySem.mem_of_lookup q)
          exact absurd (List.mem_map.mpr ⟨_, m, rfl⟩) (hg ▸ nd.1)
      rw [this, hg]
      simp [List.lookup]
    · rw [lookup_rev nd.2 e]
      rfl
theorem lookup_fields {α β : Type} {f : Str} {d : β} {vs : List α} {ds : List β} {R : β → α → Prop} (dv : α) (dd : β) (hR : ∀ i, i < ds.length → R (ds.getD i dd) (vs.getD (i + 1) dv)) : ∀ {l : List (Str × Nat)}, (∀ p ∈ l, p.2 < ds.length) → (l.map fun p => (p.1, ds.getD p.2 dd)).lookup f = some d →
    ∃ v, (l.map fun p => (p.1, vs.getD (p.2 + 1) dv)).lookup f = some v ∧ R d v
  | [], _, e => by cases e
  | (g, i) :: l, hl, e => by
    rw [List.map_cons, List.lookup_cons] at e ⊢
    split at e
    · rename_i hg
      cases e
      exact ⟨_, rfl, hR i (hl _ List.mem_cons_self)⟩
    · exact lookup_fields dv dd hR (fun p hp => hl p (List.mem_cons_of_mem _ hp)) e
end Px

set_option autoImplicit false
set_option linter.all false
set_option maxRecDepth 100000
set_option maxHeartbeats 4000000
/-! raise: the rule. -/
namespace Px
open PySem L2 PySem.Spec PySem.Calls PyProof.Rows
/-- a place in a def's body -/
structure SOk (P : Prog) (g : TrG) (N : List Str) (n : Nat) (E : XK) (sc : Scope) (X : Cx) : Prop extends XOk P g N n (Wk E) sc X where
  scope : X.env.scope = sc
  kind : sc.kind = .function
  owns : PassesOwn (model X.prog X.w) X.A X.env X.xe
  stk : X.stack = X.env :: X.outer
  frm : X.env.frame = some X.env.locals
  excs : ∀ c, g.excs.contains c = true → ExcOk P g X.prog X.K X.mg c
  subs : ∀ c l, P.sub.lookup c = some l → g.excs.contains c = true
theorem mk_inv {g : TrG} {N : List Str} {sc : Scope} {m : Nat} {e : Expr} {c : Str} {es' : List Ex} (h : trMk g N sc m e = some (c, es')) : ∃ (p : Pos) (args : List Expr) (pos : Pos), e = .Call (.Name c p) args [] pos ∧ glb sc c = true ∧ g.excs.contains c = true ∧ trL (trE g N m sc) args = some es' := by
  unfold trMk at h
  split at h
  · rename_i c2 p args pos
    split at h
    · rename_i hh
      rw [Bool.and_eq_true] at hh
      cases q : trL (trE g N m sc) args with
      | none => rw [q] at h; cases h
      | some es =>
        rw [q] at h
        cases h
        exact ⟨_, _, _, rfl, hh.1, hh.2, q⟩
    · cases h
  · cases h
section
variable {P : Prog} {g : TrG} {N : List Str} {n : Nat}
theorem st_raiseX {m : Nat} {E : XK} {sc : Scope} {X : Cx} (o : SOk P g N n E sc X) (base : Nat) {e : Expr} {c : Str} {es' : List Ex} {pos : Pos} (h : trMk g N sc m e = some (c, es')) : PS X (.Raise (some e) none pos) (tS X.K base E (eSt (cx P n) base (.raise c es'))) := by
  obtain ⟨p, args, pos2, rfl, h1, h2, h3⟩ := mk_inv h
  obtain ⟨hns, hlen, pa⟩ := snd_args (snd_E m) o.toXOk base h3
  have k := o.excs c h2
  have hg : Gl X c := o.glb h1
  have ra : Raises X (.ref (He.ga X.K c)) := raises_own k.exB k.ty
  obtain ⟨i, hi, hmade⟩ := k.made
  rcases hmade with ⟨hp, hx⟩ | ⟨hp, O, nf⟩
  · cases args with
    | nil =>
      refine ⟨fun pins s σ H D I ⟨F, ρ, h, env, R, re, hl, out⟩ => ?_⟩
      cases trL_nil h3
      have hi' : (cx P n).exc.lookup c = some i := hi
      simp only [eSt, exec, evEs, bind_at, bind_ok, ret_at, mkExn, hi', hp, if_true] at out
      exact out.elim
    | cons a as =>
      rw [List.all_cons, Bool.and_eq_true] at hns
      refine (ps_raise o.calm o.tk (pmk_ownA PySem.F.excBase_ValueError hx k.mgf k.kp ra hg pa k.dbg (star_cons hns.1) (star_plain hns.2))).weak fun D σ H ⟨F, ρ, h, env, R, re, hl, out⟩ => ?_
      simp only [eSt, exec, bind_at, Res.bind_assoc] at out
      refine ⟨F, ρ, h, env, R, re, hl, out.bind.imp fun xs h1 F1 ρ1 H1 e1 l1 p1 R1 o1 vs rvs => ?_⟩
      have hi' : (cx P n).exc.lookup c = some i := hi
      simp only [mkExn, hi', hp, if_true] at o1
      split at o1
      · refine ⟨?_, o1 F1 ρ1 H1 none (Le.refl _) (Pre.refl _) R1 (.inl ⟨rfl, rfl⟩)⟩
        rw [rvs.length, sizeLine_eq]
        simp
      · exact o1.elim
  · obtain ⟨fI, fd, ps, dV, dU, Fn, iC, tI, hps, rd, hd, hb⟩ := O.ex
    refine (ps_raise o.calm o.tk (pmk_oexA O.T iC tI (Fn X.w X.base n) o.rm hg k.mgf k.dbg (fun e he => List.all_eq_true.mp hns e he) pa (fun e0 σ H Q q => ?_))).weak fun D σ H ⟨F, ρ, h, env, R, re, hl, out⟩ => ?_
    · subst e0
      cases trL_nil h3
      obtain ⟨F, ρ, h, env, R, re, hl, out⟩ := q
      simp only [eXs, evEs] at out
      exact Out.here out R [] rfl
    · simp only [eSt, exec, bind_at, Res.bind_assoc] at out
      refine ⟨F, ρ, h, env, R, re, hl, out.bind.imp fun xs h1 F1 ρ1 H1 e1 l1 p1 R1 o1 vs rvs => ?_⟩
      have hi' : (cx P n).exc.lookup c = some i := hi
      simp only [mkExn, hi', hp, Bool.false_eq_true, if_false] at o1
      split at o1
      · rename_i hle
        split at o1
        · rename_i hall
          have lx := rvs.length
          have few := O.few
          refine ⟨by omega, dU.drop (xs.length + i.dfl.length - i.np), dV.drop (xs.length + i.dfl.length - i.np), hb _, rd.drop _, fun a ha => ?_⟩
          have ral : RepL F1 ρ1 (xs ++ i.dfl.drop (xs.length + i.dfl.length - i.np)) (vs ++ dV.drop (xs.length + i.dfl.length - i.np)) := rvs.append ((hd F1 ρ1).drop _)
          generalize xs ++ i.dfl.drop (xs.length + i.dfl.length - i.np) = all at hall ral o1
          generalize vs ++ dV.drop (xs.length + i.dfl.length - i.np) = av at ral
          have lav := ral.length
          refine ⟨by rw [List.length_cons, lav, hall, hps], a, rfl, upd_same, fun d hdn hda => ⟨rfl, d, _, upd_same, by rw [upd_ne hda, upd_same], by rw [upd_ne hda] at hdn; exact hdn, ?_⟩⟩
          have hd1 : H1 d = none := by rw [upd_ne hda] at hdn; exact hdn
          have eH : ∀ u w z : HO, upd (del (upd (upd (upd H1 a u) d w) a z) a) d = upd H1 d := fun u w z => by
            funext o2 b
            by_cases hb : b = d
            · rw [hb, upd_same, upd_same]
            · rw [upd_ne hb, upd_ne hb]
              by_cases hba : b = a
              · rw [hba, del_same, ha]
              · rw [del_ne hba, upd_ne hba, upd_ne hb, upd_ne hba]
          rw [eH]
          obtain ⟨R2, l2⟩ := R1.froze (o := .xd ((List.map (fun p : Str × Nat => (p.1, (V.ref a :: av).getD p.2 V.non)) (List.map (fun p : Str × Nat => (p.1, p.2 + 1)) i.fields)).reverse)) hd1
          refine o1 _ ρ1 _ (some d) l2 (Pre.refl _) R2 (.inr ⟨d, _, rfl, upd_same, fun f dd e => ?_⟩)
          obtain ⟨v, ev, rv⟩ := lookup_fields (vs := V.ref a :: av) (ds := all) (R := fun dd v => Rep F1 ρ1 dd v) V.non Px.D.non (fun j hj => by
            have q1 := List.getElem?_eq_getElem hj
            obtain ⟨w, q2, q3⟩ := ral.get q1
            rw [List.getD_eq_getElem?_getD, q1, List.getD_eq_getElem?_getD, List.getElem?_cons_succ, q2]
            exact q3) (fun p hp => by rw [hall]; exact O.ix p hp) e
          refine ⟨?_, v, lookup_rev ?_ ?_, Rep.mono l2 (Pre.refl _) _ _ rv⟩
          · obtain ⟨p, hp2, ep⟩ := List.mem_map.mp (PySem.mem_of_lookup e)
            have ep : p.1 = f := congrArg Prod.fst ep
            rw [← ep]
            exact nf p hp2
          · rw [List.map_map, List.map_map]
            exact O.nd
          · rw [List.map_map]
            exact ev
        · exact o1.elim
      · exact o1.elim
end
end Px

set_option autoImplicit false
set_option linter.all false
set_option maxRecDepth 100000
set_option maxHeartbeats 4000000
/-! isinstance of a caught error that may have a dict. -/
namespace Px
open PySem PySem.Spec PySem.Calls PyProof.Rows L2
open PySem.W (Frag InstAt KitX findIn findObj specialIn takesIn subIn mroIn hasDictIn clsIn any_some looks_findIn looks_find looks_subIn Looks class_get check_slot)
section
variable {prog : Program} {w : World} {A : Around} {E : Value → Shared → Prop} {s : Shared} {K : Frag} {x D : Addr} {ox : Obj} {od : Option Obj}
theorem fo_class {C : Addr} {nm : Str} {a g : Value} (hc : (clsIn K C).isSome = true) (ha : findIn K (.ref C) nm = some (some a)) (hg : specialIn K a "__get__" = some (some g)) (ht : takesIn K a = some true) : findObj K C od nm = some (.bind g a) := by
  obtain ⟨cd, hc⟩ := Option.isSome_iff_exists.mp hc
  unfold findObj
  simp [hc, ha, hg, ht]
/-- x.__class__ -/
theorem ix_class {Q : Option Value → Shared → Prop} (C : ExcC K D) (X : K.In s.heap) (I : InstAt s.heap x ox D od) (h : Q (some (.ref D)) { s with toks := s.toks + 1 }) : wpAny (model prog w) A (getAttr? (.ref x) "__class__") Q E s := by
  have hf : findObj K D od "__class__" = some (.bind (.builtin "getset_descriptor.__get__") (.builtin "object.__class__")) := fo_class (by obtain ⟨cd, hc, _⟩ := any_some C.hd; rw [hc]; rfl) C.ha C.hn C.ht
  obtain ⟨hp, g, d, t, os⟩ := s
  have ty := I.type (M := model prog w)
  have fga := looks_findIn (M := model prog w) X C.hg
  have fgt := looks_findIn (M := model prog w) X C.hk
  have fnd := looks_find (M := model prog w) X I hf
  have sub : Looks (model prog w) hp (isInstance (.ref x) (.type "BaseException")) true := ty.andThen (looks_subIn X C.hs)
  have n0 : (false && onTheHeap (Value.builtin "BaseException.__getattribute__")) = false := rfl
  have n1 : (onTheHeap (Value.ref D) && Value.builtin "BaseException.__getattribute__" == Value.builtin "object.__getattribute__") = false := by
    rw [show (Value.builtin "BaseException.__getattribute__" == Value.builtin "object.__getattribute__") = false by decide +kernel]; rfl
  unfold getAttr? getAttrBy? getAttrBy
  refine wpAny_bind (wpAny_mkText (wpAny_bind (wpAny_attempt (wpAny_holding (wpAny_bind (ty.at (wpAny_bind (fga.at ?_))))))))
  show wpAny _ _ (if (onTheHeap (Value.ref D) && Value.builtin "BaseException.__getattribute__" == Value.builtin "object.__getattribute__") = true then _ else _) _ _ _
  rw [n1, if_neg Bool.false_ne_true]
  unfold getAttrByItsOwn hookBefore
  refine wpAny_bind ?_
  rw [if_pos (show onTheHeap (Value.ref D) = true from rfl)]
  refine fgt.at (wpAny_bind (wpAny_attempt (wpAny_holding ?_)))
  unfold callGetattribute
  rw [n0, if_neg Bool.false_ne_true]
  unfold boundAndCalled
  rw [PySem.F.excAttr_ValueError.ga.bind (.ref x)]
  refine wpAny_bind (wpAny_pure ?_)
  show wpAny _ _ (call (.builtin "BaseException.__getattribute__") [.ref x, .str "__class__" t]) _ _ _
  refine wpAny_call (codeAny_call_builtin PySem.F.excAttr_ValueError.ga.plain PySem.F.entry_bexc_ga ?_)
  refine @check_slot (model prog w) _ _ ⟨hp, g, d, t + 1, os⟩ "BaseException.__getattribute__" "BaseException" "__getattribute__" (.ref x) [.str "__class__" t] [] _ (by decide +kernel) (by decide +kernel) sub (PySem.F.args_bexc_ga (.ref x) (.str "__class__" t)) ?_
  unfold Builtin.«object.__getattribute__»
  refine wpAny_bind (wpAny_of_eq (a := ((Value.ref x : Value), [Value.str "__class__" t])) (by first | rfl | (simp only [slotArgs]; rfl)) (wpAny_bind (wpAny_pure (wpAny_bind (ty.at (wpAny_bind (fnd.at ?_)))))))
  show wpAny _ _ (holding [Value.builtin "object.__class__"] (call (.builtin "getset_descriptor.__get__") [.builtin "object.__class__", .ref x, .ref D]) >>= PySem.ret) _ _ _
  refine wpAny_bind (wpAny_holding (wpAny_call (class_get (s := ⟨hp, g, d, t + 1, os⟩) (ox := ox) (od := od) X I C.hm (wpAny_pure ?_))))
  show wpAny _ _ (handedOut (.ref D)) _ _ _
  rw [PySem.W.handedOut_of (v := .ref D) rfl]
  first
    | exact wpAny_pure (wpAny_pure h)
    | exact wpAny_pure h
    | exact wpAny_pure (wpAny_bind (wpAny_pure (wpAny_pure h)))
theorem ix_kit (C : ExcC K D) : KitX K (.ref x) (.ref D) (fun h => InstAt h x ox D od) where
  ty := fun _ _ _ I => I.type
  it := fun _ h X _ => by
    obtain ⟨cd, hc, _⟩ := any_some C.hd
    unfold clsIn at hc
    split at hc
    · rename_i c' d' cd' sl' ho
      intro A' Q' E' s' k q
      unfold isType loadHead
      exact wpAny_bind (wpAny_loadPart (k _ _ (X _ _ ho)) (wpAny_pure q))
    · cases hc
  ne := fun h tp dd its n sl X htp => by
    obtain ⟨cd, hc, _⟩ := any_some C.hd
    refine Bool.eq_false_iff.mpr fun q => ?_
    have e : D = tp := Value.ref.inj (beq_iff_eq.mp q)
    subst e
    unfold clsIn at hc
    split at hc
    · rename_i c' d' cd' sl' ho
      have z := (X _ _ ho).symm.trans htp
      cases z
    · cases hc
  ca := fun X I k => ix_class C X I k
end
/-- isinstance(e, c) -/
theorem call_isX {X : Cx} {a D : Addr} {oe : Obj} {dd : Option Addr} {pn : List (Addr × Obj)} (C : ExcC X.K D) (hz : Zc (.ref D) dd oe) (hf : ∃ vs, oe.data = .fields vs) :
    CallR (X.suite a ((a, oe) :: pn)) (.builtin "isinstance") (fun xs H Q => ∃ (c : V) (cv : Value) (b : Bool), xs = [.ref a, c] ∧ (∀ u, RelV c u → u = cv) ∧ PySem.W.kitOne X.K (.ref D) cv = some b ∧ (∀ d, dd = some d → ∃ gs, H d = some (.xd gs)) ∧ Q (.bl b) H) := by
  intro pins s σ H xs us Q I r ⟨c, cv, b, ex, hcv, e, hd, q⟩
  subst ex
  cases r with
  | cons rx rr =>
  cases rr with
  | cons rt rr =>
  cases rr
  cases rx
  cases hcv _ rt
  obtain ⟨hget, _⟩ := I.pin (a, oe) (List.mem_append.mpr (.inl List.mem_cons_self))
  obtain ⟨vs, hv⟩ := hf
  have J : ∃ od, InstAt s.heap a oe D od := by
    cases dd with
    | none => exact ⟨none, hget, hz.1, by unfold PySem.W.notCls; rw [hv] <;> rfl, by rw [hz.2]; exact True.intro⟩
    | some d =>
      obtain ⟨gs, hg⟩ := hd d rfl
      obtain ⟨mA, hns, hr⟩ := (show ObjOk X.prog X.w H s.heap d (.xd gs) from I.hok d _ hg)
      obtain ⟨od, ho, hl⟩ := lookIn_ns hns
      exact ⟨some od, hget, hz.1, by unfold PySem.W.notCls; rw [hv] <;> rfl, by rw [hz.2]; exact ho⟩
  obtain ⟨od, J⟩ := J
  exact PySem.W.kia_one (ix_kit (od := od) C) I.kIn J e (fun z => nomatch z) fun tk => ⟨.bl b, H, I.kept (t' := tk) fun _ _ z => z, rfl, q⟩
end Px

set_option autoImplicit false
set_option linter.all false
set_option maxRecDepth 100000
set_option maxHeartbeats 4000000
/-! try .. except C as x: the suite. -/
namespace Px
open PySem L2 PySem.Spec PySem.Calls PyProof.Rows
open PySem.W (Frag)
/-- the state in an except suite: slot i is the exception, at a -/
structure UI (K : Frag) (base : Nat) (a : Addr) (i : Nat) (x : Exn) (dd : Option Addr) (F : FF) (ρ : List Addr) (h : Hh) (env : Px.Env) (σ : L2.St) (H : Hp) : Prop where
  R : Rel K F ρ H h
  sl : σ[i]? = some (some (.ref a))
  en : env[i]? = some (some (.exn x.cls x.fs))
  hl : base ≤ h.length
  d : (x.fs = [] ∧ dd = none) ∨ ∃ d gs, dd = some d ∧ F.f d = some (.xd gs) ∧ ∀ f y, x.fs.lookup f = some y → PySem.W.findIn K (.ref (He.ga K x.cls)) f = some none ∧ ∃ v, gs.lookup f = some v ∧ Rep F ρ y v
theorem UI.mono {K : Frag} {base : Nat} {a : Addr} {i : Nat} {x : Exn} {dd : Option Addr} {F F' : FF} {ρ ρ' : List Addr} {h h' : Hh} {env : Px.Env} {σ : L2.St} {H H' : Hp} (u : UI K base a i x dd F ρ h env σ H) (l : Le F F') (p : Pre ρ ρ') (R : Rel K F' ρ' H' h') (hl : base ≤ h'.length) : UI K base a i x dd F' ρ' h' env σ H' :=
  ⟨R, u.sl, u.en, hl, u.d.imp id fun ⟨d, gs, h1, h2, h3⟩ => ⟨d, gs, h1, l.l _ _ h2, fun f y e => ⟨(h3 f y e).1, let ⟨v, q1, q2⟩ := (h3 f y e).2; ⟨v, q1, Rep.mono l p _ _ q2⟩⟩⟩⟩
section
variable (K : Frag) (base : Nat) (a : Addr) (i : Nat) (x : Exn) (dd : Option Addr) (E : XK)
def tU (m : Px.Env → M D) : TE := fun σ H Q => ∃ F ρ h env, UI K base a i x dd F ρ h env σ H ∧ Out K F ρ (m env h) (fun d F' ρ' H' _ => ∀ v, Rep F' ρ' d v → Q v H') E
def tUs (m : Px.Env → M (List D)) : TA := fun σ H Q => ∃ F ρ h env, UI K base a i x dd F ρ h env σ H ∧ Out K F ρ (m env h) (fun ds F' ρ' H' _ => ∀ vs, RepL F' ρ' ds vs → Q vs H') E
def tUt (m : Px.Env → M Bool) : TT := fun σ H Q => ∃ F ρ h env, UI K base a i x dd F ρ h env σ H ∧ Out K F ρ (m env h) (fun b F' ρ' H' _ => Q b H') E
def tUS (m : Px.Env → M (Flow × Px.Env)) : TS := fun D σ H => ∃ F ρ h env, UI K base a i x dd F ρ h env σ H ∧ Out K F ρ (m env h) (fun p F' ρ' H' _ => match p.1 with
  | .ret d => ∀ v, Rep F' ρ' d v → D.rt v H'
  | _ => True) E
end
section
variable {P : Prog} {g : TrG} {N : List Str} {n : Nat} {X : Cx} {base i : Nat} {a : Addr} {x : Exn} {dd : Option Addr} {E : XK} {oe : Obj} {pn : List (Addr × Obj)}
theorem u_lit {k : Const} {j : Nat} {pos : Pos} {d : D} (e : litOf k = some d) : PE X (.Constant k j pos) (tU X.K base a i x dd E (eX (cx P n) base (.lit d))) :=
  (s_lit (X := X) (c := cx P n) (base := base) (W := Wk E) e).weak fun σ H Q ⟨F, ρ, h, env, u, out⟩ => by
    refine ⟨F, ρ, h, List.replicate σ.length none, u.R, ⟨by simp, fun j d e => ?_⟩, u.hl, ?_⟩
    · rw [List.getElem?_replicate] at e
      split at e <;> cases e
    · simp only [eX, evE] at out ⊢
      exact out
theorem u_nil : PA X [] (tUs X.K base a i x dd E (eXs (cx P n) base [])) := pa_nil.weak fun σ H Q ⟨F, ρ, h, env, u, out⟩ => by
  simp only [eXs, evEs] at out
  exact Out.here out u.R [] rfl
theorem u_cons {e : Expr} {es : List Expr} {e' : Ex} {es' : List Ex} (hn : ns e = true) (he : PE X e (tU X.K base a i x dd E (eX (cx P n) base e'))) (hs : PA X es (tUs X.K base a i x dd E (eXs (cx P n) base es'))) : PA X (e :: es) (tUs X.K base a i x dd E (eXs (cx P n) base (e' :: es'))) := by
  refine (pa_cons he hs (star_cons hn)).weak fun σ H Q ⟨F, ρ, h, env, u, out⟩ => ?_
  simp only [eXs, evEs, bind_at] at out
  refine ⟨F, ρ, h, env, u, out.bind.imp fun y h1 F1 ρ1 H1 e1 l1 p1 R1 o1 v rv => ?_⟩
  refine ⟨F1, ρ1, h1, env, u.mono l1 p1 R1 (grow (sane_evE (cx_sane P n) base env e') u.hl e1), o1.bind.imp fun ys h2 F2 ρ2 H2 e2 l2 p2 R2 o2 vs rvs => ?_⟩
  exact Out.here o2 R2 _ (.cons (Rep.mono l2 p2 _ _ rv) rvs)
theorem u_disp {es : List Expr} {es' : List Ex} {m : Bool} {pos : Pos} (h : PA X es (tUs X.K base a i x dd E (eXs (cx P n) base es'))) : PE X (.List es pos) (tU X.K base a i x dd E (eX (cx P n) base (.new m (.disp es')))) := by
  refine (pe_lst h).weak fun σ H Q ⟨F, ρ, h, env, u, out⟩ => ?_
  simp only [eX] at out
  rw [new_ev, evAl, bind_at, Res.bind_assoc] at out
  refine ⟨F, ρ, h, env, u, out.bind.imp fun xs h1 F1 ρ1 H1 e1 l1 p1 R1 o1 vs rvs => ?_⟩
  simp only [short, bind_at] at o1
  split at o1
  · rename_i hs
    simp only [ret_at, bind_ok] at o1
    exact ⟨by rw [rvs.length, ← big_eq]; exact hs, fun p hp => Out.place R1 o1 hp ⟨vs, rfl, hs, rvs⟩⟩
  · exact o1.elim
theorem u_tup {es : List Expr} {es' : List Ex} {x1} {pos : Pos} (h : PA X es (tUs X.K base a i x dd E (eXs (cx P n) base es'))) : PE X (.Tuple es x1 pos) (tU X.K base a i x dd E (eX (cx P n) base (.tup es'))) := by
  refine (pe_tup h).weak fun σ H Q ⟨F, ρ, h, env, u, out⟩ => ?_
  simp only [eX, evE, bind_at] at out
  refine ⟨F, ρ, h, env, u, out.bind.imp fun xs h1 F1 ρ1 H1 e1 l1 p1 R1 o1 vs rvs => ?_⟩
  simp only [short, bind_at] at o1
  split at o1
  · rename_i hs
    exact ⟨by rw [rvs.length, ← big_eq]; exact hs, fun p hp => Out.newT R1 o1 rvs hs hp⟩
  · exact o1.elim
theorem u_ite {t b c : Expr} {t' b' c' : Ex} {pos : Pos} (ht : PT X t (tUt X.K base a i x dd E (eT (cx P n) base t'))) (hb : PE X b (tU X.K base a i x dd E (eX (cx P n) base b'))) (hc : PE X c (tU X.K base a i x dd E (eX (cx P n) base c'))) :
    PE X (.IfExp t b c pos) (tU X.K base a i x dd E (eX (cx P n) base (.ite t' b' c'))) := by
  refine (pe_ifExp ht hb hc).weak fun σ H Q ⟨F, ρ, h, env, u, out⟩ => ?_
  have e : eX (cx P n) base (.ite t' b' c') env h = ((eT (cx P n) base t') env h).bind fun r => if r then evE (cx P n) base env b' else evE (cx P n) base env c' := by
    simp only [eX, eT, evE, bind_at, Res.bind_assoc]
    rfl
  rw [e] at out
  refine ⟨F, ρ, h, env, u, out.bind.imp fun k h1 F1 ρ1 H1 e1 l1 p1 R1 o1 => ?_⟩
  have u1 := u.mono l1 p1 R1 (grow (sane_bind (sane_evE (cx_sane P n) base env t') fun x => (still_truthy x).sane) u.hl e1)
  cases k with
  | true => exact ⟨F1, ρ1, h1, env, u1, o1⟩
  | false => exact ⟨F1, ρ1, h1, env, u1, o1⟩
theorem kit_own {c c' : Str} {b : Bool} (kx : ExcOk P g X.prog X.K X.mg c) (kc : ExcOk P g X.prog X.K X.mg c') (h : PySem.W.subIn X.K (.ref (He.ga X.K c)) (.ref (He.ga X.K c')) = some b) : PySem.W.kitOne X.K (.ref (He.ga X.K c)) (.ref (He.ga X.K c')) = some b := by
  obtain ⟨cd, hc, _⟩ := PySem.W.any_some kc.xf.hdC
  have e2 : ((PySem.W.clsIn X.K (He.ga X.K c')).isSome && PySem.W.typeIn X.K (.ref (He.ga X.K c')) == some (.type "type")) = true := by rw [hc, kc.ty] <;> rfl
  unfold PySem.W.kitOne
  by_cases e : (Value.ref (He.ga X.K c) == Value.ref (He.ga X.K c')) = true
  · rw [if_pos e]
    have e' := eq_of_beq e
    rw [← e', kx.self] at h
    exact h
  · rw [if_neg e]
    show (if ((PySem.W.clsIn X.K (He.ga X.K c')).isSome && PySem.W.typeIn X.K (.ref (He.ga X.K c')) == some (.type "type")) = true then PySem.W.subIn X.K (.ref (He.ga X.K c)) (.ref (He.ga X.K c')) else none) = some b
    rw [if_pos e2]
    exact h
theorem u_isown {y cl : Str} {p p1 p2 pos : Pos} (hN : X.N[i]? = some y) (hv : Vis X.env.scope y) (ho : odd y = false) (hgi : Gl X "isinstance") (hmi : X.mg "isinstance" = none) (hgc : Gl X cl) (hcl : g.excs.contains cl = true) (kc : ExcOk P g X.prog X.K X.mg cl) (kx : ExcOk P g X.prog X.K X.mg x.cls)
    (hz : Zc (.ref (He.ga X.K x.cls)) dd oe) (hf : ∃ vs, oe.data = .fields vs) : PE (X.suite a ((a, oe) :: pn)) (.Call (.Name "isinstance" p) [.Name y p1, .Name cl p2] [] pos) (tU X.K base a i x dd E (eX (cx P n) base (.isown (.var i) cl))) := by
  have hb : PE (X.suite a ((a, oe) :: pn)) (.Name cl p2) (tC (.ref (He.ga X.K cl))) := pe_glob (X := X.suite a ((a, oe) :: pn)) hgc kc.mgf (show RelV (.ref _) (.ref _) from rfl) kc.dbg
  have ha : PE (X.suite a ((a, oe) :: pn)) (.Name y p1) (tVar i) := pe_var (X := X.suite a ((a, oe) :: pn)) hN hv (odd_no ho).1 (odd_no ho).2
  refine (pe_callB (X := X.suite a ((a, oe) :: pn)) (call_isX kx.xc hz hf) hgi hmi (by decide +kernel) (pa_cons ha (pa_cons hb pa_nil))).weak fun σ H Q ⟨F, ρ, h, env, u, out⟩ => ?_
  obtain ⟨l, hl, hs⟩ := kx.sub
  have hl' : (cx P n).sub.lookup x.cls = some l := hl
  simp only [eX, evE, getVar, u.en, ret_at, bind_at, bind_ok, hl', opt] at out
  refine ⟨.ref a, u.sl, .ref (He.ga X.K cl), .ref (He.ga X.K cl), l.contains cl, rfl, fun w hw => hw, kit_own kx kc (hs cl hcl), fun d hd => ?_, Out.val u.R out rfl⟩
  rcases u.d with ⟨_, e⟩ | ⟨d', gs, e, e2, _⟩
  · rw [e] at hd; cases hd
  · rw [e] at hd; cases hd
    exact ⟨gs, u.R.sub _ _ e2⟩
theorem u_attr {y f : Str} {p1 pos : Pos} (hN : X.N[i]? = some y) (hv : Vis X.env.scope y) (ho : odd y = false) (kx : ExcOk P g X.prog X.K X.mg x.cls) (hz : Zc (.ref (He.ga X.K x.cls)) dd oe) (hf : ∃ vs, oe.data = .fields vs) :
    PE (X.suite a ((a, oe) :: pn)) (.Attribute (.Name y p1) f pos) (tU X.K base a i x dd E (eX (cx P n) base (.attr (.var i) f))) := by
  have ha : PE (X.suite a ((a, oe) :: pn)) (.Name y p1) (tVar i) := pe_var (X := X.suite a ((a, oe) :: pn)) hN hv (odd_no ho).1 (odd_no ho).2
  refine ⟨fun pins s σ H Q I ⟨F, ρ, h, env, u, out⟩ => ?_⟩
  simp only [eX, evE, getVar, u.en, ret_at, bind_at, bind_ok, attrop] at out
  cases e : x.fs.lookup f with
  | none => rw [e] at out; exact out.elim
  | some z =>
    rw [e] at out
    rcases u.d with ⟨e1, _⟩ | ⟨d, gs, e1, e2, k⟩
    · rw [e1] at e; cases e
    · obtain ⟨hno, v, ev, rv⟩ := k f z e
      exact (pe_xf kx.xf hno hz hf ha).run pins s σ H Q I ⟨.ref a, u.sl, rfl, rfl, d, gs, v, e1, u.R.sub _ _ e2, ev, Out.val u.R out rv⟩
theorem u_isownT {y cl : Str} {p p1 p2 pos : Pos} (kx : ExcOk P g X.prog X.K X.mg x.cls) (h : PE (X.suite a ((a, oe) :: pn)) (.Call (.Name "isinstance" p) [.Name y p1, .Name cl p2] [] pos) (tU X.K base a i x dd E (eX (cx P n) base (.isown (.var i) cl)))) :
    PT (X.suite a ((a, oe) :: pn)) (.Call (.Name "isinstance" p) [.Name y p1, .Name cl p2] [] pos) (tUt X.K base a i x dd E (eT (cx P n) base (.isown (.var i) cl))) := by
  refine (pt_val h).weak fun σ H Q ⟨F, ρ, h, env, u, out⟩ => ⟨F, ρ, h, env, u, ?_⟩
  obtain ⟨l, hl, hs⟩ := kx.sub
  have hl' : (cx P n).sub.lookup x.cls = some l := hl
  simp only [eX, eT, evE, getVar, u.en, ret_at, bind_at, bind_ok, hl', opt, truthy] at out ⊢
  exact fun F' ρ' H' lf lp R v rv => ⟨_, rv, out F' ρ' H' lf lp R⟩
end
section
variable {P : Prog} {g : TrG} {N : List Str} {n : Nat} {X : Cx} {base i : Nat} {a : Addr} {x : Exn} {dd : Option Addr} {E : XK} {oe : Obj} {pn : List (Addr × Obj)} {sc : Scope} {y : Str}
def SndU (P : Prog) (g : TrG) (N : List Str) (n : Nat) (X : Cx) (base i : Nat) (a : Addr) (x : Exn) (dd : Option Addr) (E : XK) (oe : Obj) (pn : List (Addr × Obj)) (sc : Scope) (y : Str) (m : Nat) : Prop :=
  ∀ (e : Expr) (e' : Ex), trU g N sc (some y) m e = some e' → ns e = true ∧ PE (X.suite a ((a, oe) :: pn)) e (tU X.K base a i x dd E (eX (cx P n) base e')) ∧ ∀ c' z, e' = .isown c' z → PT (X.suite a ((a, oe) :: pn)) e (tUt X.K base a i x dd E (eT (cx P n) base e'))
theorem snd_Us {m : Nat} (ih : SndU P g N n X base i a x dd E oe pn sc y m) : ∀ {es : List Expr} {es' : List Ex}, trL (trU g N sc (some y) m) es = some es' → PA (X.suite a ((a, oe) :: pn)) es (tUs X.K base a i x dd E (eXs (cx P n) base es'))
  | [], es', h => by cases trL_nil h; exact u_nil (X := X.suite a ((a, oe) :: pn))
  | e :: es, es', h => by
    obtain ⟨z, r, rfl, h1, h2⟩ := trL_cons h
    obtain ⟨q1, q2, _⟩ := ih e z h1
    exact u_cons (X := X.suite a ((a, oe) :: pn)) q1 q2 (snd_Us ih h2)
theorem snd_U (o : SOk P g N n E sc X) (hy : slotOf N y = some i) (hly : sc.names.lookup y = some .local) (kx : ExcOk P g X.prog X.K X.mg x.cls) (hz : Zc (.ref (He.ga X.K x.cls)) dd oe) (hf : ∃ vs, oe.data = .fields vs) : ∀ m, SndU P g N n X base i a x dd E oe pn sc y m
  | 0 => fun e e' h => by cases h
  | m + 1 => fun e e' h => by
    have ih := snd_U o hy hly kx hz hf m
    have hN := o.slot hy
    have hv : Vis X.env.scope y := by rw [o.scope]; exact .inl hly
    unfold trU at h
    split at h
    · rename_i c k p
      cases q : litOf c with
      | none => rw [q] at h; cases h
      | some d =>
        rw [q] at h
        cases h
        exact ⟨rfl, u_lit (X := X.suite a ((a, oe) :: pn)) q, fun _ _ z => by cases z⟩
    · rename_i es p
      split at h
      · cases h
      · cases q : trL (trU g N sc (some y) m) es with
        | none => rw [q] at h; cases h
        | some es' =>
          rw [q] at h
          cases h
          exact ⟨rfl, u_disp (X := X.suite a ((a, oe) :: pn)) (snd_Us ih q), fun _ _ z => by cases z⟩
    · rename_i es k p
      cases q : trL (trU g N sc (some y) m) es with
      | none => rw [q] at h; cases h
      | some es' =>
        rw [q] at h
        cases h
        exact ⟨rfl, u_tup (X := X.suite a ((a, oe) :: pn)) (snd_Us ih q), fun _ _ z => by cases z⟩
    · rename_i c b d p
      split at h
      · rename_i c' z b' d' q1 q2 q3
        cases h
        exact ⟨rfl, u_ite (X := X.suite a ((a, oe) :: pn)) ((ih _ _ q1).2.2 _ _ rfl) (ih _ _ q2).2.1 (ih _ _ q3).2.1, fun _ _ z => by cases z⟩
      · cases h
    · rename_i f p x1 p1 c p2 p3
      split at h
      · rename_i hh
        obtain ⟨e1, h2, e3, h4, h5, h6, h7, h8⟩ := hh
        cases e3
        rw [hy] at h
        cases h
        subst e1
        obtain ⟨hgi, hmi⟩ := bltn_of o.toXOk h2
        have pe := u_isown (P := P) (g := g) (n := n) (base := base) (a := a) (E := E) (pn := pn) (p := p) (p1 := p1) (p2 := p2) (pos := p3) hN hv h5 hgi hmi (o.glb h7) h6 (o.excs c h6) kx hz hf
        exact ⟨rfl, pe, fun _ _ _ => u_isownT kx pe⟩
      · cases h
    · rename_i x1 p1 f p2
      split at h
      · rename_i hh
        obtain ⟨e3, h4, h5⟩ := hh
        cases e3
        rw [hy] at h
        cases h
        exact ⟨rfl, u_attr (P := P) (g := g) (n := n) (a := a) (E := E) hN hv h5 kx hz hf, fun _ _ z => by cases z⟩
      · cases h
    · cases h
/-- the suite -/
theorem snd_UL (o : SOk P g N n E sc X) (hy : slotOf N y = some i) (hly : sc.names.lookup y = some .local) (kx : ExcOk P g X.prog X.K X.mg x.cls) (hz : Zc (.ref (He.ga X.K x.cls)) dd oe) (hf : ∃ vs, oe.data = .fields vs) (m : Nat) : ∀ (ss : List Stmt) (ss' : List Stm), trUL g N sc (some y) m ss = some ss' →
    PSs (X.suite a ((a, oe) :: pn)) ss (tUS X.K base a i x dd E (eSs (cx P n) base ss'))
  | ss, ss', h => by
    have U := snd_U (base := base) (a := a) (pn := pn) o hy hly kx hz hf m
    have ret1 : ∀ {e : Expr} {e' : Ex} {p : Pos}, trU g N sc (some y) m e = some e' → PSs (X.suite a ((a, oe) :: pn)) [.Return (some e) p] (tUS X.K base a i x dd E (eSs (cx P n) base [.ret e'])) := fun {e e' p} q =>
      (pss_cons (ps_ret (U e e' q).2.1) pss_nil).weak fun D σ H ⟨F, ρ, h, env, u, out⟩ => by
        simp only [eSs, execs, exec, bind_at, Res.bind_assoc] at out
        exact ⟨F, ρ, h, env, u, out.bind.imp fun z h1 F1 ρ1 H1 e1 l1 p1 R1 o1 v rv => Out.here o1 R1 v rv⟩
    unfold trUL at h
    split at h
    · rename_i e p
      cases q : trU g N sc (some y) m e with
      | none => rw [q] at h; cases h
      | some e' =>
        rw [q] at h
        cases h
        exact ret1 q
    · rename_i c e p p2 r
      split at h
      · rename_i c' z e' r' q1 q2 q3
        cases h
        have ih := snd_UL o hy hly kx hz hf m r r' q3
        refine (pss_cons (ps_if ((U _ _ q1).2.2 _ _ rfl) (ret1 q2) pss_nil) ih).weak fun D σ H ⟨F, ρ, h, env, u, out⟩ => ?_
        have e1 : eSs (cx P n) base (.ife (.isown c' z) [.ret e'] [] :: r') env h = ((eT (cx P n) base (.isown c' z)) env h).bind fun b => if b then execs (cx P n) base [.ret e'] env else execs (cx P n) base r' env := by
          simp only [eSs, execs, exec, eT, bind_at, Res.bind_assoc]
          refine congrArg _ (funext fun w => funext fun h1 => ?_)
          refine congrArg _ (funext fun b => funext fun h2 => ?_)
          cases b
          · simp [bind_at]
          · simp only [if_true, execs, exec, bind_at, Res.bind_assoc]
            refine congrArg _ (funext fun w => funext fun h3 => ?_)
            simp [bind_at]
        rw [e1] at out
        refine ⟨F, ρ, h, env, u, out.bind.imp fun k h1 F1 ρ1 H1 e1 l1 p1 R1 o1 => ?_⟩
        have u1 := u.mono l1 p1 R1 (grow (sane_bind (sane_evE (cx_sane P n) base env _) fun x => (still_truthy x).sane) u.hl e1)
        cases k with
        | true => exact ⟨F1, ρ1, h1, env, u1, o1.imp fun p h2 F2 ρ2 H2 e2 l2 p2 R2 o2 => o2⟩
        | false => exact ⟨F1, ρ1, h1, env, u1, o1⟩
      · cases h
    · cases h
end
end Px

set_option autoImplicit false
set_option linter.all false
set_option maxRecDepth 100000
set_option maxHeartbeats 4000000
/-! try .. except C as x: the rule. -/
namespace Px
open PySem L2 PySem.Spec PySem.Calls PyProof.Rows
theorem hs_inv {g : TrG} {N : List Str} {sc : Scope} {m : Nat} {hd : ExceptHandler} {hs' : Hs} (h : trHs g N sc m [hd] = some hs') : ∃ (c y : Str) (np pos : Pos) (b0 : Stmt) (bs : List Stmt) (i : Nat) (b : List Stm), hd = .ExceptHandler (some (.Name c np)) (some y) (b0 :: bs) pos ∧ hs' = .cons c (some i) b .nil ∧
    glb sc c = true ∧ g.excs.contains c = true ∧ sc.names.lookup y = some .local ∧ slotOf N y = some i ∧ trUL g N sc (some y) m (b0 :: bs) = some b := by
  unfold trHs at h
  split at h
  · rename_i z
    cases z
  · rename_i c np x b0 bs pos r z
    cases z
    split at h
    · rename_i hh
      simp only [Bool.and_eq_true, beq_iff_eq] at hh
      split at h
      · rename_i i b r' q1 q2 q3
        cases h
        have q3 : trHs g N sc m [] = some r' := q3
        unfold trHs at q3
        cases q3
        exact ⟨c, x, np, pos, b0, bs, i, b, rfl, rfl, hh.1.1, hh.1.2, hh.2, q1, q2⟩
      · cases h
    · cases h
  · cases h
theorem Rel.takeX {K : PySem.W.Frag} {F : FF} {ρ : List Addr} {H : Hp} {h : Hh} {d : Addr} {gs : List (Str × V)} (R : Rel K F ρ H h) (e : H d = some (.xd gs)) : Rel K (F.up d (.xd gs)) ρ H h ∧ Le F (F.up d (.xd gs)) := by
  have hr : ∀ {b : Addr}, b ∈ ρ → b ≠ d := fun {b} hb z => by
    obtain ⟨l, hl, el⟩ := List.getElem_of_mem hb
    have e1 : ρ[l]? = some b := by rw [List.getElem?_eq_getElem hl, el]
    have hl2 : l < h.length := R.len ▸ hl
    have c := R.cell l b _ e1 (List.getElem?_eq_getElem hl2)
    rw [z] at c
    generalize h[l] = ce at c
    cases ce with
    | l ds => obtain ⟨vs, q, _⟩ := c; rw [e] at q; cases q
    | d t kvs => cases t <;> (obtain ⟨vs, q, _⟩ := c; rw [e] at q; cases q)
    | inst cl fs => obtain ⟨dx, gs, q, _⟩ := c; rw [e] at q; cases q
    | lock => obtain ⟨od, u, q⟩ := c; rw [e] at q; cases q
  have hg : ∀ {b : Addr} {o : HO}, F.g b = some o → b ≠ d := fun {b o} q z => by
    obtain ⟨q1, _, q3⟩ := R.held b o q
    rw [z, e] at q1
    cases q1
    rcases q3 with ⟨_, ⟨_, q⟩ | ⟨_, q⟩ | ⟨_, q⟩⟩ | ⟨_, _, _, _, _, q⟩ <;> cases q
  have le : Le F (F.up d (.xd gs)) := ⟨fun b u q => by
    show upd F.f d (.xd gs) b = some u
    by_cases hb : b = d
    · subst hb
      have q1 := R.sub _ _ q
      rw [e] at q1
      rw [upd_same, q1]
    · rw [upd_ne hb]; exact q, rfl⟩
  refine ⟨⟨fun b u q => ?_, fun b u q => ?_, R.nd, R.len, fun b hb => ?_, fun l b c e1 e2 => (R.cell l b c e1 e2).mono le (Pre.refl _) rfl⟩, le⟩
  · have q : upd F.f d (.xd gs) b = some u := q
    by_cases hb : b = d
    · subst hb
      rw [upd_same] at q
      rw [e, q]
    · rw [upd_ne hb] at q
      exact R.sub b u q
  · obtain ⟨q1, q2, q3⟩ := R.held b u q
    exact ⟨q1, (upd_ne (hg q)).trans q2, q3⟩
  · exact (upd_ne (hr hb)).trans (R.out b hb)
section
variable {P : Prog} {g : TrG} {N : List Str} {n : Nat}
theorem st_tryX {m : Nat} {E : XK} {sc : Scope} {X : Cx} (o : SOk P g N n E sc X) (base : Nat) {ef : Expr} {ea : List Expr} {ek : List Keyword} {ep : Pos} {e' : Ex} {hd : ExceptHandler} {hs' : Hs} {pos p : Pos} (h : trE g N m sc (.Call ef ea ek ep) = some e') (h2 : trHs g N sc m [hd] = some hs') :
    PS X (.Try [.Expr (.Call ef ea ek ep) p] [hd] [] [] pos) (tS X.K base E (eSt (cx P n) base (.tryy e' hs'))) := by
  obtain ⟨c, y, np, pos', b0, bs, i, b, rfl, rfl, k1, k2, k3, k4, k5⟩ := hs_inv h2
  have kc := o.excs c k2
  have hN : X.N.Nodup := o.names ▸ o.nd
  have hi := o.slot k4
  have hln : X.env.kindOf y = some .local := by
    show X.env.scope.names.lookup y = some .local
    rw [o.scope]; exact k3
  have hb : ∀ (W : WX) (pn : List (Addr × Obj)) (xe : Value → Shared → Prop), Takes (X.tr pn xe) W → PassesOwn (model X.prog X.w) X.A X.env xe → PSs (X.tr pn xe) [.Expr (.Call ef ea ek ep) p] (tSeq (tDrop (tE X.K base W (eX (cx P n) base e'))) tNext) := fun W pn xe tk own => by
    have o' : XOk P g N n W sc (X.tr pn xe) := ⟨o.calm, o.names, o.nd, tk, o.rm, o.tops, o.like, o.st⟩
    exact pss_cons (ps_expr (snd_E m W sc (X.tr pn xe) o' base _ e' h).1 rfl) pss_nil
  let ts : Addr → Value → Option Addr → TS := fun a cls d D σ H => ∃ x : Exn, cls = .ref (He.ga X.K x.cls) ∧ g.excs.contains x.cls = true ∧ tUS X.K base a i x d E (eSs (cx P n) base b) D σ H
  have hsu : ∀ (a : Addr) (oe : Obj) (cls : Value) (d : Option Addr) (pn : List (Addr × Obj)), Zc cls d oe → (∃ vs, oe.data = .fields vs) → PSs (X.suite a ((a, oe) :: pn)) (b0 :: bs) (ts a cls d) := fun a oe cls d pn hz hf =>
    ⟨fun pins s σ H D I ⟨x, ec, ex, t⟩ => by
      subst ec
      exact (snd_UL o k4 k3 (o.excs x.cls ex) hz hf m _ _ k5).run pins s σ H D I t⟩
  refine ⟨fun pins s σ H D I ⟨F, ρ, hh, env, R, re, hl, out⟩ => (ps_try_as o.stk o.frm hN hi hln ⟨o.glb k1, kc.dbg, .inl kc.mgf⟩ o.tk hb hsu).run pins s σ H D I ?_⟩
  have hlen : i < σ.length := by rw [I.len]; exact (List.getElem?_eq_some_iff.mp hi).1
  simp only [eSt, exec] at out
  refine ⟨F, ρ, hh, env, R, re, hl, ?_⟩
  simp only [eX]
  cases ev : evE (cx P n) base env e' hh with
  | stuck => rw [ev] at out; exact out
  | ok d h1 =>
    rw [ev] at out
    exact fun F' ρ' H' l p R' v rv => out F' ρ' H' l p R' σ (re.mono l p)
  | exc x h1 =>
    rw [ev] at out
    have hl1 : base ≤ h1.length := by
      have q := sane_evE (cx_sane P n) base env e' hh
      rw [ev] at q
      exact Nat.le_trans hl (q hl).1
    intro F' ρ' H' dd l p R' xr
    simp only [handle] at out
    split at out
    · rename_i hk
      obtain ⟨lst, hlst⟩ := Option.isSome_iff_exists.mp hk
      have ex := o.subs x.cls lst hlst
      have kx := o.excs x.cls ex
      obtain ⟨lst2, hl2, hs⟩ := kx.sub
      have hlst' : P.sub.lookup x.cls = some lst := hlst
      rw [hlst'] at hl2
      cases hl2
      have ecg : caught (cx P n) x.cls c = lst.contains c := by unfold caught; rw [hlst]
      refine ⟨lst.contains c, PySem.W.exm_ref kc.exB kc.xf.hdC kc.ty (hs c k2), fun hb1 a ha => ⟨x, rfl, ex, ?_⟩, fun hb0 => ?_⟩
      · rw [ecg, if_pos hb1] at out
        have hle : i < env.length := by rw [re.1]; exact hlen
        have go : ∀ (F2 : FF), Le F' F2 → Rel X.K F2 ρ' H' h1 → ((x.fs = [] ∧ dd = none) ∨ ∃ d gs, dd = some d ∧ F2.f d = some (.xd gs) ∧ ∀ f y, x.fs.lookup f = some y → PySem.W.findIn X.K (.ref (He.ga X.K x.cls)) f = some none ∧ ∃ v, gs.lookup f = some v ∧ Rep F2 ρ' y v) →
            tUS X.K base a i x dd E (eSs (cx P n) base b) { nx := fun σ' H' => D.nx (σ'.set i none) H', rt := D.rt, bk := fun σ' H' => D.bk (σ'.set i none) H', ct := fun σ' H' => D.ct (σ'.set i none) H' } (σ.set i (some (.ref a))) H' := fun F2 l2 R2 d2 => by
          refine ⟨F2, ρ', h1, env.set i (some (.exn x.cls x.fs)), ⟨R2, List.getElem?_set_self hlen, List.getElem?_set_self hle, hl1, d2⟩, ?_⟩
          refine Out.imp (out.ext (l.trans l2) p) fun q h2 F3 ρ3 H3 e3 l3 p3 R3 o3 => ?_
          obtain ⟨fl, env2⟩ := q
          cases fl with
          | ret d => exact o3
          | _ => trivial
        rcases xr with ⟨e1, e2⟩ | ⟨d, gs, e1, e2, k⟩
        · exact go F' (Le.refl _) R' (.inl ⟨e1, e2⟩)
        · obtain ⟨R2, l2⟩ := R'.takeX e2
          exact go _ l2 R2 (.inr ⟨d, gs, e1, upd_same, fun f y e => ⟨(k f y e).1, let ⟨v, q1, q2⟩ := (k f y e).2; ⟨v, q1, Rep.mono l2 (Pre.refl _) _ _ q2⟩⟩⟩)
      · rw [ecg, if_neg (by rw [hb0]; exact Bool.false_ne_true)] at out
        exact out F' ρ' H' dd l p R' xr
    · exact out.elim
end
end Px

set_option autoImplicit false
set_option linter.all false
set_option maxRecDepth 100000
/-! What the translation gives the model does: statements. -/
namespace Px
open PySem L2 PySem.Spec PyProof.Rows
section
variable {P : Prog} {g : TrG} {N : List Str} {n : Nat}
def SndS (P : Prog) (g : TrG) (N : List Str) (n m : Nat) : Prop := ∀ (E : XK) (sc : Scope) (X : Cx), SOk P g N n E sc X → ∀ (base : Nat) (s : Stmt) (s' : Stm), trS g N sc m s = some s' → PS X s (tS X.K base E (eSt (cx P n) base s'))
theorem snd_Ss {m : Nat} (ih : SndS P g N n m) {E : XK} {sc : Scope} {X : Cx} (o : SOk P g N n E sc X) (base : Nat) : ∀ {ss : List Stmt} {ss' : List Stm}, trL (trS g N sc m) ss = some ss' → PSs X ss (tS X.K base E (eSs (cx P n) base ss'))
  | [], ss', h => by cases trL_nil h; exact st_nil
  | s :: ss, ss', h => by
    obtain ⟨y, r, rfl, h1, h2⟩ := trL_cons h
    exact st_cons (cx_sane P n) (ih E sc X o base s y h1) (snd_Ss ih o base h2)
/-- name = value -/
theorem snd_set {m : Nat} {E : XK} {sc : Scope} {X : Cx} (o : SOk P g N n E sc X) (base : Nat) {x : Str} {i : Nat} {e : Expr} {e' : Ex} {pos pos' : Pos} (hl : loc sc x = true) (hi : slotOf N x = some i) (h : trE g N m sc e = some e') :
    PS X (.Assign [.Name x pos'] e pos) (tS X.K base E (eSt (cx P n) base (.set i e'))) := by
  have hc := cx_sane P n
  have hN : X.N.Nodup := o.names ▸ o.nd
  have pe := (snd_E m (Wk E) sc X o.toXOk base e e' h).1
  have plain : swapsWith e (some (.Name x pos')) pos.line X.env = pure false → PS X (.Assign [.Name x pos'] e pos) (tS X.K base E (eSt (cx P n) base (.set i e'))) := fun hs => st_set hN (o.slot hi) (o.loc hl) (o.st x hl) pe hs
  have lcl : ∀ {b : Bool} {scope : Scope} {p : Pos}, (X.env.blockKind == .function && X.env.kindOf x == some .local && pos'.line == p.line && !(scope.names.any fun (n, k) => n == x && (k == .local || k == .cell))) = true → X.env.scope.names.lookup x = some .local := by
    intro b scope p hb
    simp only [Bool.and_eq_true, beq_iff_eq] at hb
    exact hb.1.1.2
  cases m with
  | zero => cases h
  | succ m =>
    cases e with
    | ListComp elt gens scope p =>
      have sw : swapsWith (.ListComp elt gens scope p) (some (.Name x pos')) pos.line X.env = pure (X.env.blockKind == .function && X.env.kindOf x == some .local && pos'.line == p.line && !(scope.names.any fun (n, k) => n == x && (k == .local || k == .cell))) := rfl
      cases hb : (X.env.blockKind == .function && X.env.kindOf x == some .local && pos'.line == p.line && !(scope.names.any fun (n, k) => n == x && (k == .local || k == .cell))) with
      | false => rw [hb] at sw; exact plain sw
      | true =>
        have hy := lcl (b := true) hb
        rw [hb] at sw
        simp only [trE] at h
        split at h
        · rename_i tg it ifs
          split at h
          · rename_i e1 tg1 it1 ifs1 hbl q1 q2 q3 q4
            split at h
            · rename_i hs
              cases h
              exact st_setU (s_setComp hc (snd_lc (snd_E m) o.toXOk base hbl q1 q2 q3 q4 hs) (o.slot hi) hy sw)
            · cases h
          · cases h
        · cases h
    | DictComp k v gens scope p =>
      have sw : swapsWith (.DictComp k v gens scope p) (some (.Name x pos')) pos.line X.env = pure (X.env.blockKind == .function && X.env.kindOf x == some .local && pos'.line == p.line && !(scope.names.any fun (n, k) => n == x && (k == .local || k == .cell))) := rfl
      cases hb : (X.env.blockKind == .function && X.env.kindOf x == some .local && pos'.line == p.line && !(scope.names.any fun (n, k) => n == x && (k == .local || k == .cell))) with
      | false => rw [hb] at sw; exact plain sw
      | true =>
        have hy := lcl (b := true) hb
        rw [hb] at sw
        simp only [trE] at h
        split at h
        · rename_i tg it
          split at h
          · rename_i k1 v1 tg1 it1 hbl q1 q5 q2 q3
            split at h
            · rename_i hs
              cases h
              exact st_setU (s_setDcomp hc (snd_dc (snd_E m) o.toXOk base hbl q1 q5 q2 q3 hs.2) (o.slot hi) hy sw)
            · cases h
          · cases h
        · cases h
    | SetComp _ _ _ _ => cases h
    | _ => exact plain rfl
theorem trE_nosw {m : Nat} {sc : Scope} {e : Expr} {e' : Ex} {tg : Expr} {l : Nat} {env : PySem.Env} (ht : isTup tg = true) : swapsWithSole [tg] e l env = pure false := by
  cases tg with
  | Tuple _ _ _ => cases e <;> rfl
  | _ => cases ht
/-- a tuple of targets -/
theorem snd_setT {m : Nat} {E : XK} {sc : Scope} {X : Cx} (o : SOk P g N n E sc X) (base : Nat) {ts : List Expr} {k : Nat} {tpos : Pos} {tg' : Tg} {e : Expr} {e' : Ex} {pos : Pos} (h1 : trTg N m sc (.Tuple ts k tpos) = some tg') (h2 : trE g N m sc e = some e')
    (hw : swappedStores [.Tuple ts k tpos] e X.env = pure none) : PS X (.Assign [.Tuple ts k tpos] e pos) (tS X.K base E (eSt (cx P n) base (.setT tg' e'))) :=
  st_setT (snd_E m (Wk E) sc X o.toXOk base e e' h2).1 (g_all o.names o.nd o.calm (fun x h => o.loc h) (fun x h => o.st x h) m _ tg' h1) (trE_nosw (m := m) (sc := sc) (e' := e') rfl) hw rfl
theorem map_neS {α : Type} {o : Option α} {f : α → Stm} {y : Stm} (h : o.map f = some y) : ∃ a, o = some a ∧ f a = y := by
  cases o with
  | none => cases h
  | some a => exact ⟨a, rfl, by simpa using h⟩
theorem snd_S : ∀ m, SndS P g N n m
  | 0 => fun _ _ _ _ _ _ _ h => by cases h
  | m + 1 => by
    have ih : SndS P g N n m := snd_S m
    intro E sc X o base s s' h
    have hc := cx_sane P n
    have hN : X.N.Nodup := o.names ▸ o.nd
    have ex := fun {e : Expr} {e' : Ex} (q : trE g N m sc e = some e') => snd_E m (Wk E) sc X o.toXOk base e e' q
    cases s with
    | Pass pos => cases h; exact st_pass
    | Break pos => cases h; exact st_brk
    | Continue pos => cases h; exact st_cont
    | Return v pos =>
      cases v with
      | none => cases h; exact st_retN
      | some e =>
        simp only [trS] at h
        obtain ⟨e', q, rfl⟩ := map_neS h
        exact st_ret (ex q).1
    | Expr e pos =>
      simp only [trS] at h
      split at h
      · obtain ⟨e', q, rfl⟩ := map_neS h
        exact st_expr (ex q).1 rfl
      · cases h
    | If t a b pos =>
      simp only [trS] at h
      split at h
      · rename_i t' a' b' qt qa qb
        cases h
        exact st_if hc (ex qt).2 (snd_Ss ih o base qa) (snd_Ss ih o base qb)
      · cases h
    | While t body orelse pos =>
      cases orelse with
      | cons _ _ => simp only [trS] at h; cases h
      | nil =>
        simp only [trS] at h
        split at h
        · rename_i t' b' qt qb
          cases h
          exact st_while hc o.owns (ex qt).2 (snd_Ss ih o base qb)
        · cases h
    | For tg it body orelse pos =>
      cases orelse with
      | cons _ _ => simp only [trS] at h; cases h
      | nil =>
        simp only [trS] at h
        split at h
        · rename_i tg' it' b' qt qi qb
          cases h
          obtain ⟨k1, k2, k3⟩ := snd_it (snd_E m) o.toXOk base (tg := tg) qi
          exact st_forI o.owns o.calm k1 (g_all o.names o.nd o.calm (fun x h => o.loc h) (fun x h => o.st x h) m tg tg' qt) (snd_Ss ih o base qb) (k3 X.env) hc
        · cases h
    | AugAssign t op e pos =>
      cases t with
      | Name x p =>
        simp only [trS] at h
        split at h
        · rename_i hl
          split at h
          · rename_i i o' e' qi qo qe
            cases h
            have z := st_aug (E := E) (base := base) (c := cx P n) (op := o') (pos := pos) (pos' := p) hN (o.slot qi) (o.loc hl) (o.st x hl) (ex qe).1
            rw [bopOf_eq qo] at z
            exact z
          · cases h
        · cases h
      | _ => simp only [trS] at h; cases h
    | Raise e c pos =>
      cases e with
      | none => cases c <;> (simp only [trS] at h; cases h)
      | some e =>
        cases c with
        | some _ => simp only [trS] at h; cases h
        | none =>
          simp only [trS] at h
          cases q : trMk g N sc m e with
          | none => rw [q] at h; cases h
          | some p =>
            rw [q] at h
            cases h
            exact st_raiseX o base q
    | Try body hs orelse fin pos =>
      cases fin with
      | cons _ _ => exact absurd h (by cases body with
          | nil => simp [trS]
          | cons a r => cases hs with
            | nil => cases r <;> cases a <;> cases orelse <;> simp [trS]
            | cons _ h2 => cases h2 <;> cases r <;> cases a <;> cases orelse <;> simp [trS])
      | nil =>
        cases orelse with
        | cons _ _ => exact absurd h (by cases body with
            | nil => simp [trS]
            | cons a r => cases hs with
              | nil => cases r <;> cases a <;> simp [trS]
              | cons _ h2 => cases h2 <;> cases r <;> cases a <;> simp [trS])
        | nil =>
          cases body with
          | nil => simp only [trS] at h; cases h
          | cons a r =>
            cases r with
            | cons _ _ => exact absurd h (by cases a <;> simp [trS])
            | nil =>
              cases a with
              | Expr e p =>
                cases hs with
                | nil => exact absurd h (by cases e <;> simp [trS])
                | cons hd hs2 =>
                  cases hs2 with
                  | cons _ _ => exact absurd h (by cases e <;> simp [trS])
                  | nil =>
                    cases e with
                    | Call ef ea ek ep =>
                      simp only [trS] at h
                      split at h
                      · rename_i e' hs' qe qh
                        cases h
                        exact st_tryX o base qe qh
                      · cases h
                    | _ => simp only [trS] at h; cases h
              | _ => simp only [trS] at h; cases h
    | Assign ts e pos =>
      cases ts with
      | nil => simp only [trS] at h; cases h
      | cons t r =>
        cases r with
        | cons _ _ => simp only [trS] at h; cases h
        | nil =>
          cases t with
          | Name x p =>
            simp only [trS] at h
            split at h
            · rename_i hl
              split at h
              · rename_i i e' qi qe
                cases h
                exact snd_set (m := m) o base hl qi qe
              · cases h
            · cases h
          | Tuple ts k tpos =>
            have gen : (match trTg N m sc (.Tuple ts k tpos), trE g N m sc e with
                | some tg, some e' => some (Stm.setT tg e')
                | _, _ => none) = some s' → swappedStores [.Tuple ts k tpos] e X.env = pure none → PS X (.Assign [.Tuple ts k tpos] e pos) (tS X.K base E (eSt (cx P n) base s')) := by
              intro h hw
              split at h
              · rename_i tg' e' q1 q2
                cases h
                exact snd_setT o base q1 q2 hw
              · cases h
            cases e with
            | Tuple es k2 pos2 =>
              simp only [trS] at h
              split at h
              · rename_i qs
                have hw := swapped_of (ts := ts) (vs := es) (k := k) (k2 := k2) (pos := tpos) (pos2 := pos2) (b := true) (env := X.env) (by rw [o.scope]; exact o.kind) (by rw [o.scope]; exact qs)
                rw [if_pos rfl, o.scope] at hw
                split at h
                · rename_i x px y py es' qe
                  split at h
                  · rename_i i j qi qj
                    split at h
                    · rename_i hh
                      obtain ⟨h1, h2, h3, h4, h5⟩ := hh
                      cases h
                      obtain ⟨i1, i2, i3⟩ := snd_args (snd_E m) o.toXOk base qe
                      rw [h4] at hw
                      match es, h5, i3, hw with
                      | [a, b], _, i3, hw => exact st_par2 o.calm hN (o.slot qi) (o.slot qj) h1 (by rw [o.scope]; exact h2) (by rw [o.scope]; exact h3) i3 hw
                    · cases h
                  · cases h
                · rename_i x px y py z pz es' qe
                  split at h
                  · rename_i i j l qi qj ql
                    split at h
                    · rename_i hh
                      obtain ⟨⟨h1, h2, h3⟩, ⟨h4, h5, h6⟩, h7, h8⟩ := hh
                      cases h
                      obtain ⟨i1, i2, i3⟩ := snd_args (snd_E m) o.toXOk base qe
                      rw [h7] at hw
                      match es, h8, i3, hw with
                      | [a, b, d], _, i3, hw => exact st_par3 o.calm hN (o.slot qi) (o.slot qj) (o.slot ql) h1 h2 h3 (by rw [o.scope]; exact h4) (by rw [o.scope]; exact h5) (by rw [o.scope]; exact h6) i3 hw
                    · cases h
                  · cases h
                · cases h
              · rename_i qs
                have hw := swapped_of (ts := ts) (vs := es) (k := k) (k2 := k2) (pos := tpos) (pos2 := pos2) (b := false) (env := X.env) (by rw [o.scope]; exact o.kind) (by rw [o.scope]; exact qs)
                exact gen h hw
              · cases h
            | _ => exact gen h rfl
          | Subscript a i tpos =>
            cases i with
            | Slice _ _ _ _ => simp only [trS] at h; cases h
            | _ =>
              simp only [trS] at h
              split at h
              · rename_i o' i' e' q1 q2 q3
                cases h
                have hu := o.hu
                exact st_setIdx hc hu (fun _ _ _ z => by cases z) (ex q1).1 (ex q2).1 (ex q3).1
              · cases h
          | _ => simp only [trS] at h; cases h
    | _ => simp only [trS] at h; cases h
end
end Px

set_option autoImplicit false
set_option linter.all false
set_option maxRecDepth 100000
/-! The defs of a program: each does what the small language says. -/
namespace Px
open PySem L2 PySem.Spec PyProof.Rows
section
variable {F : FF} {ρ : List Addr} {n : Nat} (hn : ∀ (l : Nat) (a : Addr), ρ[l]? = some a → l < n)
include hn
mutual
theorem Rep.und : ∀ (d : D) (v : V), Rep F ρ d v → d.und n = true
  | .non, _, _ => rfl
  | .bl _, _, _ => rfl
  | .int _, _, _ => rfl
  | .str _, _, _ => rfl
  | .tup ds, _, h => by obtain ⟨a, vs, e, ha, hz, r⟩ := h; simp only [D.und]; exact RepL.und ds vs r
  | .lst ds, _, h => by obtain ⟨a, vs, e, ha, hz, r⟩ := h; simp only [D.und]; exact RepL.und ds vs r
  | .scr ds, _, h => by obtain ⟨a, vs, e, ha, hz, r⟩ := h; simp only [D.und]; exact RepL.und ds vs r
  | .dct .k kvs, _, h => by obtain ⟨a, vs, e, ha, hz, r⟩ := h; simp only [D.und]; exact RepK.und kvs vs r
  | .dct .t kvs, _, h => by obtain ⟨a, vs, e, ha, hz, r⟩ := h; simp only [D.und]; exact RepT.und kvs vs r
  | .ref l, _, h => by obtain ⟨a, e, h⟩ := h; simp only [D.und]; simpa using hn l a h
  | .exn _ _, _, h => h.elim
theorem RepL.und : ∀ (ds : List D) (vs : List V), RepL F ρ ds vs → undL n ds = true
  | [], _, _ => rfl
  | d :: ds, _, h => by
    obtain ⟨w, ws, e, r, h⟩ := h
    simp only [undL, Bool.and_eq_true]
    exact ⟨Rep.und d w r, RepL.und ds ws h⟩
theorem RepK.und : ∀ (kvs : List (D × D)) (ks : List (Key × V)), RepK F ρ kvs ks → undK n kvs = true
  | [], _, _ => rfl
  | (k, d) :: r, _, h => by
    obtain ⟨q, w, s, e, rfl, rd, h⟩ := h
    simp only [undK, Bool.and_eq_true]
    exact ⟨⟨by cases q <;> rfl, Rep.und d w rd⟩, RepK.und r s h⟩
theorem RepT.und : ∀ (kvs : List (D × D)) (ks : List (List Key × V)), RepT F ρ kvs ks → undK n kvs = true
  | [], _, _ => rfl
  | (k, d) :: r, _, h => by
    obtain ⟨q, w, s, e, rfl, hq, rd, h⟩ := h
    simp only [undK, Bool.and_eq_true]
    refine ⟨⟨?_, Rep.und d w rd⟩, RepT.und r s h⟩
    simp only [D.und]
    exact RepL.und _ _ (repL_key F ρ q)
end
theorem RepF.und : ∀ (fs : List (Str × D)) (gs : List (Str × V)), RepF F ρ fs gs → undF n fs = true
  | [], _, _ => rfl
  | (f, d) :: r, _, h => by
    obtain ⟨w, s, e, rd, h⟩ := h
    simp only [undF, Bool.and_eq_true]
    exact ⟨Rep.und hn d w rd, RepF.und r s h⟩
end
theorem Rel.closed {K : PySem.W.Frag} {F : FF} {ρ : List Addr} {H : Hp} {h : Hh} (R : Rel K F ρ H h) : Closed h.length h := by
  have hn : ∀ (l : Nat) (a : Addr), ρ[l]? = some a → l < h.length := fun l a e => by rw [← R.len]; exact (List.getElem?_eq_some_iff.mp e).1
  intro l c hl e
  obtain ⟨a, ha, x⟩ := R.at e
  cases c with
  | l ds => obtain ⟨vs, h1, h2, h3⟩ := x; exact RepL.und hn _ _ h3
  | d t kvs =>
    cases t with
    | k => obtain ⟨vs, h1, h2, h3⟩ := x; exact RepK.und hn _ _ h3
    | t => obtain ⟨vs, h1, h2, h3⟩ := x; exact RepT.und hn _ _ h3
  | inst cl fs => obtain ⟨dx, gs, h1, h2⟩ := x; exact RepF.und hn _ _ h2
  | lock => rfl
theorem pure_look : ∀ {fs : List (Str × D)} {f : Str} {d : D}, pureF fs = true → fs.lookup f = some d → d.pure = true
  | (g, x) :: r, f, d, hp, e => by
    simp only [pureF, Bool.and_eq_true] at hp
    rw [List.lookup_cons] at e
    split at e
    · cases e; exact hp.1
    · exact pure_look hp.2 e
/-- a def leaves: from what is promised behind it to what is promised within -/
theorem Out.leave {K : PySem.W.Frag} {F : FF} {ρ : List Addr} {H : Hp} {h : Hh} {Q : VK} {E : XK} {m : M (Flow × Px.Env)} (R : Rel K F ρ H h) (sn : Sane h.length m)
    (out : Out K F ρ (Px.leave h.length (Px.bind m valOf h)) (fun d F' ρ' H' _ => ∀ v, Rep F' ρ' d v → Q v H') E) : Out K F ρ (m h) (Fin { nx := fun _ H' => Q .non H', rt := Q }) E := by
  have q := sn h
  have cl0 := R.closed
  have pr : ∀ {ρ' : List Addr}, Pre ρ ρ' → Pre ρ (ρ'.take h.length) := fun p l a e => take_get (by rw [← R.len]; exact (List.getElem?_eq_some_iff.mp e).1) (p l a e)
  cases e : m h with
  | stuck =>
    rw [bind_at, e] at out
    exact out
  | exc z h1 =>
    rw [bind_at, e] at out
    rw [e] at q
    obtain ⟨l1, c1⟩ := q (Nat.le_refl _)
    have out : Out K F ρ (if pureF z.fs && noLock (h1.drop h.length) then .exc z (h1.take h.length) else .stuck) _ E := out
    intro F' ρ' H' dd lf lp R' x
    split at out
    · rename_i hs
      rw [Bool.and_eq_true] at hs
      have R2 := R'.leave l1 (c1 _ (Nat.le_refl _) cl0) hs.2
      refine out _ _ H' dd ⟨fun a o q => shed_le R' a o (lf.l a o q), lf.g⟩ (pr lp) R2 ?_
      rcases x with x | ⟨a, gs, x1, x2, x3⟩
      · exact .inl x
      · exact .inr ⟨a, gs, x1, x2, fun f d q => by
          obtain ⟨nf, v, y1, y2⟩ := x3 f d q
          exact ⟨nf, v, y1, Rep.take (shed_le R') d v (und_pure d (pure_look hs.1 q)) y2⟩⟩
    · exact out.elim
  | ok p h1 =>
    rw [bind_at, e] at out
    rw [e] at q
    obtain ⟨l1, c1⟩ := q (Nat.le_refl _)
    have key : ∀ {d : D} {F' : FF} {ρ' : List Addr} {H' : Hp}, Out K F ρ (finish h.length d h1) (fun d F' ρ' H' _ => ∀ v, Rep F' ρ' d v → Q v H') E → Le F F' → Pre ρ ρ' → Rel K F' ρ' H' h1 → ∀ v, Rep F' ρ' d v → Q v H' := by
      intro d F' ρ' H' o lf lp R' v rv
      unfold finish at o
      cases q2 : frz h.length h1 3 d with
      | none => rw [q2] at o; exact o.elim
      | some d' =>
        simp only [q2] at o
        split at o
        · rename_i hs
          have R2 := R'.leave l1 (c1 _ (Nat.le_refl _) cl0) hs
          exact o _ _ H' ⟨fun a o q => shed_le R' a o (lf.l a o q), lf.g⟩ (pr lp) R2 v (frz_rep R' 3 d d' v q2 rv)
        · exact o.elim
    obtain ⟨fl, env1⟩ := p
    cases fl with
    | next => exact fun F' ρ' H' lf lp R' σ' re' => key (d := .non) out lf lp R' .non rfl
    | ret d => exact fun F' ρ' H' lf lp R' v rv => key (d := d) out lf lp R' v rv
    | brk => exact out.elim
    | cont => exact out.elim
/-- a def of the program as it stands behind the top -/
structure DefAt (P : Prog) (g : TrG) (K : PySem.W.Frag) (mg : Str → Option Value) (x : Str) (f : Addr) (fd : FuncData) (ps : List Str) : Prop where
  binds : ∀ (s : Shared) (us : List Value), us.length = ps.length → BindsTo s fd ⟨us, []⟩ (ps.zip us)
  mgf : mg x = some (.ref f)
  kp : PySem.W.keepIn K (.ref f) = true
  ex : ∃ (qual : Str) (params : Arguments) (body : List Stmt) (scope : Scope) (N : List Str) (fn : Fn) (m : Nat), FunD K x qual params body scope [] [] f fd ∧ FnScope N ps scope ∧
    P.fns.lookup (x, none) = some fn ∧ fn.np = ps.length ∧ fn.ns = N.length ∧ trL (trS g N scope m) body = some fn.body
def DefOk (P : Prog) (g : TrG) (K : PySem.W.Frag) (mg : Str → Option Value) (x : Str) : Prop := ∃ f fd ps, DefAt P g K mg x f fd ps
theorem DefAt.bd {P : Prog} {g : TrG} {K : PySem.W.Frag} {mg : Str → Option Value} {x : Str} {f : Addr} {fd : FuncData} {ps : List Str} (d : DefAt P g K mg x f fd ps) : Binds K fd ps [] := fun s us _ hl => by
  rw [List.append_nil] at hl ⊢
  exact d.binds s us hl
theorem startEnv_rep {F : FF} {ρ : List Addr} {fn : Fn} {ds : List D} {vs : List V} {N ps : List Str} (r : RepL F ρ ds vs) (h1 : ds.length = fn.np) (h2 : fn.ns = N.length) : RepE F ρ (startEnv fn ds) (L2.start N vs) := by
  have hl := r.length
  unfold startEnv L2.start
  refine ⟨by rw [List.length_append, List.length_append, List.length_map, List.length_map, List.length_replicate, List.length_replicate, hl, h1, h2], fun i d e => ?_⟩
  by_cases hi : i < ds.length
  · rw [List.getElem?_append_left (by simpa using hi), List.getElem?_map] at e
    cases q : ds[i]? with
    | none => rw [q] at e; cases e
    | some d' =>
      rw [q] at e
      cases e
      obtain ⟨v, ev, rv⟩ := r.get q
      exact ⟨v, by rw [List.getElem?_append_left (by simpa [hl] using hi), List.getElem?_map, ev]; rfl, rv⟩
  · rw [List.getElem?_append_right (by simpa using Nat.le_of_not_lt hi), List.getElem?_replicate] at e
    split at e <;> cases e
/-- one def, the others standing -/
theorem fn_step {P : Prog} {g : TrG} {prog : Program} {w : World} {K : PySem.W.Frag} {mg : Str → Option Value} {base : Heap} {n : Nat} (ih : Tops P g prog w K mg base n) (xs : (∀ c, g.excs.contains c = true → ExcOk P g prog K mg c) ∧ ∀ c l, P.sub.lookup c = some l → g.excs.contains c = true) {x : Str} {f : Addr} {fd : FuncData} {ps : List Str} (d : DefAt P g K mg x f fd ps) :
    FnOk prog w K mg base (L2.CX prog w) (n + 2) f fd ps (spI P K (n + 1) (x, none)) := by
  obtain ⟨qual, params, body, scope, N, fn, m, h1, h2, h5, h6, h7, h8⟩ := d.ex
  have ev : ∀ (b : Nat) (ds : List D) (h : Hh), run P (n + 1) (x, none) b ds h = if ds.length = fn.np then
      (if fn.keep then bind (execs (cx P n) b fn.body (startEnv fn ds)) valOf h else Px.leave h.length (bind (execs (cx P n) h.length fn.body (startEnv fn ds)) valOf h)) else .stuck := by
    intro b ds h
    rw [run, h5]
    by_cases q : ds.length = fn.np
    · simp only [q, if_true]
      cases fn.keep <;> rfl
    · simp only [q, if_false]
      rfl
  refine h1.ok h2 (fun vs H Q E z => ?_) fun cdv A outer s H vs Q E hr z => ?_
  · obtain ⟨F, ρ, h, ds, b, R, rvs, hb, out⟩ := z
    rw [ev] at out
    by_cases q : ds.length = fn.np
    · rw [rvs.length, q, h6]
    · rw [if_neg q] at out; exact out.elim
  · obtain ⟨F, ρ, h, ds, b, R, rvs, hb, out⟩ := z
    rw [ev] at out
    by_cases q : ds.length = fn.np
    · rw [if_pos q] at out
      have o : SOk P g N n E scope (cxOf (L2.CX prog w) prog w K mg base N qual scope f cdv A outer s H E) := {
        calm := rfl
        names := rfl
        nd := h2.nd
        tk := takes_of rfl rfl rfl rfl
        rm := hr
        tops := ih
        like := fun y k e => ⟨k, e, .inl rfl⟩
        st := fun y _ => .inl rfl
        scope := rfl
        kind := h2.kind
        owns := passes_of rfl
        stk := rfl
        frm := rfl
        excs := xs.1
        subs := xs.2 }
      have re := startEnv_rep (N := N) (ps := ps) rvs q h7
      cases hk : fn.keep with
      | true =>
        rw [hk, if_pos rfl, bind_at] at out
        refine ⟨tS K b E (eSs (cx P n) b fn.body), snd_Ss (snd_S m) o b h8, F, ρ, h, startEnv fn ds, R, re, hb, out.bind.imp fun p h1 F1 ρ1 H1 e1 l1 p1 R1 o1 => ?_⟩
        obtain ⟨fl, env1⟩ := p
        cases fl with
        | next => exact fun σ' _ => Out.here (E := E) o1 R1 .non rfl
        | ret d => exact fun v rv => Out.here (E := E) o1 R1 v rv
        | brk => exact o1.elim
        | cont => exact o1.elim
      | false =>
        rw [hk, if_neg Bool.false_ne_true] at out
        exact ⟨tS K h.length E (eSs (cx P n) h.length fn.body), snd_Ss (snd_S m) o h.length h8, F, ρ, h, startEnv fn ds, R, re, Nat.le_refl _, Out.leave R (sane_execs (cx_sane P n) h.length fn.body (startEnv fn ds)) out⟩
    · rw [if_neg q] at out; exact out.elim
/-- all defs, by the fuel -/
theorem all_defs {P : Prog} {g : TrG} {prog : Program} {w : World} {K : PySem.W.Frag} {mg : Str → Option Value} {base : Heap} (defs : ∀ x np, g.fns.lookup x = some np → DefOk P g K mg x) (free : ∀ x, g.free.contains x = true → mg x = none)
    (consts : ∀ x d, P.consts.lookup x = some d → ∃ v u, mg x = some u ∧ RelV v u ∧ ∀ F ρ, Rep F ρ d v) (tcs : ∀ x, g.tcs.contains x = true → ∃ ds a vs, P.tcs.lookup x = some ds ∧ mg x = some (.ref a) ∧ (∀ H, SqT K H a vs) ∧ ∀ F ρ, RepL F ρ ds vs) (xs : (∀ c, g.excs.contains c = true → ExcOk P g prog K mg c) ∧ ∀ c l, P.sub.lookup c = some l → g.excs.contains c = true) :
    ∀ n, Tops P g prog w K mg base n
  | 0 => ⟨fun x np hx => by
      obtain ⟨f, fd, ps, d⟩ := defs x np hx
      refine ⟨f, fd, ps, ⟨fun vs H Q E z => ?_, fun A outer s H args us vs Q E _ _ _ _ z => ?_⟩, d.mgf, d.kp, d.bd⟩
      · obtain ⟨_, _, _, _, _, _, _, _, out⟩ := z
        exact out.elim
      · obtain ⟨_, _, _, _, _, _, _, _, out⟩ := z
        exact out.elim, free, consts, tcs⟩
  | n + 1 => ⟨fun x np hx => by
      obtain ⟨f, fd, ps, d⟩ := defs x np hx
      exact ⟨f, fd, ps, fn_step (all_defs defs free consts tcs xs n) xs d, d.mgf, d.kp, d.bd⟩, free, consts, tcs⟩
end Px

set_option Elab.async false
set_option autoImplicit false
set_option linter.all false
set_option maxRecDepth 100000
/-! What a head says of own exception classes. -/
namespace Px
open PySem L2 PySem.Spec PySem.Calls PyProof.Rows
open PySem.W (Frag findIn subIn typeIn keepIn hasDictIn mroIn specialIn takesIn codeIn clsIn alongIn nsIn excIn)
def oexB (K : Frag) (C : Addr) : Bool := match K.lookup C with
  | some ⟨.type t, _, .cls cd, sl⟩ => (match cd.mro, sl.toList with
    | .ref C' :: bm, [_, _, _, _, some (.builtin n), _] => t == "type" && (C' == C && (n == "ValueError.__new__" && (!cd.hasDel && (cd.hasDict && PySem.HandSPX.refsVE bm))))
    | _, _ => false)
  | _ => false
theorem oexB_ok {K : Frag} {C : Addr} (h : oexB K C = true) : ∃ nm q N bs bm sn sub ab col dd k0 k1 k2 k3 k5, K.lookup C = some (excClassObj nm q C N bs bm true sn sub ab col dd k0 k1 k2 k3 k5 "ValueError.__new__") ∧ PySem.HandSPX.refsVE bm = true := by
  unfold oexB at h
  split at h
  · rename_i t dd cd sl ho
    split at h
    · rename_i C' bm k0 k1 k2 k3 n k5 hm hs
      simp only [Bool.and_eq_true, beq_iff_eq, Bool.not_eq_true'] at h
      obtain ⟨rfl, rfl, rfl, hdel, hdct, hv⟩ := h
      obtain ⟨nm, bs, mro, ns, qn, hd, sn, sub, ab, col, del⟩ := cd
      dsimp only at hm hdel hdct
      subst hm hdel hdct
      have hsl : sl = #[k0, k1, k2, k3, some (.builtin "ValueError.__new__"), k5] := by
        obtain ⟨l⟩ := sl
        simp only at hs
        rw [hs]
      subst hsl
      exact ⟨nm, qn, ns, bs, bm, sn, sub, ab, col, dd, k0, k1, k2, k3, k5, ho, hv⟩
    · cases h
  · cases h
def xcB (K : Frag) (D : Addr) : Bool := decide (findIn K (.ref D) "__getattribute__" = some (some (.builtin "BaseException.__getattribute__"))) && (decide (findIn K (.ref D) "__getattr__" = some none) && (decide (subIn K (.ref D) (.type "BaseException") = some true) && (hasDictIn K D && (decide (findIn K (.ref D) "__class__" = some (some (.builtin "object.__class__"))) &&
  (decide (specialIn K (.builtin "object.__class__") "__get__" = some (some (.builtin "getset_descriptor.__get__"))) && (decide (takesIn K (.builtin "object.__class__") = some true) && decide (mroIn K D (.type "object") = some true)))))))
theorem xcB_ok {K : Frag} {D : Addr} (h : xcB K D = true) : ExcC K D := by
  simp only [xcB, Bool.and_eq_true, decide_eq_true_eq] at h
  obtain ⟨h1, h2, h3, h4, h5, h6, h7, h8⟩ := h
  exact ⟨h1, h2, h3, h4, h5, h6, h7, h8⟩
/-- a class: what it is a subclass of among the own ones -/
def xB (K : Frag) (c : Str) (exs : List (Str × Bool)) (fs : List Str) : Bool :=
  keepIn K (.ref (He.ga K c)) && (decide (subIn K (.ref (He.ga K c)) (.type "BaseException") = some true) && (decide (typeIn K (.ref (He.ga K c)) = some (.type "type")) && (exs.all (fun p => decide (subIn K (.ref (He.ga K c)) (.ref (He.ga K p.1)) = some p.2)) && (xcB K (He.ga K c) && (xfB K (He.ga K c) &&
    (decide (subIn K (.ref (He.ga K c)) (.ref (He.ga K c)) = some true) && fs.all fun f => decide (findIn K (.ref (He.ga K c)) f = some none)))))))
theorem xB_ok {K : Frag} {c : Str} {exs : List (Str × Bool)} {fs : List Str} (h : xB K c exs fs = true) : keepIn K (.ref (He.ga K c)) = true ∧ subIn K (.ref (He.ga K c)) (.type "BaseException") = some true ∧ typeIn K (.ref (He.ga K c)) = some (.type "type") ∧ (∀ p ∈ exs, subIn K (.ref (He.ga K c)) (.ref (He.ga K p.1)) = some p.2) ∧
    ExcC K (He.ga K c) ∧ XfC K (He.ga K c) ∧ subIn K (.ref (He.ga K c)) (.ref (He.ga K c)) = some true ∧ ∀ f ∈ fs, findIn K (.ref (He.ga K c)) f = some none := by
  simp only [xB, Bool.and_eq_true, decide_eq_true_eq, List.all_eq_true] at h
  obtain ⟨h1, h2, h3, h4, h5, h6, h7, h8⟩ := h
  exact ⟨h1, h2, h3, h4, xcB_ok h5, xfB_ok h6, h7, h8⟩
/-- an own __init__ as it stands -/
structure InD where
  cls : Str
  name : Str
  qual : Str
  params : Arguments
  body : List Stmt
  scope : Scope
  dfl : List He.Dv
abbrev InW : Type := Option (Str × Str × Arguments × FuncBody × Scope × Addr × List Str × Addr)
def iA (K : Frag) (c : Str) : Addr := He.ma K (He.ga K c) "__init__"
def inW (K : Frag) (c : Str) : InW := match K.lookup (iA K c) with
  | some ⟨_, _, .func fd, _⟩ => some (fd.name, fd.qualname, fd.params, fd.body, fd.scope, fd.globals, fd.closure.map (·.1), fd.builtins)
  | _ => none
def InD.val (d : InD) : InW := some (d.name, d.qual, d.params, .stmts d.body, d.scope, mainGlobals, [("__class__" : Str)], builtinsNs)
def fileB (K : Frag) (file : Str) (v : Value) : Bool := match v with
  | .ref cda => (match K.lookup cda with
    | some ⟨_, _, .fields vs, _⟩ => (match (vs[2]? : Option Value) with
      | some (Value.str f _) => file == f
      | _ => false)
    | _ => false)
  | _ => false
def cellB (K : Frag) (C : Addr) (l : List (Str × Addr)) : Bool := match l with
  | [(_, cc)] => (match K.lookup cc with
    | some ⟨_, _, .cell (some (.ref D)), _⟩ => D == C
    | _ => false)
  | _ => false
theorem cellB_ok {K : Frag} {C : Addr} {l : List (Str × Addr)} (h : cellB K C l = true) : ∃ y cc oc od osl, l = [(y, cc)] ∧ K.lookup cc = some ⟨oc, od, .cell (some (.ref C)), osl⟩ := by
  unfold cellB at h
  split at h
  · split at h
    · rename_i q
      have h := beq_iff_eq.mp h
      subst h
      exact ⟨_, _, _, _, _, rfl, q⟩
    · cases h
  · cases h
theorem fileB_ok {K : Frag} {file : Str} {v : Value} (h : fileB K file v = true) : ∃ (cda : Addr) (oc : Value) (od : Option Addr) (osl : Array (Option Value)) (vs : Array Value) (f : Str) (tf : Tok), v = .ref cda ∧ K.lookup cda = some ⟨oc, od, .fields vs, osl⟩ ∧ vs[2]? = some (.str f tf) ∧ (file == f) = true := by
  unfold fileB at h
  split at h
  · split at h
    · rename_i q
      split at h
      · rename_i q2
        exact ⟨_, _, _, _, _, _, _, rfl, q, q2, h⟩
      · cases h
    · cases h
  · cases h
def alB (K : Frag) (C : Addr) : Bool := match clsIn K C with
  | some cd => decide (alongIn K "__init__" ((cd.mro.dropWhile (· != .ref C)).drop 1) = some (some (.builtin "ValueError.__init__")))
  | none => false
def InD.ok (file : Str) (K : Frag) (d : InD) : Bool := decide (findIn K (.ref (He.ga K d.cls)) "__init__" = some (some (.ref (iA K d.cls)))) && (decide (typeIn K (.ref (iA K d.cls)) = some (.type "function")) && (oexB K (He.ga K d.cls) && (decide (findIn K (.ref (He.ga K d.cls)) "__setattr__" = some (some (.builtin "object.__setattr__"))) &&
  (alB K (He.ga K d.cls) && (decide (subIn K (.ref (He.ga K d.cls)) (.type "ValueError") = some true) && (decide (nsIn K cStatics "thirdparty.any" = some none) && (match K.lookup (iA K d.cls) with
    | some ⟨_, _, .func fd, _⟩ => codeIn K fd.code d.qual && (He.dflB K fd.defaults (d.dfl.map (He.Dv.v K)) && (fileB K file fd.code && cellB K (He.ga K d.cls) fd.closure))
    | _ => false)))))))
theorem initF_of {prog : Program} {K : Frag} {d : InD} {exs : List (Str × Bool)} {fs : List Str} {ps : List Str} (e : inW K d.cls = d.val) (h : d.ok prog.main.file K = true) (hx : xB K d.cls exs fs = true) (sup : (prog.main.scope.names.lookup ("super" : Str)).isSome = false) :
    ∃ fd : FuncData, InitF prog K (He.ga K d.cls) (iA K d.cls) fd ps d.body ∧ fd.params = d.params ∧ fd.scope = d.scope ∧ findIn K (.ref (He.ga K d.cls)) "__init__" = some (some (.ref (iA K d.cls))) ∧ typeIn K (.ref (iA K d.cls)) = some (.type "function") ∧ DflV K fd.defaults (d.dfl.map (He.Dv.v K)) := by
  obtain ⟨x1, x2, x3, x4, x5, x6, x7, x8⟩ := xB_ok hx
  simp only [InD.ok, Bool.and_eq_true, decide_eq_true_eq] at h
  obtain ⟨h1, h2, h3, h4, h5, h6, h7, h8⟩ := h
  unfold inW at e
  cases q : K.lookup (iA K d.cls) with
  | none => rw [q] at h8; cases h8
  | some o =>
    obtain ⟨oc, od, dt, osl⟩ := o
    rw [q] at h8 e
    cases dt with
    | func fd =>
      obtain ⟨n1, n2, n3, n4, n5, n6, n7, n8, n9, n10, n11, n12, n13, n14, n15⟩ := fd
      have e2 : (some (n1, n2, n3, n4, n5, n6, n7.map (·.1), n15) : InW) = some (d.name, d.qual, d.params, .stmts d.body, d.scope, mainGlobals, [("__class__" : Str)], builtinsNs) := e
      simp only [Option.some.injEq, Prod.mk.injEq] at e2
      obtain ⟨e1, e2, e3, e4, e5, e6, e7, e8⟩ := e2
      obtain ⟨g1, h8⟩ := Bool.and_eq_true_iff.mp h8
      obtain ⟨g2, h8⟩ := Bool.and_eq_true_iff.mp h8
      obtain ⟨g3, g4⟩ := Bool.and_eq_true_iff.mp h8
      replace g3 : fileB K prog.main.file n13 = true := g3
      replace g4 : cellB K (He.ga K d.cls) n7 = true := g4
      refine ⟨⟨n1, n2, n3, n4, n5, n6, n7, n8, n9, n10, n11, n12, n13, n14, n15⟩, { T := ⟨oexB_ok h3, h4, x2, x3, x1⟩, mro := ?_, vE := h6, self := x7, fn := ⟨_, _, _, q⟩, body := e4, code := (by show codeIn K n13 n2 = true; rw [e2]; exact g1), file := ?_, cell := ?_, any := h7, glob := e6, blts := e8, sup := sup }, e3, e5, h1, h2, He.dflB_ok g2⟩
      · unfold alB at h5
        cases q5 : clsIn K (He.ga K d.cls) with
        | none => rw [q5] at h5; cases h5
        | some cd => rw [q5] at h5; exact ⟨cd, rfl, of_decide_eq_true h5⟩
      · exact fileB_ok g3
      · obtain ⟨y, cc, oc2, od2, sl2, e9, q9⟩ := cellB_ok g4
        have e7 : n7.map (·.1) = [("__class__" : Str)] := e7
        rw [e9] at e7
        simp only [List.map_cons, List.map_nil, List.cons.injEq, and_true] at e7
        exact ⟨cc, oc2, od2, sl2, by show n7 = _; rw [e9, e7], q9⟩
    | _ => cases h8
end Px

set_option autoImplicit false
set_option linter.all false
set_option maxRecDepth 100000
set_option maxHeartbeats 4000000
/-! An own __init__ read off its text. -/
namespace Px
open PySem L2 PySem.Spec PySem.Calls PyProof.Rows NdefX
def visB (sc : Scope) (x : Str) : Bool := sc.names.lookup x == some .local && !odd x
def parseFs (N : List Str) (sc : Scope) : List Stmt → Option (List (Str × Nat))
  | [] => some []
  | .Assign [.Attribute (.Name s _) f _] (.Name x _) _ :: r => if N[0]? == some s && (visB sc s && visB sc x) then (match slotOf N x, parseFs N sc r with
    | some i, some fs => some ((f, i) :: fs)
    | _, _ => none) else none
  | _ => none
theorem visB_ok {sc : Scope} {x : Str} (h : visB sc x = true) : Vis sc x ∧ (x == ("__debug__" : Str)) = false ∧ (x == ("__classdict__" : Str)) = false := by
  simp only [visB, Bool.and_eq_true, beq_iff_eq, Bool.not_eq_true'] at h
  exact ⟨.inl h.1, odd_no h.2⟩
theorem parseFs_ok {N : List Str} {sc : Scope} : ∀ {r : List Stmt} {fs : List (Str × Nat)}, parseFs N sc r = some fs → FsOk N sc r fs := by
  intro r
  induction r using parseFs.induct N sc with
  | case1 => intro fs h; rw [parseFs] at h; cases h; exact .nil
  | case2 s p1 f p2 x p3 p4 r hc i fs2 h2 h1 ih =>
    intro fs h
    rw [parseFs, if_pos hc, h1, h2] at h
    cases h
    simp only [Bool.and_eq_true, beq_iff_eq] at hc
    obtain ⟨a, b, c⟩ := hc
    obtain ⟨b1, b2⟩ := visB_ok b
    obtain ⟨c1, c2⟩ := visB_ok c
    exact .cons a b1 b2 (slotOf_get h1) c1 c2 (ih h2)
  | _ => intro fs h; simp_all [parseFs]
def parseInit (N : List Str) (sc : Scope) (np : Nat) : List Stmt → Option (List (Str × Nat))
  | .Expr (.Call (.Attribute (.Call (.Name s _) [] [] _) m p2) (a0 :: as) [] p3) _ :: r => if s = "super" ∧ m = "__init__" ∧ (a0 :: as).all (argB N sc np) = true ∧ (a0 :: as).length < 30 ∧ p2.endLine = p3.line then parseFs N sc r else none
  | _ => none
theorem star_not {pos : Pos} {env : PySem.Env} : ∀ {es : List Expr}, es.all ns = true → (backTo pos (starEach es env)).all (!·.1) = true
  | [], _ => rfl
  | e :: es, h => by
    rw [List.all_cons, Bool.and_eq_true] at h
    rw [star_cons h.1]
    show (!false && (backTo pos (starEach es env)).all (!·.1)) = true
    rw [star_not h.2]
    rfl
theorem sup_eval {p0 p1 p2 p3 : Pos} {args0 : Expr} {args1 : List Expr} (hn : (args0 :: args1).all ns = true) (hl : (args0 :: args1).length < 30) (hp : p2.endLine = p3.line) (env : PySem.Env) : ∃ pl : Sem Bool, eval (.Call (.Attribute (.Call (.Name "super" p0) [] [] p1) "__init__" p2) (args0 :: args1) [] p3) env = (do
      let ov ← attributeBase (.Call (.Name "super" p0) [] [] p1) "__init__" env (eval (.Call (.Name "super" p0) [] [] p1) env)
      standAt p2.atName
      let (f, first) ← holding [ov] (getMethod ov "__init__" pl)
      callWith p3 f first (backTo p3 (starEach (args0 :: args1) env)) []) := by
  have few : methodCallForm ((args0 :: args1).length + ([] : List Keyword).length) (backTo p3 (starEach (args0 :: args1) env)) (backToKw p3 (keywordEach [] env)) = true := by
    unfold methodCallForm
    rw [star_not hn]
    have e : (backToKw p3 (keywordEach [] env)) = [] := rfl
    rw [e]
    simp only [List.all_nil, List.isEmpty_nil, if_true, Bool.true_and, List.length_nil, Nat.add_zero, decide_eq_true_eq]
    exact hl
  rw [arm_eval_Call]
  unfold methodCall
  rw [few]
  have e2 : methodCallPos true (.Call (.Name "super" p0) [] [] p1) env p2 p3 = pure p3 := by
    unfold methodCallPos
    rw [if_pos (by rw [hp]; simp)]
  rw [e2]
  exact ⟨_, rfl⟩
theorem init_of {prog : Program} {w : World} {K : PySem.W.Frag} {mg : Str → Option Value} {base : Heap} {C fI : Addr} {fd : FuncData} {ps N : List Str} {body : List Stmt} {fs : List (Str × Nat)} {k : Nat} {ar : Arg} {scope : Scope} {params : Arguments}
    (D : InitF prog K C fI fd ps body) (es : fd.scope = scope) (ep : fd.params = params) (S : nscB N ps ["__class__"] scope = true) (hks : scope.names.lookup ("super" : Str) = some .globalImplicit) (ms : mg "super" = none) (hb : parseInit N scope ps.length body = some fs)
    (har : (params.posonlyargs ++ params.args).head? = some ar) (h0 : ps[0]? = some ar.arg) (hne : fs ≠ []) (hno : ∀ p ∈ fs, PySem.W.findIn K (.ref C) p.1 = some none) (hix : ∀ p ∈ fs, p.2 < ps.length) (hl9 : fs.length ≤ 900) : FnOk prog w K mg base CX0 k fI fd ps (spX C ps.length fs) := by
  subst es ep
  unfold parseInit at hb
  split at hb
  · rename_i s p0 p1 m p2 a0 as p3 p4 r
    split at hb
    · rename_i hh
      obtain ⟨rfl, rfl, h1, h2, h3⟩ := hh
      exact init_ok D (nscope_by S) hks ms rfl har h0 hne (List.all_eq_true.mp h1) (by omega) (parseFs_ok hb) hno (sup_eval (List.all_eq_true.mpr fun e he => argB_ns (List.all_eq_true.mp h1 e he)) h2 h3) hix hl9
    · cases hb
  · cases hb
/-- one default behind self -/
theorem binds_dfl {K : PySem.W.Frag} {fd : FuncData} {ps : List Str} {dvs : List V} {n : Nat} (hd : DflV K fd.defaults dvs) (hne : dvs ≠ []) (hn : n + dvs.length = ps.length)
    (h : ∀ (T : Addr), fd.defaults = .ref T → ∀ (us its : List Value) (j : Nat), j ≤ dvs.length → us.length = n + j → its.length = dvs.length → (∃ k, bindArgs fd ⟨us, []⟩ = seqItems? (.ref T) >>= k ∧ k (some its.toArray) = pure (ps.zip (us ++ its.drop j))) ∨ bindArgs fd ⟨us, []⟩ = pure (ps.zip (us ++ its.drop j))) :
    ∃ dU : List Value, Vals dvs dU ∧ ∀ j, Binds K fd ps (dU.drop j) := by
  rcases hd with ⟨e, _⟩ | ⟨_, T, o, its, m, eT, lT, oT, rT⟩
  · exact absurd e hne
  · refine ⟨its, rT, fun j s us X hlen => ?_⟩
    have l1 : its.length = dvs.length := rT.length.symm
    rw [List.length_append, List.length_drop] at hlen
    have key : ∀ j ≤ dvs.length, us.length = n + j → BindsTo s fd ⟨us, []⟩ (ps.zip (us ++ its.drop j)) := fun j hj hu => by
      rcases h T eT us its j hj hu l1 with ⟨k, e1, e2⟩ | e1
      · refine BindsTo.of_looks fun M => ?_
        rw [e1]
        exact looks_items X lT oT (.of_pure e2)
      · exact BindsTo.of_eq e1
    by_cases hj : j ≤ dvs.length
    · exact key j hj (by omega)
    · have e : its.drop j = its.drop dvs.length := by rw [List.drop_of_length_le (by omega), List.drop_of_length_le (by omega)]
      rw [e]
      exact key dvs.length (Nat.le_refl _) (by omega)
end Px

set_option Elab.async false
set_option autoImplicit false
set_option linter.all false
set_option maxRecDepth 100000
/-! The head's facts without lists; a law's end. -/
namespace Px
open PySem PySem.Spec PyProof.Rows L2
/-- no list among the written part's objects (so the script is none of them) -/
def nl (K : PySem.W.Frag) : PySem.W.Frag := K.filter fun q => q.2.cls != .type "list"
theorem look_mem {K : PySem.W.Frag} {a : Addr} {o : Obj} (h : K.lookup a = some o) : (a, o) ∈ K := by
  induction K with
  | nil => cases h
  | cons q K ih =>
    obtain ⟨b, u⟩ := q
    rw [List.lookup_cons] at h
    split at h
    · rename_i e
      cases h
      have : a = b := by simpa using e
      rw [this]
      exact List.mem_cons_self
    · exact List.mem_cons_of_mem _ (ih h)
theorem nl_cls {K : PySem.W.Frag} {a : Addr} {o : Obj} (h : (nl K).lookup a = some o) : o.cls ≠ .type "list" := by
  have m := (List.mem_filter.mp (look_mem h)).2
  simpa using m
theorem nl_in {g : Addr → Option Obj} {as : List Addr} {h : Heap} (hg : g = h.get?) : (nl (He.frG g as)).In h := fun a o e => by
  subst hg
  exact He.frG_mem (List.mem_filter.mp (look_mem e)).1
structure SaysN (fa : List He.Fa) (fn : List He.DefD) (more : PySem.W.Frag → Bool) (ins : List InD) (K : PySem.W.Frag) : Prop where
  d : He.SaysD fa fn K
  more : more K = true
  ins : ins.map (fun d => inW K d.cls) = ins.map InD.val
  nol : ∀ a o, K.lookup a = some o → o.cls ≠ .type "list"
theorem SaysN.inW {fa : List He.Fa} {fn : List He.DefD} {more : PySem.W.Frag → Bool} {ins : List InD} {K : PySem.W.Frag} (c : SaysN fa fn more ins K) (i : Nat) {d : InD} (h : ins[i]? = some d := by rfl) : Px.inW K d.cls = d.val := by
  have e := congrArg (fun l => l[i]?) c.ins
  simp only [List.getElem?_map, h, Option.map_some, Option.some.injEq] at e
  exact e
abbrev AlN : Type := He.AlD × Bool × List InW
def asN (g : Addr → Option Obj) (n : Nat) : List Addr := He.asD g n ++ [cStatics]
def obsN (n : Nat) (fa : List He.Fa) (fn : List He.DefD) (more : PySem.W.Frag → Bool) (ins : List InD) (g : Addr → Option Obj) : AlN := (He.obsD fa fn (nl (He.frG g (asN g n))), more (nl (He.frG g (asN g n))), ins.map fun d => inW (nl (He.frG g (asN g n))) d.cls)
def hookN (n : Nat) (fa : List He.Fa) (fn : List He.DefD) (more : PySem.W.Frag → Bool) (ins : List InD) : PySem.W.Hook where
  α := AlN
  obs := fun s => obsN n fa fn more ins s.heap.get?
  val := fun _ => (He.valD fn, true, ins.map InD.val)
  says := fun _ h => ∃ K : PySem.W.Frag, K.In h ∧ SaysN fa fn more ins K
  of := fun _ _ e => ⟨_, nl_in rfl, congrArg (fun z : AlN => z.1) e, congrArg (fun z : AlN => z.2.1) e, congrArg (fun z : AlN => z.2.2) e, fun _ _ q => nl_cls q⟩
  keeps := fun _ _ _ ⟨K, hK, c⟩ k => ⟨K, PySem.W.Frag.In.keeps hK k, c⟩
theorem obsN_eq {n : Nat} {fa : List He.Fa} {fn : List He.DefD} {more : PySem.W.Frag → Bool} {ins : List InD} {g : Addr → Option Obj} {s : Shared} (h : ∀ a, g a = s.heap.get? a) : obsN n fa fn more ins g = (hookN n fa fn more ins).obs s := by
  have e : g = s.heap.get? := funext h
  rw [e] <;> rfl
/-- a law that the small program keeps -/
theorem pi_law {P : Prog} {g : TrG} {prog : Program} {w : World} {K : PySem.W.Frag} {mg : Str → Option Value} {f : Addr} {fd : FuncData} {n : Nat} (nol : ∀ a o, K.lookup a = some o → o.cls ≠ .type "list") (law : ∀ ns : List Int, ns.length ≤ 63 → ∃ h, run P (n + 1) ("law", none) 0 [.scr (ns.map .int)] [] = .ok (.bl true) h)
    (d : DefAt P g K mg "law" f fd ["script"]) (xs : (∀ c, g.excs.contains c = true → ExcOk P g prog K mg c) ∧ ∀ c l, P.sub.lookup c = some l → g.excs.contains c = true) (tops : ∀ base, Tops P g prog w K mg base n) : ∃ sp : Sp,
      (∀ (H : Hp) (a : Addr) (ns : List Int), ns.length ≤ 63 → Only H → SqL K H a (ns.map V.int) → sp [.ref a] H (fun v _ => v = .bl true) fun _ _ _ => False) ∧ ∀ base : Heap, FnOk prog w K mg base CX0 (n + 2) f fd ["script"] sp := by
  refine ⟨fun vs H Q _ => spI P K (n + 1) ("law", none) vs H Q fun _ _ _ => False, fun H a ns hl hO hS => ?_, fun base => ?_⟩
  · have hr : Rd H a (.lst (ns.map V.int)) := by
      rcases hS with h | ⟨o, its, m, h1, h2, _⟩
      · exact h
      · exact absurd h2 (nol a o h1)
    obtain ⟨h', e⟩ := law ns hl
    refine ⟨⟨H, fun _ => none⟩, [], [], [.scr (ns.map .int)], 0, ⟨fun _ _ q => q, fun _ _ q => (by cases q), List.nodup_nil, rfl, fun _ q => (by cases q), fun l _ _ q => (by simp at q)⟩, ⟨_, _, rfl, ⟨a, ns.map V.int, rfl, hr, ?_, RepL.of_ints ns⟩, rfl⟩, Nat.zero_le _, ?_⟩
    · rw [List.length_map]
      have : (63 : Nat) ≤ big := by decide
      omega
    · rw [e]
      exact fun F' ρ' H' _ _ _ v rv => rv
  · have F := fn_step (tops base) xs d
    exact ⟨fun vs H Q E z => F.len vs H Q _ z, fun A outer s H args us vs Q E hr he hb hv hs => codeAny_mono (F.run A outer s H args us vs Q _ hr he hb hv hs) fun r s' h => by
      cases r with
      | ok fl => cases fl <;> exact h
      | error e =>
        obtain ⟨_, _, _, _, _, _, _, _, _, _, _, _, z⟩ := h
        exact z.elim⟩
end Px

set_option autoImplicit false
set_option linter.all false
set_option maxRecDepth 100000
namespace K84
open PySem Px L2
def top (i : Nat) : Stmt := PySem.Challenge.pw_gameproved_k84_whole_marks_of_ways.main.body.getD i (.Pass ⟨0, 0, 0, 0⟩)
def G : TrG := {
  fns := [(("is_whole" : Str), 1), (("is_between" : Str), 3), (("is_row" : Str), 1), (("is_numbers" : Str), 2), (("least_missing" : Str), 1), (("shared_table" : Str), 1), (("table_nimbers" : Str), 1), (("checked_way" : Str), 1), (("one_short_marks" : Str), 2), (("all_marks" : Str), 3), (("alone_marks" : Str), 1), (("some_marks" : Str), 3), (("marks_by" : Str), 2), (("way_marks" : Str), 2), (("_law_pool" : Str), 1), (("_law_take" : Str), 2), (("_law_pick" : Str), 2), (("_law_is_integer" : Str), 1), (("_law_same" : Str), 2), (("_law_order" : Str), 2), (("_law_given" : Str), 2), (("_law_missing" : Str), 1), (("_law_nimbers" : Str), 1), (("_law_shared" : Str), 2), (("_law_rows_mixed" : Str), 2), (("_law_ways" : Str), 0), (("_law_step_mark" : Str), 3), (("_law_mark" : Str), 4), (("_law_marks" : Str), 2), (("_law_fault" : Str), 2), (("_law_joined" : Str), 4), (("_law_joint_steps" : Str), 3), (("_law_long" : Str), 1), (("_law_always" : Str), 0), (("law" : Str), 1)],
  classes := [], excs := [("GameError" : Str), ("BadShared" : Str), ("BadWay" : Str)], consts := [("MOST_SHARED" : Str), ("MOST_SHARED_NUMBERS" : Str)], tcs := [("WHICH" : Str), ("ENDS" : Str), ("GOALS" : Str)],
  muts := [(38, 12, 14), (56, 12, 14), (67, 12, 14), (79, 12, 14), (89, 12, 14), (107, 11, 84), (144, 11, 28), (159, 12, 14), (164, 77, 79), (172, 12, 14), (211, 42, 44), (224, 11, 31), (241, 11, 15), (279, 12, 46)],
  tks := [(224, 11, 31), (230, 9, 60), (247, 10, 542)],
  free := [("len" : Str), ("sum" : Str), ("max" : Str), ("min" : Str), ("any" : Str), ("all" : Str), ("tuple" : Str), ("list" : Str), ("int" : Str), ("abs" : Str), ("bool" : Str), ("dict" : Str), ("sorted" : Str), ("set" : Str), ("isinstance" : Str), ("range" : Str), ("enumerate" : Str), ("zip" : Str), ("reversed" : Str), ("super" : Str), ("iter" : Str), ("ValueError" : Str), ("str" : Str)] }
abbrev s_is_whole : Stmt := top 3
def n_is_whole : List Str := [("value" : Str)]
def b_is_whole : List Stm :=
  [(.ret (.and (.isinst (.var 0) [.int]) (.not (.isinst (.var 0) [.bool]))))]
theorem tr_is_whole : trL (trS G n_is_whole (defScope s_is_whole) 40) (defBody s_is_whole) = some b_is_whole := by kernel_rfl
abbrev s_is_between : Stmt := top 4
def n_is_between : List Str := [("value" : Str), ("low" : Str), ("high" : Str)]
def b_is_between : List Stm :=
  [(.ret (.and (.call (("is_whole" : Str), none) [(.var 0)]) (.chain .le .le (.var 1) (.var 0) (.var 2))))]
theorem tr_is_between : trL (trS G n_is_between (defScope s_is_between) 40) (defBody s_is_between) = some b_is_between := by kernel_rfl
abbrev s_is_row : Stmt := top 5
def n_is_row : List Str := [("value" : Str)]
def b_is_row : List Stm :=
  [(.ret (.isinst (.var 0) [.tuple, .list]))]
theorem tr_is_row : trL (trS G n_is_row (defScope s_is_row) 40) (defBody s_is_row) = some b_is_row := by kernel_rfl
abbrev s_is_numbers : Stmt := top 10
def n_is_numbers : List Str := [("value" : Str), ("most" : Str), ("part" : Str)]
def b_is_numbers : List Stm :=
  [(.ret (.and (.call (("is_row" : Str), none) [(.var 0)]) (.prim .all [(.new false (.comp [2] (.call (("is_between" : Str), none) [(.var 2), (.lit (.int 0)), (.var 1)]) (.name 2) (.ex (.var 0)) []))])))]
theorem tr_is_numbers : trL (trS G n_is_numbers (defScope s_is_numbers) 40) (defBody s_is_numbers) = some b_is_numbers := by kernel_rfl
abbrev s_least_missing : Stmt := top 11
def n_least_missing : List Str := [("numbers" : Str), ("some" : Str), ("found" : Str), ("k" : Str)]
def b_least_missing : List Stm :=
  [(.set 1 (.new false (.dcomp .k [3] (.var 3) (.lit (.bl true)) (.name 3) (.ex (.var 0))))),
    (.set 2 (.lit (.int 0))),
    (.whil (.cmp .inn (.var 2) (.var 1))
      [(.aug 2 .add (.lit (.int 1)))]),
    (.ret (.var 2))]
theorem tr_least_missing : trL (trS G n_least_missing (defScope s_least_missing) 40) (defBody s_least_missing) = some b_least_missing := by kernel_rfl
abbrev s_shared_table : Stmt := top 12
def n_shared_table : List Str := [("rows" : Str), ("k" : Str), ("row" : Str), ("found" : Str)]
def b_shared_table : List Stm :=
  [(.ife (.or (.not (.call (("is_row" : Str), none) [(.var 0)])) (.not (.call (("is_between" : Str), none) [(.prim .len [(.var 0)]), (.lit (.int 1)), (.glob ("MOST_SHARED" : Str))])))
      [(.raise ("BadShared" : Str) [])]
      []),
    (.forr (.tup [(.name 1), (.name 2)]) (.enum (.var 0))
      [(.ife (.not (.call (("is_numbers" : Str), none) [(.var 2), (.bin .sub (.var 1) (.lit (.int 1)))]))
        [(.raise ("BadShared" : Str) [(.var 1)])]
        [])]),
    (.set 3 (.prim .tuple [(.new false (.comp [2] (.prim .tuple [(.new false (.sortedSet (.var 2)))]) (.name 2) (.ex (.var 0)) []))])),
    (.ife (.cmp .gt (.prim .sum [(.new false (.comp [2] (.prim .len [(.var 2)]) (.name 2) (.ex (.var 3)) []))]) (.glob ("MOST_SHARED_NUMBERS" : Str)))
      [(.raise ("BadShared" : Str) [])]
      []),
    (.ret (.var 3))]
theorem tr_shared_table : trL (trS G n_shared_table (defScope s_shared_table) 40) (defBody s_shared_table) = some b_shared_table := by kernel_rfl
abbrev s_table_nimbers : Stmt := top 13
def n_table_nimbers : List Str := [("table" : Str), ("found" : Str), ("row" : Str), ("k" : Str)]
def b_table_nimbers : List Stm :=
  [(.set 1 (.new true (.disp []))),
    (.forr (.name 2) (.ex (.var 0))
      [(.expr (.lmeth .append (.var 1) [(.call (("least_missing" : Str), none) [(.new false (.comp [3] (.idx (.var 1) (.var 3)) (.name 3) (.ex (.var 2)) []))])]))]),
    (.ret (.prim .tuple [(.var 1)]))]
theorem tr_table_nimbers : trL (trS G n_table_nimbers (defScope s_table_nimbers) 40) (defBody s_table_nimbers) = some b_table_nimbers := by kernel_rfl
abbrev s_checked_way : Stmt := top 19
def n_checked_way : List Str := [("way" : Str), ("which" : Str), ("end" : Str), ("goal" : Str)]
def b_checked_way : List Stm :=
  [(.ife (.or (.not (.call (("is_row" : Str), none) [(.var 0)])) (.cmp .ne (.prim .len [(.var 0)]) (.lit (.int 3))))
      [(.raise ("BadWay" : Str) [(.lit (.str ("this is no row of three words" : Str)))])]
      []),
    (.setT (.tup [(.name 1), (.name 2), (.name 3)]) (.var 0)),
    (.ife (.or (.inGlob true (.var 1) ("WHICH" : Str)) (.or (.inGlob true (.var 2) ("ENDS" : Str)) (.or (.inGlob true (.var 3) ("GOALS" : Str)) (.cmp .eq (.tup [(.var 1), (.var 2), (.var 3)]) (.tup [(.lit (.str ("one" : Str))), (.lit (.str ("long" : Str))), (.lit (.str ("not last" : Str)))])))))
      [(.raise ("BadWay" : Str) [(.lit (.str ("this is no way" : Str)))])]
      []),
    (.ret (.tup [(.var 1), (.var 2), (.var 3)]))]
theorem tr_checked_way : trL (trS G n_checked_way (defScope s_checked_way) 40) (defBody s_checked_way) = some b_checked_way := by kernel_rfl
abbrev s_one_short_marks : Stmt := top 20
def n_one_short_marks : List Str := [("table" : Str), ("is_last" : Str), ("found" : Str), ("row" : Str), ("some" : Str), ("k" : Str), ("mark" : Str)]
def b_one_short_marks : List Stm :=
  [(.set 2 (.new true (.disp []))),
    (.forr (.name 3) (.ex (.var 0))
      [(.set 4 (.new false (.comp [5] (.idx (.var 2) (.var 5)) (.name 5) (.ex (.var 3)) []))),
      (.ife (.not (.var 3))
        [(.expr (.lmeth .append (.var 2) [(.lit .non)]))]
        [(.ife (.and (.var 1) (.cmp .inn (.lit .non) (.var 4)))
          [(.expr (.lmeth .append (.var 2) [(.neg (.lit (.int 1)))]))]
          [(.expr (.lmeth .append (.var 2) [(.call (("least_missing" : Str), none) [(.new false (.comp [6] (.var 6) (.name 6) (.ex (.var 4)) [(.and (.cmp .isnot (.var 6) (.lit .non)) (.cmp .ge (.var 6) (.lit (.int 0))))]))])]))])])]),
    (.ret (.var 2))]
theorem tr_one_short_marks : trL (trS G n_one_short_marks (defScope s_one_short_marks) 40) (defBody s_one_short_marks) = some b_one_short_marks := by kernel_rfl
abbrev s_all_marks : Stmt := top 21
def n_all_marks : List Str := [("table" : Str), ("is_short" : Str), ("wished" : Str), ("found" : Str), ("row" : Str), ("some" : Str), ("wanted" : Str), ("k" : Str), ("mark" : Str)]
def b_all_marks : List Stm :=
  [(.set 3 (.new true (.disp []))),
    (.forr (.name 4) (.ex (.var 0))
      [(.set 5 (.new false (.comp [7] (.idx (.var 3) (.var 7)) (.name 7) (.ex (.var 4)) []))),
      (.set 6 (.new false (.comp [8] (.var 8) (.name 8) (.ex (.var 5)) [(.cmp .eq (.bin .mod (.var 8) (.lit (.int 2))) (.var 2))]))),
      (.ife (.not (.var 4))
        [(.expr (.lmeth .append (.var 3) [(.lit (.int 0))]))]
        [(.ife (.var 1)
          [(.expr (.lmeth .append (.var 3) [(.bin .add (.lit (.int 1)) (.ite (.var 6) (.prim .min [(.var 6)]) (.prim .max [(.var 5)])))]))]
          [(.expr (.lmeth .append (.var 3) [(.bin .add (.lit (.int 1)) (.ite (.var 6) (.prim .max [(.var 6)]) (.prim .min [(.var 5)])))]))])])]),
    (.ret (.var 3))]
theorem tr_all_marks : trL (trS G n_all_marks (defScope s_all_marks) 40) (defBody s_all_marks) = some b_all_marks := by kernel_rfl
abbrev s_alone_marks : Stmt := top 22
def n_alone_marks : List Str := [("table" : Str), ("found" : Str), ("row" : Str), ("k" : Str)]
def b_alone_marks : List Stm :=
  [(.set 1 (.new true (.disp []))),
    (.forr (.name 2) (.ex (.var 0))
      [(.expr (.lmeth .append (.var 1) [(.ite (.or (.not (.var 2)) (.cmp .inn (.lit (.int 0)) (.new false (.comp [3] (.idx (.var 1) (.var 3)) (.name 3) (.ex (.var 2)) [])))) (.lit (.int 1)) (.lit (.int 0)))]))]),
    (.ret (.var 1))]
theorem tr_alone_marks : trL (trS G n_alone_marks (defScope s_alone_marks) 40) (defBody s_alone_marks) = some b_alone_marks := by kernel_rfl
abbrev s_some_marks : Stmt := top 23
def n_some_marks : List Str := [("table" : Str), ("end" : Str), ("goal" : Str), ("firsts" : Str), ("found" : Str), ("row" : Str), ("value" : Str), ("first" : Str), ("k" : Str)]
def b_some_marks : List Stm :=
  [(.set 3 (.new false (.comp [6] (.ite (.var 6) (.lit (.int 1)) (.lit (.int 0))) (.name 6) (.ex (.call (("table_nimbers" : Str), none) [(.var 0)])) []))),
    (.ife (.cmp .eq (.var 1) (.lit (.str ("long" : Str))))
      [(.ret (.ite (.cmp .eq (.var 2) (.lit (.str ("last" : Str)))) (.var 3) (.new false (.listOf (.zip (.var 3) (.call (("alone_marks" : Str), none) [(.var 0)]))))))]
      []),
    (.ife (.cmp .eq (.var 2) (.lit (.str ("last" : Str))))
      [(.ret (.new false (.comp [7, 5] (.ite (.var 5) (.var 7) (.lit .non)) (.tup [(.name 7), (.name 5)]) (.zip (.var 3) (.var 0)) [])))]
      []),
    (.set 4 (.new true (.disp []))),
    (.forr (.name 5) (.ex (.var 0))
      [(.expr (.lmeth .append (.var 4) [(.ite (.var 5) (.ite (.cmp .inn (.lit (.int 0)) (.new false (.comp [8] (.idx (.var 4) (.var 8)) (.name 8) (.ex (.var 5)) []))) (.lit (.int 1)) (.lit (.int 0))) (.lit .non))]))]),
    (.ret (.var 4))]
theorem tr_some_marks : trL (trS G n_some_marks (defScope s_some_marks) 40) (defBody s_some_marks) = some b_some_marks := by kernel_rfl
abbrev s_marks_by : Stmt := top 24
def n_marks_by : List Str := [("table" : Str), ("way" : Str), ("which" : Str), ("end" : Str), ("goal" : Str)]
def b_marks_by : List Stm :=
  [(.setT (.tup [(.name 2), (.name 3), (.name 4)]) (.var 1)),
    (.ife (.cmp .eq (.var 2) (.lit (.str ("some" : Str))))
      [(.ret (.call (("some_marks" : Str), none) [(.var 0), (.var 3), (.var 4)]))]
      []),
    (.ife (.cmp .eq (.var 2) (.lit (.str ("all" : Str))))
      [(.ret (.call (("all_marks" : Str), none) [(.var 0), (.cmp .eq (.var 3) (.lit (.str ("short" : Str)))), (.ite (.cmp .eq (.var 4) (.lit (.str ("last" : Str)))) (.lit (.int 0)) (.lit (.int 1)))]))]
      []),
    (.ife (.cmp .eq (.var 3) (.lit (.str ("short" : Str))))
      [(.ret (.call (("one_short_marks" : Str), none) [(.var 0), (.cmp .eq (.var 4) (.lit (.str ("last" : Str))))]))]
      []),
    (.ret (.new false (.listOf (.ex (.call (("table_nimbers" : Str), none) [(.var 0)])))))]
theorem tr_marks_by : trL (trS G n_marks_by (defScope s_marks_by) 40) (defBody s_marks_by) = some b_marks_by := by kernel_rfl
abbrev s_way_marks : Stmt := top 25
def n_way_marks : List Str := [("rows" : Str), ("way" : Str), ("table" : Str)]
def b_way_marks : List Stm :=
  [(.set 2 (.call (("shared_table" : Str), none) [(.var 0)])),
    (.ret (.prim .tuple [(.call (("marks_by" : Str), none) [(.var 2), (.call (("checked_way" : Str), none) [(.var 1)])])]))]
theorem tr_way_marks : trL (trS G n_way_marks (defScope s_way_marks) 40) (defBody s_way_marks) = some b_way_marks := by kernel_rfl
abbrev s__law_pool : Stmt := top 27
def n__law_pool : List Str := [("script" : Str), ("cell" : Str)]
def b__law_pool : List Stm :=
  [(.ret (.new true (.disp [(.new false (.comp [1] (.ite (.cmp .ge (.var 1) (.lit (.int 0))) (.bin .mul (.lit (.int 2)) (.var 1)) (.bin .sub (.bin .mul (.neg (.lit (.int 2))) (.var 1)) (.lit (.int 1)))) (.name 1) (.ex (.var 0)) [])), (.lit (.int 0)), (.lit (.int 0)), (.lit (.int 17))])))]
theorem tr__law_pool : trL (trS G n__law_pool (defScope s__law_pool) 40) (defBody s__law_pool) = some b__law_pool := by kernel_rfl
abbrev s__law_take : Stmt := top 28
def n__law_take : List Str := [("pool" : Str), ("many" : Str), ("digit" : Str), ("cell" : Str), ("mixed" : Str)]
def b__law_take : List Stm :=
  [(.ife (.cmp .gt (.idx (.var 0) (.lit (.int 2))) (.lit (.int 0)))
      [(.set 2 (.bin .mod (.prim .int [(.idx (.var 0) (.lit (.int 2)))]) (.var 1))),
      (.setIdx (.var 0) (.lit (.int 2)) (.bin .fdiv (.idx (.var 0) (.lit (.int 2))) (.var 1))),
      (.ret (.var 2))]
      []),
    (.set 3 (.lit (.int 0))),
    (.ife (.cmp .lt (.idx (.var 0) (.lit (.int 1))) (.prim .len [(.idx (.var 0) (.lit (.int 0)))]))
      [(.set 3 (.idx (.idx (.var 0) (.lit (.int 0))) (.idx (.var 0) (.lit (.int 1)))))]
      []),
    (.setIdx (.var 0) (.lit (.int 1)) (.bin .add (.idx (.var 0) (.lit (.int 1))) (.lit (.int 1)))),
    (.ife (.cmp .ge (.var 3) (.bin .pow (.lit (.int 10)) (.lit (.int 18))))
      [(.setIdx (.var 0) (.lit (.int 2)) (.bin .fdiv (.var 3) (.lit (.int 2)))),
      (.ret (.call (("_law_take" : Str), none) [(.var 0), (.var 1)]))]
      []),
    (.setIdx (.var 0) (.lit (.int 3)) (.bin .mod (.prim .int [(.bin .add (.bin .add (.bin .mul (.idx (.var 0) (.lit (.int 3))) (.lit (.int 48271))) (.bin .mul (.var 3) (.lit (.int 69621)))) (.bin .mul (.idx (.var 0) (.lit (.int 1))) (.lit (.int 613))))]) (.lit (.int 2147483647)))),
    (.set 4 (.bin .mod (.prim .int [(.bin .add (.bin .add (.bin .mul (.idx (.var 0) (.lit (.int 3))) (.idx (.var 0) (.lit (.int 3)))) (.bin .mul (.idx (.var 0) (.lit (.int 3))) (.lit (.int 7919)))) (.lit (.int 104729)))]) (.lit (.int 1000000007)))),
    (.ret (.bin .mod (.prim .int [(.bin .fdiv (.var 4) (.lit (.int 3)))]) (.var 1)))]
theorem tr__law_take : trL (trS G n__law_take (defScope s__law_take) 40) (defBody s__law_take) = some b__law_take := by kernel_rfl
abbrev s__law_pick : Stmt := top 29
def n__law_pick : List Str := [("pool" : Str), ("rows" : Str)]
def b__law_pick : List Stm :=
  [(.ret (.idx (.var 1) (.call (("_law_take" : Str), none) [(.var 0), (.prim .len [(.var 1)])])))]
theorem tr__law_pick : trL (trS G n__law_pick (defScope s__law_pick) 40) (defBody s__law_pick) = some b__law_pick := by kernel_rfl
abbrev s__law_is_integer : Stmt := top 30
def n__law_is_integer : List Str := [("actual" : Str)]
def b__law_is_integer : List Stm :=
  [(.ret (.and (.isinst (.var 0) [.int]) (.not (.isinst (.var 0) [.bool]))))]
theorem tr__law_is_integer : trL (trS G n__law_is_integer (defScope s__law_is_integer) 40) (defBody s__law_is_integer) = some b__law_is_integer := by kernel_rfl
abbrev s__law_same : Stmt := top 31
def n__law_same : List Str := [("actual" : Str), ("due" : Str), ("k" : Str)]
def b__law_same : List Stm :=
  [(.ife (.isinst (.var 1) [.tuple])
      [(.ife (.or (.not (.isinst (.var 0) [.tuple])) (.cmp .ne (.prim .len [(.var 0)]) (.prim .len [(.var 1)])))
        [(.ret (.lit (.bl false)))]
        []),
      (.ret (.prim .all [(.new false (.comp [2] (.call (("_law_same" : Str), none) [(.idx (.var 0) (.var 2)), (.idx (.var 1) (.var 2))]) (.name 2) (.range1 (.prim .len [(.var 1)])) []))]))]
      []),
    (.ife (.isinst (.var 1) [.list])
      [(.ife (.or (.not (.isinst (.var 0) [.list])) (.cmp .ne (.prim .len [(.var 0)]) (.prim .len [(.var 1)])))
        [(.ret (.lit (.bl false)))]
        []),
      (.ret (.prim .all [(.new false (.comp [2] (.call (("_law_same" : Str), none) [(.idx (.var 0) (.var 2)), (.idx (.var 1) (.var 2))]) (.name 2) (.range1 (.prim .len [(.var 1)])) []))]))]
      []),
    (.ife (.cmp .is (.var 1) (.lit .non))
      [(.ret (.cmp .is (.var 0) (.lit .non)))]
      []),
    (.ife (.isinst (.var 1) [.bool])
      [(.ret (.and (.isinst (.var 0) [.bool]) (.cmp .eq (.var 0) (.var 1))))]
      []),
    (.ife (.isinst (.var 1) [.str])
      [(.ret (.and (.isinst (.var 0) [.str]) (.cmp .eq (.var 0) (.var 1))))]
      []),
    (.ret (.and (.call (("_law_is_integer" : Str), none) [(.var 0)]) (.cmp .eq (.var 0) (.var 1))))]
theorem tr__law_same : trL (trS G n__law_same (defScope s__law_same) 40) (defBody s__law_same) = some b__law_same := by kernel_rfl
abbrev s__law_order : Stmt := top 32
def n__law_order : List Str := [("pool" : Str), ("many" : Str), ("left" : Str), ("found" : Str), ("k" : Str)]
def b__law_order : List Stm :=
  [(.set 2 (.new true (.listOf (.range1 (.var 1))))),
    (.set 3 (.tup [])),
    (.forr (.name 4) (.range1 (.var 1))
      [(.set 3 (.bin .add (.var 3) (.tup [(.lmeth .popAt (.var 2) [(.call (("_law_take" : Str), none) [(.var 0), (.prim .len [(.var 2)])])])])))]),
    (.ret (.var 3))]
theorem tr__law_order : trL (trS G n__law_order (defScope s__law_order) 40) (defBody s__law_order) = some b__law_order := by kernel_rfl
abbrev s__law_given : Stmt := top 33
def n__law_given : List Str := [("pool" : Str), ("row" : Str)]
def b__law_given : List Stm :=
  [(.ret (.ite (.cmp .eq (.call (("_law_take" : Str), none) [(.var 0), (.lit (.int 2))]) (.lit (.int 0))) (.new false (.listOf (.ex (.var 1)))) (.prim .tuple [(.var 1)])))]
theorem tr__law_given : trL (trS G n__law_given (defScope s__law_given) 40) (defBody s__law_given) = some b__law_given := by kernel_rfl
abbrev s__law_missing : Stmt := top 34
def n__law_missing : List Str := [("some" : Str), ("there" : Str), ("found" : Str), ("turn" : Str), ("k" : Str)]
def b__law_missing : List Stm :=
  [(.par [1, 2] [(.new false (.dictOf .k (.new false (.comp [4] (.tup [(.var 4), (.lit (.bl true))]) (.name 4) (.ex (.var 0)) [])))), (.lit (.int 0))]),
    (.forr (.name 3) (.range1 (.bin .add (.prim .len [(.var 1)]) (.lit (.int 1))))
      [(.ife (.cmp .notin (.var 2) (.var 1))
        [.brk]
        []),
      (.set 2 (.bin .add (.var 2) (.lit (.int 1))))]),
    (.ret (.var 2))]
theorem tr__law_missing : trL (trS G n__law_missing (defScope s__law_missing) 40) (defBody s__law_missing) = some b__law_missing := by kernel_rfl
abbrev s__law_nimbers : Stmt := top 35
def n__law_nimbers : List Str := [("rows" : Str), ("found" : Str), ("row" : Str), ("k" : Str)]
def b__law_nimbers : List Stm :=
  [(.set 1 (.new true (.disp []))),
    (.forr (.name 2) (.ex (.var 0))
      [(.expr (.lmeth .append (.var 1) [(.call (("_law_missing" : Str), none) [(.new false (.comp [3] (.idx (.var 1) (.var 3)) (.name 3) (.ex (.var 2)) []))])]))]),
    (.ret (.prim .tuple [(.var 1)]))]
theorem tr__law_nimbers : trL (trS G n__law_nimbers (defScope s__law_nimbers) 40) (defBody s__law_nimbers) = some b__law_nimbers := by kernel_rfl
abbrev s__law_shared : Stmt := top 36
def n__law_shared : List Str := [("pool" : Str), ("most" : Str), ("many" : Str), ("spread" : Str), ("rows" : Str), ("k" : Str), ("some" : Str), ("j" : Str)]
def b__law_shared : List Stm :=
  [(.setT (.tup [(.name 2), (.name 3), (.name 4)]) (.tup [(.bin .add (.lit (.int 1)) (.call (("_law_take" : Str), none) [(.var 0), (.var 1)])), (.bin .add (.lit (.int 2)) (.call (("_law_take" : Str), none) [(.var 0), (.lit (.int 4))])), (.new true (.disp []))])),
    (.forr (.name 5) (.range1 (.var 2))
      [(.set 6 (.new false (.comp [7] (.var 7) (.name 7) (.range2 (.prim .max2 [(.lit (.int 0)), (.bin .sub (.var 5) (.lit (.int 9)))]) (.var 5)) [(.cmp .eq (.call (("_law_take" : Str), none) [(.var 0), (.var 3)]) (.lit (.int 0)))]))),
      (.ife (.and (.cmp .gt (.var 5) (.lit (.int 9))) (.cmp .eq (.call (("_law_take" : Str), none) [(.var 0), (.lit (.int 3))]) (.lit (.int 0))))
        [(.set 6 (.bin .add (.new false (.disp [(.call (("_law_take" : Str), none) [(.var 0), (.bin .sub (.var 5) (.lit (.int 9)))])])) (.var 6)))]
        []),
      (.expr (.lmeth .append (.var 4) [(.prim .tuple [(.var 6)])]))]),
    (.ret (.prim .tuple [(.var 4)]))]
theorem tr__law_shared : trL (trS G n__law_shared (defScope s__law_shared) 40) (defBody s__law_shared) = some b__law_shared := by kernel_rfl
abbrev s__law_rows_mixed : Stmt := top 37
def n__law_rows_mixed : List Str := [("pool" : Str), ("rows" : Str), ("found" : Str), ("row" : Str), ("some" : Str), ("k" : Str)]
def b__law_rows_mixed : List Stm :=
  [(.set 2 (.new true (.disp []))),
    (.forr (.name 3) (.ex (.var 1))
      [(.set 4 (.new false (.comp [5] (.idx (.var 3) (.var 5)) (.name 5) (.ex (.call (("_law_order" : Str), none) [(.var 0), (.prim .len [(.var 3)])])) []))),
      (.ife (.and (.var 4) (.cmp .eq (.call (("_law_take" : Str), none) [(.var 0), (.lit (.int 2))]) (.lit (.int 0))))
        [(.set 4 (.bin .add (.var 4) (.new false (.disp [(.call (("_law_pick" : Str), none) [(.var 0), (.var 4)])]))))]
        []),
      (.expr (.lmeth .append (.var 2) [(.call (("_law_given" : Str), none) [(.var 0), (.var 4)])]))]),
    (.ret (.call (("_law_given" : Str), none) [(.var 0), (.var 2)]))]
theorem tr__law_rows_mixed : trL (trS G n__law_rows_mixed (defScope s__law_rows_mixed) 40) (defBody s__law_rows_mixed) = some b__law_rows_mixed := by kernel_rfl
abbrev s__law_ways : Stmt := top 38
def n__law_ways : List Str := [("found" : Str), ("which" : Str), ("end" : Str), ("goal" : Str)]
def b__law_ways : List Stm :=
  [(.set 0 (.new false (.disp []))),
    (.forr (.name 1) (.ex (.tup [(.lit (.str ("one" : Str))), (.lit (.str ("all" : Str))), (.lit (.str ("some" : Str)))]))
      [(.forr (.name 2) (.ex (.tup [(.lit (.str ("long" : Str))), (.lit (.str ("short" : Str)))]))
        [(.set 0 (.bin .add (.var 0) (.new false (.comp [3] (.tup [(.var 1), (.var 2), (.var 3)]) (.name 3) (.ex (.tup [(.lit (.str ("last" : Str))), (.lit (.str ("not last" : Str)))])) [(.cmp .ne (.tup [(.var 1), (.var 2), (.var 3)]) (.tup [(.lit (.str ("one" : Str))), (.lit (.str ("long" : Str))), (.lit (.str ("not last" : Str)))]))]))))])]),
    (.ret (.var 0))]
theorem tr__law_ways : trL (trS G n__law_ways (defScope s__law_ways) 40) (defBody s__law_ways) = some b__law_ways := by kernel_rfl
abbrev s__law_step_mark : Stmt := top 39
def n__law_step_mark : List Str := [("some" : Str), ("parity" : Str), ("is_short" : Str), ("fit" : Str), ("every" : Str), ("mark" : Str)]
def b__law_step_mark : List Stm :=
  [(.set 3 (.new false (.sorted (.new false (.comp [5] (.var 5) (.name 5) (.ex (.var 0)) [(.cmp .eq (.bin .mod (.prim .int [(.var 5)]) (.lit (.int 2))) (.var 1))]))))),
    (.set 4 (.new false (.sorted (.var 0)))),
    (.ife (.var 2)
      [(.ret (.bin .add (.lit (.int 1)) (.ite (.var 3) (.idx (.var 3) (.lit (.int 0))) (.idx (.var 4) (.neg (.lit (.int 1)))))))]
      []),
    (.ret (.bin .add (.lit (.int 1)) (.ite (.var 3) (.idx (.var 3) (.neg (.lit (.int 1)))) (.idx (.var 4) (.lit (.int 0))))))]
theorem tr__law_step_mark : trL (trS G n__law_step_mark (defScope s__law_step_mark) 40) (defBody s__law_step_mark) = some b__law_step_mark := by kernel_rfl
abbrev s__law_mark : Stmt := top 40
def n__law_mark : List Str := [("way" : Str), ("some" : Str), ("is_over" : Str), ("nimber" : Str), ("which" : Str), ("end" : Str), ("goal" : Str), ("pair" : Str), ("mark" : Str)]
def b__law_mark : List Stm :=
  [(.setT (.tup [(.name 4), (.name 5), (.name 6)]) (.var 0)),
    (.ife (.cmp .eq (.var 4) (.lit (.str ("all" : Str))))
      [(.ret (.ite (.var 2) (.lit (.int 0)) (.call (("_law_step_mark" : Str), none) [(.var 1), (.ite (.cmp .eq (.var 6) (.lit (.str ("last" : Str)))) (.lit (.int 0)) (.lit (.int 1))), (.cmp .eq (.var 5) (.lit (.str ("short" : Str))))])))]
      []),
    (.ife (.cmp .eq (.var 0) (.tup [(.lit (.str ("one" : Str))), (.lit (.str ("long" : Str))), (.lit (.str ("last" : Str)))]))
      [(.ret (.var 3))]
      []),
    (.ife (.cmp .eq (.var 0) (.tup [(.lit (.str ("some" : Str))), (.lit (.str ("long" : Str))), (.lit (.str ("last" : Str)))]))
      [(.ret (.prim .min2 [(.lit (.int 1)), (.var 3)]))]
      []),
    (.ife (.cmp .eq (.var 0) (.tup [(.lit (.str ("some" : Str))), (.lit (.str ("long" : Str))), (.lit (.str ("not last" : Str)))]))
      [(.ret (.tup [(.prim .min2 [(.lit (.int 1)), (.var 3)]), (.ite (.or (.var 2) (.new false (.comp [7] (.var 7) (.name 7) (.ex (.var 1)) [(.cmp .eq (.idx (.var 7) (.lit (.int 1))) (.lit (.int 0)))]))) (.lit (.int 1)) (.lit (.int 0)))]))]
      []),
    (.ife (.var 2)
      [(.ret (.lit .non))]
      []),
    (.ife (.and (.cmp .eq (.var 4) (.lit (.str ("one" : Str)))) (.cmp .eq (.var 6) (.lit (.str ("last" : Str)))))
      [(.ret (.ite (.cmp .inn (.lit .non) (.var 1)) (.neg (.lit (.int 1))) (.call (("_law_missing" : Str), none) [(.new false (.comp [8] (.var 8) (.name 8) (.ex (.var 1)) [(.cmp .ge (.var 8) (.lit (.int 0)))]))])))]
      []),
    (.ife (.cmp .eq (.var 4) (.lit (.str ("one" : Str))))
      [(.ret (.call (("_law_missing" : Str), none) [(.new false (.comp [8] (.var 8) (.name 8) (.ex (.var 1)) [(.cmp .isnot (.var 8) (.lit .non))]))]))]
      []),
    (.ife (.cmp .eq (.var 6) (.lit (.str ("last" : Str))))
      [(.ret (.prim .min2 [(.lit (.int 1)), (.var 3)]))]
      []),
    (.ret (.ite (.cmp .inn (.lit (.int 0)) (.new false (.comp [8] (.var 8) (.name 8) (.ex (.var 1)) [(.cmp .isnot (.var 8) (.lit .non))]))) (.lit (.int 1)) (.lit (.int 0))))]
theorem tr__law_mark : trL (trS G n__law_mark (defScope s__law_mark) 40) (defBody s__law_mark) = some b__law_mark := by kernel_rfl
abbrev s__law_marks : Stmt := top 41
def n__law_marks : List Str := [("rows" : Str), ("way" : Str), ("nimbers" : Str), ("found" : Str), ("k" : Str), ("to" : Str)]
def b__law_marks : List Stm :=
  [(.setT (.tup [(.name 2), (.name 3)]) (.tup [(.call (("_law_nimbers" : Str), none) [(.var 0)]), (.new true (.disp []))])),
    (.forr (.name 4) (.range1 (.prim .len [(.var 0)]))
      [(.expr (.lmeth .append (.var 3) [(.call (("_law_mark" : Str), none) [(.var 1), (.new false (.comp [5] (.idx (.var 3) (.var 5)) (.name 5) (.ex (.idx (.var 0) (.var 4))) [])), (.not (.idx (.var 0) (.var 4))), (.idx (.var 2) (.var 4))])]))]),
    (.ret (.prim .tuple [(.var 3)]))]
theorem tr__law_marks : trL (trS G n__law_marks (defScope s__law_marks) 40) (defBody s__law_marks) = some b__law_marks := by kernel_rfl
abbrev s__law_fault : Stmt := top 42
def n__law_fault : List Str := [("rows" : Str), ("way" : Str), ("wrong" : Str)]
def b__law_fault : List Stm :=
  [(.tryy (.call (("way_marks" : Str), none) [(.var 0), (.var 1)]) (.cons ("GameError" : Str) (some 2) [(.ife (.isown (.var 2) ("BadShared" : Str))
        [(.ret (.new false (.disp [(.lit (.str ("shared" : Str))), (.attr (.var 2) ("number" : Str)), (.isown (.var 2) ("BadWay" : Str))])))]
        []),
      (.ret (.new false (.disp [(.ite (.isown (.var 2) ("BadWay" : Str)) (.lit (.str ("way" : Str))) (.lit (.str ("other" : Str))))])))] .nil)),
    (.ret (.new false (.disp [(.lit (.str ("none" : Str)))])))]
theorem tr__law_fault : trL (trS G n__law_fault (defScope s__law_fault) 40) (defBody s__law_fault) = some b__law_fault := by kernel_rfl
abbrev s__law_joined : Stmt := top 43
def n__law_joined : List Str := [("rows" : Str), ("one" : Str), ("other" : Str), ("is_short" : Str), ("seen" : Str), ("total" : Str), ("pair" : Str), ("to" : Str), ("pairs" : Str), ("at" : Str), ("k" : Str)]
def b__law_joined : List Stm :=
  [(.set 4 (.new true (.ddisp .t [(.tup [(.var 1), (.var 2)]), (.lit (.bl true))]))),
    (.forr (.name 5) (.range3 (.bin .add (.var 1) (.var 2)) (.neg (.lit (.int 1))) (.neg (.lit (.int 1))))
      [(.forr (.name 6) (.ex (.new false (.comp [6] (.var 6) (.name 6) (.ex (.var 4)) [(.cmp .eq (.bin .add (.idx (.var 6) (.lit (.int 0))) (.idx (.var 6) (.lit (.int 1)))) (.var 5))])))
        [(.forr (.name 7) (.ex (.call (("_law_joint_steps" : Str), none) [(.var 0), (.var 6), (.var 3)]))
          [(.setIdx (.var 4) (.var 7) (.lit (.bl true)))])])]),
    (.set 8 (.new false (.sorted (.new false (.comp [6] (.tup [(.bin .add (.idx (.var 6) (.lit (.int 0))) (.idx (.var 6) (.lit (.int 1)))), (.var 6)]) (.name 6) (.ex (.var 4)) []))))),
    (.set 9 (.new false (.dictOf .t (.new false (.comp [10] (.tup [(.idx (.idx (.var 8) (.var 10)) (.lit (.int 1))), (.var 10)]) (.name 10) (.range1 (.prim .len [(.var 8)])) []))))),
    (.ret (.new false (.comp [5, 6] (.prim .tuple [(.new false (.sorted (.new false (.comp [7] (.idx (.var 9) (.var 7)) (.name 7) (.ex (.call (("_law_joint_steps" : Str), none) [(.var 0), (.var 6), (.var 3)])) []))))]) (.tup [(.name 5), (.name 6)]) (.ex (.var 8)) [])))]
theorem tr__law_joined : trL (trS G n__law_joined (defScope s__law_joined) 40) (defBody s__law_joined) = some b__law_joined := by kernel_rfl
abbrev s__law_joint_steps : Stmt := top 44
def n__law_joint_steps : List Str := [("rows" : Str), ("pair" : Str), ("is_short" : Str), ("first" : Str), ("second" : Str), ("found" : Str), ("a" : Str), ("b" : Str)]
def b__law_joint_steps : List Stm :=
  [(.par [3, 4] [(.idx (.var 0) (.idx (.var 1) (.lit (.int 0)))), (.idx (.var 0) (.idx (.var 1) (.lit (.int 1))))]),
    (.ife (.not (.var 2))
      [(.par [3, 4] [(.ite (.var 3) (.var 3) (.ite (.var 4) (.tup [(.idx (.var 1) (.lit (.int 0)))]) (.tup []))), (.ite (.var 4) (.var 4) (.ite (.var 3) (.tup [(.idx (.var 1) (.lit (.int 1)))]) (.tup [])))])]
      []),
    (.set 5 (.new false (.disp []))),
    (.forr (.name 6) (.ex (.var 3))
      [(.set 5 (.bin .add (.var 5) (.new false (.comp [7] (.tup [(.var 6), (.var 7)]) (.name 7) (.ex (.var 4)) []))))]),
    (.ret (.var 5))]
theorem tr__law_joint_steps : trL (trS G n__law_joint_steps (defScope s__law_joint_steps) 40) (defBody s__law_joint_steps) = some b__law_joint_steps := by kernel_rfl
abbrev s__law_long : Stmt := top 45
def n__law_long : List Str := [("pool" : Str), ("rows" : Str), ("k" : Str), ("turn" : Str)]
def b__law_long : List Stm :=
  [(.set 1 (.new true (.disp [(.tup [])]))),
    (.forr (.name 2) (.range2 (.lit (.int 1)) (.lit (.int 400)))
      [(.expr (.lmeth .append (.var 1) [(.prim .tuple [(.new false (.sortedSet (.new false (.comp [3] (.bin .sub (.bin .sub (.var 2) (.lit (.int 1))) (.call (("_law_take" : Str), none) [(.var 0), (.prim .min2 [(.var 2), (.lit (.int 9))])])) (.name 3) (.range1 (.call (("_law_take" : Str), none) [(.var 0), (.lit (.int 4))])) []))))])]))]),
    (.ret (.prim .tuple [(.var 1)]))]
theorem tr__law_long : trL (trS G n__law_long (defScope s__law_long) 40) (defBody s__law_long) = some b__law_long := by kernel_rfl
abbrev s__law_always : Stmt := top 46
def n__law_always : List Str := [("rows" : Str), ("due" : Str), ("way" : Str), ("bad" : Str)]
def b__law_always : List Stm :=
  [(.set 0 (.tup [(.tup []), (.tup [(.lit (.int 0))]), (.new false (.disp [(.lit (.int 1)), (.lit (.int 0))])), (.tup [(.lit (.int 1)), (.lit (.int 2))]), (.tup [(.lit (.int 0)), (.lit (.int 3)), (.lit (.int 0))])])),
    (.set 1 (.new false (.ddisp .t [(.tup [(.lit (.str ("one" : Str))), (.lit (.str ("long" : Str))), (.lit (.str ("last" : Str)))]), (.tup [(.lit (.int 0)), (.lit (.int 1)), (.lit (.int 2)), (.lit (.int 0)), (.lit (.int 1))]), (.tup [(.lit (.str ("one" : Str))), (.lit (.str ("short" : Str))), (.lit (.str ("last" : Str)))]), (.tup [(.lit .non), (.neg (.lit (.int 1))), (.neg (.lit (.int 1))), (.lit (.int 0)), (.neg (.lit (.int 1)))]), (.tup [(.lit (.str ("one" : Str))), (.lit (.str ("short" : Str))), (.lit (.str ("not last" : Str)))]), (.tup [(.lit .non), (.lit (.int 0)), (.lit (.int 1)), (.lit (.int 2)), (.lit (.int 0))]), (.tup [(.lit (.str ("all" : Str))), (.lit (.str ("short" : Str))), (.lit (.str ("last" : Str)))]), (.tup [(.lit (.int 0)), (.lit (.int 1)), (.lit (.int 1)), (.lit (.int 2)), (.lit (.int 1))]), (.tup [(.lit (.str ("all" : Str))), (.lit (.str ("short" : Str))), (.lit (.str ("not last" : Str)))]), (.tup [(.lit (.int 0)), (.lit (.int 1)), (.lit (.int 2)), (.lit (.int 2)), (.lit (.int 3))]), (.tup [(.lit (.str ("all" : Str))), (.lit (.str ("long" : Str))), (.lit (.str ("last" : Str)))]), (.tup [(.lit (.int 0)), (.lit (.int 1)), (.lit (.int 1)), (.lit (.int 2)), (.lit (.int 3))]), (.tup [(.lit (.str ("all" : Str))), (.lit (.str ("long" : Str))), (.lit (.str ("not last" : Str)))]), (.tup [(.lit (.int 0)), (.lit (.int 1)), (.lit (.int 2)), (.lit (.int 2)), (.lit (.int 1))]), (.tup [(.lit (.str ("some" : Str))), (.lit (.str ("long" : Str))), (.lit (.str ("last" : Str)))]), (.tup [(.lit (.int 0)), (.lit (.int 1)), (.lit (.int 1)), (.lit (.int 0)), (.lit (.int 1))]), (.tup [(.lit (.str ("some" : Str))), (.lit (.str ("long" : Str))), (.lit (.str ("not last" : Str)))]), (.tup [(.tup [(.lit (.int 0)), (.lit (.int 1))]), (.tup [(.lit (.int 1)), (.lit (.int 0))]), (.tup [(.lit (.int 1)), (.lit (.int 1))]), (.tup [(.lit (.int 0)), (.lit (.int 1))]), (.tup [(.lit (.int 1)), (.lit (.int 0))])]), (.tup [(.lit (.str ("some" : Str))), (.lit (.str ("short" : Str))), (.lit (.str ("last" : Str)))]), (.tup [(.lit .non), (.lit (.int 1)), (.lit (.int 1)), (.lit (.int 0)), (.lit (.int 1))]), (.tup [(.lit (.str ("some" : Str))), (.lit (.str ("short" : Str))), (.lit (.str ("not last" : Str)))]), (.tup [(.lit .non), (.lit (.int 0)), (.lit (.int 1)), (.lit (.int 1)), (.lit (.int 0))])]))),
    (.forr (.name 2) (.ex (.call (("_law_ways" : Str), none) []))
      [(.ife (.or (.not (.call (("_law_same" : Str), none) [(.call (("way_marks" : Str), none) [(.var 0), (.new false (.listOf (.ex (.var 2))))]), (.idx (.var 1) (.var 2))])) (.cmp .ne (.call (("_law_marks" : Str), none) [(.tup [(.tup []), (.tup [(.lit (.int 0))]), (.tup [(.lit (.int 0)), (.lit (.int 1))]), (.tup [(.lit (.int 1)), (.lit (.int 2))]), (.tup [(.lit (.int 0)), (.lit (.int 3))])]), (.var 2)]) (.idx (.var 1) (.var 2))))
        [(.ret (.lit (.bl false)))]
        [])]),
    (.set 3 (.new false (.disp [(.tup [(.lit (.str ("one" : Str))), (.lit (.str ("long" : Str))), (.lit (.str ("not last" : Str)))]), (.tup [(.lit (.str ("one" : Str))), (.lit (.str ("long" : Str)))]), (.tup [(.lit (.str ("one" : Str))), (.lit (.str ("long" : Str))), (.lit (.str ("last" : Str))), (.lit (.str ("last" : Str)))]), (.tup [(.lit (.str ("One" : Str))), (.lit (.str ("long" : Str))), (.lit (.str ("last" : Str)))]), (.tup [(.lit (.str ("one" : Str))), (.lit (.str ("last" : Str))), (.lit (.str ("long" : Str)))]), (.lit .non), (.lit (.str ("one" : Str))), (.tup []), (.tup [(.lit (.str ("all" : Str))), (.lit .non), (.lit (.str ("last" : Str)))]), (.tup [(.new false (.disp [(.lit (.str ("all" : Str)))])), (.lit (.str ("long" : Str))), (.lit (.str ("last" : Str)))]), (.new false (.ddisp .k [])), (.tup [(.lit (.str ("some" : Str))), (.lit (.str ("short" : Str))), (.lit (.bl true))]), (.tup [(.lit (.str ("any" : Str))), (.lit (.str ("short" : Str))), (.lit (.str ("last" : Str)))])]))),
    (.ife (.not (.call (("_law_same" : Str), none) [(.new false (.comp [2] (.call (("_law_fault" : Str), none) [(.var 0), (.var 2)]) (.name 2) (.ex (.var 3)) [])), (.bin .mul (.new false (.disp [(.new false (.disp [(.lit (.str ("way" : Str)))]))])) (.prim .len [(.var 3)]))]))
      [(.ret (.lit (.bl false)))]
      []),
    (.ret (.call (("_law_same" : Str), none) [(.new false (.disp [(.call (("_law_fault" : Str), none) [(.lit .non), (.lit .non)]), (.call (("_law_fault" : Str), none) [(.tup [(.tup []), (.tup [(.lit (.int 1))])]), (.lit .non)]), (.call (("_law_fault" : Str), none) [(.tup []), (.tup [(.lit (.str ("all" : Str))), (.lit (.str ("long" : Str))), (.lit (.str ("last" : Str)))])])])), (.new false (.disp [(.new false (.disp [(.lit (.str ("shared" : Str))), (.lit .non), (.lit (.bl false))])), (.new false (.disp [(.lit (.str ("shared" : Str))), (.lit (.int 1)), (.lit (.bl false))])), (.new false (.disp [(.lit (.str ("shared" : Str))), (.lit .non), (.lit (.bl false))]))]))]))]
theorem tr__law_always : trL (trS G n__law_always (defScope s__law_always) 40) (defBody s__law_always) = some b__law_always := by kernel_rfl
abbrev s_law : Stmt := top 47
def n_law : List Str := [("script" : Str), ("pool" : Str), ("rows" : Str), ("handed" : Str), ("way" : Str), ("small" : Str), ("one" : Str), ("other" : Str), ("end" : Str), ("joint" : Str), ("goal" : Str), ("marks" : Str), ("due" : Str), ("at" : Str), ("bad" : Str), ("wrong" : Str)]
def b_law : List Stm :=
  [(.set 1 (.call (("_law_pool" : Str), none) [(.var 0)])),
    (.ife (.not (.call (("_law_always" : Str), none) []))
      [(.ret (.lit (.bl false)))]
      []),
    (.set 2 (.call (("_law_shared" : Str), none) [(.var 1), (.call (("_law_pick" : Str), none) [(.var 1), (.new false (.disp [(.lit (.int 8)), (.lit (.int 60))]))])])),
    (.ife (.cmp .eq (.call (("_law_take" : Str), none) [(.var 1), (.lit (.int 4))]) (.lit (.int 0)))
      [(.set 2 (.call (("_law_long" : Str), none) [(.var 1)]))]
      []),
    (.set 3 (.call (("_law_rows_mixed" : Str), none) [(.var 1), (.var 2)])),
    (.forr (.name 4) (.ex (.call (("_law_ways" : Str), none) []))
      [(.ife (.not (.call (("_law_same" : Str), none) [(.call (("way_marks" : Str), none) [(.var 3), (.call (("_law_given" : Str), none) [(.var 1), (.var 4)])]), (.call (("_law_marks" : Str), none) [(.var 2), (.var 4)])]))
        [(.ret (.lit (.bl false)))]
        [])]),
    (.set 5 (.slice (.var 2) none (some (.lit (.int 8))))),
    (.par [6, 7] [(.call (("_law_take" : Str), none) [(.var 1), (.prim .len [(.var 5)])]), (.call (("_law_take" : Str), none) [(.var 1), (.prim .len [(.var 5)])])]),
    (.forr (.name 8) (.ex (.tup [(.lit (.str ("short" : Str))), (.lit (.str ("long" : Str)))]))
      [(.set 9 (.call (("_law_joined" : Str), none) [(.var 5), (.var 6), (.var 7), (.cmp .eq (.var 8) (.lit (.str ("short" : Str))))])),
      (.forr (.name 10) (.ex (.tup [(.lit (.str ("last" : Str))), (.lit (.str ("not last" : Str)))]))
        [(.set 11 (.call (("_law_marks" : Str), none) [(.var 5), (.tup [(.lit (.str ("all" : Str))), (.var 8), (.var 10)])])),
        (.set 12 (.ite (.cmp .eq (.var 8) (.lit (.str ("short" : Str)))) (.prim .min2 [(.idx (.var 11) (.var 6)), (.idx (.var 11) (.var 7))]) (.prim .max2 [(.idx (.var 11) (.var 6)), (.idx (.var 11) (.var 7))]))),
        (.ife (.not (.call (("_law_same" : Str), none) [(.idx (.call (("way_marks" : Str), none) [(.var 9), (.tup [(.lit (.str ("all" : Str))), (.var 8), (.var 10)])]) (.neg (.lit (.int 1)))), (.var 12)]))
          [(.ret (.lit (.bl false)))]
          [])])]),
    (.set 13 (.call (("_law_take" : Str), none) [(.var 1), (.prim .len [(.var 2)])])),
    (.set 14 (.call (("_law_pick" : Str), none) [(.var 1), (.new false (.disp [(.tup [(.var 13)]), (.tup [(.neg (.lit (.int 1)))]), (.tup [(.lit .non)]), (.lit .non), (.bin .pow (.lit (.int 10)) (.lit (.int 20)))]))])),
    (.ife (.not (.call (("_law_same" : Str), none) [(.call (("_law_fault" : Str), none) [(.bin .add (.bin .add (.new false (.listOf (.ex (.slice (.var 2) none (some (.var 13)))))) (.new false (.disp [(.var 14)]))) (.new false (.listOf (.ex (.slice (.var 2) (some (.bin .add (.var 13) (.lit (.int 1)))) none))))), (.call (("_law_pick" : Str), none) [(.var 1), (.new false (.disp [(.lit .non), (.tup [(.lit (.str ("all" : Str))), (.lit (.str ("long" : Str))), (.lit (.str ("last" : Str)))])]))])]), (.new false (.disp [(.lit (.str ("shared" : Str))), (.var 13), (.lit (.bl false))]))]))
      [(.ret (.lit (.bl false)))]
      []),
    (.set 15 (.new true (.listOf (.ex (.call (("_law_pick" : Str), none) [(.var 1), (.call (("_law_ways" : Str), none) [])]))))),
    (.setIdx (.var 15) (.call (("_law_take" : Str), none) [(.var 1), (.lit (.int 3))]) (.call (("_law_pick" : Str), none) [(.var 1), (.new false (.disp [(.lit (.str ("" : Str))), (.lit (.str ("none" : Str))), (.lit .non), (.lit (.int 0)), (.lit (.bl true)), (.tup [(.lit (.str ("one" : Str)))]), (.lit (.str ("LONG" : Str)))]))])),
    (.ret (.call (("_law_same" : Str), none) [(.call (("_law_fault" : Str), none) [(.var 2), (.call (("_law_given" : Str), none) [(.var 1), (.var 15)])]), (.new false (.disp [(.lit (.str ("way" : Str)))]))]))]
theorem tr_law : trL (trS G n_law (defScope s_law) 40) (defBody s_law) = some b_law := by kernel_rfl
def fns : List (Fid × Fn) := [
  ((("is_whole" : Str), none), ⟨1, 1, false, b_is_whole⟩),
  ((("is_between" : Str), none), ⟨3, 3, false, b_is_between⟩),
  ((("is_row" : Str), none), ⟨1, 1, false, b_is_row⟩),
  ((("is_numbers" : Str), none), ⟨2, 3, false, b_is_numbers⟩),
  ((("least_missing" : Str), none), ⟨1, 4, false, b_least_missing⟩),
  ((("shared_table" : Str), none), ⟨1, 4, false, b_shared_table⟩),
  ((("table_nimbers" : Str), none), ⟨1, 4, false, b_table_nimbers⟩),
  ((("checked_way" : Str), none), ⟨1, 4, false, b_checked_way⟩),
  ((("one_short_marks" : Str), none), ⟨2, 7, false, b_one_short_marks⟩),
  ((("all_marks" : Str), none), ⟨3, 9, false, b_all_marks⟩),
  ((("alone_marks" : Str), none), ⟨1, 4, false, b_alone_marks⟩),
  ((("some_marks" : Str), none), ⟨3, 9, false, b_some_marks⟩),
  ((("marks_by" : Str), none), ⟨2, 5, false, b_marks_by⟩),
  ((("way_marks" : Str), none), ⟨2, 3, false, b_way_marks⟩),
  ((("_law_pool" : Str), none), ⟨1, 2, true, b__law_pool⟩),
  ((("_law_take" : Str), none), ⟨2, 5, false, b__law_take⟩),
  ((("_law_pick" : Str), none), ⟨2, 2, false, b__law_pick⟩),
  ((("_law_is_integer" : Str), none), ⟨1, 1, false, b__law_is_integer⟩),
  ((("_law_same" : Str), none), ⟨2, 3, false, b__law_same⟩),
  ((("_law_order" : Str), none), ⟨2, 5, false, b__law_order⟩),
  ((("_law_given" : Str), none), ⟨2, 2, false, b__law_given⟩),
  ((("_law_missing" : Str), none), ⟨1, 5, false, b__law_missing⟩),
  ((("_law_nimbers" : Str), none), ⟨1, 4, false, b__law_nimbers⟩),
  ((("_law_shared" : Str), none), ⟨2, 8, false, b__law_shared⟩),
  ((("_law_rows_mixed" : Str), none), ⟨2, 6, false, b__law_rows_mixed⟩),
  ((("_law_ways" : Str), none), ⟨0, 4, false, b__law_ways⟩),
  ((("_law_step_mark" : Str), none), ⟨3, 6, false, b__law_step_mark⟩),
  ((("_law_mark" : Str), none), ⟨4, 9, false, b__law_mark⟩),
  ((("_law_marks" : Str), none), ⟨2, 6, false, b__law_marks⟩),
  ((("_law_fault" : Str), none), ⟨2, 3, false, b__law_fault⟩),
  ((("_law_joined" : Str), none), ⟨4, 11, false, b__law_joined⟩),
  ((("_law_joint_steps" : Str), none), ⟨3, 8, false, b__law_joint_steps⟩),
  ((("_law_long" : Str), none), ⟨1, 4, false, b__law_long⟩),
  ((("_law_always" : Str), none), ⟨0, 4, false, b__law_always⟩),
  ((("law" : Str), none), ⟨1, 16, false, b_law⟩)]
def P : Prog := {
  consts := [(("MOST_SHARED" : Str), (.int 400)), (("MOST_SHARED_NUMBERS" : Str), (.int 2000))],
  tcs := [(("WHICH" : Str), [(.str ("one" : Str)), (.str ("all" : Str)), (.str ("some" : Str))]), (("ENDS" : Str), [(.str ("long" : Str)), (.str ("short" : Str))]), (("GOALS" : Str), [(.str ("last" : Str)), (.str ("not last" : Str))])],
  exc := [(("GameError" : Str), ⟨true, 0, [], []⟩), (("BadShared" : Str), ⟨false, 1, [.non], [(("number" : Str), 0)]⟩), (("BadWay" : Str), ⟨true, 0, [], []⟩)],
  sub := [(("GameError" : Str), [("GameError" : Str)]), (("BadShared" : Str), [("BadShared" : Str), ("GameError" : Str)]), (("BadWay" : Str), [("BadWay" : Str), ("GameError" : Str)])],
  fns := fns }
end K84

set_option Elab.async false
set_option autoImplicit false
set_option linter.all false
set_option maxRecDepth 100000
set_option maxHeartbeats 0
/-! The head: what stands behind the program's top. -/
namespace K84
open PySem PySem.Spec PyProof.Rows L2 Px
def d_is_whole : He.DefD := ⟨("is_whole", none), "is_whole", "is_whole", defArgs s_is_whole, defBody s_is_whole, defScope s_is_whole, [], []⟩
def d_is_between : He.DefD := ⟨("is_between", none), "is_between", "is_between", defArgs s_is_between, defBody s_is_between, defScope s_is_between, [], []⟩
def d_is_row : He.DefD := ⟨("is_row", none), "is_row", "is_row", defArgs s_is_row, defBody s_is_row, defScope s_is_row, [], []⟩
def d_is_numbers : He.DefD := ⟨("is_numbers", none), "is_numbers", "is_numbers", defArgs s_is_numbers, defBody s_is_numbers, defScope s_is_numbers, [], []⟩
def d_least_missing : He.DefD := ⟨("least_missing", none), "least_missing", "least_missing", defArgs s_least_missing, defBody s_least_missing, defScope s_least_missing, [], []⟩
def d_shared_table : He.DefD := ⟨("shared_table", none), "shared_table", "shared_table", defArgs s_shared_table, defBody s_shared_table, defScope s_shared_table, [], []⟩
def d_table_nimbers : He.DefD := ⟨("table_nimbers", none), "table_nimbers", "table_nimbers", defArgs s_table_nimbers, defBody s_table_nimbers, defScope s_table_nimbers, [], []⟩
def d_checked_way : He.DefD := ⟨("checked_way", none), "checked_way", "checked_way", defArgs s_checked_way, defBody s_checked_way, defScope s_checked_way, [], []⟩
def d_one_short_marks : He.DefD := ⟨("one_short_marks", none), "one_short_marks", "one_short_marks", defArgs s_one_short_marks, defBody s_one_short_marks, defScope s_one_short_marks, [], []⟩
def d_all_marks : He.DefD := ⟨("all_marks", none), "all_marks", "all_marks", defArgs s_all_marks, defBody s_all_marks, defScope s_all_marks, [], []⟩
def d_alone_marks : He.DefD := ⟨("alone_marks", none), "alone_marks", "alone_marks", defArgs s_alone_marks, defBody s_alone_marks, defScope s_alone_marks, [], []⟩
def d_some_marks : He.DefD := ⟨("some_marks", none), "some_marks", "some_marks", defArgs s_some_marks, defBody s_some_marks, defScope s_some_marks, [], []⟩
def d_marks_by : He.DefD := ⟨("marks_by", none), "marks_by", "marks_by", defArgs s_marks_by, defBody s_marks_by, defScope s_marks_by, [], []⟩
def d_way_marks : He.DefD := ⟨("way_marks", none), "way_marks", "way_marks", defArgs s_way_marks, defBody s_way_marks, defScope s_way_marks, [], []⟩
def d__law_pool : He.DefD := ⟨("_law_pool", none), "_law_pool", "_law_pool", defArgs s__law_pool, defBody s__law_pool, defScope s__law_pool, [], []⟩
def d__law_take : He.DefD := ⟨("_law_take", none), "_law_take", "_law_take", defArgs s__law_take, defBody s__law_take, defScope s__law_take, [], []⟩
def d__law_pick : He.DefD := ⟨("_law_pick", none), "_law_pick", "_law_pick", defArgs s__law_pick, defBody s__law_pick, defScope s__law_pick, [], []⟩
def d__law_is_integer : He.DefD := ⟨("_law_is_integer", none), "_law_is_integer", "_law_is_integer", defArgs s__law_is_integer, defBody s__law_is_integer, defScope s__law_is_integer, [], []⟩
def d__law_same : He.DefD := ⟨("_law_same", none), "_law_same", "_law_same", defArgs s__law_same, defBody s__law_same, defScope s__law_same, [], []⟩
def d__law_order : He.DefD := ⟨("_law_order", none), "_law_order", "_law_order", defArgs s__law_order, defBody s__law_order, defScope s__law_order, [], []⟩
def d__law_given : He.DefD := ⟨("_law_given", none), "_law_given", "_law_given", defArgs s__law_given, defBody s__law_given, defScope s__law_given, [], []⟩
def d__law_missing : He.DefD := ⟨("_law_missing", none), "_law_missing", "_law_missing", defArgs s__law_missing, defBody s__law_missing, defScope s__law_missing, [], []⟩
def d__law_nimbers : He.DefD := ⟨("_law_nimbers", none), "_law_nimbers", "_law_nimbers", defArgs s__law_nimbers, defBody s__law_nimbers, defScope s__law_nimbers, [], []⟩
def d__law_shared : He.DefD := ⟨("_law_shared", none), "_law_shared", "_law_shared", defArgs s__law_shared, defBody s__law_shared, defScope s__law_shared, [], []⟩
def d__law_rows_mixed : He.DefD := ⟨("_law_rows_mixed", none), "_law_rows_mixed", "_law_rows_mixed", defArgs s__law_rows_mixed, defBody s__law_rows_mixed, defScope s__law_rows_mixed, [], []⟩
def d__law_ways : He.DefD := ⟨("_law_ways", none), "_law_ways", "_law_ways", defArgs s__law_ways, defBody s__law_ways, defScope s__law_ways, [], []⟩
def d__law_step_mark : He.DefD := ⟨("_law_step_mark", none), "_law_step_mark", "_law_step_mark", defArgs s__law_step_mark, defBody s__law_step_mark, defScope s__law_step_mark, [], []⟩
def d__law_mark : He.DefD := ⟨("_law_mark", none), "_law_mark", "_law_mark", defArgs s__law_mark, defBody s__law_mark, defScope s__law_mark, [], []⟩
def d__law_marks : He.DefD := ⟨("_law_marks", none), "_law_marks", "_law_marks", defArgs s__law_marks, defBody s__law_marks, defScope s__law_marks, [], []⟩
def d__law_fault : He.DefD := ⟨("_law_fault", none), "_law_fault", "_law_fault", defArgs s__law_fault, defBody s__law_fault, defScope s__law_fault, [], []⟩
def d__law_joined : He.DefD := ⟨("_law_joined", none), "_law_joined", "_law_joined", defArgs s__law_joined, defBody s__law_joined, defScope s__law_joined, [], []⟩
def d__law_joint_steps : He.DefD := ⟨("_law_joint_steps", none), "_law_joint_steps", "_law_joint_steps", defArgs s__law_joint_steps, defBody s__law_joint_steps, defScope s__law_joint_steps, [], []⟩
def d__law_long : He.DefD := ⟨("_law_long", none), "_law_long", "_law_long", defArgs s__law_long, defBody s__law_long, defScope s__law_long, [], []⟩
def d__law_always : He.DefD := ⟨("_law_always", none), "_law_always", "_law_always", defArgs s__law_always, defBody s__law_always, defScope s__law_always, [], []⟩
def d_law : He.DefD := ⟨("law", none), "law", "law", defArgs s_law, defBody s_law, defScope s_law, [], []⟩
def dl0 : List He.DefD := [d_is_whole, d_is_between, d_is_row, d_is_numbers, d_least_missing, d_shared_table, d_table_nimbers, d_checked_way, d_one_short_marks, d_all_marks, d_alone_marks, d_some_marks, d_marks_by, d_way_marks, d__law_pool, d__law_take, d__law_pick, d__law_is_integer, d__law_same, d__law_order]
def dl1 : List He.DefD := [d__law_given, d__law_missing, d__law_nimbers, d__law_shared, d__law_rows_mixed, d__law_ways, d__law_step_mark, d__law_mark, d__law_marks, d__law_fault, d__law_joined, d__law_joint_steps, d__law_long, d__law_always, d_law]
def dfn : List He.DefD := dl0 ++ (dl1)
def fl0 : List He.Fa := [.glo "is_whole", .glo "is_between", .glo "is_row", .glo "is_numbers", .glo "least_missing", .glo "shared_table", .glo "table_nimbers", .glo "checked_way", .glo "one_short_marks", .glo "all_marks", .glo "alone_marks", .glo "some_marks", .glo "marks_by", .glo "way_marks", .glo "_law_pool", .glo "_law_take", .glo "_law_pick", .glo "_law_is_integer", .glo "_law_same", .glo "_law_order"]
def fl1 : List He.Fa := [.glo "_law_given", .glo "_law_missing", .glo "_law_nimbers", .glo "_law_shared", .glo "_law_rows_mixed", .glo "_law_ways", .glo "_law_step_mark", .glo "_law_mark", .glo "_law_marks", .glo "_law_fault", .glo "_law_joined", .glo "_law_joint_steps", .glo "_law_long", .glo "_law_always", .glo "law", .free "len", .free "sum", .free "max", .free "min", .free "any"]
def fl2 : List He.Fa := [.free "all", .free "tuple", .free "list", .free "int", .free "abs", .free "bool", .free "dict", .free "sorted", .free "set", .free "isinstance", .free "range", .free "enumerate", .free "zip", .free "reversed", .free "super", .free "iter", .free "ValueError", .free "str", .glo "GameError", .glo "BadShared"]
def fl3 : List He.Fa := [.glo "BadWay", .exc "GameError", .exc "BadWay", .int "MOST_SHARED" 400, .int "MOST_SHARED_NUMBERS" 2000, .glo "WHICH", .glo "ENDS", .glo "GOALS"]
def dfa : List He.Fa := fl0 ++ (fl1 ++ (fl2 ++ (fl3)))
abbrev pgm : PySem.Program := PySem.Challenge.rw_gameproved_k84_whole_marks_of_ways.prog
def id_BadShared : InD := ⟨"BadShared", "__init__", "BadShared.__init__", defArgs (inClass (top 9) 0), defBody (inClass (top 9) 0), defScope (inClass (top 9) 0), [.non]⟩
def ins : List InD := [id_BadShared]
def moreX (K : PySem.W.Frag) : Bool := (xB K ("GameError" : PySem.Str) [(("GameError" : PySem.Str), true), (("BadShared" : PySem.Str), false), (("BadWay" : PySem.Str), false)] [("number" : PySem.Str)]) && (xB K ("BadShared" : PySem.Str) [(("GameError" : PySem.Str), true), (("BadShared" : PySem.Str), true), (("BadWay" : PySem.Str), false)] [("number" : PySem.Str)]) && (xB K ("BadWay" : PySem.Str) [(("GameError" : PySem.Str), true), (("BadShared" : PySem.Str), false), (("BadWay" : PySem.Str), true)] [("number" : PySem.Str)]) && (id_BadShared.ok pgm.main.file K)
/-- more: the tables of the top -/
def more (K : PySem.W.Frag) : Bool := (He.tupB K "WHICH" [.str ("one" : Str), .str ("all" : Str), .str ("some" : Str)] && He.tupB K "ENDS" [.str ("long" : Str), .str ("short" : Str)] && He.tupB K "GOALS" [.str ("last" : Str), .str ("not last" : Str)]) && moreX K
abbrev R : PySem.W.OpenRow := PySem.W.OpenLaw.row PySem.Challenge.rw_gameproved_k84_whole_marks_of_ways
abbrev hk : PySem.W.Hook := hookN 4 dfa dfn more ins
def ob (s : PySem.W.SharedT) : AlN := obsN 4 dfa dfn more ins (HandSHeadRun.getT s)
theorem ob_eq (s : PySem.W.SharedT) : ob s = hk.obs s.abs := obsN_eq (HandSHeadRun.getT_eq s)
def lo0 : List PySem.Str := ["is_whole", "is_between", "is_row", "is_numbers", "least_missing", "shared_table", "table_nimbers", "checked_way", "one_short_marks", "all_marks", "alone_marks", "some_marks", "marks_by", "way_marks", "_law_pool", "_law_take", "_law_pick", "_law_is_integer", "_law_same", "_law_order"]
def lo1 : List PySem.Str := ["_law_given", "_law_missing", "_law_nimbers", "_law_shared", "_law_rows_mixed", "_law_ways", "_law_step_mark", "_law_mark", "_law_marks", "_law_fault", "_law_joined", "_law_joint_steps", "_law_long", "_law_always", "GameError", "BadShared", "BadWay", "MOST_SHARED", "MOST_SHARED_NUMBERS", "WHICH"]
def lo2 : List PySem.Str := ["ENDS", "GOALS"]
def loose : List PySem.Str := lo0 ++ (lo1 ++ (lo2))
theorem runEq (w : World) : HandSHeadRun.RunEq R (PySem.W.view R.prog [47]) hk ob 3000 loose w := by
  intro os
  kernel_rfl
section
variable {K : PySem.W.Frag} {mg : Str → Option Value} {h : Heap} (KX : K.In h) (ns : h.Ns mainGlobals mg) (c : SaysN dfa dfn more ins K)
include KX ns c
theorem dk_is_whole : ∃ fd, DefAt P G K mg "is_whole" (He.ga K "is_whole") fd ["value"] := by
  obtain ⟨fd, F⟩ := c.d.def_ 0 (d := d_is_whole) rfl
  exact ⟨fd, fun s us hl => FunD.bindsA F (fun _ _ _ _ _ _ us hl => match us, hl with | [_], _ => rfl) s us hl, He.glo_ok KX ns (c.d.fact 0 (f := .glo "is_whole") rfl), F.kp, _, _, _, _, n_is_whole, ⟨1, 1, false, b_is_whole⟩, 40, F, C8.fnScope_by (by decide +kernel), by kernel_rfl, rfl, by decide +kernel, tr_is_whole⟩
theorem dk_is_between : ∃ fd, DefAt P G K mg "is_between" (He.ga K "is_between") fd ["value", "low", "high"] := by
  obtain ⟨fd, F⟩ := c.d.def_ 1 (d := d_is_between) rfl
  exact ⟨fd, fun s us hl => FunD.bindsA F (fun _ _ _ _ _ _ us hl => match us, hl with | [_, _, _], _ => rfl) s us hl, He.glo_ok KX ns (c.d.fact 1 (f := .glo "is_between") rfl), F.kp, _, _, _, _, n_is_between, ⟨3, 3, false, b_is_between⟩, 40, F, C8.fnScope_by (by decide +kernel), by kernel_rfl, rfl, by decide +kernel, tr_is_between⟩
theorem dk_is_row : ∃ fd, DefAt P G K mg "is_row" (He.ga K "is_row") fd ["value"] := by
  obtain ⟨fd, F⟩ := c.d.def_ 2 (d := d_is_row) rfl
  exact ⟨fd, fun s us hl => FunD.bindsA F (fun _ _ _ _ _ _ us hl => match us, hl with | [_], _ => rfl) s us hl, He.glo_ok KX ns (c.d.fact 2 (f := .glo "is_row") rfl), F.kp, _, _, _, _, n_is_row, ⟨1, 1, false, b_is_row⟩, 40, F, C8.fnScope_by (by decide +kernel), by kernel_rfl, rfl, by decide +kernel, tr_is_row⟩
theorem dk_is_numbers : ∃ fd, DefAt P G K mg "is_numbers" (He.ga K "is_numbers") fd ["value", "most"] := by
  obtain ⟨fd, F⟩ := c.d.def_ 3 (d := d_is_numbers) rfl
  exact ⟨fd, fun s us hl => FunD.bindsA F (fun _ _ _ _ _ _ us hl => match us, hl with | [_, _], _ => rfl) s us hl, He.glo_ok KX ns (c.d.fact 3 (f := .glo "is_numbers") rfl), F.kp, _, _, _, _, n_is_numbers, ⟨2, 3, false, b_is_numbers⟩, 40, F, C8.fnScope_by (by decide +kernel), by kernel_rfl, rfl, by decide +kernel, tr_is_numbers⟩
theorem dk_least_missing : ∃ fd, DefAt P G K mg "least_missing" (He.ga K "least_missing") fd ["numbers"] := by
  obtain ⟨fd, F⟩ := c.d.def_ 4 (d := d_least_missing) rfl
  exact ⟨fd, fun s us hl => FunD.bindsA F (fun _ _ _ _ _ _ us hl => match us, hl with | [_], _ => rfl) s us hl, He.glo_ok KX ns (c.d.fact 4 (f := .glo "least_missing") rfl), F.kp, _, _, _, _, n_least_missing, ⟨1, 4, false, b_least_missing⟩, 40, F, C8.fnScope_by (by decide +kernel), by kernel_rfl, rfl, by decide +kernel, tr_least_missing⟩
theorem dk_shared_table : ∃ fd, DefAt P G K mg "shared_table" (He.ga K "shared_table") fd ["rows"] := by
  obtain ⟨fd, F⟩ := c.d.def_ 5 (d := d_shared_table) rfl
  exact ⟨fd, fun s us hl => FunD.bindsA F (fun _ _ _ _ _ _ us hl => match us, hl with | [_], _ => rfl) s us hl, He.glo_ok KX ns (c.d.fact 5 (f := .glo "shared_table") rfl), F.kp, _, _, _, _, n_shared_table, ⟨1, 4, false, b_shared_table⟩, 40, F, C8.fnScope_by (by decide +kernel), by kernel_rfl, rfl, by decide +kernel, tr_shared_table⟩
theorem dk_table_nimbers : ∃ fd, DefAt P G K mg "table_nimbers" (He.ga K "table_nimbers") fd ["table"] := by
  obtain ⟨fd, F⟩ := c.d.def_ 6 (d := d_table_nimbers) rfl
  exact ⟨fd, fun s us hl => FunD.bindsA F (fun _ _ _ _ _ _ us hl => match us, hl with | [_], _ => rfl) s us hl, He.glo_ok KX ns (c.d.fact 6 (f := .glo "table_nimbers") rfl), F.kp, _, _, _, _, n_table_nimbers, ⟨1, 4, false, b_table_nimbers⟩, 40, F, C8.fnScope_by (by decide +kernel), by kernel_rfl, rfl, by decide +kernel, tr_table_nimbers⟩
theorem dk_checked_way : ∃ fd, DefAt P G K mg "checked_way" (He.ga K "checked_way") fd ["way"] := by
  obtain ⟨fd, F⟩ := c.d.def_ 7 (d := d_checked_way) rfl
  exact ⟨fd, fun s us hl => FunD.bindsA F (fun _ _ _ _ _ _ us hl => match us, hl with | [_], _ => rfl) s us hl, He.glo_ok KX ns (c.d.fact 7 (f := .glo "checked_way") rfl), F.kp, _, _, _, _, n_checked_way, ⟨1, 4, false, b_checked_way⟩, 40, F, C8.fnScope_by (by decide +kernel), by kernel_rfl, rfl, by decide +kernel, tr_checked_way⟩
theorem dk_one_short_marks : ∃ fd, DefAt P G K mg "one_short_marks" (He.ga K "one_short_marks") fd ["table", "is_last"] := by
  obtain ⟨fd, F⟩ := c.d.def_ 8 (d := d_one_short_marks) rfl
  exact ⟨fd, fun s us hl => FunD.bindsA F (fun _ _ _ _ _ _ us hl => match us, hl with | [_, _], _ => rfl) s us hl, He.glo_ok KX ns (c.d.fact 8 (f := .glo "one_short_marks") rfl), F.kp, _, _, _, _, n_one_short_marks, ⟨2, 7, false, b_one_short_marks⟩, 40, F, C8.fnScope_by (by decide +kernel), by kernel_rfl, rfl, by decide +kernel, tr_one_short_marks⟩
theorem dk_all_marks : ∃ fd, DefAt P G K mg "all_marks" (He.ga K "all_marks") fd ["table", "is_short", "wished"] := by
  obtain ⟨fd, F⟩ := c.d.def_ 9 (d := d_all_marks) rfl
  exact ⟨fd, fun s us hl => FunD.bindsA F (fun _ _ _ _ _ _ us hl => match us, hl with | [_, _, _], _ => rfl) s us hl, He.glo_ok KX ns (c.d.fact 9 (f := .glo "all_marks") rfl), F.kp, _, _, _, _, n_all_marks, ⟨3, 9, false, b_all_marks⟩, 40, F, C8.fnScope_by (by decide +kernel), by kernel_rfl, rfl, by decide +kernel, tr_all_marks⟩
theorem dk_alone_marks : ∃ fd, DefAt P G K mg "alone_marks" (He.ga K "alone_marks") fd ["table"] := by
  obtain ⟨fd, F⟩ := c.d.def_ 10 (d := d_alone_marks) rfl
  exact ⟨fd, fun s us hl => FunD.bindsA F (fun _ _ _ _ _ _ us hl => match us, hl with | [_], _ => rfl) s us hl, He.glo_ok KX ns (c.d.fact 10 (f := .glo "alone_marks") rfl), F.kp, _, _, _, _, n_alone_marks, ⟨1, 4, false, b_alone_marks⟩, 40, F, C8.fnScope_by (by decide +kernel), by kernel_rfl, rfl, by decide +kernel, tr_alone_marks⟩
theorem dk_some_marks : ∃ fd, DefAt P G K mg "some_marks" (He.ga K "some_marks") fd ["table", "end", "goal"] := by
  obtain ⟨fd, F⟩ := c.d.def_ 11 (d := d_some_marks) rfl
  exact ⟨fd, fun s us hl => FunD.bindsA F (fun _ _ _ _ _ _ us hl => match us, hl with | [_, _, _], _ => rfl) s us hl, He.glo_ok KX ns (c.d.fact 11 (f := .glo "some_marks") rfl), F.kp, _, _, _, _, n_some_marks, ⟨3, 9, false, b_some_marks⟩, 40, F, C8.fnScope_by (by decide +kernel), by kernel_rfl, rfl, by decide +kernel, tr_some_marks⟩
theorem dk_marks_by : ∃ fd, DefAt P G K mg "marks_by" (He.ga K "marks_by") fd ["table", "way"] := by
  obtain ⟨fd, F⟩ := c.d.def_ 12 (d := d_marks_by) rfl
  exact ⟨fd, fun s us hl => FunD.bindsA F (fun _ _ _ _ _ _ us hl => match us, hl with | [_, _], _ => rfl) s us hl, He.glo_ok KX ns (c.d.fact 12 (f := .glo "marks_by") rfl), F.kp, _, _, _, _, n_marks_by, ⟨2, 5, false, b_marks_by⟩, 40, F, C8.fnScope_by (by decide +kernel), by kernel_rfl, rfl, by decide +kernel, tr_marks_by⟩
theorem dk_way_marks : ∃ fd, DefAt P G K mg "way_marks" (He.ga K "way_marks") fd ["rows", "way"] := by
  obtain ⟨fd, F⟩ := c.d.def_ 13 (d := d_way_marks) rfl
  exact ⟨fd, fun s us hl => FunD.bindsA F (fun _ _ _ _ _ _ us hl => match us, hl with | [_, _], _ => rfl) s us hl, He.glo_ok KX ns (c.d.fact 13 (f := .glo "way_marks") rfl), F.kp, _, _, _, _, n_way_marks, ⟨2, 3, false, b_way_marks⟩, 40, F, C8.fnScope_by (by decide +kernel), by kernel_rfl, rfl, by decide +kernel, tr_way_marks⟩
theorem dk__law_pool : ∃ fd, DefAt P G K mg "_law_pool" (He.ga K "_law_pool") fd ["script"] := by
  obtain ⟨fd, F⟩ := c.d.def_ 14 (d := d__law_pool) rfl
  exact ⟨fd, fun s us hl => FunD.bindsA F (fun _ _ _ _ _ _ us hl => match us, hl with | [_], _ => rfl) s us hl, He.glo_ok KX ns (c.d.fact 14 (f := .glo "_law_pool") rfl), F.kp, _, _, _, _, n__law_pool, ⟨1, 2, true, b__law_pool⟩, 40, F, C8.fnScope_by (by decide +kernel), by kernel_rfl, rfl, by decide +kernel, tr__law_pool⟩
theorem dk__law_take : ∃ fd, DefAt P G K mg "_law_take" (He.ga K "_law_take") fd ["pool", "many"] := by
  obtain ⟨fd, F⟩ := c.d.def_ 15 (d := d__law_take) rfl
  exact ⟨fd, fun s us hl => FunD.bindsA F (fun _ _ _ _ _ _ us hl => match us, hl with | [_, _], _ => rfl) s us hl, He.glo_ok KX ns (c.d.fact 15 (f := .glo "_law_take") rfl), F.kp, _, _, _, _, n__law_take, ⟨2, 5, false, b__law_take⟩, 40, F, C8.fnScope_by (by decide +kernel), by kernel_rfl, rfl, by decide +kernel, tr__law_take⟩
theorem dk__law_pick : ∃ fd, DefAt P G K mg "_law_pick" (He.ga K "_law_pick") fd ["pool", "rows"] := by
  obtain ⟨fd, F⟩ := c.d.def_ 16 (d := d__law_pick) rfl
  exact ⟨fd, fun s us hl => FunD.bindsA F (fun _ _ _ _ _ _ us hl => match us, hl with | [_, _], _ => rfl) s us hl, He.glo_ok KX ns (c.d.fact 16 (f := .glo "_law_pick") rfl), F.kp, _, _, _, _, n__law_pick, ⟨2, 2, false, b__law_pick⟩, 40, F, C8.fnScope_by (by decide +kernel), by kernel_rfl, rfl, by decide +kernel, tr__law_pick⟩
theorem dk__law_is_integer : ∃ fd, DefAt P G K mg "_law_is_integer" (He.ga K "_law_is_integer") fd ["actual"] := by
  obtain ⟨fd, F⟩ := c.d.def_ 17 (d := d__law_is_integer) rfl
  exact ⟨fd, fun s us hl => FunD.bindsA F (fun _ _ _ _ _ _ us hl => match us, hl with | [_], _ => rfl) s us hl, He.glo_ok KX ns (c.d.fact 17 (f := .glo "_law_is_integer") rfl), F.kp, _, _, _, _, n__law_is_integer, ⟨1, 1, false, b__law_is_integer⟩, 40, F, C8.fnScope_by (by decide +kernel), by kernel_rfl, rfl, by decide +kernel, tr__law_is_integer⟩
theorem dk__law_same : ∃ fd, DefAt P G K mg "_law_same" (He.ga K "_law_same") fd ["actual", "due"] := by
  obtain ⟨fd, F⟩ := c.d.def_ 18 (d := d__law_same) rfl
  exact ⟨fd, fun s us hl => FunD.bindsA F (fun _ _ _ _ _ _ us hl => match us, hl with | [_, _], _ => rfl) s us hl, He.glo_ok KX ns (c.d.fact 18 (f := .glo "_law_same") rfl), F.kp, _, _, _, _, n__law_same, ⟨2, 3, false, b__law_same⟩, 40, F, C8.fnScope_by (by decide +kernel), by kernel_rfl, rfl, by decide +kernel, tr__law_same⟩
theorem dk__law_order : ∃ fd, DefAt P G K mg "_law_order" (He.ga K "_law_order") fd ["pool", "many"] := by
  obtain ⟨fd, F⟩ := c.d.def_ 19 (d := d__law_order) rfl
  exact ⟨fd, fun s us hl => FunD.bindsA F (fun _ _ _ _ _ _ us hl => match us, hl with | [_, _], _ => rfl) s us hl, He.glo_ok KX ns (c.d.fact 19 (f := .glo "_law_order") rfl), F.kp, _, _, _, _, n__law_order, ⟨2, 5, false, b__law_order⟩, 40, F, C8.fnScope_by (by decide +kernel), by kernel_rfl, rfl, by decide +kernel, tr__law_order⟩
theorem dk__law_given : ∃ fd, DefAt P G K mg "_law_given" (He.ga K "_law_given") fd ["pool", "row"] := by
  obtain ⟨fd, F⟩ := c.d.def_ 20 (d := d__law_given) rfl
  exact ⟨fd, fun s us hl => FunD.bindsA F (fun _ _ _ _ _ _ us hl => match us, hl with | [_, _], _ => rfl) s us hl, He.glo_ok KX ns (c.d.fact 20 (f := .glo "_law_given") rfl), F.kp, _, _, _, _, n__law_given, ⟨2, 2, false, b__law_given⟩, 40, F, C8.fnScope_by (by decide +kernel), by kernel_rfl, rfl, by decide +kernel, tr__law_given⟩
theorem dk__law_missing : ∃ fd, DefAt P G K mg "_law_missing" (He.ga K "_law_missing") fd ["some"] := by
  obtain ⟨fd, F⟩ := c.d.def_ 21 (d := d__law_missing) rfl
  exact ⟨fd, fun s us hl => FunD.bindsA F (fun _ _ _ _ _ _ us hl => match us, hl with | [_], _ => rfl) s us hl, He.glo_ok KX ns (c.d.fact 21 (f := .glo "_law_missing") rfl), F.kp, _, _, _, _, n__law_missing, ⟨1, 5, false, b__law_missing⟩, 40, F, C8.fnScope_by (by decide +kernel), by kernel_rfl, rfl, by decide +kernel, tr__law_missing⟩
theorem dk__law_nimbers : ∃ fd, DefAt P G K mg "_law_nimbers" (He.ga K "_law_nimbers") fd ["rows"] := by
  obtain ⟨fd, F⟩ := c.d.def_ 22 (d := d__law_nimbers) rfl
  exact ⟨fd, fun s us hl => FunD.bindsA F (fun _ _ _ _ _ _ us hl => match us, hl with | [_], _ => rfl) s us hl, He.glo_ok KX ns (c.d.fact 22 (f := .glo "_law_nimbers") rfl), F.kp, _, _, _, _, n__law_nimbers, ⟨1, 4, false, b__law_nimbers⟩, 40, F, C8.fnScope_by (by decide +kernel), by kernel_rfl, rfl, by decide +kernel, tr__law_nimbers⟩
theorem dk__law_shared : ∃ fd, DefAt P G K mg "_law_shared" (He.ga K "_law_shared") fd ["pool", "most"] := by
  obtain ⟨fd, F⟩ := c.d.def_ 23 (d := d__law_shared) rfl
  exact ⟨fd, fun s us hl => FunD.bindsA F (fun _ _ _ _ _ _ us hl => match us, hl with | [_, _], _ => rfl) s us hl, He.glo_ok KX ns (c.d.fact 23 (f := .glo "_law_shared") rfl), F.kp, _, _, _, _, n__law_shared, ⟨2, 8, false, b__law_shared⟩, 40, F, C8.fnScope_by (by decide +kernel), by kernel_rfl, rfl, by decide +kernel, tr__law_shared⟩
theorem dk__law_rows_mixed : ∃ fd, DefAt P G K mg "_law_rows_mixed" (He.ga K "_law_rows_mixed") fd ["pool", "rows"] := by
  obtain ⟨fd, F⟩ := c.d.def_ 24 (d := d__law_rows_mixed) rfl
  exact ⟨fd, fun s us hl => FunD.bindsA F (fun _ _ _ _ _ _ us hl => match us, hl with | [_, _], _ => rfl) s us hl, He.glo_ok KX ns (c.d.fact 24 (f := .glo "_law_rows_mixed") rfl), F.kp, _, _, _, _, n__law_rows_mixed, ⟨2, 6, false, b__law_rows_mixed⟩, 40, F, C8.fnScope_by (by decide +kernel), by kernel_rfl, rfl, by decide +kernel, tr__law_rows_mixed⟩
theorem dk__law_ways : ∃ fd, DefAt P G K mg "_law_ways" (He.ga K "_law_ways") fd [] := by
  obtain ⟨fd, F⟩ := c.d.def_ 25 (d := d__law_ways) rfl
  exact ⟨fd, fun s us hl => FunD.bindsA F (fun _ _ _ _ _ _ us hl => match us, hl with | [], _ => rfl) s us hl, He.glo_ok KX ns (c.d.fact 25 (f := .glo "_law_ways") rfl), F.kp, _, _, _, _, n__law_ways, ⟨0, 4, false, b__law_ways⟩, 40, F, C8.fnScope_by (by decide +kernel), by kernel_rfl, rfl, by decide +kernel, tr__law_ways⟩
theorem dk__law_step_mark : ∃ fd, DefAt P G K mg "_law_step_mark" (He.ga K "_law_step_mark") fd ["some", "parity", "is_short"] := by
  obtain ⟨fd, F⟩ := c.d.def_ 26 (d := d__law_step_mark) rfl
  exact ⟨fd, fun s us hl => FunD.bindsA F (fun _ _ _ _ _ _ us hl => match us, hl with | [_, _, _], _ => rfl) s us hl, He.glo_ok KX ns (c.d.fact 26 (f := .glo "_law_step_mark") rfl), F.kp, _, _, _, _, n__law_step_mark, ⟨3, 6, false, b__law_step_mark⟩, 40, F, C8.fnScope_by (by decide +kernel), by kernel_rfl, rfl, by decide +kernel, tr__law_step_mark⟩
theorem dk__law_mark : ∃ fd, DefAt P G K mg "_law_mark" (He.ga K "_law_mark") fd ["way", "some", "is_over", "nimber"] := by
  obtain ⟨fd, F⟩ := c.d.def_ 27 (d := d__law_mark) rfl
  exact ⟨fd, fun s us hl => FunD.bindsA F (fun _ _ _ _ _ _ us hl => match us, hl with | [_, _, _, _], _ => rfl) s us hl, He.glo_ok KX ns (c.d.fact 27 (f := .glo "_law_mark") rfl), F.kp, _, _, _, _, n__law_mark, ⟨4, 9, false, b__law_mark⟩, 40, F, C8.fnScope_by (by decide +kernel), by kernel_rfl, rfl, by decide +kernel, tr__law_mark⟩
theorem dk__law_marks : ∃ fd, DefAt P G K mg "_law_marks" (He.ga K "_law_marks") fd ["rows", "way"] := by
  obtain ⟨fd, F⟩ := c.d.def_ 28 (d := d__law_marks) rfl
  exact ⟨fd, fun s us hl => FunD.bindsA F (fun _ _ _ _ _ _ us hl => match us, hl with | [_, _], _ => rfl) s us hl, He.glo_ok KX ns (c.d.fact 28 (f := .glo "_law_marks") rfl), F.kp, _, _, _, _, n__law_marks, ⟨2, 6, false, b__law_marks⟩, 40, F, C8.fnScope_by (by decide +kernel), by kernel_rfl, rfl, by decide +kernel, tr__law_marks⟩
theorem dk__law_fault : ∃ fd, DefAt P G K mg "_law_fault" (He.ga K "_law_fault") fd ["rows", "way"] := by
  obtain ⟨fd, F⟩ := c.d.def_ 29 (d := d__law_fault) rfl
  exact ⟨fd, fun s us hl => FunD.bindsA F (fun _ _ _ _ _ _ us hl => match us, hl with | [_, _], _ => rfl) s us hl, He.glo_ok KX ns (c.d.fact 29 (f := .glo "_law_fault") rfl), F.kp, _, _, _, _, n__law_fault, ⟨2, 3, false, b__law_fault⟩, 40, F, C8.fnScope_by (by decide +kernel), by kernel_rfl, rfl, by decide +kernel, tr__law_fault⟩
theorem dk__law_joined : ∃ fd, DefAt P G K mg "_law_joined" (He.ga K "_law_joined") fd ["rows", "one", "other", "is_short"] := by
  obtain ⟨fd, F⟩ := c.d.def_ 30 (d := d__law_joined) rfl
  exact ⟨fd, fun s us hl => FunD.bindsA F (fun _ _ _ _ _ _ us hl => match us, hl with | [_, _, _, _], _ => rfl) s us hl, He.glo_ok KX ns (c.d.fact 30 (f := .glo "_law_joined") rfl), F.kp, _, _, _, _, n__law_joined, ⟨4, 11, false, b__law_joined⟩, 40, F, C8.fnScope_by (by decide +kernel), by kernel_rfl, rfl, by decide +kernel, tr__law_joined⟩
theorem dk__law_joint_steps : ∃ fd, DefAt P G K mg "_law_joint_steps" (He.ga K "_law_joint_steps") fd ["rows", "pair", "is_short"] := by
  obtain ⟨fd, F⟩ := c.d.def_ 31 (d := d__law_joint_steps) rfl
  exact ⟨fd, fun s us hl => FunD.bindsA F (fun _ _ _ _ _ _ us hl => match us, hl with | [_, _, _], _ => rfl) s us hl, He.glo_ok KX ns (c.d.fact 31 (f := .glo "_law_joint_steps") rfl), F.kp, _, _, _, _, n__law_joint_steps, ⟨3, 8, false, b__law_joint_steps⟩, 40, F, C8.fnScope_by (by decide +kernel), by kernel_rfl, rfl, by decide +kernel, tr__law_joint_steps⟩
theorem dk__law_long : ∃ fd, DefAt P G K mg "_law_long" (He.ga K "_law_long") fd ["pool"] := by
  obtain ⟨fd, F⟩ := c.d.def_ 32 (d := d__law_long) rfl
  exact ⟨fd, fun s us hl => FunD.bindsA F (fun _ _ _ _ _ _ us hl => match us, hl with | [_], _ => rfl) s us hl, He.glo_ok KX ns (c.d.fact 32 (f := .glo "_law_long") rfl), F.kp, _, _, _, _, n__law_long, ⟨1, 4, false, b__law_long⟩, 40, F, C8.fnScope_by (by decide +kernel), by kernel_rfl, rfl, by decide +kernel, tr__law_long⟩
theorem dk__law_always : ∃ fd, DefAt P G K mg "_law_always" (He.ga K "_law_always") fd [] := by
  obtain ⟨fd, F⟩ := c.d.def_ 33 (d := d__law_always) rfl
  exact ⟨fd, fun s us hl => FunD.bindsA F (fun _ _ _ _ _ _ us hl => match us, hl with | [], _ => rfl) s us hl, He.glo_ok KX ns (c.d.fact 33 (f := .glo "_law_always") rfl), F.kp, _, _, _, _, n__law_always, ⟨0, 4, false, b__law_always⟩, 40, F, C8.fnScope_by (by decide +kernel), by kernel_rfl, rfl, by decide +kernel, tr__law_always⟩
theorem dk_law : ∃ fd, DefAt P G K mg "law" (He.ga K "law") fd ["script"] := by
  obtain ⟨fd, F⟩ := c.d.def_ 34 (d := d_law) rfl
  exact ⟨fd, fun s us hl => FunD.bindsA F (fun _ _ _ _ _ _ us hl => match us, hl with | [_], _ => rfl) s us hl, He.glo_ok KX ns (c.d.fact 34 (f := .glo "law") rfl), F.kp, _, _, _, _, n_law, ⟨1, 16, false, b_law⟩, 40, F, C8.fnScope_by (by decide +kernel), by kernel_rfl, rfl, by decide +kernel, tr_law⟩
theorem defs_all : ∀ x np, G.fns.lookup x = some np → DefOk P G K mg x := by
  intro x np hx
  have hm := PySem.mem_of_lookup hx
  simp only [G, List.mem_cons, List.not_mem_nil, or_false, Prod.mk.injEq] at hm
  rcases hm with ⟨rfl, _⟩ | ⟨rfl, _⟩ | ⟨rfl, _⟩ | ⟨rfl, _⟩ | ⟨rfl, _⟩ | ⟨rfl, _⟩ | ⟨rfl, _⟩ | ⟨rfl, _⟩ | ⟨rfl, _⟩ | ⟨rfl, _⟩ | ⟨rfl, _⟩ | ⟨rfl, _⟩ | ⟨rfl, _⟩ | ⟨rfl, _⟩ | ⟨rfl, _⟩ | ⟨rfl, _⟩ | ⟨rfl, _⟩ | ⟨rfl, _⟩ | ⟨rfl, _⟩ | ⟨rfl, _⟩ | ⟨rfl, _⟩ | ⟨rfl, _⟩ | ⟨rfl, _⟩ | ⟨rfl, _⟩ | ⟨rfl, _⟩ | ⟨rfl, _⟩ | ⟨rfl, _⟩ | ⟨rfl, _⟩ | ⟨rfl, _⟩ | ⟨rfl, _⟩ | ⟨rfl, _⟩ | ⟨rfl, _⟩ | ⟨rfl, _⟩ | ⟨rfl, _⟩ | ⟨rfl, _⟩
  · obtain ⟨fd, d⟩ := dk_is_whole KX ns c; exact ⟨_, fd, _, d⟩
  · obtain ⟨fd, d⟩ := dk_is_between KX ns c; exact ⟨_, fd, _, d⟩
  · obtain ⟨fd, d⟩ := dk_is_row KX ns c; exact ⟨_, fd, _, d⟩
  · obtain ⟨fd, d⟩ := dk_is_numbers KX ns c; exact ⟨_, fd, _, d⟩
  · obtain ⟨fd, d⟩ := dk_least_missing KX ns c; exact ⟨_, fd, _, d⟩
  · obtain ⟨fd, d⟩ := dk_shared_table KX ns c; exact ⟨_, fd, _, d⟩
  · obtain ⟨fd, d⟩ := dk_table_nimbers KX ns c; exact ⟨_, fd, _, d⟩
  · obtain ⟨fd, d⟩ := dk_checked_way KX ns c; exact ⟨_, fd, _, d⟩
  · obtain ⟨fd, d⟩ := dk_one_short_marks KX ns c; exact ⟨_, fd, _, d⟩
  · obtain ⟨fd, d⟩ := dk_all_marks KX ns c; exact ⟨_, fd, _, d⟩
  · obtain ⟨fd, d⟩ := dk_alone_marks KX ns c; exact ⟨_, fd, _, d⟩
  · obtain ⟨fd, d⟩ := dk_some_marks KX ns c; exact ⟨_, fd, _, d⟩
  · obtain ⟨fd, d⟩ := dk_marks_by KX ns c; exact ⟨_, fd, _, d⟩
  · obtain ⟨fd, d⟩ := dk_way_marks KX ns c; exact ⟨_, fd, _, d⟩
  · obtain ⟨fd, d⟩ := dk__law_pool KX ns c; exact ⟨_, fd, _, d⟩
  · obtain ⟨fd, d⟩ := dk__law_take KX ns c; exact ⟨_, fd, _, d⟩
  · obtain ⟨fd, d⟩ := dk__law_pick KX ns c; exact ⟨_, fd, _, d⟩
  · obtain ⟨fd, d⟩ := dk__law_is_integer KX ns c; exact ⟨_, fd, _, d⟩
  · obtain ⟨fd, d⟩ := dk__law_same KX ns c; exact ⟨_, fd, _, d⟩
  · obtain ⟨fd, d⟩ := dk__law_order KX ns c; exact ⟨_, fd, _, d⟩
  · obtain ⟨fd, d⟩ := dk__law_given KX ns c; exact ⟨_, fd, _, d⟩
  · obtain ⟨fd, d⟩ := dk__law_missing KX ns c; exact ⟨_, fd, _, d⟩
  · obtain ⟨fd, d⟩ := dk__law_nimbers KX ns c; exact ⟨_, fd, _, d⟩
  · obtain ⟨fd, d⟩ := dk__law_shared KX ns c; exact ⟨_, fd, _, d⟩
  · obtain ⟨fd, d⟩ := dk__law_rows_mixed KX ns c; exact ⟨_, fd, _, d⟩
  · obtain ⟨fd, d⟩ := dk__law_ways KX ns c; exact ⟨_, fd, _, d⟩
  · obtain ⟨fd, d⟩ := dk__law_step_mark KX ns c; exact ⟨_, fd, _, d⟩
  · obtain ⟨fd, d⟩ := dk__law_mark KX ns c; exact ⟨_, fd, _, d⟩
  · obtain ⟨fd, d⟩ := dk__law_marks KX ns c; exact ⟨_, fd, _, d⟩
  · obtain ⟨fd, d⟩ := dk__law_fault KX ns c; exact ⟨_, fd, _, d⟩
  · obtain ⟨fd, d⟩ := dk__law_joined KX ns c; exact ⟨_, fd, _, d⟩
  · obtain ⟨fd, d⟩ := dk__law_joint_steps KX ns c; exact ⟨_, fd, _, d⟩
  · obtain ⟨fd, d⟩ := dk__law_long KX ns c; exact ⟨_, fd, _, d⟩
  · obtain ⟨fd, d⟩ := dk__law_always KX ns c; exact ⟨_, fd, _, d⟩
  · obtain ⟨fd, d⟩ := dk_law KX ns c; exact ⟨_, fd, _, d⟩
theorem free_all : ∀ x, G.free.contains x = true → mg x = none := by
  intro x hx
  have hm := List.contains_iff_mem.mp hx
  simp only [G, List.mem_cons, List.not_mem_nil, or_false] at hm
  rcases hm with rfl | rfl | rfl | rfl | rfl | rfl | rfl | rfl | rfl | rfl | rfl | rfl | rfl | rfl | rfl | rfl | rfl | rfl | rfl | rfl | rfl | rfl | rfl
  · exact He.free_ok KX ns (c.d.fact 35 (f := .free "len") rfl)
  · exact He.free_ok KX ns (c.d.fact 36 (f := .free "sum") rfl)
  · exact He.free_ok KX ns (c.d.fact 37 (f := .free "max") rfl)
  · exact He.free_ok KX ns (c.d.fact 38 (f := .free "min") rfl)
  · exact He.free_ok KX ns (c.d.fact 39 (f := .free "any") rfl)
  · exact He.free_ok KX ns (c.d.fact 40 (f := .free "all") rfl)
  · exact He.free_ok KX ns (c.d.fact 41 (f := .free "tuple") rfl)
  · exact He.free_ok KX ns (c.d.fact 42 (f := .free "list") rfl)
  · exact He.free_ok KX ns (c.d.fact 43 (f := .free "int") rfl)
  · exact He.free_ok KX ns (c.d.fact 44 (f := .free "abs") rfl)
  · exact He.free_ok KX ns (c.d.fact 45 (f := .free "bool") rfl)
  · exact He.free_ok KX ns (c.d.fact 46 (f := .free "dict") rfl)
  · exact He.free_ok KX ns (c.d.fact 47 (f := .free "sorted") rfl)
  · exact He.free_ok KX ns (c.d.fact 48 (f := .free "set") rfl)
  · exact He.free_ok KX ns (c.d.fact 49 (f := .free "isinstance") rfl)
  · exact He.free_ok KX ns (c.d.fact 50 (f := .free "range") rfl)
  · exact He.free_ok KX ns (c.d.fact 51 (f := .free "enumerate") rfl)
  · exact He.free_ok KX ns (c.d.fact 52 (f := .free "zip") rfl)
  · exact He.free_ok KX ns (c.d.fact 53 (f := .free "reversed") rfl)
  · exact He.free_ok KX ns (c.d.fact 54 (f := .free "super") rfl)
  · exact He.free_ok KX ns (c.d.fact 55 (f := .free "iter") rfl)
  · exact He.free_ok KX ns (c.d.fact 56 (f := .free "ValueError") rfl)
  · exact He.free_ok KX ns (c.d.fact 57 (f := .free "str") rfl)
theorem consts_all : ∀ x d, P.consts.lookup x = some d → ∃ v u, mg x = some u ∧ RelV v u ∧ ∀ F ρ, Rep F ρ d v := by
  intro x d hx
  have hm := PySem.mem_of_lookup hx
  simp only [P, List.mem_cons, List.not_mem_nil, or_false, Prod.mk.injEq] at hm
  rcases hm with ⟨rfl, rfl⟩ | ⟨rfl, rfl⟩
  · obtain ⟨t, e⟩ := He.int_ok KX ns (c.d.fact 63 (f := .int "MOST_SHARED" 400) rfl); exact ⟨.int 400, _, e, ⟨t, rfl⟩, fun _ _ => rfl⟩
  · obtain ⟨t, e⟩ := He.int_ok KX ns (c.d.fact 64 (f := .int "MOST_SHARED_NUMBERS" 2000) rfl); exact ⟨.int 2000, _, e, ⟨t, rfl⟩, fun _ _ => rfl⟩
theorem tcs_all : ∀ x, G.tcs.contains x = true → ∃ ds a vs, P.tcs.lookup x = some ds ∧ mg x = some (.ref a) ∧ (∀ H, SqT K H a vs) ∧ ∀ F ρ, RepL F ρ ds vs := by
  intro x hx
  have hm := List.contains_iff_mem.mp hx
  simp only [G, List.mem_cons, List.not_mem_nil, or_false] at hm
  have hmore := (Bool.and_eq_true_iff.mp c.more).1
  simp only [Bool.and_eq_true] at hmore
  rcases hm with rfl | rfl | rfl
  · exact ⟨_, _, _, rfl, He.glo_ok KX ns (c.d.fact 65 (f := .glo "WHICH") rfl), fun H => He.tupB_ok hmore.1.1 H, fun F ρ => ⟨_, _, rfl, rfl, ⟨_, _, rfl, rfl, ⟨_, _, rfl, rfl, rfl⟩⟩⟩⟩
  · exact ⟨_, _, _, rfl, He.glo_ok KX ns (c.d.fact 66 (f := .glo "ENDS") rfl), fun H => He.tupB_ok hmore.1.2 H, fun F ρ => ⟨_, _, rfl, rfl, ⟨_, _, rfl, rfl, rfl⟩⟩⟩
  · exact ⟨_, _, _, rfl, He.glo_ok KX ns (c.d.fact 67 (f := .glo "GOALS") rfl), fun H => He.tupB_ok hmore.2 H, fun F ρ => ⟨_, _, rfl, rfl, ⟨_, _, rfl, rfl, rfl⟩⟩⟩
theorem x_GameError : ExcOk P G pgm K mg ("GameError" : PySem.Str) := by
  have hx := (Bool.and_eq_true_iff.mp c.more).2
  simp only [moreX, Bool.and_eq_true] at hx
  have hk := hx.1.1.1
  obtain ⟨h1, h2, h3, h4, h5, h6, h7, h8⟩ := xB_ok hk
  refine ⟨He.glo_ok KX ns (c.d.fact 58 (f := .glo "GameError") rfl), h1, h2, h3, ⟨[("GameError" : PySem.Str)], by kernel_rfl, fun c2 hc => ?_⟩, h5, h6, by decide +kernel, h7, ⟨⟨true, 0, [], []⟩, by kernel_rfl, .inl ⟨rfl, (He.exc_ok (c.d.fact 61 (f := .exc "GameError") rfl)).1⟩⟩⟩
  have hm := List.contains_iff_mem.mp hc
  simp only [G, List.mem_cons, List.not_mem_nil, or_false] at hm
  rcases hm with rfl | rfl | rfl
  · exact (h4 (("GameError" : PySem.Str), true) (by simp)).trans (by kernel_rfl)
  · exact (h4 (("BadShared" : PySem.Str), false) (by simp)).trans (by kernel_rfl)
  · exact (h4 (("BadWay" : PySem.Str), false) (by simp)).trans (by kernel_rfl)
theorem x_BadShared : ExcOk P G pgm K mg ("BadShared" : PySem.Str) := by
  have hx := (Bool.and_eq_true_iff.mp c.more).2
  simp only [moreX, Bool.and_eq_true] at hx
  have hk := hx.1.1.2
  obtain ⟨h1, h2, h3, h4, h5, h6, h7, h8⟩ := xB_ok hk
  have hok := hx.2
  obtain ⟨fd, D, ep, es, iC, tI, dv⟩ := initF_of (prog := pgm) (d := id_BadShared) (ps := [("self" : PySem.Str), ("number" : PySem.Str)]) (c.inW 0) hok hk (by kernel_rfl)
  have Fk : ∀ (w : World) (base : Heap) (k : Nat), FnOk pgm w K mg base L2.CX0 k (iA K ("BadShared" : PySem.Str)) fd [("self" : PySem.Str), ("number" : PySem.Str)] (spX (He.ga K ("BadShared" : PySem.Str)) 2 [(("number" : PySem.Str), 1)]) := fun w base k =>
    init_of (N := [("self" : PySem.Str), ("number" : PySem.Str), ("__class__" : PySem.Str)]) D es ep (by decide +kernel) (by kernel_rfl) (He.free_ok KX ns (c.d.fact 54 (f := .free "super") rfl)) (by kernel_rfl) rfl (by kernel_rfl) (by decide) (fun p hp => h8 p.1 (by simp at hp ⊢; rcases hp with rfl <;> simp)) (by decide) (by decide)
  have hB : ∃ dU : List Value, Vals [.non] dU ∧ ∀ j, Binds K fd [("self" : PySem.Str), ("number" : PySem.Str)] (dU.drop j) := by
    obtain ⟨n1, n2, n3, n4, n5, n6, n7, n8, n9, n10, n11, n12, n13, n14, n15⟩ := fd
    have ep : n3 = id_BadShared.params := ep
    subst ep
    refine binds_dfl (n := 1) dv (by intro z; cases z) rfl fun T eT us its j hj hu hi => ?_
    have eT : n8 = .ref T := eT
    subst eT
    exact match j, us, its, hu, hi, hj with
      | 0, [_], [_], _, _, _ => .inl ⟨_, rfl, rfl⟩
      | 1, [_, _], [_], _, _, _ => .inl ⟨_, rfl, rfl⟩
  obtain ⟨dU, hU, hB⟩ := hB
  refine ⟨He.glo_ok KX ns (c.d.fact 59 (f := .glo "BadShared") rfl), h1, h2, h3, ⟨[("BadShared" : PySem.Str), ("GameError" : PySem.Str)], by kernel_rfl, fun c2 hc => ?_⟩, h5, h6, by decide +kernel, h7, ⟨⟨false, 1, [.non], [(("number" : PySem.Str), 0)]⟩, by kernel_rfl, .inr ⟨rfl, ⟨D.T, by decide, by decide, by decide, iA K ("BadShared" : PySem.Str), fd, [("self" : PySem.Str), ("number" : PySem.Str)], [.non], dU, Fk, iC, tI, rfl, hU, fun F ρ => ⟨_, _, rfl, rfl, rfl⟩, hB⟩, fun p hp => h8 p.1 (by simp at hp ⊢; rcases hp with rfl <;> simp)⟩⟩⟩
  have hm := List.contains_iff_mem.mp hc
  simp only [G, List.mem_cons, List.not_mem_nil, or_false] at hm
  rcases hm with rfl | rfl | rfl
  · exact (h4 (("GameError" : PySem.Str), true) (by simp)).trans (by kernel_rfl)
  · exact (h4 (("BadShared" : PySem.Str), true) (by simp)).trans (by kernel_rfl)
  · exact (h4 (("BadWay" : PySem.Str), false) (by simp)).trans (by kernel_rfl)
theorem x_BadWay : ExcOk P G pgm K mg ("BadWay" : PySem.Str) := by
  have hx := (Bool.and_eq_true_iff.mp c.more).2
  simp only [moreX, Bool.and_eq_true] at hx
  have hk := hx.1.2
  obtain ⟨h1, h2, h3, h4, h5, h6, h7, h8⟩ := xB_ok hk
  refine ⟨He.glo_ok KX ns (c.d.fact 60 (f := .glo "BadWay") rfl), h1, h2, h3, ⟨[("BadWay" : PySem.Str), ("GameError" : PySem.Str)], by kernel_rfl, fun c2 hc => ?_⟩, h5, h6, by decide +kernel, h7, ⟨⟨true, 0, [], []⟩, by kernel_rfl, .inl ⟨rfl, (He.exc_ok (c.d.fact 62 (f := .exc "BadWay") rfl)).1⟩⟩⟩
  have hm := List.contains_iff_mem.mp hc
  simp only [G, List.mem_cons, List.not_mem_nil, or_false] at hm
  rcases hm with rfl | rfl | rfl
  · exact (h4 (("GameError" : PySem.Str), true) (by simp)).trans (by kernel_rfl)
  · exact (h4 (("BadShared" : PySem.Str), false) (by simp)).trans (by kernel_rfl)
  · exact (h4 (("BadWay" : PySem.Str), true) (by simp)).trans (by kernel_rfl)
theorem excs_all : ∀ c', G.excs.contains c' = true → ExcOk P G pgm K mg c' := by
  intro c' hx
  have hm := List.contains_iff_mem.mp hx
  simp only [G, List.mem_cons, List.not_mem_nil, or_false] at hm
  rcases hm with rfl | rfl | rfl
  · exact x_GameError KX ns c
  · exact x_BadShared KX ns c
  · exact x_BadWay KX ns c
end
theorem subs_all : ∀ c l, P.sub.lookup c = some l → G.excs.contains c = true := by
  intro c l h
  have hm := PySem.mem_of_lookup h
  simp only [P, List.mem_cons, List.not_mem_nil, or_false, Prod.mk.injEq] at hm
  rcases hm with ⟨rfl, _⟩ | ⟨rfl, _⟩ | ⟨rfl, _⟩ <;> kernel_rfl
end K84

set_option autoImplicit false
set_option linter.all false
set_option maxRecDepth 100000
/-! Reasoning about `run` in plain Lean: what a piece does and what holds behind it. -/
namespace Px
open PySem (Str)

inductive Tag {σ : Sort _} (x : σ) : Type where
  | mk
/-- it ends, and Q holds behind it, or E where an exception leaves -/
def OkD {α : Type} (r : Res α) (Q : α → Hh → Prop) (E : Exn → Hh → Prop) : Prop := match r with
  | .ok a h => Q a h
  | .exc e h => E e h
  | .stuck => False
/-- .. shut up (nothing evaluates it); the tag keeps simp out of Q and E -/
structure Ok {α : Type} (r : Res α) (Q : α → Hh → Prop) (E : Exn → Hh → Prop := fun _ _ => False) (t : Tag (Q, E) := .mk) : Prop where
  out : OkD r Q E
section
variable {α β : Type} {E : Exn → Hh → Prop}
@[simp] theorem Ok_ok (a : α) (h : Hh) (Q : α → Hh → Prop) (E : Exn → Hh → Prop) (t : Tag (Q, E)) : Ok (.ok a h) Q E t = Q a h := propext ⟨fun o => o.out, fun q => ⟨q⟩⟩
@[simp] theorem Ok_exc (e : Exn) (h : Hh) (Q : α → Hh → Prop) (E : Exn → Hh → Prop) (t : Tag (Q, E)) : Ok (.exc e h) Q E t = E e h := propext ⟨fun o => o.out, fun q => ⟨q⟩⟩
theorem Ok_stuck (Q : α → Hh → Prop) (E : Exn → Hh → Prop) (t : Tag (Q, E)) : Ok .stuck Q E t = False := propext ⟨fun o => o.out, fun q => ⟨q⟩⟩
@[simp ↓] theorem Ok_bind (r : Res α) (f : α → M β) (Q : β → Hh → Prop) (E : Exn → Hh → Prop) (t : Tag (Q, E)) : Ok (r.bind f) Q E t = Ok r (fun a h => Ok (f a h) Q E t) E := by
  cases r with
  | ok a h => rw [Ok_ok, bind_ok]
  | exc e h => rw [Ok_exc, bind_exc, Ok_exc]
  | stuck => rw [Ok_stuck, bind_stuck, Ok_stuck]
@[simp ↓] theorem Ok_bindM (m : M α) (f : α → M β) (h : Hh) (Q : β → Hh → Prop) (E : Exn → Hh → Prop) (t : Tag (Q, E)) : Ok (bind m f h) Q E t = Ok (m h) (fun a h => Ok (f a h) Q E t) E := by
  show Ok ((m h).bind f) Q E t = _
  rw [Ok_bind]
@[simp ↓] theorem Ok_ret (a : α) (h : Hh) (Q : α → Hh → Prop) (E : Exn → Hh → Prop) (t : Tag (Q, E)) : Ok (ret a h) Q E t = Q a h := Ok_ok a h Q E t
@[simp ↓] theorem Ok_opt_some (a : α) (h : Hh) (Q : α → Hh → Prop) (E : Exn → Hh → Prop) (t : Tag (Q, E)) : Ok (opt (some a) h) Q E t = Q a h := Ok_ok a h Q E t
@[simp ↓] theorem Ok_iteM (p : Prop) [Decidable p] (m m' : M α) (h : Hh) (Q : α → Hh → Prop) (E : Exn → Hh → Prop) (t : Tag (Q, E)) : Ok ((if p then m else m') h) Q E t = if p then Ok (m h) Q E t else Ok (m' h) Q E t := by split <;> rfl
@[simp ↓] theorem Ok_fail (h : Hh) (Q : α → Hh → Prop) (E : Exn → Hh → Prop) (t : Tag (Q, E)) : Ok ((fail : M α) h) Q E t = False := Ok_stuck Q E t
theorem Ok.imp {r : Res α} {Q Q' : α → Hh → Prop} {t : Tag (Q, E)} {t' : Tag (Q', E)} (o : Ok r Q E t) (k : ∀ a h, Q a h → Q' a h) : Ok r Q' E t' := by
  have o := o.out
  cases r with
  | ok a h => exact ⟨k a h o⟩
  | _ => exact ⟨o⟩
/-- what is known never to raise -/
theorem Ok.imp0 {r : Res α} {Q Q' : α → Hh → Prop} {t' : Tag (Q', E)} (o : Ok r Q) (k : ∀ a h, Q a h → Q' a h) : Ok r Q' E t' := by
  have o := o.out
  cases r with
  | ok a h => exact ⟨k a h o⟩
  | _ => exact o.elim
theorem Ok.eq {r : Res α} {v : α} {h : Hh} (o : Ok r fun a h' => a = v ∧ h' = h) : r = .ok v h := by
  have o := o.out
  cases r with
  | ok a h' => obtain ⟨rfl, rfl⟩ := o; rfl
  | _ => exact o.elim
theorem Ok.exc {r : Res α} {e : Exn} {h : Hh} (o : Ok r (fun _ _ => False) fun x h' => x = e ∧ h' = h) : r = .exc e h := by
  have o := o.out
  cases r with
  | exc a h' => obtain ⟨rfl, rfl⟩ := o; rfl
  | _ => exact o.elim
theorem Ok.of_eq {r : Res α} {v : α} {h : Hh} {Q : α → Hh → Prop} {t : Tag (Q, E)} (e : r = .ok v h) (q : Q v h) : Ok r Q E t := by rw [e, Ok_ok]; exact q
theorem Ok.ex {r : Res α} {Q : α → Hh → Prop} (o : Ok r Q) : ∃ a h, r = .ok a h ∧ Q a h := by
  have o := o.out
  cases r with
  | ok a h => exact ⟨a, h, rfl, o⟩
  | _ => exact o.elim
end

/-! ### slots -/
theorem getVar_zero (d : D) (r : Env) : getVar (some d :: r) 0 = ret d := rfl
@[simp] theorem getVar_zero_ok (d : D) (r : Env) (h : Hh) (Q : _ → Hh → Prop) (E : Exn → Hh → Prop) (tq : Tag (Q, E)) : Ok (getVar (some d :: r) 0 h) Q E tq = Ok ((ret d) h) Q E tq := by rw [getVar_zero]
theorem getVar_succ (x : Option D) (r : Env) (i : Nat) : getVar (x :: r) (i + 1) = getVar r i := by
  unfold getVar
  rw [List.getElem?_cons_succ]
@[simp] theorem getVar_succ_ok (x : Option D) (r : Env) (i : Nat) (h : Hh) (Q : _ → Hh → Prop) (E : Exn → Hh → Prop) (tq : Tag (Q, E)) : Ok (getVar (x :: r) (i + 1) h) Q E tq = Ok ((getVar r i) h) Q E tq := by rw [getVar_succ]
@[simp] theorem wipeE_nil (env : Env) : wipeE env [] = env := Eq.trans rfl rfl
@[simp] theorem wipeE_cons (env : Env) (v : Nat) (vs : List Nat) : wipeE env (v :: vs) = (wipeE env vs).set v none := Eq.trans rfl rfl
theorem bindTg_name (i : Nat) (d : D) (env : Env) : bindTg (.name i) d env = ret (env.set i (some d)) := by simp only [bindTg]
@[simp ↓] theorem bindTg_name_ok (i : Nat) (d : D) (env : Env) (h : Hh) (Q : _ → Hh → Prop) (E : Exn → Hh → Prop) (tq : Tag (Q, E)) : Ok (bindTg (.name i) d env h) Q E tq = Ok ((ret (env.set i (some d))) h) Q E tq := by rw [bindTg_name]
theorem bindTg_tup (ts : List Tg) (d : D) (env : Env) : bindTg (.tup ts) d env = bind (seqOf d) fun xs => bindTgs ts xs env := by simp only [bindTg]
@[simp ↓] theorem bindTg_tup_ok (ts : List Tg) (d : D) (env : Env) (h : Hh) (Q : _ → Hh → Prop) (E : Exn → Hh → Prop) (tq : Tag (Q, E)) : Ok (bindTg (.tup ts) d env h) Q E tq = Ok ((bind (seqOf d) fun xs => bindTgs ts xs env) h) Q E tq := by rw [bindTg_tup]
theorem bindTgs_nil (env : Env) : bindTgs [] [] env = ret env := by simp only [bindTgs]
@[simp] theorem bindTgs_nil_ok (env : Env) (h : Hh) (Q : _ → Hh → Prop) (E : Exn → Hh → Prop) (tq : Tag (Q, E)) : Ok (bindTgs [] [] env h) Q E tq = Ok ((ret env) h) Q E tq := by rw [bindTgs_nil]
theorem bindTgs_cons (t : Tg) (ts : List Tg) (d : D) (ds : List D) (env : Env) : bindTgs (t :: ts) (d :: ds) env = bind (bindTg t d env) fun env' => bindTgs ts ds env' := by simp only [bindTgs]
@[simp] theorem bindTgs_cons_ok (t : Tg) (ts : List Tg) (d : D) (ds : List D) (env : Env) (h : Hh) (Q : _ → Hh → Prop) (E : Exn → Hh → Prop) (tq : Tag (Q, E)) : Ok (bindTgs (t :: ts) (d :: ds) env h) Q E tq = Ok ((bind (bindTg t d env) fun env' => bindTgs ts ds env') h) Q E tq := by rw [bindTgs_cons]
theorem setAll_nil (env : Env) : setAll [] [] env = ret env := rfl
@[simp] theorem setAll_nil_ok (env : Env) (h : Hh) (Q : _ → Hh → Prop) (E : Exn → Hh → Prop) (tq : Tag (Q, E)) : Ok (setAll [] [] env h) Q E tq = Ok ((ret env) h) Q E tq := by rw [setAll_nil]
theorem setAll_cons (i : Nat) (is : List Nat) (d : D) (ds : List D) (env : Env) : setAll (i :: is) (d :: ds) env = setAll is ds (env.set i (some d)) := rfl

@[simp] theorem setAll_cons_ok (i : Nat) (is : List Nat) (d : D) (ds : List D) (env : Env) (h : Hh) (Q : _ → Hh → Prop) (E : Exn → Hh → Prop) (tq : Tag (Q, E)) : Ok (setAll (i :: is) (d :: ds) env h) Q E tq = Ok ((setAll is ds (env.set i (some d))) h) Q E tq := by rw [setAll_cons]
/-! ### expressions -/
section
variable (c : Cxt) (base : Nat) (env : Env)
theorem evE_lit (d : D) : evE c base env (.lit d) = ret d := by simp only [evE]
@[simp ↓] theorem evE_lit_ok (d : D) (h : Hh) (Q : _ → Hh → Prop) (E : Exn → Hh → Prop) (tq : Tag (Q, E)) : Ok (evE c base env (.lit d) h) Q E tq = Ok ((ret d) h) Q E tq := by rw [evE_lit]
theorem evE_var (i : Nat) : evE c base env (.var i) = getVar env i := by simp only [evE]
@[simp ↓] theorem evE_var_ok (i : Nat) (h : Hh) (Q : _ → Hh → Prop) (E : Exn → Hh → Prop) (tq : Tag (Q, E)) : Ok (evE c base env (.var i) h) Q E tq = Ok ((getVar env i) h) Q E tq := by rw [evE_var]
theorem evE_glob (x : Str) : evE c base env (.glob x) = opt (c.consts.lookup x) := by simp only [evE]
@[simp ↓] theorem evE_glob_ok (x : Str) (h : Hh) (Q : _ → Hh → Prop) (E : Exn → Hh → Prop) (tq : Tag (Q, E)) : Ok (evE c base env (.glob x) h) Q E tq = Ok ((opt (c.consts.lookup x)) h) Q E tq := by rw [evE_glob]
theorem evE_bin (op : Bop) (a b : Ex) : evE c base env (.bin op a b) = bind (evE c base env a) fun x => bind (evE c base env b) fun y => binop op x y := by simp only [evE]
@[simp ↓] theorem evE_bin_ok (op : Bop) (a b : Ex) (h : Hh) (Q : _ → Hh → Prop) (E : Exn → Hh → Prop) (tq : Tag (Q, E)) : Ok (evE c base env (.bin op a b) h) Q E tq = Ok ((bind (evE c base env a) fun x => bind (evE c base env b) fun y => binop op x y) h) Q E tq := by rw [evE_bin]
theorem evE_neg (a : Ex) : evE c base env (.neg a) = bind (evE c base env a) fun x => match x with
    | .int i => ret (.int (-i))
    | _ => fail := by simp only [evE] <;> rfl
@[simp ↓] theorem evE_neg_ok (a : Ex) (h : Hh) (Q : _ → Hh → Prop) (E : Exn → Hh → Prop) (tq : Tag (Q, E)) : Ok (evE c base env (.neg a) h) Q E tq = Ok ((bind (evE c base env a) fun x => match x with
    | .int i => ret (.int (-i))
    | _ => fail) h) Q E tq := by rw [evE_neg]
theorem evE_not (a : Ex) : evE c base env (.not a) = bind (evE c base env a) fun x => bind (truthy x) fun b => ret (.bl (!b)) := by simp only [evE]
@[simp ↓] theorem evE_not_ok (a : Ex) (h : Hh) (Q : _ → Hh → Prop) (E : Exn → Hh → Prop) (tq : Tag (Q, E)) : Ok (evE c base env (.not a) h) Q E tq = Ok ((bind (evE c base env a) fun x => bind (truthy x) fun b => ret (.bl (!b))) h) Q E tq := by rw [evE_not]
theorem evE_and (a b : Ex) : evE c base env (.and a b) = bind (evE c base env a) fun x => bind (truthy x) fun t => if t then evE c base env b else ret x := by simp only [evE]
@[simp ↓] theorem evE_and_ok (a b : Ex) (h : Hh) (Q : _ → Hh → Prop) (E : Exn → Hh → Prop) (tq : Tag (Q, E)) : Ok (evE c base env (.and a b) h) Q E tq = Ok ((bind (evE c base env a) fun x => bind (truthy x) fun t => if t then evE c base env b else ret x) h) Q E tq := by rw [evE_and]
theorem evE_or (a b : Ex) : evE c base env (.or a b) = bind (evE c base env a) fun x => bind (truthy x) fun t => if t then ret x else evE c base env b := by simp only [evE]
@[simp ↓] theorem evE_or_ok (a b : Ex) (h : Hh) (Q : _ → Hh → Prop) (E : Exn → Hh → Prop) (tq : Tag (Q, E)) : Ok (evE c base env (.or a b) h) Q E tq = Ok ((bind (evE c base env a) fun x => bind (truthy x) fun t => if t then ret x else evE c base env b) h) Q E tq := by rw [evE_or]
theorem evE_cmp (op : Cop) (a b : Ex) : evE c base env (.cmp op a b) = bind (evE c base env a) fun x => bind (evE c base env b) fun y => bind (cmpop op x y) fun r => ret (.bl r) := by simp only [evE]
@[simp ↓] theorem evE_cmp_ok (op : Cop) (a b : Ex) (h : Hh) (Q : _ → Hh → Prop) (E : Exn → Hh → Prop) (tq : Tag (Q, E)) : Ok (evE c base env (.cmp op a b) h) Q E tq = Ok ((bind (evE c base env a) fun x => bind (evE c base env b) fun y => bind (cmpop op x y) fun r => ret (.bl r)) h) Q E tq := by rw [evE_cmp]
theorem evE_chain (o1 o2 : Cop) (a b d : Ex) : evE c base env (.chain o1 o2 a b d) = bind (evE c base env a) fun x => bind (evE c base env b) fun y => bind (cmpop o1 x y) fun r =>
      if r then bind (evE c base env d) fun z => bind (cmpop o2 y z) fun r2 => ret (.bl r2) else ret (.bl false) := by simp only [evE]
@[simp ↓] theorem evE_chain_ok (o1 o2 : Cop) (a b d : Ex) (h : Hh) (Q : _ → Hh → Prop) (E : Exn → Hh → Prop) (tq : Tag (Q, E)) : Ok (evE c base env (.chain o1 o2 a b d) h) Q E tq = Ok ((bind (evE c base env a) fun x => bind (evE c base env b) fun y => bind (cmpop o1 x y) fun r =>
      if r then bind (evE c base env d) fun z => bind (cmpop o2 y z) fun r2 => ret (.bl r2) else ret (.bl false)) h) Q E tq := by rw [evE_chain]
theorem evE_ite (t a b : Ex) : evE c base env (.ite t a b) = bind (evE c base env t) fun x => bind (truthy x) fun r => if r then evE c base env a else evE c base env b := by simp only [evE]
@[simp ↓] theorem evE_ite_ok (t a b : Ex) (h : Hh) (Q : _ → Hh → Prop) (E : Exn → Hh → Prop) (tq : Tag (Q, E)) : Ok (evE c base env (.ite t a b) h) Q E tq = Ok ((bind (evE c base env t) fun x => bind (truthy x) fun r => if r then evE c base env a else evE c base env b) h) Q E tq := by rw [evE_ite]
theorem evE_tup (es : List Ex) : evE c base env (.tup es) = bind (evEs c base env es) fun xs => bind (short xs) fun xs => ret (.tup xs) := by simp only [evE]
@[simp ↓] theorem evE_tup_ok (es : List Ex) (h : Hh) (Q : _ → Hh → Prop) (E : Exn → Hh → Prop) (tq : Tag (Q, E)) : Ok (evE c base env (.tup es) h) Q E tq = Ok ((bind (evEs c base env es) fun xs => bind (short xs) fun xs => ret (.tup xs)) h) Q E tq := by rw [evE_tup]
theorem evE_new (m : Bool) (al : Al) : evE c base env (.new m al) = bind (evAl c base env al) fun ct => if m then alloc ct else content ct := by simp only [evE]
@[simp ↓] theorem evE_new_ok (m : Bool) (al : Al) (h : Hh) (Q : _ → Hh → Prop) (E : Exn → Hh → Prop) (tq : Tag (Q, E)) : Ok (evE c base env (.new m al) h) Q E tq = Ok ((bind (evAl c base env al) fun ct => if m then alloc ct else content ct) h) Q E tq := by rw [evE_new]
theorem evE_idx (a b : Ex) : evE c base env (.idx a b) = bind (evE c base env a) fun x => bind (evE c base env b) fun y => idxop x y := by simp only [evE]
@[simp ↓] theorem evE_idx_ok (a b : Ex) (h : Hh) (Q : _ → Hh → Prop) (E : Exn → Hh → Prop) (tq : Tag (Q, E)) : Ok (evE c base env (.idx a b) h) Q E tq = Ok ((bind (evE c base env a) fun x => bind (evE c base env b) fun y => idxop x y) h) Q E tq := by rw [evE_idx]
theorem evE_slice (a : Ex) (lo hi : Option Ex) : evE c base env (.slice a lo hi) = bind (evE c base env a) fun x => bind (evO c base env lo) fun l => bind (evO c base env hi) fun h => sliceop x l h := by simp only [evE]
@[simp ↓] theorem evE_slice_ok (a : Ex) (lo hi : Option Ex) (h : Hh) (Q : _ → Hh → Prop) (E : Exn → Hh → Prop) (tq : Tag (Q, E)) : Ok (evE c base env (.slice a lo hi) h) Q E tq = Ok ((bind (evE c base env a) fun x => bind (evO c base env lo) fun l => bind (evO c base env hi) fun h => sliceop x l h) h) Q E tq := by rw [evE_slice]
theorem evE_isinst (a : Ex) (ts : List Ty) : evE c base env (.isinst a ts) = bind (evE c base env a) fun x => bind (isTys x ts) fun b => ret (.bl b) := by simp only [evE]
@[simp ↓] theorem evE_isinst_ok (a : Ex) (ts : List Ty) (h : Hh) (Q : _ → Hh → Prop) (E : Exn → Hh → Prop) (tq : Tag (Q, E)) : Ok (evE c base env (.isinst a ts) h) Q E tq = Ok ((bind (evE c base env a) fun x => bind (isTys x ts) fun b => ret (.bl b)) h) Q E tq := by rw [evE_isinst]
theorem evE_prim (p : Prim) (es : List Ex) : evE c base env (.prim p es) = bind (evEs c base env es) fun xs => primop p xs := by simp only [evE]
@[simp ↓] theorem evE_prim_ok (p : Prim) (es : List Ex) (h : Hh) (Q : _ → Hh → Prop) (E : Exn → Hh → Prop) (tq : Tag (Q, E)) : Ok (evE c base env (.prim p es) h) Q E tq = Ok ((bind (evEs c base env es) fun xs => primop p xs) h) Q E tq := by rw [evE_prim]
theorem evE_call (f : Fid) (es : List Ex) : evE c base env (.call f es) = bind (evEs c base env es) fun xs => c.call f base xs := by simp only [evE]
@[simp ↓] theorem evE_call_ok (f : Fid) (es : List Ex) (h : Hh) (Q : _ → Hh → Prop) (E : Exn → Hh → Prop) (tq : Tag (Q, E)) : Ok (evE c base env (.call f es) h) Q E tq = Ok ((bind (evEs c base env es) fun xs => c.call f base xs) h) Q E tq := by rw [evE_call]
theorem evE_lmeth (m : Lm) (a : Ex) (es : List Ex) : evE c base env (.lmeth m a es) = bind (evE c base env a) fun x => bind (lstOf x) fun _ => bind (evEs c base env es) fun xs => lmop base m x xs := by simp only [evE]
@[simp ↓] theorem evE_lmeth_ok (m : Lm) (a : Ex) (es : List Ex) (h : Hh) (Q : _ → Hh → Prop) (E : Exn → Hh → Prop) (tq : Tag (Q, E)) : Ok (evE c base env (.lmeth m a es) h) Q E tq = Ok ((bind (evE c base env a) fun x => bind (lstOf x) fun _ => bind (evEs c base env es) fun xs => lmop base m x xs) h) Q E tq := by rw [evE_lmeth]
theorem evE_attr (a : Ex) (f : Str) : evE c base env (.attr a f) = bind (evE c base env a) fun x => attrop x f := by simp only [evE]
@[simp ↓] theorem evE_attr_ok (a : Ex) (f : Str) (h : Hh) (Q : _ → Hh → Prop) (E : Exn → Hh → Prop) (tq : Tag (Q, E)) : Ok (evE c base env (.attr a f) h) Q E tq = Ok ((bind (evE c base env a) fun x => attrop x f) h) Q E tq := by rw [evE_attr]
theorem evE_inGlob (neg : Bool) (a : Ex) (x : Str) : evE c base env (.inGlob neg a x) = bind (evE c base env a) fun v => match c.tcs.lookup x with
    | some ys => bind (inSeq v ys) fun r => ret (.bl (if neg then !r else r))
    | none => fail := by simp only [evE] <;> rfl
@[simp ↓] theorem evE_inGlob_ok (neg : Bool) (a : Ex) (x : Str) (h : Hh) (Q : _ → Hh → Prop) (E : Exn → Hh → Prop) (tq : Tag (Q, E)) : Ok (evE c base env (.inGlob neg a x) h) Q E tq = Ok ((bind (evE c base env a) fun v => match c.tcs.lookup x with
    | some ys => bind (inSeq v ys) fun r => ret (.bl (if neg then !r else r))
    | none => fail) h) Q E tq := by rw [evE_inGlob]
theorem evEs_nil : evEs c base env [] = ret [] := by simp only [evEs]
@[simp ↓] theorem evEs_nil_ok  (h : Hh) (Q : _ → Hh → Prop) (E : Exn → Hh → Prop) (tq : Tag (Q, E)) : Ok (evEs c base env [] h) Q E tq = Ok ((ret []) h) Q E tq := by rw [evEs_nil]
theorem evEs_cons (e : Ex) (es : List Ex) : evEs c base env (e :: es) = bind (evE c base env e) fun x => bind (evEs c base env es) fun xs => ret (x :: xs) := by simp only [evEs]
@[simp ↓] theorem evEs_cons_ok (e : Ex) (es : List Ex) (h : Hh) (Q : _ → Hh → Prop) (E : Exn → Hh → Prop) (tq : Tag (Q, E)) : Ok (evEs c base env (e :: es) h) Q E tq = Ok ((bind (evE c base env e) fun x => bind (evEs c base env es) fun xs => ret (x :: xs)) h) Q E tq := by rw [evEs_cons]
theorem evO_none : evO c base env none = ret none := by simp only [evO]
@[simp ↓] theorem evO_none_ok  (h : Hh) (Q : _ → Hh → Prop) (E : Exn → Hh → Prop) (tq : Tag (Q, E)) : Ok (evO c base env none h) Q E tq = Ok ((ret none) h) Q E tq := by rw [evO_none]
theorem evO_some (e : Ex) : evO c base env (some e) = bind (evE c base env e) fun x => bind (asInt x) fun i => ret (some i) := by simp only [evO]
@[simp ↓] theorem evO_some_ok (e : Ex) (h : Hh) (Q : _ → Hh → Prop) (E : Exn → Hh → Prop) (tq : Tag (Q, E)) : Ok (evO c base env (some e) h) Q E tq = Ok ((bind (evE c base env e) fun x => bind (asInt x) fun i => ret (some i)) h) Q E tq := by rw [evO_some]
theorem evIfs_nil : evIfs c base env [] = ret true := by simp only [evIfs]
@[simp ↓] theorem evIfs_nil_ok  (h : Hh) (Q : _ → Hh → Prop) (E : Exn → Hh → Prop) (tq : Tag (Q, E)) : Ok (evIfs c base env [] h) Q E tq = Ok ((ret true) h) Q E tq := by rw [evIfs_nil]
theorem evIfs_cons (e : Ex) (es : List Ex) : evIfs c base env (e :: es) = bind (evE c base env e) fun x => bind (truthy x) fun b => if b then evIfs c base env es else ret false := by simp only [evIfs]
@[simp ↓] theorem evIfs_cons_ok (e : Ex) (es : List Ex) (h : Hh) (Q : _ → Hh → Prop) (E : Exn → Hh → Prop) (tq : Tag (Q, E)) : Ok (evIfs c base env (e :: es) h) Q E tq = Ok ((bind (evE c base env e) fun x => bind (truthy x) fun b => if b then evIfs c base env es else ret false) h) Q E tq := by rw [evIfs_cons]
theorem evAl_disp (es : List Ex) : evAl c base env (.disp es) = bind (evEs c base env es) fun xs => bind (short xs) fun xs => ret (.l xs) := by simp only [evAl]
@[simp ↓] theorem evAl_disp_ok (es : List Ex) (h : Hh) (Q : _ → Hh → Prop) (E : Exn → Hh → Prop) (tq : Tag (Q, E)) : Ok (evAl c base env (.disp es) h) Q E tq = Ok ((bind (evEs c base env es) fun xs => bind (short xs) fun xs => ret (.l xs)) h) Q E tq := by rw [evAl_disp]
theorem evIt_ex (e : Ex) : evIt c base env (.ex e) = bind (evE c base env e) fun x => walkOf x := by simp only [evIt]
@[simp ↓] theorem evIt_ex_ok (e : Ex) (h : Hh) (Q : _ → Hh → Prop) (E : Exn → Hh → Prop) (tq : Tag (Q, E)) : Ok (evIt c base env (.ex e) h) Q E tq = Ok ((bind (evE c base env e) fun x => walkOf x) h) Q E tq := by rw [evIt_ex]
theorem evIt_range1 (b : Ex) : evIt c base env (.range1 b) = bind (evE c base env b) fun y => bind (asInt y) fun j => rangeW 0 j := by simp only [evIt]
@[simp ↓] theorem evIt_range1_ok (b : Ex) (h : Hh) (Q : _ → Hh → Prop) (E : Exn → Hh → Prop) (tq : Tag (Q, E)) : Ok (evIt c base env (.range1 b) h) Q E tq = Ok ((bind (evE c base env b) fun y => bind (asInt y) fun j => rangeW 0 j) h) Q E tq := by rw [evIt_range1]
theorem evIt_range2 (a b : Ex) : evIt c base env (.range2 a b) = bind (evE c base env a) fun x => bind (evE c base env b) fun y => bind (asInt x) fun i => bind (asInt y) fun j => rangeW i j := by simp only [evIt]
@[simp ↓] theorem evIt_range2_ok (a b : Ex) (h : Hh) (Q : _ → Hh → Prop) (E : Exn → Hh → Prop) (tq : Tag (Q, E)) : Ok (evIt c base env (.range2 a b) h) Q E tq = Ok ((bind (evE c base env a) fun x => bind (evE c base env b) fun y => bind (asInt x) fun i => bind (asInt y) fun j => rangeW i j) h) Q E tq := by rw [evIt_range2]
theorem evIt_enum (e : Ex) : evIt c base env (.enum e) = bind (evE c base env e) fun x => bind (seqFz x) fun xs => ret (.items (enumD 0 xs)) := by simp only [evIt]
@[simp ↓] theorem evIt_enum_ok (e : Ex) (h : Hh) (Q : _ → Hh → Prop) (E : Exn → Hh → Prop) (tq : Tag (Q, E)) : Ok (evIt c base env (.enum e) h) Q E tq = Ok ((bind (evE c base env e) fun x => bind (seqFz x) fun xs => ret (.items (enumD 0 xs))) h) Q E tq := by rw [evIt_enum]
theorem evIt_zip (a b : Ex) : evIt c base env (.zip a b) = bind (evE c base env a) fun x => bind (evE c base env b) fun y => bind (seqFz x) fun xs => bind (seqFz y) fun ys => ret (.items (zipD xs ys)) := by simp only [evIt]
@[simp ↓] theorem evIt_zip_ok (a b : Ex) (h : Hh) (Q : _ → Hh → Prop) (E : Exn → Hh → Prop) (tq : Tag (Q, E)) : Ok (evIt c base env (.zip a b) h) Q E tq = Ok ((bind (evE c base env a) fun x => bind (evE c base env b) fun y => bind (seqFz x) fun xs => bind (seqFz y) fun ys => ret (.items (zipD xs ys))) h) Q E tq := by rw [evIt_zip]
/-- a block over items: a turn -/
def compI (vs : List Nat) (e : Ex) (tg : Tg) (ifs : List Ex) (x : D) : M (List D) := nox <| bind (bindTg tg x (wipeE env vs)) fun env' => bind (evIfs c base env' ifs) fun b => if b then bind (evE c base env' e) fun y => ret [y] else ret []
theorem evAl_comp (vs : List Nat) (e : Ex) (tg : Tg) (it : It) (ifs : List Ex) : evAl c base env (.comp vs e tg it ifs) = bind (evIt c base env it) fun w => bind (keysOf it w) fun w => bind (collect (compI c base env vs e tg ifs) w) fun xs => ret (.l xs) := by simp only [evAl] <;> rfl
@[simp ↓] theorem evAl_comp_ok (vs : List Nat) (e : Ex) (tg : Tg) (it : It) (ifs : List Ex) (h : Hh) (Q : _ → Hh → Prop) (E : Exn → Hh → Prop) (tq : Tag (Q, E)) : Ok (evAl c base env (.comp vs e tg it ifs) h) Q E tq = Ok ((bind (evIt c base env it) fun w => bind (keysOf it w) fun w => bind (collect (compI c base env vs e tg ifs) w) fun xs => ret (.l xs)) h) Q E tq := by rw [evAl_comp]
def dcompI (t : Kc) (vs : List Nat) (k v : Ex) (tg : Tg) (x : D) : M (List D) := nox <| bind (bindTg tg x (wipeE env vs)) fun env' => bind (evE c base env' k) fun a => bind (evE c base env' v) fun b => if keyOk t a then ret [.tup [a, b]] else fail
theorem evAl_dcomp (t : Kc) (vs : List Nat) (k v : Ex) (tg : Tg) (it : It) : evAl c base env (.dcomp t vs k v tg it) = bind (evIt c base env it) fun w => bind (noKeys w) fun w => bind (collect (dcompI c base env t vs k v tg) w) fun ps => match pairsOf ps with
        | some kvs => ret (.d t (putAll [] kvs))
        | none => fail := by simp only [evAl] <;> rfl
@[simp ↓] theorem evAl_dcomp_ok (t : Kc) (vs : List Nat) (k v : Ex) (tg : Tg) (it : It) (h : Hh) (Q : _ → Hh → Prop) (E : Exn → Hh → Prop) (tq : Tag (Q, E)) : Ok (evAl c base env (.dcomp t vs k v tg it) h) Q E tq = Ok ((bind (evIt c base env it) fun w => bind (noKeys w) fun w => bind (collect (dcompI c base env t vs k v tg) w) fun ps => match pairsOf ps with
        | some kvs => ret (.d t (putAll [] kvs))
        | none => fail) h) Q E tq := by rw [evAl_dcomp]
theorem evAl_dictOf (t : Kc) (e : Ex) : evAl c base env (.dictOf t e) = bind (evE c base env e) fun x => bind (lstOf x) fun xs => match pairsOf xs with
    | some kvs => if kvs.all fun p => keyOk t p.1 then ret (.d t (putAll [] kvs)) else fail
    | none => fail := by simp only [evAl] <;> rfl
@[simp ↓] theorem evAl_dictOf_ok (t : Kc) (e : Ex) (h : Hh) (Q : _ → Hh → Prop) (E : Exn → Hh → Prop) (tq : Tag (Q, E)) : Ok (evAl c base env (.dictOf t e) h) Q E tq = Ok ((bind (evE c base env e) fun x => bind (lstOf x) fun xs => match pairsOf xs with
    | some kvs => if kvs.all fun p => keyOk t p.1 then ret (.d t (putAll [] kvs)) else fail
    | none => fail) h) Q E tq := by rw [evAl_dictOf]
theorem evAl_listOf (it : It) : evAl c base env (.listOf it) = bind (evIt c base env it) fun w => match w with
    | .items xs => ret (.l xs)
    | .cell l _ => bind (cellAt l) fun c => match c with
      | .l xs => ret (.l xs)
      | _ => fail
    | .keys l => bind (cellAt l) fun c => match c with
      | .d _ kvs => ret (.l (kvs.map (·.1)))
      | _ => fail := by simp only [evAl] <;> rfl
@[simp ↓] theorem evAl_listOf_ok (it : It) (h : Hh) (Q : _ → Hh → Prop) (E : Exn → Hh → Prop) (tq : Tag (Q, E)) : Ok (evAl c base env (.listOf it) h) Q E tq = Ok ((bind (evIt c base env it) fun w => match w with
    | .items xs => ret (.l xs)
    | .cell l _ => bind (cellAt l) fun c => match c with
      | .l xs => ret (.l xs)
      | _ => fail
    | .keys l => bind (cellAt l) fun c => match c with
      | .d _ kvs => ret (.l (kvs.map (·.1)))
      | _ => fail) h) Q E tq := by rw [evAl_listOf]
theorem evAl_sorted (e : Ex) : evAl c base env (.sorted e) = bind (evE c base env e) fun x => bind (lstOf x) fun xs => match intsOf xs with
    | some ns => ret (.l ((isort ns).map .int))
    | none => if sortable xs then ret (.l (sortD xs)) else fail := by simp only [evAl] <;> rfl
@[simp ↓] theorem evAl_sorted_ok (e : Ex) (h : Hh) (Q : _ → Hh → Prop) (E : Exn → Hh → Prop) (tq : Tag (Q, E)) : Ok (evAl c base env (.sorted e) h) Q E tq = Ok ((bind (evE c base env e) fun x => bind (lstOf x) fun xs => match intsOf xs with
    | some ns => ret (.l ((isort ns).map .int))
    | none => if sortable xs then ret (.l (sortD xs)) else fail) h) Q E tq := by rw [evAl_sorted]
theorem evAl_sortedSet (e : Ex) : evAl c base env (.sortedSet e) = bind (evE c base env e) fun x => bind (seqOf x) fun xs => match intsOf xs with
    | some ns => if (dedupI ns).length < 64 ∧ ns.length < 4000 then ret (.l ((isort (dedupI ns)).map .int)) else fail
    | none => fail := by simp only [evAl] <;> rfl
@[simp ↓] theorem evAl_sortedSet_ok (e : Ex) (h : Hh) (Q : _ → Hh → Prop) (E : Exn → Hh → Prop) (tq : Tag (Q, E)) : Ok (evAl c base env (.sortedSet e) h) Q E tq = Ok ((bind (evE c base env e) fun x => bind (seqOf x) fun xs => match intsOf xs with
    | some ns => if (dedupI ns).length < 64 ∧ ns.length < 4000 then ret (.l ((isort (dedupI ns)).map .int)) else fail
    | none => fail) h) Q E tq := by rw [evAl_sortedSet]
theorem evAl_ddisp (t : Kc) (kvs : List Ex) : evAl c base env (.ddisp t kvs) = bind (evEs c base env kvs) fun xs => match pairUp xs with
    | some ps => if ps.all fun p => keyOk t p.1 then ret (.d t (putAll [] ps)) else fail
    | none => fail := by simp only [evAl] <;> rfl
@[simp ↓] theorem evAl_ddisp_ok (t : Kc) (kvs : List Ex) (h : Hh) (Q : _ → Hh → Prop) (E : Exn → Hh → Prop) (tq : Tag (Q, E)) : Ok (evAl c base env (.ddisp t kvs) h) Q E tq = Ok ((bind (evEs c base env kvs) fun xs => match pairUp xs with
    | some ps => if ps.all fun p => keyOk t p.1 then ret (.d t (putAll [] ps)) else fail
    | none => fail) h) Q E tq := by rw [evAl_ddisp]
end

/-! ### statements -/
section
variable (c : Cxt) (base : Nat) (env : Env)
theorem execs_nil : execs c base [] env = ret (.next, env) := by simp only [execs]
@[simp ↓] theorem execs_nil_ok  (h : Hh) (Q : _ → Hh → Prop) (E : Exn → Hh → Prop) (tq : Tag (Q, E)) : Ok (execs c base [] env h) Q E tq = Ok ((ret (.next, env)) h) Q E tq := by rw [execs_nil]
theorem execs_cons (s : Stm) (r : List Stm) : execs c base (s :: r) env = bind (exec c base s env) fun p => match p.1 with
    | .next => execs c base r p.2
    | _ => ret p := by simp only [execs] <;> rfl
@[simp ↓] theorem execs_cons_ok (s : Stm) (r : List Stm) (h : Hh) (Q : _ → Hh → Prop) (E : Exn → Hh → Prop) (tq : Tag (Q, E)) : Ok (execs c base (s :: r) env h) Q E tq = Ok ((bind (exec c base s env) fun p => match p.1 with
    | .next => execs c base r p.2
    | _ => ret p) h) Q E tq := by rw [execs_cons]
theorem exec_set (i : Nat) (e : Ex) : exec c base (.set i e) env = bind (evE c base env e) fun x => ret (.next, env.set i (some x)) := by simp only [exec]
@[simp ↓] theorem exec_set_ok (i : Nat) (e : Ex) (h : Hh) (Q : _ → Hh → Prop) (E : Exn → Hh → Prop) (tq : Tag (Q, E)) : Ok (exec c base (.set i e) env h) Q E tq = Ok ((bind (evE c base env e) fun x => ret (.next, env.set i (some x))) h) Q E tq := by rw [exec_set]
theorem exec_setT (tg : Tg) (e : Ex) : exec c base (.setT tg e) env = bind (evE c base env e) fun x => bind (bindTg tg x env) fun env' => ret (.next, env') := by simp only [exec]
@[simp ↓] theorem exec_setT_ok (tg : Tg) (e : Ex) (h : Hh) (Q : _ → Hh → Prop) (E : Exn → Hh → Prop) (tq : Tag (Q, E)) : Ok (exec c base (.setT tg e) env h) Q E tq = Ok ((bind (evE c base env e) fun x => bind (bindTg tg x env) fun env' => ret (.next, env')) h) Q E tq := by rw [exec_setT]
theorem exec_par (is : List Nat) (es : List Ex) : exec c base (.par is es) env = bind (evEs c base env es) fun xs => bind (setAll is xs env) fun env' => ret (.next, env') := by simp only [exec]
@[simp ↓] theorem exec_par_ok (is : List Nat) (es : List Ex) (h : Hh) (Q : _ → Hh → Prop) (E : Exn → Hh → Prop) (tq : Tag (Q, E)) : Ok (exec c base (.par is es) env h) Q E tq = Ok ((bind (evEs c base env es) fun xs => bind (setAll is xs env) fun env' => ret (.next, env')) h) Q E tq := by rw [exec_par]
theorem exec_aug (i : Nat) (op : Bop) (e : Ex) : exec c base (.aug i op e) env = bind (getVar env i) fun x => bind (evE c base env e) fun y => match op, x, y with
    | .add, .int a, .int b => ret (.next, env.set i (some (.int (a + b))))
    | .sub, .int a, .int b => ret (.next, env.set i (some (.int (a - b))))
    | _, _, _ => fail := by simp only [exec] <;> rfl
@[simp ↓] theorem exec_aug_ok (i : Nat) (op : Bop) (e : Ex) (h : Hh) (Q : _ → Hh → Prop) (E : Exn → Hh → Prop) (tq : Tag (Q, E)) : Ok (exec c base (.aug i op e) env h) Q E tq = Ok ((bind (getVar env i) fun x => bind (evE c base env e) fun y => match op, x, y with
    | .add, .int a, .int b => ret (.next, env.set i (some (.int (a + b))))
    | .sub, .int a, .int b => ret (.next, env.set i (some (.int (a - b))))
    | _, _, _ => fail) h) Q E tq := by rw [exec_aug]
theorem exec_setIdx (o i e : Ex) : exec c base (.setIdx o i e) env = bind (evE c base env e) fun v => bind (evE c base env o) fun x => bind (evE c base env i) fun y => bind (setop base x y v) fun _ => ret (.next, env) := by simp only [exec]
@[simp ↓] theorem exec_setIdx_ok (o i e : Ex) (h : Hh) (Q : _ → Hh → Prop) (E : Exn → Hh → Prop) (tq : Tag (Q, E)) : Ok (exec c base (.setIdx o i e) env h) Q E tq = Ok ((bind (evE c base env e) fun v => bind (evE c base env o) fun x => bind (evE c base env i) fun y => bind (setop base x y v) fun _ => ret (.next, env)) h) Q E tq := by rw [exec_setIdx]
theorem exec_expr (e : Ex) : exec c base (.expr e) env = bind (evE c base env e) fun _ => ret (.next, env) := by simp only [exec]
@[simp ↓] theorem exec_expr_ok (e : Ex) (h : Hh) (Q : _ → Hh → Prop) (E : Exn → Hh → Prop) (tq : Tag (Q, E)) : Ok (exec c base (.expr e) env h) Q E tq = Ok ((bind (evE c base env e) fun _ => ret (.next, env)) h) Q E tq := by rw [exec_expr]
theorem exec_ret (e : Ex) : exec c base (.ret e) env = bind (evE c base env e) fun x => ret (.ret x, env) := by simp only [exec]
@[simp ↓] theorem exec_ret_ok (e : Ex) (h : Hh) (Q : _ → Hh → Prop) (E : Exn → Hh → Prop) (tq : Tag (Q, E)) : Ok (exec c base (.ret e) env h) Q E tq = Ok ((bind (evE c base env e) fun x => ret (.ret x, env)) h) Q E tq := by rw [exec_ret]
theorem exec_retN : exec c base .retN env = ret (.ret .non, env) := by simp only [exec]
@[simp ↓] theorem exec_retN_ok  (h : Hh) (Q : _ → Hh → Prop) (E : Exn → Hh → Prop) (tq : Tag (Q, E)) : Ok (exec c base .retN env h) Q E tq = Ok ((ret (.ret .non, env)) h) Q E tq := by rw [exec_retN]
theorem exec_ife (t : Ex) (a b : List Stm) : exec c base (.ife t a b) env = bind (evE c base env t) fun x => bind (truthy x) fun r => if r then execs c base a env else execs c base b env := by simp only [exec]
@[simp ↓] theorem exec_ife_ok (t : Ex) (a b : List Stm) (h : Hh) (Q : _ → Hh → Prop) (E : Exn → Hh → Prop) (tq : Tag (Q, E)) : Ok (exec c base (.ife t a b) env h) Q E tq = Ok ((bind (evE c base env t) fun x => bind (truthy x) fun r => if r then execs c base a env else execs c base b env) h) Q E tq := by rw [exec_ife]
/-- a turn of a loop -/
def turn (tg : Tg) (body : List Stm) (x : D) (env : Env) : M (Flow × Env) := bind (bindTg tg x env) fun env' => execs c base body env'
theorem exec_forr (tg : Tg) (it : It) (body : List Stm) : exec c base (.forr tg it body) env = bind (evIt c base env it) fun w => forW (turn c base tg body) w env := by simp only [exec] <;> rfl
@[simp ↓] theorem exec_forr_ok (tg : Tg) (it : It) (body : List Stm) (h : Hh) (Q : _ → Hh → Prop) (E : Exn → Hh → Prop) (tq : Tag (Q, E)) : Ok (exec c base (.forr tg it body) env h) Q E tq = Ok ((bind (evIt c base env it) fun w => forW (turn c base tg body) w env) h) Q E tq := by rw [exec_forr]
theorem exec_whil (t : Ex) (body : List Stm) : exec c base (.whil t body) env = whileF (fun env => bind (evE c base env t) truthy) (fun env => execs c base body env) fuel env := by simp only [exec]
@[simp ↓] theorem exec_whil_ok (t : Ex) (body : List Stm) (h : Hh) (Q : _ → Hh → Prop) (E : Exn → Hh → Prop) (tq : Tag (Q, E)) : Ok (exec c base (.whil t body) env h) Q E tq = Ok ((whileF (fun env => bind (evE c base env t) truthy) (fun env => execs c base body env) fuel env) h) Q E tq := by rw [exec_whil]
theorem exec_brk : exec c base .brk env = ret (.brk, env) := by simp only [exec]
@[simp ↓] theorem exec_brk_ok  (h : Hh) (Q : _ → Hh → Prop) (E : Exn → Hh → Prop) (tq : Tag (Q, E)) : Ok (exec c base .brk env h) Q E tq = Ok ((ret (.brk, env)) h) Q E tq := by rw [exec_brk]
theorem exec_cont : exec c base .cont env = ret (.cont, env) := by simp only [exec]
@[simp ↓] theorem exec_cont_ok  (h : Hh) (Q : _ → Hh → Prop) (E : Exn → Hh → Prop) (tq : Tag (Q, E)) : Ok (exec c base .cont env h) Q E tq = Ok ((ret (.cont, env)) h) Q E tq := by rw [exec_cont]
theorem exec_pass : exec c base .pass env = ret (.next, env) := by simp only [exec]
@[simp ↓] theorem exec_pass_ok  (h : Hh) (Q : _ → Hh → Prop) (E : Exn → Hh → Prop) (tq : Tag (Q, E)) : Ok (exec c base .pass env h) Q E tq = Ok ((ret (.next, env)) h) Q E tq := by rw [exec_pass]
end
@[simp ↓] theorem exec_raise_ok (c : Cxt) (base : Nat) (env : Env) (cl : Str) (es : List Ex) (h : Hh) (Q : _ → Hh → Prop) (E : Exn → Hh → Prop) (tq : Tag (Q, E)) : Ok (exec c base (.raise cl es) env h) Q E tq = Ok (evEs c base env es h) (fun xs h => Ok (mkExn c cl xs h) (fun e h => E e h) E) E := by
  simp only [exec, bind_at, Ok_bind]
  cases evEs c base env es h with
  | ok a h =>
    rw [Ok_ok, Ok_ok, Ok_bind]
    cases mkExn c cl a h <;> simp only [Ok_ok, Ok_exc, Ok_stuck]
  | _ => simp only [Ok_exc, Ok_stuck]
@[simp ↓] theorem exec_tryy_ok (c : Cxt) (base : Nat) (env : Env) (e : Ex) (hs : Hs) (h : Hh) (Q : _ → Hh → Prop) (E : Exn → Hh → Prop) (tq : Tag (Q, E)) : Ok (exec c base (.tryy e hs) env h) Q E tq = Ok (evE c base env e h) (fun _ h' => Q (.next, env) h') (fun x h' => Ok (handle c base x hs env h') Q E) := by
  simp only [exec]
  cases evE c base env e h <;> simp only [Ok_ok, Ok_exc, Ok_stuck]
@[simp ↓] theorem handle_nil_ok (c : Cxt) (base : Nat) (x : Exn) (env : Env) (h : Hh) (Q : _ → Hh → Prop) (E : Exn → Hh → Prop) (tq : Tag (Q, E)) : Ok (handle c base x .nil env h) Q E tq = E x h := by
  simp only [handle, Ok_exc]
@[simp ↓] theorem handle_cons_ok (c : Cxt) (base : Nat) (x : Exn) (cl : Str) (i : Option Nat) (body : List Stm) (r : Hs) (env : Env) (h : Hh) (Q : _ → Hh → Prop) (E : Exn → Hh → Prop) (tq : Tag (Q, E)) : Ok (handle c base x (.cons cl i body r) env h) Q E tq = if (c.sub.lookup x.cls).isSome then (if caught c x.cls cl then Ok (execs c base body (match i with
      | some k => env.set k (some (.exn x.cls x.fs))
      | none => env) h) Q E else Ok (handle c base x r env h) Q E) else False := by
  simp only [handle]
  split
  · split <;> rfl
  · exact Ok_stuck ..
@[simp ↓] theorem evE_isown_ok (c : Cxt) (base : Nat) (env : Env) (a : Ex) (cl : Str) (h : Hh) (Q : _ → Hh → Prop) (E : Exn → Hh → Prop) (tq : Tag (Q, E)) : Ok (evE c base env (.isown a cl) h) Q E tq = Ok (evE c base env a h) (fun x h => Ok ((match x with
    | .exn e _ => bind (opt (c.sub.lookup e)) fun l => ret (.bl (l.contains cl))
    | _ => fail : M D) h) Q E) E := by
  first
    | (simp only [evE, bind_at, Ok_bind]; done)
    | (simp only [evE, bind_at, Ok_bind]
       cases evE c base env a h with
       | ok x h => cases x <;> simp only [Ok_ok]
       | _ => simp only [Ok_exc, Ok_stuck])
@[simp] theorem attrop_exn_ok (cl : Str) (fs : List (Str × D)) (f : Str) (h : Hh) (Q : _ → Hh → Prop) (E : Exn → Hh → Prop) (tq : Tag (Q, E)) : Ok (attrop (.exn cl fs) f h) Q E tq = Ok (opt (fs.lookup f) h) Q E := Eq.trans rfl rfl
@[simp] theorem forW_items (f : D → Env → M (Flow × Env)) (xs : List D) (env : Env) : forW f (.items xs) env = forI f xs env := Eq.trans rfl rfl
@[simp] theorem collect_items (f : D → M (List D)) (xs : List D) : collect f (.items xs) = collectI f xs := Eq.trans rfl rfl

/-! ### operators -/
theorem truthy_non : truthy .non = ret false := rfl
@[simp] theorem truthy_non_ok  (h : Hh) (Q : _ → Hh → Prop) (E : Exn → Hh → Prop) (tq : Tag (Q, E)) : Ok (truthy .non h) Q E tq = Ok ((ret false) h) Q E tq := by rw [truthy_non]
theorem truthy_bl (b : Bool) : truthy (.bl b) = ret b := rfl
@[simp] theorem truthy_bl_ok (b : Bool) (h : Hh) (Q : _ → Hh → Prop) (E : Exn → Hh → Prop) (tq : Tag (Q, E)) : Ok (truthy (.bl b) h) Q E tq = Ok ((ret b) h) Q E tq := by rw [truthy_bl]
theorem truthy_int (i : Int) : truthy (.int i) = ret (decide (i ≠ 0)) := rfl
@[simp] theorem truthy_int_ok (i : Int) (h : Hh) (Q : _ → Hh → Prop) (E : Exn → Hh → Prop) (tq : Tag (Q, E)) : Ok (truthy (.int i) h) Q E tq = Ok ((ret (decide (i ≠ 0))) h) Q E tq := by rw [truthy_int]
theorem truthy_tup (xs : List D) : truthy (.tup xs) = ret (!xs.isEmpty) := rfl
@[simp] theorem truthy_tup_ok (xs : List D) (h : Hh) (Q : _ → Hh → Prop) (E : Exn → Hh → Prop) (tq : Tag (Q, E)) : Ok (truthy (.tup xs) h) Q E tq = Ok ((ret (!xs.isEmpty)) h) Q E tq := by rw [truthy_tup]
theorem truthy_lst (xs : List D) : truthy (.lst xs) = ret (!xs.isEmpty) := rfl
@[simp] theorem truthy_lst_ok (xs : List D) (h : Hh) (Q : _ → Hh → Prop) (E : Exn → Hh → Prop) (tq : Tag (Q, E)) : Ok (truthy (.lst xs) h) Q E tq = Ok ((ret (!xs.isEmpty)) h) Q E tq := by rw [truthy_lst]
theorem binop_add (i j : Int) : binop .add (.int i) (.int j) = ret (.int (i + j)) := rfl
@[simp] theorem binop_add_ok (i j : Int) (h : Hh) (Q : _ → Hh → Prop) (E : Exn → Hh → Prop) (tq : Tag (Q, E)) : Ok (binop .add (.int i) (.int j) h) Q E tq = Ok ((ret (.int (i + j))) h) Q E tq := by rw [binop_add]
theorem binop_sub (i j : Int) : binop .sub (.int i) (.int j) = ret (.int (i - j)) := rfl
@[simp] theorem binop_sub_ok (i j : Int) (h : Hh) (Q : _ → Hh → Prop) (E : Exn → Hh → Prop) (tq : Tag (Q, E)) : Ok (binop .sub (.int i) (.int j) h) Q E tq = Ok ((ret (.int (i - j))) h) Q E tq := by rw [binop_sub]
theorem binop_mul (i j : Int) : binop .mul (.int i) (.int j) = if smallI i || smallI j then ret (.int (i * j)) else fail := rfl
@[simp] theorem binop_mul_ok (i j : Int) (h : Hh) (Q : _ → Hh → Prop) (E : Exn → Hh → Prop) (tq : Tag (Q, E)) : Ok (binop .mul (.int i) (.int j) h) Q E tq = Ok ((if smallI i || smallI j then ret (.int (i * j)) else fail) h) Q E tq := by rw [binop_mul]
theorem binop_fdiv (i j : Int) : binop .fdiv (.int i) (.int j) = if 0 < j ∧ j < two30 then ret (.int (i / j)) else fail := rfl
@[simp] theorem binop_fdiv_ok (i j : Int) (h : Hh) (Q : _ → Hh → Prop) (E : Exn → Hh → Prop) (tq : Tag (Q, E)) : Ok (binop .fdiv (.int i) (.int j) h) Q E tq = Ok ((if 0 < j ∧ j < two30 then ret (.int (i / j)) else fail) h) Q E tq := by rw [binop_fdiv]
theorem binop_mod (i j : Int) : binop .mod (.int i) (.int j) = if 0 < j then ret (.int (i % j)) else fail := rfl
@[simp] theorem binop_mod_ok (i j : Int) (h : Hh) (Q : _ → Hh → Prop) (E : Exn → Hh → Prop) (tq : Tag (Q, E)) : Ok (binop .mod (.int i) (.int j) h) Q E tq = Ok ((if 0 < j then ret (.int (i % j)) else fail) h) Q E tq := by rw [binop_mod]
theorem binop_addT (xs ys : List D) : binop .add (.tup xs) (.tup ys) = if xs.length + ys.length ≤ big then ret (.tup (xs ++ ys)) else fail := rfl
@[simp] theorem binop_addT_ok (xs ys : List D) (h : Hh) (Q : _ → Hh → Prop) (E : Exn → Hh → Prop) (tq : Tag (Q, E)) : Ok (binop .add (.tup xs) (.tup ys) h) Q E tq = Ok ((if xs.length + ys.length ≤ big then ret (.tup (xs ++ ys)) else fail) h) Q E tq := by rw [binop_addT]
theorem binop_addL (xs ys : List D) : binop .add (.lst xs) (.lst ys) = if xs.length + ys.length ≤ big then ret (.lst (xs ++ ys)) else fail := rfl
@[simp] theorem binop_addL_ok (xs ys : List D) (h : Hh) (Q : _ → Hh → Prop) (E : Exn → Hh → Prop) (tq : Tag (Q, E)) : Ok (binop .add (.lst xs) (.lst ys) h) Q E tq = Ok ((if xs.length + ys.length ≤ big then ret (.lst (xs ++ ys)) else fail) h) Q E tq := by rw [binop_addL]
theorem cmpop_lt (i j : Int) : cmpop .lt (.int i) (.int j) = ret (decide (i < j)) := rfl
@[simp] theorem cmpop_lt_ok (i j : Int) (h : Hh) (Q : _ → Hh → Prop) (E : Exn → Hh → Prop) (tq : Tag (Q, E)) : Ok (cmpop .lt (.int i) (.int j) h) Q E tq = Ok ((ret (decide (i < j))) h) Q E tq := by rw [cmpop_lt]
theorem cmpop_le (i j : Int) : cmpop .le (.int i) (.int j) = ret (decide (i ≤ j)) := rfl
@[simp] theorem cmpop_le_ok (i j : Int) (h : Hh) (Q : _ → Hh → Prop) (E : Exn → Hh → Prop) (tq : Tag (Q, E)) : Ok (cmpop .le (.int i) (.int j) h) Q E tq = Ok ((ret (decide (i ≤ j))) h) Q E tq := by rw [cmpop_le]
theorem cmpop_gt (i j : Int) : cmpop .gt (.int i) (.int j) = ret (decide (j < i)) := rfl
@[simp] theorem cmpop_gt_ok (i j : Int) (h : Hh) (Q : _ → Hh → Prop) (E : Exn → Hh → Prop) (tq : Tag (Q, E)) : Ok (cmpop .gt (.int i) (.int j) h) Q E tq = Ok ((ret (decide (j < i))) h) Q E tq := by rw [cmpop_gt]
theorem cmpop_ge (i j : Int) : cmpop .ge (.int i) (.int j) = ret (decide (j ≤ i)) := rfl
@[simp] theorem cmpop_ge_ok (i j : Int) (h : Hh) (Q : _ → Hh → Prop) (E : Exn → Hh → Prop) (tq : Tag (Q, E)) : Ok (cmpop .ge (.int i) (.int j) h) Q E tq = Ok ((ret (decide (j ≤ i))) h) Q E tq := by rw [cmpop_ge]
theorem cmpop_eq (a b : D) : cmpop .eq a b = eqM a b := rfl
@[simp] theorem cmpop_eq_ok (a b : D) (h : Hh) (Q : _ → Hh → Prop) (E : Exn → Hh → Prop) (tq : Tag (Q, E)) : Ok (cmpop .eq a b h) Q E tq = Ok ((eqM a b) h) Q E tq := by rw [cmpop_eq]
theorem cmpop_ne (a b : D) : cmpop .ne a b = bind (eqM a b) fun r => ret (!r) := rfl
@[simp] theorem cmpop_ne_ok (a b : D) (h : Hh) (Q : _ → Hh → Prop) (E : Exn → Hh → Prop) (tq : Tag (Q, E)) : Ok (cmpop .ne a b h) Q E tq = Ok ((bind (eqM a b) fun r => ret (!r)) h) Q E tq := by rw [cmpop_ne]
theorem cmpop_is (a : D) : cmpop .is a .non = ret (match a with | .non => true | _ => false) := rfl
@[simp] theorem cmpop_is_ok (a : D) (h : Hh) (Q : _ → Hh → Prop) (E : Exn → Hh → Prop) (tq : Tag (Q, E)) : Ok (cmpop .is a .non h) Q E tq = Ok ((ret (match a with | .non => true | _ => false)) h) Q E tq := by rw [cmpop_is]
theorem cmpop_isnot (a : D) : cmpop .isnot a .non = ret (match a with | .non => false | _ => true) := rfl
@[simp] theorem cmpop_isnot_ok (a : D) (h : Hh) (Q : _ → Hh → Prop) (E : Exn → Hh → Prop) (tq : Tag (Q, E)) : Ok (cmpop .isnot a .non h) Q E tq = Ok ((ret (match a with | .non => false | _ => true)) h) Q E tq := by rw [cmpop_isnot]
theorem cmpop_inn (a b : D) : cmpop .inn a b = inD a b := rfl
@[simp] theorem cmpop_inn_ok (a b : D) (h : Hh) (Q : _ → Hh → Prop) (E : Exn → Hh → Prop) (tq : Tag (Q, E)) : Ok (cmpop .inn a b h) Q E tq = Ok ((inD a b) h) Q E tq := by rw [cmpop_inn]
theorem cmpop_notin (a b : D) : cmpop .notin a b = bind (inD a b) fun r => ret (!r) := rfl
@[simp] theorem cmpop_notin_ok (a b : D) (h : Hh) (Q : _ → Hh → Prop) (E : Exn → Hh → Prop) (tq : Tag (Q, E)) : Ok (cmpop .notin a b h) Q E tq = Ok ((bind (inD a b) fun r => ret (!r)) h) Q E tq := by rw [cmpop_notin]
theorem eqM_int (i j : Int) : eqM (.int i) (.int j) = ret (i == j) := rfl
@[simp] theorem eqM_int_ok (i j : Int) (h : Hh) (Q : _ → Hh → Prop) (E : Exn → Hh → Prop) (tq : Tag (Q, E)) : Ok (eqM (.int i) (.int j) h) Q E tq = Ok ((ret (i == j)) h) Q E tq := by rw [eqM_int]
theorem eqM_str (i j : Str) : eqM (.str i) (.str j) = ret (i == j) := rfl
@[simp] theorem eqM_str_ok (i j : Str) (h : Hh) (Q : _ → Hh → Prop) (E : Exn → Hh → Prop) (tq : Tag (Q, E)) : Ok (eqM (.str i) (.str j) h) Q E tq = Ok ((ret (i == j)) h) Q E tq := by rw [eqM_str]
theorem eqM_bl (i j : Bool) : eqM (.bl i) (.bl j) = ret (i == j) := rfl
@[simp] theorem eqM_bl_ok (i j : Bool) (h : Hh) (Q : _ → Hh → Prop) (E : Exn → Hh → Prop) (tq : Tag (Q, E)) : Ok (eqM (.bl i) (.bl j) h) Q E tq = Ok ((ret (i == j)) h) Q E tq := by rw [eqM_bl]
theorem seqOf_tup (xs : List D) : seqOf (.tup xs) = ret xs := rfl
@[simp] theorem seqOf_tup_ok (xs : List D) (h : Hh) (Q : _ → Hh → Prop) (E : Exn → Hh → Prop) (tq : Tag (Q, E)) : Ok (seqOf (.tup xs) h) Q E tq = Ok ((ret xs) h) Q E tq := by rw [seqOf_tup]
theorem seqOf_lst (xs : List D) : seqOf (.lst xs) = ret xs := rfl
@[simp] theorem seqOf_lst_ok (xs : List D) (h : Hh) (Q : _ → Hh → Prop) (E : Exn → Hh → Prop) (tq : Tag (Q, E)) : Ok (seqOf (.lst xs) h) Q E tq = Ok ((ret xs) h) Q E tq := by rw [seqOf_lst]
theorem seqFz_tup (xs : List D) : seqFz (.tup xs) = ret xs := rfl
@[simp] theorem seqFz_tup_ok (xs : List D) (h : Hh) (Q : _ → Hh → Prop) (E : Exn → Hh → Prop) (tq : Tag (Q, E)) : Ok (seqFz (.tup xs) h) Q E tq = Ok ((ret xs) h) Q E tq := by rw [seqFz_tup]
theorem seqFz_lst (xs : List D) : seqFz (.lst xs) = ret xs := rfl
@[simp] theorem seqFz_lst_ok (xs : List D) (h : Hh) (Q : _ → Hh → Prop) (E : Exn → Hh → Prop) (tq : Tag (Q, E)) : Ok (seqFz (.lst xs) h) Q E tq = Ok ((ret xs) h) Q E tq := by rw [seqFz_lst]
theorem seqFz_scr (xs : List D) : seqFz (.scr xs) = ret xs := rfl
@[simp] theorem seqFz_scr_ok (xs : List D) (h : Hh) (Q : _ → Hh → Prop) (E : Exn → Hh → Prop) (tq : Tag (Q, E)) : Ok (seqFz (.scr xs) h) Q E tq = Ok ((ret xs) h) Q E tq := by rw [seqFz_scr]
theorem lstOf_lst (xs : List D) : lstOf (.lst xs) = ret xs := rfl
@[simp] theorem lstOf_lst_ok (xs : List D) (h : Hh) (Q : _ → Hh → Prop) (E : Exn → Hh → Prop) (tq : Tag (Q, E)) : Ok (lstOf (.lst xs) h) Q E tq = Ok ((ret xs) h) Q E tq := by rw [lstOf_lst]
theorem walkOf_tup (xs : List D) : walkOf (.tup xs) = ret (.items xs) := rfl
@[simp] theorem walkOf_tup_ok (xs : List D) (h : Hh) (Q : _ → Hh → Prop) (E : Exn → Hh → Prop) (tq : Tag (Q, E)) : Ok (walkOf (.tup xs) h) Q E tq = Ok ((ret (.items xs)) h) Q E tq := by rw [walkOf_tup]
theorem walkOf_lst (xs : List D) : walkOf (.lst xs) = ret (.items xs) := rfl
@[simp] theorem walkOf_lst_ok (xs : List D) (h : Hh) (Q : _ → Hh → Prop) (E : Exn → Hh → Prop) (tq : Tag (Q, E)) : Ok (walkOf (.lst xs) h) Q E tq = Ok ((ret (.items xs)) h) Q E tq := by rw [walkOf_lst]
theorem walkOf_scr (xs : List D) : walkOf (.scr xs) = ret (.items xs) := rfl
@[simp] theorem walkOf_scr_ok (xs : List D) (h : Hh) (Q : _ → Hh → Prop) (E : Exn → Hh → Prop) (tq : Tag (Q, E)) : Ok (walkOf (.scr xs) h) Q E tq = Ok ((ret (.items xs)) h) Q E tq := by rw [walkOf_scr]
theorem keysOf_items (it : It) (xs : List D) : keysOf it (.items xs) = ret (.items xs) := by cases it <;> rfl
@[simp] theorem keysOf_items_ok (it : It) (xs : List D) (h : Hh) (Q : _ → Hh → Prop) (E : Exn → Hh → Prop) (tq : Tag (Q, E)) : Ok (keysOf it (.items xs) h) Q E tq = Ok ((ret (.items xs)) h) Q E tq := by rw [keysOf_items]
theorem noKeys_items (xs : List D) : noKeys (.items xs) = ret (.items xs) := rfl
@[simp] theorem noKeys_items_ok (xs : List D) (h : Hh) (Q : _ → Hh → Prop) (E : Exn → Hh → Prop) (tq : Tag (Q, E)) : Ok (noKeys (.items xs) h) Q E tq = Ok ((ret (.items xs)) h) Q E tq := by rw [noKeys_items]
theorem asInt_int (i : Int) : asInt (.int i) = ret i := rfl
@[simp] theorem asInt_int_ok (i : Int) (h : Hh) (Q : _ → Hh → Prop) (E : Exn → Hh → Prop) (tq : Tag (Q, E)) : Ok (asInt (.int i) h) Q E tq = Ok ((ret i) h) Q E tq := by rw [asInt_int]
theorem idxop_tup (xs : List D) (k : Int) : idxop (.tup xs) (.int k) = opt (atD xs k) := rfl
@[simp] theorem idxop_tup_ok (xs : List D) (k : Int) (h : Hh) (Q : _ → Hh → Prop) (E : Exn → Hh → Prop) (tq : Tag (Q, E)) : Ok (idxop (.tup xs) (.int k) h) Q E tq = Ok ((opt (atD xs k)) h) Q E tq := by rw [idxop_tup]
theorem idxop_lst (xs : List D) (k : Int) : idxop (.lst xs) (.int k) = opt (atD xs k) := rfl
@[simp] theorem idxop_lst_ok (xs : List D) (k : Int) (h : Hh) (Q : _ → Hh → Prop) (E : Exn → Hh → Prop) (tq : Tag (Q, E)) : Ok (idxop (.lst xs) (.int k) h) Q E tq = Ok ((opt (atD xs k)) h) Q E tq := by rw [idxop_lst]
theorem idxop_dct (t : Kc) (kvs : List (D × D)) (i : D) : idxop (.dct t kvs) i = if keyOk t i then opt (kget kvs i) else fail := rfl
@[simp] theorem idxop_dct_ok (t : Kc) (kvs : List (D × D)) (i : D) (h : Hh) (Q : _ → Hh → Prop) (E : Exn → Hh → Prop) (tq : Tag (Q, E)) : Ok (idxop (.dct t kvs) i h) Q E tq = Ok ((if keyOk t i then opt (kget kvs i) else fail) h) Q E tq := by rw [idxop_dct]
theorem lenD_tup (xs : List D) : lenD (.tup xs) = ret (.int xs.length) := rfl
@[simp] theorem lenD_tup_ok (xs : List D) (h : Hh) (Q : _ → Hh → Prop) (E : Exn → Hh → Prop) (tq : Tag (Q, E)) : Ok (lenD (.tup xs) h) Q E tq = Ok ((ret (.int xs.length)) h) Q E tq := by rw [lenD_tup]
theorem lenD_lst (xs : List D) : lenD (.lst xs) = ret (.int xs.length) := rfl
@[simp] theorem lenD_lst_ok (xs : List D) (h : Hh) (Q : _ → Hh → Prop) (E : Exn → Hh → Prop) (tq : Tag (Q, E)) : Ok (lenD (.lst xs) h) Q E tq = Ok ((ret (.int xs.length)) h) Q E tq := by rw [lenD_lst]
theorem lenD_dct (t : Kc) (kvs : List (D × D)) : lenD (.dct t kvs) = ret (.int kvs.length) := rfl
@[simp] theorem lenD_dct_ok (t : Kc) (kvs : List (D × D)) (h : Hh) (Q : _ → Hh → Prop) (E : Exn → Hh → Prop) (tq : Tag (Q, E)) : Ok (lenD (.dct t kvs) h) Q E tq = Ok ((ret (.int kvs.length)) h) Q E tq := by rw [lenD_dct]
theorem primop_len (d : D) : primop .len [d] = lenD d := rfl
@[simp] theorem primop_len_ok (d : D) (h : Hh) (Q : _ → Hh → Prop) (E : Exn → Hh → Prop) (tq : Tag (Q, E)) : Ok (primop .len [d] h) Q E tq = Ok ((lenD d) h) Q E tq := by rw [primop_len]
theorem primop_int (i : Int) : primop .int [.int i] = ret (.int i) := rfl
@[simp] theorem primop_int_ok (i : Int) (h : Hh) (Q : _ → Hh → Prop) (E : Exn → Hh → Prop) (tq : Tag (Q, E)) : Ok (primop .int [.int i] h) Q E tq = Ok ((ret (.int i)) h) Q E tq := by rw [primop_int]
theorem primop_max2 (i j : Int) : primop .max2 [.int i, .int j] = ret (.int (max i j)) := rfl
@[simp] theorem primop_max2_ok (i j : Int) (h : Hh) (Q : _ → Hh → Prop) (E : Exn → Hh → Prop) (tq : Tag (Q, E)) : Ok (primop .max2 [.int i, .int j] h) Q E tq = Ok ((ret (.int (max i j))) h) Q E tq := by rw [primop_max2]
theorem primop_min2 (i j : Int) : primop .min2 [.int i, .int j] = ret (.int (min i j)) := rfl
@[simp] theorem primop_min2_ok (i j : Int) (h : Hh) (Q : _ → Hh → Prop) (E : Exn → Hh → Prop) (tq : Tag (Q, E)) : Ok (primop .min2 [.int i, .int j] h) Q E tq = Ok ((ret (.int (min i j))) h) Q E tq := by rw [primop_min2]
theorem primop_tuple (d : D) : primop .tuple [d] = bind (seqOf d) fun xs => ret (.tup xs) := rfl
@[simp] theorem primop_tuple_ok (d : D) (h : Hh) (Q : _ → Hh → Prop) (E : Exn → Hh → Prop) (tq : Tag (Q, E)) : Ok (primop .tuple [d] h) Q E tq = Ok ((bind (seqOf d) fun xs => ret (.tup xs)) h) Q E tq := by rw [primop_tuple]
theorem primop_all (d : D) : primop .all [d] = bind (lstOf d) fun xs => match blsOf xs with
    | some bs => ret (.bl (bs.all id))
    | none => fail := rfl
@[simp] theorem primop_all_ok (d : D) (h : Hh) (Q : _ → Hh → Prop) (E : Exn → Hh → Prop) (tq : Tag (Q, E)) : Ok (primop .all [d] h) Q E tq = Ok ((bind (lstOf d) fun xs => match blsOf xs with
    | some bs => ret (.bl (bs.all id))
    | none => fail) h) Q E tq := by rw [primop_all]
theorem primop_any (d : D) : primop .any [d] = bind (lstOf d) fun xs => match blsOf xs with
    | some bs => ret (.bl (bs.any id))
    | none => fail := rfl
@[simp] theorem primop_any_ok (d : D) (h : Hh) (Q : _ → Hh → Prop) (E : Exn → Hh → Prop) (tq : Tag (Q, E)) : Ok (primop .any [d] h) Q E tq = Ok ((bind (lstOf d) fun xs => match blsOf xs with
    | some bs => ret (.bl (bs.any id))
    | none => fail) h) Q E tq := by rw [primop_any]
theorem primop_sum (d : D) : primop .sum [d] = bind (lstOf d) fun xs => match intsOf xs with
    | some ns => ret (.int ns.sum)
    | none => fail := rfl
@[simp] theorem primop_sum_ok (d : D) (h : Hh) (Q : _ → Hh → Prop) (E : Exn → Hh → Prop) (tq : Tag (Q, E)) : Ok (primop .sum [d] h) Q E tq = Ok ((bind (lstOf d) fun xs => match intsOf xs with
    | some ns => ret (.int ns.sum)
    | none => fail) h) Q E tq := by rw [primop_sum]
theorem primop_max (d : D) : primop .max [d] = bind (lstOf d) fun xs => match (intsOf xs).bind maxI with
    | some n => ret (.int n)
    | none => fail := rfl
@[simp] theorem primop_max_ok (d : D) (h : Hh) (Q : _ → Hh → Prop) (E : Exn → Hh → Prop) (tq : Tag (Q, E)) : Ok (primop .max [d] h) Q E tq = Ok ((bind (lstOf d) fun xs => match (intsOf xs).bind maxI with
    | some n => ret (.int n)
    | none => fail) h) Q E tq := by rw [primop_max]
theorem primop_min (d : D) : primop .min [d] = bind (lstOf d) fun xs => match (intsOf xs).bind minI with
    | some n => ret (.int n)
    | none => fail := rfl
@[simp] theorem primop_min_ok (d : D) (h : Hh) (Q : _ → Hh → Prop) (E : Exn → Hh → Prop) (tq : Tag (Q, E)) : Ok (primop .min [d] h) Q E tq = Ok ((bind (lstOf d) fun xs => match (intsOf xs).bind minI with
    | some n => ret (.int n)
    | none => fail) h) Q E tq := by rw [primop_min]
theorem content_l (xs : List D) : content (.l xs) = ret (.lst xs) := rfl
@[simp] theorem content_l_ok (xs : List D) (h : Hh) (Q : _ → Hh → Prop) (E : Exn → Hh → Prop) (tq : Tag (Q, E)) : Ok (content (.l xs) h) Q E tq = Ok ((ret (.lst xs)) h) Q E tq := by rw [content_l]
theorem content_d (t : Kc) (kvs : List (D × D)) : content (.d t kvs) = ret (.dct t kvs) := rfl
@[simp] theorem content_d_ok (t : Kc) (kvs : List (D × D)) (h : Hh) (Q : _ → Hh → Prop) (E : Exn → Hh → Prop) (tq : Tag (Q, E)) : Ok (content (.d t kvs) h) Q E tq = Ok ((ret (.dct t kvs)) h) Q E tq := by rw [content_d]
theorem sliceop_tup (xs : List D) (l h : Option Int) : sliceop (.tup xs) l h = ret (.tup (cut xs l h)) := rfl
@[simp] theorem sliceop_tup_ok (xs : List D) (l u : Option Int) (h : Hh) (Q : _ → Hh → Prop) (E : Exn → Hh → Prop) (tq : Tag (Q, E)) : Ok (sliceop (.tup xs) l u h) Q E tq = Ok ((ret (.tup (cut xs l u))) h) Q E tq := by rw [sliceop_tup]
theorem sliceop_lst (xs : List D) (l h : Option Int) : sliceop (.lst xs) l h = ret (.lst (cut xs l h)) := rfl
@[simp] theorem sliceop_lst_ok (xs : List D) (l u : Option Int) (h : Hh) (Q : _ → Hh → Prop) (E : Exn → Hh → Prop) (tq : Tag (Q, E)) : Ok (sliceop (.lst xs) l u h) Q E tq = Ok ((ret (.lst (cut xs l u))) h) Q E tq := by rw [sliceop_lst]
@[simp] theorem cxt_call (P : Prog) (call : Fid → Nat → List D → M D) : (cxt P call).call = call := Eq.trans rfl rfl
@[simp] theorem cxt_consts (P : Prog) (call : Fid → Nat → List D → M D) : (cxt P call).consts = P.consts := Eq.trans rfl rfl
@[simp] theorem cxt_tcs (P : Prog) (call : Fid → Nat → List D → M D) : (cxt P call).tcs = P.tcs := Eq.trans rfl rfl
@[simp] theorem cxt_exc (P : Prog) (call : Fid → Nat → List D → M D) : (cxt P call).exc = P.exc := Eq.trans rfl rfl
@[simp] theorem cxt_sub (P : Prog) (call : Fid → Nat → List D → M D) : (cxt P call).sub = P.sub := Eq.trans rfl rfl
theorem valOf_ret (d : D) (env : Env) : valOf (.ret d, env) = ret d := rfl
@[simp] theorem valOf_ret_ok (d : D) (env : Env) (h : Hh) (Q : _ → Hh → Prop) (E : Exn → Hh → Prop) (tq : Tag (Q, E)) : Ok (valOf (.ret d, env) h) Q E tq = Ok ((ret d) h) Q E tq := by rw [valOf_ret]
theorem valOf_next (env : Env) : valOf (.next, env) = ret .non := rfl

@[simp] theorem valOf_next_ok (env : Env) (h : Hh) (Q : _ → Hh → Prop) (E : Exn → Hh → Prop) (tq : Tag (Q, E)) : Ok (valOf (.next, env) h) Q E tq = Ok ((ret .non) h) Q E tq := by rw [valOf_next]
/-! ### data -/
@[simp] theorem intsOf_map (ns : List Int) : intsOf (ns.map .int) = some ns := by
  induction ns with
  | nil => rfl
  | cons n ns ih => simp [intsOf, ih]
@[simp] theorem blsOf_map (ns : List Bool) : blsOf (ns.map .bl) = some ns := by
  induction ns with
  | nil => rfl
  | cons n ns ih => simp [blsOf, ih]
@[simp] theorem intsOf_mapf {γ : Type} (f : γ → Int) (xs : List γ) : intsOf (xs.map fun x => .int (f x)) = some (xs.map f) := by
  induction xs with
  | nil => rfl
  | cons n ns ih => simp [intsOf, ih]
@[simp] theorem blsOf_mapf {γ : Type} (f : γ → Bool) (xs : List γ) : blsOf (xs.map fun x => .bl (f x)) = some (xs.map f) := by
  induction xs with
  | nil => rfl
  | cons n ns ih => simp [blsOf, ih]
theorem ixn_nat (n k : Nat) (h : k < n) : ixn n (k : Int) = some k := by
  unfold ixn
  rw [if_pos (by omega), if_pos (by omega)]
  simp
theorem atD_nat (xs : List D) (k : Nat) : atD xs (k : Int) = xs[k]? := by
  unfold atD
  by_cases h : k < xs.length
  · rw [ixn_nat _ _ h]; rfl
  · have : ixn xs.length (k : Int) = none := by
      unfold ixn
      rw [if_pos (by omega), if_neg (by omega)]
    rw [this, List.getElem?_eq_none (by omega)]
    rfl
theorem pureL_map {γ : Type} {g : γ → D} (hg : ∀ x, (g x).pure = true) : ∀ xs : List γ, pureL (xs.map g) = true
  | [] => rfl
  | x :: xs => by simp only [List.map_cons, pureL, hg x, pureL_map hg xs, Bool.and_self]
theorem pureL_iff : ∀ xs : List D, pureL xs = true ↔ ∀ x ∈ xs, x.pure = true
  | [] => by simp [pureL]
  | x :: xs => by simp [pureL, pureL_iff xs]
theorem frz_pure (base : Nat) (h : Hh) (n : Nat) (d : D) (hp : d.pure = true) : frz base h n d = some d := by
  cases n <;> simp [frz, hp]
theorem optL_pure (base : Nat) (h : Hh) (n : Nat) : ∀ xs : List D, pureL xs = true → optL (frz base h n) xs = some xs
  | [], _ => rfl
  | x :: xs, hp => by
    simp only [pureL, Bool.and_eq_true] at hp
    simp only [optL, frz_pure base h n x hp.1, optL_pure base h n xs hp.2]
/-- an own list of pure items leaves -/
theorem frz_own {base : Nat} {h : Hh} {l : Nat} {xs : List D} (n : Nat) (hl : base ≤ l) (e : h[l]? = some (.l xs)) (hp : pureL xs = true) : frz base h (n + 1) (.ref l) = some (.lst xs) := by
  have : ¬ l < base := by omega
  simp [frz, D.pure, this, e, optL_pure base h n xs hp]

/-! ### a def -/
section
variable {P : Prog} {f : Fid} {fn : Fn}
theorem run_fn (n : Nat) (base : Nat) (args : List D) (h : Hh) (lk : P.fns.lookup f = some fn) (ha : args.length = fn.np) (hk : fn.keep = false) :
    run P (n + 1) f base args h = leave h.length (bind (execs (cxt P (run P n)) h.length fn.body (startEnv fn args)) valOf h) := by
  unfold run
  rw [lk]
  simp only [ha, hk]
  rfl
theorem run_keep (n : Nat) (base : Nat) (args : List D) (h : Hh) (lk : P.fns.lookup f = some fn) (ha : args.length = fn.np) (hk : fn.keep = true) :
    run P (n + 1) f base args h = bind (execs (cxt P (run P n)) base fn.body (startEnv fn args)) valOf h := by
  unfold run
  rw [lk]
  simp only [ha, hk]
  rfl
theorem Ok_leave {base : Nat} {r : Res D} {Q : D → Hh → Prop} {E : Exn → Hh → Prop} (o : Ok r (fun d h' => ∃ d', frz base h' 3 d = some d' ∧ noLock (h'.drop base) = true ∧ Q d' (h'.take base)) fun e h' => pureF e.fs = true ∧ noLock (h'.drop base) = true ∧ E e (h'.take base)) : Ok (leave base r) Q E := by
  have o := o.out
  cases r with
  | ok d h =>
    obtain ⟨d', e, nl, q⟩ := o
    simp only [leave, finish, e, nl, if_true]
    exact ⟨q⟩
  | exc e h =>
    obtain ⟨k1, k2, k3⟩ := o
    simp only [leave, k1, k2, Bool.and_self, if_true]
    exact ⟨k3⟩
  | stuck => exact o.elim
theorem Ok.noE {α : Type} {r : Res α} {Q : α → Hh → Prop} {E : Exn → Hh → Prop} {t : Tag (Q, E)} (o : Ok r Q) : Ok r Q E t := o.imp0 fun _ _ h => h
/-- nothing own is left -/
theorem Ok_leave0 {h : Hh} {r : Res D} {Q : D → Hh → Prop} (o : Ok r fun d h' => d.pure = true ∧ h' = h ∧ Q d h) : Ok (leave h.length r) Q := by
  refine Ok_leave (o.imp0 ?_)
  rintro d _ ⟨hp, rfl, q⟩
  exact ⟨d, frz_pure _ _ _ _ hp, by simp [noLock], by simpa using q⟩
end

/-- an exception leaves, nothing own is left -/
theorem Ok_leaveE {h : Hh} {r : Res D} {e : Exn} (o : Ok r (fun _ _ => False) fun x h' => pureF x.fs = true ∧ x = e ∧ h' = h) : leave h.length r = .exc e h := by
  have o := o.out
  cases r with
  | exc x h' =>
    obtain ⟨k1, rfl, rfl⟩ := o
    simp [leave, k1, noLock]
  | _ => exact o.elim

/-! ### loops -/
/-- what a turn leaves -/
def After (next : Env → Hh → Prop) (Q : Flow × Env → Hh → Prop) (p : Flow × Env) (h : Hh) : Prop := match p.1 with
  | .next | .cont => next p.2 h
  | .brk => Q (.next, p.2) h
  | .ret d => Q (.ret d, p.2) h
@[simp] theorem After_next (N : Env → Hh → Prop) (Q : Flow × Env → Hh → Prop) (env : Env) (h : Hh) : After N Q (.next, env) h = N env h := Eq.trans rfl rfl
@[simp] theorem After_cont (N : Env → Hh → Prop) (Q : Flow × Env → Hh → Prop) (env : Env) (h : Hh) : After N Q (.cont, env) h = N env h := Eq.trans rfl rfl
@[simp] theorem After_brk (N : Env → Hh → Prop) (Q : Flow × Env → Hh → Prop) (env : Env) (h : Hh) : After N Q (.brk, env) h = Q (.next, env) h := Eq.trans rfl rfl
@[simp] theorem After_ret (N : Env → Hh → Prop) (Q : Flow × Env → Hh → Prop) (d : D) (env : Env) (h : Hh) : After N Q (.ret d, env) h = Q (.ret d, env) h := Eq.trans rfl rfl
theorem forI_ok {f : D → Env → M (Flow × Env)} {Q : Flow × Env → Hh → Prop} {E : Exn → Hh → Prop} (I : Nat → Env → Hh → Prop) : ∀ (xs : List D) (k : Nat) (env : Env) (h : Hh), I k env h →
    (∀ i x env h, xs[i]? = some x → I (k + i) env h → Ok (f x env h) (After (I (k + i + 1)) Q) E) → (∀ env h, I (k + xs.length) env h → Q (.next, env) h) → Ok (forI f xs env h) Q E
  | [], k, env, h, h0, _, fin => ⟨fin env h h0⟩
  | x :: xs, k, env, h, h0, step, fin => by
    simp only [forI, bind_at, Ok_bind]
    refine (step 0 x env h rfl h0).imp ?_
    rintro ⟨fl, env'⟩ h' a
    cases fl with
    | next => exact forI_ok I xs (k + 1) env' h' a (fun i y e2 h2 hi I2 => by have := step (i + 1) y e2 h2 (by simpa using hi) (by rw [show k + (i + 1) = k + 1 + i by omega]; exact I2); rw [show k + (i + 1) + 1 = k + 1 + i + 1 by omega] at this; exact this) fun e2 h2 I2 => fin e2 h2 (by rw [List.length_cons, show k + (xs.length + 1) = k + 1 + xs.length by omega]; exact I2)
    | cont => exact forI_ok I xs (k + 1) env' h' a (fun i y e2 h2 hi I2 => by have := step (i + 1) y e2 h2 (by simpa using hi) (by rw [show k + (i + 1) = k + 1 + i by omega]; exact I2); rw [show k + (i + 1) + 1 = k + 1 + i + 1 by omega] at this; exact this) fun e2 h2 I2 => fin e2 h2 (by rw [List.length_cons, show k + (xs.length + 1) = k + 1 + xs.length by omega]; exact I2)
    | brk => exact ⟨a⟩
    | ret d => exact ⟨a⟩
theorem for_ok {f : D → Env → M (Flow × Env)} {Q : Flow × Env → Hh → Prop} {E : Exn → Hh → Prop} (I : Nat → Env → Hh → Prop) {xs : List D} {env : Env} {h : Hh} (h0 : I 0 env h)
    (step : ∀ i x env h, xs[i]? = some x → I i env h → Ok (f x env h) (After (I (i + 1)) Q) E) (fin : ∀ env h, I xs.length env h → Q (.next, env) h) : Ok (forI f xs env h) Q E :=
  forI_ok I xs 0 env h h0 (fun i x e h' hi I' => by rw [Nat.zero_add] at I' ⊢; exact step i x e h' hi I') fun e h' I' => fin e h' (by rw [Nat.zero_add] at I'; exact I')
/-- a block without effect -/
theorem collectI_fm {f : D → M (List D)} {h : Hh} {γ : Type} (d : γ → D) (g : γ → List D) : ∀ ys : List γ, (∀ y ∈ ys, f (d y) h = .ok (g y) h) → collectI f (ys.map d) h = .ok (ys.flatMap g) h
  | [], _ => rfl
  | y :: ys, hf => by
    simp only [List.map_cons, collectI, bind_at, hf y List.mem_cons_self, bind_ok, collectI_fm d g ys fun z hz => hf z (List.mem_cons_of_mem _ hz), ret_at, List.flatMap_cons]
theorem collectI_map {f : D → M (List D)} {h : Hh} {γ : Type} (d : γ → D) (g : γ → D) (ys : List γ) (hf : ∀ y ∈ ys, f (d y) h = .ok [g y] h) : collectI f (ys.map d) h = .ok (ys.map g) h := by
  rw [collectI_fm d (fun y => [g y]) ys hf, ← List.map_eq_flatMap]
theorem collectI_filter {f : D → M (List D)} {h : Hh} {γ : Type} (d : γ → D) (p : γ → Bool) (g : γ → D) (ys : List γ) (hf : ∀ y ∈ ys, f (d y) h = .ok (if p y then [g y] else []) h) : collectI f (ys.map d) h = .ok ((ys.filter p).map g) h := by
  rw [collectI_fm d (fun y => if p y then [g y] else []) ys hf]
  congr 1
  induction ys with
  | nil => rfl
  | cons y ys ih =>
    rw [List.flatMap_cons, ih fun z hz => hf z (List.mem_cons_of_mem _ hz)]
    cases e : p y <;> simp [List.filter_cons, e]
theorem collectI_ok {f : D → M (List D)} {Q : List D → Hh → Prop} {E : Exn → Hh → Prop} (I : Nat → List D → Hh → Prop) : ∀ (xs : List D) (k : Nat) (acc : List D) (h : Hh), I k acc h →
    (∀ i x acc h, xs[i]? = some x → I (k + i) acc h → Ok (f x h) (fun ys h' => I (k + i + 1) (acc ++ ys) h') E) → (∀ acc' h, I (k + xs.length) (acc ++ acc') h → Q acc' h) → Ok (collectI f xs h) Q E
  | [], k, acc, h, h0, _, fin => ⟨fin [] h (by simpa using h0)⟩
  | x :: xs, k, acc, h, h0, step, fin => by
    simp only [collectI, bind_at, Ok_bind]
    refine (step 0 x acc h rfl h0).imp ?_
    intro ys h' a
    have r := collectI_ok (f := f) (E := E) (Q := fun b h2 => I (k + 1 + xs.length) (acc ++ ys ++ b) h2) I xs (k + 1) (acc ++ ys) h' a (fun i y e2 h2 hi I2 => by
      have := step (i + 1) y e2 h2 (by simpa using hi) (by rw [show k + (i + 1) = k + 1 + i by omega]; exact I2)
      rw [show k + (i + 1) + 1 = k + 1 + i + 1 by omega] at this
      exact this) (fun e2 h2 I2 => I2)
    rw [Ok_bind]
    refine r.imp ?_
    intro b h2 I2
    rw [ret_at, Ok_ok]
    exact fin _ _ (by rw [List.length_cons, show k + (xs.length + 1) = k + 1 + xs.length by omega, ← List.append_assoc]; exact I2)
theorem while_ok {t : Env → M Bool} {f : Env → M (Flow × Env)} {Q : Flow × Env → Hh → Prop} {E : Exn → Hh → Prop} (I : Nat → Env → Hh → Prop)
    (step : ∀ k env h, I k env h → Ok (t env h) (fun b h1 => if b = true then Ok (f env h1) (After (fun e h2 => ∃ k', k' < k ∧ I k' e h2) Q) E else Q (.next, env) h1) E) : ∀ (n k : Nat) (env : Env) (h : Hh), k < n → I k env h → Ok (whileF t f n env h) Q E
  | 0, _, _, _, hk, _ => absurd hk (Nat.not_lt_zero _)
  | n + 1, k, env, h, hk, h0 => by
    simp only [whileF, bind_at, Ok_bind]
    refine (step k env h h0).imp ?_
    intro b h1 a
    cases b with
    | false => exact ⟨a⟩
    | true =>
      simp only [if_true] at a
      simp only [if_true, bind_at, Ok_bind]
      refine a.imp ?_
      rintro ⟨fl, env'⟩ h' a
      cases fl with
      | next => obtain ⟨k', h1, h2⟩ := a; exact while_ok I step n k' env' h' (by omega) h2
      | cont => obtain ⟨k', h1, h2⟩ := a; exact while_ok I step n k' env' h' (by omega) h2
      | brk => exact ⟨a⟩
      | ret d => exact ⟨a⟩
theorem Ok_nox {α : Type} {m : M α} {h : Hh} {Q : α → Hh → Prop} (o : Ok (m h) Q) : Ok (nox m h) Q := by
  have o := o.out
  unfold nox
  cases e : m h with
  | ok a h' => rw [e] at o; exact ⟨o⟩
  | _ => rw [e] at o; exact o.elim
theorem nox_eq {α : Type} {m : M α} {h h' : Hh} {a : α} (e : m h = .ok a h') : nox m h = .ok a h' := by
  unfold nox
  rw [e]
end Px

set_option autoImplicit false
set_option linter.all false
set_option maxRecDepth 100000
/-! The helpers that all laws have: their draws, their sameness. -/
namespace Px
open PySem (Str)

theorem cps_inj : ∀ {a b : List Char}, a.map Char.toNat = b.map Char.toNat → a = b
  | [], [], _ => rfl
  | [], _ :: _, h => by simp at h
  | _ :: _, [], h => by simp at h
  | x :: a, y :: b, h => by
    simp only [List.map_cons, List.cons.injEq] at h
    have : x = y := Char.ext (UInt32.toNat.inj h.1)
    rw [this, cps_inj h.2]
theorem ofString_inj (a b : String) : (Str.ofString a = Str.ofString b) = (a = b) := by
  refine propext ⟨fun h => ?_, fun h => by rw [h]⟩
  have h1 : PySem.cpsOfBytes 0 0 a.toByteArray.data.toList = PySem.cpsOfBytes 0 0 b.toByteArray.data.toList := by
    have := congrArg (fun s : Str => s.cps.toList) h
    simpa [Str.ofString] using this
  rw [PySem.cpsOfBytes_string, PySem.cpsOfBytes_string] at h1
  exact String.toList_inj.mp (cps_inj h1)
@[simp] theorem str_beq (a b : String) : (Str.ofString a == Str.ofString b) = (a == b) := by
  by_cases h : a = b
  · subst h; simp
  · have : Str.ofString a ≠ Str.ofString b := fun z => h ((ofString_inj a b).mp z)
    rw [beq_eq_false_iff_ne.mpr this, beq_eq_false_iff_ne.mpr h]

/-! ### cells -/
theorem cellAt_eq {l : Nat} {h : Hh} {c : Cell} (e : h[l]? = some c) : cellAt l h = .ok c h := by
  unfold cellAt
  rw [e]
theorem setCell_eq {l : Nat} {h : Hh} {c : Cell} (e : l < h.length) : setCell l c h = .ok () (h.set l c) := by
  unfold setCell
  rw [if_pos e]
theorem lt_of_cell {l : Nat} {h : Hh} {c : Cell} (e : h[l]? = some c) : l < h.length := (List.getElem?_eq_some_iff.mp e).1

/-! ### lists of numbers -/
theorem rangeD_eq (lo : Int) : ∀ n : Nat, rangeD lo n = (List.range n).map fun k : Nat => D.int (lo + k)
  | 0 => rfl
  | n + 1 => by
    rw [rangeD, rangeD_eq (lo + 1) n, List.range_succ_eq_map, List.map_cons, List.map_map]
    congr 1
    · simp
    · refine List.map_congr_left fun k _ => ?_
      show D.int (lo + 1 + k) = D.int (lo + ((k + 1 : Nat) : Int))
      congr 1
      omega
theorem rangeW_nat (n : Nat) (hn : n ≤ big) : rangeW 0 (n : Int) = ret (.items ((List.range n).map fun k : Nat => D.int (k : Int))) := by
  have hb : big = 16777216 := rfl
  unfold rangeW
  rw [if_pos, rangeD_eq]
  · simp
  · simp only [Bool.and_eq_true, decide_eq_true_eq]
    rw [hb] at hn ⊢
    omega

/-! ### data that == takes -/
/-- numbers, truth values, None, texts, lists and tuples of these, so deep at most -/
inductive Nice : Nat → D → Prop where
  | non (n : Nat) : Nice n .non
  | bl (n : Nat) (b : Bool) : Nice n (.bl b)
  | int (n : Nat) (i : Int) : Nice n (.int i)
  | str (n : Nat) (s : Str) : Nice n (.str s)
  | tup (n : Nat) (xs : List D) (hl : xs.length ≤ big) (h : ∀ x ∈ xs, Nice n x) : Nice (n + 1) (.tup xs)
  | lst (n : Nat) (xs : List D) (hl : xs.length ≤ big) (h : ∀ x ∈ xs, Nice n x) : Nice (n + 1) (.lst xs)

def f_is_integer : Fn := ⟨1, 1, false, [(.ret (.and (.isinst (.var 0) [.int]) (.not (.isinst (.var 0) [.bool]))))]⟩
def f_same : Fn := ⟨2, 3, false, [(.ife (.isinst (.var 1) [.tuple])
      [(.ife (.or (.not (.isinst (.var 0) [.tuple])) (.cmp .ne (.prim .len [(.var 0)]) (.prim .len [(.var 1)])))
        [(.ret (.lit (.bl false)))]
        []),
      (.ret (.prim .all [(.new false (.comp [2] (.call (("_law_same" : Str), none) [(.idx (.var 0) (.var 2)), (.idx (.var 1) (.var 2))]) (.name 2) (.range1 (.prim .len [(.var 1)])) []))]))]
      []),
    (.ife (.isinst (.var 1) [.list])
      [(.ife (.or (.not (.isinst (.var 0) [.list])) (.cmp .ne (.prim .len [(.var 0)]) (.prim .len [(.var 1)])))
        [(.ret (.lit (.bl false)))]
        []),
      (.ret (.prim .all [(.new false (.comp [2] (.call (("_law_same" : Str), none) [(.idx (.var 0) (.var 2)), (.idx (.var 1) (.var 2))]) (.name 2) (.range1 (.prim .len [(.var 1)])) []))]))]
      []),
    (.ife (.cmp .is (.var 1) (.lit .non))
      [(.ret (.cmp .is (.var 0) (.lit .non)))]
      []),
    (.ife (.isinst (.var 1) [.bool])
      [(.ret (.and (.isinst (.var 0) [.bool]) (.cmp .eq (.var 0) (.var 1))))]
      []),
    (.ife (.isinst (.var 1) [.str])
      [(.ret (.and (.isinst (.var 0) [.str]) (.cmp .eq (.var 0) (.var 1))))]
      []),
    (.ret (.and (.call (("_law_is_integer" : Str), none) [(.var 0)]) (.cmp .eq (.var 0) (.var 1))))]⟩
def f_take : Fn := ⟨2, 5, false, [(.ife (.cmp .gt (.idx (.var 0) (.lit (.int 2))) (.lit (.int 0)))
      [(.set 2 (.bin .mod (.prim .int [(.idx (.var 0) (.lit (.int 2)))]) (.var 1))),
      (.setIdx (.var 0) (.lit (.int 2)) (.bin .fdiv (.idx (.var 0) (.lit (.int 2))) (.var 1))),
      (.ret (.var 2))]
      []),
    (.set 3 (.lit (.int 0))),
    (.ife (.cmp .lt (.idx (.var 0) (.lit (.int 1))) (.prim .len [(.idx (.var 0) (.lit (.int 0)))]))
      [(.set 3 (.idx (.idx (.var 0) (.lit (.int 0))) (.idx (.var 0) (.lit (.int 1)))))]
      []),
    (.setIdx (.var 0) (.lit (.int 1)) (.bin .add (.idx (.var 0) (.lit (.int 1))) (.lit (.int 1)))),
    (.ife (.cmp .ge (.var 3) (.bin .pow (.lit (.int 10)) (.lit (.int 18))))
      [(.setIdx (.var 0) (.lit (.int 2)) (.bin .fdiv (.var 3) (.lit (.int 2)))),
      (.ret (.call (("_law_take" : Str), none) [(.var 0), (.var 1)]))]
      []),
    (.setIdx (.var 0) (.lit (.int 3)) (.bin .mod (.prim .int [(.bin .add (.bin .add (.bin .mul (.idx (.var 0) (.lit (.int 3))) (.lit (.int 48271))) (.bin .mul (.var 3) (.lit (.int 69621)))) (.bin .mul (.idx (.var 0) (.lit (.int 1))) (.lit (.int 613))))]) (.lit (.int 2147483647)))),
    (.set 4 (.bin .mod (.prim .int [(.bin .add (.bin .add (.bin .mul (.idx (.var 0) (.lit (.int 3))) (.idx (.var 0) (.lit (.int 3)))) (.bin .mul (.idx (.var 0) (.lit (.int 3))) (.lit (.int 7919)))) (.lit (.int 104729)))]) (.lit (.int 1000000007)))),
    (.ret (.bin .mod (.prim .int [(.bin .fdiv (.var 4) (.lit (.int 3)))]) (.var 1)))]⟩
def f_pick : Fn := ⟨2, 2, false, [(.ret (.idx (.var 1) (.call (("_law_take" : Str), none) [(.var 0), (.prim .len [(.var 1)])])))]⟩
def f_given : Fn := ⟨2, 2, false, [(.ret (.ite (.cmp .eq (.call (("_law_take" : Str), none) [(.var 0), (.lit (.int 2))]) (.lit (.int 0))) (.new false (.listOf (.ex (.var 1)))) (.prim .tuple [(.var 1)])))]⟩
def f_pool : Fn := ⟨1, 2, true, [(.ret (.new true (.disp [(.new false (.comp [1] (.ite (.cmp .ge (.var 1) (.lit (.int 0))) (.bin .mul (.lit (.int 2)) (.var 1)) (.bin .sub (.bin .mul (.neg (.lit (.int 2))) (.var 1)) (.lit (.int 1)))) (.name 1) (.ex (.var 0)) [])), (.lit (.int 0)), (.lit (.int 0)), (.lit (.int 17))])))]⟩
/-- these defs stand in the program -/
structure Helps (P : Prog) : Prop where
  int : P.fns.lookup (("_law_is_integer" : Str), none) = some f_is_integer
  same : P.fns.lookup (("_law_same" : Str), none) = some f_same
  take : P.fns.lookup (("_law_take" : Str), none) = some f_take
  pick : P.fns.lookup (("_law_pick" : Str), none) = some f_pick
  given : P.fns.lookup (("_law_given" : Str), none) = some f_given
  pool : P.fns.lookup (("_law_pool" : Str), none) = some f_pool

section
variable {P : Prog} (K : Helps P)
include K
theorem run_is_integer (n : Nat) (hn : 1 ≤ n) (base : Nat) (i : Int) (h : Hh) : run P n (("_law_is_integer" : Str), none) base [.int i] h = .ok (.bl true) h := by
  obtain ⟨m, rfl⟩ : ∃ m, n = m + 1 := ⟨n - 1, by omega⟩
  rw [run_fn m base _ h K.int rfl rfl]
  apply Ok.eq
  apply Ok_leave0
  simp [f_is_integer, startEnv, isTys, isTy, D.pure]
theorem run_same : ∀ {k : Nat} {d : D}, Nice k d → ∀ (n : Nat), k + 2 ≤ n → ∀ (base : Nat) (h : Hh), run P n (("_law_same" : Str), none) base [d, d] h = .ok (.bl true) h := by
  intro k d nd
  induction nd with
  | non k =>
    intro n hn base h
    obtain ⟨m, rfl⟩ : ∃ m, n = m + 1 := ⟨n - 1, by omega⟩
    rw [run_fn m base _ h K.same rfl rfl]
    apply Ok.eq
    apply Ok_leave0
    simp [f_same, startEnv, isTys, isTy, D.pure]
  | bl k b =>
    intro n hn base h
    obtain ⟨m, rfl⟩ : ∃ m, n = m + 1 := ⟨n - 1, by omega⟩
    rw [run_fn m base _ h K.same rfl rfl]
    apply Ok.eq
    apply Ok_leave0
    simp [f_same, startEnv, isTys, isTy, D.pure]
  | int k i =>
    intro n hn base h
    obtain ⟨m, rfl⟩ : ∃ m, n = m + 1 := ⟨n - 1, by omega⟩
    rw [run_fn m base _ h K.same rfl rfl]
    apply Ok.eq
    apply Ok_leave0
    simp [f_same, startEnv, isTys, isTy, D.pure, run_is_integer K m (by omega)]
  | str k s =>
    intro n hn base h
    obtain ⟨m, rfl⟩ : ∃ m, n = m + 1 := ⟨n - 1, by omega⟩
    rw [run_fn m base _ h K.same rfl rfl]
    apply Ok.eq
    apply Ok_leave0
    simp [f_same, startEnv, isTys, isTy, D.pure]
  | tup k xs hl hx ih =>
    intro n hn base h
    obtain ⟨m, rfl⟩ : ∃ m, n = m + 1 := ⟨n - 1, by omega⟩
    rw [run_fn m base _ h K.same rfl rfl]
    apply Ok.eq
    apply Ok_leave0
    simp [f_same, startEnv, isTys, isTy, D.pure, rangeW_nat _ hl]
    rw [collectI_map (fun k : Nat => D.int (k : Int)) (fun _ => D.bl true) (List.range xs.length)]
    · simp [D.pure]
    · intro j hj
      have hj : j < xs.length := by simpa using hj
      apply nox_eq
      apply Ok.eq
      simp [atD_nat, hj, ih _ (List.getElem_mem hj) m (by omega)]
  | lst k xs hl hx ih =>
    intro n hn base h
    obtain ⟨m, rfl⟩ : ∃ m, n = m + 1 := ⟨n - 1, by omega⟩
    rw [run_fn m base _ h K.same rfl rfl]
    apply Ok.eq
    apply Ok_leave0
    simp [f_same, startEnv, isTys, isTy, D.pure, rangeW_nat _ hl]
    rw [collectI_map (fun k : Nat => D.int (k : Int)) (fun _ => D.bl true) (List.range xs.length)]
    · simp [D.pure]
    · intro j hj
      have hj : j < xs.length := by simpa using hj
      apply nox_eq
      apply Ok.eq
      simp [atD_nat, hj, ih _ (List.getElem_mem hj) m (by omega)]
end

/-! ### draws -/
/-- a pool's contents -/
structure PoolC (c : Cell) : Prop where
  ex : ∃ (cs : List Int) (i a s : Int), c = .l [.lst (cs.map .int), .int i, .int a, .int s] ∧ (∀ x ∈ cs, 0 ≤ x) ∧ 0 ≤ i ∧ 0 ≤ s ∧ s < 2147483647
/-- the pool of cell l went on, nothing else changed -/
def Drew (l : Nat) (h h' : Hh) : Prop := ∃ c, PoolC c ∧ h' = h.set l c
def IsPool (l : Nat) (h : Hh) : Prop := ∃ c, h[l]? = some c ∧ PoolC c
theorem IsPool.lt {l : Nat} {h : Hh} (p : IsPool l h) : l < h.length := let ⟨_, e, _⟩ := p; lt_of_cell e
theorem Drew.pool {l : Nat} {h h' : Hh} (p : l < h.length) (d : Drew l h h') : IsPool l h' := by
  obtain ⟨c, pc, rfl⟩ := d
  exact ⟨c, by simp [p], pc⟩
theorem Drew.trans {l : Nat} {h h' h'' : Hh} (d : Drew l h h') (d' : Drew l h' h'') : Drew l h h'' := by
  obtain ⟨c, pc, rfl⟩ := d
  obtain ⟨c', pc', rfl⟩ := d'
  exact ⟨c', pc', by rw [List.set_set]⟩
theorem Drew.refl {l : Nat} {h : Hh} (p : IsPool l h) : Drew l h h := by
  obtain ⟨c, e, pc⟩ := p
  refine ⟨c, pc, ?_⟩
  apply List.ext_getElem? 
  intro i
  by_cases hi : i = l
  · subst hi; rw [List.getElem?_set_self (lt_of_cell e), e]
  · rw [List.getElem?_set_ne (Ne.symm hi)]
theorem Drew.len {l : Nat} {h h' : Hh} (d : Drew l h h') : h'.length = h.length := by
  obtain ⟨c, pc, rfl⟩ := d
  simp
theorem Drew.get {l k : Nat} {h h' : Hh} (d : Drew l h h') (hk : k ≠ l) : h'[k]? = h[k]? := by
  obtain ⟨c, pc, rfl⟩ := d
  rw [List.getElem?_set_ne (Ne.symm hk)]
/-- with own cells behind -/
theorem Drew.app {l : Nat} {h o h' : Hh} (hl : l < h.length) (d : Drew l (h ++ o) h') : ∃ h1, Drew l h h1 ∧ h' = h1 ++ o := by
  obtain ⟨c, pc, rfl⟩ := d
  exact ⟨h.set l c, ⟨c, pc, rfl⟩, by rw [List.set_append_left _ _ hl]⟩
theorem IsPool.app {l : Nat} {h : Hh} (p : IsPool l h) (o : Hh) : IsPool l (h ++ o) := by
  obtain ⟨c, e, pc⟩ := p
  exact ⟨c, by rw [List.getElem?_append_left (lt_of_cell e)]; exact e, pc⟩
/-- nothing own is left, the pool went on -/
theorem Ok_leaveD {l : Nat} {h : Hh} {r : Res D} {Q : D → Hh → Prop} (o : Ok r fun d h' => d.pure = true ∧ Drew l h h' ∧ Q d h') : Ok (leave h.length r) Q := by
  refine Ok_leave (o.imp0 ?_)
  rintro d h' ⟨hp, dr, q⟩
  have e := dr.len
  exact ⟨d, frz_pure _ _ _ _ hp, by rw [← e]; simp [noLock], by rw [← e]; simpa using q⟩
theorem two18 : (10 : Int) ^ 18 = 1000000000000000000 := by decide
section
variable {P : Prog} (K : Helps P)
include K
theorem take_rest (n : Nat) (base l : Nat) (many : Int) (cs : List Int) (i a s : Int) (h : Hh) (hm : 0 < many) (hm2 : many < two30) (e : h[l]? = some (.l [.lst (cs.map .int), .int i, .int a, .int s])) (hc : ∀ x ∈ cs, 0 ≤ x) (hi : 0 ≤ i) (hs : 0 ≤ s) (hs2 : s < 2147483647) (ha : 0 < a) :
    Ok (run P (n + 1) (("_law_take" : Str), none) base [.ref l, .int many] h) fun v h' => ∃ r, v = .int r ∧ 0 ≤ r ∧ r < many ∧ Drew l h h' := by
  have hl := lt_of_cell e
  rw [run_fn n base _ h K.take rfl rfl]
  refine Ok_leaveD (l := l) ?_
  simp [f_take, startEnv, idxop, cellAt_eq e, atD, ixn, ha, hm, hm2, setop, storable, D.pure, setCell_eq hl]
  exact ⟨⟨_, ⟨⟨cs, i, a / many, s, rfl, hc, hi, hs, hs2⟩⟩, rfl⟩, Int.emod_nonneg _ (by omega), Int.emod_lt_of_pos _ hm, ⟨_, ⟨⟨cs, i, a / many, s, rfl, hc, hi, hs, hs2⟩⟩, rfl⟩⟩
/-- a draw -/
theorem take_ok (n : Nat) (hn : 2 ≤ n) (base l : Nat) (many : Int) (h : Hh) (hm : 0 < many) (hm2 : many < two30) (p : IsPool l h) :
    Ok (run P n (("_law_take" : Str), none) base [.ref l, .int many] h) fun v h' => ∃ r, v = .int r ∧ 0 ≤ r ∧ r < many ∧ Drew l h h' := by
  obtain ⟨c, e, ⟨cs, i, a, s, rfl, hc, hi, hs, hs2⟩⟩ := p
  obtain ⟨m, rfl⟩ : ∃ m, n = m + 2 := ⟨n - 2, by omega⟩
  by_cases ha : 0 < a
  · exact take_rest K (m + 1) base l many cs i a s h hm hm2 e hc hi hs hs2 ha
  have hl := lt_of_cell e
  rw [run_fn (m + 1) base _ h K.take rfl rfl]
  refine Ok_leaveD (l := l) ?_
  have small : ∀ (z : Int), 0 ≤ z → z < 2147483647 → smallI z = true := by
    intro z h1 h2
    have e : two64 = 18446744073709551616 := rfl
    unfold smallI
    rw [e, Bool.and_eq_true, decide_eq_true_eq, decide_eq_true_eq]
    constructor <;> omega
  obtain ⟨R, hR⟩ : ∃ R, R = f_take.body.drop 3 := ⟨_, rfl⟩
  have hb : f_take.body = f_take.body.take 3 ++ R := by rw [hR]; rfl
  have rest : ∀ (cell : Int), 0 ≤ cell → Ok (execs (cxt P (run P (m + 1))) h.length R [some (.ref l), some (.int many), none, some (.int cell), none] h) fun p h' => Ok (valOf p h') fun d h' => d.pure = true ∧ Drew l h h' ∧ ∃ r, d = .int r ∧ 0 ≤ r ∧ r < many ∧ Drew l h h' := by
    intro cell hcell
    rw [hR]
    have p10 : binop .pow (.int 10) (.int 18) = ret (.int 1000000000000000000) := by
      show (if (decide ((0 : Int) ≤ 18) && decide ((18 : Int) ≤ 1000000)) && smallI 10 then ret (D.int ((10 : Int) ^ (18 : Int).toNat)) else fail) = _
      rw [if_pos (by decide)]
      rfl
    have k1 : smallI 48271 = true := by decide
    have k2 : smallI 69621 = true := by decide
    have k3 : smallI 613 = true := by decide
    have k4 : smallI 7919 = true := by decide
    have k5 : (3 : Int) < two30 := by decide
    by_cases big : (1000000000000000000 : Int) ≤ cell
    · simp [f_take, idxop, cellAt_eq e, atD, ixn, setop, storable, D.pure, setCell_eq hl, p10, big, cellAt_eq (l := l) (h := h.set l _) (List.getElem?_set_self hl), setCell_eq (l := l) (h := h.set l _) (by simpa using hl), two30]
      have e2 : (h.set l (.l [.lst (cs.map .int), .int (i + 1), .int (cell / 2), .int s]))[l]? = some (.l [.lst (cs.map .int), .int (i + 1), .int (cell / 2), .int s]) := List.getElem?_set_self hl
      refine (take_rest K m h.length l many cs (i + 1) (cell / 2) s _ hm hm2 e2 hc (by omega) hs hs2 (by omega)).imp ?_
      rintro v h' ⟨r, rfl, r0, r1, dr⟩
      have dr2 : Drew l h h' := Drew.trans ⟨_, ⟨⟨cs, i + 1, cell / 2, s, rfl, hc, by omega, hs, hs2⟩⟩, rfl⟩ dr
      simp [D.pure]
      exact ⟨dr2, r0, r1, dr2⟩
    · have hs0 : ∀ z : Int, 0 ≤ z % 2147483647 ∧ z % 2147483647 < 2147483647 := fun z => ⟨Int.emod_nonneg _ (by omega), Int.emod_lt_of_pos _ (by omega)⟩
      simp [f_take, idxop, cellAt_eq e, atD, ixn, setop, storable, D.pure, setCell_eq hl, p10, big, cellAt_eq (l := l) (h := h.set l _) (List.getElem?_set_self hl), setCell_eq (l := l) (h := h.set l _) (by simpa using hl), k1, k2, k3, k4, k5, small _ (hs0 _).1 (hs0 _).2, hm]
      have dr : Drew l h (h.set l (.l [.lst (cs.map .int), .int (i + 1), .int a, .int ((s * 48271 + cell * 69621 + (i + 1) * 613) % 2147483647)])) := ⟨_, ⟨⟨cs, i + 1, a, _, rfl, hc, by omega, (hs0 _).1, (hs0 _).2⟩⟩, rfl⟩
      exact ⟨dr, Int.emod_nonneg _ (by omega), Int.emod_lt_of_pos _ hm, dr⟩
  rw [hb]
  by_cases hil : i < cs.length
  · obtain ⟨j, rfl⟩ : ∃ j : Nat, i = j := ⟨i.toNat, by omega⟩
    have hj : j < cs.length := by omega
    simp [f_take, startEnv, idxop, cellAt_eq e, atD_nat, atD, ixn, ha, hil, hj]
    exact rest cs[j] (hc _ (List.getElem_mem hj))
  · simp [f_take, startEnv, idxop, cellAt_eq e, atD, ixn, ha, hil]
    exact rest 0 (by omega)
/-- one of some -/
theorem pick_ok (n : Nat) (hn : 3 ≤ n) (base l : Nat) (d : D) (xs : List D) (h : Hh) (hd : d = .tup xs ∨ d = .lst xs) (hp : pureL xs = true) (h0 : xs ≠ []) (hb : (xs.length : Int) < two30) (p : IsPool l h) :
    Ok (run P n (("_law_pick" : Str), none) base [.ref l, d] h) fun v h' => v ∈ xs ∧ Drew l h h' := by
  obtain ⟨m, rfl⟩ : ∃ m, n = m + 1 := ⟨n - 1, by omega⟩
  have hl : 0 < xs.length := List.length_pos_iff.mpr h0
  rw [run_fn m base _ h K.pick rfl rfl]
  refine Ok_leaveD (l := l) ?_
  have key : Ok (run P m (("_law_take" : Str), none) h.length [.ref l, .int xs.length] h) fun v h' => Ok (idxop d v h') fun v h' => v.pure = true ∧ Drew l h h' ∧ v ∈ xs ∧ Drew l h h' := by
    refine (take_ok K m (by omega) h.length l xs.length h (by omega) hb p).imp ?_
    rintro v h' ⟨r, rfl, r0, r1, dr⟩
    obtain ⟨j, rfl⟩ : ∃ j : Nat, r = j := ⟨r.toNat, by omega⟩
    have hj : j < xs.length := by omega
    have hm := List.getElem_mem hj
    have hq := (pureL_iff xs).mp hp _ hm
    rcases hd with rfl | rfl <;> simp [atD_nat, hj, hq, hm, dr]
  rcases hd with rfl | rfl <;> (simp [f_pick, startEnv]; refine key.imp ?_; intro v h' o; refine o.imp ?_; intro a h2 q; simpa using q)
/-- a row as a list or as a tuple -/
theorem given_ok (n : Nat) (hn : 3 ≤ n) (base l : Nat) (d : D) (xs : List D) (h : Hh) (hd : d = .tup xs ∨ d = .lst xs) (hp : pureL xs = true) (p : IsPool l h) :
    Ok (run P n (("_law_given" : Str), none) base [.ref l, d] h) fun v h' => (v = .tup xs ∨ v = .lst xs) ∧ Drew l h h' := by
  obtain ⟨m, rfl⟩ : ∃ m, n = m + 1 := ⟨n - 1, by omega⟩
  rw [run_fn m base _ h K.given rfl rfl]
  refine Ok_leaveD (l := l) ?_
  have hq1 : (D.lst xs).pure = true := by simpa [D.pure] using hp
  have hq2 : (D.tup xs).pure = true := by simpa [D.pure] using hp
  rcases hd with rfl | rfl <;> (simp [f_given, startEnv]; refine (take_ok K m (by omega) h.length l 2 h (by omega) (by decide) p).imp ?_; rintro v h' ⟨r, rfl, r0, r1, dr⟩; by_cases hr : r = 0 <;> simp [hr, hq1, hq2, dr])
/-- .. of a list in another cell -/
theorem given_cell (n : Nat) (hn : 3 ≤ n) (base l k : Nat) (xs : List D) (h : Hh) (hk : h[k]? = some (.l xs)) (hkl : k ≠ l) (hp : pureL xs = true) (p : IsPool l h) :
    Ok (run P n (("_law_given" : Str), none) base [.ref l, .ref k] h) fun v h' => (v = .tup xs ∨ v = .lst xs) ∧ Drew l h h' := by
  obtain ⟨m, rfl⟩ : ∃ m, n = m + 1 := ⟨n - 1, by omega⟩
  rw [run_fn m base _ h K.given rfl rfl]
  refine Ok_leaveD (l := l) ?_
  have hq1 : (D.lst xs).pure = true := by simpa [D.pure] using hp
  have hq2 : (D.tup xs).pure = true := by simpa [D.pure] using hp
  simp [f_given, startEnv]
  refine (take_ok K m (by omega) h.length l 2 h (by omega) (by decide) p).imp ?_
  rintro v h' ⟨r, rfl, r0, r1, dr⟩
  have e := (dr.get hkl).trans hk
  by_cases hr : r = 0 <;> simp [hr, hq1, hq2, dr, walkOf, seqOf, cellAt_eq e]
/-- the pool of a script -/
theorem pool_ok (n : Nat) (hn : 1 ≤ n) (base : Nat) (ns : List Int) (h : Hh) (hl : ns.length ≤ 63) :
    Ok (run P n (("_law_pool" : Str), none) base [.scr (ns.map .int)] h) fun v h' => v = .ref h.length ∧ ∃ c, h' = h ++ [c] ∧ PoolC c := by
  obtain ⟨m, rfl⟩ : ∃ m, n = m + 1 := ⟨n - 1, by omega⟩
  rw [run_keep m base _ h K.pool rfl rfl]
  have k2 : smallI 2 = true := by decide
  have k3 : smallI (-2) = true := by decide
  simp [f_pool, startEnv]
  rw [collectI_map D.int (fun z => D.int (if 0 ≤ z then 2 * z else -2 * z - 1)) ns]
  · simp [short, alloc]
    refine ⟨by show 4 ≤ 16777216; omega, ⟨ns.map fun z => if 0 ≤ z then 2 * z else -2 * z - 1, 0, 0, 17, ?_, ?_, by omega, by omega, by omega⟩⟩
    · rw [List.map_map]; rfl
    · intro x hx
      obtain ⟨z, _, rfl⟩ := List.mem_map.mp hx
      split <;> omega
  · intro z hz
    apply nox_eq
    apply Ok.eq
    by_cases h0 : 0 ≤ z <;> simp [h0, k2, k3]
end
end Px

set_option autoImplicit false
set_option linter.all false
set_option maxRecDepth 100000
/-! is_whole, is_between, is_row; what a list leaves out; rows of numbers; sorted sets. -/
namespace Px
open PySem (Str)

def f_is_whole : Fn := ⟨1, 1, false, [(.ret (.and (.isinst (.var 0) [.int]) (.not (.isinst (.var 0) [.bool]))))]⟩
def f_is_between : Fn := ⟨3, 3, false, [(.ret (.and (.call (("is_whole" : Str), none) [(.var 0)]) (.chain .le .le (.var 1) (.var 0) (.var 2))))]⟩
def f_is_row : Fn := ⟨1, 1, false, [(.ret (.isinst (.var 0) [.tuple, .list]))]⟩
structure Kinds (P : Prog) : Prop where
  whole : P.fns.lookup (("is_whole" : Str), none) = some f_is_whole
  between : P.fns.lookup (("is_between" : Str), none) = some f_is_between
  row : P.fns.lookup (("is_row" : Str), none) = some f_is_row
def isI : D → Bool
  | .int _ => true
  | _ => false
def isR : D → Bool
  | .tup _ | .lst _ => true
  | _ => false
/-- data whose kind is known -/
def told : D → Bool
  | .scr _ | .ref _ | .exn _ _ => false
  | _ => true
section
variable {P : Prog} (K : Kinds P)
include K
theorem run_is_whole (n : Nat) (hn : 1 ≤ n) (base : Nat) (d : D) (hd : told d = true) (h : Hh) : run P n (("is_whole" : Str), none) base [d] h = .ok (.bl (isI d)) h := by
  obtain ⟨m, rfl⟩ : ∃ m, n = m + 1 := ⟨n - 1, by omega⟩
  rw [run_fn m base _ h K.whole rfl rfl]
  apply Ok.eq
  apply Ok_leave0
  cases d <;> simp [told] at hd <;> simp [f_is_whole, startEnv, isTys, isTy, D.pure, isI]
theorem run_is_row (n : Nat) (hn : 1 ≤ n) (base : Nat) (d : D) (hd : told d = true) (h : Hh) : run P n (("is_row" : Str), none) base [d] h = .ok (.bl (isR d)) h := by
  obtain ⟨m, rfl⟩ : ∃ m, n = m + 1 := ⟨n - 1, by omega⟩
  rw [run_fn m base _ h K.row rfl rfl]
  apply Ok.eq
  apply Ok_leave0
  cases d <;> simp [told] at hd <;> simp [f_is_row, startEnv, isTys, isTy, D.pure, isR]
theorem run_is_between (n : Nat) (hn : 2 ≤ n) (base : Nat) (i lo hi : Int) (h : Hh) : run P n (("is_between" : Str), none) base [.int i, .int lo, .int hi] h = .ok (.bl (decide (lo ≤ i) && decide (i ≤ hi))) h := by
  obtain ⟨m, rfl⟩ : ∃ m, n = m + 1 := ⟨n - 1, by omega⟩
  rw [run_fn m base _ h K.between rfl rfl]
  apply Ok.eq
  apply Ok_leave0
  by_cases h1 : lo ≤ i <;> simp [f_is_between, startEnv, D.pure, run_is_whole K m (by omega) _ (.int i) rfl, isI, h1]
theorem run_is_between_no (n : Nat) (hn : 2 ≤ n) (base : Nat) (d : D) (hd : told d = true) (h1 : isI d = false) (lo hi : D) (h : Hh) : run P n (("is_between" : Str), none) base [d, lo, hi] h = .ok (.bl false) h := by
  obtain ⟨m, rfl⟩ : ∃ m, n = m + 1 := ⟨n - 1, by omega⟩
  rw [run_fn m base _ h K.between rfl rfl]
  apply Ok.eq
  apply Ok_leave0
  simp [f_is_between, startEnv, D.pure, run_is_whole K m (by omega) _ d hd, h1]
end

/-! ### lists of different numbers -/
theorem nodup_sub {α : Type} [DecidableEq α] : ∀ {xs ys : List α}, xs.Nodup → (∀ x ∈ xs, x ∈ ys) → xs.length ≤ ys.length
  | [], ys, _, _ => Nat.zero_le _
  | x :: xs, ys, nd, s => by
    have h1 := List.nodup_cons.mp nd
    have hx := s x List.mem_cons_self
    have h2 : xs.length ≤ (ys.erase x).length := nodup_sub h1.2 fun z hz => (List.mem_erase_of_ne (fun e => by rw [e] at hz; exact h1.1 hz)).mpr (s z (List.mem_cons_of_mem _ hz))
    rw [List.length_erase_of_mem hx] at h2
    have : 0 < ys.length := List.length_pos_of_mem hx
    simp only [List.length_cons]
    omega
/-- the least number from 0 on that is left out -/
def IsMex (ns : List Int) (m : Nat) : Prop := (m : Int) ∉ ns ∧ ∀ j : Nat, j < m → (j : Int) ∈ ns
theorem IsMex.uniq {ns : List Int} {m k : Nat} (h : IsMex ns m) (h' : IsMex ns k) : m = k := by
  rcases Nat.lt_trichotomy m k with l | l | l
  · exact absurd (h'.2 m l) h.1
  · exact l
  · exact absurd (h.2 k l) h'.1
theorem mex_le {ns : List Int} {m : Nat} (h : ∀ j : Nat, j < m → (j : Int) ∈ ns) : m ≤ ns.length := by
  have := nodup_sub (xs := (List.range m).map fun k : Nat => (k : Int)) (ys := ns) ?_ ?_
  · simpa using this
  · rw [List.nodup_iff_pairwise_ne, List.pairwise_map]
    refine List.Pairwise.imp ?_ (List.nodup_iff_pairwise_ne.mp List.nodup_range)
    intro a b hab e
    exact hab (by omega)
  · intro x hx
    obtain ⟨k, hk, rfl⟩ := List.mem_map.mp hx
    exact h k (List.mem_range.mp hk)
theorem ex_mex (ns : List Int) : ∃ m, IsMex ns m := by
  have : ∀ f m : Nat, (∀ j : Nat, j < m → (j : Int) ∈ ns) → ns.length < m + f → ∃ m, IsMex ns m := by
    intro f
    induction f with
    | zero => intro m h1 h2; exact absurd (mex_le h1) (by omega)
    | succ f ih =>
      intro m h1 h2
      by_cases hm : (m : Int) ∈ ns
      · exact ih (m + 1) (fun j hj => by
          rcases Nat.lt_succ_iff_lt_or_eq.mp hj with l | l
          · exact h1 j l
          · rw [l]; exact hm) (by omega)
      · exact ⟨m, hm, h1⟩
  exact this (ns.length + 1) 0 (fun j hj => absurd hj (Nat.not_lt_zero _)) (by omega)
noncomputable def mex (ns : List Int) : Nat := Classical.choose (ex_mex ns)
theorem mex_is (ns : List Int) : IsMex ns (mex ns) := Classical.choose_spec (ex_mex ns)
theorem IsMex.eq {ns : List Int} {m : Nat} (h : IsMex ns m) : m = mex ns := h.uniq (mex_is ns)
theorem mex_congr {ns ms : List Int} (h : ∀ x : Int, 0 ≤ x → (x ∈ ns ↔ x ∈ ms)) : mex ns = mex ms := by
  refine IsMex.eq ⟨fun hm => (mex_is ns).1 ((h _ (by omega)).mpr hm), fun j hj => (h _ (by omega)).mp ((mex_is ns).2 j hj)⟩

/-! ### dicts by keys -/
theorem keq_int (i j : Int) : D.keq (.int i) (.int j) = decide (i = j) := by simp only [D.keq]
theorem khas_put (kvs : List (D × D)) (k v x : D) : khas (kput kvs k v) x = (khas kvs x || (!khas kvs k && k.keq x)) := by
  unfold kput
  by_cases e : khas kvs k = true
  · rw [if_pos e, e]
    simp only [khas, List.any_map, Bool.not_true, Bool.false_and, Bool.or_false]
    congr 1
    funext p
    simp only [Function.comp_apply]
    split <;> rfl
  · rw [if_neg e]
    have e : khas kvs k = false := by simpa using e
    rw [e]
    simp [khas]
theorem kput_len (kvs : List (D × D)) (k v : D) : (kput kvs k v).length = if khas kvs k then kvs.length else kvs.length + 1 := by
  unfold kput
  split <;> simp
/-- a dict of ints: its keys -/
def IntKeys (kvs : List (D × D)) (ks : List Int) : Prop := kvs.map (·.1) = ks.map D.int ∧ ks.Nodup
theorem any_keq (i : Int) : ∀ ks : List Int, ((ks.map D.int).any fun k => k.keq (.int i)) = decide (i ∈ ks)
  | [] => by simp
  | k :: ks => by
    rw [List.map_cons, List.any_cons, any_keq i ks, keq_int]
    by_cases h1 : k = i
    · simp [h1]
    · have : ¬ i = k := fun z => h1 z.symm
      simp [h1, this]
theorem khas_ints {kvs : List (D × D)} {ks : List Int} (e : kvs.map (·.1) = ks.map D.int) (i : Int) : khas kvs (.int i) = decide (i ∈ ks) := by
  have : khas kvs (.int i) = (kvs.map (·.1)).any fun k => k.keq (.int i) := by
    unfold khas
    rw [List.any_map]
    rfl
  rw [this, e, any_keq]
theorem putAll_ints (v : D) : ∀ (ns : List Int) (kvs : List (D × D)) (ks : List Int), IntKeys kvs ks → ∃ ks', IntKeys (putAll kvs (ns.map fun i => (D.int i, v))) ks' ∧ ∀ i, i ∈ ks' ↔ i ∈ ks ∨ i ∈ ns
  | [], kvs, ks, h => ⟨ks, h, fun i => by simp⟩
  | n :: ns, kvs, ks, ⟨e, nd⟩ => by
    simp only [List.map_cons, putAll]
    have hk := khas_ints e n
    by_cases hn : n ∈ ks
    · have e2 : (kput kvs (.int n) v).map (·.1) = ks.map D.int := by
        unfold kput
        rw [if_pos (by rw [hk]; simpa using hn), List.map_map, ← e]
        refine List.map_congr_left fun p _ => ?_
        simp only [Function.comp_apply]
        split <;> rfl
      obtain ⟨ks', h1, h2⟩ := putAll_ints v ns _ ks ⟨e2, nd⟩
      refine ⟨ks', h1, fun i => (h2 i).trans ?_⟩
      rw [List.mem_cons]
      constructor
      · rintro (h | h)
        · exact .inl h
        · exact .inr (.inr h)
      · rintro (h | h | h)
        · exact .inl h
        · exact .inl (h ▸ hn)
        · exact .inr h
    · have e2 : (kput kvs (.int n) v).map (·.1) = (ks ++ [n]).map D.int := by
        unfold kput
        rw [if_neg (by rw [hk]; simpa using hn)]
        simp [e]
      obtain ⟨ks', h1, h2⟩ := putAll_ints v ns _ (ks ++ [n]) ⟨e2, by
        rw [List.nodup_append]
        exact ⟨nd, by simp, fun a ha b hb => by
          have : b = n := by simpa using hb
          exact fun z => hn (by rw [← this, ← z]; exact ha)⟩⟩
      refine ⟨ks', h1, fun i => (h2 i).trans ?_⟩
      rw [List.mem_append, List.mem_singleton, List.mem_cons]
      constructor
      · rintro ((h | h) | h)
        · exact .inl h
        · exact .inr (.inl h)
        · exact .inr (.inr h)
      · rintro (h | h | h)
        · exact .inl (.inl h)
        · exact .inl (.inr h)
        · exact .inr h
theorem pairsOf_map {γ : Type} (f g : γ → D) (xs : List γ) : pairsOf (xs.map fun x => .tup [f x, g x]) = some (xs.map fun x => (f x, g x)) := by
  induction xs with
  | nil => rfl
  | cons x xs ih => simp [pairsOf, ih]

/-! ### sorted sets -/
theorem mem_ins (x : Int) : ∀ (l : List Int) (y : Int), y ∈ ins x l ↔ y = x ∨ y ∈ l
  | [], y => by simp [ins]
  | z :: l, y => by
    unfold ins
    split
    · simp
    · simp only [List.mem_cons, mem_ins x l y]
      constructor
      · rintro (h | h | h)
        · exact .inr (.inl h)
        · exact .inl h
        · exact .inr (.inr h)
      · rintro (h | h | h)
        · exact .inr (.inl h)
        · exact .inl h
        · exact .inr (.inr h)
theorem mem_isort : ∀ (l : List Int) (y : Int), y ∈ isort l ↔ y ∈ l
  | [], y => by simp [isort]
  | x :: l, y => by simp [isort, mem_ins, mem_isort l]
theorem len_ins (x : Int) : ∀ l : List Int, (ins x l).length = l.length + 1
  | [] => rfl
  | z :: l => by
    unfold ins
    split
    · rfl
    · simp [len_ins x l]
theorem len_isort : ∀ l : List Int, (isort l).length = l.length
  | [] => rfl
  | x :: l => by simp [isort, len_ins, len_isort l]
theorem ins_srt (x : Int) : ∀ l : List Int, l.Pairwise (· ≤ ·) → (ins x l).Pairwise (· ≤ ·)
  | [], _ => by simp [ins]
  | z :: l, h => by
    have h1 := List.pairwise_cons.mp h
    unfold ins
    split
    · rename_i hx
      refine List.pairwise_cons.mpr ⟨fun y hy => ?_, h⟩
      rcases List.mem_cons.mp hy with e | hy
      · rw [e]; exact hx
      · exact Int.le_trans hx (h1.1 y hy)
    · rename_i hx
      refine List.pairwise_cons.mpr ⟨fun y hy => ?_, ins_srt x l h1.2⟩
      rcases (mem_ins x l y).mp hy with e | hy
      · rw [e]; omega
      · exact h1.1 y hy
theorem isort_srt : ∀ l : List Int, (isort l).Pairwise (· ≤ ·)
  | [] => by simp [isort]
  | x :: l => ins_srt x _ (isort_srt l)
theorem mem_dedupI : ∀ (l : List Int) (y : Int), y ∈ dedupI l ↔ y ∈ l
  | [], y => by simp [dedupI]
  | x :: l, y => by
    unfold dedupI
    split
    · rename_i hx
      rw [mem_dedupI l, List.mem_cons]
      constructor
      · exact .inr
      · rintro (h | h)
        · rw [h]; exact hx
        · exact h
    · rw [List.mem_cons, List.mem_cons, mem_dedupI l]
theorem nodup_dedupI : ∀ l : List Int, (dedupI l).Nodup
  | [] => by simp [dedupI]
  | x :: l => by
    unfold dedupI
    split
    · exact nodup_dedupI l
    · rename_i hx
      exact List.nodup_cons.mpr ⟨fun h => hx ((mem_dedupI l x).mp h), nodup_dedupI l⟩
theorem nodup_ins (x : Int) : ∀ l : List Int, l.Nodup → x ∉ l → (ins x l).Nodup
  | [], _, _ => by simp [ins]
  | z :: l, h, hx => by
    have h1 := List.nodup_cons.mp h
    unfold ins
    split
    · exact List.nodup_cons.mpr ⟨hx, h⟩
    · refine List.nodup_cons.mpr ⟨fun hz => ?_, nodup_ins x l h1.2 fun q => hx (List.mem_cons_of_mem _ q)⟩
      rcases (mem_ins x l z).mp hz with e | hz
      · exact hx (e ▸ List.mem_cons_self)
      · exact h1.1 hz
theorem nodup_isort : ∀ l : List Int, l.Nodup → (isort l).Nodup
  | [], _ => by simp [isort]
  | x :: l, h => by
    have h1 := List.nodup_cons.mp h
    exact nodup_ins x _ (nodup_isort l h1.2) fun q => h1.1 ((mem_isort l x).mp q)
/-- two ascending lists of the same numbers are one -/
theorem asc_uniq : ∀ {xs ys : List Int}, xs.Pairwise (· < ·) → ys.Pairwise (· < ·) → (∀ x, x ∈ xs ↔ x ∈ ys) → xs = ys
  | [], [], _, _, _ => rfl
  | [], y :: ys, _, _, h => absurd ((h y).mpr List.mem_cons_self) (by simp)
  | x :: xs, [], _, _, h => absurd ((h x).mp List.mem_cons_self) (by simp)
  | x :: xs, y :: ys, hx, hy, h => by
    have h1 := List.pairwise_cons.mp hx
    have h2 := List.pairwise_cons.mp hy
    have e : x = y := by
      rcases List.mem_cons.mp ((h x).mp List.mem_cons_self) with e | q
      · exact e
      · rcases List.mem_cons.mp ((h y).mpr List.mem_cons_self) with e | q2
        · exact e.symm
        · have a := h2.1 x q
          have b := h1.1 y q2
          omega
    subst e
    rw [asc_uniq h1.2 h2.2 fun z => ?_]
    constructor
    · intro hz
      rcases List.mem_cons.mp ((h z).mp (List.mem_cons_of_mem _ hz)) with e | q
      · have := h1.1 z hz
        omega
      · exact q
    · intro hz
      rcases List.mem_cons.mp ((h z).mpr (List.mem_cons_of_mem _ hz)) with e | q
      · have := h2.1 z hz
        omega
      · exact q
theorem isort_asc (l : List Int) : (isort (dedupI l)).Pairwise (· < ·) := by
  have h1 := isort_srt (dedupI l)
  have h2 := List.nodup_iff_pairwise_ne.mp (nodup_isort _ (nodup_dedupI l))
  refine (List.Pairwise.and h1 h2).imp ?_
  rintro a b ⟨h, k⟩
  omega
/-- the sorted set, told -/
theorem sortset_eq {l s : List Int} (hs : s.Pairwise (· < ·)) (hm : ∀ x, x ∈ s ↔ x ∈ l) : isort (dedupI l) = s :=
  asc_uniq (isort_asc l) hs fun x => by rw [mem_isort, mem_dedupI, hm]
theorem len_sortset {l s : List Int} (hs : s.Pairwise (· < ·)) (hm : ∀ x, x ∈ s ↔ x ∈ l) : (dedupI l).length = s.length := by
  rw [← sortset_eq hs hm, len_isort]
end Px

set_option autoImplicit false
set_option linter.all false
set_option maxRecDepth 100000
/-! Tables: rows of smaller numbers; what is told row by row. -/
namespace Px
open PySem (Str)
/-- a number as data -/
def natD (k : Nat) : D := .int (k : Int)
def rowD (r : List Nat) : D := .tup (r.map natD)
def tabD (t : List (List Nat)) : D := .tup (t.map rowD)
@[simp] theorem natD_pure (k : Nat) : (natD k).pure = true := by simp [natD, D.pure]
theorem natDs_pure (r : List Nat) : pureL (r.map natD) = true := pureL_map natD_pure r
@[simp] theorem rowD_pure (r : List Nat) : (rowD r).pure = true := by simpa [rowD, D.pure] using natDs_pure r
theorem rowDs_pure (t : List (List Nat)) : pureL (t.map rowD) = true := pureL_map rowD_pure t
@[simp] theorem tabD_pure (t : List (List Nat)) : (tabD t).pure = true := by simpa [tabD, D.pure] using rowDs_pure t
@[simp] theorem intsOf_natD (r : List Nat) : intsOf (r.map natD) = some (r.map fun k : Nat => (k : Int)) := intsOf_mapf _ _
/-- a table: numbers of rows ahead -/
def WF (t : List (List Nat)) : Prop := ∀ (k : Nat) (r : List Nat), t[k]? = some r → ∀ x ∈ r, x < k
/-- the value at a place -/
def vl {β : Type} [Inhabited β] (T : List β) (j : Nat) : β := T.getD j default
/-- the first values -/
def beg {β : Type} (T : List β) (i : Nat) : List β := T.take i
/-- T tells by g what each row is worth, from what its numbers are worth -/
def Told {β : Type} [Inhabited β] (g : Nat → List β → β) (t : List (List Nat)) (T : List β) : Prop :=
  T.length = t.length ∧ ∀ (k : Nat) (r : List Nat), t[k]? = some r → T[k]? = some (g k (r.map fun j => vl T j))
theorem getD_append {β : Type} [Inhabited β] {xs ys : List β} {j : Nat} (h : j < xs.length) : (xs ++ ys).getD j default = xs.getD j default := by
  rw [List.getD_eq_getElem?_getD, List.getD_eq_getElem?_getD, List.getElem?_append_left h]
theorem told_ex {β : Type} [Inhabited β] (g : Nat → List β → β) (t : List (List Nat)) (wf : WF t) : ∃ T, Told g t T := by
  suffices h : ∀ n : Nat, n ≤ t.length → ∃ T : List β, T.length = n ∧ ∀ (k : Nat) (r : List Nat), k < n → t[k]? = some r → T[k]? = some (g k (r.map fun j => vl T j)) by
    obtain ⟨T, h1, h2⟩ := h t.length (Nat.le_refl _)
    exact ⟨T, h1, fun k r e => h2 k r (List.getElem?_eq_some_iff.mp e).1 e⟩
  intro n
  induction n with
  | zero => exact fun _ => ⟨[], rfl, fun k r h => absurd h (Nat.not_lt_zero _)⟩
  | succ n ih =>
    intro hn
    obtain ⟨T, h1, h2⟩ := ih (by omega)
    have ha : ∀ (k : Nat) (r : List Nat) (y : β), k ≤ n → t[k]? = some r → (r.map fun j => vl (T ++ [y]) j) = r.map fun j => vl T j := by
      intro k r y hk e
      refine List.map_congr_left fun j hj => ?_
      have := wf k r e j hj
      exact getD_append (by omega)
    refine ⟨T ++ [g n (t[n].map fun j => vl T j)], by simp [h1], fun k r hk e => ?_⟩
    rw [ha k r _ (by omega) e]
    by_cases hkn : k < n
    · rw [List.getElem?_append_left (by omega)]
      exact h2 k r hkn e
    · obtain rfl : k = n := by omega
      have e2 : t[k] = r := by
        have := List.getElem?_eq_some_iff.mp e
        exact this.2
      rw [List.getElem?_append_right (by omega), h1, e2]
      simp
theorem Told.uniq {β : Type} [Inhabited β] {g : Nat → List β → β} {t : List (List Nat)} {T T' : List β} (wf : WF t) (h : Told g t T) (h' : Told g t T') : T = T' := by
  have key : ∀ n : Nat, ∀ k : Nat, k < n → k < t.length → T[k]? = T'[k]? := by
    intro n
    induction n with
    | zero => exact fun k hk => absurd hk (Nat.not_lt_zero _)
    | succ n ih =>
      intro k hk hl
      have e : t[k]? = some t[k] := by simp [hl]
      rw [h.2 k _ e, h'.2 k _ e]
      congr 2
      refine List.map_congr_left fun j hj => ?_
      have := wf k _ e j hj
      show T.getD j default = T'.getD j default
      rw [List.getD_eq_getElem?_getD, List.getD_eq_getElem?_getD, ih j (by omega) (by omega)]
  refine List.ext_getElem? fun k => ?_
  by_cases hl : k < t.length
  · exact key (k + 1) k (by omega) hl
  · rw [List.getElem?_eq_none (by rw [h.1]; omega), List.getElem?_eq_none (by rw [h'.1]; omega)]
theorem vl_of {β : Type} [Inhabited β] {T : List β} {j : Nat} (h : j < T.length) : T[j]? = some (vl T j) := by
  unfold vl
  rw [List.getD_eq_getElem?_getD]
  simp [h]
theorem vl_eq {β : Type} [Inhabited β] {T : List β} {j : Nat} {x : β} (h : T[j]? = some x) : vl T j = x := by
  unfold vl
  rw [List.getD_eq_getElem?_getD, h]
  rfl
theorem Told.vl {β : Type} [Inhabited β] {g : Nat → List β → β} {t : List (List Nat)} {T : List β} (h : Told g t T) {k : Nat} {r : List Nat} (e : t[k]? = some r) : Px.vl T k = g k (r.map fun j => Px.vl T j) := vl_eq (h.2 k r e)
@[simp] theorem beg_zero {β : Type} (T : List β) : beg T 0 = [] := rfl
theorem beg_all {β : Type} (T : List β) : beg T T.length = T := List.take_length
theorem beg_get {β : Type} [Inhabited β] {T : List β} {i j : Nat} (h : j < i) (hl : j < T.length) : (beg T i)[j]? = some (Px.vl T j) := by
  unfold beg
  rw [List.getElem?_take_of_lt h, vl_of hl]
theorem beg_snoc {β : Type} {γ : Type} (f : β → γ) {T : List β} {i : Nat} {x : β} (h : T[i]? = some x) : (beg T i).map f ++ [f x] = (beg T (i + 1)).map f := by
  have hl := (List.getElem?_eq_some_iff.mp h).1
  unfold beg
  rw [List.take_succ, h]
  simp
theorem beg_len {β : Type} {T : List β} {i : Nat} (h : i ≤ T.length) : (beg T i).length = i := by
  unfold beg
  rw [List.length_take]
  omega
theorem cell_end (h : Hh) (c : Cell) : (h ++ [c])[h.length]? = some c := by simp
theorem cellAt_end (h : Hh) (c : Cell) : cellAt h.length (h ++ [c]) = .ok c (h ++ [c]) := cellAt_eq (cell_end h c)
theorem setCell_end (h : Hh) (c c' : Cell) : setCell h.length c' (h ++ [c]) = .ok () (h ++ [c']) := by
  rw [setCell_eq (by simp)]
  congr 1
  simp
/-- an own list, at the end, leaves -/
theorem leave_end {h : Hh} {xs : List D} {Q : D → Hh → Prop} (hp : pureL xs = true) (q : Q (.lst xs) h) : ∃ d', frz h.length (h ++ [.l xs]) 3 (.ref h.length) = some d' ∧ noLock ((h ++ [Cell.l xs]).drop h.length) = true ∧ Q d' ((h ++ [Cell.l xs]).take h.length) :=
  ⟨_, frz_own 2 (Nat.le_refl _) (cell_end h _) hp, by simp [noLock], by simpa using q⟩
theorem frz_end {h : Hh} {xs : List D} (hp : pureL xs = true) : frz h.length (h ++ [.l xs]) 3 (.ref h.length) = some (.lst xs) := frz_own 2 (Nat.le_refl _) (cell_end h _) hp
theorem noLock_l (xs : List D) : noLock [Cell.l xs] = true := rfl
theorem leave_pure {h : Hh} {d : D} {xs : List D} {Q : D → Hh → Prop} (hp : d.pure = true) (q : Q d h) : ∃ d', frz h.length (h ++ [.l xs]) 3 d = some d' ∧ noLock ((h ++ [Cell.l xs]).drop h.length) = true ∧ Q d' ((h ++ [Cell.l xs]).take h.length) :=
  ⟨_, frz_pure _ _ _ _ hp, by simp [noLock], by simpa using q⟩
/-- what leaves a def, told apart from what it is then (simp keeps out) -/
def Leaves (base : Nat) (Q : D → Hh → Prop) (d : D) (h' : Hh) (_ : Tag Q := .mk) : Prop := ∃ d', frz base h' 3 d = some d' ∧ noLock (h'.drop base) = true ∧ Q d' (h'.take base)
theorem Ok_leaves {base : Nat} {r : Res D} {Q : D → Hh → Prop} (o : Ok r fun d h' => Leaves base Q d h') : Ok (leave base r) Q := Ok_leave (o.imp0 fun _ _ h => h)
/-- nothing own is left -/
theorem Leaves.none {h : Hh} {d : D} {Q : D → Hh → Prop} (hp : d.pure = true) (q : Q d h) : Leaves h.length Q d h := ⟨d, frz_pure _ _ _ _ hp, by simp [noLock], by simpa using q⟩
/-- one own cell is left, k other ones -/
theorem Leaves.cells {k : Nat} {h o : Hh} {d : D} {Q : D → Hh → Prop} (e : h.length = k) (hp : d.pure = true) (hc : noLock o = true) (q : Q d h) : Leaves k Q d (h ++ o) := by
  subst e
  exact ⟨d, frz_pure _ _ _ _ hp, by rw [List.drop_left]; exact hc, by rw [List.take_left]; exact q⟩
/-- an own list at the end leaves -/
theorem Leaves.list {k : Nat} {h : Hh} {xs : List D} {Q : D → Hh → Prop} (e : h.length = k) (hp : pureL xs = true) (q : Q (.lst xs) h) : Leaves k Q (.ref k) (h ++ [.l xs]) := by
  subst e
  exact ⟨_, frz_end hp, by rw [List.drop_left]; rfl, by rw [List.take_left]; exact q⟩
theorem map_eraseIdx' {α β : Type} (f : α → β) : ∀ (l : List α) (j : Nat), (l.map f).eraseIdx j = (l.eraseIdx j).map f
  | [], _ => rfl
  | _ :: _, 0 => rfl
  | x :: l, j + 1 => by
    rw [List.map_cons, List.eraseIdx_cons_succ, List.eraseIdx_cons_succ, List.map_cons, map_eraseIdx' f l j]
theorem erase_perm {α : Type} : ∀ (l : List α) (j : Nat) (hj : j < l.length), (l[j] :: l.eraseIdx j).Perm l
  | [], _, h => absurd h (Nat.not_lt_zero _)
  | _ :: _, 0, _ => List.Perm.refl _
  | x :: l, j + 1, h => by
    rw [List.getElem_cons_succ, List.eraseIdx_cons_succ]
    exact (List.Perm.swap _ _ _).trans (List.Perm.cons _ (erase_perm l j (by simpa using h)))
end Px

set_option autoImplicit false
set_option linter.all false
set_option maxRecDepth 100000
/-! The defs of the program in k84, as they stand; tables. -/
namespace K84
open PySem Px
theorem lk_is_whole : P.fns.lookup (("is_whole" : Str), none) = some ⟨1, 1, false, b_is_whole⟩ := by kernel_rfl
theorem lk_is_between : P.fns.lookup (("is_between" : Str), none) = some ⟨3, 3, false, b_is_between⟩ := by kernel_rfl
theorem lk_is_row : P.fns.lookup (("is_row" : Str), none) = some ⟨1, 1, false, b_is_row⟩ := by kernel_rfl
theorem lk_is_numbers : P.fns.lookup (("is_numbers" : Str), none) = some ⟨2, 3, false, b_is_numbers⟩ := by kernel_rfl
theorem lk_least_missing : P.fns.lookup (("least_missing" : Str), none) = some ⟨1, 4, false, b_least_missing⟩ := by kernel_rfl
theorem lk_shared_table : P.fns.lookup (("shared_table" : Str), none) = some ⟨1, 4, false, b_shared_table⟩ := by kernel_rfl
theorem lk_table_nimbers : P.fns.lookup (("table_nimbers" : Str), none) = some ⟨1, 4, false, b_table_nimbers⟩ := by kernel_rfl
theorem lk_checked_way : P.fns.lookup (("checked_way" : Str), none) = some ⟨1, 4, false, b_checked_way⟩ := by kernel_rfl
theorem lk_one_short_marks : P.fns.lookup (("one_short_marks" : Str), none) = some ⟨2, 7, false, b_one_short_marks⟩ := by kernel_rfl
theorem lk_all_marks : P.fns.lookup (("all_marks" : Str), none) = some ⟨3, 9, false, b_all_marks⟩ := by kernel_rfl
theorem lk_alone_marks : P.fns.lookup (("alone_marks" : Str), none) = some ⟨1, 4, false, b_alone_marks⟩ := by kernel_rfl
theorem lk_some_marks : P.fns.lookup (("some_marks" : Str), none) = some ⟨3, 9, false, b_some_marks⟩ := by kernel_rfl
theorem lk_marks_by : P.fns.lookup (("marks_by" : Str), none) = some ⟨2, 5, false, b_marks_by⟩ := by kernel_rfl
theorem lk_way_marks : P.fns.lookup (("way_marks" : Str), none) = some ⟨2, 3, false, b_way_marks⟩ := by kernel_rfl
theorem lk__law_pool : P.fns.lookup (("_law_pool" : Str), none) = some ⟨1, 2, true, b__law_pool⟩ := by kernel_rfl
theorem lk__law_take : P.fns.lookup (("_law_take" : Str), none) = some ⟨2, 5, false, b__law_take⟩ := by kernel_rfl
theorem lk__law_pick : P.fns.lookup (("_law_pick" : Str), none) = some ⟨2, 2, false, b__law_pick⟩ := by kernel_rfl
theorem lk__law_is_integer : P.fns.lookup (("_law_is_integer" : Str), none) = some ⟨1, 1, false, b__law_is_integer⟩ := by kernel_rfl
theorem lk__law_same : P.fns.lookup (("_law_same" : Str), none) = some ⟨2, 3, false, b__law_same⟩ := by kernel_rfl
theorem lk__law_order : P.fns.lookup (("_law_order" : Str), none) = some ⟨2, 5, false, b__law_order⟩ := by kernel_rfl
theorem lk__law_given : P.fns.lookup (("_law_given" : Str), none) = some ⟨2, 2, false, b__law_given⟩ := by kernel_rfl
theorem lk__law_missing : P.fns.lookup (("_law_missing" : Str), none) = some ⟨1, 5, false, b__law_missing⟩ := by kernel_rfl
theorem lk__law_nimbers : P.fns.lookup (("_law_nimbers" : Str), none) = some ⟨1, 4, false, b__law_nimbers⟩ := by kernel_rfl
theorem lk__law_shared : P.fns.lookup (("_law_shared" : Str), none) = some ⟨2, 8, false, b__law_shared⟩ := by kernel_rfl
theorem lk__law_rows_mixed : P.fns.lookup (("_law_rows_mixed" : Str), none) = some ⟨2, 6, false, b__law_rows_mixed⟩ := by kernel_rfl
theorem lk__law_ways : P.fns.lookup (("_law_ways" : Str), none) = some ⟨0, 4, false, b__law_ways⟩ := by kernel_rfl
theorem lk__law_step_mark : P.fns.lookup (("_law_step_mark" : Str), none) = some ⟨3, 6, false, b__law_step_mark⟩ := by kernel_rfl
theorem lk__law_mark : P.fns.lookup (("_law_mark" : Str), none) = some ⟨4, 9, false, b__law_mark⟩ := by kernel_rfl
theorem lk__law_marks : P.fns.lookup (("_law_marks" : Str), none) = some ⟨2, 6, false, b__law_marks⟩ := by kernel_rfl
theorem lk__law_fault : P.fns.lookup (("_law_fault" : Str), none) = some ⟨2, 3, false, b__law_fault⟩ := by kernel_rfl
theorem lk__law_joined : P.fns.lookup (("_law_joined" : Str), none) = some ⟨4, 11, false, b__law_joined⟩ := by kernel_rfl
theorem lk__law_joint_steps : P.fns.lookup (("_law_joint_steps" : Str), none) = some ⟨3, 8, false, b__law_joint_steps⟩ := by kernel_rfl
theorem lk__law_long : P.fns.lookup (("_law_long" : Str), none) = some ⟨1, 4, false, b__law_long⟩ := by kernel_rfl
theorem lk__law_always : P.fns.lookup (("_law_always" : Str), none) = some ⟨0, 4, false, b__law_always⟩ := by kernel_rfl
theorem lk_law : P.fns.lookup (("law" : Str), none) = some ⟨1, 16, false, b_law⟩ := by kernel_rfl
theorem helps : Helps P := ⟨by kernel_rfl, by kernel_rfl, by kernel_rfl, by kernel_rfl, by kernel_rfl, by kernel_rfl⟩
theorem kinds : Kinds P := ⟨by kernel_rfl, by kernel_rfl, by kernel_rfl⟩
end K84

set_option autoImplicit false
set_option linter.all false
set_option maxRecDepth 100000
/-! k84: the program's own defs. -/
namespace K84
open PySem Px
theorem run_least_missing (n : Nat) (hn : 1 ≤ n) (base : Nat) (ns : List Int) (hl : ns.length < 1000000) (h : Hh) : run P n (("least_missing" : Str), none) base [.lst (ns.map .int)] h = .ok (natD (mex ns)) h := by
  obtain ⟨m, rfl⟩ : ∃ m, n = m + 1 := ⟨n - 1, by omega⟩
  rw [run_fn m base _ h lk_least_missing rfl rfl]
  apply Ok.eq
  apply Ok_leave0
  simp [b_least_missing, startEnv]
  rw [collectI_map D.int (fun i => D.tup [.int i, .bl true]) ns]
  · simp [pairsOf_map]
    obtain ⟨ks, ⟨hk1, hk2⟩, hk3⟩ := putAll_ints (.bl true) ns [] [] ⟨rfl, by simp⟩
    have hk3 : ∀ i, i ∈ ks ↔ i ∈ ns := fun i => by simpa using hk3 i
    have hh := khas_ints hk1
    refine while_ok (fun k env h' => ∃ f : Nat, env = [some (.lst (ns.map .int)), some (.dct .k (putAll [] (ns.map fun i => (D.int i, D.bl true)))), some (natD f), none] ∧ h' = h ∧ k + f = ns.length + 1 ∧ ∀ j : Nat, j < f → (j : Int) ∈ ns) ?_ fuel (ns.length + 1) _ h (by show ns.length + 1 < 1000000000000; omega) ⟨0, rfl, rfl, rfl, fun j hj => absurd hj (Nat.not_lt_zero _)⟩
    rintro k env h' ⟨f, rfl, rfl, hkf, hf⟩
    have := mex_le hf
    by_cases hm : (f : Int) ∈ ns
    · simp [inD, keyOk, D.flat, natD, hh, hk3, hm]
      refine ⟨k - 1, by omega, f + 1, by simp, by omega, fun j hj => ?_⟩
      rcases Nat.lt_succ_iff_lt_or_eq.mp hj with l | l
      · exact hf j l
      · rw [l]; exact hm
    · simp [inD, keyOk, D.flat, natD, hh, hk3, hm, D.pure]
      rw [IsMex.eq ⟨hm, hf⟩]
  · intro i hi
    apply nox_eq
    apply Ok.eq
    simp [keyOk, D.flat]
theorem run_least_missing' (n : Nat) (hn : 1 ≤ n) (base : Nat) (xs : List D) (ns : List Int) (hx : xs = ns.map .int) (hl : ns.length < 1000000) (h : Hh) : run P n (("least_missing" : Str), none) base [.lst xs] h = .ok (natD (mex ns)) h := by
  rw [hx]
  exact run_least_missing n hn base ns hl h
theorem run_table_nimbers (n : Nat) (hn : 2 ≤ n) (base : Nat) (h : Hh) (t : List (List Nat)) (T : List Nat) (hT : Told (fun _ some => mex (some.map fun k : Nat => (k : Int))) t T) (wf : WF t) (hs : ∀ r ∈ t, r.length < 1000000) (hl : t.length < big) :
    run P n (("table_nimbers" : Str), none) base [tabD t] h = .ok (.tup (T.map natD)) h := by
  obtain ⟨m, rfl⟩ : ∃ m, n = m + 1 := ⟨n - 1, by omega⟩
  rw [run_fn m base _ h lk_table_nimbers rfl rfl]
  apply Ok.eq
  apply Ok_leave
  simp [b_table_nimbers, startEnv, short, Px.alloc, tabD]
  refine for_ok (fun i env h' => ∃ a b, env = [some (.tup (t.map rowD)), some (.ref h.length), a, b] ∧ h' = h ++ [.l ((beg T i).map natD)]) ⟨none, none, by simp⟩ ?_ ?_
  · rintro i x env h' hx ⟨a, b, rfl, rfl⟩
    rw [List.getElem?_map] at hx
    obtain ⟨r, hr, rfl⟩ := Option.map_eq_some_iff.mp hx
    have hi := (List.getElem?_eq_some_iff.mp hr).1
    have hTi := hT.2 i r hr
    simp [turn, rowD, lstOf, cellAt_end]
    rw [collectI_map natD (fun k => natD (vl T k)) r]
    · simp
      rw [run_least_missing' m (by omega) _ _ (r.map fun k => ((vl T k : Nat) : Int)) (by simp [natD]) (by simpa using hs r (List.mem_of_getElem? hr))]
      have hb : (beg T i).length < big := by rw [beg_len (by rw [hT.1]; omega)]; omega
      simp [lmop, cellAt_end, setCell_end, storable, hb]
      rw [← beg_snoc natD hTi]
      simp [Function.comp_def]
    · intro j hj
      have hji := wf i r hr j hj
      apply nox_eq
      apply Ok.eq
      simp [natD, idxop, cellAt_end, atD_nat, beg_get hji (by rw [hT.1]; omega)]
  · rintro env h' ⟨a, b, rfl, rfl⟩
    rw [List.length_map, ← hT.1, beg_all]
    simp [cellAt_end, seqOf, frz_pure, D.pure, natDs_pure, noLock]
/-- a mark or None -/
def oD : Option Int → D
  | none => .non
  | some i => .int i
@[simp] theorem oD_none : oD none = .non := rfl
@[simp] theorem oD_some (i : Int) : oD (some i) = .int i := rfl
@[simp] theorem oD_pure (o : Option Int) : (oD o).pure = true := by cases o <;> rfl
@[simp] theorem oDs_pure (os : List (Option Int)) : pureL (os.map oD) = true := pureL_map oD_pure os
@[simp] theorem oD_scal (o : Option Int) : (oD o).scal = true := by cases o <;> rfl
theorem oDs_scal (os : List (Option Int)) : (os.map oD).all D.scal = true := by simp
theorem inSeq_non (os : List (Option Int)) : inSeq .non (os.map oD) = Px.ret (decide (none ∈ os)) := by
  unfold inSeq
  rw [oDs_scal, if_pos (by simp [D.scal])]
  congr 1
  induction os with
  | nil => simp
  | cons o os ih =>
    rw [List.map_cons, List.any_cons, ih]
    cases o <;> simp [D.eqv]
theorem inSeq_int (i : Int) (os : List (Option Int)) : inSeq (.int i) (os.map oD) = Px.ret (decide (some i ∈ os)) := by
  unfold inSeq
  rw [oDs_scal, if_pos (by simp [D.scal])]
  congr 1
  induction os with
  | nil => simp
  | cons o os ih =>
    rw [List.map_cons, List.any_cons, ih]
    cases o with
    | none => simp [D.eqv]
    | some j =>
      by_cases h : j = i
      · simp [D.eqv, h]
      · have : ¬ i = j := fun z => h z.symm
        simp [D.eqv, h, this]
/-- the numbers from 0 on -/
def posP : Option Int → Bool
  | none => false
  | some i => decide (0 ≤ i)
def posI (os : List (Option Int)) : List Int := (os.filter posP).filterMap id
theorem posI_D (os : List (Option Int)) : (os.filter posP).map oD = (posI os).map D.int := by
  unfold posI
  induction os with
  | nil => rfl
  | cons o os ih =>
    cases o with
    | none => simpa [List.filter_cons, posP] using ih
    | some i =>
      by_cases h : 0 ≤ i
      · simpa [List.filter_cons, posP, h] using ih
      · simpa [List.filter_cons, posP, h] using ih
theorem posI_len (os : List (Option Int)) : (posI os).length ≤ os.length := Nat.le_trans (List.length_filterMap_le _ _) (List.length_filter_le _ _)
noncomputable def gOne (is_last : Bool) (os : List (Option Int)) : Option Int := if os = [] then none else if is_last = true ∧ none ∈ os then some (-1) else some (mex (posI os) : Int)
theorem map_nil_iff {α β : Type} (f : α → β) (r : List α) : (r.map f = []) ↔ r = [] := by simp
theorem run_one_short_marks (n : Nat) (hn : 2 ≤ n) (base : Nat) (h : Hh) (b : Bool) (t : List (List Nat)) (T : List (Option Int)) (hT : Told (fun _ => gOne b) t T) (wf : WF t) (hs : ∀ r ∈ t, r.length < 1000000) (hl : t.length < big) :
    run P n (("one_short_marks" : Str), none) base [tabD t, .bl b] h = .ok (.lst (T.map oD)) h := by
  obtain ⟨m, rfl⟩ : ∃ m, n = m + 1 := ⟨n - 1, by omega⟩
  rw [run_fn m base _ h lk_one_short_marks rfl rfl]
  apply Ok.eq
  apply Ok_leave
  simp [b_one_short_marks, startEnv, short, Px.alloc, tabD]
  refine for_ok (fun i env h' => ∃ a c d e, env = [some (.tup (t.map rowD)), some (.bl b), some (.ref h.length), a, c, d, e] ∧ h' = h ++ [.l ((beg T i).map oD)]) ⟨none, none, none, none, by simp⟩ ?_ ?_
  · rintro i x env h' hx ⟨a, c, d, e, rfl, rfl⟩
    rw [List.getElem?_map] at hx
    obtain ⟨r, hr, rfl⟩ := Option.map_eq_some_iff.mp hx
    have hi := (List.getElem?_eq_some_iff.mp hr).1
    have hTi := hT.2 i r hr
    have hb : (beg T i).length < big := by rw [beg_len (by rw [hT.1]; omega)]; omega
    simp [turn, rowD]
    rw [collectI_map natD (fun k => oD (vl T k)) r]
    · rw [show (r.map fun k => oD (vl T k)) = (r.map (vl T)).map oD by simp]
      have hle : (r.map (vl T)).length < 1000000 := by simpa using hs r (List.mem_of_getElem? hr)
      have h0 := map_nil_iff (vl T) r
      generalize r.map (vl T) = os at hTi h0 hle
      by_cases h1 : r = []
      · have h2 := h0.mpr h1
        subst h1 h2
        have hTv : T[i]? = some none := by simpa [gOne] using hTi
        simp [lmop, lstOf, cellAt_end, setCell_end, storable, hb]
        rw [← beg_snoc oD hTv]
        simp
      · have h2 : ¬ os = [] := fun z => h1 (h0.mp z)
        by_cases h3 : b = true ∧ none ∈ os
        · have hTv : T[i]? = some (some (-1)) := by simpa [gOne, h2, h3] using hTi
          obtain ⟨rfl, h3⟩ := h3
          simp [h1, inD, inSeq_non, h3, lmop, lstOf, cellAt_end, setCell_end, storable, hb]
          rw [← beg_snoc oD hTv]
          simp
        · have q : gOne b os = some (mex (posI os) : Int) := by
            unfold gOne
            rw [if_neg h2, if_neg h3]
          have hTv : T[i]? = some (some (mex (posI os) : Int)) := by
            rw [← q]
            exact hTi
          have goal2 : Ok (collectI (compI (cxt P (Px.run P m)) h.length [some (.tup (t.map rowD)), some (.bl b), some (.ref h.length), some (.tup (r.map natD)), some (.lst (os.map oD)), d, e] [6] (.var 6) (.name 6) [(.and (.cmp .isnot (.var 6) (.lit .non)) (.cmp .ge (.var 6) (.lit (.int 0))))]) (os.map oD) (h ++ [Cell.l ((beg T i).map oD)])) fun a h' => a = (posI os).map D.int ∧ h' = h ++ [Cell.l ((beg T i).map oD)] := by
            rw [collectI_filter oD posP oD os]
            · exact ⟨posI_D os, rfl⟩
            · intro y hy
              apply nox_eq
              apply Ok.eq
              cases y with
              | none => simp [posP]
              | some j => by_cases hj : 0 ≤ j <;> simp [posP, hj]
          have hlen : (posI os).length < 1000000 := by have := posI_len os; omega
          cases b with
          | false =>
            simp [h1, lstOf, cellAt_end]
            rw [Ok.eq goal2]
            simp
            rw [run_least_missing m (by omega) _ _ hlen]
            simp [natD, lmop, lstOf, cellAt_end, setCell_end, storable, hb]
            rw [← beg_snoc oD hTv]
            simp
          | true =>
            have h4 : ¬ none ∈ os := fun z => h3 ⟨rfl, z⟩
            simp [h1, lstOf, cellAt_end, inD, inSeq_non, h4]
            rw [Ok.eq goal2]
            simp
            rw [run_least_missing m (by omega) _ _ hlen]
            simp [natD, lmop, lstOf, cellAt_end, setCell_end, storable, hb]
            rw [← beg_snoc oD hTv]
            simp
    · intro j hj
      have hji := wf i r hr j hj
      apply nox_eq
      apply Ok.eq
      simp [natD, idxop, cellAt_end, atD_nat, beg_get hji (by rw [hT.1]; omega)]
  · rintro env h' ⟨a, c, d, e, rfl, rfl⟩
    rw [List.length_map, ← hT.1, beg_all]
    simp [frz_end, noLock_l]
end K84

set_option autoImplicit false
set_option linter.all false
set_option maxRecDepth 100000
/-! k84: the program's own defs, further. -/
namespace K84
open PySem Px
@[simp] theorem ints_pure (ns : List Int) : pureL (ns.map D.int) = true := pureL_map (fun _ => rfl) ns
def minL (l : List Int) : Int := (minI l).getD 0
def maxL (l : List Int) : Int := (maxI l).getD 0
theorem minI_some {l : List Int} (h : l ≠ []) : minI l = some (minL l) := by
  cases l with
  | nil => exact absurd rfl h
  | cons x r => rfl
theorem maxI_some {l : List Int} (h : l ≠ []) : maxI l = some (maxL l) := by
  cases l with
  | nil => exact absurd rfl h
  | cons x r => rfl
def fitI (w : Int) (ns : List Int) : List Int := ns.filter fun x => x % 2 == w
/-- how soon a win is, or how late a loss (is_short), or the other way round -/
def gAll (is_short : Bool) (w : Int) (ns : List Int) : Int :=
  if ns = [] then 0 else if is_short = true then 1 + (if fitI w ns ≠ [] then minL (fitI w ns) else maxL ns) else 1 + (if fitI w ns ≠ [] then maxL (fitI w ns) else minL ns)
theorem run_all_marks (n : Nat) (hn : 2 ≤ n) (base : Nat) (h : Hh) (b : Bool) (w : Int) (t : List (List Nat)) (T : List Int) (hT : Told (fun _ => gAll b w) t T) (wf : WF t) (hl : t.length < big) :
    run P n (("all_marks" : Str), none) base [tabD t, .bl b, .int w] h = .ok (.lst (T.map .int)) h := by
  obtain ⟨m, rfl⟩ : ∃ m, n = m + 1 := ⟨n - 1, by omega⟩
  rw [run_fn m base _ h lk_all_marks rfl rfl]
  apply Ok.eq
  apply Ok_leave
  simp [b_all_marks, startEnv, short, Px.alloc, tabD]
  refine for_ok (fun i env h' => ∃ a c d e f, env = [some (.tup (t.map rowD)), some (.bl b), some (.int w), some (.ref h.length), a, c, d, e, f] ∧ h' = h ++ [.l ((beg T i).map .int)]) ⟨none, none, none, none, none, by simp⟩ ?_ ?_
  · rintro i x env h' hx ⟨a, c, d, e, f, rfl, rfl⟩
    rw [List.getElem?_map] at hx
    obtain ⟨r, hr, rfl⟩ := Option.map_eq_some_iff.mp hx
    have hi := (List.getElem?_eq_some_iff.mp hr).1
    have hTi := hT.2 i r hr
    have hb : (beg T i).length < big := by rw [beg_len (by rw [hT.1]; omega)]; omega
    simp [turn, rowD]
    rw [collectI_map natD (fun k => D.int (vl T k)) r]
    · rw [show (r.map fun k => D.int (vl T k)) = (r.map (vl T)).map D.int by simp]
      have h0 := map_nil_iff (vl T) r
      generalize r.map (vl T) = os at hTi h0
      simp
      rw [collectI_filter D.int (fun x => x % 2 == w) D.int os]
      · change T[i]? = some (gAll b w os) at hTi
        rw [show (os.filter fun x => x % 2 == w) = fitI w os from rfl]
        by_cases h1 : r = []
        · have h2 := h0.mpr h1
          subst h1 h2
          have hTv : T[i]? = some 0 := by rw [hTi]; rfl
          simp [lmop, lstOf, cellAt_end, setCell_end, storable, hb, D.pure]
          rw [← beg_snoc D.int hTv]
        · have h2 : ¬ os = [] := fun z => h1 (h0.mp z)
          have e1 := minI_some h2
          have e2 := maxI_some h2
          cases b with
          | true =>
            by_cases h3 : fitI w os = []
            · have hTv : T[i]? = some (1 + maxL os) := by rw [hTi]; simp [gAll, h2, h3]
              simp [h1, h3, e1, e2, lmop, lstOf, cellAt_end, setCell_end, storable, hb, D.pure]
              rw [← beg_snoc D.int hTv]
            · have e3 := minI_some h3
              have hTv : T[i]? = some (1 + minL (fitI w os)) := by rw [hTi]; simp [gAll, h2, h3]
              simp [h1, h3, e3, lmop, lstOf, cellAt_end, setCell_end, storable, hb, D.pure]
              rw [← beg_snoc D.int hTv]
          | false =>
            by_cases h3 : fitI w os = []
            · have hTv : T[i]? = some (1 + minL os) := by rw [hTi]; simp [gAll, h2, h3]
              simp [h1, h3, e1, e2, lmop, lstOf, cellAt_end, setCell_end, storable, hb, D.pure]
              rw [← beg_snoc D.int hTv]
            · have e3 := maxI_some h3
              have hTv : T[i]? = some (1 + maxL (fitI w os)) := by rw [hTi]; simp [gAll, h2, h3]
              simp [h1, h3, e3, lmop, lstOf, cellAt_end, setCell_end, storable, hb, D.pure]
              rw [← beg_snoc D.int hTv]
      · intro y hy
        apply nox_eq
        apply Ok.eq
        by_cases hj : y % 2 = w <;> simp [hj]
    · intro j hj
      have hji := wf i r hr j hj
      apply nox_eq
      apply Ok.eq
      simp [natD, idxop, cellAt_end, atD_nat, beg_get hji (by rw [hT.1]; omega)]
  · rintro env h' ⟨a, c, d, e, f, rfl, rfl⟩
    rw [List.length_map, ← hT.1, beg_all]
    simp [frz_end, noLock_l]
def gAlone (ns : List Int) : Int := if ns = [] ∨ 0 ∈ ns then 1 else 0
theorem inSeq_ints (i : Int) (os : List Int) : inSeq (.int i) (os.map .int) = Px.ret (decide (i ∈ os)) := by
  have := inSeq_int i (os.map some)
  simpa [Function.comp_def, List.map_map] using this
theorem run_alone_marks (n : Nat) (hn : 1 ≤ n) (base : Nat) (h : Hh) (t : List (List Nat)) (T : List Int) (hT : Told (fun _ => gAlone) t T) (wf : WF t) (hl : t.length < big) :
    run P n (("alone_marks" : Str), none) base [tabD t] h = .ok (.lst (T.map .int)) h := by
  obtain ⟨m, rfl⟩ : ∃ m, n = m + 1 := ⟨n - 1, by omega⟩
  rw [run_fn m base _ h lk_alone_marks rfl rfl]
  apply Ok.eq
  apply Ok_leave
  simp [b_alone_marks, startEnv, short, Px.alloc, tabD]
  refine for_ok (fun i env h' => ∃ a c, env = [some (.tup (t.map rowD)), some (.ref h.length), a, c] ∧ h' = h ++ [.l ((beg T i).map .int)]) ⟨none, none, by simp⟩ ?_ ?_
  · rintro i x env h' hx ⟨a, c, rfl, rfl⟩
    rw [List.getElem?_map] at hx
    obtain ⟨r, hr, rfl⟩ := Option.map_eq_some_iff.mp hx
    have hi := (List.getElem?_eq_some_iff.mp hr).1
    have hTi := hT.2 i r hr
    have hb : (beg T i).length < big := by rw [beg_len (by rw [hT.1]; omega)]; omega
    by_cases h1 : r = []
    · subst h1
      have hTv : T[i]? = some 1 := by rw [hTi]; simp [gAlone]
      simp [turn, rowD, lmop, lstOf, cellAt_end, setCell_end, storable, hb, D.pure]
      rw [← beg_snoc D.int hTv]
    · simp [turn, rowD, lstOf, cellAt_end, h1]
      rw [collectI_map natD (fun k => D.int (vl T k)) r]
      · rw [show (r.map fun k => D.int (vl T k)) = (r.map (vl T)).map D.int by simp]
        have h0 := map_nil_iff (vl T) r
        generalize r.map (vl T) = os at hTi h0
        have h2 : ¬ os = [] := fun z => h1 (h0.mp z)
        by_cases h3 : 0 ∈ os
        · have hTv : T[i]? = some 1 := by rw [hTi]; simp [gAlone, h3]
          simp [inD, inSeq_ints, h3, lmop, lstOf, cellAt_end, setCell_end, storable, hb, D.pure]
          rw [← beg_snoc D.int hTv]
        · have hTv : T[i]? = some 0 := by rw [hTi]; simp [gAlone, h2, h3]
          simp [inD, inSeq_ints, h3, lmop, lstOf, cellAt_end, setCell_end, storable, hb, D.pure]
          rw [← beg_snoc D.int hTv]
      · intro j hj
        have hji := wf i r hr j hj
        apply nox_eq
        apply Ok.eq
        simp [natD, idxop, cellAt_end, atD_nat, beg_get hji (by rw [hT.1]; omega)]
  · rintro env h' ⟨a, c, rfl, rfl⟩
    rw [List.length_map, ← hT.1, beg_all]
    simp [frz_end, noLock_l]
end K84

set_option autoImplicit false
set_option linter.all false
set_option maxRecDepth 100000
/-! k84: the program's own defs, the last. -/
namespace K84
open PySem Px
def s1 (k : Nat) : Int := if k = 0 then 0 else 1
theorem zipD_map {α β : Type} (f : α → D) (g : β → D) : ∀ (xs : List α) (ys : List β), zipD (xs.map f) (ys.map g) = (xs.zip ys).map fun p => D.tup [f p.1, g p.2]
  | [], _ => by simp [zipD]
  | _ :: _, [] => by simp [zipD]
  | x :: xs, y :: ys => by simp [zipD, zipD_map f g xs ys]
def NimOf : List (List Nat) → List Nat → Prop := Told (fun _ some => mex (some.map fun k : Nat => (k : Int)))
section
variable (n : Nat) (hn : 3 ≤ n) (base : Nat) (h : Hh) (t : List (List Nat)) (N : List Nat) (hN : NimOf t N) (wf : WF t) (hs : ∀ r ∈ t, r.length < 1000000) (hl : t.length < big)
include hn hN wf hs hl
theorem run_some_ll : run P n (("some_marks" : Str), none) base [tabD t, .str ("long" : Str), .str ("last" : Str)] h = .ok (.lst ((N.map s1).map .int)) h := by
  obtain ⟨m, rfl⟩ : ∃ m, n = m + 1 := ⟨n - 1, by omega⟩
  rw [run_fn m base _ h lk_some_marks rfl rfl]
  apply Ok.eq
  apply Ok_leave0
  simp [b_some_marks, startEnv, run_table_nimbers m (by omega) _ _ t N hN wf hs hl]
  rw [collectI_map natD (fun k => D.int (s1 k)) N]
  · simp [D.pure]
    exact pureL_map (fun _ => rfl) N
  · intro k hk
    apply nox_eq
    apply Ok.eq
    by_cases h0 : k = 0 <;> simp [natD, s1, h0]
theorem run_some_sl : run P n (("some_marks" : Str), none) base [tabD t, .str ("short" : Str), .str ("last" : Str)] h = .ok (.lst ((N.zip t).map fun p => if p.2 = [] then D.non else .int (s1 p.1))) h := by
  obtain ⟨m, rfl⟩ : ∃ m, n = m + 1 := ⟨n - 1, by omega⟩
  rw [run_fn m base _ h lk_some_marks rfl rfl]
  apply Ok.eq
  apply Ok_leave0
  simp [b_some_marks, startEnv, run_table_nimbers m (by omega) _ _ t N hN wf hs hl]
  rw [collectI_map natD (fun k => D.int (s1 k)) N]
  · simp [tabD, zipD_map]
    rw [collectI_map (fun p : Nat × List Nat => D.tup [.int (s1 p.1), rowD p.2]) (fun p => if p.2 = [] then D.non else .int (s1 p.1)) (N.zip t)]
    · simp [D.pure]
      exact pureL_map (fun p => by split <;> rfl) _
    · rintro ⟨k, r⟩ hk
      apply nox_eq
      apply Ok.eq
      by_cases h0 : r = [] <;> simp [rowD, h0]
  · intro k hk
    apply nox_eq
    apply Ok.eq
    by_cases h0 : k = 0 <;> simp [natD, s1, h0]
theorem run_some_ln (A : List Int) (hA : Told (fun _ => gAlone) t A) : run P n (("some_marks" : Str), none) base [tabD t, .str ("long" : Str), .str ("not last" : Str)] h = .ok (.lst ((N.zip A).map fun p => D.tup [.int (s1 p.1), .int p.2])) h := by
  obtain ⟨m, rfl⟩ : ∃ m, n = m + 1 := ⟨n - 1, by omega⟩
  rw [run_fn m base _ h lk_some_marks rfl rfl]
  apply Ok.eq
  apply Ok_leave0
  simp [b_some_marks, startEnv, run_table_nimbers m (by omega) _ _ t N hN wf hs hl]
  rw [collectI_map natD (fun k => D.int (s1 k)) N]
  · simp [run_alone_marks m (by omega) _ _ t A hA wf hl, zipD_map, D.pure]
    exact pureL_map (fun p => by simp [D.pure, pureL]) _
  · intro k hk
    apply nox_eq
    apply Ok.eq
    by_cases h0 : k = 0 <;> simp [natD, s1, h0]
def gSn (os : List (Option Int)) : Option Int := if os = [] then none else some (if some 0 ∈ os then 1 else 0)
theorem run_some_sn (T : List (Option Int)) (hT : Told (fun _ => gSn) t T) : run P n (("some_marks" : Str), none) base [tabD t, .str ("short" : Str), .str ("not last" : Str)] h = .ok (.lst (T.map oD)) h := by
  obtain ⟨m, rfl⟩ : ∃ m, n = m + 1 := ⟨n - 1, by omega⟩
  rw [run_fn m base _ h lk_some_marks rfl rfl]
  apply Ok.eq
  apply Ok_leave
  simp [b_some_marks, startEnv, run_table_nimbers m (by omega) _ _ t N hN wf hs hl]
  rw [collectI_map natD (fun k => D.int (s1 k)) N]
  · simp [short, Px.alloc]
    simp [tabD]
    refine for_ok (fun i env h' => ∃ a c d e, env = [some (.tup (t.map rowD)), some (.str ("short" : Str)), some (.str ("not last" : Str)), some (.lst (N.map fun k => D.int (s1 k))), some (.ref h.length), a, c, d, e] ∧ h' = h ++ [.l ((beg T i).map oD)]) ⟨none, none, none, none, by simp⟩ ?_ ?_
    · rintro i x env h' hx ⟨a, c, d, e, rfl, rfl⟩
      rw [List.getElem?_map] at hx
      obtain ⟨r, hr, rfl⟩ := Option.map_eq_some_iff.mp hx
      have hi := (List.getElem?_eq_some_iff.mp hr).1
      have hTi := hT.2 i r hr
      have hb : (beg T i).length < big := by rw [beg_len (by rw [hT.1]; omega)]; omega
      by_cases h1 : r = []
      · subst h1
        have hTv : T[i]? = some none := by rw [hTi]; simp [gSn]
        simp [turn, rowD, lmop, lstOf, cellAt_end, setCell_end, storable, hb, D.pure]
        rw [← beg_snoc oD hTv]
        simp
      · simp [turn, rowD, lstOf, cellAt_end, h1]
        rw [collectI_map natD (fun k => oD (vl T k)) r]
        · rw [show (r.map fun k => oD (vl T k)) = (r.map (vl T)).map oD by simp]
          have h0 := map_nil_iff (vl T) r
          generalize r.map (vl T) = os at hTi h0
          have h2 : ¬ os = [] := fun z => h1 (h0.mp z)
          by_cases h3 : some 0 ∈ os
          · have hTv : T[i]? = some (some 1) := by rw [hTi]; simp [gSn, h2, h3]
            simp [inD, inSeq_int, h3, lmop, lstOf, cellAt_end, setCell_end, storable, hb, D.pure]
            rw [← beg_snoc oD hTv]
            simp
          · have hTv : T[i]? = some (some 0) := by rw [hTi]; simp [gSn, h2, h3]
            simp [inD, inSeq_int, h3, lmop, lstOf, cellAt_end, setCell_end, storable, hb, D.pure]
            rw [← beg_snoc oD hTv]
            simp
        · intro j hj
          have hji := wf i r hr j hj
          apply nox_eq
          apply Ok.eq
          simp [natD, idxop, cellAt_end, atD_nat, beg_get hji (by rw [hT.1]; omega)]
    · rintro env h' ⟨a, c, d, e, rfl, rfl⟩
      rw [List.length_map, ← hT.1, beg_all]
      simp [frz_end, noLock_l]
  · intro k hk
    apply nox_eq
    apply Ok.eq
    by_cases h0 : k = 0 <;> simp [natD, s1, h0]
end
end K84

set_option autoImplicit false
set_option linter.all false
set_option maxRecDepth 100000
/-! k84: the law's own marks. -/
namespace K84
open PySem Px
theorem rangeW_at (z : Int) (k : Nat) (hz : z = k) (hk : k ≤ big) : rangeW 0 z = Px.ret (.items ((List.range k).map natD)) := by
  rw [hz]
  exact rangeW_nat k hk
theorem run__law_missing (n : Nat) (hn : 1 ≤ n) (base : Nat) (ns : List Int) (hl : ns.length < 1000000) (h : Hh) : run P n (("_law_missing" : Str), none) base [.lst (ns.map .int)] h = .ok (natD (mex ns)) h := by
  obtain ⟨m, rfl⟩ : ∃ m, n = m + 1 := ⟨n - 1, by omega⟩
  rw [run_fn m base _ h lk__law_missing rfl rfl]
  apply Ok.eq
  apply Ok_leave0
  simp [b__law_missing, startEnv]
  rw [collectI_map D.int (fun i => D.tup [.int i, .bl true]) ns]
  · obtain ⟨ks, ⟨hk1, hk2⟩, hk3⟩ := putAll_ints (.bl true) ns [] [] ⟨rfl, by simp⟩
    have hk3 : ∀ i, i ∈ ks ↔ i ∈ ns := fun i => by simpa using hk3 i
    have hh := khas_ints hk1
    have hlen : (putAll [] (ns.map fun i => (D.int i, D.bl true))).length = ks.length := by simpa using congrArg List.length hk1
    have hle : ks.length ≤ ns.length := nodup_sub hk2 fun x hx => (hk3 x).mp hx
    simp [pairsOf_map, keyOk, D.flat]
    rw [rangeW_at _ (ks.length + 1) (by rw [hlen]; rfl) (by show _ ≤ 16777216; omega)]
    generalize putAll [] (ns.map fun i => (D.int i, D.bl true)) = kvs at hh hlen hk1
    simp
    refine for_ok (fun i env h' => ∃ a, env = [some (.lst (ns.map .int)), some (.dct .k kvs), some (natD i), a, none] ∧ h' = h ∧ ∀ j : Nat, j < i → (j : Int) ∈ ns) ⟨none, rfl, rfl, fun j hj => absurd hj (Nat.not_lt_zero _)⟩ ?_ ?_
    · rintro i x env h' hx ⟨a, rfl, rfl, hf⟩
      by_cases hm : (i : Int) ∈ ns
      · simp [turn, inD, keyOk, D.flat, natD, hh, hk3, hm]
        intro j hj
        rcases Nat.lt_succ_iff_lt_or_eq.mp hj with l | l
        · exact hf j l
        · rw [l]; exact hm
      · simp [turn, inD, keyOk, D.flat, natD, hh, hk3, hm, D.pure]
        rw [IsMex.eq ⟨hm, hf⟩]
    · rintro env h' ⟨a, rfl, rfl, hf⟩
      have := mex_le (ns := ks) (m := ks.length + 1) fun j hj => (hk3 _).mpr (hf j (by simpa using hj))
      omega
  · intro i hi
    apply nox_eq
    apply Ok.eq
    simp [short, big]
theorem run__law_missing' (n : Nat) (hn : 1 ≤ n) (base : Nat) (xs : List D) (ns : List Int) (hx : xs = ns.map .int) (hl : ns.length < 1000000) (h : Hh) : run P n (("_law_missing" : Str), none) base [.lst xs] h = .ok (natD (mex ns)) h := by
  rw [hx]
  exact run__law_missing n hn base ns hl h
theorem run__law_nimbers (n : Nat) (hn : 2 ≤ n) (base : Nat) (h : Hh) (t : List (List Nat)) (T : List Nat) (hT : NimOf t T) (wf : WF t) (hs : ∀ r ∈ t, r.length < 1000000) (hl : t.length < big) :
    run P n (("_law_nimbers" : Str), none) base [tabD t] h = .ok (.tup (T.map natD)) h := by
  obtain ⟨m, rfl⟩ : ∃ m, n = m + 1 := ⟨n - 1, by omega⟩
  rw [run_fn m base _ h lk__law_nimbers rfl rfl]
  apply Ok.eq
  apply Ok_leave
  simp [b__law_nimbers, startEnv, short, Px.alloc, tabD]
  refine for_ok (fun i env h' => ∃ a b, env = [some (.tup (t.map rowD)), some (.ref h.length), a, b] ∧ h' = h ++ [.l ((beg T i).map natD)]) ⟨none, none, by simp⟩ ?_ ?_
  · rintro i x env h' hx ⟨a, b, rfl, rfl⟩
    rw [List.getElem?_map] at hx
    obtain ⟨r, hr, rfl⟩ := Option.map_eq_some_iff.mp hx
    have hi := (List.getElem?_eq_some_iff.mp hr).1
    have hTi := hT.2 i r hr
    simp [turn, rowD, lstOf, cellAt_end]
    rw [collectI_map natD (fun k => natD (vl T k)) r]
    · simp
      rw [run__law_missing' m (by omega) _ _ (r.map fun k => ((vl T k : Nat) : Int)) (by simp [natD]) (by simpa using hs r (List.mem_of_getElem? hr))]
      have hb : (beg T i).length < big := by rw [beg_len (by rw [hT.1]; omega)]; omega
      simp [lmop, cellAt_end, setCell_end, storable, hb]
      rw [← beg_snoc natD hTi]
      simp [Function.comp_def]
    · intro j hj
      have hji := wf i r hr j hj
      apply nox_eq
      apply Ok.eq
      simp [natD, idxop, cellAt_end, atD_nat, beg_get hji (by rw [hT.1]; omega)]
  · rintro env h' ⟨a, b, rfl, rfl⟩
    rw [List.length_map, ← hT.1, beg_all]
    simp [cellAt_end, seqOf, frz_pure, D.pure, natDs_pure, noLock]

/-! ### least and greatest -/
theorem foldl_max_ge : ∀ (l : List Int) (x : Int), x ≤ l.foldl max x ∧ (∀ y ∈ l, y ≤ l.foldl max x) ∧ (l.foldl max x = x ∨ l.foldl max x ∈ l)
  | [], x => by simp
  | y :: l, x => by
    obtain ⟨h1, h2, h3⟩ := foldl_max_ge l (max x y)
    rw [List.foldl_cons]
    refine ⟨by omega, fun z hz => ?_, ?_⟩
    · rcases List.mem_cons.mp hz with e | hz
      · rw [e]; omega
      · exact h2 z hz
    · rcases h3 with e | e
      · rcases Int.le_total x y with q | q
        · right
          rw [e]
          have : max x y = y := by omega
          rw [this]; exact List.mem_cons_self
        · left
          rw [e]; omega
      · exact .inr (List.mem_cons_of_mem _ e)
theorem foldl_min_le : ∀ (l : List Int) (x : Int), l.foldl min x ≤ x ∧ (∀ y ∈ l, l.foldl min x ≤ y) ∧ (l.foldl min x = x ∨ l.foldl min x ∈ l)
  | [], x => by simp
  | y :: l, x => by
    obtain ⟨h1, h2, h3⟩ := foldl_min_le l (min x y)
    rw [List.foldl_cons]
    refine ⟨by omega, fun z hz => ?_, ?_⟩
    · rcases List.mem_cons.mp hz with e | hz
      · rw [e]; omega
      · exact h2 z hz
    · rcases h3 with e | e
      · rcases Int.le_total x y with q | q
        · left
          rw [e]; omega
        · right
          rw [e]
          have : min x y = y := by omega
          rw [this]; exact List.mem_cons_self
      · exact .inr (List.mem_cons_of_mem _ e)
theorem maxL_spec {l : List Int} (h : l ≠ []) : maxL l ∈ l ∧ ∀ y ∈ l, y ≤ maxL l := by
  cases l with
  | nil => exact absurd rfl h
  | cons x r =>
    obtain ⟨h1, h2, h3⟩ := foldl_max_ge r x
    show r.foldl max x ∈ x :: r ∧ _
    refine ⟨?_, fun y hy => ?_⟩
    · rcases h3 with e | e
      · rw [e]; exact List.mem_cons_self
      · exact List.mem_cons_of_mem _ e
    · rcases List.mem_cons.mp hy with e | hy
      · rw [e]; exact h1
      · exact h2 y hy
theorem minL_spec {l : List Int} (h : l ≠ []) : minL l ∈ l ∧ ∀ y ∈ l, minL l ≤ y := by
  cases l with
  | nil => exact absurd rfl h
  | cons x r =>
    obtain ⟨h1, h2, h3⟩ := foldl_min_le r x
    show r.foldl min x ∈ x :: r ∧ _
    refine ⟨?_, fun y hy => ?_⟩
    · rcases h3 with e | e
      · rw [e]; exact List.mem_cons_self
      · exact List.mem_cons_of_mem _ e
    · rcases List.mem_cons.mp hy with e | hy
      · rw [e]; exact h1
      · exact h2 y hy
theorem isort_ne {l : List Int} (h : l ≠ []) : isort l ≠ [] := by
  intro e
  have := len_isort l
  rw [e] at this
  exact h (List.eq_nil_of_length_eq_zero this.symm)
theorem isort_head {l : List Int} (h : l ≠ []) : (isort l)[0]? = some (minL l) := by
  have h2 := isort_ne h
  obtain ⟨h3, h4⟩ := minL_spec h
  have hs := isort_srt l
  cases e : isort l with
  | nil => exact absurd e h2
  | cons x r =>
    rw [e] at hs
    have h5 := (List.pairwise_cons.mp hs).1
    have hx : x ∈ l := (mem_isort l x).mp (by rw [e]; exact List.mem_cons_self)
    have hm : minL l ∈ x :: r := by rw [← e]; exact (mem_isort l _).mpr h3
    have a := h4 x hx
    have b : x ≤ minL l := by
      rcases List.mem_cons.mp hm with e | hm
      · omega
      · exact h5 _ hm
    have : x = minL l := by omega
    rw [this]
    rfl
theorem isort_last {l : List Int} (h : l ≠ []) : (isort l).getLast? = some (maxL l) := by
  have h2 := isort_ne h
  obtain ⟨h3, h4⟩ := maxL_spec h
  have hs := isort_srt l
  rw [List.getLast?_eq_some_getLast h2]
  have hx : (isort l).getLast h2 ∈ l := (mem_isort l _).mp (List.getLast_mem h2)
  have a := h4 _ hx
  have hm : maxL l ∈ isort l := (mem_isort l _).mpr h3
  have b : maxL l ≤ (isort l).getLast h2 := by
    obtain ⟨i, hi, e⟩ := List.getElem_of_mem hm
    rw [List.getLast_eq_getElem, ← e]
    by_cases q : i = (isort l).length - 1
    · subst q; exact Int.le_refl _
    · exact List.pairwise_iff_getElem.mp hs i _ hi (by omega) (by omega)
  congr 1
  omega
theorem atD_last {l : List Int} (h : l ≠ []) : atD ((isort l).map .int) (-1) = some (.int (maxL l)) := by
  have h2 := isort_ne h
  have hp : 0 < (isort l).length := List.length_pos_iff.mpr h2
  unfold atD ixn
  have e1 : ¬ (0 : Int) ≤ -1 := by omega
  have e2 : -((((isort l).map D.int).length : Nat) : Int) ≤ -1 := by rw [List.length_map]; omega
  rw [if_neg e1, if_pos e2]
  have e3 : ((-1 : Int) + (((isort l).map D.int).length : Nat)).toNat = (isort l).length - 1 := by rw [List.length_map]; omega
  have q := isort_last h
  rw [List.getLast?_eq_getElem?] at q
  show ((isort l).map D.int)[((-1 : Int) + (((isort l).map D.int).length : Nat)).toNat]? = _
  rw [e3, List.getElem?_map, q]
  rfl
theorem atD_first {l : List Int} (h : l ≠ []) : atD ((isort l).map .int) 0 = some (.int (minL l)) := by
  have := atD_nat ((isort l).map .int) 0
  rw [List.getElem?_map, isort_head h] at this
  exact this
theorem run__law_step_mark (n : Nat) (hn : 1 ≤ n) (base : Nat) (ns : List Int) (h0 : ns ≠ []) (w : Int) (b : Bool) (h : Hh) : run P n (("_law_step_mark" : Str), none) base [.lst (ns.map .int), .int w, .bl b] h = .ok (.int (gAll b w ns)) h := by
  obtain ⟨m, rfl⟩ : ∃ m, n = m + 1 := ⟨n - 1, by omega⟩
  rw [run_fn m base _ h lk__law_step_mark rfl rfl]
  apply Ok.eq
  apply Ok_leave0
  simp [b__law_step_mark, startEnv]
  rw [collectI_filter D.int (fun x => x % 2 == w) D.int ns]
  · rw [show (ns.filter fun x => x % 2 == w) = fitI w ns from rfl]
    have k1 := atD_last h0
    have k2 := atD_first h0
    cases b with
    | true =>
      by_cases h3 : fitI w ns = []
      · have e0 : intsOf [] = some [] := rfl
        simp [h3, e0, isort, gAll, h0, k1, D.pure]
      · have k3 := atD_first h3
        simp [h3, isort_ne h3, gAll, h0, k3, D.pure]
    | false =>
      by_cases h3 : fitI w ns = []
      · have e0 : intsOf [] = some [] := rfl
        simp [h3, e0, isort, gAll, h0, k2, D.pure]
      · have k3 := atD_last h3
        simp [h3, isort_ne h3, gAll, h0, k3, D.pure]
  · intro y hy
    apply nox_eq
    apply Ok.eq
    by_cases hj : y % 2 = w <;> simp [hj]
end K84

set_option autoImplicit false
set_option linter.all false
set_option maxRecDepth 100000
/-! k84: the law's marks by ways. -/
namespace K84
open PySem Px
theorem run__law_marks (n : Nat) (hn : 4 ≤ n) (base : Nat) (h : Hh) (t : List (List Nat)) (N : List Nat) (hN : NimOf t N) (wf : WF t) (hs : ∀ r ∈ t, r.length < 1000000) (hl : t.length < big) (w : D) (X : List D) (hX : X.length = t.length) (hp : pureL X = true)
    (step : ∀ (k : Nat) (r : List Nat) (m base : Nat) (h : Hh), t[k]? = some r → 2 ≤ m → run P m (("_law_mark" : Str), none) base [w, .lst (r.map (vl X)), .bl r.isEmpty, natD (vl N k)] h = .ok (vl X k) h) :
    run P n (("_law_marks" : Str), none) base [tabD t, w] h = .ok (.tup X) h := by
  obtain ⟨m, rfl⟩ : ∃ m, n = m + 1 := ⟨n - 1, by omega⟩
  rw [run_fn m base _ h lk__law_marks rfl rfl]
  apply Ok.eq
  apply Ok_leave
  have h2 : (2 : Nat) ≤ big := by show 2 ≤ 16777216; omega
  simp [b__law_marks, startEnv, short, Px.alloc, run__law_nimbers m (by omega) _ _ t N hN wf hs hl, h2]
  simp [tabD]
  rw [rangeW_nat _ (by omega)]
  simp
  refine for_ok (fun i env h' => ∃ a b, env = [some (.tup (t.map rowD)), some w, some (.tup (N.map natD)), some (.ref h.length), a, b] ∧ h' = h ++ [.l (beg X i)]) ⟨none, none, by simp⟩ ?_ ?_
  · rintro i x env h' hx ⟨a, b, rfl, rfl⟩
    have hi : i < t.length := by
      have := (List.getElem?_eq_some_iff.mp hx).1
      simpa using this
    have hx : x = natD i := by
      rw [List.getElem?_map, List.getElem?_range hi] at hx
      exact (Option.some.inj hx).symm
    subst hx
    have hr : t[i]? = some t[i] := by simp [hi]
    generalize t[i] = r at hr
    have hNi : N[i]? = some (vl N i) := vl_of (by rw [hN.1]; exact hi)
    have hXi : X[i]? = some (vl X i) := vl_of (by rw [hX]; exact hi)
    simp [turn, lstOf, cellAt_end, natD, atD_nat, hr, rowD]
    rw [collectI_map natD (fun k => vl X k) r]
    · simp [hNi, natD, atD_nat, hr, rowD]
      have hm : 2 ≤ m := by omega
      have := step i r m h.length (h ++ [.l (beg X i)]) hr hm
      simp only [natD] at this
      rw [this]
      have hb : (beg X i).length < big := by rw [beg_len (by omega)]; omega
      simp [lmop, cellAt_end, setCell_end, storable, hb]
      have := beg_snoc id hXi
      simpa using this
    · intro j hj
      have hji := wf i r hr j hj
      apply nox_eq
      apply Ok.eq
      simp [natD, idxop, cellAt_end, atD_nat, beg_get (T := X) hji (by omega)]
  · rintro env h' ⟨a, b, rfl, rfl⟩
    rw [show ((List.range t.length).map fun k : Nat => D.int (k : Int)).length = X.length by simp [hX], beg_all]
    simp [cellAt_end, seqOf, frz_pure, D.pure, hp, noLock]

/-! ### one mark -/
def stD (x : String) : D := .str (Str.ofString x)
theorem eqM_w (a b c a' b' c' : String) : eqM (.tup [stD a, stD b, stD c]) (.tup [stD a', stD b', stD c']) = Px.ret ((a == a') && ((b == b') && (c == c'))) := by
  simp [eqM, D.scal, D.plain, plainL, D.depth, depthL, D.eqv, eqvL, stD]
def endS (b : Bool) : String := if b then "short" else "long"
def goalS (g : Bool) : String := if g then "last" else "not last"
theorem isEmpty_nil {α : Type} (l : List α) : l.isEmpty = decide (l = []) := by cases l <;> rfl
def nonP : Option Int → Bool
  | none => false
  | some _ => true
theorem nonP_D (os : List (Option Int)) : (os.filter nonP).map oD = (os.filterMap id).map D.int := by
  induction os with
  | nil => rfl
  | cons o os ih => cases o <;> simpa [List.filter_cons, nonP] using ih
theorem min1 (k : Nat) : min (1 : Int) (k : Int) = s1 k := by
  unfold s1
  split <;> omega
section
variable (n : Nat) (hn : 2 ≤ n) (base : Nat) (h : Hh) (nim : Nat)
include hn
theorem mark_all (b g : Bool) (ns : List Int) : run P n (("_law_mark" : Str), none) base [.tup [stD "all", stD (endS b), stD (goalS g)], .lst (ns.map .int), .bl ns.isEmpty, natD nim] h = .ok (.int (gAll b (if g then 0 else 1) ns)) h := by
  obtain ⟨m, rfl⟩ : ∃ m, n = m + 1 := ⟨n - 1, by omega⟩
  rw [run_fn m base _ h lk__law_mark rfl rfl]
  apply Ok.eq
  apply Ok_leave0
  by_cases h0 : ns = []
  · subst h0
    simp [b__law_mark, startEnv, stD, D.pure, gAll]
  · have e : ns.isEmpty = false := by rw [isEmpty_nil]; simpa using h0
    rw [e]
    cases b <;> cases g <;> simp [b__law_mark, startEnv, stD, D.pure, endS, goalS, run__law_step_mark m (by omega) _ ns h0]
theorem mark_oll (xs : List D) (b : Bool) : run P n (("_law_mark" : Str), none) base [.tup [stD "one", stD "long", stD "last"], .lst xs, .bl b, natD nim] h = .ok (natD nim) h := by
  obtain ⟨m, rfl⟩ : ∃ m, n = m + 1 := ⟨n - 1, by omega⟩
  rw [run_fn m base _ h lk__law_mark rfl rfl]
  apply Ok.eq
  apply Ok_leave0
  have e := eqM_w
  simp only [stD] at e
  simp [b__law_mark, startEnv, stD, short, big, e]
theorem mark_sll (xs : List D) (b : Bool) : run P n (("_law_mark" : Str), none) base [.tup [stD "some", stD "long", stD "last"], .lst xs, .bl b, natD nim] h = .ok (.int (s1 nim)) h := by
  obtain ⟨m, rfl⟩ : ∃ m, n = m + 1 := ⟨n - 1, by omega⟩
  rw [run_fn m base _ h lk__law_mark rfl rfl]
  apply Ok.eq
  apply Ok_leave0
  have e := eqM_w
  simp only [stD] at e
  simp [b__law_mark, startEnv, stD, short, big, e, natD, min1, D.pure]
theorem mark_sln (ps : List (Int × Int)) : run P n (("_law_mark" : Str), none) base [.tup [stD "some", stD "long", stD "not last"], .lst (ps.map fun p => .tup [.int p.1, .int p.2]), .bl ps.isEmpty, natD nim] h = .ok (.tup [.int (s1 nim), .int (gAlone (ps.map (·.2)))]) h := by
  obtain ⟨m, rfl⟩ : ∃ m, n = m + 1 := ⟨n - 1, by omega⟩
  rw [run_fn m base _ h lk__law_mark rfl rfl]
  apply Ok.eq
  apply Ok_leave0
  have e := eqM_w
  simp only [stD] at e
  by_cases h0 : ps = []
  · subst h0
    simp [b__law_mark, startEnv, stD, short, big, e, natD, min1, D.pure, pureL, gAlone]
  · have e1 : ps.isEmpty = false := by rw [isEmpty_nil]; simpa using h0
    rw [e1]
    simp [b__law_mark, startEnv, stD, short, big, e, natD, min1, D.pure, pureL, gAlone, h0]
    rw [collectI_filter (fun p : Int × Int => D.tup [.int p.1, .int p.2]) (fun p => p.2 == 0) (fun p => D.tup [.int p.1, .int p.2]) ps]
    · by_cases h1 : ∃ a, (a, (0 : Int)) ∈ ps
      · have h2 : ps.filter (fun p => p.2 == 0) ≠ [] := by
          obtain ⟨a, ha⟩ := h1
          intro z
          have := List.filter_eq_nil_iff.mp z _ ha
          simp at this
        simp [h0, h1, h2, pureL, D.pure, min1]
      · have h2 : ps.filter (fun p => p.2 == 0) = [] := by
          refine List.filter_eq_nil_iff.mpr ?_
          rintro ⟨a, b⟩ hp z
          have z : b = 0 := by simpa using z
          subst z
          exact h1 ⟨a, hp⟩
        simp [h0, h1, h2, pureL, D.pure, min1]
    · rintro ⟨a, b⟩ hy
      apply nox_eq
      apply Ok.eq
      have : ∀ x y : D, atD [x, y] 1 = some y := fun _ _ => rfl
      by_cases hj : b = 0 <;> simp [this, hj]
theorem mark_ssl (xs : List D) (b : Bool) : run P n (("_law_mark" : Str), none) base [.tup [stD "some", stD "short", stD "last"], .lst xs, .bl b, natD nim] h = .ok (if b then .non else .int (s1 nim)) h := by
  obtain ⟨m, rfl⟩ : ∃ m, n = m + 1 := ⟨n - 1, by omega⟩
  rw [run_fn m base _ h lk__law_mark rfl rfl]
  apply Ok.eq
  apply Ok_leave0
  have e := eqM_w
  simp only [stD] at e
  cases b <;> simp [b__law_mark, startEnv, stD, short, big, e, natD, min1, D.pure]
theorem mark_osl (os : List (Option Int)) (hl : os.length < 1000000) : run P n (("_law_mark" : Str), none) base [.tup [stD "one", stD "short", stD "last"], .lst (os.map oD), .bl os.isEmpty, natD nim] h = .ok (oD (gOne true os)) h := by
  obtain ⟨m, rfl⟩ : ∃ m, n = m + 1 := ⟨n - 1, by omega⟩
  rw [run_fn m base _ h lk__law_mark rfl rfl]
  apply Ok.eq
  apply Ok_leave0
  have e := eqM_w
  simp only [stD] at e
  by_cases h0 : os = []
  · subst h0
    simp [b__law_mark, startEnv, stD, short, big, e, D.pure, gOne]
  · have e1 : os.isEmpty = false := by rw [isEmpty_nil]; simpa using h0
    rw [e1]
    by_cases h1 : none ∈ os
    · simp [b__law_mark, startEnv, stD, short, big, e, D.pure, gOne, h0, h1, inD, inSeq_non]
    · simp [b__law_mark, startEnv, stD, short, big, e, D.pure, gOne, h0, h1, inD, inSeq_non]
      rw [collectI_filter oD posP oD os]
      · rw [posI_D]
        simp
        rw [run__law_missing m (by omega) _ _ (by have := posI_len os; omega)]
        simp [natD, D.pure, h0, h1]
      · intro y hy
        apply nox_eq
        apply Ok.eq
        cases y with
        | none => exact absurd hy h1
        | some j => by_cases hj : 0 ≤ j <;> simp [posP, hj]
theorem mark_osn (os : List (Option Int)) (hl : os.length < 1000000) : run P n (("_law_mark" : Str), none) base [.tup [stD "one", stD "short", stD "not last"], .lst (os.map oD), .bl os.isEmpty, natD nim] h = .ok (oD (gOne false os)) h := by
  obtain ⟨m, rfl⟩ : ∃ m, n = m + 1 := ⟨n - 1, by omega⟩
  rw [run_fn m base _ h lk__law_mark rfl rfl]
  apply Ok.eq
  apply Ok_leave0
  have e := eqM_w
  simp only [stD] at e
  by_cases h0 : os = []
  · subst h0
    simp [b__law_mark, startEnv, stD, short, big, e, D.pure, gOne]
  · have e1 : os.isEmpty = false := by rw [isEmpty_nil]; simpa using h0
    rw [e1]
    simp [b__law_mark, startEnv, stD, short, big, e, D.pure, gOne, h0]
    rw [collectI_filter oD nonP oD os]
    · rw [nonP_D]
      simp
      have hf : (os.filterMap id).length < 1000000 := Nat.lt_of_le_of_lt (List.length_filterMap_le _ _) hl
      rw [run__law_missing m (by omega) _ _ hf]
      have : mex (os.filterMap id) = mex (posI os) := mex_congr fun x hx => by
        simp only [posI, List.mem_filterMap, id_eq, List.mem_filter]
        constructor
        · rintro ⟨a, ha, rfl⟩
          exact ⟨_, ⟨ha, by simpa [posP] using hx⟩, rfl⟩
        · rintro ⟨a, ⟨ha, _⟩, rfl⟩
          exact ⟨_, ha, rfl⟩
      simp [natD, D.pure, this, h0]
    · intro y hy
      apply nox_eq
      apply Ok.eq
      cases y <;> simp [nonP]
theorem mark_ssn (os : List (Option Int)) : run P n (("_law_mark" : Str), none) base [.tup [stD "some", stD "short", stD "not last"], .lst (os.map oD), .bl os.isEmpty, natD nim] h = .ok (oD (gSn os)) h := by
  obtain ⟨m, rfl⟩ : ∃ m, n = m + 1 := ⟨n - 1, by omega⟩
  rw [run_fn m base _ h lk__law_mark rfl rfl]
  apply Ok.eq
  apply Ok_leave0
  have e := eqM_w
  simp only [stD] at e
  by_cases h0 : os = []
  · subst h0
    simp [b__law_mark, startEnv, stD, short, big, e, D.pure, gSn]
  · have e1 : os.isEmpty = false := by rw [isEmpty_nil]; simpa using h0
    rw [e1]
    simp [b__law_mark, startEnv, stD, short, big, e, D.pure, gSn, h0]
    rw [collectI_filter oD nonP oD os]
    · rw [nonP_D]
      by_cases h1 : some 0 ∈ os
      · have : (0 : Int) ∈ os.filterMap id := by simpa using h1
        simp [inD, inSeq_ints, h0, h1, this, D.pure]
      · have : ¬ (0 : Int) ∈ os.filterMap id := by simpa using h1
        simp [inD, inSeq_ints, h0, h1, this, D.pure]
    · intro y hy
      apply nox_eq
      apply Ok.eq
      cases y <;> simp [nonP]
end
end K84

set_option autoImplicit false
set_option linter.all false
set_option maxRecDepth 100000
/-! k84: both marks agree. -/
namespace K84
open PySem Px
theorem zip_get {α β : Type} {xs : List α} {ys : List β} {i : Nat} {a : α} {b : β} (h1 : xs[i]? = some a) (h2 : ys[i]? = some b) : (xs.zip ys)[i]? = some (a, b) := List.getElem?_zip_eq_some.mpr ⟨h1, h2⟩
def way (a b c : String) : List D := [stD a, stD b, stD c]
def ways : List (List D) := [way "one" "long" "last", way "one" "short" "last", way "one" "short" "not last", way "all" "long" "last", way "all" "long" "not last", way "all" "short" "last", way "all" "short" "not last",
  way "some" "long" "last", way "some" "long" "not last", way "some" "short" "last", way "some" "short" "not last"]
/-- what the marks of a table are for a way -/
structure Agree (t : List (List Nat)) (w : List D) (X : List D) : Prop where
  by_ : ∀ (n base : Nat) (h : Hh), 4 ≤ n → run P n (("marks_by" : Str), none) base [tabD t, .tup w] h = .ok (.lst X) h
  law_ : ∀ (n base : Nat) (h : Hh), 4 ≤ n → run P n (("_law_marks" : Str), none) base [tabD t, .tup w] h = .ok (.tup X) h
  pure : pureL X = true
  len : X.length = t.length
  nice : ∀ x ∈ X, Nice 1 x
section
variable (t : List (List Nat)) (wf : WF t) (hs : ∀ r ∈ t, r.length < 1000000) (hl : t.length < big)
include wf hs hl
theorem vl_map {β : Type} [Inhabited β] (f : β → D) (T : List β) (r : List Nat) (hr : ∀ x ∈ r, x < T.length) : r.map (vl (T.map f)) = (r.map (vl T)).map f := by
  rw [List.map_map]
  refine List.map_congr_left fun x hx => ?_
  have h1 := vl_of (hr x hx)
  refine vl_eq ?_
  rw [List.getElem?_map, h1]
  rfl
theorem row_lt {k : Nat} {r : List Nat} (e : t[k]? = some r) : ∀ x ∈ r, x < t.length := fun x hx => by
  have h1 := wf k r e x hx
  have h2 := (List.getElem?_eq_some_iff.mp e).1
  omega
theorem nil_iff {β : Type} (f : Nat → β) (r : List Nat) : (r.map f).isEmpty = r.isEmpty := by cases r <;> rfl
theorem agree_all (b g : Bool) : ∃ T : List Int, Told (fun _ => gAll b (if g then 0 else 1)) t T ∧ Agree t (way "all" (endS b) (goalS g)) (T.map .int) := by
  obtain ⟨N, hN⟩ := told_ex (fun _ some => mex (some.map fun k : Nat => (k : Int))) t wf
  obtain ⟨T, hT⟩ := told_ex (fun _ => gAll b (if g then 0 else 1)) t wf
  refine ⟨T, hT, ?_, ?_, ints_pure T, by simp [hT.1], fun x hx => ?_⟩
  · intro n base h hn
    obtain ⟨m, rfl⟩ : ∃ m, n = m + 1 := ⟨n - 1, by omega⟩
    rw [run_fn m base _ h lk_marks_by rfl rfl]
    apply Ok.eq
    apply Ok_leave0
    have q := fun h => run_all_marks m (by omega) (List.length h) h b (if g then 0 else 1) t T hT wf hl
    cases b <;> cases g <;> (simp at q; simp [b_marks_by, startEnv, way, stD, endS, goalS, q, D.pure])
  · intro n base h hn
    refine run__law_marks n hn base h t N hN wf hs hl _ _ (by simp [hT.1]) (ints_pure T) ?_
    intro k r m base h e hm
    rw [vl_map t wf hs hl _ _ _ (fun x hx => hT.1 ▸ row_lt t wf hs hl e x hx)]
    have q := mark_all m hm base h (vl N k) b g (r.map (vl T))
    rw [nil_iff t wf hs hl] at q
    rw [show way "all" (endS b) (goalS g) = [stD "all", stD (endS b), stD (goalS g)] from rfl, q]
    congr 1
    symm
    refine vl_eq ?_
    rw [List.getElem?_map, hT.2 k r e]
    rfl
  · obtain ⟨i, _, rfl⟩ := List.mem_map.mp hx
    exact .int _ _
theorem agree_oll : ∃ X, Agree t (way "one" "long" "last") X := by
  obtain ⟨N, hN⟩ := told_ex (fun _ some => mex (some.map fun k : Nat => (k : Int))) t wf
  refine ⟨N.map natD, ?_, ?_, natDs_pure N, by simp [hN.1], fun x hx => ?_⟩
  · intro n base h hn
    obtain ⟨m, rfl⟩ : ∃ m, n = m + 1 := ⟨n - 1, by omega⟩
    rw [run_fn m base _ h lk_marks_by rfl rfl]
    apply Ok.eq
    apply Ok_leave0
    simp [b_marks_by, startEnv, way, stD, run_table_nimbers m (by omega) _ _ t N hN wf hs hl, D.pure, natDs_pure]
  · intro n base h hn
    refine run__law_marks n hn base h t N hN wf hs hl _ _ (by simp [hN.1]) (natDs_pure N) ?_
    intro k r m base h e hm
    rw [show way "one" "long" "last" = [stD "one", stD "long", stD "last"] from rfl, mark_oll m hm base h]
    congr 1
    symm
    refine vl_eq ?_
    rw [List.getElem?_map, vl_of (T := N) (by rw [hN.1]; exact (List.getElem?_eq_some_iff.mp e).1)]
    rfl
  · obtain ⟨i, _, rfl⟩ := List.mem_map.mp hx
    exact .int _ _
theorem agree_sll : ∃ X, Agree t (way "some" "long" "last") X := by
  obtain ⟨N, hN⟩ := told_ex (fun _ some => mex (some.map fun k : Nat => (k : Int))) t wf
  refine ⟨(N.map s1).map .int, ?_, ?_, ints_pure _, by simp [hN.1], fun x hx => ?_⟩
  · intro n base h hn
    obtain ⟨m, rfl⟩ : ∃ m, n = m + 1 := ⟨n - 1, by omega⟩
    rw [run_fn m base _ h lk_marks_by rfl rfl]
    apply Ok.eq
    apply Ok_leave0
    have hp := ints_pure (N.map s1)
    simp only [List.map_map] at hp
    simp [b_marks_by, startEnv, way, stD, run_some_ll m (by omega) _ _ t N hN wf hs hl, D.pure, hp]
  · intro n base h hn
    refine run__law_marks n hn base h t N hN wf hs hl _ _ (by simp [hN.1]) (ints_pure _) ?_
    intro k r m base h e hm
    rw [show way "some" "long" "last" = [stD "some", stD "long", stD "last"] from rfl, mark_sll m hm base h]
    congr 1
    symm
    refine vl_eq ?_
    rw [List.getElem?_map, List.getElem?_map, vl_of (T := N) (by rw [hN.1]; exact (List.getElem?_eq_some_iff.mp e).1)]
    rfl
  · obtain ⟨i, _, rfl⟩ := List.mem_map.mp hx
    exact .int _ _
theorem agree_ssl : ∃ X, Agree t (way "some" "short" "last") X := by
  obtain ⟨N, hN⟩ := told_ex (fun _ some => mex (some.map fun k : Nat => (k : Int))) t wf
  have hp : pureL ((N.zip t).map fun p => if p.2 = [] then D.non else .int (s1 p.1)) = true := pureL_map (fun p => by split <;> rfl) _
  refine ⟨(N.zip t).map fun p => if p.2 = [] then D.non else .int (s1 p.1), ?_, ?_, hp, by simp [hN.1], fun x hx => ?_⟩
  · intro n base h hn
    obtain ⟨m, rfl⟩ : ∃ m, n = m + 1 := ⟨n - 1, by omega⟩
    rw [run_fn m base _ h lk_marks_by rfl rfl]
    apply Ok.eq
    apply Ok_leave0
    simp [b_marks_by, startEnv, way, stD, run_some_sl m (by omega) _ _ t N hN wf hs hl, D.pure, hp]
  · intro n base h hn
    refine run__law_marks n hn base h t N hN wf hs hl _ _ (by simp [hN.1]) hp ?_
    intro k r m base h e hm
    rw [show way "some" "short" "last" = [stD "some", stD "short", stD "last"] from rfl, mark_ssl m hm base h]
    congr 1
    symm
    refine vl_eq ?_
    rw [List.getElem?_map, zip_get (vl_of (T := N) (by rw [hN.1]; exact (List.getElem?_eq_some_iff.mp e).1)) e]
    cases r <;> rfl
  · obtain ⟨i, _, rfl⟩ := List.mem_map.mp hx
    split
    · exact .non _
    · exact .int _ _
theorem agree_sln : ∃ X, Agree t (way "some" "long" "not last") X := by
  obtain ⟨N, hN⟩ := told_ex (fun _ some => mex (some.map fun k : Nat => (k : Int))) t wf
  obtain ⟨A, hA⟩ := told_ex (fun _ => gAlone) t wf
  have hp : pureL ((N.zip A).map fun p => D.tup [.int (s1 p.1), .int p.2]) = true := pureL_map (fun p => by simp [D.pure, pureL]) _
  refine ⟨(N.zip A).map fun p => D.tup [.int (s1 p.1), .int p.2], ?_, ?_, hp, by simp [hN.1, hA.1], fun x hx => ?_⟩
  · intro n base h hn
    obtain ⟨m, rfl⟩ : ∃ m, n = m + 1 := ⟨n - 1, by omega⟩
    rw [run_fn m base _ h lk_marks_by rfl rfl]
    apply Ok.eq
    apply Ok_leave0
    simp [b_marks_by, startEnv, way, stD, run_some_ln m (by omega) _ _ t N hN wf hs hl A hA, D.pure, hp]
  · intro n base h hn
    refine run__law_marks n hn base h t N hN wf hs hl _ _ (by simp [hN.1, hA.1]) hp ?_
    intro k r m base h e hm
    have hk := (List.getElem?_eq_some_iff.mp e).1
    have e1 : r.map (vl ((N.zip A).map fun p => D.tup [.int (s1 p.1), .int p.2])) = (r.map fun j => (s1 (vl N j), vl A j)).map fun p => D.tup [.int p.1, .int p.2] := by
      rw [List.map_map]
      refine List.map_congr_left fun x hx => ?_
      have hx := row_lt t wf hs hl e x hx
      refine vl_eq ?_
      rw [List.getElem?_map, zip_get (vl_of (T := N) (by rw [hN.1]; exact hx)) (vl_of (T := A) (by rw [hA.1]; exact hx))]
      rfl
    have q := mark_sln m hm base h (vl N k) (r.map fun j => (s1 (vl N j), vl A j))
    rw [nil_iff t wf hs hl] at q
    rw [e1, show way "some" "long" "not last" = [stD "some", stD "long", stD "not last"] from rfl, q]
    congr 1
    symm
    refine vl_eq ?_
    rw [List.getElem?_map, zip_get (vl_of (T := N) (by rw [hN.1]; exact hk)) (hA.2 k r e), List.map_map]
    rfl
  · obtain ⟨i, _, rfl⟩ := List.mem_map.mp hx
    refine .tup _ _ (by show 2 ≤ 16777216; omega) fun y hy => ?_
    simp at hy
    rcases hy with rfl | rfl <;> exact .int _ _
theorem agree_o (w : List D) (g : List (Option Int) → Option Int)
    (hb : ∀ (T : List (Option Int)) (m base : Nat) (h : Hh), 3 ≤ m → Told (fun _ => g) t T → run P (m + 1) (("marks_by" : Str), none) base [tabD t, .tup w] h = .ok (.lst (T.map oD)) h)
    (hm : ∀ (os : List (Option Int)) (nim m base : Nat) (h : Hh), 2 ≤ m → os.length < 1000000 → run P m (("_law_mark" : Str), none) base [.tup w, .lst (os.map oD), .bl os.isEmpty, natD nim] h = .ok (oD (g os)) h) : ∃ X, Agree t w X := by
  obtain ⟨N, hN⟩ := told_ex (fun _ some => mex (some.map fun k : Nat => (k : Int))) t wf
  obtain ⟨T, hT⟩ := told_ex (fun _ => g) t wf
  refine ⟨T.map oD, ?_, ?_, oDs_pure T, by simp [hT.1], fun x hx => ?_⟩
  · intro n base h hn
    obtain ⟨m, rfl⟩ : ∃ m, n = m + 1 := ⟨n - 1, by omega⟩
    exact hb T m base h (by omega) hT
  · intro n base h hn
    refine run__law_marks n hn base h t N hN wf hs hl _ _ (by simp [hT.1]) (oDs_pure T) ?_
    intro k r m base h e hm2
    rw [vl_map t wf hs hl _ _ _ (fun x hx => hT.1 ▸ row_lt t wf hs hl e x hx)]
    have q := hm (r.map (vl T)) (vl N k) m base h hm2 (by simpa using hs r (List.mem_of_getElem? e))
    rw [nil_iff t wf hs hl] at q
    rw [q]
    congr 1
    symm
    refine vl_eq ?_
    rw [List.getElem?_map, hT.2 k r e]
    rfl
  · obtain ⟨i, _, rfl⟩ := List.mem_map.mp hx
    cases i
    · exact .non _
    · exact .int _ _
theorem agree : ∀ w ∈ ways, ∃ X, Agree t w X := by
  have osx : ∀ g : Bool, ∃ X, Agree t (way "one" "short" (goalS g)) X := by
    intro g
    refine agree_o t wf hs hl _ (gOne g) ?_ ?_
    · intro T m base h hm hT
      rw [run_fn m base _ h lk_marks_by rfl rfl]
      apply Ok.eq
      apply Ok_leave0
      have q := fun h => run_one_short_marks m (by omega) (List.length h) h g t T hT wf hs hl
      cases g <;> simp [b_marks_by, startEnv, way, stD, goalS, q, D.pure]
    · intro os nim m base h hm ho
      cases g
      · exact mark_osn m hm base h nim os ho
      · exact mark_osl m hm base h nim os ho
  have ssn : ∃ X, Agree t (way "some" "short" "not last") X := by
    refine agree_o t wf hs hl _ gSn ?_ ?_
    · intro T m base h hm hT
      obtain ⟨N, hN⟩ := told_ex (fun _ some => mex (some.map fun k : Nat => (k : Int))) t wf
      rw [run_fn m base _ h lk_marks_by rfl rfl]
      apply Ok.eq
      apply Ok_leave0
      simp [b_marks_by, startEnv, way, stD, goalS, run_some_sn m (by omega) _ _ t N hN wf hs hl T hT, D.pure]
    · intro os nim m base h hm ho
      exact mark_ssn m hm base h nim os
  have al : ∀ b g : Bool, ∃ X, Agree t (way "all" (endS b) (goalS g)) X := fun b g => let ⟨_, _, a⟩ := agree_all t wf hs hl b g; ⟨_, a⟩
  intro w hw
  simp only [ways, List.mem_cons, List.not_mem_nil, or_false] at hw
  rcases hw with rfl | rfl | rfl | rfl | rfl | rfl | rfl | rfl | rfl | rfl | rfl
  · exact agree_oll t wf hs hl
  · exact osx true
  · exact osx false
  · exact al false true
  · exact al false false
  · exact al true true
  · exact al true false
  · exact agree_sll t wf hs hl
  · exact agree_sln t wf hs hl
  · exact agree_ssl t wf hs hl
  · exact ssn
end
end K84

set_option autoImplicit false
set_option linter.all false
set_option maxRecDepth 100000
/-! k84: shared tables, ways: let and refused. -/
namespace K84
open PySem Px
def okN (m : Int) : D → Bool
  | .int i => decide (0 ≤ i) && decide (i ≤ m)
  | _ => false
theorem run_between_told (n : Nat) (hn : 2 ≤ n) (base : Nat) (d : D) (hd : told d = true) (m : Int) (h : Hh) : run P n (("is_between" : Str), none) base [d, .int 0, .int m] h = .ok (.bl (okN m d)) h := by
  cases d with
  | int i => exact run_is_between kinds n hn base i 0 m h
  | _ => first | exact run_is_between_no kinds n hn base _ hd rfl _ _ h | simp [told] at hd
theorem run_is_numbers (n : Nat) (hn : 3 ≤ n) (base : Nat) (d : D) (xs : List D) (hd : d = .tup xs ∨ d = .lst xs) (hx : ∀ x ∈ xs, told x = true) (m : Int) (h : Hh) : run P n (("is_numbers" : Str), none) base [d, .int m] h = .ok (.bl (xs.all (okN m))) h := by
  obtain ⟨k, rfl⟩ : ∃ m, n = m + 1 := ⟨n - 1, by omega⟩
  rw [run_fn k base _ h lk_is_numbers rfl rfl]
  apply Ok.eq
  apply Ok_leave0
  have e : told d = true ∧ isR d = true := by rcases hd with rfl | rfl <;> exact ⟨rfl, rfl⟩
  have w : walkOf d = Px.ret (.items xs) := by rcases hd with rfl | rfl <;> rfl
  simp [b_is_numbers, startEnv, run_is_row kinds k (by omega) _ d e.1, e.2, w]
  have := collectI_map (f := compI (cxt P (Px.run P k)) h.length [some d, some (.int m), none] [2] (.call (("is_between" : Str), none) [(.var 2), (.lit (.int 0)), (.var 1)]) (.name 2) []) (h := h) id (fun x => D.bl (okN m x)) xs (fun x hx2 => by
    apply nox_eq
    apply Ok.eq
    simp [run_between_told k (by omega) _ x (hx x hx2)])
  rw [List.map_id] at this
  rw [this]
  simp [D.pure, List.all_map, Function.comp_def]
theorem run_is_numbers_no (n : Nat) (hn : 3 ≤ n) (base : Nat) (d : D) (hd : told d = true) (h1 : isR d = false) (m : Int) (h : Hh) : run P n (("is_numbers" : Str), none) base [d, .int m] h = .ok (.bl false) h := by
  obtain ⟨k, rfl⟩ : ∃ m, n = m + 1 := ⟨n - 1, by omega⟩
  rw [run_fn k base _ h lk_is_numbers rfl rfl]
  apply Ok.eq
  apply Ok_leave0
  simp [b_is_numbers, startEnv, run_is_row kinds k (by omega) _ d hd, h1, D.pure]
theorem enumD_get : ∀ (xs : List D) (i j : Nat), (enumD i xs)[j]? = xs[j]?.map fun d => D.tup [.int ((i + j : Nat) : Int), d]
  | [], i, j => by simp [enumD]
  | x :: xs, i, 0 => by simp [enumD]
  | x :: xs, i, j + 1 => by
    rw [enumD, List.getElem?_cons_succ, List.getElem?_cons_succ, enumD_get xs (i + 1) j]
    congr 1
    funext d
    congr 3
    omega
theorem enumD_len : ∀ (xs : List D) (i : Nat), (enumD i xs).length = xs.length
  | [], i => rfl
  | x :: xs, i => by simp [enumD, enumD_len xs]
/-- rows as they are handed in, and what is made of them -/
structure Good (k : Nat) (d : D) (s : List Nat) : Prop where
  ex : ∃ r : List Nat, (d = .tup (r.map natD) ∨ d = .lst (r.map natD)) ∧ (∀ x ∈ r, x < k) ∧ (∀ x, x ∈ s ↔ x ∈ r) ∧ r.length < 4000
  asc : s.Pairwise (· < ·)
  few : s.length < 64
theorem Good.num {k : Nat} {d : D} {s : List Nat} (g : Good k d s) (n : Nat) (hn : 3 ≤ n) (base : Nat) (m : Int) (hm : m = (k : Int) - 1) (h : Hh) : run P n (("is_numbers" : Str), none) base [d, .int m] h = .ok (.bl true) h := by
  obtain ⟨r, hr, h1, h2, h3⟩ := g.ex
  rw [run_is_numbers n hn base d (r.map natD) hr (fun x hx => by obtain ⟨i, _, rfl⟩ := List.mem_map.mp hx; rfl)]
  have : ((r.map natD).all (okN m)) = true := by
    rw [List.all_eq_true]
    intro x hx
    obtain ⟨i, hi, rfl⟩ := List.mem_map.mp hx
    have := h1 i hi
    simp only [natD, okN, Bool.and_eq_true, decide_eq_true_eq]
    omega
  rw [this]
theorem Good.set {k : Nat} {d : D} {s : List Nat} (g : Good k d s) : ∃ ns : List Int, seqOf d = Px.ret (ns.map .int) ∧ isort (dedupI ns) = s.map (fun k : Nat => (k : Int)) ∧ (dedupI ns).length < 64 ∧ ns.length < 4000 := by
  obtain ⟨r, hr, h1, h2, h3⟩ := g.ex
  have a1 : (s.map fun k : Nat => (k : Int)).Pairwise (· < ·) := by
    rw [List.pairwise_map]
    exact g.asc.imp fun h => by omega
  have a2 : ∀ x : Int, x ∈ (s.map fun k : Nat => (k : Int)) ↔ x ∈ (r.map fun k : Nat => (k : Int)) := by
    intro x
    simp only [List.mem_map]
    constructor
    · rintro ⟨y, hy, rfl⟩; exact ⟨y, (h2 y).mp hy, rfl⟩
    · rintro ⟨y, hy, rfl⟩; exact ⟨y, (h2 y).mpr hy, rfl⟩
  refine ⟨r.map fun k : Nat => (k : Int), ?_, sortset_eq a1 a2, ?_, by simpa using h3⟩
  · rcases hr with rfl | rfl <;> (simp [seqOf, natD, Function.comp_def]; rfl)
  · rw [len_sortset a1 a2]
    simpa using g.few
theorem lkc1 : P.consts.lookup ("MOST_SHARED" : Str) = some (.int 400) := by kernel_rfl
theorem lkc2 : P.consts.lookup ("MOST_SHARED_NUMBERS" : Str) = some (.int 2000) := by kernel_rfl
theorem lke1 : P.exc.lookup ("BadShared" : Str) = some ⟨false, 1, [.non], [(("number" : Str), 0)]⟩ := by kernel_rfl
theorem lke2 : P.exc.lookup ("BadWay" : Str) = some ⟨true, 0, [], []⟩ := by kernel_rfl
theorem lks1 : P.sub.lookup ("BadShared" : Str) = some [("BadShared" : Str), ("GameError" : Str)] := by kernel_rfl
theorem lks2 : P.sub.lookup ("BadWay" : Str) = some [("BadWay" : Str), ("GameError" : Str)] := by kernel_rfl
theorem lkt1 : P.tcs.lookup ("WHICH" : Str) = some [stD "one", stD "all", stD "some"] := by kernel_rfl
theorem lkt2 : P.tcs.lookup ("ENDS" : Str) = some [stD "long", stD "short"] := by kernel_rfl
theorem lkt3 : P.tcs.lookup ("GOALS" : Str) = some [stD "last", stD "not last"] := by kernel_rfl
def bsh (i : Int) : Exn := ⟨("BadShared" : Str), [(("number" : Str), .int i)]⟩
/-- the rows ahead are right -/
theorem run_shared_table (n : Nat) (hn : 4 ≤ n) (base : Nat) (d : D) (zs : List (D × List Nat)) (hd : d = .tup (zs.map (·.1)) ∨ d = .lst (zs.map (·.1))) (hg : ∀ (k : Nat) (p : D × List Nat), zs[k]? = some p → Good k p.1 p.2)
    (h1 : 1 ≤ zs.length) (h4 : zs.length ≤ 400) (hsum : (zs.map fun p => (p.2.length : Int)).sum ≤ 2000) (h : Hh) : run P n (("shared_table" : Str), none) base [d] h = .ok (tabD (zs.map (·.2))) h := by
  obtain ⟨m, rfl⟩ : ∃ m, n = m + 1 := ⟨n - 1, by omega⟩
  rw [run_fn m base _ h lk_shared_table rfl rfl]
  apply Ok.eq
  apply Ok_leave0
  have e : told d = true ∧ isR d = true := by rcases hd with rfl | rfl <;> exact ⟨rfl, rfl⟩
  have w : walkOf d = Px.ret (.items (zs.map (·.1))) := by rcases hd with rfl | rfl <;> rfl
  have w2 : seqFz d = Px.ret (zs.map (·.1)) := by rcases hd with rfl | rfl <;> rfl
  have w3 : lenD d = Px.ret (.int zs.length) := by rcases hd with rfl | rfl <;> simp [lenD]
  have hlen : (decide ((1 : Int) ≤ (zs.length : Int)) && decide ((zs.length : Int) ≤ 400)) = true := by
    simp only [Bool.and_eq_true, decide_eq_true_eq]; omega
  simp [b_shared_table, startEnv, run_is_row kinds m (by omega) _ d e.1, e.2, w, w2, w3, lkc1, run_is_between kinds m (by omega), hlen]
  refine for_ok (fun i env h' => ∃ a b, env = [some d, a, b, none] ∧ h' = h) ⟨none, none, rfl, rfl⟩ ?_ ?_
  · rintro i x env h' hx ⟨a, b, rfl, rfl⟩
    rw [enumD_get, Nat.zero_add, List.getElem?_map, Option.map_map] at hx
    obtain ⟨p, hp, rfl⟩ := Option.map_eq_some_iff.mp hx
    simp [turn, (hg i p hp).num m (by omega) _ _ rfl]
  · rintro env h' ⟨a, b, rfl, rfl⟩
    simp [w]
    rw [collectI_map (fun p : D × List Nat => p.1) (fun p => rowD p.2) zs]
    · simp
      rw [show (zs.map fun p => rowD p.2) = (zs.map (·.2)).map rowD by simp]
      have hs2 : (List.map (fun s : List Nat => ((s.length : Nat) : Int)) (zs.map (·.2))).sum ≤ 2000 := by
        rw [List.map_map]
        exact hsum
      generalize zs.map (·.2) = ts at hs2
      rw [collectI_map rowD (fun s => D.int (s.length : Int)) ts]
      · have hpure := tabD_pure ts
        have hs3 : ¬ (2000 : Int) < (List.map (fun s : List Nat => ((s.length : Nat) : Int)) ts).sum := by omega
        simp [lkc2, hs3, tabD] at hpure ⊢
        exact hpure
      · intro s hs
        apply nox_eq
        apply Ok.eq
        simp [rowD]
    · intro p hp
      obtain ⟨k, hk, e⟩ := List.getElem_of_mem hp
      obtain ⟨ns, q1, q2, q3, q4⟩ := (hg k p (by rw [← e]; simp [hk])).set
      apply nox_eq
      apply Ok.eq
      simp [q1, q2, q3, q4, rowD, natD]
/-- the first wrong row -/
theorem run_shared_bad (n : Nat) (hn : 4 ≤ n) (base : Nat) (d : D) (ds : List D) (hd : d = .tup ds ∨ d = .lst ds) (j : Nat) (hj : j < ds.length) (hg : ∀ (k : Nat) (x : D), k < j → ds[k]? = some x → ∃ s, Good k x s)
    (hb : ∀ (x : D) (m base : Nat) (h : Hh), ds[j]? = some x → 3 ≤ m → run P m (("is_numbers" : Str), none) base [x, .int ((j : Int) - 1)] h = .ok (.bl false) h) (h4 : ds.length ≤ 400) (h : Hh) :
    run P n (("shared_table" : Str), none) base [d] h = .exc (bsh j) h := by
  obtain ⟨m, rfl⟩ : ∃ m, n = m + 1 := ⟨n - 1, by omega⟩
  rw [run_fn m base _ h lk_shared_table rfl rfl]
  apply Ok_leaveE
  have e : told d = true ∧ isR d = true := by rcases hd with rfl | rfl <;> exact ⟨rfl, rfl⟩
  have w2 : seqFz d = Px.ret ds := by rcases hd with rfl | rfl <;> rfl
  have w3 : lenD d = Px.ret (.int ds.length) := by rcases hd with rfl | rfl <;> rfl
  have hlen : (decide ((1 : Int) ≤ (ds.length : Int)) && decide ((ds.length : Int) ≤ 400)) = true := by
    simp only [Bool.and_eq_true, decide_eq_true_eq]; omega
  simp [b_shared_table, startEnv, run_is_row kinds m (by omega) _ d e.1, e.2, w2, w3, lkc1, run_is_between kinds m (by omega), hlen]
  refine for_ok (fun i env h' => ∃ a b, env = [some d, a, b, none] ∧ h' = h ∧ i ≤ j) ⟨none, none, rfl, rfl, Nat.zero_le _⟩ ?_ ?_
  · rintro i x env h' hx ⟨a, b, rfl, rfl, hi⟩
    rw [enumD_get, Nat.zero_add] at hx
    obtain ⟨p, hp, rfl⟩ := Option.map_eq_some_iff.mp hx
    by_cases hij : i < j
    · obtain ⟨s, g⟩ := hg i p hij hp
      simp [turn, g.num m (by omega) _ _ rfl]
      omega
    · obtain rfl : i = j := by omega
      have q := hb p m h'.length h' hp (by omega)
      simp [turn, q, mkExn, lke1, pureF, D.pure, bsh]
  · rintro env h' ⟨a, b, rfl, rfl, hi⟩
    rw [enumD_len] at hi
    omega
end K84

set_option autoImplicit false
set_option linter.all false
set_option maxRecDepth 100000
/-! k84: ways, faults. -/
namespace K84
open PySem Px
def whichL : List D := [stD "one", stD "all", stD "some"]
def endsL : List D := [stD "long", stD "short"]
def goalsL : List D := [stD "last", stD "not last"]
theorem way_three {w : List D} (hw : w ∈ ways) : ∃ a b c, w = way a b c ∧ inSeq (stD a) whichL = Px.ret true ∧ inSeq (stD b) endsL = Px.ret true ∧ inSeq (stD c) goalsL = Px.ret true ∧ eqM (.tup w) (.tup [stD "one", stD "long", stD "not last"]) = Px.ret false := by
  simp only [ways, List.mem_cons, List.not_mem_nil, or_false] at hw
  rcases hw with rfl | rfl | rfl | rfl | rfl | rfl | rfl | rfl | rfl | rfl | rfl <;> exact ⟨_, _, _, rfl, by simp [inSeq, whichL, stD, D.scal, D.eqv], by simp [inSeq, endsL, stD, D.scal, D.eqv], by simp [inSeq, goalsL, stD, D.scal, D.eqv], by rw [way, eqM_w]; simp⟩
theorem run_checked_way (n : Nat) (hn : 2 ≤ n) (base : Nat) (d : D) (w : List D) (hw : w ∈ ways) (hd : d = .tup w ∨ d = .lst w) (h : Hh) : run P n (("checked_way" : Str), none) base [d] h = .ok (.tup w) h := by
  obtain ⟨m, rfl⟩ : ∃ m, n = m + 1 := ⟨n - 1, by omega⟩
  obtain ⟨a, b, c, rfl, h1, h2, h3, h4⟩ := way_three hw
  rw [run_fn m base _ h lk_checked_way rfl rfl]
  apply Ok.eq
  apply Ok_leave0
  simp only [whichL, endsL, goalsL, stD, way] at h1 h2 h3 h4
  rcases hd with rfl | rfl <;> simp [b_checked_way, startEnv, fun b xs => run_is_row kinds m (by omega) b (.tup xs) rfl, fun b xs => run_is_row kinds m (by omega) b (.lst xs) rfl, isR, way, stD, lkt1, lkt2, lkt3, h1, h2, h3, h4, short, big, D.pure, pureL]
def bads : List D := [stD "", stD "none", .non, .int 0, .bl true, .tup [stD "one"], stD "LONG"]
theorem bads_no {x : D} (hx : x ∈ bads) : inSeq x whichL = Px.ret false ∧ inSeq x endsL = Px.ret false ∧ inSeq x goalsL = Px.ret false := by
  simp only [bads, List.mem_cons, List.not_mem_nil, or_false] at hx
  rcases hx with rfl | rfl | rfl | rfl | rfl | rfl | rfl <;> refine ⟨?_, ?_, ?_⟩ <;> simp [inSeq, whichL, endsL, goalsL, stD, D.scal, D.eqv, D.plain, plainL, D.depth, depthL]
def bwy : Exn := ⟨("BadWay" : Str), []⟩
theorem run_checked_bad (n : Nat) (hn : 2 ≤ n) (base : Nat) (d : D) (w : List D) (hw : w ∈ ways) (i : Nat) (hi : i < 3) (x : D) (hx : x ∈ bads) (hd : d = .tup (w.set i x) ∨ d = .lst (w.set i x)) (h : Hh) : run P n (("checked_way" : Str), none) base [d] h = .exc bwy h := by
  obtain ⟨m, rfl⟩ : ∃ m, n = m + 1 := ⟨n - 1, by omega⟩
  obtain ⟨a, b, c, rfl, h1, h2, h3, h4⟩ := way_three hw
  obtain ⟨k1, k2, k3⟩ := bads_no hx
  rw [run_fn m base _ h lk_checked_way rfl rfl]
  apply Ok_leaveE
  have hi3 : i = 0 ∨ i = 1 ∨ i = 2 := by omega
  clear hx hi
  simp only [whichL, endsL, goalsL, stD, way] at h1 h2 h3 h4 k1 k2 k3
  rcases hi3 with rfl | rfl | rfl <;> rcases hd with rfl | rfl <;> simp [b_checked_way, startEnv, fun b xs => run_is_row kinds m (by omega) b (.tup xs) rfl, fun b xs => run_is_row kinds m (by omega) b (.lst xs) rfl, isR, way, stD, lkt1, lkt2, lkt3, h1, h2, h3, k1, k2, k3, mkExn, lke2, bwy, pureF]
theorem run_way_marks (n : Nat) (hn : 5 ≤ n) (base : Nat) (d wd : D) (zs : List (D × List Nat)) (w X : List D) (hd : d = .tup (zs.map (·.1)) ∨ d = .lst (zs.map (·.1))) (hg : ∀ (k : Nat) (p : D × List Nat), zs[k]? = some p → Good k p.1 p.2)
    (h1 : 1 ≤ zs.length) (h4 : zs.length ≤ 400) (hsum : (zs.map fun p => (p.2.length : Int)).sum ≤ 2000) (hw : w ∈ ways) (hwd : wd = .tup w ∨ wd = .lst w) (A : Agree (zs.map (·.2)) w X) (h : Hh) :
    run P n (("way_marks" : Str), none) base [d, wd] h = .ok (.tup X) h := by
  obtain ⟨m, rfl⟩ : ∃ m, n = m + 1 := ⟨n - 1, by omega⟩
  rw [run_fn m base _ h lk_way_marks rfl rfl]
  apply Ok.eq
  apply Ok_leave0
  simp [b_way_marks, startEnv, run_shared_table m (by omega) _ d zs hd hg h1 h4 hsum, run_checked_way m (by omega) _ wd w hw hwd, A.by_ m _ _ (by omega), D.pure, A.pure]
theorem run_fault_shared (n : Nat) (hn : 6 ≤ n) (base : Nat) (d wd : D) (j : Nat) (hb : ∀ (m base : Nat) (h : Hh), 4 ≤ m → run P m (("shared_table" : Str), none) base [d] h = .exc (bsh j) h) (h : Hh) :
    run P n (("_law_fault" : Str), none) base [d, wd] h = .ok (.lst [.str ("shared" : Str), .int j, .bl false]) h := by
  obtain ⟨m, rfl⟩ : ∃ m, n = m + 2 := ⟨n - 2, by omega⟩
  have q : ∀ base h, run P (m + 1) (("way_marks" : Str), none) base [d, wd] h = .exc (bsh j) h := by
    intro base h
    rw [run_fn m base _ h lk_way_marks rfl rfl]
    apply Ok_leaveE
    simp [b_way_marks, startEnv, hb m _ _ (by omega), pureF, D.pure, bsh]
  rw [run_fn (m + 1) base _ h lk__law_fault rfl rfl]
  apply Ok.eq
  apply Ok_leave0
  simp [b__law_fault, startEnv, q]
  simp [bsh, caught, lks1, short, big, D.pure, pureL, ofString_inj]
  exact ⟨_, PySem.mem_of_lookup lks1⟩
theorem run_fault_way (n : Nat) (hn : 6 ≤ n) (base : Nat) (d wd : D) (zs : List (D × List Nat)) (hd : d = .tup (zs.map (·.1)) ∨ d = .lst (zs.map (·.1))) (hg : ∀ (k : Nat) (p : D × List Nat), zs[k]? = some p → Good k p.1 p.2)
    (h1 : 1 ≤ zs.length) (h4 : zs.length ≤ 400) (hsum : (zs.map fun p => (p.2.length : Int)).sum ≤ 2000) (hb : ∀ (m base : Nat) (h : Hh), 2 ≤ m → run P m (("checked_way" : Str), none) base [wd] h = .exc bwy h) (h : Hh) :
    run P n (("_law_fault" : Str), none) base [d, wd] h = .ok (.lst [.str ("way" : Str)]) h := by
  obtain ⟨m, rfl⟩ : ∃ m, n = m + 2 := ⟨n - 2, by omega⟩
  have q : ∀ base h, run P (m + 1) (("way_marks" : Str), none) base [d, wd] h = .exc bwy h := by
    intro base h
    rw [run_fn m base _ h lk_way_marks rfl rfl]
    apply Ok_leaveE
    simp [b_way_marks, startEnv, run_shared_table m (by omega) _ d zs hd hg h1 h4 hsum, hb m _ _ (by omega), pureF, D.pure, bwy]
  rw [run_fn (m + 1) base _ h lk__law_fault rfl rfl]
  apply Ok.eq
  apply Ok_leave0
  simp [b__law_fault, startEnv, q]
  simp [bwy, caught, lks2, short, big, D.pure, pureL, ofString_inj]
  exact ⟨_, PySem.mem_of_lookup lks2⟩
end K84

set_option autoImplicit false
set_option linter.all false
set_option maxRecDepth 100000
/-! k84: what is drawn. -/
namespace K84
open PySem Px
theorem cellAt_end' {k : Nat} {h : Hh} (c : Cell) (e : h.length = k) : cellAt k (h ++ [c]) = .ok c (h ++ [c]) := by subst e; exact cellAt_end h c
theorem setCell_end' {k : Nat} {h : Hh} (c c' : Cell) (e : h.length = k) : setCell k c' (h ++ [c]) = .ok () (h ++ [c']) := by subst e; exact setCell_end h c c'
theorem rangeN (k : Nat) (hk : k ≤ big) : rangeW 0 (k : Int) = Px.ret (.items ((List.range k).map natD)) := rangeW_at _ k rfl hk
theorem big_val : big = 16777216 := rfl
theorem two30_val : two30 = 1073741824 := rfl
/-- leaving with an own list at the end, the pool gone on -/
theorem fin_pool {l : Nat} {h h1 : Hh} {c : Cell} {d : D} {Q : D → Hh → Prop} (hp : d.pure = true) (dr : Drew l h h1) (hc : noLock [c] = true) (q : Q d h1) : ∃ d', frz h.length (h1 ++ [c]) 3 d = some d' ∧ noLock ((h1 ++ [c]).drop h.length) = true ∧ Q d' ((h1 ++ [c]).take h.length) := by
  refine ⟨d, frz_pure _ _ _ _ hp, ?_, ?_⟩
  · rw [← dr.len, List.drop_left]
    exact hc
  · rw [← dr.len, List.take_left]
    exact q
theorem run__law_order (n : Nat) (hn : 3 ≤ n) (base l : Nat) (many : Nat) (z : Int) (hz : z = (many : Int)) (hm : many ≤ 1000) (h : Hh) (p : IsPool l h) :
    Ok (run P n (("_law_order" : Str), none) base [.ref l, .int z] h) fun v h' => Drew l h h' ∧ ∃ q : List Nat, q.Perm (List.range many) ∧ v = .tup (q.map natD) := by
  obtain ⟨m, rfl⟩ : ∃ m, n = m + 1 := ⟨n - 1, by omega⟩
  rw [run_fn m base _ h lk__law_order rfl rfl]
  refine Ok_leaves ?_
  subst hz
  have hb : many ≤ big := by show many ≤ 16777216; omega
  simp -dsimp [b__law_order, startEnv, rangeN _ hb, short, Px.alloc]
  refine for_ok (fun i env h' => ∃ (L q : List Nat) (h1 : Hh) (a : Option D), Drew l h h1 ∧ h' = h1 ++ [.l (L.map natD)] ∧ env = [some (.ref l), some (.int many), some (.ref h.length), some (.tup (q.map natD)), a] ∧ (q ++ L).Perm (List.range many) ∧ L.length + i = many)
    ⟨List.range many, [], h, none, Drew.refl p, rfl, rfl, by simp, by simp⟩ ?_ ?_
  · rintro i x env h' hx ⟨L, q, h1, a, dr, rfl, rfl, hq, hL⟩
    have hi : i < many := by
      have := (List.getElem?_eq_some_iff.mp hx).1
      simpa using this
    have hlen := dr.len
    have hql : q.length = i := by
      have := hq.length_eq
      simp at this
      omega
    have pp := (dr.pool p.lt).app [Cell.l (L.map natD)]
    simp -dsimp [turn, lstOf, lenD, cellAt_end' _ hlen]
    refine (take_ok helps m (by omega) h.length l L.length _ (by omega) (by show _ < (1073741824 : Int); omega) pp).imp ?_
    rintro v h2 ⟨r, rfl, r0, r1, dr2⟩
    obtain ⟨h3, dr3, rfl⟩ := dr2.app (by rw [hlen]; exact p.lt)
    obtain ⟨j, rfl⟩ : ∃ j : Nat, r = j := ⟨r.toNat, by omega⟩
    have hj : j < L.length := by omega
    have hlen3 : h3.length = h.length := dr3.len.trans hlen
    have hb2 : q.length + 1 ≤ big := by show q.length + 1 ≤ 16777216; omega
    have hb3 : (1 : Nat) ≤ big := by show 1 ≤ 16777216; omega
    simp -dsimp [lmop, cellAt_end' _ hlen3, setCell_end' _ _ hlen3, ixn_nat, hj, short, hb2, hb3]
    refine ⟨L.eraseIdx j, q ++ [L[j]], h3, dr.trans dr3, ?_, ?_, ?_, ?_⟩
    · simp [map_eraseIdx']
    · simp
    · rw [List.append_assoc]
      refine List.Perm.trans (List.Perm.append_left q ?_) hq
      exact erase_perm L j hj
    · rw [List.length_eraseIdx]
      simp [hj]
      omega
  · rintro env h' ⟨L, q, h1, a, dr, rfl, rfl, hq, hL⟩
    have hL0 : L = [] := by
      simp at hL
      exact hL
    subst hL0
    simp -dsimp
    exact .cells dr.len (by simpa [D.pure] using natDs_pure q) rfl ⟨dr, q, by simpa using hq, rfl⟩
end K84

set_option autoImplicit false
set_option linter.all false
set_option maxRecDepth 100000
/-! k84: tables that are drawn. -/
namespace K84
open PySem Px
theorem rangeW_ints (i j : Int) (hi : -1000000 ≤ i ∧ i ≤ 1000000) (hj : -1000000 ≤ j ∧ j ≤ 1000000) : rangeW i j = Px.ret (.items ((List.range (j - i).toNat).map fun k : Nat => D.int (i + k))) := by
  unfold rangeW
  rw [if_pos, rangeD_eq]
  simp only [Bool.and_eq_true, decide_eq_true_eq]
  rw [big_val]
  omega
/-- a table that is drawn: its rows ascend, and are short -/
structure Fine (t : List (List Nat)) : Prop where
  wf : WF t
  asc : ∀ r ∈ t, r.Pairwise (· < ·)
  row : ∀ r ∈ t, r.length ≤ 10
  one : 1 ≤ t.length
  most : t.length ≤ 400
  sum : (t.map fun r => (r.length : Int)).sum ≤ 2000
theorem sum_le (b : Int) (hb : 0 ≤ b) : ∀ t : List (List Nat), (∀ r ∈ t, (r.length : Int) ≤ b) → (t.map fun r => (r.length : Int)).sum ≤ b * t.length
  | [], _ => by simp
  | r :: t, h => by
    have h1 := h r List.mem_cons_self
    have h2 := sum_le b hb t fun x hx => h x (List.mem_cons_of_mem _ hx)
    rw [List.map_cons, List.sum_cons, List.length_cons]
    have : b * ((t.length + 1 : Nat) : Int) = b * (t.length : Int) + b := by
      rw [Int.natCast_add, Int.mul_add]
      simp
    rw [this]
    omega
theorem run__law_shared (n : Nat) (hn : 3 ≤ n) (base l : Nat) (most : Int) (h0 : 0 < most) (h60 : most ≤ 60) (h : Hh) (p : IsPool l h) :
    Ok (run P n (("_law_shared" : Str), none) base [.ref l, .int most] h) fun v h' => Drew l h h' ∧ ∃ t : List (List Nat), v = tabD t ∧ Fine t := by
  obtain ⟨m, rfl⟩ : ∃ m, n = m + 1 := ⟨n - 1, by omega⟩
  rw [run_fn m base _ h lk__law_shared rfl rfl]
  refine Ok_leaves ?_
  have h3 : (3 : Nat) ≤ big := by show 3 ≤ 16777216; omega
  have one : (1 : Nat) ≤ big := by show 1 ≤ 16777216; omega
  simp -dsimp [b__law_shared, startEnv]
  refine (take_ok helps m (by omega) h.length l most h h0 (by show most < 1073741824; omega) p).imp ?_
  rintro v h1 ⟨r, rfl, r0, r1, dr1⟩
  simp -dsimp
  refine (take_ok helps m (by omega) h.length l 4 h1 (by omega) (by decide) (dr1.pool p.lt)).imp ?_
  rintro v h2 ⟨s, rfl, s0, s1, dr2⟩
  obtain ⟨many, hmany⟩ : ∃ many : Nat, 1 + r = many := ⟨(1 + r).toNat, by omega⟩
  have dr12 := dr1.trans dr2
  have hlen2 : h2.length = h.length := dr12.len
  have hmb : many ≤ big := by show many ≤ 16777216; omega
  simp -dsimp [short, h3, Px.alloc, hmany, rangeN _ hmb, hlen2]
  refine for_ok (fun i env h' => ∃ (t : List (List Nat)) (h3 : Hh) (a b c : Option D), Drew l h h3 ∧ h' = h3 ++ [.l (t.map rowD)] ∧ env = [some (.ref l), some (.int most), some (.int many), some (.int (2 + s)), some (.ref h.length), a, b, c] ∧ t.length = i ∧ WF t ∧ ∀ r ∈ t, r.Pairwise (· < ·) ∧ r.length ≤ 10)
    ⟨[], h2, none, none, none, dr12, rfl, rfl, rfl, fun k r e => by simp at e, fun r hr => by simp at hr⟩ ?_ ?_
  · rintro i x env h' hx ⟨t, h3, a, b, c, dr3, rfl, rfl, ht, wf, hr⟩
    have hi : i < many := by
      have := (List.getElem?_eq_some_iff.mp hx).1
      simpa using this
    have hx : x = natD i := by
      rw [List.getElem?_map, List.getElem?_range hi] at hx
      exact (Option.some.inj hx).symm
    subst hx
    have hlen3 : h3.length = h.length := dr3.len
    have i60 : i < 60 := by omega
    have htb : t.length < big := by show t.length < 16777216; omega
    simp -dsimp [turn, natD]
    rw [rangeW_ints _ _ (by omega) (by omega)]
    simp -dsimp
    refine collectI_ok (fun j acc h' => ∃ (q : List Nat) (h4 : Hh), acc = q.map natD ∧ Drew l h h4 ∧ h' = h4 ++ [.l (t.map rowD)] ∧ q.Pairwise (· < ·) ∧ q.length ≤ j ∧ ∀ x ∈ q, max 0 ((i : Int) - 9) ≤ (x : Int) ∧ (x : Int) < max 0 ((i : Int) - 9) + j) _ 0 [] _ ⟨[], h3, rfl, dr3, rfl, by simp, by simp, by simp⟩ ?_ ?_
    · rintro j x acc h' hx ⟨q, h4, rfl, dr4, rfl, q1, q2, q3⟩
      rw [Nat.zero_add] at q2 q3 ⊢
      have hj : j < ((i : Int) - max 0 ((i : Int) - 9)).toNat := by
        have := (List.getElem?_eq_some_iff.mp hx).1
        simpa using this
      have hx : x = D.int (max 0 ((i : Int) - 9) + j) := by
        rw [List.getElem?_map, List.getElem?_range hj] at hx
        exact (Option.some.inj hx).symm
      obtain ⟨y, hy⟩ : ∃ y : Nat, max 0 ((i : Int) - 9) + j = y := ⟨(max 0 ((i : Int) - 9) + j).toNat, by omega⟩
      rw [hy] at hx
      subst hx
      have hlen4 : h4.length = h.length := dr4.len
      apply Ok_nox
      simp -dsimp
      refine (take_ok helps m (by omega) h.length l (2 + s) _ (by omega) (by show _ < (1073741824 : Int); omega) ((dr4.pool p.lt).app _)).imp ?_
      rintro v h5 ⟨z, rfl, z0, z1, dr5⟩
      obtain ⟨h6, dr6, rfl⟩ := dr5.app (by rw [hlen4]; exact p.lt)
      by_cases hz : z = 0
      · simp -dsimp [hz]
        refine ⟨q ++ [y], by simp [natD], h6, dr4.trans dr6, rfl, ?_, by simp; omega, ?_⟩
        · rw [List.pairwise_append]
          refine ⟨q1, by simp, fun a ha b hb => ?_⟩
          have : b = y := by simpa using hb
          have := q3 a ha
          omega
        · intro x hx
          rcases List.mem_append.mp hx with hx | hx
          · have := q3 x hx
            omega
          · have : x = y := by simpa using hx
            omega
      · simp -dsimp [hz]
        exact ⟨q, rfl, h6, dr4.trans dr6, rfl, q1, by omega, fun x hx => by have := q3 x hx; omega⟩
    · rintro acc h' ⟨q, h4, hacc, dr4, rfl, q1, q2, q3⟩
      rw [List.nil_append] at hacc
      subst hacc
      rw [Nat.zero_add, List.length_map, List.length_range] at q2 q3
      have hlen4 : h4.length = h.length := dr4.len
      have key : ∀ q' : List Nat, q'.Pairwise (· < ·) → q'.length ≤ 10 → (∀ x ∈ q', x < i) → (t ++ [q']).length = i + 1 ∧ WF (t ++ [q']) ∧ ∀ r ∈ t ++ [q'], r.Pairwise (· < ·) ∧ r.length ≤ 10 := by
        intro q' k1 k2 k3
        refine ⟨by simp [ht], ?_, ?_⟩
        · intro k r e x hx
          by_cases hk : k < t.length
          · rw [List.getElem?_append_left hk] at e
            exact wf k r e x hx
          · have hk2 := (List.getElem?_eq_some_iff.mp e).1
            rw [List.length_append] at hk2
            have : k = t.length := by simp at hk2; omega
            subst this
            rw [List.getElem?_append_right (Nat.le_refl _)] at e
            simp at e
            subst e
            rw [ht]
            exact k3 x hx
        · intro r hr2
          rcases List.mem_append.mp hr2 with hr2 | hr2
          · exact hr r hr2
          · have : r = q' := by simpa using hr2
            subst this
            exact ⟨k1, k2⟩
      have qi : ∀ x ∈ q, x < i := fun x hx => by have := q3 x hx; omega
      have q9 : q.length ≤ 9 := by omega
      have lk0 := key q q1 (by omega) qi
      by_cases h9 : (9 : Int) < (i : Int)
      · simp -dsimp [h9]
        refine (take_ok helps m (by omega) h.length l 3 _ (by omega) (by decide) ((dr4.pool p.lt).app _)).imp ?_
        rintro v h5 ⟨z, rfl, z0, z1, dr5⟩
        obtain ⟨h6, dr6, rfl⟩ := dr5.app (by rw [hlen4]; exact p.lt)
        have dr46 := dr4.trans dr6
        have hlen6 : h6.length = h.length := dr46.len
        by_cases hz : z = 0
        · simp -dsimp [hz]
          refine (take_ok helps m (by omega) h.length l ((i : Int) - 9) _ (by omega) (by show _ < (1073741824 : Int); omega) ((dr46.pool p.lt).app _)).imp ?_
          rintro v h7 ⟨y, rfl, y0, y1, dr7⟩
          obtain ⟨h8, dr8, rfl⟩ := dr7.app (by rw [hlen6]; exact p.lt)
          have dr48 := dr46.trans dr8
          have hlen8 : h8.length = h.length := dr48.len
          obtain ⟨y, rfl⟩ : ∃ k : Nat, y = k := ⟨y.toNat, by omega⟩
          have hb2 : 1 + q.length ≤ big := by show 1 + q.length ≤ 16777216; omega
          simp -dsimp [short, one, lmop, lstOf, cellAt_end' _ hlen8, setCell_end' _ _ hlen8, storable, htb, hb2, D.pure, pureL, natDs_pure]
          have k := key (y :: q) (List.pairwise_cons.mpr ⟨fun x hx => by have := q3 x hx; omega, q1⟩) (by simp; omega) (fun x hx => by
            rcases List.mem_cons.mp hx with e | hx
            · omega
            · exact qi x hx)
          exact ⟨t ++ [y :: q], h8, dr48, ⟨rfl, by simp [rowD, natD]⟩, k⟩
        · simp -dsimp [hz, lmop, lstOf, cellAt_end' _ hlen6, setCell_end' _ _ hlen6, storable, htb, D.pure, natDs_pure]
          exact ⟨t ++ [q], h6, dr46, ⟨rfl, by simp [rowD]⟩, lk0⟩
      · simp -dsimp [h9, lmop, lstOf, cellAt_end' _ hlen4, setCell_end' _ _ hlen4, storable, htb, D.pure, natDs_pure]
        exact ⟨t ++ [q], h4, dr4, ⟨rfl, by simp [rowD]⟩, lk0⟩
  · rintro env h' ⟨t, h3, a, b, c, dr3, rfl, rfl, ht, wf, hr⟩
    have hlen3 : h3.length = h.length := dr3.len
    rw [List.length_map, List.length_range] at ht
    simp -dsimp [seqOf, cellAt_end' _ hlen3]
    refine .cells hlen3 (tabD_pure t) rfl ⟨dr3, t, rfl, wf, fun r h => (hr r h).1, fun r h => (hr r h).2, by omega, by omega, ?_⟩
    have := sum_le 10 (by omega) t fun r h => by have := (hr r h).2; omega
    omega
end K84

set_option autoImplicit false
set_option linter.all false
set_option maxRecDepth 100000
/-! k84: rows mixed; the long table. -/
namespace K84
open PySem Px
/-- rows as they are handed in -/
def Handed (t : List (List Nat)) (ds : List D) : Prop := ds.length = t.length ∧ ∀ (k : Nat) (x : D) (s : List Nat), ds[k]? = some x → t[k]? = some s → Good k x s
theorem run__law_rows_mixed (n : Nat) (hn : 4 ≤ n) (base l : Nat) (t : List (List Nat)) (F : Fine t) (h : Hh) (p : IsPool l h) :
    Ok (run P n (("_law_rows_mixed" : Str), none) base [.ref l, tabD t] h) fun v h' => Drew l h h' ∧ ∃ ds, (v = .tup ds ∨ v = .lst ds) ∧ pureL ds = true ∧ Handed t ds := by
  obtain ⟨m, rfl⟩ : ∃ m, n = m + 1 := ⟨n - 1, by omega⟩
  rw [run_fn m base _ h lk__law_rows_mixed rfl rfl]
  refine Ok_leaves ?_
  have t400 := F.most
  simp -dsimp [b__law_rows_mixed, startEnv, short, Px.alloc, tabD]
  refine for_ok (fun i env h' => ∃ (ds : List D) (h1 : Hh) (a b c : Option D), Drew l h h1 ∧ h' = h1 ++ [.l ds] ∧ env = [some (.ref l), some (.tup (t.map rowD)), some (.ref h.length), a, b, c] ∧ ds.length = i ∧ pureL ds = true ∧ ∀ (k : Nat) (x : D) (s : List Nat), ds[k]? = some x → t[k]? = some s → Good k x s)
    ⟨[], h, none, none, none, Drew.refl p, rfl, rfl, rfl, rfl, fun k x s e => by simp at e⟩ ?_ ?_
  · rintro i x env h' hx ⟨ds, h1, a, b, c, dr1, rfl, rfl, hds, hp, hg⟩
    rw [List.getElem?_map] at hx
    obtain ⟨r, hr, rfl⟩ := Option.map_eq_some_iff.mp hx
    have hi := (List.getElem?_eq_some_iff.mp hr).1
    have hrm := List.mem_of_getElem? hr
    have r10 := F.row r hrm
    have hlen1 : h1.length = h.length := dr1.len
    have hdb : ds.length < big := by show ds.length < 16777216; omega
    simp -dsimp [turn, rowD]
    refine (run__law_order m (by omega) h.length l r.length _ rfl (by omega) _ ((dr1.pool p.lt).app _)).imp ?_
    rintro v h2 ⟨dr2, q, hq, rfl⟩
    obtain ⟨h3, dr3, rfl⟩ := dr2.app (by rw [hlen1]; exact p.lt)
    have dr13 := dr1.trans dr3
    have hlen3 : h3.length = h.length := dr13.len
    simp -dsimp
    rw [collectI_map natD (fun k => natD (vl r k)) q]
    · -- the row in another order
      have hq2 : (q.map (vl r)).Perm r := by
        have h1 := hq.map (vl r)
        have h2 : (List.range r.length).map (vl r) = r := by
          refine List.ext_getElem? fun k => ?_
          rw [List.getElem?_map]
          by_cases hk : k < r.length
          · rw [List.getElem?_range hk, vl_of hk]; rfl
          · rw [List.getElem?_eq_none (by simp; omega), List.getElem?_eq_none (by omega)]; rfl
        rw [h2] at h1
        exact h1
      rw [show (q.map fun k => natD (vl r k)) = (q.map (vl r)).map natD by simp]
      have hql : (q.map (vl r)).length = r.length := hq2.length_eq
      generalize q.map (vl r) = w at hq2 hql
      -- what is appended
      have key : ∀ (w' : List Nat) (d : D), (∀ x, x ∈ r ↔ x ∈ w') → (d = .tup (w'.map natD) ∨ d = .lst (w'.map natD)) → w'.length < 4000 → d.pure = true ∧ (ds ++ [d]).length = i + 1 ∧ pureL (ds ++ [d]) = true ∧ ∀ (k : Nat) (x : D) (s : List Nat), (ds ++ [d])[k]? = some x → t[k]? = some s → Good k x s := by
        intro w' d hw hd hl4
        have hdp : d.pure = true := by rcases hd with rfl | rfl <;> simpa [D.pure] using natDs_pure w'
        refine ⟨hdp, by simp [hds], ?_, ?_⟩
        · rw [pureL_iff] at hp ⊢
          intro x hx
          rcases List.mem_append.mp hx with hx | hx
          · exact hp x hx
          · have : x = d := by simpa using hx
            rw [this]; exact hdp
        · intro k x s e1 e2
          by_cases hk : k < ds.length
          · rw [List.getElem?_append_left hk] at e1
            exact hg k x s e1 e2
          · have hk2 := (List.getElem?_eq_some_iff.mp e1).1
            rw [List.length_append] at hk2
            have : k = ds.length := by simp at hk2; omega
            subst this
            rw [List.getElem?_append_right (Nat.le_refl _)] at e1
            simp at e1
            subst e1
            rw [hds, hr] at e2
            cases e2
            exact ⟨⟨w', hd, fun x hx => by rw [hds]; exact F.wf i r hr x ((hw x).mpr hx), hw, hl4⟩, F.asc r hrm, by omega⟩
      have hwm : ∀ x, x ∈ r ↔ x ∈ w := fun x => hq2.mem_iff.symm
      by_cases hw0 : w = []
      · subst hw0
        simp -dsimp [lstOf, cellAt_end' _ hlen3]
        refine (given_ok helps m (by omega) h.length l _ [] _ (.inr rfl) rfl ((dr13.pool p.lt).app _)).imp ?_
        rintro v h6 ⟨hv, dr6⟩
        obtain ⟨h7, dr7, rfl⟩ := dr6.app (by rw [hlen3]; exact p.lt)
        have dr57 := dr13.trans dr7
        have hlen7 : h7.length = h.length := dr57.len
        obtain ⟨k1, k2, k3, k4⟩ := key [] v hwm hv (by first | omega | (simp; done) | (simp; omega) | (simp at hql ⊢; omega))
        simp -dsimp [lmop, cellAt_end' _ hlen7, setCell_end' _ _ hlen7, storable, hdb]
        exact ⟨_, _, dr57, ⟨rfl, rfl⟩, k2, k3, k4⟩
      · simp -dsimp [hw0]
        refine (take_ok helps m (by omega) h.length l 2 _ (by omega) (by decide) ((dr13.pool p.lt).app _)).imp ?_
        rintro v h4 ⟨z, rfl, z0, z1, dr4⟩
        obtain ⟨h5, dr5, rfl⟩ := dr4.app (by rw [hlen3]; exact p.lt)
        have dr15 := dr13.trans dr5
        have hlen5 : h5.length = h.length := dr15.len
        by_cases hz : z = 0
        · simp -dsimp [hz]
          refine (pick_ok helps m (by omega) h.length l _ (w.map natD) _ (.inr rfl) (natDs_pure w) (by simpa using hw0) (by rw [List.length_map, hql]; show _ < (1073741824 : Int); omega) ((dr15.pool p.lt).app _)).imp ?_
          rintro v h8 ⟨hv, dr8⟩
          obtain ⟨y, hy, rfl⟩ := List.mem_map.mp hv
          obtain ⟨h9, dr9, rfl⟩ := dr8.app (by rw [hlen5]; exact p.lt)
          have dr19 := dr15.trans dr9
          have hlen9 : h9.length = h.length := dr19.len
          have one : (1 : Nat) ≤ big := by show 1 ≤ 16777216; omega
          have hb2 : w.length + 1 ≤ big := by show w.length + 1 ≤ 16777216; omega
          simp -dsimp [short, one, hb2, lstOf, cellAt_end' _ hlen9]
          rw [show w.map natD ++ [natD y] = (w ++ [y]).map natD by simp]
          have hwm2 : ∀ x, x ∈ r ↔ x ∈ w ++ [y] := fun x => by
            rw [hwm x, List.mem_append, List.mem_singleton]
            constructor
            · exact .inl
            · rintro (h | rfl)
              · exact h
              · exact hy
          refine (given_ok helps m (by omega) h.length l _ ((w ++ [y]).map natD) _ (.inr rfl) (natDs_pure _) ((dr19.pool p.lt).app _)).imp ?_
          rintro v h6 ⟨hv, dr6⟩
          obtain ⟨h7, dr7, rfl⟩ := dr6.app (by rw [hlen9]; exact p.lt)
          have dr57 := dr19.trans dr7
          have hlen7 : h7.length = h.length := dr57.len
          obtain ⟨k1, k2, k3, k4⟩ := key _ v hwm2 hv (by first | omega | (simp; done) | (simp; omega) | (simp at hql ⊢; omega))
          simp -dsimp [lmop, cellAt_end' _ hlen7, setCell_end' _ _ hlen7, storable, hdb]
          exact ⟨_, _, dr57, ⟨rfl, rfl⟩, k2, k3, k4⟩
        · simp -dsimp [hz, lstOf, cellAt_end' _ hlen5]
          refine (given_ok helps m (by omega) h.length l _ (w.map natD) _ (.inr rfl) (natDs_pure _) ((dr15.pool p.lt).app _)).imp ?_
          rintro v h6 ⟨hv, dr6⟩
          obtain ⟨h7, dr7, rfl⟩ := dr6.app (by rw [hlen5]; exact p.lt)
          have dr57 := dr15.trans dr7
          have hlen7 : h7.length = h.length := dr57.len
          obtain ⟨k1, k2, k3, k4⟩ := key _ v hwm hv (by first | omega | (simp; done) | (simp; omega) | (simp at hql ⊢; omega))
          simp -dsimp [lmop, cellAt_end' _ hlen7, setCell_end' _ _ hlen7, storable, hdb]
          exact ⟨_, _, dr57, ⟨rfl, rfl⟩, k2, k3, k4⟩
    · intro j hj
      have hji : j < r.length := by
        have := hq.mem_iff.mp hj
        simpa using this
      apply nox_eq
      apply Ok.eq
      simp [natD, atD_nat, vl_of hji]
  · rintro env h' ⟨ds, h1, a, b, c, dr1, rfl, rfl, hds, hp, hg⟩
    rw [List.length_map] at hds
    have hlen1 : h1.length = h.length := dr1.len
    simp -dsimp
    refine (given_cell helps m (by omega) h.length l h.length ds _ (by rw [← hlen1]; simp) (by have := p.lt; omega) hp ((dr1.pool p.lt).app _)).imp ?_
    rintro v h2 ⟨hv, dr2⟩
    obtain ⟨h3, dr3, rfl⟩ := dr2.app (by rw [hlen1]; exact p.lt)
    have dr13 := dr1.trans dr3
    simp -dsimp
    exact .cells dr13.len (by rcases hv with rfl | rfl <;> simpa [D.pure] using hp) rfl ⟨dr13, ds, hv, hp, hds, hg⟩
end K84

set_option autoImplicit false
set_option linter.all false
set_option maxRecDepth 100000
/-! k84: the long table. -/
namespace K84
open PySem Px
theorem dedupI_le : ∀ l : List Int, (dedupI l).length ≤ l.length
  | [] => Nat.le_refl _
  | x :: l => by
    unfold dedupI
    have := dedupI_le l
    split <;> simp <;> omega
theorem sortset_nat (q : List Nat) : ∃ s : List Nat, isort (dedupI (q.map fun k : Nat => (k : Int))) = s.map (fun k : Nat => (k : Int)) ∧ s.Pairwise (· < ·) ∧ (∀ x, x ∈ s ↔ x ∈ q) ∧ s.length ≤ q.length := by
  have hm : ∀ x : Int, x ∈ isort (dedupI (q.map fun k : Nat => (k : Int))) ↔ x ∈ q.map fun k : Nat => (k : Int) := fun x => by rw [mem_isort, mem_dedupI]
  have ha := isort_asc (q.map fun k : Nat => (k : Int))
  have hl : (isort (dedupI (q.map fun k : Nat => (k : Int)))).length ≤ q.length := by
    rw [len_isort]
    have := dedupI_le (q.map fun k : Nat => (k : Int))
    simpa using this
  generalize isort (dedupI (q.map fun k : Nat => (k : Int))) = z at hm ha hl
  have hz : (z.map Int.toNat).map (fun k : Nat => (k : Int)) = z := by
    rw [List.map_map]
    refine (List.map_congr_left fun x hx => ?_).trans (List.map_id z)
    obtain ⟨k, _, rfl⟩ := List.mem_map.mp ((hm x).mp hx)
    simp
  refine ⟨z.map Int.toNat, hz.symm, ?_, ?_, by simpa using hl⟩
  · rw [← hz, List.pairwise_map] at ha
    exact ha.imp fun h => by omega
  · intro x
    have h1 : x ∈ z.map Int.toNat ↔ (x : Int) ∈ z := by
      constructor
      · intro h
        obtain ⟨y, hy, rfl⟩ := List.mem_map.mp h
        obtain ⟨k, _, rfl⟩ := List.mem_map.mp ((hm y).mp hy)
        simpa using hy
      · intro h
        exact List.mem_map.mpr ⟨x, h, by simp⟩
    rw [h1, hm, List.mem_map]
    constructor
    · rintro ⟨y, hy, e⟩
      have : y = x := by omega
      exact this ▸ hy
    · exact fun h => ⟨x, h, rfl⟩
theorem run__law_long (n : Nat) (hn : 3 ≤ n) (base l : Nat) (h : Hh) (p : IsPool l h) :
    Ok (run P n (("_law_long" : Str), none) base [.ref l] h) fun v h' => Drew l h h' ∧ ∃ t : List (List Nat), v = tabD t ∧ Fine t := by
  obtain ⟨m, rfl⟩ : ∃ m, n = m + 1 := ⟨n - 1, by omega⟩
  rw [run_fn m base _ h lk__law_long rfl rfl]
  refine Ok_leaves ?_
  have one : (1 : Nat) ≤ big := by show 1 ≤ 16777216; omega
  simp -dsimp [b__law_long, startEnv, short, one, Px.alloc]
  rw [rangeW_ints 1 400 (by omega) (by omega)]
  simp -dsimp
  refine for_ok (fun i env h' => ∃ (t : List (List Nat)) (h3 : Hh) (a b : Option D), Drew l h h3 ∧ h' = h3 ++ [.l (t.map rowD)] ∧ env = [some (.ref l), some (.ref h.length), a, b] ∧ t.length = i + 1 ∧ WF t ∧ ∀ r ∈ t, r.Pairwise (· < ·) ∧ r.length ≤ 3)
    ⟨[[]], h, none, none, Drew.refl p, rfl, rfl, rfl, fun k r e x hx => by
      have := List.mem_of_getElem? e
      have : r = [] := by simpa using this
      subst this
      simp at hx, fun r hr => by
      have : r = [] := by simpa using hr
      subst this
      simp⟩ ?_ ?_
  · rintro i x env h' hx ⟨t, h1, a, b, dr1, rfl, rfl, ht, wf, hr⟩
    have hi : i < 399 := by
      have := (List.getElem?_eq_some_iff.mp hx).1
      simpa using this
    have hx : x = .int (1 + i) := by
      rw [List.getElem?_map, List.getElem?_range hi] at hx
      exact (Option.some.inj hx).symm
    subst hx
    have hlen1 : h1.length = h.length := dr1.len
    have htb : t.length < big := by show t.length < 16777216; omega
    simp -dsimp [turn, lstOf, cellAt_end' _ hlen1]
    refine (take_ok helps m (by omega) h.length l 4 _ (by omega) (by decide) ((dr1.pool p.lt).app _)).imp ?_
    rintro v h2 ⟨z, rfl, z0, z1, dr2⟩
    obtain ⟨h3, dr3, rfl⟩ := dr2.app (by rw [hlen1]; exact p.lt)
    have dr13 := dr1.trans dr3
    have hlen3 : h3.length = h.length := dr13.len
    obtain ⟨z, rfl⟩ : ∃ k : Nat, z = k := ⟨z.toNat, by omega⟩
    have hzb : z ≤ big := by show z ≤ 16777216; omega
    simp -dsimp [rangeN _ hzb]
    refine collectI_ok (fun j acc h' => ∃ (q : List Nat) (h4 : Hh), acc = q.map natD ∧ Drew l h h4 ∧ h' = h4 ++ [.l (t.map rowD)] ∧ q.length = j ∧ ∀ x ∈ q, x < i + 1) _ 0 [] _ ⟨[], h3, rfl, dr13, rfl, rfl, by simp⟩ ?_ ?_
    · rintro j x acc h' hx ⟨q, h4, rfl, dr4, rfl, q2, q3⟩
      rw [Nat.zero_add] at q2 ⊢
      have hlen4 : h4.length = h.length := dr4.len
      obtain ⟨y, rfl⟩ : ∃ y : Nat, x = natD y := by
        obtain ⟨y, _, rfl⟩ := List.mem_map.mp (List.mem_of_getElem? hx)
        exact ⟨y, rfl⟩
      apply Ok_nox
      simp -dsimp
      refine (take_ok helps m (by omega) h.length l (min (1 + (i : Int)) 9) _ (by omega) (by show _ < (1073741824 : Int); omega) ((dr4.pool p.lt).app _)).imp ?_
      rintro v h5 ⟨u, rfl, u0, u1, dr5⟩
      obtain ⟨h6, dr6, rfl⟩ := dr5.app (by rw [hlen4]; exact p.lt)
      simp -dsimp
      refine ⟨q ++ [(1 + (i : Int) - 1 - u).toNat], ?_, h6, dr4.trans dr6, rfl, by simp [q2], ?_⟩
      · rw [List.map_append]
        congr 2
        simp only [natD]
        congr 1
        omega
      · intro x hx
        rcases List.mem_append.mp hx with hx | hx
        · exact q3 x hx
        · have : x = (1 + (i : Int) - 1 - u).toNat := by simpa using hx
          omega
    · rintro acc h' ⟨q, h4, hacc, dr4, rfl, q2, q3⟩
      rw [List.nil_append] at hacc
      subst hacc
      rw [Nat.zero_add, List.length_map, List.length_range] at q2
      have hlen4 : h4.length = h.length := dr4.len
      obtain ⟨s, s1, s2, s3, s4⟩ := sortset_nat q
      have h64 : (dedupI (q.map fun k : Nat => (k : Int))).length < 64 := by
        have := dedupI_le (q.map fun k : Nat => (k : Int))
        rw [List.length_map] at this
        omega
      have h4k : q.length < 4000 := by omega
      have e1 : (s.map fun k : Nat => (k : Int)).map D.int = s.map natD := by simp [natD, Function.comp_def]
      simp -dsimp [h64, h4k, s1, lmop, cellAt_end' _ hlen4, setCell_end' _ _ hlen4, storable, htb]
      refine ⟨t ++ [s], h4, dr4, ⟨rfl, ?_⟩, by simp [ht], ?_, ?_⟩
      · simp [rowD, natD, Function.comp_def]
      · intro k r e x hx
        by_cases hk : k < t.length
        · rw [List.getElem?_append_left hk] at e
          exact wf k r e x hx
        · have hk2 := (List.getElem?_eq_some_iff.mp e).1
          rw [List.length_append] at hk2
          have : k = t.length := by simp at hk2; omega
          subst this
          rw [List.getElem?_append_right (Nat.le_refl _)] at e
          simp at e
          subst e
          rw [ht]
          exact q3 x ((s3 x).mp hx)
      · intro r hr2
        rcases List.mem_append.mp hr2 with hr2 | hr2
        · exact hr r hr2
        · have : r = s := by simpa using hr2
          subst this
          exact ⟨s2, by omega⟩
  · rintro env h' ⟨t, h3, a, b, dr3, rfl, rfl, ht, wf, hr⟩
    have hlen3 : h3.length = h.length := dr3.len
    rw [List.length_map, List.length_range] at ht
    simp -dsimp [seqOf, cellAt_end' _ hlen3]
    refine .cells hlen3 (tabD_pure t) rfl ⟨dr3, t, rfl, wf, fun r h => (hr r h).1, fun r h => by have := (hr r h).2; omega, by omega, ?_, ?_⟩
    · simp at ht; omega
    · have := sum_le 3 (by omega) t fun r h => by have := (hr r h).2; omega
      simp at ht
      omega
end K84

set_option autoImplicit false
set_option linter.all false
set_option maxRecDepth 100000
/-! k84: moves in both. -/
namespace K84
open PySem Px
def pairD (p : Nat × Nat) : D := .tup [natD p.1, natD p.2]
@[simp] theorem pairD_pure (p : Nat × Nat) : (pairD p).pure = true := by simp [pairD, D.pure, pureL]
theorem pairDs_pure (l : List (Nat × Nat)) : pureL (l.map pairD) = true := pureL_map pairD_pure l
def prod (A B : List Nat) : List (Nat × Nat) := A.flatMap fun x => B.map fun y => (x, y)
theorem mem_prod {A B : List Nat} {p : Nat × Nat} : p ∈ prod A B ↔ p.1 ∈ A ∧ p.2 ∈ B := by
  unfold prod
  simp only [List.mem_flatMap, List.mem_map]
  constructor
  · rintro ⟨a, ha, b, hb, rfl⟩
    exact ⟨ha, hb⟩
  · rintro ⟨h1, h2⟩
    exact ⟨p.1, h1, p.2, h2, rfl⟩
theorem prod_len (A B : List Nat) : (prod A B).length = A.length * B.length := by
  unfold prod
  induction A with
  | nil => simp
  | cons a A ih =>
    rw [List.flatMap_cons, List.length_append, ih, List.length_map, List.length_cons, Nat.add_mul, Nat.one_mul]
    omega
/-- the options of one place, the other one's beside them -/
def optA (sh : Bool) (A B : List Nat) (a : Nat) : List Nat := if sh = true then A else if A = [] then (if B = [] then [] else [a]) else A
def steps (sh : Bool) (t : List (List Nat)) (p : Nat × Nat) : List (Nat × Nat) := prod (optA sh (vl t p.1) (vl t p.2) p.1) (optA sh (vl t p.2) (vl t p.1) p.2)
theorem run__law_joint_steps (n : Nat) (hn : 1 ≤ n) (base : Nat) (t : List (List Nat)) (hs : ∀ r ∈ t, r.length ≤ 10) (p : Nat × Nat) (h1 : p.1 < t.length) (h2 : p.2 < t.length) (sh : Bool) (h : Hh) :
    run P n (("_law_joint_steps" : Str), none) base [tabD t, pairD p, .bl sh] h = .ok (.lst ((steps sh t p).map pairD)) h := by
  obtain ⟨m, rfl⟩ : ∃ m, n = m + 1 := ⟨n - 1, by omega⟩
  obtain ⟨a, b⟩ := p
  rw [run_fn m base _ h lk__law_joint_steps rfl rfl]
  apply Ok.eq
  apply Ok_leave0
  have e1 := vl_of h1
  have e2 := vl_of h2
  have r1 := hs _ (List.mem_of_getElem? e1)
  have r2 := hs _ (List.mem_of_getElem? e2)
  simp only at e1 e2 r1 r2
  have i0 : ∀ x y : D, atD [x, y] 0 = some x := fun _ _ => rfl
  have i1 : ∀ x y : D, atD [x, y] 1 = some y := fun _ _ => rfl
  have one : (1 : Nat) ≤ big := by show 1 ≤ 16777216; omega
  have two : (2 : Nat) ≤ big := by show 2 ≤ 16777216; omega
  -- the loop
  have loop : ∀ (A B : List Nat), A.length ≤ 10 → B.length ≤ 10 → Ok (Px.execs (cxt P (Px.run P m)) h.length (b__law_joint_steps.drop 2) [some (tabD t), some (pairD (a, b)), some (.bl sh), some (rowD A), some (rowD B), none, none, none] h)
      (fun p h' => Ok (valOf p h') fun d h' => d.pure = true ∧ h' = h ∧ d = .lst ((prod A B).map pairD) ∧ h = h) := by
    intro A B hA hB
    simp -dsimp [b__law_joint_steps, short]
    simp -dsimp [rowD]
    refine for_ok (fun i env h' => ∃ x y, env = [some (tabD t), some (pairD (a, b)), some (.bl sh), some (.tup (A.map natD)), some (.tup (B.map natD)), some (.lst ((prod (A.take i) B).map pairD)), x, y] ∧ h' = h) ⟨none, none, rfl, rfl⟩ ?_ ?_
    · rintro i x env h' hx ⟨u, v, rfl, rfl⟩
      rw [List.getElem?_map] at hx
      obtain ⟨k, hk, rfl⟩ := Option.map_eq_some_iff.mp hx
      simp -dsimp [turn]
      rw [collectI_map natD (fun y => pairD (k, y)) B]
      · have hl : (prod (A.take i) B).length + B.length ≤ big := by
          have h3 := prod_len (A.take i) B
          have h4 : (A.take i).length ≤ 10 := by rw [List.length_take]; omega
          have h5 : (A.take i).length * B.length ≤ 10 * 10 := Nat.mul_le_mul h4 hB
          show _ ≤ 16777216
          omega
        simp -dsimp [hl]
        rw [List.take_succ, hk]
        simp [prod, pairD, List.flatMap_append]
      · intro y hy
        apply nox_eq
        apply Ok.eq
        simp -dsimp [short, two, pairD]
    · rintro env h' ⟨u, v, rfl, rfl⟩
      rw [List.length_map, List.take_length]
      simp -dsimp [D.pure, pairDs_pure]
  have bd : b__law_joint_steps = b__law_joint_steps.take 2 ++ b__law_joint_steps.drop 2 := rfl
  obtain ⟨R, hR⟩ : ∃ R, R = b__law_joint_steps.drop 2 := ⟨_, rfl⟩
  rw [← hR] at loop bd
  show Ok ((Px.bind (Px.execs (cxt P (Px.run P m)) h.length b__law_joint_steps _) valOf) h) _
  rw [bd]
  have emp : ∀ l : List Nat, (rowD l) = .tup (l.map natD) := fun _ => rfl
  cases sh with
  | true =>
    have q := loop (vl t a) (vl t b) r1 r2
    simp -dsimp [b__law_joint_steps, startEnv, pairD, tabD, natD, i0, i1, atD_nat, e1, e2]
    simp only [pairD, tabD, natD] at q
    simpa [steps, optA] using q
  | false =>
    have hA : (optA false (vl t a) (vl t b) a).length ≤ 10 := by
      unfold optA
      simp only [Bool.false_eq_true, if_false]
      split
      · split <;> simp
      · exact r1
    have hB : (optA false (vl t b) (vl t a) b).length ≤ 10 := by
      unfold optA
      simp only [Bool.false_eq_true, if_false]
      split
      · split <;> simp
      · exact r2
    have q := loop _ _ hA hB
    simp only [pairD, tabD, natD] at q
    by_cases ha : vl t a = []
    · by_cases hb : vl t b = []
      · simp -dsimp [b__law_joint_steps, startEnv, pairD, tabD, natD, i0, i1, atD_nat, e1, e2, ha, hb, rowD, short, one]
        simpa [steps, optA, ha, hb, rowD, pairD, natD] using q
      · simp -dsimp [b__law_joint_steps, startEnv, pairD, tabD, natD, i0, i1, atD_nat, e1, e2, ha, hb, rowD, short, one]
        simpa [steps, optA, ha, hb, rowD, pairD, natD] using q
    · by_cases hb : vl t b = []
      · simp -dsimp [b__law_joint_steps, startEnv, pairD, tabD, natD, i0, i1, atD_nat, e1, e2, ha, hb, rowD, short, one]
        simpa [steps, optA, ha, hb, rowD, pairD, natD] using q
      · simp -dsimp [b__law_joint_steps, startEnv, pairD, tabD, natD, i0, i1, atD_nat, e1, e2, ha, hb, rowD, short, one]
        simpa [steps, optA, ha, hb, rowD, pairD, natD] using q
end K84

set_option autoImplicit false
set_option linter.all false
set_option maxRecDepth 100000
/-! k84: the table of two places, both moved in: facts. -/
namespace K84
open PySem Px
/-! ### dicts by pairs -/
theorem keq_pair (p q : Nat × Nat) : (pairD p).keq (pairD q) = decide (p = q) := by
  obtain ⟨a, b⟩ := p
  obtain ⟨c, d⟩ := q
  simp only [pairD, natD, D.keq, keqL, Bool.and_true]
  by_cases h1 : a = c
  · subst h1
    by_cases h2 : b = d
    · subst h2; simp
    · have : ¬ (b : Int) = d := by omega
      simp [h2, this]
  · have : ¬ (a : Int) = c := by omega
    simp [h1, this]
def kvsOf (S : List (Nat × Nat)) : List (D × D) := S.map fun p => (pairD p, D.bl true)
theorem khas_pair (S : List (Nat × Nat)) (q : Nat × Nat) : khas (kvsOf S) (pairD q) = decide (q ∈ S) := by
  unfold khas kvsOf
  rw [List.any_map]
  induction S with
  | nil => simp
  | cons p S ih =>
    rw [List.any_cons, ih]
    simp only [Function.comp_apply, keq_pair, List.mem_cons]
    by_cases h : p = q
    · simp [h]
    · have : ¬ q = p := fun z => h z.symm
      simp [h, this]
def insP (q : Nat × Nat) (S : List (Nat × Nat)) : List (Nat × Nat) := if q ∈ S then S else S ++ [q]
theorem mem_insP {q x : Nat × Nat} {S : List (Nat × Nat)} : x ∈ insP q S ↔ x ∈ S ∨ x = q := by
  unfold insP
  split
  · rename_i h
    constructor
    · exact .inl
    · rintro (h2 | rfl)
      · exact h2
      · exact h
  · simp
theorem nodup_insP {q : Nat × Nat} {S : List (Nat × Nat)} (h : S.Nodup) : (insP q S).Nodup := by
  unfold insP
  split
  · exact h
  · rename_i hq
    rw [List.nodup_append]
    exact ⟨h, by simp, fun a ha b hb => by
      have : b = q := by simpa using hb
      exact fun z => hq (by rw [← this, ← z]; exact ha)⟩
theorem kput_pair (S : List (Nat × Nat)) (q : Nat × Nat) : kput (kvsOf S) (pairD q) (.bl true) = kvsOf (insP q S) := by
  unfold kput insP
  rw [khas_pair]
  by_cases h : q ∈ S
  · simp only [h, decide_true, if_true]
    unfold kvsOf
    rw [List.map_map]
    refine List.map_congr_left fun p _ => ?_
    simp only [Function.comp_apply]
    split <;> rfl
  · simp only [h, decide_false, Bool.false_eq_true, if_false]
    simp [kvsOf]
theorem keyOk_pair (p : Nat × Nat) : keyOk .t (pairD p) = true := by simp [pairD, keyOk, natD, D.flat]

/-! ### the steps go down -/
section
variable {t : List (List Nat)} (wf : WF t) {sh : Bool} {p q : Nat × Nat} (h1 : p.1 < t.length) (h2 : p.2 < t.length) (hq : q ∈ steps sh t p)
include wf h1 h2 hq
theorem steps_lt : q.1 < t.length ∧ q.2 < t.length ∧ q.1 + q.2 < p.1 + p.2 := by
  have e1 := vl_of h1
  have e2 := vl_of h2
  have k1 := wf p.1 _ e1
  have k2 := wf p.2 _ e2
  obtain ⟨m1, m2⟩ := mem_prod.mp hq
  unfold optA at m1 m2
  cases sh with
  | true =>
    simp only [if_true] at m1 m2
    have := k1 _ m1
    have := k2 _ m2
    omega
  | false =>
    simp only [Bool.false_eq_true, if_false] at m1 m2
    by_cases ha : vl t p.1 = []
    · by_cases hb : vl t p.2 = []
      · simp [ha, hb] at m1
      · simp [ha, hb] at m1 m2
        have := k2 _ m2
        omega
    · by_cases hb : vl t p.2 = []
      · simp [ha, hb] at m1 m2
        have := k1 _ m1
        omega
      · simp [ha, hb] at m1 m2
        have := k1 _ m1
        have := k2 _ m2
        omega
end
/-! ### sorting by total -/
def trD (p : Nat × Nat) : D := .tup [.int ((p.1 : Int) + p.2), pairD p]
theorem trD_pure (p : Nat × Nat) : (trD p).pure = true := by simp [trD, D.pure, pureL]
/-- the order: total, then the pair -/
def leP (p q : Nat × Nat) : Bool := decide (p.1 + p.2 < q.1 + q.2 ∨ (p.1 + p.2 = q.1 + q.2 ∧ p.1 ≤ q.1))
theorem leP_eq (p q : Nat × Nat) : leP p q = !PySem.W.dataLt (trD q).toP (trD p).toP := by
  have e : ∀ r : Nat × Nat, (trD r).toP = .tuple [.int ((r.1 : Int) + r.2), .tuple [.int (r.1 : Int), .int (r.2 : Int)]] := fun r => by simp [trD, pairD, natD, D.toP, toPL]
  rw [e, e, PySem.W.dataLt_pair (by simp [PySem.W.alike]) (by simp [PySem.W.alike, PySem.W.alikeAll]), PySem.W.dataLt_ii, PySem.W.dataLt_int]
  unfold leP
  simp only [PyData.eqv, PyData.eqvAll, beq_iff_eq, Bool.and_true, Bool.and_eq_true]
  split
  · rename_i h
    split
    · rename_i h2
      have : p.1 = q.1 := by omega
      have h3 : p.2 = q.2 := by omega
      simp [this, h3]
    · rename_i h2
      by_cases h3 : p.1 ≤ q.1
      · have h4 : ¬ ((q.1 : Int) < p.1 ∨ ((q.1 : Int) = p.1 ∧ (q.2 : Int) < p.2)) := by omega
        simp only [h4, decide_false, Bool.not_false, decide_eq_true_eq]
        omega
      · have h4 : ((q.1 : Int) < p.1 ∨ ((q.1 : Int) = p.1 ∧ (q.2 : Int) < p.2)) := by omega
        simp only [h4, decide_true, Bool.not_true, decide_eq_false_iff_not]
        omega
  · rename_i h
    by_cases h3 : (q.1 : Int) + q.2 < (p.1 : Int) + p.2
    · simp only [h3, decide_true, Bool.not_true, decide_eq_false_iff_not]
      omega
    · simp only [h3, decide_false, Bool.not_false, decide_eq_true_eq]
      omega
def sortP (S : List (Nat × Nat)) : List (Nat × Nat) := S.mergeSort leP
theorem sortD_tr (S : List (Nat × Nat)) : sortD (S.map trD) = (sortP S).map trD := by
  unfold sortD sortP
  rw [List.map_mergeSort (s := fun x y => !PySem.W.dataLt y.toP x.toP) fun a _ b _ => leP_eq a b]
theorem sortP_perm (S : List (Nat × Nat)) : (sortP S).Perm S := List.mergeSort_perm _ _
theorem sortP_srt (S : List (Nat × Nat)) : (sortP S).Pairwise fun p q => p.1 + p.2 ≤ q.1 + q.2 := by
  have := List.pairwise_mergeSort (le := leP) (fun a b c h1 h2 => by
    simp only [leP, decide_eq_true_eq] at h1 h2 ⊢
    omega) (fun a b => by
    simp only [leP, Bool.or_eq_true, decide_eq_true_eq]
    omega) S
  refine List.Pairwise.imp ?_ this
  intro a b h
  simp only [leP, decide_eq_true_eq] at h
  omega
theorem plain_tr : ∀ S : List (Nat × Nat), plainL (S.map trD) = true
  | [] => rfl
  | p :: S => by
    rw [List.map_cons, plainL, plain_tr S]
    simp [trD, pairD, natD, D.plain, plainL]
theorem depth_tr : ∀ S : List (Nat × Nat), depthL (S.map trD) ≤ 3
  | [] => by simp [depthL]
  | p :: S => by
    rw [List.map_cons, depthL]
    have := depth_tr S
    have : (trD p).depth = 3 := by simp [trD, pairD, natD, D.depth, depthL]
    omega
theorem sortable_tr (S : List (Nat × Nat)) : sortable (S.map trD) = true := by
  unfold sortable
  have h1 := plain_tr S
  have h2 : decide (depthL (S.map trD) ≤ 100) = true := by have := depth_tr S; simp; omega
  have h3 : (S.map trD).all neTup = true := by
    rw [List.all_eq_true]
    intro x hx
    obtain ⟨p, _, rfl⟩ := List.mem_map.mp hx
    rfl
  have h4 : ((S.map trD).all fun x => (S.map trD).all fun y => PySem.W.alike x.toP y.toP) = true := by
    rw [List.all_eq_true]
    intro x hx
    rw [List.all_eq_true]
    intro y hy
    obtain ⟨p, _, rfl⟩ := List.mem_map.mp hx
    obtain ⟨q, _, rfl⟩ := List.mem_map.mp hy
    simp [trD, pairD, natD, D.toP, toPL, PySem.W.alike, PySem.W.alikeAll]
  rw [h1, h2, h3, h4]
  rfl
/-! ### where a pair stands -/
def atL (S : List (Nat × Nat)) : List (D × D) := (List.range S.length).map fun k => (pairD (vl S k), natD k)
theorem kget_at {S : List (Nat × Nat)} (nd : S.Nodup) {k : Nat} (hk : k < S.length) : kget (atL S) (pairD (vl S k)) = some (natD k) := by
  unfold kget atL
  rw [List.find?_map]
  have : (List.range S.length).find? ((fun p : D × D => p.1.keq (pairD (vl S k))) ∘ fun k => (pairD (vl S k), natD k)) = some k := by
    rw [List.find?_range_eq_some]
    refine ⟨by simp [keq_pair], List.mem_range.mpr hk, fun j hj => ?_⟩
    simp only [Function.comp_apply, keq_pair, Bool.not_eq_true', decide_eq_false_iff_not]
    intro e
    have h1 := vl_of (T := S) (j := j) (by omega)
    have h2 := vl_of hk
    rw [e] at h1
    have := (List.getElem?_inj (by omega) nd).mp (h1.trans h2.symm)
    omega
  rw [this]
  rfl
theorem putAll_new : ∀ (L acc : List (D × D)), (∀ (i : Nat) (x : D × D), L[i]? = some x → khas acc x.1 = false ∧ ∀ (j : Nat) (y : D × D), j < i → L[j]? = some y → y.1.keq x.1 = false) → putAll acc L = acc ++ L
  | [], acc, _ => by simp [putAll]
  | (k, v) :: L, acc, h => by
    have h0 := (h 0 (k, v) rfl).1
    rw [putAll]
    have e : kput acc k v = acc ++ [(k, v)] := by
      unfold kput
      rw [if_neg (by simp only at h0; simp [h0])]
    rw [e, putAll_new L (acc ++ [(k, v)]) fun i x hx => ?_]
    · simp
    · have hi := h (i + 1) x (by simpa using hx)
      refine ⟨?_, fun j y hj hy => hi.2 (j + 1) y (by omega) (by simpa using hy)⟩
      have k1 := hi.1
      have k2 := hi.2 0 (k, v) (by omega) rfl
      unfold khas at k1 ⊢
      rw [List.any_append, k1]
      simpa using k2
theorem putAll_at {S : List (Nat × Nat)} (nd : S.Nodup) : putAll [] (atL S) = atL S := by
  rw [putAll_new, List.nil_append]
  intro i x hx
  refine ⟨rfl, fun j y hj hy => ?_⟩
  unfold atL at hx hy
  rw [List.getElem?_map] at hx hy
  obtain ⟨a, ha, rfl⟩ := Option.map_eq_some_iff.mp hx
  obtain ⟨b, hb, rfl⟩ := Option.map_eq_some_iff.mp hy
  have hi := (List.getElem?_eq_some_iff.mp ha).1
  rw [List.length_range] at hi
  rw [List.getElem?_range hi] at ha
  rw [List.getElem?_range (by omega)] at hb
  cases ha
  cases hb
  simp only [keq_pair, decide_eq_false_iff_not]
  intro e
  have h1 := vl_of (T := S) (j := j) (by omega)
  have h2 := vl_of hi
  rw [e] at h1
  have := (List.getElem?_inj (by omega) nd).mp (h1.trans h2.symm)
  omega
theorem sort_nat (q : List Nat) : ∃ s : List Nat, isort (q.map fun k : Nat => (k : Int)) = s.map (fun k : Nat => (k : Int)) ∧ (∀ x, x ∈ s ↔ x ∈ q) ∧ s.length = q.length := by
  have hm : ∀ x : Int, x ∈ isort (q.map fun k : Nat => (k : Int)) ↔ x ∈ q.map fun k : Nat => (k : Int) := fun x => mem_isort _ _
  have hl : (isort (q.map fun k : Nat => (k : Int))).length = q.length := by
    rw [len_isort]
    simp
  generalize isort (q.map fun k : Nat => (k : Int)) = z at hm hl
  have hz : (z.map Int.toNat).map (fun k : Nat => (k : Int)) = z := by
    rw [List.map_map]
    refine (List.map_congr_left fun x hx => ?_).trans (List.map_id z)
    obtain ⟨k, _, rfl⟩ := List.mem_map.mp ((hm x).mp hx)
    simp
  refine ⟨z.map Int.toNat, hz.symm, ?_, by simpa using hl⟩
  intro x
  have h1 : x ∈ z.map Int.toNat ↔ (x : Int) ∈ z := by
    constructor
    · intro h
      obtain ⟨y, hy, rfl⟩ := List.mem_map.mp h
      obtain ⟨k, _, rfl⟩ := List.mem_map.mp ((hm y).mp hy)
      simpa using hy
    · intro h
      exact List.mem_map.mpr ⟨x, h, by simp⟩
  rw [h1, hm, List.mem_map]
  constructor
  · rintro ⟨y, hy, e⟩
    have : y = x := by omega
    exact this ▸ hy
  · exact fun h => ⟨x, h, rfl⟩
end K84

set_option autoImplicit false
set_option linter.all false
set_option maxRecDepth 100000
/-! k84: the table of two places, both moved in: the walk. -/
namespace K84
open PySem Px
@[simp ↓] theorem evIt_range3_ok (c : Cxt) (base : Nat) (env : Px.Env) (a b d : Ex) (h : Hh) (Q : _ → Hh → Prop) (E : Exn → Hh → Prop) (tq : Tag (Q, E)) : Ok (evIt c base env (.range3 a b d) h) Q E tq = Ok ((Px.bind (evE c base env a) fun x => Px.bind (evE c base env b) fun y => Px.bind (evE c base env d) fun z => Px.bind (asInt x) fun i => Px.bind (asInt y) fun j => Px.bind (asInt z) fun k =>
      if decide (k = -1) && ((decide (-4611686018427387904 ≤ i) && decide (i < 4611686018427387904)) && ((decide (-4611686018427387904 ≤ j) && decide (j < 4611686018427387904)) && decide ((i - j).toNat ≤ big)))
      then Px.ret (.items (rangeC i (-1) (i - j).toNat)) else fail) h) Q E tq := by
  simp only [evIt]
theorem rangeC_eq (c : Int) : ∀ (n : Nat) (lo : Int), rangeC lo c n = (List.range n).map fun k : Nat => D.int (lo + c * k)
  | 0, lo => rfl
  | n + 1, lo => by
    rw [rangeC, rangeC_eq c n (lo + c), List.range_succ_eq_map, List.map_cons, List.map_map]
    congr 1
    · simp
    · refine List.map_congr_left fun k _ => ?_
      show D.int (lo + c + c * k) = D.int (lo + c * ((k + 1 : Nat) : Int))
      congr 1
      rw [Int.natCast_add, Int.mul_add]
      simp
      omega
/-- the keys of a dict of pairs, gone through without effect -/
theorem collect_keys {f : D → M (List D)} {h : Hh} {k : Nat} (hk : h.length = k) (S : List (Nat × Nat)) (p : Nat × Nat → Bool) (g : Nat × Nat → D) (hf : ∀ q ∈ S, f (pairD q) (h ++ [.lock]) = .ok (if p q then [g q] else []) (h ++ [.lock])) :
    Px.collect f (.keys k) (h ++ [.d .t (kvsOf S)]) = .ok ((S.filter p).map g) (h ++ [.d .t (kvsOf S)]) := by
  have e1 : (kvsOf S).map (·.1) = S.map pairD := by simp [kvsOf, Function.comp_def]
  unfold Px.collect
  simp only [bind_at, cellAt_end' _ hk, bind_ok, setCell_end' _ _ hk]
  rw [e1, collectI_filter pairD p g S hf]
  simp only [bind_ok, bind_at, setCell_end' _ _ hk, ret_at]
theorem walk_keys {h : Hh} {k : Nat} (hk : h.length = k) (S : List (Nat × Nat)) : walkOf (.ref k) (h ++ [.d .t (kvsOf S)]) = .ok (.keys k) (h ++ [.d .t (kvsOf S)]) := by
  simp only [walkOf, bind_at, cellAt_end' _ hk, bind_ok, ret_at]
/-- what is gone through so far -/
structure Inv (t : List (List Nat)) (st : Nat × Nat) (S : List (Nat × Nat)) : Prop where
  nd : S.Nodup
  has : st ∈ S
  mem : ∀ p ∈ S, p.1 < t.length ∧ p.2 < t.length ∧ (p = st ∨ p.1 + p.2 < st.1 + st.2)
theorem Inv.len {t : List (List Nat)} {st : Nat × Nat} {S : List (Nat × Nat)} (I : Inv t st S) (h8 : t.length ≤ 8) : S.length ≤ 64 := by
  have h1 := nodup_sub I.nd (ys := prod (List.range 8) (List.range 8)) fun p hp => by
    have := I.mem p hp
    exact mem_prod.mpr ⟨List.mem_range.mpr (by omega), List.mem_range.mpr (by omega)⟩
  rw [prod_len] at h1
  simpa using h1
theorem Inv.ins {t : List (List Nat)} {st : Nat × Nat} {S : List (Nat × Nat)} (I : Inv t st S) {q : Nat × Nat} (h1 : q.1 < t.length) (h2 : q.2 < t.length) (h3 : q.1 + q.2 < st.1 + st.2) : Inv t st (insP q S) :=
  ⟨nodup_insP I.nd, mem_insP.mpr (.inl I.has), fun p hp => by
    rcases mem_insP.mp hp with hp | rfl
    · exact I.mem p hp
    · exact ⟨h1, h2, .inr h3⟩⟩
def SubP (S S' : List (Nat × Nat)) : Prop := ∀ p ∈ S, p ∈ S'
def NewP (tot : Nat) (S S' : List (Nat × Nat)) : Prop := ∀ p ∈ S', p ∈ S ∨ p.1 + p.2 < tot
def DoneP (sh : Bool) (t : List (List Nat)) (l S' : List (Nat × Nat)) : Prop := ∀ p ∈ l, ∀ q ∈ steps sh t p, q ∈ S'
def ClP (sh : Bool) (t : List (List Nat)) (s i : Nat) (S : List (Nat × Nat)) : Prop := ∀ p ∈ S, s < p.1 + p.2 + i → ∀ q ∈ steps sh t p, q ∈ S
/-- the table of both, by its pairs -/
structure Joint (sh : Bool) (t : List (List Nat)) (st : Nat × Nat) (PS : List (Nat × Nat)) : Prop where
  inv : Inv t st PS
  srt : PS.Pairwise fun p q => p.1 + p.2 ≤ q.1 + q.2
  closed : ∀ p ∈ PS, ∀ q ∈ steps sh t p, q ∈ PS
theorem run__law_joined (n : Nat) (hn : 3 ≤ n) (base : Nat) (t : List (List Nat)) (wf : WF t) (hs : ∀ r ∈ t, r.length ≤ 10) (h8 : t.length ≤ 8) (st : Nat × Nat) (h1 : st.1 < t.length) (h2 : st.2 < t.length) (z1 z2 : Int) (hz1 : z1 = st.1) (hz2 : z2 = st.2) (sh : Bool) (h : Hh) :
    ∃ (PS : List (Nat × Nat)) (rs : List (List Nat)), Joint sh t st PS ∧ rs.length = PS.length ∧ (∀ (k : Nat) (r : List Nat) (p : Nat × Nat), rs[k]? = some r → PS[k]? = some p → r.length = (steps sh t p).length ∧ ∀ x, x ∈ r ↔ ∃ q ∈ steps sh t p, PS[x]? = some q) ∧
      run P n (("_law_joined" : Str), none) base [tabD t, .int z1, .int z2, .bl sh] h = .ok (.lst (rs.map rowD)) h := by
  obtain ⟨m, rfl⟩ : ∃ m, n = m + 1 := ⟨n - 1, by omega⟩
  suffices g : Ok (run P (m + 1) (("_law_joined" : Str), none) base [tabD t, .int z1, .int z2, .bl sh] h) fun v h' => h' = h ∧ ∃ (PS : List (Nat × Nat)) (rs : List (List Nat)), Joint sh t st PS ∧ rs.length = PS.length ∧ (∀ (k : Nat) (r : List Nat) (p : Nat × Nat), rs[k]? = some r → PS[k]? = some p → r.length = (steps sh t p).length ∧ ∀ x, x ∈ r ↔ ∃ q ∈ steps sh t p, PS[x]? = some q) ∧ v = .lst (rs.map rowD) by
    obtain ⟨v, h', e, rfl, PS, rs, k1, k2, k3, rfl⟩ := g.ex
    exact ⟨PS, rs, k1, k2, k3, e⟩
  rw [run_fn m base _ h lk__law_joined rfl rfl]
  refine Ok_leaves ?_
  have two : (2 : Nat) ≤ big := by show 2 ≤ 16777216; omega
  obtain ⟨s1, s2⟩ := st
  simp only at h1 h2 hz1 hz2
  subst hz1 hz2
  have keyO : keyOk .t (.tup [.int (s1 : Int), .int (s2 : Int)]) = true := by simp [keyOk, D.flat]
  have put0 : putAll [] [(D.tup [.int (s1 : Int), .int (s2 : Int)], D.bl true)] = kvsOf [(s1, s2)] := rfl
  have rng : (decide ((-1 : Int) = -1) && ((decide (-4611686018427387904 ≤ (s1 : Int) + s2) && decide ((s1 : Int) + s2 < 4611686018427387904)) && ((decide (-4611686018427387904 ≤ (-1 : Int)) && decide ((-1 : Int) < 4611686018427387904)) && decide (((s1 : Int) + s2 - -1).toNat ≤ big)))) = true := by
    simp only [Bool.and_eq_true, decide_eq_true_eq]
    refine ⟨trivial, ⟨by omega, by omega⟩, ⟨by omega, by omega⟩, ?_⟩
    show ((s1 : Int) + s2 - -1).toNat ≤ 16777216
    omega
  simp -dsimp [b__law_joined, startEnv, short, two, pairUp, keyO, put0, Px.alloc]
  refine ⟨⟨⟨by omega, by omega⟩, by omega⟩, ?_⟩
  rw [rangeC_eq]
  have i0 : ∀ x y : D, atD [x, y] 0 = some x := fun _ _ => rfl
  have i1 : ∀ x y : D, atD [x, y] 1 = some y := fun _ _ => rfl
  refine for_ok (fun i env h' => ∃ (S : List (Nat × Nat)) (a b c : Option D), Inv t (s1, s2) S ∧ ClP sh t (s1 + s2) i S ∧ h' = h ++ [.d .t (kvsOf S)] ∧ env = [some (tabD t), some (.int (s1 : Int)), some (.int (s2 : Int)), some (.bl sh), some (.ref h.length), a, b, c, none, none, none])
    ⟨[(s1, s2)], none, none, none, ⟨by simp, by simp, fun p hp => by
      have : p = (s1, s2) := by simpa using hp
      subst this
      exact ⟨h1, h2, .inl rfl⟩⟩, fun p hp hlt => by
      have : p = (s1, s2) := by simpa using hp
      subst this
      simp at hlt, rfl, rfl⟩ ?_ ?_
  · -- a total
    rintro i x env h' hx ⟨S, a, b, c, I, cl, rfl, rfl⟩
    have hi : i < ((s1 : Int) + s2 + 1).toNat := by
      have := (List.getElem?_eq_some_iff.mp hx).1
      simpa using this
    have hx : x = .int ((s1 : Int) + s2 + -1 * i) := by
      rw [List.getElem?_map, List.getElem?_range hi] at hx
      exact (Option.some.inj hx).symm
    subst hx
    obtain ⟨tot, htot⟩ : ∃ tot : Nat, (s1 : Int) + s2 + -1 * i = tot := ⟨((s1 : Int) + s2 + -1 * i).toNat, by omega⟩
    rw [htot]
    have ck := fun f hf => collect_keys (f := f) (h := h) rfl S (fun p => decide (p.1 + p.2 = tot)) pairD hf
    simp -dsimp [turn, walk_keys rfl S]
    simp -dsimp [keysOf]
    rw [ck _ (fun q hq => by
      obtain ⟨u, v⟩ := q
      apply nox_eq
      apply Ok.eq
      by_cases hj : u + v = tot
      · have : ((u : Int) + v) = tot := by omega
        simp -dsimp [pairD, natD, i0, i1, this, hj]
      · have : ¬ ((u : Int) + v) = tot := by omega
        simp -dsimp [pairD, natD, i0, i1, this, hj])]
    simp -dsimp
    refine for_ok (fun k env h' => ∃ (S' : List (Nat × Nat)) (b c : Option D), Inv t (s1, s2) S' ∧ SubP S S' ∧ NewP tot S S' ∧ DoneP sh t ((S.filter fun p => decide (p.1 + p.2 = tot)).take k) S' ∧ h' = h ++ [.d .t (kvsOf S')] ∧
      env = [some (tabD t), some (.int (s1 : Int)), some (.int (s2 : Int)), some (.bl sh), some (.ref h.length), some (natD tot), b, c, none, none, none])
      ⟨S, b, c, I, fun p hp => hp, fun p hp => .inl hp, fun p hp => by simp at hp, rfl, rfl⟩ ?_ ?_
    · -- a pair
      rintro k x env h' hx ⟨S', b, c, I', sub, new, done, rfl, rfl⟩
      rw [List.getElem?_map] at hx
      obtain ⟨p, hp, rfl⟩ := Option.map_eq_some_iff.mp hx
      have hpm := List.mem_filter.mp (List.mem_of_getElem? hp)
      have hpt : p.1 + p.2 = tot := by simpa using hpm.2
      obtain ⟨p1, p2, p3⟩ := I.mem p hpm.1
      simp -dsimp [turn, run__law_joint_steps m (by omega) _ t hs p p1 p2 sh]
      refine for_ok (fun j env h' => ∃ (S2 : List (Nat × Nat)) (c : Option D), Inv t (s1, s2) S2 ∧ SubP S' S2 ∧ NewP tot S' S2 ∧ SubP ((steps sh t p).take j) S2 ∧ h' = h ++ [.d .t (kvsOf S2)] ∧
        env = [some (tabD t), some (.int (s1 : Int)), some (.int (s2 : Int)), some (.bl sh), some (.ref h.length), some (natD tot), some (pairD p), c, none, none, none])
        ⟨S', c, I', fun p hp => hp, fun p hp => .inl hp, fun p hp => by simp at hp, rfl, rfl⟩ ?_ ?_
      · rintro j x env h' hx ⟨S2, c, I2, sub2, new2, done2, rfl, rfl⟩
        rw [List.getElem?_map] at hx
        obtain ⟨q, hq, rfl⟩ := Option.map_eq_some_iff.mp hx
        obtain ⟨q1, q2, q3⟩ := steps_lt wf p1 p2 (List.mem_of_getElem? hq)
        have hlt : q.1 + q.2 < s1 + s2 := by
          rcases p3 with rfl | p3
          · exact q3
          · exact Nat.lt_trans q3 p3
        have l64 := I2.len h8
        have hb : (kvsOf S2).length < big := by
          show (kvsOf S2).length < 16777216
          simp [kvsOf]
          omega
        simp -dsimp [turn, setop, cellAt_end' _ rfl, keyOk_pair, storable, hb, setCell_end' _ _ rfl, kput_pair]
        refine ⟨insP q S2, I2.ins q1 q2 hlt, fun x hx => mem_insP.mpr (.inl (sub2 x hx)), fun x hx => ?_, fun x hx => ?_, rfl⟩
        · rcases mem_insP.mp hx with hx | rfl
          · exact new2 x hx
          · exact .inr (by omega)
        · rw [List.take_succ, hq] at hx
          rcases List.mem_append.mp hx with hx | hx
          · exact mem_insP.mpr (.inl (done2 x hx))
          · exact mem_insP.mpr (.inr (by simpa using hx))
      · rintro env h' ⟨S2, c, I2, sub2, new2, done2, rfl, rfl⟩
        rw [List.length_map, List.take_length] at done2
        simp -dsimp
        refine ⟨S2, I2, fun x hx => sub2 x (sub x hx), fun x hx => ?_, fun x hx q hq => ?_, rfl⟩
        · rcases new2 x hx with hx | hx
          · exact new x hx
          · exact .inr hx
        · rw [List.take_succ, hp] at hx
          rcases List.mem_append.mp hx with hx | hx
          · exact sub2 q (done x hx q hq)
          · have : x = p := by simpa using hx
            subst this
            exact done2 q hq
    · rintro env h' ⟨S', b, c, I', sub, new, done, rfl, rfl⟩
      rw [List.length_map, List.take_length] at done
      simp -dsimp
      refine ⟨S', I', fun p hp hlt q hq => ?_, rfl⟩
      by_cases hpt : p.1 + p.2 = tot
      · have hpS : p ∈ S := by
          rcases new p hp with h | h
          · exact h
          · omega
        exact done p (List.mem_filter.mpr ⟨hpS, by simpa using hpt⟩) q hq
      · have hpS : p ∈ S := by
          rcases new p hp with h | h
          · exact h
          · omega
        exact sub q (cl p hpS (by omega) q hq)
  · -- the end
    rintro env h' ⟨S, a, b, c, I, cl, rfl, rfl⟩
    rw [List.length_map, List.length_range] at cl
    have cl : ∀ p ∈ S, ∀ q ∈ steps sh t p, q ∈ S := fun p hp => cl p hp (by omega)
    have l64 := I.len h8
    have ck := fun f hf => collect_keys (f := f) (h := h) rfl S (fun _ => true) trD hf
    simp -dsimp [walk_keys rfl S]
    simp -dsimp [keysOf]
    rw [ck _ (fun q hq => by
      obtain ⟨u, v⟩ := q
      apply nox_eq
      apply Ok.eq
      simp -dsimp [pairD, natD, i0, i1, short, two, trD])]
    have e0 : intsOf (S.map trD) = none := by
      cases S with
      | nil => exact absurd I.has (by simp)
      | cons p S => rfl
    have hf : S.filter (fun _ => true) = S := by simp
    rw [hf]
    simp -dsimp [e0, sortable_tr, sortD_tr]
    have hp := sortP_perm S
    have hsr := sortP_srt S
    have J : Joint sh t (s1, s2) (sortP S) := ⟨⟨hp.nodup_iff.mpr I.nd, hp.mem_iff.mpr I.has, fun p q => I.mem p (hp.mem_iff.mp q)⟩, hsr, fun p hp2 q hq => hp.mem_iff.mpr (cl p (hp.mem_iff.mp hp2) q hq)⟩
    have l64 : (sortP S).length ≤ 64 := by rw [hp.length_eq]; exact l64
    generalize sortP S = PS at J l64
    have hb : PS.length ≤ big := by show PS.length ≤ 16777216; omega
    simp -dsimp [rangeN _ hb]
    rw [collectI_map natD (fun k => D.tup [pairD (vl PS k), natD k]) (List.range PS.length)]
    · have e1 : pairsOf ((List.range PS.length).map fun k => D.tup [pairD (vl PS k), natD k]) = some (atL PS) := pairsOf_map (fun k => pairD (vl PS k)) natD _
      have e2 : ((atL PS).all fun p => keyOk .t p.1) = true := by
        rw [List.all_eq_true]
        intro x hx
        obtain ⟨k, _, rfl⟩ := List.mem_map.mp hx
        exact keyOk_pair _
      simp -dsimp [e1, e2, putAll_at J.inv.nd]
      -- the rows
      have rowOf : ∀ p ∈ PS, ∃ r : List Nat, isort ((steps sh t p).map fun q => ((PS.idxOf q : Nat) : Int)) = r.map (fun k : Nat => (k : Int)) ∧ r.length = (steps sh t p).length ∧ ∀ x, x ∈ r ↔ ∃ q ∈ steps sh t p, PS[x]? = some q := by
        intro p hpm
        obtain ⟨r, r1, r2, r3⟩ := sort_nat ((steps sh t p).map fun q => PS.idxOf q)
        rw [List.map_map] at r1
        refine ⟨r, r1, by simpa using r3, fun x => ?_⟩
        rw [r2, List.mem_map]
        constructor
        · rintro ⟨q, hq, rfl⟩
          have hm := J.closed p hpm q hq
          have hlt := List.idxOf_lt_length_of_mem hm
          exact ⟨q, hq, by rw [List.getElem?_eq_getElem hlt, List.getElem_idxOf]⟩
        · rintro ⟨q, hq, e⟩
          refine ⟨q, hq, ?_⟩
          have hm := List.mem_of_getElem? e
          have hlt := List.idxOf_lt_length_of_mem hm
          have e2 : PS[PS.idxOf q]? = some q := by rw [List.getElem?_eq_getElem hlt, List.getElem_idxOf]
          exact (List.getElem?_inj hlt J.inv.nd).mp (e2.trans e.symm)
      have rowE : ∃ rf : Nat × Nat → List Nat, ∀ p ∈ PS, isort ((steps sh t p).map fun q => ((PS.idxOf q : Nat) : Int)) = (rf p).map (fun k : Nat => (k : Int)) ∧ (rf p).length = (steps sh t p).length ∧ ∀ x, x ∈ rf p ↔ ∃ q ∈ steps sh t p, PS[x]? = some q := by
        refine ⟨fun p => if hpm : p ∈ PS then Classical.choose (rowOf p hpm) else [], fun p hpm => ?_⟩
        simp only [hpm, dif_pos]
        exact Classical.choose_spec (rowOf p hpm)
      obtain ⟨rf, hrf⟩ := rowE
      rw [collectI_map trD (fun p => rowD (rf p)) PS]
      · simp -dsimp
        refine .cells rfl ?_ rfl ⟨rfl, PS, PS.map rf, J, by simp, ?_, by simp⟩
        · simp only [D.pure]
          exact pureL_map (fun p => rowD_pure _) PS
        · intro k r p e1 e2
          rw [List.getElem?_map, e2] at e1
          cases e1
          exact (hrf p (List.mem_of_getElem? e2)).2
      · intro p hpm
        obtain ⟨p1, p2, p3⟩ := J.inv.mem p hpm
        obtain ⟨q1, q2, q3⟩ := hrf p hpm
        apply nox_eq
        apply Ok.eq
        simp -dsimp [trD, run__law_joint_steps m (by omega) _ t hs p p1 p2 sh]
        rw [collectI_map pairD (fun q => D.int ((PS.idxOf q : Nat) : Int)) (steps sh t p)]
        · simp -dsimp [q1]
          simp [rowD, natD, Function.comp_def]
        · intro q hq
          have hm := J.closed p hpm q hq
          have hlt := List.idxOf_lt_length_of_mem hm
          have e3 := kget_at J.inv.nd hlt
          have e4 : vl PS (PS.idxOf q) = q := vl_eq (by rw [List.getElem?_eq_getElem hlt, List.getElem_idxOf])
          rw [e4] at e3
          apply nox_eq
          apply Ok.eq
          simp -dsimp [keyOk_pair, e3, natD]
    · intro k hk
      have hk : k < PS.length := by simpa using hk
      apply nox_eq
      apply Ok.eq
      simp -dsimp [natD, atD_nat, vl_of hk, trD, i1, short, two]
end K84

set_option autoImplicit false
set_option linter.all false
set_option maxRecDepth 100000
/-! k84: marks of two places, both moved in. -/
namespace K84
open PySem Px
/-- what gAll says, by its defining facts -/
theorem gAll_win {b : Bool} {w : Int} {ns : List Int} (h : ∃ z ∈ ns, z % 2 = w) : ∃ z ∈ ns, z % 2 = w ∧ gAll b w ns = 1 + z ∧ ∀ y ∈ ns, y % 2 = w → (if b then z ≤ y else y ≤ z) := by
  have hne : fitI w ns ≠ [] := by
    obtain ⟨z, hz, e⟩ := h
    intro q
    have := List.filter_eq_nil_iff.mp q z hz
    simp [e] at this
  have hn0 : ns ≠ [] := by
    rintro rfl
    exact hne rfl
  have mem : ∀ y, y ∈ fitI w ns ↔ y ∈ ns ∧ y % 2 = w := fun y => by simp [fitI, List.mem_filter]
  cases b with
  | true =>
    obtain ⟨h1, h2⟩ := minL_spec hne
    obtain ⟨k1, k2⟩ := (mem _).mp h1
    exact ⟨_, k1, k2, by simp [gAll, hn0, hne], fun y hy hw => by simpa using h2 y ((mem y).mpr ⟨hy, hw⟩)⟩
  | false =>
    obtain ⟨h1, h2⟩ := maxL_spec hne
    obtain ⟨k1, k2⟩ := (mem _).mp h1
    exact ⟨_, k1, k2, by simp [gAll, hn0, hne], fun y hy hw => by simpa using h2 y ((mem y).mpr ⟨hy, hw⟩)⟩
theorem gAll_lose {b : Bool} {w : Int} {ns : List Int} (hn0 : ns ≠ []) (h : ∀ z ∈ ns, z % 2 ≠ w) : ∃ z ∈ ns, gAll b w ns = 1 + z ∧ ∀ y ∈ ns, (if b then y ≤ z else z ≤ y) := by
  have hne : fitI w ns = [] := List.filter_eq_nil_iff.mpr fun z hz q => h z hz (by simpa using q)
  cases b with
  | true =>
    obtain ⟨h1, h2⟩ := maxL_spec hn0
    exact ⟨_, h1, by simp [gAll, hn0, hne], fun y hy => by simpa using h2 y hy⟩
  | false =>
    obtain ⟨h1, h2⟩ := minL_spec hn0
    exact ⟨_, h1, by simp [gAll, hn0, hne], fun y hy => by simpa using h2 y hy⟩
theorem gAll_nil (b : Bool) (w : Int) : gAll b w [] = 0 := rfl
theorem gAll_nonneg {b : Bool} {w : Int} {ns : List Int} (h : ∀ z ∈ ns, 0 ≤ z) : 0 ≤ gAll b w ns := by
  by_cases h0 : ns = []
  · rw [h0]; exact Int.le_refl _
  · by_cases h1 : ∃ z ∈ ns, z % 2 = w
    · obtain ⟨z, hz, _, e, _⟩ := gAll_win (b := b) h1
      have := h z hz
      omega
    · obtain ⟨z, hz, e, _⟩ := gAll_lose (b := b) h0 (fun z hz q => h1 ⟨z, hz, q⟩)
      have := h z hz
      omega
/-- two lists of the same numbers -/
theorem gAll_congr {b : Bool} {w : Int} {ns ms : List Int} (h : ∀ x, x ∈ ns ↔ x ∈ ms) : gAll b w ns = gAll b w ms := by
  by_cases h0 : ns = []
  · have : ms = [] := by
      rw [h0] at h
      exact List.eq_nil_iff_forall_not_mem.mpr fun x hx => by simpa using (h x).mpr hx
    rw [h0, this]
  · have h0' : ms ≠ [] := by
      rintro rfl
      exact h0 (List.eq_nil_iff_forall_not_mem.mpr fun x hx => by simpa using (h x).mp hx)
    by_cases h1 : ∃ z ∈ ns, z % 2 = w
    · have h1' : ∃ z ∈ ms, z % 2 = w := by
        obtain ⟨z, hz, e⟩ := h1
        exact ⟨z, (h z).mp hz, e⟩
      obtain ⟨z, hz, e1, e2, e3⟩ := gAll_win (b := b) h1
      obtain ⟨y, hy, f1, f2, f3⟩ := gAll_win (b := b) h1'
      have a1 := e3 y ((h y).mpr hy) f1
      have a2 := f3 z ((h z).mp hz) e1
      cases b <;> simp at a1 a2 <;> omega
    · have h1' : ∀ z ∈ ms, z % 2 ≠ w := fun z hz q => h1 ⟨z, (h z).mpr hz, q⟩
      have h1 : ∀ z ∈ ns, z % 2 ≠ w := fun z hz q => h1 ⟨z, hz, q⟩
      obtain ⟨z, hz, e2, e3⟩ := gAll_lose (b := b) h0 h1
      obtain ⟨y, hy, f2, f3⟩ := gAll_lose (b := b) h0' h1'
      have a1 := e3 y ((h y).mpr hy)
      have a2 := f3 z ((h z).mp hz)
      cases b <;> simp at a1 a2 <;> omega
/-- what is known of a mark: its value less one is there, and it is the wished one that is best, or the best of all -/
def Mk (b : Bool) (w : Int) (ns : List Int) (z : Int) : Prop := z ∈ ns ∧ ((z % 2 = w ∧ ∀ y ∈ ns, y % 2 = w → (if b then z ≤ y else y ≤ z)) ∨ ((∀ y ∈ ns, y % 2 ≠ w) ∧ ∀ y ∈ ns, (if b then y ≤ z else z ≤ y)))
theorem mk_of {b : Bool} {w : Int} {ns : List Int} (h0 : ns ≠ []) : ∃ z, gAll b w ns = 1 + z ∧ Mk b w ns z := by
  by_cases h1 : ∃ z ∈ ns, z % 2 = w
  · obtain ⟨z, hz, e1, e2, e3⟩ := gAll_win (b := b) h1
    exact ⟨z, e2, hz, .inl ⟨e1, e3⟩⟩
  · have h2 : ∀ z ∈ ns, z % 2 ≠ w := fun z hz q => h1 ⟨z, hz, q⟩
    obtain ⟨z, hz, e2, e3⟩ := gAll_lose (b := b) h0 h2
    exact ⟨z, e2, hz, .inr ⟨h2, e3⟩⟩
theorem mk_eq {b : Bool} {w : Int} {ns : List Int} {z : Int} (m : Mk b w ns z) : gAll b w ns = 1 + z := by
  have h0 : ns ≠ [] := by
    rintro rfl
    exact absurd m.1 (by simp)
  obtain ⟨y, e, hy, k⟩ := mk_of (b := b) (w := w) h0
  rw [e]
  congr 1
  obtain ⟨hz, k'⟩ := m
  rcases k with ⟨k1, k2⟩ | ⟨k1, k2⟩
  · rcases k' with ⟨j1, j2⟩ | ⟨j1, j2⟩
    · have a1 := k2 z hz j1
      have a2 := j2 y hy k1
      cases b <;> simp at a1 a2 <;> omega
    · exact absurd k1 (j1 y hy)
  · rcases k' with ⟨j1, j2⟩ | ⟨j1, j2⟩
    · exact absurd j1 (k1 z hz)
    · have a1 := k2 z hz
      have a2 := j2 y hy
      cases b <;> simp at a1 a2 <;> omega
/-- the lesser one (the game ends with the first), or the greater one (with the last) -/
def both (b : Bool) (x y : Int) : Int := if b then min x y else max x y
theorem both_mk {b : Bool} {w : Int} {As Bs Cs : List Int} {x y : Int} (hc : ∀ z, z ∈ Cs ↔ ∃ p ∈ As, ∃ q ∈ Bs, z = both b p q) (mx : Mk b w As x) (my : Mk b w Bs y) (hle : if b then x ≤ y else y ≤ x) : Mk b w Cs x := by
  obtain ⟨hx, kx⟩ := mx
  obtain ⟨hy, ky⟩ := my
  have hxc : x ∈ Cs := (hc x).mpr ⟨x, hx, y, hy, by cases b <;> simp [both] at hle ⊢ <;> omega⟩
  refine ⟨hxc, ?_⟩
  rcases kx with ⟨k1, k2⟩ | ⟨k1, k2⟩
  · refine .inl ⟨k1, fun z hz hw => ?_⟩
    obtain ⟨p, hp, q, hq, rfl⟩ := (hc z).mp hz
    have c1 : both b p q = p ∨ both b p q = q := by cases b <;> simp [both] <;> omega
    rcases c1 with c1 | c1
    · rw [c1] at hw ⊢
      exact k2 p hp hw
    · rw [c1] at hw ⊢
      rcases ky with ⟨j1, j2⟩ | ⟨j1, j2⟩
      · have := j2 q hq hw
        cases b <;> simp at this hle ⊢ <;> omega
      · exact absurd hw (j1 q hq)
  · refine .inr ⟨fun z hz hw => ?_, fun z hz => ?_⟩
    · obtain ⟨p, hp, q, hq, rfl⟩ := (hc z).mp hz
      have c1 : both b p q = p ∨ (both b p q = q ∧ (if b then q ≤ p else p ≤ q)) := by cases b <;> simp [both] <;> omega
      rcases c1 with c1 | ⟨c1, c2⟩
      · rw [c1] at hw
        exact k1 p hp hw
      · rw [c1] at hw
        have a1 := k2 p hp
        rcases ky with ⟨j1, j2⟩ | ⟨j1, j2⟩
        · have a2 := j2 q hq hw
          have a3 := k1 p hp
          cases b with
          | true =>
            simp at a1 a2 hle c2
            have : p = q := by omega
            exact a3 (by rw [this]; exact hw)
          | false =>
            simp at a1 a2 hle c2
            have : p = q := by omega
            exact a3 (by rw [this]; exact hw)
        · exact j1 q hq hw
    · obtain ⟨p, hp, q, hq, rfl⟩ := (hc z).mp hz
      have a1 := k2 p hp
      cases b <;> simp [both] at a1 ⊢ <;> omega
theorem both_comm (b : Bool) (x y : Int) : both b x y = both b y x := by cases b <;> simp [both] <;> omega
/-- both can be moved in -/
theorem both_step {b : Bool} {w : Int} {As Bs Cs : List Int} (ha : As ≠ []) (hb : Bs ≠ []) (hc : ∀ z, z ∈ Cs ↔ ∃ p ∈ As, ∃ q ∈ Bs, z = both b p q) : gAll b w Cs = both b (gAll b w As) (gAll b w Bs) := by
  obtain ⟨x, ex, mx⟩ := mk_of (b := b) (w := w) ha
  obtain ⟨y, ey, my⟩ := mk_of (b := b) (w := w) hb
  rw [ex, ey]
  by_cases hle : if b then x ≤ y else y ≤ x
  · rw [mk_eq (both_mk hc mx my hle)]
    cases b <;> simp [both] at hle ⊢ <;> omega
  · have hle2 : if b then y ≤ x else x ≤ y := by cases b <;> simp at hle ⊢ <;> omega
    have hc' : ∀ z, z ∈ Cs ↔ ∃ p ∈ Bs, ∃ q ∈ As, z = both b p q := fun z => by
      rw [hc]
      constructor
      · rintro ⟨p, hp, q, hq, rfl⟩
        exact ⟨q, hq, p, hp, both_comm _ _ _⟩
      · rintro ⟨p, hp, q, hq, rfl⟩
        exact ⟨q, hq, p, hp, both_comm _ _ _⟩
    rw [mk_eq (both_mk hc' my mx hle2)]
    cases b <;> simp [both] at hle ⊢ <;> omega
/-- the marks of the table of both -/
theorem joint_marks {b : Bool} {w : Int} {t : List (List Nat)} (wf : WF t) {T : List Int} (hT : Told (fun _ => gAll b w) t T) {st : Nat × Nat} {PS : List (Nat × Nat)} (J : Joint b t st PS) {ss : List (List Nat)} (hl : ss.length = PS.length)
    (hss : ∀ (k : Nat) (s : List Nat) (p : Nat × Nat), ss[k]? = some s → PS[k]? = some p → ∀ x, x ∈ s ↔ ∃ q ∈ steps b t p, PS[x]? = some q) (wfs : WF ss) {TJ : List Int} (hJ : Told (fun _ => gAll b w) ss TJ) :
    ∀ (k : Nat) (p : Nat × Nat), PS[k]? = some p → vl TJ k = both b (vl T p.1) (vl T p.2) := by
  have nn : ∀ n k : Nat, k < n → k < t.length → 0 ≤ vl T k := by
    intro n
    induction n with
    | zero => exact fun k h => absurd h (Nat.not_lt_zero _)
    | succ n ih =>
      intro k hk hkt
      have e : t[k]? = some t[k] := by simp [hkt]
      rw [hT.vl e]
      refine gAll_nonneg fun z hz => ?_
      obtain ⟨j, hj, rfl⟩ := List.mem_map.mp hz
      have := wf k _ e j hj
      exact ih j (by omega) (by omega)
  have nn : ∀ k, k < t.length → 0 ≤ vl T k := fun k hk => nn (k + 1) k (by omega) hk
  intro k
  induction k using Nat.strongRecOn with
  | _ k ih =>
    intro p hp
    have hk : k < ss.length := by rw [hl]; exact (List.getElem?_eq_some_iff.mp hp).1
    have es : ss[k]? = some ss[k] := by simp [hk]
    have hm := hss k _ p es hp
    have hw := wfs k _ es
    rw [hJ.vl es]
    generalize ss[k] = s at hm hw
    obtain ⟨p1, p2, _⟩ := J.inv.mem p (List.mem_of_getElem? hp)
    have e1 := vl_of p1
    have e2 := vl_of p2
    rw [hT.vl e1, hT.vl e2]
    -- the values of the options
    have hv : ∀ z, z ∈ (s.map fun j => vl TJ j) ↔ ∃ q ∈ steps b t p, z = both b (vl T q.1) (vl T q.2) := by
      intro z
      rw [List.mem_map]
      constructor
      · rintro ⟨x, hx, rfl⟩
        obtain ⟨q, hq, eq⟩ := (hm x).mp hx
        exact ⟨q, hq, ih x (hw x hx) q eq⟩
      · rintro ⟨q, hq, rfl⟩
        have hqm := J.closed p (List.mem_of_getElem? hp) q hq
        obtain ⟨x, hx, e⟩ := List.getElem_of_mem hqm
        have e : PS[x]? = some q := by rw [← e]; simp [hx]
        have hxs := (hm x).mpr ⟨q, hq, e⟩
        exact ⟨x, hxs, ih x (hw x hxs) q e⟩
    by_cases ha : vl t p.1 = []
    · by_cases hb : vl t p.2 = []
      · -- both are over
        have hnil : (s.map fun j => vl TJ j) = [] := List.eq_nil_iff_forall_not_mem.mpr fun z hz => by
          obtain ⟨q, hq, _⟩ := (hv z).mp hz
          have := (mem_prod.mp hq).1
          cases b <;> simp [optA, ha, hb] at this
        rw [hnil, ha, hb, List.map_nil, gAll_nil]
        cases b <;> simp [both]
      · cases b with
        | true =>
          have hnil : (s.map fun j => vl TJ j) = [] := List.eq_nil_iff_forall_not_mem.mpr fun z hz => by
            obtain ⟨q, hq, _⟩ := (hv z).mp hz
            have := (mem_prod.mp hq).1
            simp [optA, ha] at this
          have h2 : 0 ≤ gAll true w ((vl t p.2).map fun j => vl T j) := by rw [← hT.vl e2]; exact nn _ p2
          rw [hnil, ha, List.map_nil, gAll_nil]
          simp [both]
          omega
        | false =>
          have h2 : 0 ≤ gAll false w ((vl t p.2).map fun j => vl T j) := by rw [← hT.vl e2]; exact nn _ p2
          have h0 : vl T p.1 = 0 := by rw [hT.vl e1, ha]; rfl
          have : gAll false w (s.map fun j => vl TJ j) = gAll false w ((vl t p.2).map fun j => vl T j) := by
            refine gAll_congr fun z => ?_
            rw [hv, List.mem_map]
            constructor
            · rintro ⟨q, hq, rfl⟩
              obtain ⟨m1, m2⟩ := mem_prod.mp hq
              simp [optA, ha, hb] at m1 m2
              refine ⟨q.2, m2, ?_⟩
              have := wf _ _ e2 _ m2
              have := nn q.2 (by omega)
              rw [m1, h0]
              simp [both]
              omega
            · rintro ⟨j, hj, rfl⟩
              refine ⟨(p.1, j), mem_prod.mpr ⟨by simp [optA, ha, hb], by simpa [optA, ha, hb] using hj⟩, ?_⟩
              have := wf _ _ e2 _ hj
              have := nn j (by omega)
              simp only [h0]
              simp [both]
              omega
          rw [this, ha, List.map_nil, gAll_nil]
          simp [both]
          omega
    · by_cases hb : vl t p.2 = []
      · cases b with
        | true =>
          have hnil : (s.map fun j => vl TJ j) = [] := List.eq_nil_iff_forall_not_mem.mpr fun z hz => by
            obtain ⟨q, hq, _⟩ := (hv z).mp hz
            have := (mem_prod.mp hq).2
            simp [optA, hb] at this
          have h2 : 0 ≤ gAll true w ((vl t p.1).map fun j => vl T j) := by rw [← hT.vl e1]; exact nn _ p1
          rw [hnil, hb, List.map_nil, gAll_nil]
          simp [both]
          omega
        | false =>
          have h2 : 0 ≤ gAll false w ((vl t p.1).map fun j => vl T j) := by rw [← hT.vl e1]; exact nn _ p1
          have h0 : vl T p.2 = 0 := by rw [hT.vl e2, hb]; rfl
          have : gAll false w (s.map fun j => vl TJ j) = gAll false w ((vl t p.1).map fun j => vl T j) := by
            refine gAll_congr fun z => ?_
            rw [hv, List.mem_map]
            constructor
            · rintro ⟨q, hq, rfl⟩
              obtain ⟨m1, m2⟩ := mem_prod.mp hq
              simp [optA, ha, hb] at m1 m2
              refine ⟨q.1, m1, ?_⟩
              have := wf _ _ e1 _ m1
              have := nn q.1 (by omega)
              rw [m2, h0]
              simp [both]
              omega
            · rintro ⟨j, hj, rfl⟩
              refine ⟨(j, p.2), mem_prod.mpr ⟨by simpa [optA, ha, hb] using hj, by simp [optA, ha, hb]⟩, ?_⟩
              have := wf _ _ e1 _ hj
              have := nn j (by omega)
              simp only [h0]
              simp [both]
              omega
          rw [this, hb, List.map_nil, gAll_nil]
          simp [both]
          omega
      · refine both_step (by simpa using ha) (by simpa using hb) fun z => ?_
        rw [hv]
        constructor
        · rintro ⟨q, hq, rfl⟩
          obtain ⟨m1, m2⟩ := mem_prod.mp hq
          refine ⟨_, List.mem_map.mpr ⟨q.1, ?_, rfl⟩, _, List.mem_map.mpr ⟨q.2, ?_, rfl⟩, rfl⟩
          · cases b <;> simpa [optA, ha, hb] using m1
          · cases b <;> simpa [optA, ha, hb] using m2
        · rintro ⟨x, hx, y, hy, rfl⟩
          obtain ⟨i, hi, rfl⟩ := List.mem_map.mp hx
          obtain ⟨j, hj, rfl⟩ := List.mem_map.mp hy
          refine ⟨(i, j), mem_prod.mpr ⟨?_, ?_⟩, rfl⟩
          · cases b <;> simpa [optA, ha, hb] using hi
          · cases b <;> simpa [optA, ha, hb] using hj
end K84

set_option autoImplicit false
set_option linter.all false
set_option maxRecDepth 100000
/-! k84: the parts of the law. -/
namespace K84
open PySem Px
/-! ### what does not draw -/
theorem run_always (c : Cell) : run P 39 (("_law_always" : Str), none) 0 [] [c] = .ok (.bl true) [c] := by kernel_rfl
theorem run_ways (c : Cell) : run P 39 (("_law_ways" : Str), none) 0 [] [c] = .ok (.lst (ways.map .tup)) [c] := by kernel_rfl
/-! ### the pool alone -/
theorem one_pool {c : Cell} (h : PoolC c) : IsPool 0 [c] := ⟨c, rfl, h⟩
theorem _root_.Px.Drew.one {c : Cell} {h' : Hh} (d : Drew 0 [c] h') : ∃ c', PoolC c' ∧ h' = [c'] := by
  obtain ⟨c', h1, rfl⟩ := d
  exact ⟨c', h1, rfl⟩
theorem _root_.Px.Drew.two {c x : Cell} {h' : Hh} (d : Drew 0 [c, x] h') : ∃ c', PoolC c' ∧ h' = [c', x] := by
  obtain ⟨c', h1, rfl⟩ := d
  exact ⟨c', h1, rfl⟩
/-! ### slices -/
theorem cut_to (xs : List D) (k : Nat) : cut xs none (some (k : Int)) = xs.take k := by
  unfold cut six
  simp only [show ¬ ((k : Int) < 0) by omega, if_false, List.drop_zero, Nat.sub_zero]
  rw [show min (k : Int).toNat xs.length = min k xs.length by simp, ← List.take_eq_take_min]
theorem cut_from (xs : List D) (k : Nat) : cut xs (some (k : Int)) none = xs.drop k := by
  unfold cut six
  simp only [show ¬ ((k : Int) < 0) by omega, if_false]
  rw [show min (k : Int).toNat xs.length = min k xs.length by simp]
  by_cases h : k ≤ xs.length
  · rw [Nat.min_eq_left h]
    exact List.take_of_length_le (by simp)
  · rw [Nat.min_eq_right (by omega), List.drop_eq_nil_of_le (Nat.le_refl _), List.drop_eq_nil_of_le (by omega)]
    simp
/-! ### tables as they stand -/
theorem Fine.small {t : List (List Nat)} (F : Fine t) : ∀ r ∈ t, r.length < 1000000 := fun r h => by have := F.row r h; omega
theorem Fine.big {t : List (List Nat)} (F : Fine t) : t.length < big := by have := F.most; show _ < 16777216; omega
theorem asc_len {r : List Nat} {k : Nat} (h : r.Pairwise (· < ·)) (hk : ∀ x ∈ r, x < k) : r.length ≤ k := by
  have := nodup_sub (xs := r) (ys := List.range k) (List.nodup_iff_pairwise_ne.mpr (h.imp fun h => by omega)) fun x hx => List.mem_range.mpr (hk x hx)
  simpa using this
theorem Fine.take {t : List (List Nat)} (F : Fine t) (n : Nat) (hn : 1 ≤ n) : Fine (t.take n) := by
  have sub : ∀ r ∈ t.take n, r ∈ t := fun r h => List.mem_of_mem_take h
  refine ⟨fun k r e => ?_, fun r h => F.asc r (sub r h), fun r h => F.row r (sub r h), ?_, ?_, ?_⟩
  · by_cases hk : k < n
    · rw [List.getElem?_take_of_lt hk] at e
      exact F.wf k r e
    · rw [List.getElem?_eq_none (by rw [List.length_take]; omega)] at e
      cases e
  · rw [List.length_take]
    have := F.one
    omega
  · rw [List.length_take]
    have := F.most
    omega
  · have h1 := F.sum
    have : ∀ (t : List (List Nat)) (n : Nat), ((t.take n).map fun r => (r.length : Int)).sum ≤ (t.map fun r => (r.length : Int)).sum := by
      intro t
      induction t with
      | nil => intro n; simp
      | cons r t ih =>
        intro n
        cases n with
        | zero =>
          rw [List.take_zero, List.map_nil, List.sum_nil, List.map_cons, List.sum_cons]
          have := ih 0
          rw [List.take_zero, List.map_nil, List.sum_nil] at this
          omega
        | succ n =>
          rw [List.take_succ_cons, List.map_cons, List.map_cons, List.sum_cons, List.sum_cons]
          have := ih n
          omega
    have := this t n
    omega
theorem Fine.good {t : List (List Nat)} (F : Fine t) {k : Nat} {r : List Nat} (e : t[k]? = some r) : Good k (rowD r) r :=
  ⟨⟨r, .inl rfl, F.wf k r e, fun x => Iff.rfl, by have := F.row r (List.mem_of_getElem? e); omega⟩, F.asc r (List.mem_of_getElem? e), by have := F.row r (List.mem_of_getElem? e); omega⟩
/-- a table, by itself -/
def selfZ (t : List (List Nat)) : List (D × List Nat) := t.map fun r => (rowD r, r)
theorem selfZ1 (t : List (List Nat)) : (selfZ t).map (·.1) = t.map rowD := by simp [selfZ, Function.comp_def]
theorem selfZ2 (t : List (List Nat)) : (selfZ t).map (·.2) = t := by simp [selfZ, Function.comp_def]
theorem zip_fst {α β : Type} : ∀ {xs : List α} {ys : List β}, xs.length = ys.length → (xs.zip ys).map (·.1) = xs
  | [], [], _ => rfl
  | x :: xs, y :: ys, h => by simp [zip_fst (xs := xs) (ys := ys) (by simpa using h)]
  | [], _ :: _, h => by simp at h
  | _ :: _, [], h => by simp at h
theorem zip_snd {α β : Type} : ∀ {xs : List α} {ys : List β}, xs.length = ys.length → (xs.zip ys).map (·.2) = ys
  | [], [], _ => rfl
  | x :: xs, y :: ys, h => by simp [zip_snd (xs := xs) (ys := ys) (by simpa using h)]
  | [], _ :: _, h => by simp at h
  | _ :: _, [], h => by simp at h
/-- one way: both marks are the same -/
theorem way_same {t : List (List Nat)} (F : Fine t) {ds : List D} (H : Handed t ds) {w : List D} (hw : w ∈ ways) (d wd : D) (hd : d = .tup ds ∨ d = .lst ds) (hwd : wd = .tup w ∨ wd = .lst w) : ∃ X : D, (∀ (n base : Nat) (h : Hh), 5 ≤ n → run P n (("way_marks" : Str), none) base [d, wd] h = .ok X h) ∧
    (∀ (n base : Nat) (h : Hh), 4 ≤ n → run P n (("_law_marks" : Str), none) base [tabD t, .tup w] h = .ok X h) ∧ Nice 2 X := by
  obtain ⟨X, A⟩ := agree t F.wf F.small F.big w hw
  have e1 := zip_fst (xs := ds) (ys := t) H.1
  have e2 := zip_snd (xs := ds) (ys := t) H.1
  have hl : (ds.zip t).length = t.length := by rw [List.length_zip, H.1]; omega
  have hsum : ((ds.zip t).map fun p => (p.2.length : Int)).sum ≤ 2000 := by
    have : ((ds.zip t).map fun p => (p.2.length : Int)) = ((ds.zip t).map (·.2)).map fun r => (r.length : Int) := by rw [List.map_map]; rfl
    rw [this, e2]
    exact F.sum
  refine ⟨.tup X, fun n base h hn => ?_, fun n base h hn => A.law_ n base h hn, .tup _ _ (by rw [A.len]; exact Nat.le_of_lt F.big) A.nice⟩
  refine run_way_marks n hn base d wd (ds.zip t) w X (by rw [e1]; exact hd) (fun k p e => ?_) (by rw [hl]; exact F.one) (by rw [hl]; exact F.most) hsum hw hwd (by rw [e2]; exact A) h
  obtain ⟨a, b⟩ := p
  obtain ⟨f1, f2⟩ := List.getElem?_zip_eq_some.mp e
  exact H.2 k a b f1 f2
/-! ### the table of both -/
def norm (rs : List (List Nat)) : List (List Nat) := (List.range rs.length).map fun k => (List.range k).filter fun x => decide (x ∈ vl rs k)
theorem norm_get {rs : List (List Nat)} {k : Nat} (hk : k < rs.length) : (norm rs)[k]? = some ((List.range k).filter fun x => decide (x ∈ vl rs k)) := by
  unfold norm
  rw [List.getElem?_map, List.getElem?_range hk]
  rfl
theorem sum64 : ∀ n < 65, ((List.range n).map fun k => ((min k 49 : Nat) : Int)).sum ≤ 2000 := by decide
theorem joint_same {t : List (List Nat)} (F : Fine t) (h8 : t.length ≤ 8) {st : Nat × Nat} (h1 : st.1 < t.length) (h2 : st.2 < t.length) (sh g : Bool) {PS : List (Nat × Nat)} {rs : List (List Nat)} (J : Joint sh t st PS) (hl : rs.length = PS.length)
    (hr : ∀ (k : Nat) (r : List Nat) (p : Nat × Nat), rs[k]? = some r → PS[k]? = some p → r.length = (steps sh t p).length ∧ ∀ x, x ∈ r ↔ ∃ q ∈ steps sh t p, PS[x]? = some q) :
    ∃ (T : List Int) (X : List D), (∀ (n base : Nat) (h : Hh), 4 ≤ n → run P n (("_law_marks" : Str), none) base [tabD t, .tup (way "all" (endS sh) (goalS g))] h = .ok (.tup (T.map .int)) h) ∧ T.length = t.length ∧
      (∀ (n base : Nat) (h : Hh), 5 ≤ n → run P n (("way_marks" : Str), none) base [.lst (rs.map rowD), .tup (way "all" (endS sh) (goalS g))] h = .ok (.tup X) h) ∧ atD X (-1) = some (.int (both sh (vl T st.1) (vl T st.2))) := by
  obtain ⟨T, hT, A⟩ := agree_all t F.wf F.small F.big sh g
  have I := J.inv
  have l64 := I.len h8
  have lpos : 0 < PS.length := List.length_pos_of_mem I.has
  -- later pairs have no less total
  have mono : ∀ (i j : Nat) (p q : Nat × Nat), i ≤ j → PS[i]? = some p → PS[j]? = some q → p.1 + p.2 ≤ q.1 + q.2 := by
    intro i j p q hij e1 e2
    rcases Nat.lt_or_eq_of_le hij with h | h
    · obtain ⟨a1, a2⟩ := List.getElem?_eq_some_iff.mp e1
      obtain ⟨b1, b2⟩ := List.getElem?_eq_some_iff.mp e2
      have := List.pairwise_iff_getElem.mp J.srt i j a1 b1 h
      rw [a2, b2] at this
      exact this
    · subst h
      rw [e1] at e2
      cases e2
      exact Nat.le_refl _
  have last : PS[PS.length - 1]? = some st := by
    obtain ⟨j, hj, e⟩ := List.getElem_of_mem I.has
    have e : PS[j]? = some st := by rw [← e]; simp [hj]
    have e2 : PS[PS.length - 1]? = some PS[PS.length - 1] := by simp [lpos]
    have hm := mono j (PS.length - 1) _ _ (by omega) e e2
    rcases (I.mem _ (List.mem_of_getElem? e2)).2.2 with q | q
    · rw [e2, q]
    · omega
  have row7 : ∀ a, a < t.length → (vl t a).length ≤ 7 := fun a ha => by
    have e := vl_of ha
    have := asc_len (F.asc _ (List.mem_of_getElem? e)) (F.wf a _ e)
    omega
  have opt7 : ∀ a b, a < t.length → (optA sh (vl t a) (vl t b) a).length ≤ 7 := fun a b ha => by
    have := row7 a ha
    unfold optA
    split
    · exact this
    · split
      · split <;> simp
      · exact this
  have few : ∀ p ∈ PS, (steps sh t p).length ≤ 49 := fun p hp => by
    obtain ⟨p1, p2, _⟩ := I.mem p hp
    unfold steps
    rw [prod_len]
    exact Nat.mul_le_mul (opt7 _ _ p1) (opt7 _ _ p2)
  have below : ∀ (k : Nat) (r : List Nat), rs[k]? = some r → ∀ x ∈ r, x < k := by
    intro k r e x hx
    have hk := (List.getElem?_eq_some_iff.mp e).1
    have ep := vl_of (T := PS) (j := k) (by omega)
    obtain ⟨q, hq, eq⟩ := ((hr k r _ e ep).2 x).mp hx
    obtain ⟨p1, p2, _⟩ := I.mem _ (List.mem_of_getElem? ep)
    have hlt := (steps_lt F.wf p1 p2 hq).2.2
    rcases Nat.lt_or_ge x k with h | h
    · exact h
    · have := mono k x _ _ h ep eq
      omega
  have rlen : ∀ (k : Nat) (r : List Nat), rs[k]? = some r → r.length < 4000 := fun k r e => by
    have hk : k < rs.length := (List.getElem?_eq_some_iff.mp e).1
    have ep := vl_of (T := PS) (j := k) (by omega)
    have b2 := few _ (List.mem_of_getElem? ep)
    have b3 := (hr k _ _ e ep).1
    omega
  have nlen : (norm rs).length = rs.length := by simp [norm]
  have nmem : ∀ (k : Nat) (s : List Nat), (norm rs)[k]? = some s → ∃ r, rs[k]? = some r ∧ s.Pairwise (· < ·) ∧ (∀ x, x ∈ s ↔ x ∈ r) ∧ (∀ x ∈ s, x < k) ∧ s.length ≤ min k 49 := by
    intro k s e
    have hk : k < rs.length := by rw [← nlen]; exact (List.getElem?_eq_some_iff.mp e).1
    rw [norm_get hk] at e
    cases e
    have er := vl_of hk
    have asc : ((List.range k).filter fun x => decide (x ∈ vl rs k)).Pairwise (· < ·) := List.Pairwise.filter _ List.pairwise_lt_range
    have mem : ∀ x, x ∈ ((List.range k).filter fun x => decide (x ∈ vl rs k)) ↔ x ∈ vl rs k := fun x => by
      rw [List.mem_filter, List.mem_range]
      constructor
      · rintro ⟨_, h⟩; simpa using h
      · exact fun h => ⟨below k _ er x h, by simpa using h⟩
    have lt : ∀ x ∈ ((List.range k).filter fun x => decide (x ∈ vl rs k)), x < k := fun x hx => below k _ er x ((mem x).mp hx)
    refine ⟨vl rs k, er, asc, mem, lt, ?_⟩
    have b1 := asc_len asc lt
    have ep := vl_of (T := PS) (j := k) (by omega)
    have b2 := few _ (List.mem_of_getElem? ep)
    have b3 := (hr k _ _ er ep).1
    have b4 := nodup_sub (List.nodup_iff_pairwise_ne.mpr (asc.imp fun h => by omega)) fun x hx => (mem x).mp hx
    omega
  have wfn : WF (norm rs) := fun k s e => by obtain ⟨_, _, _, _, h, _⟩ := nmem k s e; exact h
  have sum : ((norm rs).map fun r => (r.length : Int)).sum ≤ 2000 := by
    have h1 : ((norm rs).map fun r => (r.length : Int)).sum ≤ ((List.range rs.length).map fun k => ((min k 49 : Nat) : Int)).sum := by
      have gen : ∀ (l : List (List Nat)) (n : Nat), (∀ (k : Nat) (s : List Nat), l[k]? = some s → s.length ≤ min (n + k) 49) → (l.map fun r => (r.length : Int)).sum ≤ ((List.range l.length).map fun k => ((min (n + k) 49 : Nat) : Int)).sum := by
        intro l
        induction l with
        | nil => intro n _; simp
        | cons s l ih =>
          intro n h
          have a1 := h 0 s rfl
          have a2 := ih (n + 1) fun k s e => by
            have := h (k + 1) s (by simpa using e)
            rw [show n + 1 + k = n + (k + 1) by omega]
            exact this
          rw [List.map_cons, List.sum_cons, List.length_cons, List.range_succ_eq_map, List.map_cons, List.sum_cons, List.map_map]
          have a3 : ((List.range l.length).map ((fun k => ((min (n + k) 49 : Nat) : Int)) ∘ Nat.succ)) = (List.range l.length).map fun k => ((min (n + 1 + k) 49 : Nat) : Int) := List.map_congr_left fun k _ => by
            simp only [Function.comp_apply, Nat.succ_eq_add_one]
            rw [show n + (k + 1) = n + 1 + k by omega]
          rw [a3]
          omega
      have := gen (norm rs) 0 fun k s e => by obtain ⟨_, _, _, _, _, h⟩ := nmem k s e; rw [Nat.zero_add]; exact h
      rw [nlen] at this
      simpa using this
    have := sum64 rs.length (by omega)
    omega
  have sml : ∀ r ∈ norm rs, r.length < 1000000 := fun r h => by
    obtain ⟨k, hk, e⟩ := List.getElem_of_mem h
    obtain ⟨_, _, _, _, _, q⟩ := nmem k r (by rw [← e]; simp [hk])
    omega
  have nb : (norm rs).length < big := by rw [nlen]; show _ < 16777216; omega
  obtain ⟨TJ, hJ, B⟩ := agree_all (norm rs) wfn sml nb sh g
  refine ⟨T, TJ.map .int, fun n base h hn => A.law_ n base h hn, hT.1, fun n base h hn => ?_, ?_⟩
  · have e1 : ((rs.map rowD).zip (norm rs)).map (·.1) = rs.map rowD := zip_fst (by rw [List.length_map, nlen])
    have e2 : ((rs.map rowD).zip (norm rs)).map (·.2) = norm rs := zip_snd (by rw [List.length_map, nlen])
    have hzl : ((rs.map rowD).zip (norm rs)).length = rs.length := by rw [List.length_zip, List.length_map, nlen]; omega
    have hsum : (((rs.map rowD).zip (norm rs)).map fun p => (p.2.length : Int)).sum ≤ 2000 := by
      have : (((rs.map rowD).zip (norm rs)).map fun p => (p.2.length : Int)) = (((rs.map rowD).zip (norm rs)).map (·.2)).map fun r => (r.length : Int) := by rw [List.map_map]; rfl
      rw [this, e2]
      exact sum
    have hw : way "all" (endS sh) (goalS g) ∈ ways := by cases sh <;> cases g <;> simp [ways, endS, goalS]
    refine run_way_marks n hn base _ _ ((rs.map rowD).zip (norm rs)) _ _ (by rw [e1]; exact .inr rfl) (fun k p e => ?_) (by omega) (by omega) hsum hw (.inl rfl) (by rw [e2]; exact B) h
    obtain ⟨a, s⟩ := p
    obtain ⟨f1, f2⟩ := List.getElem?_zip_eq_some.mp e
    obtain ⟨r, er, q1, q2, q3, q4⟩ := nmem k s f2
    rw [List.getElem?_map, er] at f1
    cases f1
    exact ⟨⟨r, .inl rfl, below k r er, q2, rlen k r er⟩, q1, by show s.length < 64; omega⟩
  · have lm : TJ.length = PS.length := by rw [hJ.1, nlen, hl]
    have key := joint_marks F.wf hT J (ss := norm rs) (by rw [nlen, hl]) (fun k s p e ep x => by
      obtain ⟨r, er, q1, q2, q3, q4⟩ := nmem k s e
      rw [q2]
      exact (hr k r p er ep).2 x) wfn hJ (PS.length - 1) st last
    unfold atD ixn
    have c1 : ¬ (0 : Int) ≤ -1 := by omega
    have c2 : -(((TJ.map D.int).length : Nat) : Int) ≤ -1 := by rw [List.length_map]; omega
    rw [if_neg c1, if_pos c2]
    have c3 : ((-1 : Int) + ((TJ.map D.int).length : Nat)).toNat = PS.length - 1 := by rw [List.length_map]; omega
    show (TJ.map D.int)[((-1 : Int) + ((TJ.map D.int).length : Nat)).toNat]? = _
    rw [c3, List.getElem?_map, vl_of (T := TJ) (by omega), key]
    rfl
end K84

set_option autoImplicit false
set_option linter.all false
set_option maxRecDepth 100000
/-! k84: the law. -/
namespace K84
open PySem Px
def IsSeq (d : D) (xs : List D) : Prop := d = .tup xs ∨ d = .lst xs
def Fin1 (d : D) (h' : Hh) : Prop := d = .bl true
def seq1 : List Stm := b_law.take 5
def seq2 : List Stm := (b_law.drop 5).take 1
def seq3 : List Stm := (b_law.drop 6).take 3
def seq4 : List Stm := (b_law.drop 9).take 3
def seq5 : List Stm := b_law.drop 12
theorem law_split : b_law = seq1 ++ (seq2 ++ (seq3 ++ (seq4 ++ seq5))) := rfl
theorem execs_app {c : Cxt} {base : Nat} (a b : List Stm) (env : Px.Env) (h : Hh) {Q : Px.Flow × Px.Env → Hh → Prop} (o : Ok (Px.execs c base a env h) fun p h' => p.1 = .next ∧ Ok (Px.execs c base b p.2 h') Q) : Ok (Px.execs c base (a ++ b) env h) Q := by
  induction a generalizing env h with
  | nil =>
    rw [Px.execs_nil, ret_at, Ok_ok] at o
    exact o.2
  | cons s r ih =>
    rw [Px.execs_cons, Ok_bindM] at o
    rw [List.cons_append, Px.execs_cons, Ok_bindM]
    refine o.imp ?_
    rintro ⟨fl, env'⟩ h' q
    cases fl with
    | next => exact ih env' h' q
    | brk => exact absurd (And.left q.out) (by simp)
    | cont => exact absurd (And.left q.out) (by simp)
    | ret d => exact absurd (And.left q.out) (by simp)
abbrev C39 : Cxt := cxt P (Px.run P 39)
/-- the slots of the law, as far as they matter: what is drawn -/
def env5 (scr rows handed : D) (r : Px.Env) : Px.Env := some scr :: some (.ref 0) :: some rows :: some handed :: r
theorem law_1 (ns : List Int) (hl : ns.length ≤ 63) : Ok (Px.execs C39 0 seq1 (startEnv ⟨1, 16, false, b_law⟩ [.scr (ns.map .int)]) []) fun p h' => p.1 = .next ∧ ∃ (t : List (List Nat)) (ds : List D) (d : D) (c : Cell), Fine t ∧ Handed t ds ∧ IsSeq d ds ∧ PoolC c ∧ h' = [c] ∧
    p.2 = [some (.scr (ns.map .int)), some (.ref 0), some (tabD t), some d, none, none, none, none, none, none, none, none, none, none, none, none] := by
  simp -dsimp [seq1, b_law, startEnv]
  refine (pool_ok helps 39 (by omega) 0 ns [] hl).imp ?_
  rintro v h' ⟨rfl, c, rfl, pc⟩
  simp -dsimp [run_always, short, big]
  refine (pick_ok helps 39 (by omega) 0 0 (.lst [.int 8, .int 60]) [.int 8, .int 60] [c] (.inr rfl) rfl (by simp) (by decide) (one_pool pc)).imp ?_
  rintro v h1 ⟨hv, d1⟩
  obtain ⟨c1, pc1, rfl⟩ := d1.one
  obtain ⟨most, rfl, m0, m60⟩ : ∃ most : Int, v = .int most ∧ 0 < most ∧ most ≤ 60 := by
    simp at hv
    rcases hv with rfl | rfl
    · exact ⟨8, rfl, by omega, by omega⟩
    · exact ⟨60, rfl, by omega, by omega⟩
  simp -dsimp
  refine (run__law_shared 39 (by omega) 0 0 most m0 m60 [c1] (one_pool pc1)).imp ?_
  rintro v h2 ⟨d2, t0, rfl, F0⟩
  obtain ⟨c2, pc2, rfl⟩ := d2.one
  simp -dsimp
  refine (take_ok helps 39 (by omega) 0 0 4 [c2] (by omega) (by decide) (one_pool pc2)).imp ?_
  rintro v h3 ⟨r, rfl, r0, r1, d3⟩
  obtain ⟨c3, pc3, rfl⟩ := d3.one
  have rest : ∀ (t : List (List Nat)) (c : Cell), Fine t → PoolC c → Ok (Px.run P 39 (("_law_rows_mixed" : Str), none) 0 [.ref 0, tabD t] [c]) fun v h' => ∃ (t : List (List Nat)) (ds : List D) (c : Cell), Fine t ∧ Handed t ds ∧ (v = .tup ds ∨ v = .lst ds) ∧ PoolC c ∧ h' = [c] := by
    intro t c F pc
    refine (run__law_rows_mixed 39 (by omega) 0 0 t F [c] (one_pool pc)).imp ?_
    rintro v h' ⟨d, ds, hv, _, H⟩
    obtain ⟨c', pc', rfl⟩ := d.one
    exact ⟨t, ds, c', F, H, hv, pc', rfl⟩
  by_cases hr : r = 0
  · simp -dsimp [hr]
    refine (run__law_long 39 (by omega) 0 0 [c3] (one_pool pc3)).imp ?_
    rintro v h4 ⟨d4, t, rfl, F⟩
    obtain ⟨c4, pc4, rfl⟩ := d4.one
    simp -dsimp
    refine (run__law_rows_mixed 39 (by omega) 0 0 t F [c4] (one_pool pc4)).imp ?_
    rintro v h' ⟨d, ds, hv, _, H⟩
    obtain ⟨c', pc', rfl⟩ := d.one
    simp -dsimp
    exact ⟨t, F, ds, H, v, hv, c', pc', rfl, rfl, rfl⟩
  · simp -dsimp [hr]
    refine (run__law_rows_mixed 39 (by omega) 0 0 t0 F0 [c3] (one_pool pc3)).imp ?_
    rintro v h' ⟨d, ds, hv, _, H⟩
    obtain ⟨c', pc', rfl⟩ := d.one
    simp -dsimp
    exact ⟨t0, F0, ds, H, v, hv, c', pc', rfl, rfl, rfl⟩
theorem law_2 (scr d : D) (t : List (List Nat)) (ds : List D) (c : Cell) (F : Fine t) (H : Handed t ds) (hd : d = .tup ds ∨ d = .lst ds) (pc : PoolC c) :
    Ok (Px.execs C39 0 seq2 [some scr, some (.ref 0), some (tabD t), some d, none, none, none, none, none, none, none, none, none, none, none, none] [c]) fun p h' => p.1 = .next ∧ ∃ (c : Cell) (a : Option D), PoolC c ∧ h' = [c] ∧
      p.2 = [some scr, some (.ref 0), some (tabD t), some d, a, none, none, none, none, none, none, none, none, none, none, none] := by
  simp -dsimp [seq2, b_law, run_ways]
  refine for_ok (fun i env h' => ∃ (c : Cell) (a : Option D), PoolC c ∧ h' = [c] ∧ env = [some scr, some (.ref 0), some (tabD t), some d, a, none, none, none, none, none, none, none, none, none, none, none]) ⟨c, none, pc, rfl, rfl⟩ ?_ ?_
  · rintro i x env h' hx ⟨c, a, pc, rfl, rfl⟩
    obtain ⟨w, hw, rfl⟩ := List.mem_map.mp (List.mem_of_getElem? hx)
    have wp : pureL w = true := by
      obtain ⟨u, v, z, rfl, _⟩ := way_three hw
      rfl
    simp -dsimp [turn]
    refine (given_ok helps 39 (by omega) 0 0 (.tup w) w [c] (.inl rfl) wp (one_pool pc)).imp ?_
    rintro v h1 ⟨hv, d1⟩
    obtain ⟨c1, pc1, rfl⟩ := d1.one
    obtain ⟨X, x1, x2, x3⟩ := way_same F H hw d v hd hv
    simp -dsimp [x1 39 _ _ (by omega), x2 39 _ _ (by omega), run_same helps x3 39 (by omega)]
    exact pc1
  · rintro env h' ⟨c, a, pc, rfl, rfl⟩
    simp -dsimp
    exact pc
theorem str_in (x : D) (i : Nat) (a b : D) (h : [a, b][i]? = some x) : x = a ∨ x = b := by
  have := List.mem_of_getElem? h
  simpa using this
theorem law_3 (scr d : D) (a : Option D) (t : List (List Nat)) (c : Cell) (F : Fine t) (pc : PoolC c) :
    Ok (Px.execs C39 0 seq3 [some scr, some (.ref 0), some (tabD t), some d, a, none, none, none, none, none, none, none, none, none, none, none] [c]) fun p h' => p.1 = .next ∧ ∃ (c : Cell) (r : List (Option D)), PoolC c ∧ h' = [c] ∧ r.length = 9 ∧
      p.2 = some scr :: some (.ref 0) :: some (tabD t) :: some d :: a :: (r ++ [none, none]) := by
  have F8 := F.take 8 (by omega)
  have l8 : (t.take 8).length ≤ 8 := by rw [List.length_take]; omega
  have hcut : cut (t.map rowD) none (some 8) = (t.take 8).map rowD := by
    rw [show (8 : Int) = ((8 : Nat) : Int) from rfl, cut_to, List.map_take]
  generalize t.take 8 = s at F8 l8 hcut
  simp -dsimp [seq3, b_law, tabD, hcut]
  have s1 := F8.one
  refine (take_ok helps 39 (by omega) 0 0 s.length [c] (by omega) (by show _ < (1073741824 : Int); omega) (one_pool pc)).imp ?_
  rintro v h1 ⟨x1, rfl, x10, x11, d1⟩
  obtain ⟨c1, pc1, rfl⟩ := d1.one
  simp -dsimp
  refine (take_ok helps 39 (by omega) 0 0 s.length [c1] (by omega) (by show _ < (1073741824 : Int); omega) (one_pool pc1)).imp ?_
  rintro v h2 ⟨x2, rfl, x20, x21, d2⟩
  obtain ⟨c2, pc2, rfl⟩ := d2.one
  obtain ⟨p1, rfl⟩ : ∃ k : Nat, x1 = k := ⟨x1.toNat, by omega⟩
  obtain ⟨p2, rfl⟩ : ∃ k : Nat, x2 = k := ⟨x2.toNat, by omega⟩
  have hp1 : p1 < s.length := by omega
  have hp2 : p2 < s.length := by omega
  simp -dsimp [short, big]
  rw [show D.tup (s.map rowD) = tabD s from rfl]
  refine for_ok (fun i env h' => ∃ (x8 x9 x10 x11 x12 : Option D), h' = [c2] ∧ env = [some scr, some (.ref 0), some (.tup (t.map rowD)), some d, a, some (tabD s), some (natD p1), some (natD p2), x8, x9, x10, x11, x12, none, none, none]) ⟨none, none, none, none, none, rfl, rfl⟩ ?_ ?_
  · rintro i x env h' hx ⟨x8, x9, x10, x11, x12, rfl, rfl⟩
    obtain ⟨sh, rfl⟩ : ∃ sh, x = stD (endS sh) := by
      rcases str_in _ _ _ _ hx with rfl | rfl
      · exact ⟨true, rfl⟩
      · exact ⟨false, rfl⟩
    obtain ⟨PS, rs, J, rl, rr, e⟩ := run__law_joined 39 (by omega) 0 s F8.wf F8.row l8 (p1, p2) hp1 hp2 p1 p2 rfl rfl sh [c2]
    have esh : eqM (stD (endS sh)) (.str ("short" : Str)) = Px.ret sh := by cases sh <;> simp [stD, endS, eqM_str]
    simp -dsimp [turn, esh, natD, e, short, big]
    refine for_ok (fun i env h' => ∃ (x10 x11 x12 : Option D), h' = [c2] ∧ env = [some scr, some (.ref 0), some (.tup (t.map rowD)), some d, a, some (tabD s), some (natD p1), some (natD p2), some (stD (endS sh)), some (.lst (rs.map rowD)), x10, x11, x12, none, none, none]) ⟨x10, x11, x12, rfl, rfl⟩ ?_ ?_
    · rintro i x env h' hx ⟨x10, x11, x12, rfl, rfl⟩
      obtain ⟨g, rfl⟩ : ∃ g, x = stD (goalS g) := by
        rcases str_in _ _ _ _ hx with rfl | rfl
        · exact ⟨true, rfl⟩
        · exact ⟨false, rfl⟩
      obtain ⟨T, X, t1, t2, t3, t4⟩ := joint_same F8 l8 (st := (p1, p2)) hp1 hp2 sh g J rl rr
      simp only [way, stD] at t1 t3
      have v1 : T[p1]? = some (vl T p1) := vl_of (by rw [t2]; exact hp1)
      have v2 : T[p2]? = some (vl T p2) := vl_of (by rw [t2]; exact hp2)
      have sm : ∀ z : Int, ∀ h, Px.run P 39 (("_law_same" : Str), none) 0 [.int z, .int z] h = .ok (.bl true) h := fun z h => run_same helps (.int 0 z) 39 (by omega) 0 h
      simp only [stD] at esh
      cases sh with
      | true => simp -dsimp [turn, stD, short, big, t1 39 _ _ (by omega), esh, natD, atD_nat, v1, v2, t3 39 _ _ (by omega), t4, both, sm]
      | false => simp -dsimp [turn, stD, short, big, t1 39 _ _ (by omega), esh, natD, atD_nat, v1, v2, t3 39 _ _ (by omega), t4, both, sm]
    · rintro env h' ⟨x10, x11, x12, rfl, rfl⟩
      simp -dsimp
  · rintro env h' ⟨x8, x9, x10, x11, x12, rfl, rfl⟩
    simp -dsimp
    exact ⟨c2, pc2, rfl, [some (tabD s), some (natD p1), some (natD p2), x8, x9, x10, x11, x12, none], rfl, rfl, rfl⟩
theorem pow20 : binop .pow (.int 10) (.int 20) = Px.ret (.int 100000000000000000000) := by
  show (if (decide ((0 : Int) ≤ 20) && decide ((20 : Int) ≤ 1000000)) && smallI 10 then Px.ret (D.int ((10 : Int) ^ (20 : Int).toNat)) else fail) = _
  rw [if_pos (by decide)]
  rfl
theorem Fine.fault {t : List (List Nat)} (F : Fine t) (at' : Nat) (ha : at' < t.length) (b : D) (hb : b = .tup [.int at'] ∨ b = .tup [.int (-1)] ∨ b = .tup [.non] ∨ b = .non ∨ b = .int 100000000000000000000) (wd : D) (h : Hh) :
    Px.run P 39 (("_law_fault" : Str), none) 0 [.lst ((t.map rowD).take at' ++ [b] ++ (t.map rowD).drop (at' + 1)), wd] h = .ok (.lst [.str ("shared" : Str), .int at', .bl false]) h := by
  have lt : (t.map rowD).length = t.length := by simp
  have l1 : ((t.map rowD).take at').length = at' := by rw [List.length_take, lt]; omega
  refine run_fault_shared 39 (by omega) 0 _ wd at' (fun m base h hm => run_shared_bad m hm base _ _ (.inr rfl) at' ?_ ?_ ?_ ?_ h) h
  · simp only [List.length_append, List.length_cons, List.length_nil, l1]
    omega
  · intro k x hk e
    rw [List.append_assoc, List.getElem?_append_left (by omega), List.getElem?_take_of_lt hk, List.getElem?_map] at e
    obtain ⟨r, hr, rfl⟩ := Option.map_eq_some_iff.mp e
    exact ⟨r, F.good hr⟩
  · intro x m base h e hm
    rw [List.append_assoc, List.getElem?_append_right (by omega), l1, Nat.sub_self] at e
    have e : x = b := by simpa using e.symm
    subst e
    rcases hb with rfl | rfl | rfl | rfl | rfl
    · rw [run_is_numbers m hm base _ [.int at'] (.inl rfl) (by simp [told])]
      simp [okN]
      omega
    · rw [run_is_numbers m hm base _ [.int (-1)] (.inl rfl) (by simp [told])]
      simp [okN]
    · rw [run_is_numbers m hm base _ [.non] (.inl rfl) (by simp [told])]
      simp [okN]
    · exact run_is_numbers_no m hm base _ rfl rfl _ h
    · exact run_is_numbers_no m hm base _ rfl rfl _ h
  · simp only [List.length_append, List.length_cons, List.length_nil, l1, List.length_drop, lt]
    have := F.most
    omega
theorem law_4 (scr d : D) (a : Option D) (r : List (Option D)) (hr : r.length = 9) (t : List (List Nat)) (c : Cell) (F : Fine t) (pc : PoolC c) :
    Ok (Px.execs C39 0 seq4 (some scr :: some (.ref 0) :: some (tabD t) :: some d :: a :: (r ++ [none, none])) [c]) fun p h' => p.1 = .next ∧ ∃ (c : Cell) (r : List (Option D)), PoolC c ∧ h' = [c] ∧ r.length = 10 ∧
      p.2 = some scr :: some (.ref 0) :: some (tabD t) :: some d :: a :: (r ++ [none]) := by
  match r, hr with
  | [r0, r1, r2, r3, r4, r5, r6, r7, r8], _ =>
    have h1 := F.one
    have h4 := F.most
    simp -dsimp [seq4, b_law, tabD]
    refine (take_ok helps 39 (by omega) 0 0 t.length [c] (by omega) (by show _ < (1073741824 : Int); omega) (one_pool pc)).imp ?_
    rintro v h1 ⟨x1, rfl, x10, x11, d1⟩
    obtain ⟨c1, pc1, rfl⟩ := d1.one
    obtain ⟨p, rfl⟩ : ∃ k : Nat, x1 = k := ⟨x1.toNat, by omega⟩
    have hp : p < t.length := by omega
    simp -dsimp [short, big, pow20]
    refine (pick_ok helps 39 (by omega) 0 0 _ [.tup [.int p], .tup [.int (-1)], .tup [.non], .non, .int 100000000000000000000] [c1] (.inr rfl) rfl (by simp) (by show ((5 : Nat) : Int) < 1073741824; omega) (one_pool pc1)).imp ?_
    rintro v h2 ⟨hv, d2⟩
    obtain ⟨c2, pc2, rfl⟩ := d2.one
    have hv : v = .tup [.int p] ∨ v = .tup [.int (-1)] ∨ v = .tup [.non] ∨ v = .non ∨ v = .int 100000000000000000000 := by simpa using hv
    have e1 : cut (t.map rowD) none (some (p : Int)) = (t.map rowD).take p := cut_to _ _
    have e2 : cut (t.map rowD) (some ((p : Int) + 1)) none = (t.map rowD).drop (p + 1) := cut_from _ (p + 1)
    have l1 : ((t.map rowD).take p).length + 1 ≤ big := by rw [List.length_take, List.length_map]; show _ ≤ 16777216; omega
    have l2 : ((t.map rowD).take p).length + 1 + ((t.map rowD).drop (p + 1)).length ≤ big := by rw [List.length_take, List.length_drop, List.length_map]; show _ ≤ 16777216; omega
    have fl := fun wd h => F.fault p hp v hv wd h
    generalize hA : (t.map rowD).take p = A at e1 l1 l2 fl
    generalize hB : (t.map rowD).drop (p + 1) = B at e2 l2 fl
    have one : (1 : Nat) ≤ big := by show 1 ≤ 16777216; omega
    have th : (3 : Nat) ≤ big := by show 3 ≤ 16777216; omega
    simp -dsimp [short, one, th, e1, e2, l1]
    have l2' : A.length + (B.length + 1) ≤ big := by omega
    have tw : (2 : Nat) ≤ big := by show 2 ≤ 16777216; omega
    simp -dsimp [l2', l2, tw]
    refine (pick_ok helps 39 (by omega) 0 0 _ [.non, .tup [stD "all", stD "long", stD "last"]] [c2] (.inr rfl) rfl (by simp) (by decide) (one_pool pc2)).imp ?_
    rintro v2 h3 ⟨_, d3⟩
    obtain ⟨c3, pc3, rfl⟩ := d3.one
    have fl2 := fl v2 [c3]
    have nice : Nice 1 (.lst [.str ("shared" : Str), .int p, .bl false]) := .lst _ _ (by show 3 ≤ 16777216; omega) fun x hx => by
      simp at hx
      rcases hx with rfl | rfl | rfl
      · exact .str _ _
      · exact .int _ _
      · exact .bl _ _
    simp at fl2
    simp -dsimp [fl2, short, th, run_same helps nice 39 (by omega)]
    exact ⟨c3, pc3, rfl, [r0, r1, r2, r3, r4, r5, r6, r7, some (.int p), some v], rfl, rfl, rfl⟩
end K84

set_option autoImplicit false
set_option linter.all false
set_option maxRecDepth 100000
/-! k84: the law, the end. -/
namespace K84
open PySem Px
theorem law_5 (scr d : D) (a : Option D) (r : List (Option D)) (hr : r.length = 10) (t : List (List Nat)) (c : Cell) (F : Fine t) (pc : PoolC c) :
    Ok (Px.execs C39 0 seq5 (some scr :: some (.ref 0) :: some (tabD t) :: some d :: a :: (r ++ [none])) [c]) fun p h' => Ok (valOf p h') fun d h' => Leaves 0 Fin1 d h' := by
  match r, hr with
  | [r0, r1, r2, r3, r4, r5, r6, r7, r8, r9], _ =>
    have one : (1 : Nat) ≤ big := by show 1 ≤ 16777216; omega
    have sv : (7 : Nat) ≤ big := by show 7 ≤ 16777216; omega
    simp -dsimp [seq5, b_law, run_ways]
    refine (pick_ok helps 39 (by omega) 0 0 _ (ways.map .tup) [c] (.inr rfl) rfl (by simp [ways]) (by show ((11 : Nat) : Int) < 1073741824; omega) (one_pool pc)).imp ?_
    rintro v h1 ⟨hv, d1⟩
    obtain ⟨c1, pc1, rfl⟩ := d1.one
    obtain ⟨w, hw, rfl⟩ := List.mem_map.mp hv
    have w3 : w.length = 3 ∧ pureL w = true := by
      obtain ⟨u, v, z, rfl, _⟩ := way_three hw
      exact ⟨rfl, rfl⟩
    simp -dsimp [Px.alloc, short, one, sv]
    refine (pick_ok helps 39 (by omega) 0 0 _ bads [c1, .l w] (.inr rfl) rfl (by simp [bads]) (by show ((7 : Nat) : Int) < 1073741824; omega) ((one_pool pc1).app _)).imp ?_
    rintro x h2 ⟨hx, d2⟩
    obtain ⟨c2, pc2, rfl⟩ := d2.two
    have px : x.pure = true := (pureL_iff bads).mp rfl x hx
    simp -dsimp
    refine (take_ok helps 39 (by omega) 0 0 3 [c2, .l w] (by omega) (by decide) ((one_pool pc2).app _)).imp ?_
    rintro v h3 ⟨i, rfl, i0, i1, d3⟩
    obtain ⟨c3, pc3, rfl⟩ := d3.two
    obtain ⟨i, rfl⟩ : ∃ k : Nat, i = k := ⟨i.toNat, by omega⟩
    have hi : i < 3 := by omega
    have c1e : ∀ c x : Cell, cellAt 1 [c, x] = .ok x [c, x] := fun _ _ => rfl
    have s1e : ∀ c x y : Cell, setCell 1 y [c, x] = .ok () [c, y] := fun _ _ _ => rfl
    simp -dsimp [setop, c1e, w3.1, ixn_nat 3 i hi, storable, s1e]
    have wp : pureL (w.set i x) = true := by
      rw [pureL_iff]
      intro y hy
      rcases List.mem_or_eq_of_mem_set hy with h | h
      · exact (pureL_iff w).mp w3.2 y h
      · rw [h]; exact px
    refine (given_cell helps 39 (by omega) 0 0 1 (w.set i x) [c3, .l (w.set i x)] rfl (by omega) wp ((one_pool pc3).app _)).imp ?_
    rintro v h4 ⟨hv, d4⟩
    obtain ⟨c4, pc4, rfl⟩ := d4.two
    have fault : ∀ h, Px.run P 39 (("_law_fault" : Str), none) 0 [tabD t, v] h = .ok (.lst [.str ("way" : Str)]) h := by
      intro h
      refine run_fault_way 39 (by omega) 0 (tabD t) v (selfZ t) (.inl (by rw [selfZ1]; rfl)) (fun k p e => ?_) (by simp [selfZ]; have := F.one; omega) (by simp [selfZ]; have := F.most; omega) ?_ (fun m base h hm => run_checked_bad m hm base v w hw i hi x hx hv h) h
      · unfold selfZ at e
        rw [List.getElem?_map] at e
        obtain ⟨r, hr, rfl⟩ := Option.map_eq_some_iff.mp e
        exact F.good hr
      · have := F.sum
        unfold selfZ
        rw [List.map_map]
        exact this
    have nice : Nice 1 (.lst [.str ("way" : Str)]) := .lst _ _ (by show 1 ≤ 16777216; omega) fun x hx => by
      have : x = .str ("way" : Str) := by simpa using hx
      subst this
      exact .str _ _
    simp -dsimp [fault, short, one, run_same helps nice 39 (by omega)]
    obtain ⟨cs, i, a, s, rfl, _⟩ := pc4.ex
    exact ⟨_, frz_pure _ _ _ _ rfl, rfl, rfl⟩
theorem law_ok (ns : List Int) (hl : ns.length ≤ 63) : Ok (Px.run K84.P 40 ("law", none) 0 [.scr (ns.map .int)] []) Fin1 := by
  rw [run_fn 39 0 _ _ lk_law rfl rfl]
  refine Ok_leaves ?_
  rw [Ok_bindM]
  show Ok (Px.execs C39 0 b_law (startEnv ⟨1, 16, false, b_law⟩ [.scr (ns.map .int)]) []) _ _ _
  rw [law_split]
  refine execs_app _ _ _ _ ((law_1 ns hl).imp ?_)
  rintro ⟨fl, env⟩ h1 ⟨e1, t, ds, d, c, F, H, hd, pc, rfl, e2⟩
  simp only at e1 e2
  subst e2
  refine ⟨e1, execs_app _ _ _ _ ((law_2 _ d t ds c F H hd pc).imp ?_)⟩
  rintro ⟨fl, env⟩ h2 ⟨e1, c2, a, pc2, rfl, e2⟩
  simp only at e1 e2
  subst e2
  refine ⟨e1, execs_app _ _ _ _ ((law_3 _ d a t c2 F pc2).imp ?_)⟩
  rintro ⟨fl, env⟩ h3 ⟨e1, c3, r, pc3, rfl, hr, e2⟩
  simp only at e1 e2
  subst e2
  refine ⟨e1, execs_app _ _ _ _ ((law_4 _ d a r hr t c3 F pc3).imp ?_)⟩
  rintro ⟨fl, env⟩ h4 ⟨e1, c4, r, pc4, rfl, hr, e2⟩
  simp only at e1 e2
  subst e2
  exact ⟨e1, law_5 _ d a r hr t c4 F pc4⟩
theorem law_run (ns : List Int) (hl : ns.length ≤ 63) : ∃ h, Px.run K84.P 40 ("law", none) 0 [.scr (ns.map .int)] [] = Px.Res.ok (.bl true) h := by
  obtain ⟨d, h, e, rfl⟩ := (law_ok ns hl).ex
  exact ⟨h, e⟩
end K84

set_option Elab.async false
set_option autoImplicit false
set_option linter.all false
set_option maxRecDepth 100000
set_option maxHeartbeats 0
open PySem PySem.W PySem.Calls PyProof.Rows
theorem PySem.Challenge.cw_gameproved_k84_whole_marks_of_ways_holds : PySem.Challenge.rw_gameproved_k84_whole_marks_of_ways.Holds := by
  w_on; o_law
  refine HandSHeadRun.head_any (r := OpenLaw.row PySem.Challenge.rw_gameproved_k84_whole_marks_of_ways) (q := view (OpenLaw.row PySem.Challenge.rw_gameproved_k84_whole_marks_of_ways).prog [47]) (H := K84.hk) (ob := K84.ob) (M := 3000) (loose := K84.loose)
    (d := HandSHeadRun.topDef (OpenLaw.row PySem.Challenge.rw_gameproved_k84_whole_marks_of_ways).prog 47) (kwd := []) K84.ob_eq
    (by kernel_rfl) (fun s => by kernel_rfl) K84.runEq (by kernel_rfl) (by kernel_rfl) (by kernel_rfl) (by rfl) (by first | assumption | decide +kernel) (by decide +kernel) ⟨rfl, rfl, rfl, rfl, rfl, by decide +kernel⟩ ?hw ?hc
  case hw => w_witness2
  case hc =>
    refine L2.walk_ofE (l := PySem.Challenge.rw_gameproved_k84_whole_marks_of_ways) (n := 63) (k := 41) (x := "script") (CX := L2.CX0) rfl (by decide) (by kernel_rfl) ⟨rfl, by decide, by decide⟩ ?F (fun _ _ _ _ z => z)
    intro w mg fa h Y G hmg0
    obtain ⟨K, KX, c⟩ := Y
    have hmg : mg ("law" : PySem.Str) = some (.ref fa) := by
      have e : (HandSHeadRun.topDef (OpenLaw.row PySem.Challenge.rw_gameproved_k84_whole_marks_of_ways).prog 47).name = ("law" : PySem.Str) := by kernel_rfl
      rw [← e]
      exact hmg0
    obtain ⟨fd, d⟩ := K84.dk_law KX G c
    have ef : fa = He.ga K "law" := by
      have z := hmg.symm.trans d.mgf
      cases z
      rfl
    subst ef
    obtain ⟨sp, h1, h2⟩ := Px.pi_law (w := w) (prog := PySem.Challenge.rw_gameproved_k84_whole_marks_of_ways.prog) (n := 39) c.nol (fun ns hl => K84.law_run ns hl) d ⟨K84.excs_all KX G c, K84.subs_all⟩ fun base => Px.all_defs (K84.defs_all KX G c) (K84.free_all KX G c) (K84.consts_all KX G c) (K84.tcs_all KX G c) ⟨K84.excs_all KX G c, K84.subs_all⟩ 39
    exact ⟨K, fd, sp, KX, fun s u => d.binds s [u] rfl, h1, fun base _ _ => h2 base⟩
