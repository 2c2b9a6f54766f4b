import PyProof.Rows.All
import Wide.All
import OpenK.AllK
import Wide.FinOn
import HandS.List
import PyProof.P3Statements
import PyProof.EqLayable
import HandS.ForMost
import KE.KDictKeyed
import HandS.Star
import HandS.TupAny
import HandS.Style
import HandS.Deep
import HandS.IsInst
import HandS.SortInts
import HandS.More
import HandS.Conv
import HandS.TupLen
import KE.KIndexOf
import HandS.MakeKwOnly
import HandS.New0
import HandS.New
import HandS.Iter
import HandS.Zip
import HandS.Comp
import KE.GoesMore
import KE.KDictWalk
import HandS.DictComp
import HandS.Small
import KE.KDictDisplayH
import HandS.Defaults
import HandS.HeadHook2
import HandS.Head2
import HandS.HeadEnd
import KE.KStateDown
import HandS.Head0
import HandS.Head1
import PySem.Challenge.RW_straightcalls_k35_known
set_option Elab.async false
section
set_option linter.all false
set_option maxRecDepth 100000
/-! SC1: values, a small heap, an IR and its meaning (plain Lean; no model in sight). -/
noncomputable section
namespace SC
open PySem (Str PyData)

inductive D where
  | non | bl (b : Bool) | int (i : Int) | str (s : Str) | tup (xs : List D) | ref (n : Nat)
inductive AO where
  | lst (xs : List D) | fz (xs : List D) | dK (kvs : List (L2.Key × D)) | dT (kvs : List (D × D)) | ins (c : Nat) (fs : List (Nat × D))
structure H where
  o : List AO
  fl : Nat
  lk : List Nat
inductive R (α : Type) where
  | ok (a : α) (h : H) | bad
def R.bind {α β : Type} (r : R α) (f : α → H → R β) : R β := match r with
  | .ok a h => f a h
  | .bad => .bad
@[simp] theorem R.bind_ok {α β : Type} (a : α) (h : H) (f : α → H → R β) : (R.ok a h).bind f = f a h := rfl
@[simp] theorem R.bind_bad {α β : Type} (f : α → H → R β) : (R.bad : R α).bind f = .bad := rfl
abbrev Env := List (Option D)
inductive Out where
  | nx (σ : Env) (h : H) | rt (v : D) (h : H) | bk (σ : Env) (h : H) | ct (σ : Env) (h : H) | bad

/-! ### the heap -/
def H.prot (h : H) (n : Nat) : Bool := decide (n < h.fl) || h.lk.contains n
def H.push (h : H) (o : AO) : H := { h with o := h.o ++ [o] }
def H.put (h : H) (n : Nat) (o : AO) : H := { h with o := h.o.set n o }
/-- a write at n, where it is free -/
def H.write {α : Type} (h : H) (n : Nat) (o : AO) (a : α) : R α := if h.prot n then .bad else .ok a (h.put n o)
def sizeCap : Nat := 16777216
/-- a new object -/
def alloc (o : AO) (h : H) : R D := .ok (.ref h.o.length) (h.push o)
def newL (xs : List D) (h : H) : R D := if xs.length ≤ sizeCap then alloc (.lst xs) h else .bad
def newT (xs : List D) (h : H) : R D := if xs.length ≤ sizeCap then .ok (.tup xs) h else .bad

/-! ### pure values -/
mutual
/-- no reference within -/
def D.pure : D → Bool
  | .ref _ => false
  | .tup xs => D.pures xs
  | _ => true
def D.pures : List D → Bool
  | [] => true
  | x :: r => x.pure && D.pures r
end
def mapO (f : D → Option PyData) : List D → Option (List PyData)
  | [] => some []
  | x :: r => (match f x, mapO f r with
    | some a, some b => some (a :: b)
    | _, _ => none)
/-- a value as data, lists read through the heap -/
def toP (h : H) : Nat → D → Option PyData
  | _, .non => some .none
  | _, .bl b => some (.bool b)
  | _, .int i => some (.int i)
  | _, .str s => some (.str s)
  | 0, .tup _ => none
  | n + 1, .tup xs => (mapO (toP h n) xs).map .tuple
  | 0, .ref _ => none
  | n + 1, .ref p => (match h.o[p]? with
    | some (.lst xs) => (mapO (toP h n) xs).map .list
    | some (.fz xs) => (mapO (toP h n) xs).map .list
    | _ => none)
abbrev toPs (h : H) (n : Nat) (xs : List D) : Option (List PyData) := mapO (toP h n) xs
def scalar : D → Bool
  | .non => true | .bl _ => true | .int _ => true | .str _ => true | _ => false
def bi : D → D → Bool
  | .bl _, .int _ => true | .int _, .bl _ => true | _, _ => false
def seqv : D → D → Bool
  | .non, .non => true
  | .bl a, .bl b => decide (a = b)
  | .int i, .int j => decide (i = j)
  | .str a, .str b => decide (a = b)
  | _, _ => false
/-- two lists of other lengths -/
def lenNe (h : H) : D → D → Bool
  | .ref p, .ref q => (match h.o[p]?, h.o[q]? with
    | some (.lst a), some (.lst b) => a.length != b.length
    | _, _ => false)
  | _, _ => false
/-- == : scalars by themselves, lists by their lengths, else as data -/
def eqD (h : H) (x y : D) : Option Bool :=
  if scalar x && scalar y && !bi x y then some (seqv x y) else if lenNe h x y then some false else
    match toP h 60 x, toP h 60 y with
    | some a, some b => if PySem.SeqAt.shaped a && PySem.SeqAt.shaped b then some (PyData.eqv a b) else none
    | _, _ => none
def keyOf : D → Option L2.Key
  | .int i => some (.inl i)
  | .str s => some (.inr s)
  | _ => none
def getK (k : L2.Key) : List (L2.Key × D) → Option D
  | [] => none
  | (a, v) :: r => if a = k then some v else getK k r
def putK (k : L2.Key) (v : D) : List (L2.Key × D) → List (L2.Key × D)
  | [] => [(k, v)]
  | (a, w) :: r => if a = k then (a, v) :: r else (a, w) :: putK k v r
mutual
def D.depth : D → Nat
  | .tup xs => D.depths xs + 1
  | _ => 0
def D.depths : List D → Nat
  | [] => 0
  | x :: r => max x.depth (D.depths r)
end
mutual
/-- == of data without references (True is 1), as keys of dicts -/
def D.same : D → D → Bool
  | .non, .non => true
  | .bl a, .bl b => decide (a = b)
  | .bl a, .int i => decide ((if a then (1 : Int) else 0) = i)
  | .int i, .bl a => decide (i = (if a then (1 : Int) else 0))
  | .int i, .int j => decide (i = j)
  | .str a, .str b => decide (a = b)
  | .tup a, .tup b => D.sames a b
  | _, _ => false
def D.sames : List D → List D → Bool
  | [], [] => true
  | a :: r, b :: s => D.same a b && D.sames r s
  | _, _ => false
end
/-- a key that is a tuple of data -/
def keyT : D → Bool
  | .tup xs => D.pures xs && decide (D.depths xs + 1 ≤ 8)
  | _ => false
def getT (k : D) : List (D × D) → Option D
  | [] => none
  | (a, v) :: r => if D.same a k then some v else getT k r
def putT (k v : D) : List (D × D) → List (D × D)
  | [] => [(k, v)]
  | (a, w) :: r => if D.same a k then (a, v) :: r else (a, w) :: putT k v r
def getF (f : Nat) : List (Nat × D) → Option D
  | [] => none
  | (g, v) :: r => if g = f then some v else getF f r
def putF (f : Nat) (v : D) : List (Nat × D) → List (Nat × D)
  | [] => [(f, v)]
  | (g, x) :: r => if g = f then (g, v) :: r else (g, x) :: putF f v r

/-! ### the IR -/
inductive B2 where
  | add | sub | mul | mod | fdiv | eq | ne | lt | le | gt | ge | in_ | nin | is_ | isn
inductive Bi where
  | len | all | any | tuple | list | sorted | int | sum
inductive Bm where
  | append | pop0 | index
inductive Ty where
  | int | bool | str | tuple | lt | cls (c : Nat)
inductive Ik where
  | seq | range | enum | zip | items | keys
inductive Tg where
  | n (i : Nat) | t (l : List Nat)
inductive E where
  | var (i : Nat) | cN | cB (b : Bool) | cI (i : Int) | cS (s : Str) | glb (k : Nat)
  | op2 (o : B2) (a b : E) | neg (a : E) | sub (a i : E)
  | not_ (a : E) | and_ (a b : E) | or_ (a b : E) | ite (c a b : E) | chain (o1 o2 : B2) (a b c : E)
  | call (j : Nat) (as : List E) | make (c : Nat) (as : List E) | meth (m : Nat) (o : E) (as : List E) | lenI (o : E)
  | fld (o : E) (f : Nat) | blt (b : Bi) (a : E) | bm (b : Bm) (o : E) (as : List E) | isi (a : E) (t : Ty)
  | slice (a : E) (lo hi : Option E)
  | tup (es : List E) | lst (es : List E) | star (a : E)
  | dnewK | dnewT | dict1 (k v : E)
  | lc (k : Ik) (tg : Tg) (its : List E) (ifs : List E) (elt : E)
  | dc (tg : Tg) (it : E) (kk vv : E)
  | tmp (a : E)
inductive G where
  | n (i : Nat) | f (o : E) (f : Nat) | s (o i : E) | t (l : List G)
inductive S where
  | expr (e : E) | asg (g : G) (e : E) | ret (e : E) | ite (c : E) (a b : List S)
  | for_ (k : Ik) (tg : Tg) (its : List E) (b : List S) | while_ (c : E) (b : List S) | raise_ | pass
inductive Mode where
  | raw | P | L | G
structure Fd where
  np : Nat
  ns : Nat
  body : List S
  mode : Mode
/-- what the code leans on: defs by number, constants, classes (their __init__), methods (class, name) -/
structure Tab where
  glb : Nat → Option D
  init : Nat → Option Nat
  meth : Nat → Nat → Option Nat
  len : Nat → Option Nat
abbrev Fn := List D → H → R D

/-! ### operations -/
abbrev ixAt (n : Nat) (i : Int) : Option Nat := L2.ixN n i
def cutL (xs : List D) (lo hi : Option Int) : List D := (xs.drop (HT.sIx xs.length 0 lo)).take (HT.sIx xs.length xs.length hi - HT.sIx xs.length 0 lo)
def flat : D → Bool
  | .non => true | .bl _ => true | .int _ => true | .str _ => true | _ => false
def feq : D → D → Bool
  | .non, .non => true
  | .bl a, .bl b => a == b
  | .bl a, .int b => (if a then (1 : Int) else 0) == b
  | .int a, .bl b => a == (if b then (1 : Int) else 0)
  | .int a, .int b => a == b
  | .str a, .str b => a == b
  | _, _ => false
def retB (h : H) : Option Bool → R D
  | some b => .ok (.bl b) h
  | none => .bad
/-- x in y: flat items, or a list of data, or a dict's keys -/
def inD (x y : D) (h : H) : Option Bool := match y with
  | .tup xs => if flat x && xs.all flat then some (xs.any fun y => feq y x) else none
  | .ref p => (match h.o[p]? with
    | some (.lst xs) => (match toP h 60 x, toPs h 60 xs with
      | some d, some ds => if PySem.SeqAt.shaped d && PySem.SeqAt.shaped (.list ds) then some (ds.any fun z => PyData.eqv z d) else none
      | _, _ => none)
    | some (.dK kvs) => (match keyOf x with | some k => some (getK k kvs).isSome | none => none)
    | some (.dT kvs) => if keyT x then some (getT x kvs).isSome else none
    | _ => none)
  | _ => none
def smallI (i : Int) : Bool := decide (-(2 ^ 64) < i) && decide (i < 2 ^ 64)
def op2 (o : B2) (x y : D) (h : H) : R D := match o with
  | .add => (match x, y with
    | .int a, .int b => .ok (.int (a + b)) h
    | .tup a, .tup b => newT (a ++ b) h
    | .ref p, .ref q => (match h.o[p]?, h.o[q]? with
      | some (.lst a), some (.lst b) => newL (a ++ b) h
      | _, _ => .bad)
    | _, _ => .bad)
  | .sub => (match x, y with | .int a, .int b => .ok (.int (a - b)) h | _, _ => .bad)
  | .mul => (match x, y with | .int a, .int b => if smallI a || smallI b then .ok (.int (a * b)) h else .bad | _, _ => .bad)
  | .mod => (match x, y with | .int a, .int b => if 0 < b then .ok (.int (a % b)) h else .bad | _, _ => .bad)
  | .fdiv => (match x, y with | .int a, .int b => if 0 < b ∧ b < 1073741824 then .ok (.int (a / b)) h else .bad | _, _ => .bad)
  | .eq => retB h (eqD h x y)
  | .ne => retB h ((eqD h x y).map (!·))
  | .lt => (match x, y with | .int a, .int b => .ok (.bl (decide (a < b))) h | _, _ => .bad)
  | .le => (match x, y with | .int a, .int b => .ok (.bl (decide (a ≤ b))) h | _, _ => .bad)
  | .gt => (match x, y with | .int a, .int b => .ok (.bl (decide (b < a))) h | _, _ => .bad)
  | .ge => (match x, y with | .int a, .int b => .ok (.bl (decide (b ≤ a))) h | _, _ => .bad)
  | .in_ => retB h (inD x y h)
  | .nin => retB h ((inD x y h).map (!·))
  | .is_ => (match y with | .non => .ok (.bl (match x with | .non => true | _ => false)) h | _ => .bad)
  | .isn => (match y with | .non => .ok (.bl (match x with | .non => false | _ => true)) h | _ => .bad)
def subD (x y : D) (h : H) : R D := match x with
  | .tup xs => (match y with
    | .int i => (match ixAt xs.length i with
      | some k => (match xs[k]? with | some v => .ok v h | none => .bad)
      | none => .bad)
    | _ => .bad)
  | .ref p => (match h.o[p]? with
    | some (.lst xs) => (match y with
      | .int i => (match ixAt xs.length i with
        | some k => (match xs[k]? with | some v => .ok v h | none => .bad)
        | none => .bad)
      | _ => .bad)
    | some (.fz xs) => (match y with
      | .int i => (match ixAt xs.length i with
        | some k => (match xs[k]? with | some v => .ok v h | none => .bad)
        | none => .bad)
      | _ => .bad)
    | some (.dK kvs) => (match keyOf y with
      | some k => (match getK k kvs with | some v => .ok v h | none => .bad)
      | none => .bad)
    | some (.dT kvs) => if keyT y then (match getT y kvs with | some v => .ok v h | none => .bad) else .bad
    | _ => .bad)
  | _ => .bad
def negD (x : D) (h : H) : R D := match x with | .int i => .ok (.int (-i)) h | _ => .bad
def notD (x : D) (h : H) : R D := match x with | .bl b => .ok (.bl (!b)) h | _ => .bad
def sliceD (x : D) (lo hi : Option Int) (h : H) : R D := match x with
  | .tup xs => .ok (.tup (cutL xs lo hi)) h
  | .ref p => (match h.o[p]? with
    | some (.lst xs) => alloc (.lst (cutL xs lo hi)) h
    | some (.fz xs) => alloc (.lst (cutL xs lo hi)) h
    | _ => .bad)
  | _ => .bad
def fldD (o : D) (f : Nat) (h : H) : R D := match o with
  | .ref p => (match h.o[p]? with
    | some (.ins _ fs) => (match getF f fs with | some v => .ok v h | none => .bad)
    | _ => .bad)
  | _ => .bad
/-- the items of what is walked -/
def itemsD (v : D) (h : H) : Option (List D) := match v with
  | .tup xs => some xs
  | .ref p => (match h.o[p]? with
    | some (.lst xs) => some xs
    | some (.fz xs) => some xs
    | _ => none)
  | _ => none
/-- .. of a list -/
def listD (v : D) (h : H) : Option (List D) := match v with
  | .ref p => (match h.o[p]? with
    | some (.lst xs) => some xs
    | some (.fz xs) => some xs
    | _ => none)
  | _ => none
def keysD (v : D) (h : H) : Option (List D) := match v with
  | .ref p => (match h.o[p]? with
    | some (.dT kvs) => some (kvs.map (·.1))
    | some (.dK kvs) => some (kvs.map fun p => match p.1 with | .inl i => .int i | .inr s => .str s)
    | _ => none)
  | _ => none
def boolsOf : List D → Option (List Bool)
  | [] => some []
  | .bl b :: r => (boolsOf r).map (b :: ·)
  | _ => none
def intsOf : List D → Option (List Int)
  | [] => some []
  | .int i :: r => (intsOf r).map (i :: ·)
  | _ => none
def lenD (v : D) (h : H) : Option Nat := match v with
  | .tup xs => some xs.length
  | .ref p => (match h.o[p]? with
    | some (.lst xs) => some xs.length
    | some (.fz xs) => some xs.length
    | some (.dK kvs) => if h.lk.contains p then none else some kvs.length
    | some (.dT kvs) => some kvs.length
    | _ => none)
  | _ => none
def intKeys : List (L2.Key × D) → Option (List Int)
  | [] => some []
  | (.inl i, _) :: r => (intKeys r).map (i :: ·)
  | _ => none
def insI (x : Int) : List Int → List Int
  | [] => [x]
  | y :: r => if x ≤ y then x :: y :: r else y :: insI x r
def sortI (l : List Int) : List Int := l.foldr insI []
def bltD (b : Bi) (x : D) (h : H) : R D := match b with
  | .len => (match lenD x h with | some n => .ok (.int n) h | none => .bad)
  | .all => (match listD x h with | some xs => (match boolsOf xs with | some bs => .ok (.bl (bs.all id)) h | none => .bad) | none => .bad)
  | .any => (match listD x h with | some xs => (match boolsOf xs with | some bs => .ok (.bl (bs.any id)) h | none => .bad) | none => .bad)
  | .tuple => (match itemsD x h with | some xs => .ok (.tup xs) h | none => .bad)
  | .list => (match itemsD x h with
    | some xs => alloc (.lst xs) h
    | none => (match keysD x h with | some xs => alloc (.lst xs) h | none => .bad))
  | .sorted => (match listD x h with
    | some xs => (match intsOf xs with | some is => alloc (.lst ((sortI is).map .int)) h | none => .bad)
    | none => (match x with
      | .ref p => (match h.o[p]? with
        | some (.dK kvs) => (match intKeys kvs with | some is => if is.length < 64 then alloc (.lst ((sortI is).map .int)) h else .bad | none => .bad)
        | _ => .bad)
      | _ => .bad))
  | .int => (match x with | .int i => .ok (.int i) h | _ => .bad)
  | .sum => (match listD x h with
    | some xs => (match intsOf xs with | some is => .ok (.int is.sum) h | none => .bad)
    | none => .bad)
def strsOf : List D → Option (List Str)
  | [] => some []
  | .str i :: r => (strsOf r).map (i :: ·)
  | _ => none
def bmD (b : Bm) (o : D) (as : List D) (h : H) : R D := match b with
  | .append => (match o, as with
    | .ref p, [x] => (match h.o[p]? with
      | some (.lst xs) => if xs.length < sizeCap then h.write p (.lst (xs ++ [x])) .non else .bad
      | _ => .bad)
    | _, _ => .bad)
  | .pop0 => (match o, as with
    | .ref p, [.int i] => (match h.o[p]? with
      | some (.lst (x :: xs)) => if i = 0 then h.write p (.lst xs) x else .bad
      | _ => .bad)
    | _, _ => .bad)
  | .index => (match o, as with
    | .tup xs, [.int k] => (match intsOf xs with | some ns => if k ∈ ns then .ok (.int (ns.idxOf k : Nat)) h else .bad | none => .bad)
    | .tup xs, [.str k] => (match strsOf xs with | some ns => if k ∈ ns then .ok (.int (ns.idxOf k : Nat)) h else .bad | none => .bad)
    | _, _ => .bad)
/-- a value's type: a built-in one's name, or a class of the law -/
def tyD (x : D) (h : H) : Option (Sum String Nat) := match x with
  | .non => some (.inl "NoneType")
  | .bl _ => some (.inl "bool")
  | .int _ => some (.inl "int")
  | .str _ => some (.inl "str")
  | .tup _ => some (.inl "tuple")
  | .ref p => (match h.o[p]? with
    | some (.lst _) => some (.inl "list")
    | some (.fz _) => some (.inl "list")
    | some (.dK _) => some (.inl "dict")
    | some (.ins k _) => some (.inr k)
    | _ => none)
def kitT (ty : Sum String Nat) (t : Ty) : Bool := match ty, t with
  | .inl s, .int => s == "int" || s == "bool"
  | .inl s, .bool => s == "bool"
  | .inl s, .str => s == "str"
  | .inl s, .tuple => s == "tuple"
  | .inl s, .lt => s == "list" || s == "tuple"
  | .inl _, .cls _ => false
  | .inr k, .cls c => decide (k = c)
  | .inr _, _ => false
def isiD (x : D) (t : Ty) (h : H) : Option Bool := (tyD x h).map fun ty => kitT ty t
/-- a target of names -/
def tgSet (t : Tg) (v : D) (σ : Env) : Option Env := match t with
  | .n i => some (σ.set i (some v))
  | .t l => (match v with
    | .tup xs => if xs.length = l.length then some ((l.zip xs).foldl (fun s p => s.set p.1 (some p.2)) σ) else none
    | _ => none)
def rangeL (a : Int) (n : Nat) : List D := (List.range n).map fun (i : Nat) => .int (a + i)
def enumL (xs : List D) : List D := (List.range xs.length).zipWith (fun (i : Nat) x => .tup [.int i, x]) xs
def zipL (xs ys : List D) : List D := xs.zipWith (fun x y => .tup [x, y]) ys
/-- what is walked, and the object that must stay -/
def walkD (k : Ik) (as : List D) (h : H) : Option (List Nat × List D) := match k with
  | .seq => (match as with
    | [.ref p] => (match itemsD (.ref p) h with | some xs => some ([p], xs) | none => none)
    | [.tup xs] => some ([], xs)
    | _ => none)
  | .range => (match as with
    | [.int n] => if -(2 ^ 30) < n ∧ n < 2 ^ 30 then some ([], rangeL 0 n.toNat) else none
    | [.int a, .int b] => if (-(2 ^ 30) < a ∧ a < 2 ^ 30) ∧ -(2 ^ 30) < b ∧ b < 2 ^ 30 then some ([], rangeL a (b - a).toNat) else none
    | _ => none)
  | .enum => (match as with
    | [.ref p] => (match itemsD (.ref p) h with | some xs => some ([p], enumL xs) | none => none)
    | [.tup xs] => some ([], enumL xs)
    | _ => none)
  | .zip => (match as with
    | [.ref p, .ref q] => (match itemsD (.ref p) h, itemsD (.ref q) h with | some xs, some ys => some ([p, q], zipL xs ys) | _, _ => none)
    | [.tup xs, .tup ys] => some ([], zipL xs ys)
    | _ => none)
  | .items => (match as with
    | [.ref p] => if h.lk.contains p then none else (match h.o[p]? with
      | some (.dT kvs) => some ([p], kvs.map fun p => .tup [p.1, p.2])
      | _ => none)
    | _ => none)
  | .keys => (match as with
    | [.ref p] => if h.lk.contains p then none else (match h.o[p]? with
      | some (.dT kvs) => some ([p], kvs.map fun p => p.1)
      | _ => none)
    | _ => none)
def H.lock (h : H) (l : List Nat) : H := { h with lk := l ++ h.lk }
def H.unlock (h : H) (l : List Nat) : H := { h with lk := h.lk.drop l.length }

abbrev M := Env → H → R D
abbrev ML := Env → H → R (List D)
/-- a list comprehension's turns: the new list at m -/
def lcGo (m : Nat) (tg : Tg) (ifs elt : M) (σ : Env) : List D → H → R D
  | [], h => .ok (.ref m) h
  | x :: r, h => (match tgSet tg x σ with
    | none => .bad
    | some σ' => (ifs σ' h).bind fun b h1 => (match b with
      | .bl true => (elt σ' h1).bind fun v h2 => (match h2.o[m]? with
        | some (.lst acc) => if acc.length < sizeCap then lcGo m tg ifs elt σ r (h2.put m (.lst (acc ++ [v]))) else .bad
        | _ => .bad)
      | .bl false => lcGo m tg ifs elt σ r h1
      | _ => .bad))
def dcGo (m : Nat) (tg : Tg) (kk vv : M) (σ : Env) : List D → H → R D
  | [], h => .ok (.ref m) h
  | x :: r, h => (match tgSet tg x σ with
    | none => .bad
    | some σ' => (kk σ' h).bind fun k h1 => (vv σ' h1).bind fun v h2 => (match keyOf k, h2.o[m]? with
      | some k, some (.dK acc) => if acc.length < sizeCap && !h2.lk.contains m then dcGo m tg kk vv σ r (h2.put m (.dK (putK k v acc))) else .bad
      | _, _ => .bad))
section
variable (T : Tab) (Φ : Nat → Fn)
/-- C(..) -/
def makeD (c : Nat) (as : List D) (h : H) : R D := match T.init c with
  | none => .bad
  | some j => (Φ j (.ref h.o.length :: as) (h.push (.ins c []))).bind fun v h1 => (match v with
    | .non => .ok (.ref h.o.length) h1
    | _ => .bad)
/-- the def of a method, ahead of its arguments -/
def methD (m : Nat) (o : D) (h : H) : Option Nat := match o with
  | .ref p => (match h.o[p]? with
    | some (.ins c fs) => (match getF m fs with
      | none => T.meth c m
      | some _ => none)
    | _ => none)
  | _ => none
/-- what a built-in's method asks of its receiver, ahead of its arguments -/
def bmOk (b : Bm) (o : D) (h : H) : Bool := match b, o with
  | .index, .tup _ => true
  | .index, _ => false
  | _, .ref p => (match h.o[p]? with | some (.lst _) => true | _ => false)
  | _, _ => false
def lenI (o : D) (h : H) : R D := match o with
  | .ref p => (match h.o[p]? with
    | some (.ins c _) => (match T.len c with
      | some j => (Φ j [.ref p] h).bind fun v h1 => (match v with
        | .int i => if 0 ≤ i ∧ i ≤ 1000000 then .ok (.int i) h1 else .bad
        | _ => .bad)
      | none => .bad)
    | _ => .bad)
  | _ => .bad
mutual
def den : E → M
  | .var i, σ, h => (match σ[i]? with | some (some v) => .ok v h | _ => .bad)
  | .cN, _, h => .ok .non h
  | .cB b, _, h => .ok (.bl b) h
  | .cI i, _, h => .ok (.int i) h
  | .cS s, _, h => .ok (.str s) h
  | .glb k, _, h => (match T.glb k with | some v => .ok v h | none => .bad)
  | .op2 o a b, σ, h => (den a σ h).bind fun x h => (den b σ h).bind fun y h => op2 o x y h
  | .neg a, σ, h => (den a σ h).bind fun x h => negD x h
  | .sub a i, σ, h => (den a σ h).bind fun x h => (den i σ h).bind fun y h => subD x y h
  | .not_ a, σ, h => (den a σ h).bind fun x h => notD x h
  | .and_ a b, σ, h => (den a σ h).bind fun x h => (match x with | .bl true => den b σ h | .bl false => .ok (.bl false) h | _ => .bad)
  | .or_ a b, σ, h => (den a σ h).bind fun x h => (match x with | .bl true => .ok (.bl true) h | .bl false => den b σ h | _ => .bad)
  | .ite c a b, σ, h => (den c σ h).bind fun x h => (match x with | .bl true => den a σ h | .bl false => den b σ h | _ => .bad)
  | .chain o1 o2 a b c, σ, h => (den a σ h).bind fun x h => (den b σ h).bind fun y h => (op2 o1 x y h).bind fun z h => (match z with
    | .bl true => (den c σ h).bind fun w h => op2 o2 y w h
    | .bl false => .ok (.bl false) h
    | _ => .bad)
  | .call j as, σ, h => (denL as σ h).bind fun xs h => Φ j xs h
  | .make c as, σ, h => (denL as σ h).bind fun xs h => makeD T Φ c xs h
  | .meth m o as, σ, h => (den o σ h).bind fun x h => (match methD T m x h with
    | some j => (denL as σ h).bind fun xs h => Φ j (x :: xs) h
    | none => .bad)
  | .lenI o, σ, h => (den o σ h).bind fun x h => lenI T Φ x h
  | .fld o f, σ, h => (den o σ h).bind fun x h => fldD x f h
  | .blt b a, σ, h => (den a σ h).bind fun x h => bltD b x h
  | .bm b o as, σ, h => (den o σ h).bind fun x h => if bmOk b x h then (denL as σ h).bind fun xs h => bmD b x xs h else .bad
  | .isi a t, σ, h => (den a σ h).bind fun x h => retB h (isiD x t h)
  | .slice a lo hi, σ, h => (den a σ h).bind fun x h => (denO lo σ h).bind fun l h => (denO hi σ h).bind fun u h => sliceD x l u h
  | .tup es, σ, h => (denL es σ h).bind fun xs h => newT xs h
  | .lst es, σ, h => (denL es σ h).bind fun xs h => newL xs h
  | .star _, _, _ => .bad
  | .dnewK, _, h => alloc (.dK []) h
  | .dnewT, _, h => alloc (.dT []) h
  | .dict1 k v, σ, h => (den k σ (h.push (.dT []))).bind fun x h1 => (den v σ h1).bind fun y h2 => (match h2.o[h.o.length]? with
    | some (.dT []) => if keyT x && !h2.lk.contains h.o.length then .ok (.ref h.o.length) (h2.put h.o.length (.dT [(x, y)])) else .bad
    | _ => .bad)
  | .lc k tg its ifs elt, σ, h => (denL its σ h).bind fun as h => (match walkD k as h with
    | none => .bad
    | some (l, xs) => (lcGo h.o.length tg (fun σ h => denIfs ifs σ h) (fun σ h => den elt σ h) σ xs ((h.lock l).push (.lst []))).bind fun v h => .ok v (h.unlock l))
  | .dc tg it kk vv, σ, h => (den it σ h).bind fun v h => (match walkD .seq [v] h with
    | none => .bad
    | some (l, xs) => (dcGo h.o.length tg (fun σ h => den kk σ h) (fun σ h => den vv σ h) σ xs ((h.lock l).push (.dK []))).bind fun v h => .ok v (h.unlock l))
  | .tmp a, σ, h => (match den a σ { h with fl := h.o.length } with
    | .ok v _ => if v.pure then .ok v h else .bad
    | .bad => .bad)
def denL : List E → ML
  | [], _, h => .ok [] h
  | .star a :: r, σ, h => (den a σ h).bind fun v h => (match itemsD v h with
    | none => .bad
    | some ys => (denL r σ h).bind fun xs h => .ok (ys ++ xs) h)
  | e :: r, σ, h => (den e σ h).bind fun x h => (denL r σ h).bind fun xs h => .ok (x :: xs) h
def denO : Option E → Env → H → R (Option Int)
  | none, _, h => .ok none h
  | some e, σ, h => (den e σ h).bind fun x h => (match x with | .int i => .ok (some i) h | _ => .bad)
def denIfs : List E → M
  | [], _, h => .ok (.bl true) h
  | e :: r, σ, h => (den e σ h).bind fun x h => (match x with | .bl true => denIfs r σ h | .bl false => .ok (.bl false) h | _ => .bad)
end
/-! ### statements -/
def fldPut (o : D) (f : Nat) (v : D) (σ : Env) (h : H) : Option (Env × H) := match o with
  | .ref p => (match h.o[p]? with
    | some (.ins c fs) => if h.prot p || decide (100 < fs.length) then none else some (σ, h.put p (.ins c (putF f v fs)))
    | _ => none)
  | _ => none
def subPut (o i v : D) (σ : Env) (h : H) : Option (Env × H) := match o with
  | .ref p => if h.prot p then none else (match h.o[p]? with
    | some (.lst xs) => (match i with
      | .int i => (match ixAt xs.length i with | some k => some (σ, h.put p (.lst (xs.set k v))) | none => none)
      | _ => none)
    | some (.dK kvs) => (match keyOf i with | some k => if kvs.length < sizeCap then some (σ, h.put p (.dK (putK k v kvs))) else none | none => none)
    | some (.dT kvs) => if keyT i && decide (kvs.length < sizeCap) then some (σ, h.put p (.dT (putT i v kvs))) else none
    | _ => none)
  | _ => none
mutual
def gset : G → D → Env → H → Option (Env × H)
  | .n i, v, σ, h => some (σ.set i (some v), h)
  | .f o f, v, σ, h => (match den T Φ o σ h with | .ok x h => fldPut x f v σ h | .bad => none)
  | .s o i, v, σ, h => (match den T Φ o σ h with
    | .ok x h => (match den T Φ i σ h with | .ok y h => subPut x y v σ h | .bad => none)
    | .bad => none)
  | .t l, v, σ, h => (match v with | .tup xs => gsets l xs σ h | _ => none)
def gsets : List G → List D → Env → H → Option (Env × H)
  | [], [], σ, h => some (σ, h)
  | g :: r, x :: s, σ, h => (match gset g x σ h with | some (σ, h) => gsets r s σ h | none => none)
  | _, _, _, _ => none
end
abbrev SM := Env → H → Out
def forGo (tg : Tg) (b : SM) : List D → Env → H → Out
  | [], σ, h => .nx σ h
  | x :: r, σ, h => (match tgSet tg x σ with
    | none => .bad
    | some σ => (match b σ h with
      | .nx σ h => forGo tg b r σ h
      | .ct σ h => forGo tg b r σ h
      | .bk σ h => .nx σ h
      | .rt v h => .rt v h
      | .bad => .bad))
def whileGo (c : M) (b : SM) : Nat → Env → H → Out
  | 0, _, _ => .bad
  | n + 1, σ, h => (match c σ h with
    | .ok (.bl true) h => (match b σ h with
      | .nx σ h => whileGo c b n σ h
      | .ct σ h => whileGo c b n σ h
      | .bk σ h => .nx σ h
      | .rt v h => .rt v h
      | .bad => .bad)
    | .ok (.bl false) h => .nx σ h
    | _ => .bad)
def Out.unlock (l : List Nat) : Out → Out
  | .nx σ h => .nx σ (h.unlock l)
  | .rt v h => .rt v (h.unlock l)
  | .bk σ h => .bk σ (h.unlock l)
  | .ct σ h => .ct σ (h.unlock l)
  | .bad => .bad
def whileFuel : Nat := 1000000
mutual
def exec : S → SM
  | .expr e, σ, h => (match den T Φ e σ h with | .ok _ h => .nx σ h | .bad => .bad)
  | .asg g e, σ, h => (match den T Φ e σ h with
    | .ok v h => (match gset T Φ g v σ h with | some (σ, h) => .nx σ h | none => .bad)
    | .bad => .bad)
  | .ret e, σ, h => (match den T Φ e σ h with | .ok v h => .rt v h | .bad => .bad)
  | .ite c a b, σ, h => (match den T Φ c σ h with
    | .ok (.bl true) h => execs a σ h
    | .ok (.bl false) h => execs b σ h
    | _ => .bad)
  | .for_ k tg its b, σ, h => (match denL T Φ its σ h with
    | .ok as h => (match walkD k as h with
      | none => .bad
      | some (l, xs) => (forGo tg (fun σ h => execs b σ h) xs σ (h.lock l)).unlock l)
    | .bad => .bad)
  | .while_ c b, σ, h => whileGo (den T Φ c) (fun σ h => execs b σ h) whileFuel σ h
  | .raise_, _, _ => .bad
  | .pass, σ, h => .nx σ h
def execs : List S → SM
  | [], σ, h => .nx σ h
  | s :: r, σ, h => (match exec s σ h with
    | .nx σ h => execs r σ h
    | o => o)
end
end
/-! ### defs -/
def startE (f : Fd) (as : List D) : Env := as.map some ++ List.replicate (f.ns - as.length) none
def fin : Out → R D
  | .nx _ h => .ok .non h
  | .rt v h => .ok v h
  | _ => .bad
/-! ### what outlives a call -/
def AO.vals : AO → List D
  | .lst xs => xs
  | .fz xs => xs
  | .dK kvs => kvs.map (·.2)
  | .dT kvs => kvs.map (·.2)
  | .ins _ fs => fs.map (·.2)
/-- objects at n or later that are reached, in the order in which they are met -/
def visit (h : H) (n : Nat) : Nat → List D → List Nat → Option (List Nat)
  | _, [], acc => some acc
  | 0, _ :: _, _ => none
  | f + 1, v :: r, acc => if v.pure then visit h n f r acc else (match v with
    | .ref p => if p < n || acc.contains p then visit h n f r acc else (match h.o[p]? with
      | some o => visit h n f (o.vals ++ r) (acc ++ [p])
      | none => none)
    | .tup xs => visit h n f (xs ++ r) acc
    | _ => none)
mutual
def D.ren (n : Nat) (ks : List Nat) : D → D
  | .ref p => if p < n then .ref p else .ref (n + ks.idxOf p)
  | .tup xs => .tup (D.rens n ks xs)
  | d => d
def D.rens (n : Nat) (ks : List Nat) : List D → List D
  | [] => []
  | x :: r => D.ren n ks x :: D.rens n ks r
end
mutual
/-- every reference is to what stays -/
def D.clo (n : Nat) (ks : List Nat) : D → Bool
  | .ref p => decide (p < n) || ks.contains p
  | .tup xs => D.clos n ks xs
  | _ => true
def D.clos (n : Nat) (ks : List Nat) : List D → Bool
  | [] => true
  | x :: r => D.clo n ks x && D.clos n ks r
end
def AO.ren (n : Nat) (ks : List Nat) : AO → AO
  | .lst xs => .lst (D.rens n ks xs)
  | .fz xs => .fz (D.rens n ks xs)
  | .dK kvs => .dK (kvs.map fun p => (p.1, D.ren n ks p.2))
  | .dT kvs => .dT (kvs.map fun p => (p.1, D.ren n ks p.2))
  | .ins c fs => .ins c (fs.map fun p => (p.1, D.ren n ks p.2))
def gets (h : H) : List Nat → Option (List AO)
  | [] => some []
  | k :: r => (match h.o[k]?, gets h r with
    | some o, some l => some (o :: l)
    | _, _ => none)
def gcFuel : Nat := 1000000
/-- the heap of before, and what of the new one is still reached -/
def gcD (h h1 : H) (v : D) : R D := match visit h1 h.o.length gcFuel [v] [] with
  | some ks => (match gets h1 ks with
    | some os => if (v.clo h.o.length ks && os.all fun o => D.clos h.o.length ks o.vals) && (ks.all (fun k => decide (h.o.length ≤ k)) && decide ks.Nodup) then .ok (v.ren h.o.length ks) { h with o := h.o ++ os.map (AO.ren h.o.length ks) } else .bad
    | none => .bad)
  | none => .bad
def runF (T : Tab) (Φ : Nat → Fn) (f : Fd) (as : List D) (h : H) : R D :=
  if as.length = f.np ∧ f.np ≤ f.ns then
    match f.mode with
    | .raw => fin (execs T Φ f.body (startE f as) h)
    | .P => (match fin (execs T Φ f.body (startE f as) { h with fl := h.o.length }) with
      | .ok v _ => if v.pure then .ok v h else .bad
      | .bad => .bad)
    | .L => (match fin (execs T Φ f.body (startE f as) { h with fl := h.o.length }) with
      | .ok (.ref p) h1 => (match h1.o[p]? with
        | some (.lst xs) => if decide (h.o.length ≤ p) && D.pures xs then alloc (.lst xs) h else .bad
        | _ => .bad)
      | _ => .bad)
    | .G => (match fin (execs T Φ f.body (startE f as) { h with fl := h.o.length }) with
      | .ok v h1 => gcD h h1 v
      | .bad => .bad)
  else .bad
/-- the defs by number, calls n deep -/
def Phi (T : Tab) (fd : Nat → Option Fd) : Nat → Nat → Fn
  | 0, _, _, _ => .bad
  | n + 1, j, as, h => (match fd j with
    | some f => runF T (Phi T fd n) f as h
    | none => .bad)
end SC
end
end
section
set_option linter.all false
set_option maxRecDepth 100000
set_option Elab.async false
/-! SC2: how the small heap lies in the hand layer's. -/
noncomputable section
namespace SC
open PySem L2

/-- a tuple whose object is known to have no dict: frozen, or of the module -/
def TpA (K : PySem.W.Frag) (Hh : Hp) (a : Addr) (ys : List V) : Prop :=
  (∃ o, Hh a = some (.frz o (.tup ys)) ∧ o.dict = none) ∨
    ∃ (o : Obj) (its : Array Value) (n : Nat), K.lookup a = some o ∧ o.cls = .type "tuple" ∧ o.dict = none ∧ o.data = .seq its n ∧ its.size ≤ sizeLine ∧ Vals ys its.toList
theorem TpA.sq {K : PySem.W.Frag} {Hh : Hp} {a : Addr} {ys : List V} (h : TpA K Hh a ys) : SqT K Hh a ys := by
  rcases h with ⟨o, h, _⟩ | ⟨o, its, n, h1, h2, _, h3⟩
  · exact .inl (.inr ⟨o, h⟩)
  · exact .inr ⟨o, its, n, h1, h2, h3⟩
/- a key as the library's nested key -/
mutual
def D.nk : D → NestedKey
  | .non => .none
  | .bl b => .num (if b then 1 else 0)
  | .int i => .num i
  | .str s => .text s
  | .tup xs => .tup (D.nks xs)
  | .ref _ => .none
def D.nks : List D → List NestedKey
  | [] => []
  | x :: r => x.nk :: D.nks r
end

/-- what is fixed through a law -/
structure Sx where
  P : Program
  w : World
  K : PySem.W.Frag
  T : Tab
  names : List Str
  cls : Nat → Option Addr

mutual
inductive VR (K : PySem.W.Frag) (μ : List Addr) (Hh : Hp) : D → V → Prop
  | non : VR K μ Hh .non .non
  | bl (b : Bool) : VR K μ Hh (.bl b) (.bl b)
  | int (i : Int) : VR K μ Hh (.int i) (.int i)
  | str (s : Str) : VR K μ Hh (.str s) (.str s)
  | tup {a : Addr} {xs : List D} {ys : List V} : TpA K Hh a ys → VRs K μ Hh xs ys → VR K μ Hh (.tup xs) (.ref a)
  | ref {n : Nat} {a : Addr} : μ[n]? = some a → VR K μ Hh (.ref n) (.ref a)
inductive VRs (K : PySem.W.Frag) (μ : List Addr) (Hh : Hp) : List D → List V → Prop
  | nil : VRs K μ Hh [] []
  | cons {x : D} {y : V} {xs : List D} {ys : List V} : VR K μ Hh x y → VRs K μ Hh xs ys → VRs K μ Hh (x :: xs) (y :: ys)
end

/-- what is frozen stays (so tuples stay) -/
def TK (K : PySem.W.Frag) (Hh Hh' : Hp) : Prop := ∀ a o u, Hh a = some (.frz o u) → Hh' a = some (.frz o u)
theorem TK.tp {K : PySem.W.Frag} {Hh Hh' : Hp} (t : TK K Hh Hh') (a : Addr) (ys : List V) (x : TpA K Hh a ys) : TpA K Hh' a ys := by
  rcases x with ⟨o, x, d⟩ | x
  · exact .inl ⟨o, t a o _ x, d⟩
  · exact .inr x
/-- what came before stays -/
structure Ext (K : PySem.W.Frag) (μ : List Addr) (Hh : Hp) (μ' : List Addr) (Hh' : Hp) : Prop where
  pre : μ <+: μ'
  tup : TK K Hh Hh'
theorem TK.refl {K : PySem.W.Frag} {Hh : Hp} : TK K Hh Hh := fun _ _ _ h => h
theorem TK.trans {K : PySem.W.Frag} {A B C : Hp} (h : TK K A B) (g : TK K B C) : TK K A C := fun a o u x => g a o u (h a o u x)
theorem Ext.refl {K : PySem.W.Frag} {μ : List Addr} {Hh : Hp} : Ext K μ Hh μ Hh := ⟨List.prefix_refl _, TK.refl⟩
theorem Ext.trans {K : PySem.W.Frag} {μ μ' μ'' : List Addr} {A B C : Hp} (h : Ext K μ A μ' B) (g : Ext K μ' B μ'' C) : Ext K μ A μ'' C := ⟨h.pre.trans g.pre, h.tup.trans g.tup⟩

theorem pre_get {α : Type} {l m : List α} {n : Nat} {a : α} (h : l <+: m) (e : l[n]? = some a) : m[n]? = some a := by
  obtain ⟨t, rfl⟩ := h
  rw [List.getElem?_append_left]
  · exact e
  · exact (List.getElem?_eq_some_iff.mp e).1

section
variable {K : PySem.W.Frag} {μ μ' : List Addr} {Hh Hh' : Hp}
mutual
theorem VR.mono (e : Ext K μ Hh μ' Hh') : ∀ (d : D) (x : V), VR K μ Hh d x → VR K μ' Hh' d x
  | _, _, .non => .non
  | _, _, .bl b => .bl b
  | _, _, .int i => .int i
  | _, _, .str s => .str s
  | _, _, .tup h hs => .tup (e.tup.tp _ _ h) (VRs.mono e _ _ hs)
  | _, _, .ref h => .ref (pre_get e.pre h)
theorem VRs.mono (e : Ext K μ Hh μ' Hh') : ∀ (d : List D) (x : List V), VRs K μ Hh d x → VRs K μ' Hh' d x
  | _, _, .nil => .nil
  | _, _, .cons h hs => .cons (VR.mono e _ _ h) (VRs.mono e _ _ hs)
end
/- a value that was there already, seen in a longer map, is seen in the old one -/
mutual
theorem VR.back (e : Ext K μ Hh μ' Hh') : ∀ (d : D) (x₀ x : V), VR K μ Hh d x₀ → VR K μ' Hh' d x → VR K μ Hh' d x
  | _, _, _, .non, .non => .non
  | _, _, _, .bl b, .bl _ => .bl b
  | _, _, _, .int i, .int _ => .int i
  | _, _, _, .str s, .str _ => .str s
  | _, _, _, .tup _ hs, .tup g gs => .tup g (VRs.back e _ _ _ hs gs)
  | _, _, _, .ref h, .ref g => by
    have := pre_get e.pre h
    rw [this] at g
    cases g
    exact .ref h
theorem VRs.back (e : Ext K μ Hh μ' Hh') : ∀ (d : List D) (x₀ x : List V), VRs K μ Hh d x₀ → VRs K μ' Hh' d x → VRs K μ Hh' d x
  | _, _, _, .nil, .nil => .nil
  | _, _, _, .cons h hs, .cons g gs => .cons (VR.back e _ _ _ h g) (VRs.back e _ _ _ hs gs)
end
/- a pure value is seen whatever the map is -/
mutual
theorem VR.pure {μ'' : List Addr} : ∀ (d : D) (x : V), d.pure = true → VR K μ Hh d x → VR K μ'' Hh d x
  | _, _, _, .non => .non
  | _, _, _, .bl b => .bl b
  | _, _, _, .int i => .int i
  | _, _, _, .str s => .str s
  | _, _, p, .tup h hs => .tup h (VRs.pure _ _ (by simpa [D.pure] using p) hs)
  | _, _, p, .ref h => by simp [D.pure] at p
theorem VRs.pure {μ'' : List Addr} : ∀ (d : List D) (x : List V), D.pures d = true → VRs K μ Hh d x → VRs K μ'' Hh d x
  | _, _, _, .nil => .nil
  | _, _, p, .cons h hs => by
    simp [D.pures] at p
    exact .cons (VR.pure _ _ p.1 h) (VRs.pure _ _ p.2 hs)
end
theorem VRs.length : ∀ {d : List D} {x : List V}, VRs K μ Hh d x → d.length = x.length
  | _, _, .nil => rfl
  | _, _, .cons _ hs => by simp [VRs.length hs]
theorem VRs.get : ∀ {d : List D} {x : List V} {i : Nat} {a : D}, VRs K μ Hh d x → d[i]? = some a → ∃ b, x[i]? = some b ∧ VR K μ Hh a b
  | _, _, _, _, .nil, h => by simp at h
  | _, _, 0, _, .cons h _, e => by simp at e; subst e; exact ⟨_, rfl, h⟩
  | _, _, i + 1, _, .cons _ hs, e => by
    simp at e
    obtain ⟨b, h1, h2⟩ := VRs.get hs e
    exact ⟨b, by simpa using h1, h2⟩
theorem VRs.append : ∀ {d e : List D} {x y : List V}, VRs K μ Hh d x → VRs K μ Hh e y → VRs K μ Hh (d ++ e) (x ++ y)
  | _, _, _, _, .nil, h => h
  | _, _, _, _, .cons h hs, g => .cons h (VRs.append hs g)
theorem VRs.take : ∀ {d : List D} {x : List V} (n : Nat), VRs K μ Hh d x → VRs K μ Hh (d.take n) (x.take n)
  | _, _, 0, _ => by simp; exact .nil
  | _, _, _ + 1, .nil => .nil
  | _, _, n + 1, .cons h hs => .cons h (VRs.take n hs)
theorem VRs.drop : ∀ {d : List D} {x : List V} (n : Nat), VRs K μ Hh d x → VRs K μ Hh (d.drop n) (x.drop n)
  | _, _, 0, h => h
  | _, _, _ + 1, .nil => .nil
  | _, _, n + 1, .cons h hs => VRs.drop n hs
theorem VRs.set {v : D} {u : V} (r : VR K μ Hh v u) : ∀ {d : List D} {x : List V} (n : Nat), VRs K μ Hh d x → VRs K μ Hh (d.set n v) (x.set n u)
  | _, _, _, .nil => .nil
  | _, _, 0, .cons _ hs => .cons r hs
  | _, _, n + 1, .cons h hs => .cons h (VRs.set r n hs)
end

/-! ### objects -/
/-- at a stands u; locked or not -/
def At (Hh : Hp) (a : Addr) (lk : Bool) (u : HO) : Prop := if lk then ∃ o, Hh a = some (.frz o u) else Hh a = some u
/-- a dict by its entries, whatever else stands -/
def rawD (P : Program) (w : World) (a : Addr) (xs : List (NestedKey × Addr × Value)) : Heap → Prop := fun h =>
  ∃ o es ep, h.get? a = some o ∧ o.ExactDict ∧ o.data = .dict es ep ∧ es.toList = xs.map (entryOfKey (nestedKind P w))
inductive KR (K : PySem.W.Frag) (μ : List Addr) (Hh : Hp) : List (L2.Key × D) → List (L2.Key × V) → Prop
  | nil : KR K μ Hh [] []
  | cons {k : L2.Key} {d : D} {v : V} {r : List (L2.Key × D)} {s : List (L2.Key × V)} : VR K μ Hh d v → KR K μ Hh r s → KR K μ Hh ((k, d) :: r) ((k, v) :: s)
inductive TR (K : PySem.W.Frag) (μ : List Addr) (Hh : Hp) : List (D × D) → List (NestedKey × Addr × Value) → Prop
  | nil : TR K μ Hh [] []
  | cons {k d : D} {b : Addr} {v : V} {u : Value} {r : List (D × D)} {s : List (NestedKey × Addr × Value)} : keyT k = true → VR K μ Hh k (.ref b) → VR K μ Hh d v → RelV v u → TR K μ Hh r s → TR K μ Hh ((k, d) :: r) ((k.nk, b, u) :: s)
inductive FR (names : List Str) (K : PySem.W.Frag) (μ : List Addr) (Hh : Hp) : List (Nat × D) → List (Str × V) → Prop
  | nil : FR names K μ Hh [] []
  | cons {f : Nat} {x : Str} {d : D} {v : V} {r : List (Nat × D)} {s : List (Str × V)} : names[f]? = some x → VR K μ Hh d v → FR names K μ Hh r s → FR names K μ Hh ((f, d) :: r) ((x, v) :: s)
def OR (X : Sx) (μ : List Addr) (Hh : Hp) (a : Addr) (lk : Bool) : AO → Prop
  | .lst xs => ∃ ys, Hh a = some (.lst ys) ∧ VRs X.K μ Hh xs ys
  | .fz xs => ∃ o ys, Hh a = some (.frz o (.lst ys)) ∧ VRs X.K μ Hh xs ys
  | .dK kvs => ∃ ws, At Hh a lk (.dK ws) ∧ KR X.K μ Hh kvs ws ∧ (kvs.map (·.1)).Nodup
  | .dT kvs => ∃ xs, At Hh a lk (.ext (rawD X.P X.w a xs)) ∧ (a == sysModules) = false ∧ kvs.length ≤ sizeLine ∧ TR X.K μ Hh kvs xs ∧ (xs.map (·.1)).Nodup
  | .ins c fs => ∃ C dx gs, X.cls c = some C ∧ Hh a = some (.ins C dx gs) ∧ FR X.names X.K μ Hh fs gs
/-- the small heap lies in the layer's -/
structure RH (X : Sx) (μ : List Addr) (h : H) (Hh : Hp) : Prop where
  len : μ.length = h.o.length
  nd : μ.Nodup
  obj : ∀ n o a, h.o[n]? = some o → μ[n]? = some a → OR X μ Hh a (h.lk.contains n) o
  lko : ∀ n ∈ h.lk, n < h.o.length
/-- slots -/
structure RS (X : Sx) (μ : List Addr) (h : H) (ρ : Env) (σ : St) (Hh : Hp) : Prop where
  rh : RH X μ h Hh
  sl : ∀ (i : Nat) d, ρ[i]? = some (some d) → ∃ v, σ[i]? = some (some v) ∧ VR X.K μ Hh d v
  ln : ρ.length = σ.length
section
variable {X : Sx} {μ μ' : List Addr} {Hh Hh' : Hp} {h h' : H}
theorem KR.mono (e : Ext X.K μ Hh μ' Hh') : ∀ {r s}, KR X.K μ Hh r s → KR X.K μ' Hh' r s
  | _, _, .nil => .nil
  | _, _, .cons h t => .cons (VR.mono e _ _ h) (KR.mono e t)
theorem TR.mono (e : Ext X.K μ Hh μ' Hh') : ∀ {r s}, TR X.K μ Hh r s → TR X.K μ' Hh' r s
  | _, _, .nil => .nil
  | _, _, .cons p h g q t => .cons p (VR.mono e _ _ h) (VR.mono e _ _ g) q (TR.mono e t)
theorem FR.mono (e : Ext X.K μ Hh μ' Hh') : ∀ {r s}, FR X.names X.K μ Hh r s → FR X.names X.K μ' Hh' r s
  | _, _, .nil => .nil
  | _, _, .cons p h t => .cons p (VR.mono e _ _ h) (FR.mono e t)
theorem RH.same (r : RH X μ h Hh) (ho : h'.o = h.o) (hl : h'.lk = h.lk) : RH X μ h' Hh := ⟨by rw [ho]; exact r.len, r.nd, fun n o a e e' => by rw [hl]; rw [ho] at e; exact r.obj n o a e e', fun n hn => by rw [ho]; rw [hl] at hn; exact r.lko n hn⟩
theorem RS.mono {ρ : Env} {σ : St} (r : RS X μ h ρ σ Hh) (e : Ext X.K μ Hh μ' Hh') (q : RH X μ' h' Hh') : RS X μ' h' ρ σ Hh' :=
  ⟨q, fun i d hd => let ⟨v, h1, h2⟩ := r.sl i d hd; ⟨v, h1, VR.mono e _ _ h2⟩, r.ln⟩
/-- an object of which nothing is told but tuples: OR stays where the object's own place stays -/
theorem OR.mono {a : Addr} {lk : Bool} {o : AO} (x : OR X μ Hh a lk o) (e : Ext X.K μ Hh μ' Hh') (ha : Hh' a = Hh a) : OR X μ' Hh' a lk o := by
  cases o with
  | lst xs => obtain ⟨ys, h1, h2⟩ := x; exact ⟨ys, by rw [ha]; exact h1, VRs.mono e _ _ h2⟩
  | fz xs => obtain ⟨o, ys, h1, h2⟩ := x; exact ⟨o, ys, by rw [ha]; exact h1, VRs.mono e _ _ h2⟩
  | dK kvs => obtain ⟨ws, h1, h2, h3⟩ := x; exact ⟨ws, by unfold At; rw [ha]; exact h1, KR.mono e h2, h3⟩
  | dT kvs => obtain ⟨xs, h1, h2, h3, h4, h5⟩ := x; exact ⟨xs, by unfold At; rw [ha]; exact h1, h2, h3, TR.mono e h4, h5⟩
  | ins c fs => obtain ⟨C, dx, gs, h1, h2, h3⟩ := x; exact ⟨C, dx, gs, h1, by rw [ha]; exact h2, FR.mono e h3⟩
/-- something stands there -/
theorem OR.there {a : Addr} {lk : Bool} {o : AO} (x : OR X μ Hh a lk o) : Hh a ≠ none := by
  cases o with
  | lst xs => obtain ⟨ys, h1, h2⟩ := x; rw [h1]; simp
  | fz xs => obtain ⟨o, ys, h1, h2⟩ := x; rw [h1]; simp
  | dK kvs =>
    obtain ⟨ws, h1, h2, h3⟩ := x
    unfold At at h1
    split at h1
    · obtain ⟨o, h1⟩ := h1; rw [h1]; simp
    · rw [h1]; simp
  | dT kvs =>
    obtain ⟨xs, h1, _⟩ := x
    unfold At at h1
    split at h1
    · obtain ⟨o, h1⟩ := h1; rw [h1]; simp
    · rw [h1]; simp
  | ins c fs => obtain ⟨C, dx, gs, h1, h2, h3⟩ := x; rw [h2]; simp
/-- what may be written is not frozen -/
theorem OR.open {a : Addr} {o : AO} (x : OR X μ Hh a false o) (hz : ∀ xs, o ≠ .fz xs) : ∀ ob u, Hh a ≠ some (.frz ob u) := by
  intro ob u
  cases o with
  | lst xs => obtain ⟨ys, h1, h2⟩ := x; rw [h1]; simp
  | fz xs => exact absurd rfl (hz xs)
  | dK kvs =>
    obtain ⟨ws, h1, h2, h3⟩ := x
    have h1 : Hh a = _ := h1
    rw [h1]; simp
  | dT kvs =>
    obtain ⟨xs, h1, _⟩ := x
    have h1 : Hh a = _ := h1
    rw [h1]; simp
  | ins c fs => obtain ⟨C, dx, gs, h1, h2, h3⟩ := x; rw [h2]; simp
/-- a new tracked thing -/
theorem TK.new {K : PySem.W.Frag} {p : Addr} {u : HO} (hp : Hh p = none) : TK K Hh (upd Hh p u) := fun a o z x => by
  rw [upd_ne (ne_of_none x hp)]; exact x
/-- a thing that is not frozen is changed -/
theorem TK.upd {K : PySem.W.Frag} {p : Addr} {u : HO} (h2 : ∀ ob z, Hh p ≠ some (.frz ob z)) : TK K Hh (upd Hh p u) := fun a o z x => by
  rw [upd_ne (a := p) (b := a) (fun e => by subst e; exact h2 o z x)]; exact x
/-- untracked (by the small heap) things may come -/
theorem RH.new (r : RH X μ h Hh) {p : Addr} {u : HO} (hp : Hh p = none) : RH X μ h (upd Hh p u) := ⟨r.len, r.nd, fun n o a e e' => by
  have q := r.obj n o a e e'
  refine q.mono ⟨List.prefix_refl _, TK.new hp⟩ (upd_ne fun z => ?_)
  subst z
  exact q.there hp, r.lko⟩
theorem Ext.new {p : Addr} {u : HO} (hp : Hh p = none) : Ext X.K μ Hh μ (upd Hh p u) := ⟨List.prefix_refl _, TK.new hp⟩
/-- a new object of the small heap -/
theorem RH.push (r : RH X μ h Hh) {p : Addr} {u : HO} {o : AO} (hp : Hh p = none) 
    (new : OR X (μ ++ [p]) (upd Hh p u) p false o) : RH X (μ ++ [p]) (h.push o) (upd Hh p u) := by
  have hpm : p ∉ μ := fun hm => by
    obtain ⟨n, hn, e⟩ := List.getElem_of_mem hm
    have e1 : μ[n]? = some p := by rw [List.getElem?_eq_getElem hn, e]
    have hn2 : n < h.o.length := by rw [← r.len]; exact hn
    have q := r.obj n _ p (List.getElem?_eq_getElem hn2) e1
    exact q.there hp
  have ext : Ext X.K μ Hh (μ ++ [p]) (upd Hh p u) := ⟨List.prefix_append _ _, TK.new hp⟩
  have hn : h.lk.contains h.o.length = false := by
    cases z : h.lk.contains h.o.length with
    | false => rfl
    | true => exact absurd (r.lko _ (by simpa using z)) (Nat.lt_irrefl _)
  refine ⟨by simp [H.push, r.len], ?_, fun n o' a e e' => ?_, fun n hn => by have := r.lko n hn; simp [H.push]; omega⟩
  · rw [List.nodup_append]
    refine ⟨r.nd, by simp, fun x hx y hy => ?_⟩
    simp at hy
    subst hy
    exact fun z => hpm (z ▸ hx)
  · by_cases hlt : n < h.o.length
    · have e1 : h.o[n]? = some o' := by
        have : (h.o ++ [o])[n]? = some o' := e
        rwa [List.getElem?_append_left hlt] at this
      have e2 : μ[n]? = some a := by rwa [List.getElem?_append_left (by rw [r.len]; exact hlt)] at e'
      have q := r.obj n o' a e1 e2
      exact q.mono ext (upd_ne fun z => q.there (z ▸ hp))
    · have hlt2 : n < (h.o ++ [o]).length := (List.getElem?_eq_some_iff.mp e).1
      have en : n = h.o.length := by simp at hlt2; omega
      subst en
      have e1 : o' = o := by
        have : (h.o ++ [o])[h.o.length]? = some o' := e
        simp at this
        exact this.symm
      have e2 : a = p := by
        rw [← r.len] at e'
        simp at e'
        exact e'.symm
      subst e1 e2
      have hl : (h.push o').lk.contains h.o.length = false := hn
      rw [hl]
      exact new
end
end SC
end
end
section
set_option linter.all false
set_option maxRecDepth 100000
set_option Elab.async false
/-! SC3: readings of the IR; expressions. -/
noncomputable section
namespace SC
open PySem L2

/-- a law's tables -/
structure Lw where
  T : Tab
  fd : Nat → Option Fd
  names : List Str
  cls : Nat → Option Addr
abbrev Lw.Φ (Y : Lw) (n : Nat) : Nat → Fn := Phi Y.T Y.fd n
abbrev Lw.sx (Y : Lw) (X : Cx) : Sx := ⟨X.prog, X.w, X.K, Y.T, Y.names, Y.cls⟩
def Good {α : Type} (r : R α) (f : α → H → Prop) : Prop := match r with
  | .ok a h => f a h
  | .bad => False
theorem Good.bind {α β : Type} {r : R α} {f : α → H → R β} {k : β → H → Prop} (g : Good (r.bind f) k) : ∃ a h, r = .ok a h ∧ Good (f a h) k := by
  cases r with
  | ok a h => exact ⟨a, h, rfl, g⟩
  | bad => exact g.elim
theorem Good.ok {α : Type} {r : R α} {k : α → H → Prop} (g : Good r k) : ∃ a h, r = .ok a h ∧ k a h := by
  cases r with
  | ok a h => exact ⟨a, h, rfl, g⟩
  | bad => exact g.elim

section
variable (Y : Lw) (X : Cx) (n : Nat)
/-- what is wanted of a value -/
abbrev Want (μ : List Addr) (Hh : Hp) (Q : VK) : D → H → Prop := fun v h' => ∀ μ' H' x, Ext X.K μ Hh μ' H' → RH (Y.sx X) μ' h' H' → VR X.K μ' H' v x → Q x H'
abbrev WantL (μ : List Addr) (Hh : Hp) (Q : List V → Hp → Prop) : List D → H → Prop := fun v h' => ∀ μ' H' x, Ext X.K μ Hh μ' H' → RH (Y.sx X) μ' h' H' → VRs X.K μ' H' v x → Q x H'
def tD (c : E) : TE := fun σ Hh Q => ∃ μ h ρ, RS (Y.sx X) μ h ρ σ Hh ∧ Good (den Y.T (Y.Φ n) c ρ h) (Want Y X μ Hh Q)
def tL (c : List E) : TA := fun σ Hh Q => ∃ μ h ρ, RS (Y.sx X) μ h ρ σ Hh ∧ Good (denL Y.T (Y.Φ n) c ρ h) (WantL Y X μ Hh Q)
/-- as a test -/
def tT (c : E) : TT := fun σ Hh Q => ∃ μ h ρ, RS (Y.sx X) μ h ρ σ Hh ∧ Good (den Y.T (Y.Φ n) c ρ h) fun v h' => ∃ b, v = .bl b ∧ ∀ μ' H', Ext X.K μ Hh μ' H' → RH (Y.sx X) μ' h' H' → Q b H'
end

section
variable {Y : Lw} {X : Cx} {n : Nat} {e a b c : Expr} {ca cb cc : E} {t t' : TE} {pos : Pos}
theorem PE.imp (h : PE X e t) (i : ∀ σ Hh Q, t' σ Hh Q → t σ Hh Q) : PE X e t' := ⟨fun pins s σ Hh Q I q => h.run pins s σ Hh Q I (i σ Hh Q q)⟩
theorem PT.imp {t t' : TT} (h : PT X e t) (i : ∀ σ Hh Q, t' σ Hh Q → t σ Hh Q) : PT X e t' := ⟨fun pins s σ Hh Q I q => h.run pins s σ Hh Q I (i σ Hh Q q)⟩
theorem PA.imp {es : List Expr} {t t' : TA} (h : PA X es t) (i : ∀ σ Hh Q, t' σ Hh Q → t σ Hh Q) : PA X es t' := ⟨fun pos pins s σ Hh Q I q => h.run pos pins s σ Hh Q I (i σ Hh Q q)⟩
theorem PE.mono (h : PE X e t) {σ : St} {Hh : Hp} {Q Q' : VK} {pins : List (Addr × Obj)} {s : Shared} (I : Inv X pins σ Hh s) (q : t σ Hh Q) : wpAny (model X.prog X.w) X.A (eval e X.env) (EP X pins σ Q) X.xe s := h.run pins s σ Hh Q I q
theorem tD.of {σ : St} {Hh : Hp} {Q : VK} {μ : List Addr} {h h1 : H} {ρ : Env} {v : D} (r : RS (Y.sx X) μ h ρ σ Hh) (e : den Y.T (Y.Φ n) ca ρ h = .ok v h1) (q : Want Y X μ Hh Q v h1) : tD Y X n ca σ Hh Q := ⟨μ, h, ρ, r, by rw [e]; exact q⟩
theorem tL.of {cs : List E} {σ : St} {Hh : Hp} {Q : List V → Hp → Prop} {μ : List Addr} {h h1 : H} {ρ : Env} {v : List D} (r : RS (Y.sx X) μ h ρ σ Hh) (e : denL Y.T (Y.Φ n) cs ρ h = .ok v h1) (q : WantL Y X μ Hh Q v h1) : tL Y X n cs σ Hh Q := ⟨μ, h, ρ, r, by rw [e]; exact q⟩
theorem tT.of {σ : St} {Hh : Hp} {Q : Bool → Hp → Prop} {μ : List Addr} {h h1 : H} {ρ : Env} {b : Bool} (r : RS (Y.sx X) μ h ρ σ Hh) (e : den Y.T (Y.Φ n) ca ρ h = .ok (.bl b) h1)
    (q : ∀ μ' H', Ext X.K μ Hh μ' H' → RH (Y.sx X) μ' h1 H' → Q b H') : tT Y X n ca σ Hh Q := ⟨μ, h, ρ, r, by rw [e]; exact ⟨b, rfl, q⟩⟩

/-! ### names and constants -/
theorem s_var {i : Nat} {x : Str} (hN : X.N[i]? = some x) (hv : Vis X.env.scope x) (hd : (x == ("__debug__" : Str)) = false) (hcd : (x == ("__classdict__" : Str)) = false) : PE X (.Name x pos) (tD Y X n (.var i)) :=
  PE.imp (pe_var hN hv hd hcd) fun σ Hh Q ⟨μ, h, ρ, r, g⟩ => by
    simp only [den] at g
    cases e : ρ[i]? with
    | none => rw [e] at g; exact g.elim
    | some o =>
      cases o with
      | none => rw [e] at g; exact g.elim
      | some d =>
        rw [e] at g
        obtain ⟨v, h1, h2⟩ := r.sl i d e
        exact ⟨v, h1, g μ Hh v Ext.refl r.rh h2⟩
theorem s_cN {j : Nat} : PE X (.Constant .none j pos) (tD Y X n .cN) := PE.imp pe_non fun σ Hh Q ⟨μ, h, ρ, r, g⟩ => by
  simp only [den] at g
  exact g μ Hh .non Ext.refl r.rh .non
theorem s_cB {j : Nat} {b : Bool} : PE X (.Constant (.bool b) j pos) (tD Y X n (.cB b)) := PE.imp pe_bl fun σ Hh Q ⟨μ, h, ρ, r, g⟩ => by
  simp only [den] at g
  exact g μ Hh (.bl b) Ext.refl r.rh (.bl b)
theorem s_cI {j : Nat} {i : Int} : PE X (.Constant (.int i) j pos) (tD Y X n (.cI i)) := PE.imp pe_int fun σ Hh Q ⟨μ, h, ρ, r, g⟩ => by
  simp only [den] at g
  exact g μ Hh (.int i) Ext.refl r.rh (.int i)
theorem s_cS {j : Nat} {i : Str} : PE X (.Constant (.str i) j pos) (tD Y X n (.cS i)) := PE.imp pe_str fun σ Hh Q ⟨μ, h, ρ, r, g⟩ => by
  simp only [den] at g
  exact g μ Hh (.str i) Ext.refl r.rh (.str i)
/-- a constant of the module -/
structure GlbOk (Y : Lw) (X : Cx) (x : Str) (k : Nat) : Prop where
  is : ∃ (v : D) (y : V) (u : Value), Y.T.glb k = some v ∧ X.mg x = some u ∧ RelV y u ∧ ∀ μ Hh, VR X.K μ Hh v y
theorem s_glb {x : Str} {k : Nat} (hg : Gl X x) (ok : GlbOk Y X x k) (hd : (x == ("__debug__" : Str)) = false) : PE X (.Name x pos) (tD Y X n (.glb k)) := by
  obtain ⟨v, y, u, e, hm, ry, hv⟩ := ok.is
  refine PE.imp (pe_glob hg hm ry hd) fun σ Hh Q ⟨μ, h, ρ, r, g⟩ => ?_
  simp only [den, e] at g
  exact g μ Hh y Ext.refl r.rh (hv μ Hh)

/-! ### two operands -/
/-- a rule for a two-place operation as the IR has it -/
def Op2R (Y : Lw) (X : Cx) (f : Value → Value → Sem Value) (o : D → D → H → R D) : Prop :=
  OpR X f fun x y Hh Q => ∃ μ h d1 d2, RH (Y.sx X) μ h Hh ∧ VR X.K μ Hh d1 x ∧ VR X.K μ Hh d2 y ∧ Good (o d1 d2 h) (Want Y X μ Hh Q)
theorem two (da : PE X a (tD Y X n ca)) (db : PE X b (tD Y X n cb)) {o : D → D → H → R D} {c : E} (hc : ∀ ρ h, den Y.T (Y.Φ n) c ρ h = (den Y.T (Y.Φ n) ca ρ h).bind fun x h => (den Y.T (Y.Φ n) cb ρ h).bind fun y h => o x y h) :
    ∀ σ Hh Q, tD Y X n c σ Hh Q → tOp (fun x y Hh Q => ∃ μ h d1 d2, RH (Y.sx X) μ h Hh ∧ VR X.K μ Hh d1 x ∧ VR X.K μ Hh d2 y ∧ Good (o d1 d2 h) (Want Y X μ Hh Q)) (tD Y X n ca) (tD Y X n cb) σ Hh Q := fun σ Hh Q ⟨μ, h, ρ, r, g⟩ => by
  rw [hc] at g
  obtain ⟨v1, h1, e1, g⟩ := g.bind
  obtain ⟨v2, h2, e2, g⟩ := g.bind
  refine tD.of r e1 fun μ1 H1 x x1 r1 w1 => ?_
  refine tD.of (r.mono x1 r1) e2 fun μ2 H2 y x2 r2 w2 => ?_
  refine ⟨μ2, h2, v1, v2, r2, VR.mono x2 _ _ w1, w2, ?_⟩
  obtain ⟨z, h3, e3, g⟩ := g.ok
  rw [e3]
  exact fun μ' H' q x' r' v' => g μ' H' q ((x1.trans x2).trans x') r' v'
theorem s_bin {op : Operator} {o : B2} (ho : Op2R Y X (binaryOp op) (op2 o)) (da : PE X a (tD Y X n ca)) (db : PE X b (tD Y X n cb)) : PE X (.BinOp a op b pos) (tD Y X n (.op2 o ca cb)) :=
  PE.imp (pe_op ho da db) (two da db fun ρ h => by simp only [den])
theorem s_cmp {op : CmpOp} {o : B2} (ho : Op2R Y X (compareOp op) (op2 o)) (da : PE X a (tD Y X n ca)) (db : PE X b (tD Y X n cb)) (hm : behindInMarks op b = false) : PE X (.Compare a [op] [b] pos) (tD Y X n (.op2 o ca cb)) :=
  PE.imp (pe_cmpR ho da db hm) (two da db fun ρ h => by simp only [den])
theorem tT.two (h : ∀ σ Hh Q, tD Y X n cc σ Hh Q → t σ Hh Q) : ∀ σ Hh Q, tT Y X n cc σ Hh Q → tTest t σ Hh Q := fun σ Hh Q ⟨μ, hh, ρ, r, g⟩ => by
  obtain ⟨v, h1, e, b, rfl, q⟩ := g.ok
  refine h σ Hh _ (tD.of r e fun μ' H' x x' r' w => ?_)
  cases w
  exact ⟨b, rfl, q μ' H' x' r'⟩
theorem s_cmpT {op : CmpOp} {o : B2} (ho : Op2R Y X (compareOp op) (op2 o)) (da : PE X a (tD Y X n ca)) (db : PE X b (tD Y X n cb)) (hm : behindInMarks op b = false) : PT X (.Compare a [op] [b] pos) (tT Y X n (.op2 o ca cb)) :=
  PT.imp (pt_cmpR ho da db hm) (tT.two (two da db fun ρ h => by simp only [den]))
/-- an expression that is no test of its own kind -/
theorem s_val (h : PE X e (tD Y X n cc)) (he : ∀ whole, isTrue e X.env whole = (do let v ← whole; standAt e.pos; holding [v] (truthy v))) : PT X e (tT Y X n cc) :=
  PT.imp (pt_val h he) fun σ Hh Q ⟨μ, hh, ρ, r, g⟩ => by
    obtain ⟨v, h1, e, b, rfl, q⟩ := g.ok
    refine tD.of r e fun μ' H' x x' r' w => ?_
    cases w
    exact ⟨b, rfl, q μ' H' x' r'⟩
/-! ### and, or, not, if -/
theorem s_andT {rest : List Expr} (da : PT X a (tT Y X n ca)) (db : PW X (.BoolOp .And (b :: rest) pos) (tT Y X n cb)) : PW X (.BoolOp .And (a :: b :: rest) pos) (tT Y X n (.and_ ca cb)) := by
  have q := pw_and da db
  refine ⟨fun wh pins s σ Hh Q I ⟨μ, h, ρ, r, g⟩ => q.run wh pins s σ Hh Q I ?_⟩
  simp only [den] at g
  obtain ⟨v, h1, e1, g⟩ := g.bind
  cases v with
  | bl k =>
    refine tT.of r e1 fun μ1 H1 x1 r1 => ?_
    cases k with
    | true =>
      refine (if_pos rfl).mpr ?_
      obtain ⟨v2, h2, e2, k2, rfl, g⟩ := g.ok
      exact tT.of (r.mono x1 r1) e2 fun μ2 H2 x2 r2 => g μ2 H2 (x1.trans x2) r2
    | false =>
      obtain ⟨k, e, g⟩ := g
      cases e
      refine (if_neg (by simp)).mpr ?_
      exact g μ1 H1 x1 r1
  | _ => exact g.elim
theorem s_orT {rest : List Expr} (da : PT X a (tT Y X n ca)) (db : PW X (.BoolOp .Or (b :: rest) pos) (tT Y X n cb)) : PW X (.BoolOp .Or (a :: b :: rest) pos) (tT Y X n (.or_ ca cb)) := by
  have q := pw_or da db
  refine ⟨fun wh pins s σ Hh Q I ⟨μ, h, ρ, r, g⟩ => q.run wh pins s σ Hh Q I ?_⟩
  simp only [den] at g
  obtain ⟨v, h1, e1, g⟩ := g.bind
  cases v with
  | bl k =>
    refine tT.of r e1 fun μ1 H1 x1 r1 => ?_
    cases k with
    | false =>
      refine (if_neg (by simp)).mpr ?_
      obtain ⟨v2, h2, e2, k2, rfl, g⟩ := g.ok
      exact tT.of (r.mono x1 r1) e2 fun μ2 H2 x2 r2 => g μ2 H2 (x1.trans x2) r2
    | true =>
      obtain ⟨k, e, g⟩ := g
      cases e
      refine (if_pos rfl).mpr ?_
      exact g μ1 H1 x1 r1
  | _ => exact g.elim
theorem s_notT (da : PT X a (tT Y X n ca)) : PT X (.UnaryOp .Not a pos) (tT Y X n (.not_ ca)) := PT.imp (pt_not da) fun σ Hh Q ⟨μ, h, ρ, r, g⟩ => by
  simp only [den] at g
  obtain ⟨v, h1, e1, g⟩ := g.bind
  cases v with
  | bl k =>
    obtain ⟨k', e, g⟩ := g
    cases e
    exact tT.of (Q := fun c H1 => Q (!c) H1) r e1 fun μ1 H1 x1 r1 => g μ1 H1 x1 r1
  | _ => exact g.elim
theorem s_and {rest : List Expr} (da : PE X a (tD Y X n ca)) (db : PE X (.BoolOp .And (b :: rest) pos) (tD Y X n cb)) : PE X (.BoolOp .And (a :: b :: rest) pos) (tD Y X n (.and_ ca cb)) := PE.imp (pe_and da db) fun σ Hh Q ⟨μ, h, ρ, r, g⟩ => by
  simp only [den] at g
  obtain ⟨v, h1, e1, g⟩ := g.bind
  cases v with
  | bl k =>
    refine tD.of r e1 fun μ1 H1 x x1 r1 w => ?_
    cases w
    refine ⟨k, rfl, ?_⟩
    cases k with
    | true =>
      refine (if_pos rfl).mpr ?_
      obtain ⟨v2, h2, e2, g⟩ := g.ok
      exact tD.of (r.mono x1 r1) e2 fun μ2 H2 y x2 r2 w2 => g μ2 H2 y (x1.trans x2) r2 w2
    | false =>
      refine (if_neg (by simp)).mpr ?_
      exact g μ1 H1 _ x1 r1 (.bl false)
  | _ => exact g.elim
theorem s_or {rest : List Expr} (da : PE X a (tD Y X n ca)) (db : PE X (.BoolOp .Or (b :: rest) pos) (tD Y X n cb)) : PE X (.BoolOp .Or (a :: b :: rest) pos) (tD Y X n (.or_ ca cb)) := PE.imp (pe_or da db) fun σ Hh Q ⟨μ, h, ρ, r, g⟩ => by
  simp only [den] at g
  obtain ⟨v, h1, e1, g⟩ := g.bind
  cases v with
  | bl k =>
    refine tD.of r e1 fun μ1 H1 x x1 r1 w => ?_
    cases w
    refine ⟨k, rfl, ?_⟩
    cases k with
    | false =>
      refine (if_neg (by simp)).mpr ?_
      obtain ⟨v2, h2, e2, g⟩ := g.ok
      exact tD.of (r.mono x1 r1) e2 fun μ2 H2 y x2 r2 w2 => g μ2 H2 y (x1.trans x2) r2 w2
    | true =>
      refine (if_pos rfl).mpr ?_
      exact g μ1 H1 _ x1 r1 (.bl true)
  | _ => exact g.elim
theorem s_not (da : PE X a (tD Y X n ca)) : PE X (.UnaryOp .Not a pos) (tD Y X n (.not_ ca)) := PE.imp (pe_not da) fun σ Hh Q ⟨μ, h, ρ, r, g⟩ => by
  simp only [den] at g
  obtain ⟨v, h1, e1, g⟩ := g.bind
  refine tD.of r e1 fun μ1 H1 x x1 r1 w => ?_
  cases w with
  | bl k => exact ⟨k, rfl, g μ1 H1 _ x1 r1 (.bl _)⟩
  | _ => exact g.elim
theorem s_ite (dc : PT X c (tT Y X n cc)) (da : PE X a (tD Y X n ca)) (db : PE X b (tD Y X n cb)) : PE X (.IfExp c a b pos) (tD Y X n (.ite cc ca cb)) := PE.imp (pe_ifExp dc da db) fun σ Hh Q ⟨μ, h, ρ, r, g⟩ => by
  simp only [den] at g
  obtain ⟨v, h1, e1, g⟩ := g.bind
  cases v with
  | bl k =>
    refine tT.of r e1 fun μ1 H1 x1 r1 => ?_
    cases k with
    | true =>
      refine (if_pos rfl).mpr ?_
      obtain ⟨v2, h2, e2, g⟩ := g.ok
      exact tD.of (r.mono x1 r1) e2 fun μ2 H2 y x2 r2 w2 => g μ2 H2 y (x1.trans x2) r2 w2
    | false =>
      refine (if_neg (by simp)).mpr ?_
      obtain ⟨v2, h2, e2, g⟩ := g.ok
      exact tD.of (r.mono x1 r1) e2 fun μ2 H2 y x2 r2 w2 => g μ2 H2 y (x1.trans x2) r2 w2
  | _ => exact g.elim
theorem s_chain {op op' : CmpOp} {o o' : B2} (ho : Op2R Y X (compareOp op) (op2 o)) (ho' : Op2R Y X (compareOp op') (op2 o')) (da : PE X a (tD Y X n ca)) (db : PE X b (tD Y X n cb)) (dc : PE X c (tD Y X n cc))
    (hm : lastMarks [op, op'] [b, c] = false) : PE X (.Compare a [op, op'] [b, c] pos) (tD Y X n (.chain o o' ca cb cc)) ∧ PT X (.Compare a [op, op'] [b, c] pos) (tT Y X n (.chain o o' ca cb cc)) := by
  have key : ∀ σ Hh Q, tD Y X n (.chain o o' ca cb cc) σ Hh Q → tChain (fun x y Hh Q => ∃ μ h d1 d2, RH (Y.sx X) μ h Hh ∧ VR X.K μ Hh d1 x ∧ VR X.K μ Hh d2 y ∧ Good (op2 o d1 d2 h) (Want Y X μ Hh Q))
      (fun x y Hh Q => ∃ μ h d1 d2, RH (Y.sx X) μ h Hh ∧ VR X.K μ Hh d1 x ∧ VR X.K μ Hh d2 y ∧ Good (op2 o' d1 d2 h) (Want Y X μ Hh Q)) (tD Y X n ca) (tD Y X n cb) (tD Y X n cc) σ Hh Q := fun σ Hh Q ⟨μ, h, ρ, r, g⟩ => by
    simp only [den] at g
    obtain ⟨v1, h1, e1, g⟩ := g.bind
    obtain ⟨v2, h2, e2, g⟩ := g.bind
    obtain ⟨v3, h3, e3, g⟩ := g.bind
    refine tD.of r e1 fun μ1 H1 x x1 r1 w1 => ?_
    refine tD.of (r.mono x1 r1) e2 fun μ2 H2 y x2 r2 w2 => ?_
    refine ⟨μ2, h2, v1, v2, r2, VR.mono x2 _ _ w1, w2, ?_⟩
    rw [e3]
    intro μ3 H3 z x3 r3 w3
    cases w3 with
    | bl k =>
      refine ⟨k, rfl, ?_⟩
      cases k with
      | true =>
        refine (if_pos rfl).mpr ?_
        obtain ⟨v4, h4, e4, g⟩ := g.bind
        refine tD.of (((r.mono x1 r1).mono x2 r2).mono x3 r3) e4 fun μ4 H4 q x4 r4 w4 => ?_
        refine ⟨μ4, h4, v2, v4, r4, VR.mono (x3.trans x4) _ _ w2, w4, ?_⟩
        obtain ⟨v5, h5, e5, g⟩ := g.ok
        rw [e5]
        exact fun μ' H' q x' r' v' => g μ' H' q ((((x1.trans x2).trans x3).trans x4).trans x') r' v'
      | false =>
        refine (if_neg (by simp)).mpr ?_
        exact g μ3 H3 _ ((x1.trans x2).trans x3) r3 (.bl false)
    | _ => exact g.elim
  exact ⟨PE.imp (pe_chain ho ho' da db dc hm) key, PT.imp (pt_chain ho ho' da db dc hm) (tT.two key)⟩
/-! ### what leaves nothing behind -/
theorem s_one {op : BoolOp} (h : PE X a t) : PE X (.BoolOp op [a] pos) t := pe_one h
theorem s_one_and {t : TT} (h : PT X a t) : PW X (.BoolOp .And [a] pos) t := pw_and1 h
theorem s_one_or {t : TT} (h : PT X a t) : PW X (.BoolOp .Or [a] pos) t := pw_or1 h
end
end SC
end
end
section
set_option linter.all false
set_option maxRecDepth 100000
set_option Elab.async false
/-! SC4: operators. -/
noncomputable section
namespace SC
open PySem L2
section
variable {Y : Lw} {X : Cx} {n : Nat}
theorem Good.retB {h : H} {o : Option Bool} {k : D → H → Prop} (g : Good (retB h o) k) : ∃ b, o = some b ∧ k (.bl b) h := by
  cases o with
  | none => exact g.elim
  | some b => exact ⟨b, rfl, g⟩
/-- a new tuple, told to the layer -/
theorem Want.tup {μ : List Addr} {Hh : Hp} {Q : VK} {h : H} {xs : List D} {ys : List V} (r : RH (Y.sx X) μ h Hh) (w : VRs X.K μ Hh xs ys) (g : Want Y X μ Hh Q (.tup xs) h) : ∀ p o, Hh p = none → o.dict = none → Q (.ref p) (upd Hh p (.frz o (.tup ys))) := fun p o hp hd =>
  g μ _ _ (Ext.new (X := Y.sx X) hp) (r.new hp) (.tup (.inl ⟨o, upd_same, hd⟩) (VRs.mono (Ext.new (X := Y.sx X) hp) _ _ w))
/-! ### the layer's rules for tuples, the new object told -/
abbrev tupO (us : List Value) : Obj := { cls := .type "tuple", data := .seq us.toArray }
theorem laidT {pins : List (Addr × Obj)} {σ : L2.St} {Hh : Hp} {s : Shared} (I : Inv X pins σ Hh s) {xs : List V} {us : List Value} (r : Vals xs us) (hz : xs.length ≤ sizeLine) :
    Inv X pins σ (upd Hh s.heap.objs.size (.frz (tupO us) (.tup xs))) { s with heap := s.heap.push (tupO us), toks := s.toks } :=
  I.laid (t' := s.toks) (fun b u e => Heap.get?_push_of_some _ e) (Nat.le_refl _) ⟨Heap.get?_push_size _ rfl, hz, us, r, ⟨_, Heap.get?_push_size _ rfl, rfl, _, rfl⟩⟩
def tTupF (t : TA) : TE := fun σ H Q => t σ H fun xs H1 => xs.length ≤ sizeLine ∧ ∀ p (o : Obj), H1 p = none → o.dict = none → Q (.ref p) (upd H1 p (.frz o (.tup xs)))
theorem pe_tupF {es : List Expr} {t : TA} {x1} {pos : Pos} (h : PA X es t) : PE X (.Tuple es x1 pos) (tTupF t) := by
  refine ⟨fun pins s σ H Q I hq => ?_⟩
  refine wpAny_Tuple_spliced (thn (h.run pos pins s σ H _ I hq) fun us s1 ⟨xs, H1, I1, r, z, q⟩ => ⟨by rw [← r.length]; exact z, ?_⟩)
  have hf : H1 s1.heap.objs.size = none := I1.hok.fresh (Nat.le_refl _)
  exact ⟨.ref s1.heap.objs.size, _, laidT I1 r z, rfl, q _ _ hf rfl⟩
def rCatF (K : PySem.W.Frag) : R2 := fun x y H Q => ∃ a b xs ys, x = .ref a ∧ y = .ref b ∧ SqT K H a xs ∧ SqT K H b ys ∧ xs.length + ys.length ≤ sizeLine ∧
  (xs = [] → Q (.ref b) H) ∧ (xs ≠ [] → ys = [] → Q (.ref a) H) ∧ (xs ≠ [] → ys ≠ [] → ∀ p (o : Obj), H p = none → o.dict = none → Q (.ref p) (upd H p (.frz o (.tup (xs ++ ys)))))
theorem op_catF : OpR X (binaryOp .Add) (rCatF X.K) := by
  intro pins s σ H x y v u Q I rx ry h
  obtain ⟨a, b, xs, ys, rfl, rfl, ha, hb, hz, q0, q1, q2⟩ := h
  by_cases hx : xs = []
  · subst hx
    exact op_catA pins s σ H _ _ v u Q I rx ry ⟨a, b, [], ys, rfl, rfl, ha, hb, hz, q0, fun z => absurd rfl z, fun z => absurd rfl z⟩
  · cases rx
    cases ry
    obtain ⟨its, r1, p1, _⟩ := I.tuple ha
    obtain ⟨its2, r2, p2, _⟩ := I.tuple hb
    refine HT.cat_tup p1 p2 (fun z => hx (r1.nil_iff.mp z)) (fun z => ⟨.ref a, H, I, rfl, q1 hx (r2.nil_iff.mp z)⟩) (fun z => ?_) (by rw [← r1.length, ← r2.length]; exact hz)
    exact ⟨.ref s.heap.objs.size, _, laidT I (r1.append r2) (by rw [List.length_append]; exact hz), rfl, q2 hx (fun w => z (r2.nil_iff.mpr w)) _ _ (I.hok.fresh (Nat.le_refl _)) rfl⟩
def rSlF (K : PySem.W.Frag) : V → Option Int → Option Int → Hp → VK → Prop := fun x lo hi H Q => ∃ a xs, x = .ref a ∧ SqT K H a xs ∧
  (HT.sIx xs.length 0 lo = 0 ∧ HT.sIx xs.length xs.length hi = xs.length → Q (.ref a) H) ∧ (¬ (HT.sIx xs.length 0 lo = 0 ∧ HT.sIx xs.length xs.length hi = xs.length) → ∀ p (o : Obj), H p = none → o.dict = none → Q (.ref p) (upd H p (.frz o (.tup (cutV xs lo hi)))))
theorem sl_tupF : SlR X (rSlF X.K) := by
  intro pins s σ H x v vl vu lo hi sl Q I rx hs pl pu h
  obtain ⟨a, xs, rfl, hx, q1, q2⟩ := h
  by_cases hw : HT.sIx xs.length 0 lo = 0 ∧ HT.sIx xs.length xs.length hi = xs.length
  · exact sl_tupA pins s σ H _ v vl vu lo hi sl Q I rx hs pl pu ⟨a, xs, rfl, hx, q1, fun z => absurd hw z⟩
  · cases rx
    obtain ⟨its, r, ht, hz⟩ := I.tuple hx
    have hlen : its.toArray.size = xs.length := by rw [List.size_toArray]; exact r.length.symm
    refine ⟨"tuple", _, PyProof.Rows.slot_tuple_getitem.lookup, ht.typeIs, ?_⟩
    refine HT.getItem_tuple_cut ht hs pl pu (by rw [hlen]; exact hw) ?_ (by rw [hlen]; exact hz)
    rw [hlen]
    exact ⟨.ref s.heap.objs.size, _, laidT I ((r.drop (HT.sIx xs.length 0 lo)).take (HT.sIx xs.length xs.length hi - HT.sIx xs.length 0 lo)) (Nat.le_trans (cutV_length xs lo hi) hz), rfl, q2 hw _ _ (I.hok.fresh (Nat.le_refl _)) rfl⟩
theorem call_tupleF : CallR X (.type "tuple") (fun xs H Q => ∃ p ys, xs = [.ref p] ∧ ((SqL X.K H p ys ∧ ∀ l (o : Obj), H l = none → o.dict = none → Q (.ref l) (upd H l (.frz o (.tup ys)))) ∨ (SqT X.K H p ys ∧ Q (.ref p) H))) := by
  intro pins s σ H xs us Q I r h
  obtain ⟨p, ys, rfl, h⟩ := h
  rcases h with ⟨hq, q⟩ | ⟨hq, q⟩
  · obtain ⟨u, rfl, rx⟩ := vals1 r
    cases rx
    obtain ⟨its, r', pl, hz⟩ := I.list hq
    have hlen := r'.length
    refine call_tuple_list pl.isList (fun h' kp => ?_) (by simp only [List.size_toArray] <;> omega)
    have I1 : Inv X pins σ H { s with heap := h' } := I.kept (t' := s.toks) kp
    exact ⟨.ref h'.objs.size, _, laidT I1 r' hz, rfl, q _ _ (I1.hok.fresh (Nat.le_refl _)) rfl⟩
  · exact call_tuple_of pins s σ H _ us Q I r ⟨p, ys, rfl, .inr ⟨hq, q⟩⟩
/-- a new list -/
theorem Want.lst {μ : List Addr} {Hh : Hp} {Q : VK} {h : H} {xs : List D} {ys : List V} (r : RH (Y.sx X) μ h Hh) (w : VRs X.K μ Hh xs ys) (g : Want Y X μ Hh Q (.ref h.o.length) (h.push (.lst xs))) : ∀ p, Hh p = none → Q (.ref p) (upd Hh p (.lst ys)) := fun p hp => by
  have ext : Ext X.K μ Hh (μ ++ [p]) (upd Hh p (.lst ys)) := ⟨List.prefix_append _ _, TK.new hp⟩
  refine g _ _ _ ext (r.push hp ⟨ys, upd_same, VRs.mono ext _ _ w⟩) (.ref ?_)
  rw [← r.len]
  simp
theorem sc_line : sizeCap = sizeLine := by rw [sizeLine_eq]; rfl
/-- a list of the small heap, read -/
theorem RH.list {μ : List Addr} {h : H} {Hh : Hp} {p : Nat} {a : Addr} {xs : List D} (r : RH (Y.sx X) μ h Hh) (e : h.o[p]? = some (.lst xs)) (ea : μ[p]? = some a) : ∃ ys, Hh a = some (.lst ys) ∧ VRs X.K μ Hh xs ys := r.obj p _ a e ea
theorem RH.fz {μ : List Addr} {h : H} {Hh : Hp} {p : Nat} {a : Addr} {xs : List D} (r : RH (Y.sx X) μ h Hh) (e : h.o[p]? = some (.fz xs)) (ea : μ[p]? = some a) : ∃ ys, SqL X.K Hh a ys ∧ VRs X.K μ Hh xs ys := by
  obtain ⟨o, ys, h1, h2⟩ := r.obj p _ a e ea
  exact ⟨ys, .inl (.inr ⟨o, h1⟩), h2⟩
theorem RH.seq {μ : List Addr} {h : H} {Hh : Hp} {p : Nat} {a : Addr} {xs : List D} (r : RH (Y.sx X) μ h Hh) (e : h.o[p]? = some (.lst xs) ∨ h.o[p]? = some (.fz xs)) (ea : μ[p]? = some a) : ∃ ys, SqL X.K Hh a ys ∧ VRs X.K μ Hh xs ys := by
  rcases e with e | e
  · obtain ⟨ys, h1, h2⟩ := r.list e ea; exact ⟨ys, SqL.of h1, h2⟩
  · exact r.fz e ea

/-- rules of the layer, two by two -/
theorem o_add : Op2R Y X (binaryOp .Add) (op2 .add) := by
  intro pins s σ Hh x y v u Q I rx ry ⟨μ, h, d1, d2, r, w1, w2, g⟩
  cases w1 with
  | int i =>
    cases w2 with
    | int j => exact op_add pins s σ Hh _ _ v u Q I rx ry ⟨i, j, rfl, rfl, g μ Hh _ Ext.refl r (.int _)⟩
    | _ => exact g.elim
  | @tup a xs ys q1 v1 =>
    cases w2 with
    | @tup b xs' ys' q2 v2 =>
      simp only [op2, newT] at g
      split at g
      · rename_i hl
        have l1 := v1.length
        have l2 := v2.length
        rw [sc_line] at hl
        refine op_catF pins s σ Hh _ _ v u Q I rx ry ⟨a, b, ys, ys', rfl, rfl, q1.sq, q2.sq, by rw [List.length_append] at hl; omega, fun e => ?_, fun _ e => ?_, fun _ _ p o hp hd => ?_⟩
        · subst e
          cases v1
          exact g μ Hh _ Ext.refl r (.tup q2 v2)
        · subst e
          cases v2
          rw [List.append_nil] at g
          exact g μ Hh _ Ext.refl r (.tup q1 v1)
        · exact Want.tup r (v1.append v2) g p o hp hd
      · exact g.elim
    | _ => exact g.elim
  | @ref p a ea =>
    cases w2 with
    | @ref q b eb =>
      simp only [op2] at g
      split at g
      · rename_i xs zs e1 e2
        simp only [newL] at g
        split at g
        · rename_i hl
          obtain ⟨ys, h1, v1⟩ := r.list e1 ea
          obtain ⟨ys', h2, v2⟩ := r.list e2 eb
          have l1 := v1.length
          have l2 := v2.length
          rw [sc_line] at hl
          exact op_cat pins s σ Hh _ _ v u Q I rx ry ⟨a, b, ys, ys', rfl, rfl, h1, h2, by rw [List.length_append] at hl; omega, Want.lst r (v1.append v2) g⟩
        · exact g.elim
      · exact g.elim
    | _ => exact g.elim
  | _ => exact g.elim
theorem o_sub : Op2R Y X (binaryOp .Sub) (op2 .sub) := by
  intro pins s σ Hh x y v u Q I rx ry ⟨μ, h, d1, d2, r, w1, w2, g⟩
  cases w1 with
  | int i =>
    cases w2 with
    | int j => exact op_sub pins s σ Hh _ _ v u Q I rx ry ⟨i, j, rfl, rfl, g μ Hh _ Ext.refl r (.int _)⟩
    | _ => exact g.elim
  | _ => exact g.elim
theorem o_mul : Op2R Y X (binaryOp .Mult) (op2 .mul) := by
  intro pins s σ Hh x y v u Q I rx ry ⟨μ, h, d1, d2, r, w1, w2, g⟩
  cases w1 with
  | int i =>
    cases w2 with
    | int j =>
      simp only [op2] at g
      split at g
      · rename_i hs
        refine op_mul pins s σ Hh _ _ v u Q I rx ry ⟨i, j, rfl, rfl, ?_, g μ Hh _ Ext.refl r (.int _)⟩
        simp only [Bool.or_eq_true, smallI, Bool.and_eq_true, decide_eq_true_eq] at hs
        exact hs
      · exact g.elim
    | _ => exact g.elim
  | _ => exact g.elim
theorem o_mod : Op2R Y X (binaryOp .Mod) (op2 .mod) := by
  intro pins s σ Hh x y v u Q I rx ry ⟨μ, h, d1, d2, r, w1, w2, g⟩
  cases w1 with
  | int i =>
    cases w2 with
    | int j =>
      simp only [op2] at g
      split at g
      · rename_i hs
        exact op_mod pins s σ Hh _ _ v u Q I rx ry ⟨i, j, rfl, rfl, hs, g μ Hh _ Ext.refl r (.int _)⟩
      · exact g.elim
    | _ => exact g.elim
  | _ => exact g.elim
theorem o_fdiv : Op2R Y X (binaryOp .FloorDiv) (op2 .fdiv) := by
  intro pins s σ Hh x y v u Q I rx ry ⟨μ, h, d1, d2, r, w1, w2, g⟩
  cases w1 with
  | int i =>
    cases w2 with
    | int j =>
      simp only [op2] at g
      split at g
      · rename_i hs
        exact op_fdiv pins s σ Hh _ _ v u Q I rx ry ⟨i, j, rfl, rfl, hs, g μ Hh _ Ext.refl r (.int _)⟩
      · exact g.elim
    | _ => exact g.elim
  | _ => exact g.elim
theorem o_lt : Op2R Y X (compareOp .Lt) (op2 .lt) := by
  intro pins s σ Hh x y v u Q I rx ry ⟨μ, h, d1, d2, r, w1, w2, g⟩
  cases w1 with
  | int i =>
    cases w2 with
    | int j => exact op_lt pins s σ Hh _ _ v u Q I rx ry ⟨i, j, rfl, rfl, g μ Hh _ Ext.refl r (.bl _)⟩
    | _ => exact g.elim
  | _ => exact g.elim
theorem o_le : Op2R Y X (compareOp .LtE) (op2 .le) := by
  intro pins s σ Hh x y v u Q I rx ry ⟨μ, h, d1, d2, r, w1, w2, g⟩
  cases w1 with
  | int i =>
    cases w2 with
    | int j => exact op_le pins s σ Hh _ _ v u Q I rx ry ⟨i, j, rfl, rfl, g μ Hh _ Ext.refl r (.bl _)⟩
    | _ => exact g.elim
  | _ => exact g.elim
theorem o_gt : Op2R Y X (compareOp .Gt) (op2 .gt) := by
  intro pins s σ Hh x y v u Q I rx ry ⟨μ, h, d1, d2, r, w1, w2, g⟩
  cases w1 with
  | int i =>
    cases w2 with
    | int j => exact op_gt pins s σ Hh _ _ v u Q I rx ry ⟨i, j, rfl, rfl, g μ Hh _ Ext.refl r (.bl _)⟩
    | _ => exact g.elim
  | _ => exact g.elim
theorem o_ge : Op2R Y X (compareOp .GtE) (op2 .ge) := by
  intro pins s σ Hh x y v u Q I rx ry ⟨μ, h, d1, d2, r, w1, w2, g⟩
  cases w1 with
  | int i =>
    cases w2 with
    | int j => exact op_ge pins s σ Hh _ _ v u Q I rx ry ⟨i, j, rfl, rfl, g μ Hh _ Ext.refl r (.bl _)⟩
    | _ => exact g.elim
  | _ => exact g.elim
theorem o_is : Op2R Y X (compareOp .Is) (op2 .is_) := by
  intro pins s σ Hh x y v u Q I rx ry ⟨μ, h, d1, d2, r, w1, w2, g⟩
  cases w2 with
  | non =>
    refine op_isN pins s σ Hh _ _ v u Q I rx ry ⟨rfl, ?_⟩
    cases w1 <;> exact g μ Hh _ Ext.refl r (.bl _)
  | _ => exact g.elim
theorem o_isn : Op2R Y X (compareOp .IsNot) (op2 .isn) := by
  intro pins s σ Hh x y v u Q I rx ry ⟨μ, h, d1, d2, r, w1, w2, g⟩
  cases w2 with
  | non =>
    refine op_notN pins s σ Hh _ _ v u Q I rx ry ⟨rfl, ?_⟩
    cases w1 <;> exact g μ Hh _ Ext.refl r (.bl _)
  | _ => exact g.elim

/-! ### data read through -/
mutual
theorem toP_ok {μ : List Addr} {h : H} {Hh : Hp} (r : RH (Y.sx X) μ h Hh) : ∀ (m : Nat) (d : D) (x : V) (p : PyData), VR X.K μ Hh d x → toP h m d = some p → Dp X.K Hh x p
  | m, .non, _, p, .non, e => by
    have : p = .none := by cases m <;> (simp [toP] at e; exact e.symm)
    subst this; exact .non
  | m, .bl b, _, p, .bl _, e => by
    have : p = .bool b := by cases m <;> (simp [toP] at e; exact e.symm)
    subst this; exact .bl b
  | m, .int b, _, p, .int _, e => by
    have : p = .int b := by cases m <;> (simp [toP] at e; exact e.symm)
    subst this; exact .int b
  | m, .str b, _, p, .str _, e => by
    have : p = .str b := by cases m <;> (simp [toP] at e; exact e.symm)
    subst this; exact .str b
  | 0, .tup xs, _, p, .tup _ _, e => by simp [toP] at e
  | m + 1, .tup xs, _, p, .tup q v, e => by
    simp only [toP, Option.map_eq_some_iff] at e
    obtain ⟨ds, e1, rfl⟩ := e
    exact .tup q.sq (toPs_ok r m xs _ ds v e1)
  | 0, .ref k, _, p, .ref _, e => by simp [toP] at e
  | m + 1, .ref k, _, p, .ref ea, e => by
    simp only [toP] at e
    split at e
    · rename_i xs e0
      simp only [Option.map_eq_some_iff] at e
      obtain ⟨ds, e1, rfl⟩ := e
      obtain ⟨ys, q, v⟩ := r.seq (.inl e0) ea
      exact .lst q (toPs_ok r m xs _ ds v e1)
    · rename_i xs e0
      simp only [Option.map_eq_some_iff] at e
      obtain ⟨ds, e1, rfl⟩ := e
      obtain ⟨ys, q, v⟩ := r.seq (.inr e0) ea
      exact .lst q (toPs_ok r m xs _ ds v e1)
    · cases e
  termination_by m d => (m, sizeOf d)
theorem toPs_ok {μ : List Addr} {h : H} {Hh : Hp} (r : RH (Y.sx X) μ h Hh) : ∀ (m : Nat) (d : List D) (x : List V) (p : List PyData), VRs X.K μ Hh d x → toPs h m d = some p → DpAll X.K Hh x p
  | m, [], _, p, .nil, e => by
    have : p = [] := by simp only [toPs, mapO, Option.some.injEq] at e; exact e.symm
    subst this; exact .nil
  | m, d :: ds, _, p, .cons w ws, e => by
    simp only [toPs, mapO] at e
    split at e
    · rename_i a b e1 e2
      cases e
      exact .cons (toP_ok r m d _ a w e1) (toPs_ok r m ds _ b ws e2)
    · cases e
  termination_by m d => (m, sizeOf d)
end
theorem lenNe_ok {μ : List Addr} {h : H} {Hh : Hp} {d1 d2 : D} {x y : V} {pins : List (Addr × Obj)} {σ : L2.St} {s : Shared} {v u : Value} (I : Inv X pins σ Hh s) (r : RH (Y.sx X) μ h Hh) (w1 : VR X.K μ Hh d1 x) (w2 : VR X.K μ Hh d2 y) (rx : RelV x v) (ry : RelV y u) (e : lenNe h d1 d2 = true) :
    ∃ l b items items2, v = .ref l ∧ u = .ref b ∧ s.heap.IsList l items ∧ s.heap.IsList b items2 ∧ (items.size != items2.size) = true := by
  cases w1 <;> cases w2 <;> simp only [lenNe, Bool.false_eq_true] at e
  rename_i p a h1 q b h2
  cases e1 : h.o[p]? with
  | none => rw [e1] at e; cases e
  | some o1 => cases e2 : h.o[q]? with
    | none => rw [e1, e2] at e; cases o1 <;> cases e
    | some o2 =>
      rw [e1, e2] at e
      cases o1 <;> cases o2 <;> simp only [Bool.false_eq_true] at e
      rename_i xs ys
      obtain ⟨zs, z1, z2⟩ := r.list e1 h1
      obtain ⟨zt, t1, t2⟩ := r.list e2 h2
      obtain ⟨_, its, n, _, ql, qo⟩ := I.lstM z1
      obtain ⟨_, its2, n2, _, ql2, qo2⟩ := I.lstM t1
      cases rx
      cases ry
      refine ⟨_, _, its.toArray, its2.toArray, rfl, rfl, ⟨_, qo, rfl, _, rfl⟩, ⟨_, qo2, rfl, _, rfl⟩, ?_⟩
      have h3 := z2.length
      have h4 := t2.length
      simp only [List.size_toArray, ← ql, ← ql2, ← h3, ← h4]
      exact e
theorem o_eq (hu : X.A.units + 64 < cLine) : Op2R Y X (compareOp .Eq) (op2 .eq) := by
  intro pins s σ Hh x y v u Q I rx ry ⟨μ, h, d1, d2, r, w1, w2, g⟩
  simp only [op2] at g
  obtain ⟨b, e, g⟩ := g.retB
  unfold eqD at e
  split at e
  · rename_i hs
    refine op_eq pins s σ Hh _ _ v u Q I rx ry ?_
    have fin : ∀ b', b' = b → Q (.bl b') Hh := fun b' z => by subst z; exact g μ Hh _ Ext.refl r (.bl _)
    cases e
    cases w1 <;> cases w2 <;> first
      | exact ⟨rfl, fin _ (by simp [seqv])⟩
      | (simp [scalar, bi] at hs)
  split at e
  · rename_i hs hn
    cases e
    obtain ⟨l, b, its, its2, rfl, rfl, i1, i2, hz⟩ := lenNe_ok I r w1 w2 rx ry hn
    exact SeqAt.RcAt.lists_lengths i1 i2 hz (by omega) _ _ _ _ ⟨.bl _, Hh, I, rfl, g μ Hh _ Ext.refl r (.bl _)⟩
  · split at e
    · rename_i p q e1 e2
      split at e
      · rename_i hp
        simp only [Bool.and_eq_true] at hp
        cases e
        exact op_eqD hu pins s σ Hh _ _ v u Q I rx ry ⟨p, q, toP_ok r _ _ _ _ w1 e1, toP_ok r _ _ _ _ w2 e2, hp.1, hp.2, g μ Hh _ Ext.refl r (.bl _)⟩
      · cases e
    · cases e
theorem o_ne (hu : X.A.units + 64 < cLine) : Op2R Y X (compareOp .NotEq) (op2 .ne) := by
  intro pins s σ Hh x y v u Q I rx ry ⟨μ, h, d1, d2, r, w1, w2, g⟩
  simp only [op2] at g
  obtain ⟨b, e, g⟩ := g.retB
  simp only [Option.map_eq_some_iff] at e
  obtain ⟨b', e, rfl⟩ := e
  unfold eqD at e
  split at e
  · rename_i hs
    refine op_ne pins s σ Hh _ _ v u Q I rx ry ?_
    have fin : ∀ c, c = b' → Q (.bl (!c)) Hh := fun c z => by subst z; exact g μ Hh _ Ext.refl r (.bl _)
    cases e
    cases w1 <;> cases w2 <;> first
      | exact ⟨rfl, fin _ (by simp [seqv])⟩
      | (simp [scalar, bi] at hs)
  split at e
  · rename_i hs hn
    cases e
    obtain ⟨l, b, its, its2, rfl, rfl, i1, i2, hz⟩ := lenNe_ok I r w1 w2 rx ry hn
    exact SeqAt.RcNeAt.lists_lengths i1 i2 hz (by omega) _ _ _ _ ⟨.bl _, Hh, I, rfl, g μ Hh _ Ext.refl r (.bl _)⟩
  · split at e
    · rename_i p q e1 e2
      split at e
      · rename_i hp
        simp only [Bool.and_eq_true] at hp
        cases e
        exact op_neD hu pins s σ Hh _ _ v u Q I rx ry ⟨p, q, toP_ok r _ _ _ _ w1 e1, toP_ok r _ _ _ _ w2 e2, hp.1, hp.2, g μ Hh _ Ext.refl r (.bl _)⟩
      · cases e
    · cases e
end
end SC
end
end
section
set_option linter.all false
set_option maxRecDepth 100000
set_option Elab.async false
/-! SC5: dicts, membership, subscripts, fields, displays, slices. -/
noncomputable section
namespace SC
open PySem L2
section
variable {Y : Lw} {X : Cx} {n : Nat} {pins : List (Addr × Obj)} {σ : L2.St} {Hh : Hp} {s : Shared} {μ : List Addr} {h : H}
/-! ### keys that are tuples -/
mutual
theorem nk_is (I : Inv X pins σ Hh s) : ∀ (d : D) (x : V) (u : Value), VR X.K μ Hh d x → d.pure = true → RelV x u → NestedIs s.heap d.nk u
  | .non, _, _, .non, _, rx => by cases rx; exact .none
  | .bl b, _, _, .bl _, _, rx => by cases rx; exact .bool rfl
  | .int i, _, _, .int _, _, rx => by obtain ⟨t, rfl⟩ := rx; exact .int i t
  | .str i, _, _, .str _, _, rx => by obtain ⟨t, rfl⟩ := rx; exact .text i t
  | .tup xs, _, _, .tup q v, p, rx => by
    cases rx
    obtain ⟨its, rv, ⟨o, ho, hc, m, hd⟩, _⟩ := I.tuple q.sq
    exact .tup ho hc hd (nks_is I xs _ _ v (by simpa [D.pure] using p) (by simpa using rv))
  | .ref _, _, _, .ref _, p, _ => by simp [D.pure] at p
theorem nks_is (I : Inv X pins σ Hh s) : ∀ (d : List D) (x : List V) (u : List Value), VRs X.K μ Hh d x → D.pures d = true → Vals x u → NestedAll s.heap (D.nks d) u
  | [], _, _, .nil, _, .nil => .nil
  | d :: ds, _, _, .cons w ws, p, .cons r rs => by
    simp [D.pures] at p
    exact .cons (nk_is I d _ _ w p.1 r) (nks_is I ds _ _ ws p.2 rs)
end
mutual
theorem nk_depth : ∀ d : D, d.nk.depth = d.depth
  | .non => rfl
  | .bl _ => rfl
  | .int _ => rfl
  | .str _ => rfl
  | .ref _ => rfl
  | .tup xs => by simp [D.nk, NestedKey.depth, D.depth, nks_depth xs]
theorem nks_depth : ∀ d : List D, NestedKey.depthAll (D.nks d) = D.depths d
  | [] => rfl
  | x :: r => by simp [D.nks, NestedKey.depthAll, D.depths, nk_depth x, nks_depth r]
end
mutual
theorem same_nk : ∀ a b : D, a.pure = true → b.pure = true → D.same a b = decide (a.nk = b.nk)
  | .non, .non, _, _ => by simp [D.same]
  | .non, .bl _, _, _ => by simp [D.same, D.nk]
  | .non, .int _, _, _ => by simp [D.same, D.nk]
  | .non, .str _, _, _ => by simp [D.same, D.nk]
  | .non, .tup _, _, _ => by simp [D.same, D.nk]
  | .bl _, .non, _, _ => by simp [D.same, D.nk]
  | .bl a, .bl b, _, _ => by cases a <;> cases b <;> simp [D.same, D.nk]
  | .bl a, .int b, _, _ => by simp [D.same, D.nk]
  | .bl _, .str _, _, _ => by simp [D.same, D.nk]
  | .bl _, .tup _, _, _ => by simp [D.same, D.nk]
  | .int _, .non, _, _ => by simp [D.same, D.nk]
  | .int _, .bl _, _, _ => by simp [D.same, D.nk]
  | .int _, .int _, _, _ => by simp [D.same, D.nk]
  | .int _, .str _, _, _ => by simp [D.same, D.nk]
  | .int _, .tup _, _, _ => by simp [D.same, D.nk]
  | .str _, .non, _, _ => by simp [D.same, D.nk]
  | .str _, .bl _, _, _ => by simp [D.same, D.nk]
  | .str _, .int _, _, _ => by simp [D.same, D.nk]
  | .str _, .str _, _, _ => by simp [D.same, D.nk]
  | .str _, .tup _, _, _ => by simp [D.same, D.nk]
  | .tup _, .non, _, _ => by simp [D.same, D.nk]
  | .tup _, .bl _, _, _ => by simp [D.same, D.nk]
  | .tup _, .int _, _, _ => by simp [D.same, D.nk]
  | .tup _, .str _, _, _ => by simp [D.same, D.nk]
  | .tup a, .tup b, p, q => by
    simp only [D.same, D.nk, NestedKey.tup.injEq]
    exact same_nks a b (by simpa [D.pure] using p) (by simpa [D.pure] using q)
  | .ref _, _, p, _ => by simp [D.pure] at p
  | .non, .ref _, _, q => by simp [D.pure] at q
  | .bl _, .ref _, _, q => by simp [D.pure] at q
  | .int _, .ref _, _, q => by simp [D.pure] at q
  | .str _, .ref _, _, q => by simp [D.pure] at q
  | .tup _, .ref _, _, q => by simp [D.pure] at q
theorem same_nks : ∀ a b : List D, D.pures a = true → D.pures b = true → D.sames a b = decide (D.nks a = D.nks b)
  | [], [], _, _ => by simp [D.sames]
  | [], _ :: _, _, _ => by simp [D.sames, D.nks]
  | _ :: _, [], _, _ => by simp [D.sames, D.nks]
  | a :: r, b :: s, p, q => by
    simp only [D.pures, Bool.and_eq_true] at p q
    simp only [D.sames, D.nks, List.cons.injEq, same_nk a b p.1 q.1, same_nks r s p.2 q.2]
    by_cases h1 : a.nk = b.nk <;> by_cases h2 : D.nks r = D.nks s <;> simp [h1, h2]
end
theorem keyT_pure {d : D} (e : keyT d = true) : d.pure = true := by
  cases d with
  | tup xs => simp [keyT] at e; simpa [D.pure] using e.1
  | _ => simp [keyT] at e
theorem keyT_is (I : Inv X pins σ Hh s) {d : D} {b : Addr} (e : keyT d = true) (w : VR X.K μ Hh d (.ref b)) : (nestedKind X.prog X.w).is s.heap d.nk b := by
  refine ⟨nk_is I d _ _ w (keyT_pure e) rfl, ?_⟩
  rw [nk_depth]
  cases d with
  | tup xs => simp [keyT] at e; simpa [D.depth] using e.2
  | _ => simp [keyT] at e
theorem keyT_ref {d : D} {x : V} (e : keyT d = true) (w : VR X.K μ Hh d x) : ∃ b, x = .ref b := by
  cases w with
  | tup q v => exact ⟨_, rfl⟩
  | _ => simp [keyT] at e
theorem TR.key (I : Inv X pins σ Hh s) : ∀ {kvs : List (D × D)} {xs : List (NestedKey × Addr × Value)}, TR X.K μ Hh kvs xs → ∀ x ∈ xs, (nestedKind X.prog X.w).is s.heap x.1 x.2.1
  | _, _, .nil, x, hx => by simp at hx
  | _, _, .cons p w _ _ t, x, hx => by
    rcases List.mem_cons.mp hx with rfl | hx
    · exact keyT_is I p w
    · exact TR.key I t x hx
theorem TR.length : ∀ {kvs : List (D × D)} {xs : List (NestedKey × Addr × Value)}, TR X.K μ Hh kvs xs → kvs.length = xs.length
  | _, _, .nil => rfl
  | _, _, .cons _ _ _ _ t => by simp [TR.length t]
/-- the dict of the small heap, as the library has it -/
theorem dictH (I : Inv X pins σ Hh s) {a : Addr} {lk : Bool} {kvs : List (D × D)} {xs : List (NestedKey × Addr × Value)} (at_ : At Hh a lk (.ext (rawD X.prog X.w a xs))) (t : TR X.K μ Hh kvs xs) (nd : (xs.map (·.1)).Nodup) : s.heap.DictOfH (nestedKind X.prog X.w) a xs := by
  have ok : ObjOk X.prog X.w Hh s.heap a (.ext (rawD X.prog X.w a xs)) := by
    unfold At at at_
    split at at_
    · obtain ⟨o, e⟩ := at_
      exact (I.hok a _ e).2
    · exact I.hok a _ at_
  obtain ⟨o, es, ep, h1, h2, h3, h4⟩ := ok.1
  exact ⟨o, es, ep, h1, h2, h3, h4, TR.key I t, nd⟩
theorem TR.find (I : Inv X pins σ Hh s) {k : D} (pk : keyT k = true) : ∀ {kvs : List (D × D)} {xs : List (NestedKey × Addr × Value)}, TR X.K μ Hh kvs xs →
    (getT k kvs = none ∧ atKey xs k.nk = none) ∨ ∃ v b y u, getT k kvs = some v ∧ atKey xs k.nk = some (b, u) ∧ VR X.K μ Hh v y ∧ RelV y u
  | _, _, .nil => .inl ⟨rfl, rfl⟩
  | _, _, .cons (k := a) (d := d) (b := b) (v := y) (u := u) (r := r) (s := t) p w wd ru tr => by
    have e := same_nk a k (keyT_pure p) (keyT_pure pk)
    by_cases hk : a.nk = k.nk
    · refine .inr ⟨d, b, y, u, ?_, ?_, wd, ru⟩
      · simp [getT, e, hk]
      · simp [atKey, hk]
    · rcases TR.find I pk tr with ⟨h1, h2⟩ | ⟨v, b', y', u', h1, h2, h3, h4⟩
      · refine .inl ⟨?_, ?_⟩
        · simp [getT, e, hk, h1]
        · simpa [atKey, List.find?_cons, hk] using h2
      · refine .inr ⟨v, b', y', u', ?_, ?_, h3, h4⟩
        · simp [getT, e, hk, h1]
        · simpa [atKey, List.find?_cons, hk] using h2
/-! ### dicts with ints and texts -/
theorem keyOf_kV {d : D} {x : V} {k : L2.Key} (e : keyOf d = some k) (w : VR X.K μ Hh d x) : x = kV k := by
  cases w with
  | int i => simp [keyOf] at e; subst e; rfl
  | str i => simp [keyOf] at e; subst e; rfl
  | _ => simp [keyOf] at e
theorem KR.find {k : L2.Key} : ∀ {kvs : List (L2.Key × D)} {ws : List (L2.Key × V)}, KR X.K μ Hh kvs ws →
    (getK k kvs = none ∧ valV ws k = none) ∨ ∃ d v, getK k kvs = some d ∧ valV ws k = some v ∧ VR X.K μ Hh d v
  | _, _, .nil => .inl ⟨rfl, rfl⟩
  | _, _, .cons (k := a) (d := d) (v := v) w t => by
    by_cases hk : a = k
    · exact .inr ⟨d, v, by simp [getK, hk], by simp [valV, hk], w⟩
    · rcases KR.find (k := k) t with ⟨h1, h2⟩ | ⟨d', v', h1, h2, h3⟩
      · exact .inl ⟨by simp [getK, hk, h1], by simpa [valV, List.find?_cons, hk] using h2⟩
      · exact .inr ⟨d', v', by simp [getK, hk, h1], by simpa [valV, List.find?_cons, hk] using h2, h3⟩
theorem At.rd {a : Addr} {lk : Bool} {u : HO} (e : At Hh a lk u) : Rd Hh a u := by
  unfold At at e
  split at e
  · exact .inr e
  · exact .inl e
/-! ### in, not in -/
theorem vr_flat {d : D} {x : V} (w : VR X.K μ Hh d x) (f : flat d = true) : flatV x = true := by
  cases w <;> first | rfl | (simp [flat] at f)
theorem vrs_flat : ∀ {d : List D} {x : List V}, VRs X.K μ Hh d x → d.all flat = true → x.all flatV = true
  | _, _, .nil, _ => rfl
  | _, _, .cons w ws, f => by
    simp only [List.all_cons, Bool.and_eq_true] at f ⊢
    exact ⟨vr_flat w f.1, vrs_flat ws f.2⟩
theorem vr_feq {d e : D} {x y : V} (w : VR X.K μ Hh d x) (v : VR X.K μ Hh e y) (f : flat d = true) (g : flat e = true) : feq d e = eqV x y := by
  cases w <;> cases v <;> first | rfl | (simp [flat] at f) | (simp [flat] at g)
theorem vrs_any {d : D} {x : V} (w : VR X.K μ Hh d x) (f : flat d = true) : ∀ {ds : List D} {xs : List V}, VRs X.K μ Hh ds xs → ds.all flat = true → (ds.any fun y => feq y d) = inV x xs
  | _, _, .nil, _ => rfl
  | _, _, .cons v vs, g => by
    simp only [List.all_cons, Bool.and_eq_true] at g
    simp only [List.any_cons, inV, vr_feq v w g.1 f]
    rw [vrs_any w f vs g.2]
    rfl
theorem o_in (hu : X.A.units + 70 < cLine) : Op2R Y X (compareOp .In) (op2 .in_) := by
  intro pins s σ Hh x y v u Q I rx ry ⟨μ, h, d1, d2, r, w1, w2, g⟩
  simp only [op2] at g
  obtain ⟨b, e, g⟩ := g.retB
  have fin : ∀ b', b' = b → Q (.bl b') Hh := fun b' z => by subst z; exact g μ Hh _ Ext.refl r (.bl _)
  cases w2 with
  | @tup a xs ys q vs =>
    simp only [inD] at e
    split at e
    · rename_i hf
      simp only [Bool.and_eq_true] at hf
      cases e
      exact op_in_seq pins s σ Hh _ _ v u Q I rx ry ⟨a, ys, rfl, .inr q.sq, vr_flat w1 hf.1, vrs_flat vs hf.2, fin _ (by rw [vrs_any w1 hf.1 vs hf.2]; rfl)⟩
    · cases e
  | @ref p a ea =>
    simp only [inD] at e
    split at e
    · rename_i xs eo
      obtain ⟨ys, h1, v1⟩ := r.list eo ea
      split at e
      · rename_i d ds e1 e2
        split at e
        · rename_i hs
          simp only [Bool.and_eq_true] at hs
          cases e
          exact op_inD (by omega) pins s σ Hh _ _ v u Q I rx ry ⟨d, ds, toP_ok r _ _ _ _ w1 e1, .lst (SqL.of h1) (toPs_ok r _ _ _ _ v1 e2), hs.1, hs.2, fin _ rfl⟩
        · cases e
      · cases e
    · rename_i kvs eo
      obtain ⟨ws, at_, kr, _⟩ := r.obj p _ a eo ea
      split at e
      · rename_i k ek
        cases e
        have ey := keyOf_kV ek w1
        subst ey
        cases ry
        refine d_in (o := valV ws k) (by omega) I (.inl ⟨ws, k, at_.rd, rfl, rfl⟩) rx fun s' I' => ⟨.bl _, Hh, I', rfl, fin _ ?_⟩
        rcases KR.find (k := k) kr with ⟨h1, h2⟩ | ⟨d, v, h1, h2, _⟩
        · rw [h1, h2]; rfl
        · rw [h1, h2]; rfl
      · cases e
    · rename_i kvs eo
      obtain ⟨xs, at_, ha, _, tr, nd⟩ := r.obj p _ a eo ea
      split at e
      · rename_i ek
        cases e
        obtain ⟨kb, rfl⟩ := keyT_ref ek w1
        cases rx
        cases ry
        refine wpAny_in_heap (knd := nestedKind X.prog X.w) (k := d1.nk) (xs := xs) (by show X.A.units + 1 + 8 < cLine; omega) (keyT_is I ek w1) ha (dictH I at_ tr nd) ⟨.bl _, Hh, I.tok _, rfl, fin _ ?_⟩
        rcases TR.find I ek tr with ⟨h1, h2⟩ | ⟨v, b', y', u', h1, h2, _⟩
        · rw [h1, h2]; rfl
        · rw [h1, h2]; rfl
      · cases e
    · cases e
  | _ => simp [inD] at e
theorem o_nin (hu : X.A.units + 70 < cLine) : Op2R Y X (compareOp .NotIn) (op2 .nin) := by
  intro pins s σ Hh x y v u Q I rx ry ⟨μ, h, d1, d2, r, w1, w2, g⟩
  simp only [op2] at g
  obtain ⟨b0, e0, g⟩ := g.retB
  simp only [Option.map_eq_some_iff] at e0
  obtain ⟨b, e, rfl⟩ := e0
  have fin : ∀ b', b' = b → Q (.bl (!b')) Hh := fun b' z => by subst z; exact g μ Hh _ Ext.refl r (.bl _)
  cases w2 with
  | @tup a xs ys q vs =>
    simp only [inD] at e
    split at e
    · rename_i hf
      simp only [Bool.and_eq_true] at hf
      cases e
      exact op_notIn_seq pins s σ Hh _ _ v u Q I rx ry ⟨a, ys, rfl, .inr q.sq, vr_flat w1 hf.1, vrs_flat vs hf.2, fin _ (by rw [vrs_any w1 hf.1 vs hf.2])⟩
    · cases e
  | @ref p a ea =>
    simp only [inD] at e
    split at e
    · rename_i xs eo
      obtain ⟨ys, h1, v1⟩ := r.list eo ea
      split at e
      · rename_i d ds e1 e2
        split at e
        · rename_i hs
          simp only [Bool.and_eq_true] at hs
          cases e
          exact op_notInD (by omega) pins s σ Hh _ _ v u Q I rx ry ⟨d, ds, toP_ok r _ _ _ _ w1 e1, .lst (SqL.of h1) (toPs_ok r _ _ _ _ v1 e2), hs.1, hs.2, fin _ rfl⟩
        · cases e
      · cases e
    · rename_i kvs eo
      obtain ⟨ws, at_, kr, _⟩ := r.obj p _ a eo ea
      split at e
      · rename_i k ek
        cases e
        have ey := keyOf_kV ek w1
        subst ey
        cases ry
        refine d_notIn (o := valV ws k) (by omega) I (.inl ⟨ws, k, at_.rd, rfl, rfl⟩) rx fun s' I' => ⟨.bl _, Hh, I', rfl, fin _ ?_⟩
        rcases KR.find (k := k) kr with ⟨h1, h2⟩ | ⟨d, v, h1, h2, _⟩
        · rw [h1, h2]; rfl
        · rw [h1, h2]; rfl
      · cases e
    · rename_i kvs eo
      obtain ⟨xs, at_, ha, _, tr, nd⟩ := r.obj p _ a eo ea
      split at e
      · rename_i ek
        cases e
        obtain ⟨kb, rfl⟩ := keyT_ref ek w1
        cases rx
        cases ry
        refine notIn_keyed (knd := nestedKind X.prog X.w) (k := d1.nk) (kvs := pairsH xs) (by show X.A.units + 1 + 8 < cLine; omega) (keyT_is I ek w1) ha ⟨xs, dictH I at_ tr nd, rfl⟩ ⟨.bl _, Hh, I.tok _, rfl, fin _ ?_⟩
        rw [valueAt_pairsH]
        rcases TR.find I ek tr with ⟨h1, h2⟩ | ⟨v, b', y', u', h1, h2, _⟩
        · rw [h1, h2]; rfl
        · rw [h1, h2]; rfl
      · cases e
    · cases e
  | _ => simp [inD] at e

/-! ### a[i] -/
theorem RH.ref {p : Nat} {a : Addr} {o : AO} (r : RH (Y.sx X) μ h Hh) (eo : h.o[p]? = some o) (ea : μ[p]? = some a) : OR (Y.sx X) μ Hh a (h.lk.contains p) o := r.obj p o a eo ea
theorem vrs_at {xs : List D} {ys : List V} {i : Int} {k : Nat} {v : D} (w : VRs X.K μ Hh xs ys) (e1 : ixN xs.length i = some k) (e2 : xs[k]? = some v) : ∃ y, atI ys i = some y ∧ VR X.K μ Hh v y := by
  obtain ⟨y, h1, h2⟩ := w.get e2
  refine ⟨y, ?_, h2⟩
  unfold atI
  rw [← w.length, e1]
  exact h1
theorem x_sub (hu : X.A.units + 70 < cLine) : IxR X (fun x y Hh Q => ∃ μ h d1 d2, RH (Y.sx X) μ h Hh ∧ VR X.K μ Hh d1 x ∧ VR X.K μ Hh d2 y ∧ Good (subD d1 d2 h) (Want Y X μ Hh Q)) := by
  intro value slice pins s σ Hh x y v u Q I rx ry ⟨μ, h, d1, d2, r, w1, w2, g⟩ hs
  have seq : ∀ (a : Addr) (xs : List D) (ys : List V), x = .ref a → (SqL X.K Hh a ys ∨ SqT X.K Hh a ys) → VRs X.K μ Hh xs ys →
      Good (match d2 with | .int i => (match ixAt xs.length i with | some k => (match xs[k]? with | some v => R.ok v h | none => .bad) | none => .bad) | _ => .bad) (Want Y X μ Hh Q) →
      wpAny (model X.prog X.w) X.A (PyProof.Rows.subscriptTail value slice v u) (EP X pins σ Q) X.xe s := fun a xs ys ex q ws g => by
    cases w2 with
    | int i =>
      dsimp only at g
      split at g
      · rename_i k ek
        split at g
        · rename_i d ed
          obtain ⟨y, h1, h2⟩ := vrs_at ws ek ed
          refine ix_seq value slice pins s σ Hh _ _ v u Q I rx ry ?_ hs
          rcases q with q | q
          · exact .inl ⟨a, ys, i, y, ex, rfl, q, h1, g μ Hh _ Ext.refl r h2⟩
          · exact .inr (.inl ⟨a, ys, i, y, ex, rfl, q, h1, g μ Hh _ Ext.refl r h2⟩)
        · exact g.elim
      · exact g.elim
    | _ => exact g.elim
  cases w1 with
  | @tup a xs ys q ws => exact seq a xs ys rfl (.inr q.sq) ws g
  | @ref p a ea =>
    simp only [subD] at g
    split at g
    · rename_i xs eo
      obtain ⟨ys, h1, ws⟩ := r.list eo ea
      exact seq a xs ys rfl (.inl (SqL.of h1)) ws g
    · rename_i xs eo
      obtain ⟨ys, h1, ws⟩ := r.fz eo ea
      exact seq a xs ys rfl (.inl h1) ws g
    · rename_i kvs eo
      obtain ⟨ws, at_, kr, _⟩ := r.obj p _ a eo ea
      split at g
      · rename_i k ek
        have ey := keyOf_kV ek w2
        subst ey
        cases rx
        rcases KR.find (k := k) kr with ⟨h1, h2⟩ | ⟨d, vv, h1, h2, wv⟩
        · rw [h1] at g; exact g.elim
        · rw [h1] at g
          have dg : DGet Hh a (kV k) (some vv) := .inl ⟨ws, k, at_.rd, rfl, h2.symm⟩
          exact PyProof.Rows.tail_any (dict_typeIs I dg) PySem.F.slot_dict_getitem.lookup (d_getItem (by omega) I dg ry fun w' s' I' rw' => ⟨vv, Hh, I', rw', g μ Hh _ Ext.refl r wv⟩) hs
      · exact g.elim
    · rename_i kvs eo
      obtain ⟨xs, at_, ha, _, tr, nd⟩ := r.obj p _ a eo ea
      split at g
      · rename_i ek
        obtain ⟨kb, rfl⟩ := keyT_ref ek w2
        cases rx
        cases ry
        have dh := dictH I at_ tr nd
        rcases TR.find I ek tr with ⟨h1, h2⟩ | ⟨vd, b', y', u', h1, h2, wv, ru⟩
        · rw [h1] at g; exact g.elim
        · rw [h1] at g
          exact PyProof.Rows.tail_any dh.typeIs PySem.F.slot_dict_getitem.lookup (wpAny_getItem_heap (knd := nestedKind X.prog X.w) (by show X.A.units + 1 + 8 < cLine; omega) (keyT_is I ek w2) dh h2 ⟨y', Hh, I.tok _, ru, g μ Hh _ Ext.refl r wv⟩) hs
      · exact g.elim
    · exact g.elim
  | _ => exact g.elim
theorem s_sub {a b : Expr} {ca cb : E} {pos : Pos} (hu : X.A.units + 70 < cLine) (da : PE X a (tD Y X n ca)) (db : PE X b (tD Y X n cb)) (hs : PlainIx b) : PE X (.Subscript a b pos) (tD Y X n (.sub ca cb)) :=
  PE.imp (pe_ix (x_sub hu) da db hs) (two da db fun ρ h => by simp only [den])
end
end SC
end
end
section
set_option linter.all false
set_option maxRecDepth 100000
set_option Elab.async false
/-! SC6: arguments, displays, slices, fields, built-ins. -/
noncomputable section
namespace SC
open PySem L2
/-! ### what is asked of the text -/
def noStar : Expr → Bool
  | .Starred .. => false
  | _ => true
theorem starEach_cons {e : Expr} {es : List Expr} {env : PySem.Env} (h : noStar e = true) : starEach (e :: es) env = (false, eval e env) :: starEach es env := by
  cases e <;> first | rfl | (simp [noStar] at h)
theorem starEach_star {e : Expr} {p : Pos} {es : List Expr} {env : PySem.Env} : starEach (.Starred e p :: es) env = (true, eval e env) :: starEach es env := rfl
theorem starEach_none : ∀ {es : List Expr} {env : PySem.Env} {pos : Pos}, es.all noStar = true → (backTo pos (starEach es env)).any (·.1) = false
  | [], _, _, _ => rfl
  | e :: es, env, pos, h => by
    simp only [List.all_cons, Bool.and_eq_true] at h
    rw [starEach_cons h.1]
    show (false || (backTo pos (starEach es env)).any (·.1)) = false
    rw [starEach_none h.2]
    rfl
theorem starEach_all : ∀ {es : List Expr} {env : PySem.Env} {pos : Pos}, es.all noStar = true → (backTo pos (starEach es env)).all (fun x => !x.1) = true
  | [], _, _, _ => rfl
  | e :: es, env, pos, h => by
    simp only [List.all_cons, Bool.and_eq_true] at h
    rw [starEach_cons h.1]
    show (true && (backTo pos (starEach es env)).all (fun x => !x.1)) = true
    rw [starEach_all h.2]
    rfl
/-- nothing of super() -/
def noSup : Expr → Bool
  | .Call (.Name _ _) [] [] _ => false
  | _ => true
theorem base_of {e : Expr} {f : Str} {env : PySem.Env} (h : noSup e = true) : attributeBase e f env (eval e env) = eval e env := by
  unfold attributeBase
  split
  · simp [noSup] at h
  · rfl
section
variable {Y : Lw} {X : Cx} {n : Nat} {e a b c : Expr} {es : List Expr} {ca cb cc : E} {cs : List E} {pos : Pos}
/-! ### argument lists -/
theorem s_nil : PA X [] (tL Y X n []) := PA.imp pa_nil fun σ Hh Q ⟨μ, h, ρ, r, g⟩ => by
  simp only [denL] at g
  exact g μ Hh [] Ext.refl r.rh .nil
def E.isStar : E → Bool
  | .star _ => true
  | _ => false
theorem denL_cons (T : Tab) (Φ : Nat → Fn) {c : E} {cs : List E} (h : c.isStar = false) (ρ : Env) (hh : H) : denL T Φ (c :: cs) ρ hh = (den T Φ c ρ hh).bind fun x h => (denL T Φ cs ρ h).bind fun xs h => .ok (x :: xs) h := by
  cases c <;> first | (simp only [denL]; done) | exact absurd h (by simp [E.isStar])
theorem s_cons (ha : PE X e (tD Y X n ca)) (hr : PA X es (tL Y X n cs)) (hs : noStar e = true) (hc : ca.isStar = false) : PA X (e :: es) (tL Y X n (ca :: cs)) := PA.imp (pa_cons ha hr (starEach_cons hs)) fun σ Hh Q ⟨μ, h, ρ, r, g⟩ => by
  rw [denL_cons _ _ hc] at g
  obtain ⟨v1, h1, e1, g⟩ := g.bind
  obtain ⟨v2, h2, e2, g⟩ := g.bind
  refine tD.of r e1 fun μ1 H1 x x1 r1 w1 => ?_
  refine tL.of (r.mono x1 r1) e2 fun μ2 H2 xs x2 r2 w2 => ?_
  exact g μ2 H2 _ (x1.trans x2) r2 (.cons (VR.mono x2 _ _ w1) w2)
theorem itemsD_seq {μ : List Addr} {h : H} {Hh : Hp} {d : D} {x : V} {xs : List D} (r : RH (Y.sx X) μ h Hh) (w : VR X.K μ Hh d x) (e : itemsD d h = some xs) : ∃ a ys, x = .ref a ∧ (SqT X.K Hh a ys ∨ SqL X.K Hh a ys) ∧ VRs X.K μ Hh xs ys := by
  cases w with
  | @tup a xs' ys q v => simp only [itemsD, Option.some.injEq] at e; subst e; exact ⟨a, ys, rfl, .inl q.sq, v⟩
  | @ref p a ea =>
    simp only [itemsD] at e
    split at e
    · rename_i xs' eo
      cases e
      obtain ⟨ys, h1, h2⟩ := r.seq (.inl eo) ea
      exact ⟨a, ys, rfl, .inr h1, h2⟩
    · rename_i xs' eo
      cases e
      obtain ⟨ys, h1, h2⟩ := r.seq (.inr eo) ea
      exact ⟨a, ys, rfl, .inr h1, h2⟩
    · cases e
  | _ => simp [itemsD] at e
theorem listD_seq {μ : List Addr} {h : H} {Hh : Hp} {d : D} {x : V} {xs : List D} (r : RH (Y.sx X) μ h Hh) (w : VR X.K μ Hh d x) (e : listD d h = some xs) : ∃ a ys, x = .ref a ∧ SqL X.K Hh a ys ∧ VRs X.K μ Hh xs ys := by
  cases w with
  | @ref p a ea =>
    simp only [listD] at e
    split at e
    · rename_i xs' eo
      cases e
      obtain ⟨ys, h1, h2⟩ := r.seq (.inl eo) ea
      exact ⟨a, ys, rfl, h1, h2⟩
    · rename_i xs' eo
      cases e
      obtain ⟨ys, h1, h2⟩ := r.seq (.inr eo) ea
      exact ⟨a, ys, rfl, h1, h2⟩
    · cases e
  | _ => simp [listD] at e
theorem s_star {p : Pos} (ha : PE X e (tD Y X n ca)) (hr : PA X es (tL Y X n cs)) : PA X (.Starred e p :: es) (tL Y X n (.star ca :: cs)) := PA.imp (StX.pa_star ha hr rfl) fun σ Hh Q ⟨μ, h, ρ, r, g⟩ => by
  simp only [denL] at g
  obtain ⟨v1, h1, e1, g⟩ := g.bind
  refine tD.of r e1 fun μ1 H1 x x1 r1 w1 => ?_
  split at g
  · exact g.elim
  · rename_i ys ei
    obtain ⟨a, zs, rfl, hq, wz⟩ := itemsD_seq r1 w1 ei
    obtain ⟨v2, h2, e2, g⟩ := g.bind
    refine ⟨a, zs, rfl, hq, tL.of (r.mono x1 r1) e2 fun μ2 H2 xs x2 r2 w2 => ?_⟩
    exact g μ2 H2 _ (x1.trans x2) r2 ((VRs.mono x2 _ _ wz).append w2)
/-! ### displays -/
theorem s_tup {k : Nat} (ha : PA X es (tL Y X n cs)) : PE X (.Tuple es k pos) (tD Y X n (.tup cs)) := PE.imp (pe_tupF ha) fun σ Hh Q ⟨μ, h, ρ, r, g⟩ => by
  simp only [den] at g
  obtain ⟨v1, h1, e1, g⟩ := g.bind
  refine tL.of r e1 fun μ1 H1 xs x1 r1 w1 => ?_
  simp only [newT] at g
  split at g
  · rename_i hl
    rw [sc_line, w1.length] at hl
    exact ⟨hl, Want.tup r1 w1 fun μ2 H2 y x2 r2 w2 => g μ2 H2 y (x1.trans x2) r2 w2⟩
  · exact g.elim
theorem s_lst (ha : PA X es (tL Y X n cs)) : PE X (.List es pos) (tD Y X n (.lst cs)) := PE.imp (pe_lst ha) fun σ Hh Q ⟨μ, h, ρ, r, g⟩ => by
  simp only [den] at g
  obtain ⟨v1, h1, e1, g⟩ := g.bind
  refine tL.of r e1 fun μ1 H1 xs x1 r1 w1 => ?_
  simp only [newL] at g
  split at g
  · rename_i hl
    rw [sc_line, w1.length] at hl
    exact ⟨hl, Want.lst r1 w1 fun μ2 H2 y x2 r2 w2 => g μ2 H2 y (x1.trans x2) r2 w2⟩
  · exact g.elim
/-! ### -x -/
theorem s_neg (da : PE X a (tD Y X n ca)) : PE X (.UnaryOp .USub a pos) (tD Y X n (.neg ca)) := PE.imp (pe_un un_neg da) fun σ Hh Q ⟨μ, h, ρ, r, g⟩ => by
  simp only [den] at g
  obtain ⟨v1, h1, e1, g⟩ := g.bind
  refine tD.of r e1 fun μ1 H1 x x1 r1 w1 => ?_
  cases w1 with
  | int i => exact ⟨i, rfl, g μ1 H1 _ x1 r1 (.int _)⟩
  | _ => exact g.elim
/-! ### slices -/
theorem s_part {o : Option Expr} {co : Option E} (h : match o, co with | none, none => True | some e, some c => PE X e (tD Y X n c) | _, _ => False) :
    PO X o fun σ Hh Q => ∃ μ h ρ, RS (Y.sx X) μ h ρ σ Hh ∧ Good (denO Y.T (Y.Φ n) co ρ h) fun i h' => ∀ μ' H', Ext X.K μ Hh μ' H' → RH (Y.sx X) μ' h' H' → Q i H' := by
  cases o with
  | none =>
    cases co with
    | none => exact ⟨fun pins s σ Hh Q I ⟨μ, h, ρ, r, g⟩ => po_none.run pins s σ Hh Q I (by simp only [denO] at g; exact g μ Hh Ext.refl r.rh)⟩
    | some _ => exact h.elim
  | some e =>
    cases co with
    | none => exact h.elim
    | some c =>
      refine ⟨fun pins s σ Hh Q I ⟨μ, hh, ρ, r, g⟩ => (po_some h).run pins s σ Hh Q I ?_⟩
      simp only [denO] at g
      obtain ⟨v1, h1, e1, g⟩ := g.bind
      refine tD.of r e1 fun μ1 H1 x x1 r1 w1 => ?_
      cases w1 with
      | int i => exact ⟨i, rfl, g μ1 H1 x1 r1⟩
      | _ => exact g.elim
theorem cut_vrs {μ : List Addr} {Hh : Hp} {xs : List D} {ys : List V} (w : VRs X.K μ Hh xs ys) (lo hi : Option Int) : VRs X.K μ Hh (cutL xs lo hi) (cutV ys lo hi) := by
  unfold cutL cutV
  rw [w.length]
  exact (w.drop _).take _
theorem sl_any : SlR X (fun x lo hi Hh Q => ∃ μ h d, RH (Y.sx X) μ h Hh ∧ VR X.K μ Hh d x ∧ Good (sliceD d lo hi h) (Want Y X μ Hh Q)) := by
  intro pins s σ Hh x v vl vu lo hi sl Q I rx hs pl pu ⟨μ, h, d, r, w, g⟩
  have lst : ∀ (a : Addr) (xs : List D) (ys : List V), x = .ref a → SqL X.K Hh a ys → VRs X.K μ Hh xs ys → Good (alloc (.lst (cutL xs lo hi)) h) (Want Y X μ Hh Q) → _ := fun a xs ys ex q ws g =>
    sl_list pins s σ Hh x v vl vu lo hi sl Q I rx hs pl pu ⟨a, ys, ex, q, Want.lst r (cut_vrs ws lo hi) g⟩
  cases w with
  | @tup a xs ys q ws =>
    refine sl_tupF pins s σ Hh _ v vl vu lo hi sl Q I rx hs pl pu ⟨a, ys, rfl, q.sq, fun hw => ?_, fun _ p o hp hd => Want.tup r (cut_vrs ws lo hi) g p o hp hd⟩
    have e : cutL xs lo hi = xs := by
      unfold cutL
      rw [ws.length, hw.1, hw.2, ← ws.length]
      simp
    refine g μ Hh _ Ext.refl r ?_
    rw [e]
    exact .tup q ws
  | @ref p a ea =>
    simp only [sliceD] at g
    split at g
    · rename_i xs eo
      obtain ⟨ys, h1, ws⟩ := r.seq (.inl eo) ea
      exact lst a xs ys rfl h1 ws g
    · rename_i xs eo
      obtain ⟨ys, h1, ws⟩ := r.seq (.inr eo) ea
      exact lst a xs ys rfl h1 ws g
    · exact g.elim
  | _ => exact g.elim
theorem s_slice {lo hi : Option Expr} {clo chi : Option E} {p2 : Pos} (da : PE X a (tD Y X n ca)) (hl : match lo, clo with | none, none => True | some e, some c => PE X e (tD Y X n c) | _, _ => False)
    (hh : match hi, chi with | none, none => True | some e, some c => PE X e (tD Y X n c) | _, _ => False) : PE X (.Subscript a (.Slice lo hi none p2) pos) (tD Y X n (.slice ca clo chi)) :=
  PE.imp (pe_slice sl_any da (s_part hl) (s_part hh)) fun σ Hh Q ⟨μ, h, ρ, r, g⟩ => by
    simp only [den] at g
    obtain ⟨v1, h1, e1, g⟩ := g.bind
    obtain ⟨v2, h2, e2, g⟩ := g.bind
    obtain ⟨v3, h3, e3, g⟩ := g.bind
    refine tD.of r e1 fun μ1 H1 x x1 r1 w1 => ?_
    refine ⟨μ1, h1, ρ, r.mono x1 r1, ?_⟩
    rw [e2]
    intro μ2 H2 x2 r2
    refine ⟨μ2, h2, ρ, (r.mono x1 r1).mono x2 r2, ?_⟩
    rw [e3]
    intro μ3 H3 x3 r3
    refine ⟨μ3, h3, v1, r3, VR.mono (x2.trans x3) _ _ w1, ?_⟩
    obtain ⟨v4, h4, e4, g⟩ := g.ok
    rw [e4]
    exact fun μ' H' y x' r' w' => g μ' H' y (((x1.trans x2).trans x3).trans x') r' w'
/-! ### fields -/
theorem FR.look {names : List Str} (nd : names.Nodup) {K : PySem.W.Frag} {μ : List Addr} {Hh : Hp} {f : Nat} {x : Str} (hf : names[f]? = some x) : ∀ {fs : List (Nat × D)} {gs : List (Str × V)}, FR names K μ Hh fs gs →
    (getF f fs = none ∧ gs.lookup x = none) ∨ ∃ d v, getF f fs = some d ∧ gs.lookup x = some v ∧ VR K μ Hh d v
  | _, _, .nil => .inl ⟨rfl, rfl⟩
  | _, _, .cons (f := g) (x := y) (d := d) (v := v) e w t => by
    by_cases hg : g = f
    · subst hg
      rw [e] at hf
      cases hf
      exact .inr ⟨d, v, by simp [getF], by simp [List.lookup], w⟩
    · have hy : (x == y) = false := by
        rw [beq_eq_false_iff_ne]
        intro z
        subst z
        exact hg (nodup_ix nd e hf)
      rcases FR.look nd hf t with ⟨h1, h2⟩ | ⟨d', v', h1, h2, h3⟩
      · exact .inl ⟨by simp [getF, hg, h1], by simp [List.lookup, hy, h2]⟩
      · exact .inr ⟨d', v', by simp [getF, hg, h1], by simp [List.lookup, hy, h2], h3⟩
/-- the classes of the law -/
structure ClsOk (Y : Lw) (X : Cx) : Prop where
  nd : Y.names.Nodup
  cl : ∀ c C, Y.cls c = some C → Cls X.K C
theorem s_fld {f : Nat} {x : Str} (ok : ClsOk Y X) (hf : Y.names[f]? = some x) (hn : ∀ c C, Y.cls c = some C → NoAttr X.K C x) (da : PE X a (tD Y X n ca)) (hb : noSup a = true) : PE X (.Attribute a x pos) (tD Y X n (.fld ca f)) :=
  PE.imp (pe_fld da (base_of hb)) fun σ Hh Q ⟨μ, h, ρ, r, g⟩ => by
    simp only [den] at g
    obtain ⟨v1, h1, e1, g⟩ := g.bind
    refine tD.of r e1 fun μ1 H1 x x1 r1 w1 => ?_
    cases w1 with
    | @ref p a ea =>
      simp only [fldD] at g
      split at g
      · rename_i k fs eo
        obtain ⟨C, dx, gs, hC, hI, fr⟩ := r1.obj p _ a eo ea
        rcases FR.look ok.nd hf fr with ⟨q1, q2⟩ | ⟨d, v, q1, q2, wv⟩
        · rw [q1] at g; exact g.elim
        · rw [q1] at g
          exact ⟨a, C, dx, gs, v, rfl, hI, ok.cl k C hC, hn k C hC, q2, g μ1 H1 _ x1 r1 wv⟩
      · exact g.elim
    | _ => exact g.elim
end
end SC
end
end
section
set_option linter.all false
set_option maxRecDepth 100000
set_option Elab.async false
/-! SC7: built-ins by name. -/
noncomputable section
namespace SC
open PySem L2
/-! ### plain lists -/
theorem ins_perm (x : Int) : ∀ l : List Int, (insI x l).Perm (x :: l)
  | [] => .refl _
  | y :: r => by
    unfold insI
    split
    · exact .refl _
    · exact ((ins_perm x r).cons y).trans (.swap x y r)
theorem sort_perm : ∀ l : List Int, (sortI l).Perm l
  | [] => .refl _
  | x :: r => (ins_perm x _).trans ((sort_perm r).cons x)
theorem ins_sorted (x : Int) : ∀ l : List Int, l.Pairwise (· ≤ ·) → (insI x l).Pairwise (· ≤ ·)
  | [], _ => by simp [insI]
  | y :: r, h => by
    unfold insI
    rw [List.pairwise_cons] at h
    split
    · rename_i hx
      refine .cons (fun z hz => ?_) (.cons h.1 h.2)
      rcases List.mem_cons.mp hz with rfl | hz
      · exact hx
      · exact Int.le_trans hx (h.1 z hz)
    · rename_i hx
      refine .cons (fun z hz => ?_) (ins_sorted x r h.2)
      rcases List.mem_cons.mp ((ins_perm x r).mem_iff.mp hz) with rfl | hz
      · omega
      · exact h.1 z hz
theorem sort_sorted : ∀ l : List Int, (sortI l).Pairwise (· ≤ ·)
  | [] => .nil
  | x :: r => ins_sorted x _ (sort_sorted r)
theorem sorted_unique : ∀ {l m : List Int}, l.Perm m → l.Pairwise (· ≤ ·) → m.Pairwise (· ≤ ·) → l = m
  | [], m, p, _, _ => p.nil_eq
  | x :: l, [], p, _, _ => absurd p.symm.nil_eq (by simp)
  | x :: l, y :: m, p, hl, hm => by
    rw [List.pairwise_cons] at hl hm
    have h1 : x = y := by
      have a : x ∈ y :: m := p.mem_iff.mp List.mem_cons_self
      have b : y ∈ x :: l := p.mem_iff.mpr List.mem_cons_self
      rcases List.mem_cons.mp a with e | a
      · exact e
      · rcases List.mem_cons.mp b with e | b
        · exact e.symm
        · have := hl.1 y b
          have := hm.1 x a
          omega
    subst h1
    rw [sorted_unique (List.perm_cons x |>.mp p) hl.2 hm.2]
section
variable {Y : Lw} {X : Cx} {n : Nat} {e a b c : Expr} {es : List Expr} {ca cb cc : E} {cs : List E} {pos : Pos} {μ : List Addr} {Hh : Hp} {h : H}
theorem vrs_ints : ∀ {xs : List D} {ys : List V} {is : List Int}, VRs X.K μ Hh xs ys → intsOf xs = some is → ys = is.map V.int
  | _, _, is, .nil, e => by simp [intsOf] at e; subst e; rfl
  | _, _, is, .cons w ws, e => by
    cases w with
    | int i =>
      simp only [intsOf, Option.map_eq_some_iff] at e
      obtain ⟨l, e, rfl⟩ := e
      rw [vrs_ints ws e]
      rfl
    | _ => simp [intsOf] at e
theorem vrs_strs : ∀ {xs : List D} {ys : List V} {is : List Str}, VRs X.K μ Hh xs ys → strsOf xs = some is → ys = is.map V.str
  | _, _, is, .nil, e => by simp [strsOf] at e; subst e; rfl
  | _, _, is, .cons w ws, e => by
    cases w with
    | str i =>
      simp only [strsOf, Option.map_eq_some_iff] at e
      obtain ⟨l, e, rfl⟩ := e
      rw [vrs_strs ws e]
      rfl
    | _ => simp [strsOf] at e
theorem vrs_bools : ∀ {xs : List D} {ys : List V} {is : List Bool}, VRs X.K μ Hh xs ys → boolsOf xs = some is → ys = is.map V.bl
  | _, _, is, .nil, e => by simp [boolsOf] at e; subst e; rfl
  | _, _, is, .cons w ws, e => by
    cases w with
    | bl i =>
      simp only [boolsOf, Option.map_eq_some_iff] at e
      obtain ⟨l, e, rfl⟩ := e
      rw [vrs_bools ws e]
      rfl
    | _ => simp [boolsOf] at e
theorem ints_vrs : ∀ is : List Int, VRs X.K μ Hh (is.map D.int) (is.map V.int)
  | [] => .nil
  | i :: r => .cons (.int i) (ints_vrs r)
/-- a built-in with one argument, as the IR has it -/
def BR (Y : Lw) (X : Cx) (f : Value) (b : Bi) : Prop := CallR X f fun xs Hh Q => ∃ μ h d x, xs = [x] ∧ RH (Y.sx X) μ h Hh ∧ VR X.K μ Hh d x ∧ Good (bltD b d h) (Want Y X μ Hh Q)
theorem b_all (hc : X.calm = true) : BR Y X (.builtin "all") .all := by
  intro pins s σ Hh xs us Q I r ⟨μ, h, d, x, ex, rh, w, g⟩
  subst ex
  simp only [bltD] at g
  split at g
  · rename_i l el
    obtain ⟨a, ys, rfl, hq, wy⟩ := listD_seq rh w el
    split at g
    · rename_i bs eb
      have := vrs_bools wy eb
      subst this
      exact cr_all hc pins s σ Hh _ us Q I r ⟨a, bs, rfl, hq, g μ Hh _ Ext.refl rh (.bl _)⟩
    · exact g.elim
  · exact g.elim
theorem b_any (hc : X.calm = true) : BR Y X (.builtin "any") .any := by
  intro pins s σ Hh xs us Q I r ⟨μ, h, d, x, ex, rh, w, g⟩
  subst ex
  simp only [bltD] at g
  split at g
  · rename_i l el
    obtain ⟨a, ys, rfl, hq, wy⟩ := listD_seq rh w el
    split at g
    · rename_i bs eb
      have := vrs_bools wy eb
      subst this
      exact cr_any hc pins s σ Hh _ us Q I r ⟨a, bs, rfl, hq, g μ Hh _ Ext.refl rh (.bl _)⟩
    · exact g.elim
  · exact g.elim
theorem b_sum (hc : X.calm = true) : BR Y X (.builtin "sum") .sum := by
  intro pins s σ Hh xs us Q I r ⟨μ, h, d, x, ex, rh, w, g⟩
  subst ex
  simp only [bltD] at g
  split at g
  · rename_i l el
    obtain ⟨a, ys, rfl, hq, wy⟩ := listD_seq rh w el
    split at g
    · rename_i bs eb
      have := vrs_ints wy eb
      subst this
      exact cr_sum hc pins s σ Hh _ us Q I r ⟨a, bs, rfl, hq, g μ Hh _ Ext.refl rh (.int _)⟩
    · exact g.elim
  · exact g.elim
theorem b_int : BR Y X (.type "int") .int := by
  intro pins s σ Hh xs us Q I r ⟨μ, h, d, x, ex, rh, w, g⟩
  subst ex
  cases w with
  | int i => exact call_int1 pins s σ Hh _ us Q I r (.inl ⟨i, rfl, g μ Hh _ Ext.refl rh (.int _)⟩)
  | _ => exact g.elim
theorem b_tuple : BR Y X (.type "tuple") .tuple := by
  intro pins s σ Hh xs us Q I r ⟨μ, h, d, x, ex, rh, w, g⟩
  subst ex
  simp only [bltD] at g
  split at g
  · rename_i l el
    cases w with
    | @tup a xs' ys q v =>
      simp only [itemsD, Option.some.injEq] at el
      subst el
      exact call_tupleF pins s σ Hh _ us Q I r ⟨a, ys, rfl, .inr ⟨q.sq, g μ Hh _ Ext.refl rh (.tup q v)⟩⟩
    | @ref p a ea =>
      have el' : listD (.ref p) h = some l := el
      obtain ⟨a', ys, e, hq, wy⟩ := listD_seq rh (.ref ea) el'
      cases e
      exact call_tupleF pins s σ Hh _ us Q I r ⟨a, ys, rfl, .inl ⟨hq, Want.tup rh wy g⟩⟩
    | _ => simp [itemsD] at el
  · exact g.elim
theorem KR.length : ∀ {kvs : List (L2.Key × D)} {ws : List (L2.Key × V)}, KR X.K μ Hh kvs ws → kvs.length = ws.length
  | _, _, .nil => rfl
  | _, _, .cons _ t => by simp [KR.length t]
theorem KR.ints : ∀ {kvs : List (L2.Key × D)} {ws : List (L2.Key × V)} {is : List Int}, KR X.K μ Hh kvs ws → intKeys kvs = some is → ws.map (·.1) = is.map Sum.inl
  | _, _, is, .nil, e => by simp [intKeys] at e; subst e; rfl
  | _, _, is, .cons (k := k) w t, e => by
    cases k with
    | inl i =>
      simp only [intKeys, Option.map_eq_some_iff] at e
      obtain ⟨l, e, rfl⟩ := e
      simp [KR.ints t e]
    | inr x => simp [intKeys] at e
theorem b_sorted (hc : X.calm = true) : BR Y X (.builtin "sorted") .sorted := by
  intro pins s σ Hh xs us Q I r ⟨μ, h, d, x, ex, rh, w, g⟩
  subst ex
  have fin : ∀ is : List Int, Good (alloc (.lst ((sortI is).map .int)) h) (Want Y X μ Hh Q) → ∀ (ns' : List Int) (p : Addr), ns'.Perm is → ns'.Pairwise (· ≤ ·) → Hh p = none → Q (.ref p) (upd Hh p (.lst (ns'.map V.int))) := fun is g ns' p hp hs hn => by
    have e : ns' = sortI is := sorted_unique (hp.trans (sort_perm is).symm) hs (sort_sorted is)
    subst e
    exact Want.lst rh (ints_vrs _) g p hn
  simp only [bltD] at g
  split at g
  · rename_i l el
    obtain ⟨a, ys, rfl, hq, wy⟩ := listD_seq rh w el
    split at g
    · rename_i is eb
      have := vrs_ints wy eb
      subst this
      exact cr_sortedI pins s σ Hh _ us Q I r ⟨a, is, rfl, hq, fin is g⟩
    · exact g.elim
  · cases w with
    | @ref p a ea =>
      dsimp only at g
      split at g
      · rename_i kvs eo
        obtain ⟨ws, at_, kr, _⟩ := rh.obj p _ a eo ea
        split at g
        · rename_i is ek
          split at g
          · rename_i hl
            exact call_sortedDI hc pins s σ Hh _ us Q I r ⟨a, ws, is, rfl, at_.rd, kr.ints ek, hl, fin is g⟩
          · exact g.elim
        · exact g.elim
      · exact g.elim
    | _ => exact g.elim
/-- a dict's keys as a list -/
theorem kr_keys : ∀ {kvs : List (L2.Key × D)} {ws : List (L2.Key × V)}, KR X.K μ Hh kvs ws → VRs X.K μ Hh (kvs.map fun p => match p.1 with | .inl i => D.int i | .inr s => D.str s) (ws.map fun kv => kV kv.1)
  | _, _, .nil => .nil
  | _, _, .cons (k := k) w t => by
    refine .cons ?_ (kr_keys t)
    cases k with
    | inl i => exact .int i
    | inr x => exact .str x
theorem tr_keys : ∀ {kvs : List (D × D)} {xs : List (NestedKey × Addr × Value)}, TR X.K μ Hh kvs xs → VRs X.K μ Hh (kvs.map (·.1)) (xs.map fun x => V.ref x.2.1)
  | _, _, .nil => .nil
  | _, _, .cons p w _ _ t => .cons w (tr_keys t)
theorem keys_vals : ∀ (xs : List (NestedKey × Addr × Value)), Vals (xs.map fun x => V.ref x.2.1) (xs.map fun x => Value.ref x.2.1)
  | [] => .nil
  | _ :: r => .cons rfl (keys_vals r)
theorem b_len : BR Y X (.builtin "len") .len := by
  intro pins s σ Hh xs us Q I r ⟨μ, h, d, x, ex, rh, w, g⟩
  subst ex
  simp only [bltD] at g
  split at g
  · rename_i m em
    have fin : Q (.int m) Hh := g μ Hh _ Ext.refl rh (.int _)
    cases w with
    | @tup a xs' ys q v =>
      simp only [lenD, Option.some.injEq] at em
      subst em
      rw [v.length] at fin
      exact call_len_seq pins s σ Hh _ us Q I r ⟨a, ys, rfl, .inr q.sq, fin⟩
    | @ref p a ea =>
      simp only [lenD] at em
      split at em
      · rename_i l eo
        cases em
        obtain ⟨ys, h1, h2⟩ := rh.seq (.inl eo) ea
        rw [h2.length] at fin
        exact call_len_seq pins s σ Hh _ us Q I r ⟨a, ys, rfl, .inl h1, fin⟩
      · rename_i l eo
        cases em
        obtain ⟨ys, h1, h2⟩ := rh.seq (.inr eo) ea
        rw [h2.length] at fin
        exact call_len_seq pins s σ Hh _ us Q I r ⟨a, ys, rfl, .inl h1, fin⟩
      · rename_i kvs eo
        obtain ⟨ws, at_, kr, _⟩ := rh.obj p _ a eo ea
        split at em
        · cases em
        · rename_i hlk
          cases em
          rw [kr.length] at fin
          unfold At at at_
          rw [if_neg hlk] at at_
          exact call_lenD pins s σ Hh _ us Q I r ⟨a, ws, rfl, at_, fin⟩
      · rename_i kvs eo
        obtain ⟨zs, at_, ha, hz, tr, nd⟩ := rh.obj p _ a eo ea
        cases em
        obtain ⟨u, rfl, rx⟩ := vals1 r
        obtain rfl : u = .ref a := rx
        have hl := tr.length
        refine call_len_dictH ha (dictH I at_ tr nd) (by rw [← hl]; rw [sizeLine_eq] at hz; omega) ?_
        rw [← hl]
        exact ⟨.int ((kvs.length : Nat) : Int), Hh, I.tok _, ⟨_, rfl⟩, fin⟩
      · cases em
    | _ => simp [lenD] at em
  · exact g.elim
theorem b_list (hc : X.calm = true) : BR Y X (.type "list") .list := by
  intro pins s σ Hh xs us Q I r ⟨μ, h, d, x, ex, rh, w, g⟩
  subst ex
  simp only [bltD] at g
  split at g
  · rename_i l el
    obtain ⟨a, ys, rfl, hq, wy⟩ := itemsD_seq rh w el
    exact call_list_of pins s σ Hh _ us Q I r ⟨a, ys, rfl, hq.symm, Want.lst rh wy g⟩
  · split at g
    · rename_i l el
      cases w with
      | @ref p a ea =>
        simp only [keysD] at el
        split at el
        · rename_i kvs eo
          cases el
          obtain ⟨zs, at_, ha, hz, tr, nd⟩ := rh.obj p _ a eo ea
          obtain ⟨u, rfl, rx⟩ := vals1 r
          obtain rfl : u = .ref a := rx
          obtain ⟨o, es, ep, ho, hx, hdt, he, _, _⟩ := dictH I at_ tr nd
          have l1 : es.size = zs.length := size_of_entries he
          have l2 := tr.length
          refine PySem.W.kdl_call (kdl_raw ha hx hdt) (I.ok.hd hc) ho (by rw [sizeLine_eq] at *; omega) fun h' tk acc' c' kp e it => ?_
          have ea' : acc'.toList = zs.map fun x => Value.ref x.2.1 := by
            have hl : acc'.toList.length = zs.length := by rw [Array.length_toList, it.1]; exact l1
            apply List.ext_getElem?
            intro j
            rw [List.getElem?_map]
            cases hj : acc'.toList[j]? with
            | none =>
              have h1 := List.getElem?_eq_none_iff.mp hj
              rw [List.getElem?_eq_none (by omega)]
              all_goals rfl
            | some v =>
              obtain ⟨en, hen, hv⟩ := it.2 j v (by rw [← Array.getElem?_toList]; exact hj)
              have qe := entry_at he j
              rw [hen] at qe
              cases hb : zs[j]? with
              | none =>
                rw [hb] at qe
                exact nomatch (show some en = none from qe)
              | some b =>
                rw [hb] at qe
                have e2 : en = entryOfKey (nestedKind X.prog X.w) b := Option.some.inj qe
                rw [hv, e2]
                all_goals rfl
          have rv : Vals (zs.map fun x => V.ref x.2.1) acc'.toList := by rw [ea']; exact keys_vals _
          have hz' : (zs.map fun x => V.ref x.2.1).length ≤ sizeLine := by rw [List.length_map]; omega
          refine ⟨.ref s.heap.objs.size, _, I.laid (t' := tk) (o := .lst (zs.map fun x => V.ref x.2.1)) kp (Nat.le_refl _) ?_, rfl, Want.lst rh (tr_keys tr) g _ (I.hok.fresh (Nat.le_refl _))⟩
          exact ⟨hz', acc'.toList, c', rv, by rw [Array.toArray_toList]; exact e⟩
        · rename_i kvs eo
          cases el
          obtain ⟨ws, at_, kr, _⟩ := rh.obj p _ a eo ea
          exact call_listD hc pins s σ Hh _ us Q I r ⟨a, ws, rfl, at_.rd, Want.lst rh (kr_keys kr) g⟩
        · cases el
      | _ => simp [keysD] at el
    · exact g.elim
/-! ### calls by name -/
theorem one_arg {f : Value} {b : Bi} : ∀ σ Hh Q, tD Y X n (.blt b ca) σ Hh Q → tCB (fun xs Hh Q => ∃ μ h d x, xs = [x] ∧ RH (Y.sx X) μ h Hh ∧ VR X.K μ Hh d x ∧ Good (bltD b d h) (Want Y X μ Hh Q)) (tCons (tD Y X n ca) tNil) σ Hh Q := fun σ Hh Q ⟨μ, h, ρ, r, g⟩ => by
  simp only [den] at g
  obtain ⟨v1, h1, e1, g⟩ := g.bind
  refine tD.of r e1 fun μ1 H1 x x1 r1 w1 => ?_
  refine ⟨μ1, h1, v1, x, rfl, r1, w1, ?_⟩
  obtain ⟨v4, h4, e4, g⟩ := g.ok
  rw [e4]
  exact fun μ' H' y x' r' w' => g μ' H' y (x1.trans x') r' w'
theorem s_bltB {id : String} {b : Bi} {x : Str} {p : Pos} (hb : BR Y X (.builtin id) b) (hg : Gl X x) (hm : X.mg x = none) (hv : bootBuiltins x = some (.builtin id)) (da : PE X a (tD Y X n ca)) (hs : noStar a = true) (hn : x ≠ "__name__") (hd : (x == ("__debug__" : Str)) = false) :
    PE X (.Call (.Name x p) [a] [] pos) (tD Y X n (.blt b ca)) :=
  PE.imp (pe_callB hb hg hm hv (pa_cons da pa_nil (starEach_cons hs)) hn hd (starEach_cons hs) rfl) (one_arg (f := .none))
theorem s_bltT {id : String} {b : Bi} {x : Str} {p : Pos} (hb : BR Y X (.type id) b) (hg : Gl X x) (hm : X.mg x = none) (hv : bootBuiltins x = some (.type id)) (da : PE X a (tD Y X n ca)) (hs : noStar a = true) (hn : x ≠ "__name__") (hd : (x == ("__debug__" : Str)) = false) :
    PE X (.Call (.Name x p) [a] [] pos) (tD Y X n (.blt b ca)) :=
  PE.imp (pe_callTy hb hg hm hv (pa_cons da pa_nil (starEach_cons hs)) hn hd (starEach_cons hs) rfl) (one_arg (f := .none))
end
end SC
end
end
section
set_option linter.all false
set_option maxRecDepth 100000
set_option Elab.async false
/-! SC8: isinstance, methods of built-ins. -/
noncomputable section
namespace SC
open PySem L2
section
variable {Y : Lw} {X : Cx} {n : Nat} {e a b c : Expr} {es : List Expr} {ca cb cc : E} {cs : List E} {pos : Pos} {μ : List Addr} {Hh : Hp} {h : H}
def basicT : List String := ["NoneType", "bool", "int", "str", "list", "tuple", "dict"]
/-- what isinstance asks of a class -/
structure IsC (Y : Lw) (K : PySem.W.Frag) (c : Nat) (C : Addr) : Prop where
  cl : Cls K C
  ha : PySem.W.findIn K (.ref C) "__class__" = some (some (.builtin "object.__class__"))
  hn : PySem.W.specialIn K (.builtin "object.__class__") "__get__" = some (some (.builtin "getset_descriptor.__get__"))
  ht : PySem.W.takesIn K (.builtin "object.__class__") = some true
  hm : PySem.W.mroIn K C (.type "object") = some true
  from_ : ∀ T ∈ basicT, PySem.W.kitOne K (.type T) (.ref C) = some false
  to_ : ∀ T ∈ basicT, PySem.W.kitOne K (.ref C) (.type T) = some false
  own : ∀ c' C', Y.cls c' = some C' → PySem.W.kitOne K (.ref C) (.ref C') = some (decide (c = c'))
/-- the type as the model has it -/
def tyV' (Y : Lw) : Sum String Nat → Value → Prop
  | .inl s, t => t = .type s ∧ s ∈ basicT
  | .inr k, t => ∃ C, Y.cls k = some C ∧ t = .ref C
theorem ty_ok (ic : ∀ c C, Y.cls c = some C → IsC Y X.K c C) {d : D} {x : V} {ty : Sum String Nat} (r : RH (Y.sx X) μ h Hh) (w : VR X.K μ Hh d x) (e : tyD d h = some ty) : ∃ t, TyX X.K Hh x t ∧ tyV' Y ty t := by
  cases w with
  | non => simp only [tyD, Option.some.injEq] at e; subst e; exact ⟨_, .base .non, rfl, by simp [basicT]⟩
  | bl b => simp only [tyD, Option.some.injEq] at e; subst e; exact ⟨_, .base (.bl b), rfl, by simp [basicT]⟩
  | int b => simp only [tyD, Option.some.injEq] at e; subst e; exact ⟨_, .base (.int b), rfl, by simp [basicT]⟩
  | str b => simp only [tyD, Option.some.injEq] at e; subst e; exact ⟨_, .base (.str b), rfl, by simp [basicT]⟩
  | @tup a xs ys q v =>
    simp only [tyD, Option.some.injEq] at e; subst e
    rcases q with ⟨o, q, _⟩ | ⟨o, its, m, q1, q2, _⟩
    · exact ⟨_, .fTuple q, rfl, by simp [basicT]⟩
    · exact ⟨_, .kTuple q1 q2, rfl, by simp [basicT]⟩
  | @ref p a ea =>
    simp only [tyD] at e
    split at e
    · rename_i xs eo
      cases e
      obtain ⟨ys, h1, _⟩ := r.list eo ea
      exact ⟨_, .base (.lst h1), rfl, by simp [basicT]⟩
    · rename_i xs eo
      cases e
      obtain ⟨o, ys, h1, _⟩ := r.obj p _ a eo ea
      exact ⟨_, .base (.frz h1), rfl, by simp [basicT]⟩
    · rename_i kvs eo
      cases e
      obtain ⟨ws, at_, _⟩ := r.obj p _ a eo ea
      unfold At at at_
      split at at_
      · obtain ⟨o, at_⟩ := at_
        exact ⟨_, .fDict at_, rfl, by simp [basicT]⟩
      · exact ⟨_, .base (.dK at_), rfl, by simp [basicT]⟩
    · rename_i k fs eo
      cases e
      obtain ⟨C, dx, gs, hC, hI, _⟩ := r.obj p _ a eo ea
      have i := ic k C hC
      exact ⟨_, .base (.ins hI i.cl i.ha i.hn i.ht i.hm), C, hC, rfl⟩
    · cases e
/-- the built-in types that are asked -/
def tyS : Ty → Option String
  | .int => some "int" | .bool => some "bool" | .str => some "str" | .tuple => some "tuple" | _ => none
theorem kit_ok (ic : ∀ c C, Y.cls c = some C → IsC Y X.K c C) {ty : Sum String Nat} {t : Value} {q : Ty} {U : String} (v : tyV' Y ty t) (e : tyS q = some U) : PySem.W.kitOne X.K t (.type U) = some (kitT ty q) := by
  cases ty with
  | inl s =>
    obtain ⟨rfl, hs⟩ := v
    have key : ∀ s ∈ basicT, kitB s "int" = some (s == "int" || s == "bool") ∧ kitB s "bool" = some (s == "bool") ∧ kitB s "str" = some (s == "str") ∧ kitB s "tuple" = some (s == "tuple") := by decide +kernel
    obtain ⟨k1, k2, k3, k4⟩ := key s hs
    cases q <;> simp only [tyS, Option.some.injEq, reduceCtorEq] at e <;> subst e
    · exact kit_ty k1
    · exact kit_ty k2
    · exact kit_ty k3
    · exact kit_ty k4
  | inr k =>
    obtain ⟨C, hC, rfl⟩ := v
    have i := ic k C hC
    cases q <;> simp only [tyS, Option.some.injEq, reduceCtorEq] at e <;> subst e
    · exact i.to_ _ (by simp [basicT])
    · exact i.to_ _ (by simp [basicT])
    · exact i.to_ _ (by simp [basicT])
    · exact i.to_ _ (by simp [basicT])
theorem kit_lt (ic : ∀ c C, Y.cls c = some C → IsC Y X.K c C) {ty : Sum String Nat} {t : Value} (v : tyV' Y ty t) : PySem.W.kitAny X.K t [.type "list", .type "tuple"] = some (kitT ty .lt) := by
  cases ty with
  | inl s =>
    obtain ⟨rfl, hs⟩ := v
    have key : ∀ s ∈ basicT, kitB s "list" = some (s == "list") ∧ kitB s "tuple" = some (s == "tuple") := by decide +kernel
    obtain ⟨k1, k2⟩ := key s hs
    simp only [PySem.W.kitAny, kit_ty k1, kit_ty k2, kitT]
    cases (s == "list") <;> cases (s == "tuple") <;> rfl
  | inr k =>
    obtain ⟨C, hC, rfl⟩ := v
    have i := ic k C hC
    simp only [PySem.W.kitAny, i.to_ "list" (by simp [basicT]), i.to_ "tuple" (by simp [basicT]), kitT]
theorem kit_own (ic : ∀ c C, Y.cls c = some C → IsC Y X.K c C) {ty : Sum String Nat} {t : Value} {c : Nat} {C : Addr} (v : tyV' Y ty t) (hC : Y.cls c = some C) : PySem.W.kitOne X.K t (.ref C) = some (kitT ty (.cls c)) := by
  cases ty with
  | inl s =>
    obtain ⟨rfl, hs⟩ := v
    exact (ic c C hC).from_ s hs
  | inr k =>
    obtain ⟨C', hC', rfl⟩ := v
    exact (ic k C' hC').own c C hC
theorem s_isiB {t : Ty} {U x : Str} {T : String} {p p' : Pos} (ic : ∀ c C, Y.cls c = some C → IsC Y X.K c C) (hg : Gl X "isinstance") (hm : X.mg "isinstance" = none) (hU : Gl X U) (hmU : X.mg U = none) (hb : bootBuiltins U = some (.type T)) (et : tyS t = some T)
    (nU : U ≠ "__name__") (dU : (U == ("__debug__" : Str)) = false) (da : PE X a (tD Y X n ca)) (hs : noStar a = true) : PE X (.Call (.Name "isinstance" p) [a, .Name U p'] [] pos) (tD Y X n (.isi ca t)) := by
  have hv : bootBuiltins "isinstance" = some (.builtin "isinstance") := by decide +kernel
  refine PE.imp (pe_callB call_isi hg hm hv (pa_cons da (pa_cons (pe_bltn (v := .ty T) hU hmU hb rfl nU dU) pa_nil rfl) (starEach_cons hs)) (by decide) (by decide) (starEach_cons hs) rfl) fun σ Hh Q ⟨μ, h, ρ, r, g⟩ => ?_
  simp only [den] at g
  obtain ⟨v1, h1, e1, g⟩ := g.bind
  refine tD.of r e1 fun μ1 H1 x x1 r1 w1 => ?_
  obtain ⟨b, eb, g⟩ := g.retB
  simp only [isiD, Option.map_eq_some_iff] at eb
  obtain ⟨ty, ety, rfl⟩ := eb
  obtain ⟨tv, tx, tyv⟩ := ty_ok ic r1 w1 ety
  exact ⟨x, .ty T, tv, .type T, _, rfl, .ty T, tx, kit_ok ic tyv et, g μ1 H1 _ x1 r1 (.bl _)⟩
theorem s_isiC {k : Nat} {C : Addr} {U : Str} {p p' : Pos} (ic : ∀ c C, Y.cls c = some C → IsC Y X.K c C) (hg : Gl X "isinstance") (hm : X.mg "isinstance" = none) (hU : Gl X U) (hmU : X.mg U = some (.ref C)) (hC : Y.cls k = some C)
    (dU : (U == ("__debug__" : Str)) = false) (da : PE X a (tD Y X n ca)) (hs : noStar a = true) : PE X (.Call (.Name "isinstance" p) [a, .Name U p'] [] pos) (tD Y X n (.isi ca (.cls k))) := by
  have hv : bootBuiltins "isinstance" = some (.builtin "isinstance") := by decide +kernel
  refine PE.imp (pe_callB call_isi hg hm hv (pa_cons da (pa_cons (pe_glob (v := .ref C) hU hmU rfl dU) pa_nil rfl) (starEach_cons hs)) (by decide) (by decide) (starEach_cons hs) rfl) fun σ Hh Q ⟨μ, h, ρ, r, g⟩ => ?_
  simp only [den] at g
  obtain ⟨v1, h1, e1, g⟩ := g.bind
  refine tD.of r e1 fun μ1 H1 x x1 r1 w1 => ?_
  obtain ⟨b, eb, g⟩ := g.retB
  simp only [isiD, Option.map_eq_some_iff] at eb
  obtain ⟨ty, ety, rfl⟩ := eb
  obtain ⟨tv, tx, tyv⟩ := ty_ok ic r1 w1 ety
  exact ⟨x, .ref C, tv, .ref C, _, rfl, .own C, tx, kit_own ic tyv hC, g μ1 H1 _ x1 r1 (.bl _)⟩
theorem s_isiL {p p1 p2 p3 : Pos} {kk : Nat} (ic : ∀ c C, Y.cls c = some C → IsC Y X.K c C) (hg : Gl X "isinstance") (hm : X.mg "isinstance" = none) (g1 : Gl X "list") (m1 : X.mg "list" = none) (g2 : Gl X "tuple") (m2 : X.mg "tuple" = none)
    (da : PE X a (tD Y X n ca)) (hs : noStar a = true) : PE X (.Call (.Name "isinstance" p) [a, .Tuple [.Name "list" p1, .Name "tuple" p2] kk p3] [] pos) (tD Y X n (.isi ca .lt)) := by
  have hv : bootBuiltins "isinstance" = some (.builtin "isinstance") := by decide +kernel
  have b1 : bootBuiltins "list" = some (.type "list") := by decide +kernel
  have b2 : bootBuiltins "tuple" = some (.type "tuple") := by decide +kernel
  refine PE.imp (pe_callB call_isiT hg hm hv (pa_cons da (pa_cons (pe_tup (pa_cons (pe_bltn (v := .ty "list") g1 m1 b1 rfl (by decide) (by decide)) (pa_cons (pe_bltn (v := .ty "tuple") g2 m2 b2 rfl (by decide) (by decide)) pa_nil rfl) rfl)) pa_nil rfl) (starEach_cons hs)) (by decide) (by decide) (starEach_cons hs) rfl) fun σ Hh Q ⟨μ, h, ρ, r, g⟩ => ?_
  simp only [den] at g
  obtain ⟨v1, h1, e1, g⟩ := g.bind
  refine tD.of r e1 fun μ1 H1 x x1 r1 w1 => ?_
  refine ⟨by show 2 ≤ sizeLine; rw [sizeLine_eq]; decide, fun q hq => ?_⟩
  obtain ⟨b, eb, g⟩ := g.retB
  simp only [isiD, Option.map_eq_some_iff] at eb
  obtain ⟨ty, ety, rfl⟩ := eb
  have x2 : Ext X.K μ1 H1 μ1 (upd H1 q (.tup [.ty "list", .ty "tuple"])) := Ext.new (X := Y.sx X) hq
  have r2 : RH (Y.sx X) μ1 h1 (upd H1 q (.tup [.ty "list", .ty "tuple"])) := r1.new hq
  obtain ⟨tv, tx, tyv⟩ := ty_ok ic r2 (VR.mono x2 _ _ w1) ety
  exact ⟨x, q, _, tv, _, _, rfl, upd_same, .cons (.ty "list") (.cons (.ty "tuple") .nil), tx, kit_lt ic tyv, g μ1 _ _ (x1.trans x2) r2 (.bl _)⟩
/-! ### writing -/
/-- an object of the small heap is changed -/
theorem RH.put (r : RH (Y.sx X) μ h Hh) {p : Nat} {a : Addr} {o o' : AO} {u : HO} (ea : μ[p]? = some a) (eo : h.o[p]? = some o) (hz : ∀ ob z, Hh a ≠ some (.frz ob z)) (new : OR (Y.sx X) μ (upd Hh a u) a (h.lk.contains p) o') :
    RH (Y.sx X) μ (h.put p o') (upd Hh a u) ∧ Ext X.K μ Hh μ (upd Hh a u) := by
  have q := r.obj p o a eo ea
  have ext : Ext X.K μ Hh μ (upd Hh a u) := ⟨List.prefix_refl _, TK.upd hz⟩
  refine ⟨⟨by simp [H.put, r.len], r.nd, fun m o'' b e e' => ?_, fun m hm => by have := r.lko m hm; simpa [H.put] using this⟩, ext⟩
  by_cases hm : m = p
  · subst hm
    have hlt : m < h.o.length := (List.getElem?_eq_some_iff.mp eo).1
    have e1 : (h.o.set m o')[m]? = some o'' := e
    rw [List.getElem?_set_self hlt] at e1
    cases e1
    rw [ea] at e'
    cases e'
    exact new
  · have e1 : (h.o.set p o')[m]? = some o'' := e
    rw [List.getElem?_set_ne (Ne.symm hm)] at e1
    have q2 := r.obj m o'' b e1 e'
    refine q2.mono ext (upd_ne fun z => hm ?_)
    subst z
    exact nodup_ix' r.nd e' ea
where
  nodup_ix' {l : List Addr} (nd : l.Nodup) {i j : Nat} {x : Addr} (a : l[i]? = some x) (b : l[j]? = some x) : i = j := by
    obtain ⟨h1, e1⟩ := List.getElem?_eq_some_iff.mp a
    obtain ⟨h2, e2⟩ := List.getElem?_eq_some_iff.mp b
    exact (List.getElem_inj nd).mp (e1.trans e2.symm)
/-! ### methods -/
/-- what a built-in's method does, as the IR has it -/
def BMR (Y : Lw) (X : Cx) (id : String) (b : Bm) : Prop := MtR X id fun x xs Hh Q => ∃ μ h d ds, RH (Y.sx X) μ h Hh ∧ VR X.K μ Hh d x ∧ VRs X.K μ Hh ds xs ∧ Good (bmD b d ds h) (Want Y X μ Hh Q)
theorem Good.write {α : Type} {p : Nat} {o : AO} {x : α} {k : α → H → Prop} (g : Good (h.write p o x) k) : k x (h.put p o) := by
  unfold H.write at g
  split at g
  · exact g.elim
  · exact g
theorem m_append : BMR Y X "list.append" .append := by
  intro pins s σ Hh x xs v us Q I rx rv ⟨μ, h, d, ds, r, w, ws, g⟩
  cases w with
  | @ref p a ea =>
    simp only [bmD] at g
    split at g
    · rename_i p' y eq
      cases eq
      split at g
      · rename_i l eo
        split at g
        · rename_i hl
          obtain ⟨ys, h1, h2⟩ := r.list eo ea
          cases ws with
          | @cons _ z _ _ w1 wr =>
            cases wr
            rw [sc_line, h2.length] at hl
            refine mt_append pins s σ Hh _ _ v us Q I rx rv ⟨a, ys, z, rfl, rfl, h1, hl, ?_⟩
            have ext0 : Ext X.K μ Hh μ (upd Hh a (.lst (ys ++ [z]))) := ⟨List.prefix_refl _, TK.upd (by rw [h1]; simp)⟩
            have q := r.put (u := .lst (ys ++ [z])) (o' := .lst (l ++ [y])) ea eo (by rw [h1]; simp) ⟨_, upd_same, VRs.mono ext0 _ _ (h2.append (.cons w1 .nil))⟩
            exact g.write μ _ _ q.2 q.1 .non
        · exact g.elim
      · exact g.elim
    · exact g.elim
  | _ => exact g.elim
theorem m_pop0 : BMR Y X "list.pop" .pop0 := by
  intro pins s σ Hh x xs v us Q I rx rv ⟨μ, h, d, ds, r, w, ws, g⟩
  cases w with
  | @ref p a ea =>
    simp only [bmD] at g
    split at g
    · rename_i p' i eq
      cases eq
      split at g
      · rename_i z l eo
        split at g
        · rename_i hi
          subst hi
          obtain ⟨ys, h1, h2⟩ := r.list eo ea
          cases ws with
          | cons w1 wr =>
            cases wr
            cases w1
            cases h2 with
            | @cons _ y _ ys' wz wl =>
              refine mt_popAt pins s σ Hh _ _ v us Q I rx rv ⟨a, y :: ys', 0, 0, y, rfl, rfl, h1, by decide, by decide, ?_, rfl, ?_⟩
              · exact PySem.StrLaws.seqIndex_nonneg (by omega) (by simp <;> omega)
              · have ext0 : Ext X.K μ Hh μ (upd Hh a (.lst ys')) := ⟨List.prefix_refl _, TK.upd (by rw [h1]; simp)⟩
                have q := r.put (u := .lst ys') (o' := .lst l) ea eo (by rw [h1]; simp) ⟨_, upd_same, VRs.mono ext0 _ _ wl⟩
                exact g.write μ _ _ q.2 q.1 (VR.mono q.2 _ _ wz)
        · exact g.elim
      · exact g.elim
    · exact g.elim
  | _ => exact g.elim
end
end SC
end
end
section
set_option linter.all false
set_option maxRecDepth 100000
set_option Elab.async false
/-! SC9: o.m(..) of built-ins; calls of defs, methods, classes. -/
noncomputable section
namespace SC
open PySem L2
section
variable {Y : Lw} {X : Cx} {n : Nat} {e a b c o : Expr} {es : List Expr} {ca cb cc co : E} {cs : List E} {pos : Pos} {μ : List Addr} {Hh : Hp} {h : H}
theorem strsAre_map {ns : List Str} : ∀ {us : List Value}, Vals (ns.map V.str) us → PyProof.Rows.StrsAre us ns := by
  induction ns with
  | nil => intro us r; rw [List.map_nil] at r; cases r; exact .nil
  | cons n ns ih =>
    intro us r
    rw [List.map_cons] at r
    cases r with
    | cons q t =>
      obtain ⟨k, rfl⟩ := q
      exact .cons n k (ih t)
theorem m_index : BMR Y X "tuple.index" .index := by
  intro pins s σ Hh x xs v us Q I rx rv ⟨μ, h, d, ds, r, w, ws, g⟩
  cases w with
  | @tup a l ys q wl =>
    simp only [bmD] at g
    obtain ⟨its, ri, ht, _⟩ := I.tuple q.sq
    obtain rfl : v = .ref a := rx
    split at g
    · rename_i l' k eq
      cases eq
      split at g
      · rename_i ns en
        split at g
        · rename_i hk
          cases ws with
          | cons w1 wr =>
            cases wr
            cases w1
            obtain ⟨u, rfl, t, rfl⟩ := vals1 rv
            have := vrs_ints wl en
            subst this
            exact SeqAt.tuple_index_ints ht (intsAre_of ri) hk ⟨.int _, Hh, I.tok _, ⟨_, rfl⟩, g μ Hh _ Ext.refl r (.int _)⟩
        · exact g.elim
      · exact g.elim
    · rename_i l' k eq
      cases eq
      split at g
      · rename_i ns en
        split at g
        · rename_i hk
          cases ws with
          | cons w1 wr =>
            cases wr
            cases w1
            obtain ⟨u, rfl, t, rfl⟩ := vals1 rv
            have := vrs_strs wl en
            subst this
            exact SeqAt.tuple_index_strs ht (strsAre_map ri) hk ⟨.int _, Hh, I.tok _, ⟨_, rfl⟩, g μ Hh _ Ext.refl r (.int _)⟩
        · exact g.elim
      · exact g.elim
    · exact g.elim
  | _ => exact g.elim
/-- the receiver's type, as the IR tells it -/
def bmT : Bm → String
  | .append => "list" | .pop0 => "list" | .index => "tuple"
theorem bm_type {pins : List (Addr × Obj)} {σ : L2.St} {s : Shared} {bm : Bm} {d : D} {ds : List D} {x : V} {u : Value} {k : D → H → Prop} (I : Inv X pins σ Hh s) (r : RH (Y.sx X) μ h Hh) (w : VR X.K μ Hh d x) (ru : RelV x u) (hd : match bm with | .index => ∃ xs, d = .tup xs | _ => ∃ p xs, d = .ref p ∧ h.o[p]? = some (.lst xs)) :
    s.TypeIs u (bmT bm) ∧ ∀ a, u = .ref a → ∃ ob, s.heap.get? a = some ob ∧ ob.dict = none := by
  have lst : (∃ p xs, d = .ref p ∧ h.o[p]? = some (.lst xs)) → s.TypeIs u "list" ∧ ∀ a, u = .ref a → ∃ ob, s.heap.get? a = some ob ∧ ob.dict = none := fun ⟨p, xs, e, eo⟩ => by
    subst e
    cases w with
    | @ref _ a ea =>
      obtain ⟨ys, h1, _⟩ := r.list eo ea
      exact tyV_is (T := "list") I ru (.inl ⟨rfl, ys, SqL.of h1⟩)
  cases bm with
  | append => exact lst hd
  | pop0 => exact lst hd
  | index =>
    obtain ⟨xs, rfl⟩ := hd
    cases w with
    | @tup a _ ys q v =>
      cases ru
      rcases q with ⟨o, q, hd⟩ | ⟨o, its, m, q1, q2, hd, _⟩
      · have q := I.hok a _ q
        obtain ⟨q1, _, _, _, o', q2, q3, _⟩ := q
        rw [q1] at q2
        cases q2
        exact ⟨⟨o, q1, q3⟩, fun b e => by cases e; exact ⟨o, q1, hd⟩⟩
      · have q := I.kIn a o q1
        exact ⟨⟨o, q, q2⟩, fun b e => by cases e; exact ⟨o, q, hd⟩⟩
/-- what the receiver must be ahead of its arguments -/
def bmPre (bm : Bm) (d : D) (h : H) : Prop := match bm with | .index => ∃ xs, d = .tup xs | _ => ∃ p xs, d = .ref p ∧ h.o[p]? = some (.lst xs)
theorem pe_bmG {bm : Bm} {id : String} {name : Str} {apos cpos : Pos} {to : TE} {t : TA} (pa : PlainAttrs (bmT bm)) (slot : Slot (bmT bm) name id) (hty : typeOf (.builtin id) = pure (.type "method_descriptor")) (hm : BMR Y X id bm) (ho : PE X o to) (ha : PA X (e :: es) t)
    (hb : noSup o = true) (hs : (e :: es).all noStar = true) (hf : (e :: es).length < 30) (hline : (apos.endLine == cpos.line) = true) :
    PE X (.Call (.Attribute o name apos) (e :: es) [] cpos) (fun σ Hh Q => to σ Hh fun x H1 => (∃ μ h d, RH (Y.sx X) μ h H1 ∧ VR X.K μ H1 d x ∧ bmPre bm d h) ∧ t σ H1 fun xs H2 => ∃ μ h d ds, RH (Y.sx X) μ h H2 ∧ VR X.K μ H2 d x ∧ VRs X.K μ H2 ds xs ∧ Good (bmD bm d ds h) (Want Y X μ H2 Q)) := by
  refine ⟨fun pins s σ H Q I h => ?_⟩
  simp only [List.all_cons, Bool.and_eq_true] at hs
  have hfew : ((backTo cpos (starEach (e :: es) X.env)).all (fun x => !x.1) && (backToKw cpos (keywordEach [] X.env)).all (fun x => x.1.isSome)
      && decide ((e :: es).length + ([] : List Keyword).length + (if ([] : List Keyword).isEmpty then 0 else 1) < 30)) = true := by
    rw [starEach_all (by simp only [List.all_cons, Bool.and_eq_true]; exact hs)]
    simpa [keywordEach, backToKw] using hf
  refine wpAny_Call_method_late (base_of hb) hfew hline rfl (thn (ho.run pins s σ H _ I h) fun v s1 ⟨x, H1, I1, r1, ⟨μ, hh, d, rh, w, pre⟩, q1⟩ => ?_)
  obtain ⟨h1, h2⟩ := bm_type (k := fun _ _ => True) (ds := []) (bm := bm) I1 rh w r1 (by cases bm <;> exact pre)
  refine ⟨bmT bm, id, pa, slot, hty, h1, h2, ?_⟩
  have hA := ha.run cpos pins s1 σ H1 _ I1 q1
  rw [starEach_cons hs.1] at hA ⊢
  refine Calls.callWith_builtin (by show (false || (backTo cpos (starEach es X.env)).any (·.1)) = false; rw [starEach_none hs.2] <;> rfl) (Calls.evalArgs_plain ?_)
  exact thn hA fun us s2 ⟨vs, H2, I2, r2, q2⟩ => hm pins s2 σ H2 x vs v us Q I2 r1 r2 q2
theorem bmOk_pre {bm : Bm} {d : D} (g : bmOk bm d h = true) : bmPre bm d h := by
  cases bm with
  | append =>
    cases d with
    | ref p =>
      simp only [bmOk] at g
      split at g
      · rename_i xs eo; exact ⟨p, xs, rfl, eo⟩
      · cases g
    | _ => simp [bmOk] at g
  | pop0 =>
    cases d with
    | ref p =>
      simp only [bmOk] at g
      split at g
      · rename_i xs eo; exact ⟨p, xs, rfl, eo⟩
      · cases g
    | _ => simp [bmOk] at g
  | index =>
    cases d with
    | tup xs => exact ⟨xs, rfl⟩
    | _ => simp [bmOk] at g
theorem s_bm {bm : Bm} {id : String} {name : Str} {apos cpos : Pos} (pa : PlainAttrs (bmT bm)) (slot : Slot (bmT bm) name id) (hty : typeOf (.builtin id) = pure (.type "method_descriptor")) (hm : BMR Y X id bm) (ho : PE X o (tD Y X n co)) (ha : PA X (e :: es) (tL Y X n cs))
    (hb : noSup o = true) (hs : (e :: es).all noStar = true) (hf : (e :: es).length < 30) (hline : (apos.endLine == cpos.line) = true) : PE X (.Call (.Attribute o name apos) (e :: es) [] cpos) (tD Y X n (.bm bm co cs)) :=
  PE.imp (pe_bmG pa slot hty hm ho ha hb hs hf hline) fun σ Hh Q ⟨μ, h, ρ, r, g⟩ => by
    simp only [den] at g
    obtain ⟨v1, h1, e1, g⟩ := g.bind
    refine tD.of r e1 fun μ1 H1 x x1 r1 w1 => ?_
    split at g
    · rename_i ok
      refine ⟨⟨μ1, h1, v1, r1, w1, bmOk_pre ok⟩, ?_⟩
      obtain ⟨v2, h2, e2, g⟩ := g.bind
      refine tL.of (r.mono x1 r1) e2 fun μ2 H2 xs x2 r2 w2 => ?_
      refine ⟨μ2, h2, v1, v2, r2, VR.mono x2 _ _ w1, w2, ?_⟩
      obtain ⟨v3, h3, e3, g⟩ := g.ok
      rw [e3]
      exact fun μ' H' y x' r' w' => g μ' H' y ((x1.trans x2).trans x') r' w'
    · exact g.elim
/-! ### defs -/
/-- a def's promise: it does what its number does -/
def spF (S : Sx) (fd : Nat → Option Fd) (n j : Nat) : Sp := fun vs Hh Q _ => ∃ μ h ds, RH S μ h Hh ∧ VRs S.K μ Hh ds vs ∧
  Good (Phi S.T fd n j ds h) fun v h' => ∀ μ' H' x, Ext S.K μ Hh μ' H' → RH S μ' h' H' → VR S.K μ' H' v x → Q x H'
/-- a def of the text keeps its promise; dvs: its trailing defaults -/
structure FnT (Y : Lw) (X : Cx) (n j : Nat) (f : Addr) (dvs : List V) (up : Nat) : Prop where
  ex : ∃ k fd ps ds, FnOk X.prog X.w X.K X.mg X.base CX0 k f fd ps (spF (Y.sx X) Y.fd n j) ∧ Room (k + up) X.A ∧ Binds X.K fd ps ds ∧ Vals dvs ds ∧ PySem.W.keepIn X.K (.ref f) = true
theorem callF {j : Nat} {μ μ1 : List Addr} {Hh H1 : Hp} {ds : List D} {vs : List V} {h1 : H} {Q : VK} (g : Good (Y.Φ n j ds h1) (Want Y X μ Hh Q)) (x1 : Ext X.K μ Hh μ1 H1) (r1 : RH (Y.sx X) μ1 h1 H1) (w1 : VRs X.K μ1 H1 ds vs) (E : XK) : spF (Y.sx X) Y.fd n j vs H1 Q E := by
  refine ⟨μ1, h1, ds, r1, w1, ?_⟩
  obtain ⟨v3, h3, e3, g⟩ := g.ok
  have e3' : Phi (Y.sx X).T Y.fd n j ds h1 = .ok v3 h3 := e3
  rw [e3']
  exact fun μ' H' y x' r' w' => g μ' H' y (x1.trans x') r' w'
theorem s_call {j : Nat} {f : Addr} {x : Str} {p : Pos} (F : FnT Y X n j f [] 0) (hg : Gl X x) (hm : X.mg x = some (.ref f)) (ha : PA X es (tL Y X n cs)) (hs : es.all noStar = true) (hc : es = [] → cs = []) (hd : (x == ("__debug__" : Str)) = false) :
    PE X (.Call (.Name x p) es [] pos) (tD Y X n (.call j cs)) := by
  obtain ⟨k, fd, ps, ds, F, hr, hb, hv, hk⟩ := F.ex
  cases es with
  | nil =>
    have := hc rfl
    subst this
    refine PE.imp (pe_call0 (E := fun _ _ _ => False) F hr hg hm hk hb hv pass0 hd) fun σ Hh Q ⟨μ, h, ρ, r, g⟩ => ?_
    simp only [den, denL, R.bind_ok] at g
    exact callF g Ext.refl r.rh .nil (fun _ _ _ => False)
  | cons e es =>
    simp only [List.all_cons, Bool.and_eq_true] at hs
    refine PE.imp (pe_call (E := fun _ _ _ => False) F hr hg hm hk hb hv pass0 ha hd (starEach_cons hs.1) (starEach_none hs.2)) fun σ Hh Q ⟨μ, h, ρ, r, g⟩ => ?_
    simp only [den] at g
    obtain ⟨v1, h1, e1, g⟩ := g.bind
    refine tL.of r e1 fun μ1 H1 xs x1 r1 w1 => ?_
    rw [List.append_nil]
    exact callF g x1 r1 w1 _
/-! ### methods -/
/-- the methods of a name, class by class -/
structure MethT (Y : Lw) (X : Cx) (n m : Nat) (x : Str) : Prop where
  nm : Y.names[m]? = some x
  nd : Y.names.Nodup
  at_ : ∀ c j, Y.T.meth c m = some j → ∃ C f, Y.cls c = some C ∧ Cls X.K C ∧ Meth X.K C x f ∧ FnT Y X n j f [] 0
theorem s_meth {m : Nat} {x : Str} {apos : Pos} {pl : Sem Bool} (M : MethT Y X n m x) (ho : PE X o (tD Y X n co)) (ha : PA X es (tL Y X n cs)) (hs : es.all noStar = true) (hc : es = [] → cs = [])
    (ht : eval (.Call (.Attribute o x apos) es [] pos) X.env = (do
      let ov ← eval o X.env
      standAt apos.atName
      let (f, first) ← holding [ov] (getMethod ov x pl)
      callWith pos f first (backTo pos (starEach es X.env)) (backToKw pos (keywordEach [] X.env)))) : PE X (.Call (.Attribute o x apos) es [] pos) (tD Y X n (.meth m co cs)) := by
  refine ⟨fun pins s σ Hh Q I ⟨μ, h, ρ, r, g⟩ => ?_⟩
  simp only [den] at g
  obtain ⟨v1, h1, e1, g⟩ := g.bind
  split at g
  · rename_i j ej
    cases v1 with
    | ref p =>
      simp only [methD] at ej
      split at ej
      · rename_i c fs eo
        split at ej
        · rename_i nf
          have inst : ∀ {μ1 : List Addr} {H1 : Hp} {a : Addr}, RH (Y.sx X) μ1 h1 H1 → μ1[p]? = some a → ∃ C dx gs, Y.cls c = some C ∧ H1 a = some (.ins C dx gs) ∧ gs.lookup x = none := fun {μ1 H1 a} r1 ea => by
            obtain ⟨C, dx, gs, hC, hI, fr⟩ := r1.obj p _ a eo ea
            rcases FR.look M.nd M.nm fr with ⟨q1, q2⟩ | ⟨d, v, q1, q2, _⟩
            · exact ⟨C, dx, gs, hC, hI, q2⟩
            · rw [nf] at q1; cases q1
          obtain ⟨C, f, hcl, cl, me, F⟩ := M.at_ c j ej
          obtain ⟨k, fd, ps, ds, F, hr, hb, hv, hk⟩ := F.ex
          cases es with
          | nil =>
            have := hc rfl
            subst this
            refine (pe_meth0 (E := fun _ _ _ => False) ho cl me F hr hb hv pass0 ht).run pins s σ Hh Q I ?_
            refine tD.of r e1 fun μ1 H1 y x1 r1 w1 => ?_
            cases w1 with
            | @ref _ a ea =>
              obtain ⟨C', dx, gs, q1, q2, q3⟩ := inst r1 ea
              rw [hcl] at q1
              cases q1
              refine ⟨a, dx, gs, rfl, q2, q3, ?_⟩
              simp only [denL, R.bind_ok] at g
              exact callF g x1 r1 (.cons (.ref ea) .nil) (fun _ _ _ => False)
          | cons e es =>
            simp only [List.all_cons, Bool.and_eq_true] at hs
            refine (pe_meth (E := fun _ _ _ => False) ho cl me F hr hb hv pass0 ha (starEach_cons hs.1) (starEach_none hs.2) ht).run pins s σ Hh Q I ?_
            refine tD.of r e1 fun μ1 H1 y x1 r1 w1 => ?_
            cases w1 with
            | @ref _ a ea =>
              obtain ⟨C', dx, gs, q1, q2, q3⟩ := inst r1 ea
              rw [hcl] at q1
              cases q1
              refine ⟨a, dx, gs, rfl, q2, q3, ?_⟩
              obtain ⟨v2, h2, e2, g⟩ := g.bind
              refine tL.of (r.mono x1 r1) e2 fun μ2 H2 xs x2 r2 w2 => ?_
              rw [List.append_nil]
              exact callF g (x1.trans x2) r2 (.cons (.ref (pre_get x2.pre ea)) w2) _
        · cases ej
      · cases ej
    | _ => simp [methD] at ej
  · exact g.elim
end
end SC
end
end
section
set_option linter.all false
set_option maxRecDepth 100000
set_option Elab.async false
/-! SC10: classes made, len of an own class. -/
noncomputable section
namespace SC
open PySem L2
section
variable {Y : Lw} {X : Cx} {n : Nat} {e a b c o : Expr} {es : List Expr} {ca cb cc co : E} {cs : List E} {pos : Pos} {μ : List Addr} {Hh : Hp} {h : H}
theorem denL_append (T : Tab) (Φ : Nat → Fn) : ∀ (cs ds : List E) (ρ : Env) (hh : H), denL T Φ (cs ++ ds) ρ hh = (denL T Φ cs ρ hh).bind fun xs h => (denL T Φ ds ρ h).bind fun ys h => .ok (xs ++ ys) h
  | [], ds, ρ, hh => by
    simp only [List.nil_append, denL, R.bind_ok]
    cases denL T Φ ds ρ hh <;> rfl
  | c :: cs, ds, ρ, hh => by
    have ih := denL_append T Φ cs ds
    by_cases hs : c.isStar = true
    · cases c with
      | star a =>
        simp only [List.cons_append, denL, ih]
        cases den T Φ a ρ hh with
        | bad => rfl
        | ok v h =>
          simp only [R.bind_ok]
          cases itemsD v h with
          | none => rfl
          | some ys =>
            simp only
            cases denL T Φ cs ρ h with
            | bad => rfl
            | ok xs h1 =>
              simp only [R.bind_ok]
              cases denL T Φ ds ρ h1 with
              | bad => rfl
              | ok zs h2 => simp [List.append_assoc]
      | _ => simp [E.isStar] at hs
    · have hs : c.isStar = false := by simpa using hs
      rw [List.cons_append, denL_cons _ _ hs, denL_cons _ _ hs]
      cases den T Φ c ρ hh with
      | bad => rfl
      | ok v h =>
        simp only [R.bind_ok, ih]
        cases denL T Φ cs ρ h with
        | bad => rfl
        | ok xs h1 =>
          simp only [R.bind_ok]
          cases denL T Φ ds ρ h1 with
          | bad => rfl
          | ok zs h2 => rfl
/-- a new instance in both heaps -/
theorem RH.inst {k : Nat} {C x dx : Addr} (r : RH (Y.sx X) μ h Hh) (hC : Y.cls k = some C) (hx : Hh x = none) (hd : Hh dx = none) (ne : dx ≠ x) :
    RH (Y.sx X) (μ ++ [x]) (h.push (.ins k [])) (upd (upd Hh dx (.own x)) x (.ins C dx [])) ∧ Ext X.K μ Hh (μ ++ [x]) (upd (upd Hh dx (.own x)) x (.ins C dx [])) := by
  have h1 : upd Hh dx (.own x) x = none := by rw [upd_ne (Ne.symm ne)]; exact hx
  have r1 : RH (Y.sx X) μ h (upd Hh dx (.own x)) := r.new hd
  have e1 : Ext X.K μ Hh μ (upd Hh dx (.own x)) := Ext.new (X := Y.sx X) hd
  exact ⟨r1.push h1 ⟨C, dx, [], hC, upd_same, .nil⟩, ⟨e1.pre.trans (List.prefix_append _ _), e1.tup.trans (TK.new h1)⟩⟩
theorem Good.make {k : Nat} {as : List D} {w : D → H → Prop} (g : Good (makeD Y.T (Y.Φ n) k as h) w) : ∃ j h1, Y.T.init k = some j ∧ Y.Φ n j (.ref h.o.length :: as) (h.push (.ins k [])) = .ok .non h1 ∧ w (.ref h.o.length) h1 := by
  unfold makeD at g
  split at g
  · exact g.elim
  · rename_i j ej
    obtain ⟨v, h1, e1, g⟩ := g.bind
    cases v with
    | non => exact ⟨j, h1, ej, e1, g⟩
    | _ => exact g.elim
theorem makeF {k j : Nat} {C : Addr} {μ μ1 : List Addr} {Hh H1 : Hp} {ds : List D} {vs : List V} {h1 h2 : H} {Q : VK} (e : Y.Φ n j (.ref h1.o.length :: ds) (h1.push (.ins k [])) = .ok .non h2) (g : Want Y X μ Hh Q (.ref h1.o.length) h2) (hC : Y.cls k = some C)
    (x1 : Ext X.K μ Hh μ1 H1) (r1 : RH (Y.sx X) μ1 h1 H1) (w1 : VRs X.K μ1 H1 ds vs) (E : XK) : ∀ x dx, H1 x = none → H1 dx = none → dx ≠ x →
      spF (Y.sx X) Y.fd n j (.ref x :: vs) (upd (upd H1 dx (.own x)) x (.ins C dx [])) (fun v H2 => v = .non ∧ Q (.ref x) H2) E := fun x dx hx hd ne => by
  obtain ⟨r2, x2⟩ := r1.inst hC hx hd ne
  have ea : (μ1 ++ [x])[h1.o.length]? = some x := by rw [← r1.len]; simp
  refine ⟨μ1 ++ [x], _, _, r2, .cons (.ref ea) (VRs.mono x2 _ _ w1), ?_⟩
  have e' : Phi (Y.sx X).T Y.fd n j (.ref h1.o.length :: ds) (h1.push (.ins k [])) = .ok .non h2 := e
  rw [e']
  intro μ' H' y x' r' w'
  cases w'
  exact ⟨rfl, g μ' H' _ ((x1.trans x2).trans x') r' (.ref (pre_get x'.pre ea))⟩
/-- a class of the text, made: its __init__ keeps its promise -/
structure MkT (Y : Lw) (X : Cx) (n k : Nat) (C : Addr) (dvs : List V) : Prop where
  cls : Y.cls k = some C
  ex : ∃ j f, Y.T.init k = some j ∧ Mk X.K C f ∧ FnT Y X n j f dvs 1
theorem s_make {k : Nat} {C : Addr} {x : Str} {p : Pos} {cd : List E} {dd : List D} {dvs : List V} (M : MkT Y X n k C dvs) (hg : Gl X x) (hm : X.mg x = some (.ref C)) (ha : PA X es (tL Y X n cs)) (hs : es.all noStar = true) (hc : es = [] → cs = [])
    (hdd : ∀ ρ h, denL Y.T (Y.Φ n) cd ρ h = .ok dd h) (hdv : ∀ μ Hh, VRs X.K μ Hh dd dvs) (hd : (x == ("__debug__" : Str)) = false) : PE X (.Call (.Name x p) es [] pos) (tD Y X n (.make k (cs ++ cd))) := by
  obtain ⟨j, f, ej, mk, F⟩ := M.ex
  obtain ⟨kk, fd, ps, ds, F, hr, hb, hv, hk⟩ := F.ex
  cases es with
  | nil =>
    have := hc rfl
    subst this
    refine PE.imp (pe_make0 (E := fun _ _ _ => False) mk F hr hg hm hb hv pass0 hd) fun σ Hh Q ⟨μ, h, ρ, r, g⟩ => ?_
    simp only [den, List.nil_append, hdd, R.bind_ok] at g
    obtain ⟨j', h1, ej', e1, g⟩ := g.make
    rw [ej] at ej'
    cases ej'
    exact makeF e1 g M.cls Ext.refl r.rh (hdv _ _) _
  | cons e es =>
    simp only [List.all_cons, Bool.and_eq_true] at hs
    refine PE.imp (pe_make (E := fun _ _ _ => False) mk F hr hg hm hb hv pass0 ha hd (starEach_cons hs.1) (starEach_none hs.2)) fun σ Hh Q ⟨μ, h, ρ, r, g⟩ => ?_
    simp only [den, denL_append] at g
    obtain ⟨v0, h0, e0, g⟩ := g.bind
    obtain ⟨v1, h1, e1, e2⟩ : ∃ v1 h1, denL Y.T (Y.Φ n) cs ρ h = .ok v1 h1 ∧ v0 = v1 ++ dd ∧ h0 = h1 := by
      cases q : denL Y.T (Y.Φ n) cs ρ h with
      | bad => rw [q] at e0; cases e0
      | ok v1 h1 => rw [q] at e0; simp only [R.bind_ok, hdd] at e0; cases e0; exact ⟨_, _, rfl, rfl, rfl⟩
    obtain ⟨rfl, rfl⟩ := e2
    obtain ⟨j', h2, ej', e3, g⟩ := g.make
    rw [ej] at ej'
    cases ej'
    refine tL.of r e1 fun μ1 H1 xs x1 r1 w1 => ?_
    exact makeF e3 g M.cls x1 r1 (w1.append (hdv _ _)) _
/-- with one keyword, the last parameter -/
structure MkW (Y : Lw) (X : Cx) (n k : Nat) (C : Addr) (m : Nat) (kw : Str) : Prop where
  cls : Y.cls k = some C
  ex : ∃ j f kk fd ps, Y.T.init k = some j ∧ Mk X.K C f ∧ FnOk X.prog X.w X.K X.mg X.base CX0 kk f fd ps (spF (Y.sx X) Y.fd n j) ∧ Room (kk + 1) X.A ∧ KBn X.K fd ps (m + 1) [kw] (fun us ws => us ++ ws) (fun us ws => us ++ ws)
theorem s_makeW {k m : Nat} {C : Addr} {x kw : Str} {p kp : Pos} {v : Expr} {cv : E} (M : MkW Y X n k C m kw) (hg : Gl X x) (hm : X.mg x = some (.ref C)) (ha : PA X (e :: es) (tL Y X n cs)) (hs : (e :: es).all noStar = true) (hv : PE X v (tD Y X n cv)) (hlen : cs.length = m) (hst : cs.all (fun c => !c.isStar) = true) (hcv : cv.isStar = false)
    (hd : (x == ("__debug__" : Str)) = false) : PE X (.Call (.Name x p) (e :: es) [⟨some kw, v, kp⟩] pos) (tD Y X n (.make k (cs ++ [cv]))) := by
  obtain ⟨j, f, kk, fd, ps, ej, mk, F, hr, hb⟩ := M.ex
  simp only [List.all_cons, Bool.and_eq_true] at hs
  have hpl : ((backTo pos (starEach (e :: es) X.env)).any (·.1) || (backToKw pos (keywordEach [⟨some kw, v, kp⟩] X.env)).any (·.1.isNone)) = false := by
    rw [starEach_none (by simp only [List.all_cons, Bool.and_eq_true]; exact hs)]
    rfl
  refine PE.imp (pe_makeK (E := fun _ _ _ => False) mk F hr hg hm hb pass0 ha (pk_cons hv pk_nil) rfl rfl hd (starEach_cons hs.1) hpl) fun σ Hh Q ⟨μ, h, ρ, r, g⟩ => ?_
  simp only [den, denL_append] at g
  obtain ⟨v0, h0, e0, g⟩ := g.bind
  cases q : denL Y.T (Y.Φ n) cs ρ h with
  | bad => rw [q] at e0; cases e0
  | ok v1 h1 =>
    rw [q] at e0
    simp only [R.bind_ok] at e0
    rw [denL_cons _ _ hcv] at e0
    cases q2 : den Y.T (Y.Φ n) cv ρ h1 with
    | bad => rw [q2] at e0; cases e0
    | ok v2 h2 =>
      rw [q2] at e0
      simp only [R.bind_ok, denL] at e0
      cases e0
      obtain ⟨j', h3, ej', e3, g⟩ := g.make
      rw [ej] at ej'
      cases ej'
      refine tL.of r q fun μ1 H1 xs x1 r1 w1 => ?_
      refine tD.of (r.mono x1 r1) q2 fun μ2 H2 y x2 r2 w2 => ?_
      refine ⟨?_, rfl, ?_⟩
      · rw [← w1.length, ← hlen]
        exact len_denL hst q
      · exact makeF e3 g M.cls (x1.trans x2) r2 ((VRs.mono x2 _ _ w1).append (.cons w2 .nil)) _
where
  len_denL {T : Tab} {Φ : Nat → Fn} : ∀ {cs : List E} {ρ : Env} {h h1 : H} {vs : List D}, cs.all (fun c => !c.isStar) = true → denL T Φ cs ρ h = .ok vs h1 → vs.length = cs.length
    | [], ρ, h, h1, vs, _, q => by simp only [denL] at q; cases q; rfl
    | c :: cs, ρ, h, h1, vs, hs, q => by
      simp only [List.all_cons, Bool.and_eq_true, Bool.not_eq_true'] at hs
      rw [denL_cons _ _ hs.1] at q
      cases q1 : den T Φ c ρ h with
      | bad => rw [q1] at q; cases q
      | ok v h2 =>
        rw [q1] at q
        simp only [R.bind_ok] at q
        cases q2 : denL T Φ cs ρ h2 with
        | bad => rw [q2] at q; cases q
        | ok ws h3 =>
          rw [q2] at q
          cases q
          simp [len_denL hs.2 q2]
/-! ### len(x), x of an own class -/
theorem len_of {prog : Program} {w : World} {A : Around} {E : Value → Shared → Prop} {s : Shared} {x f : Addr} {Q : Value → Shared → Prop} (sp : PySem.W.Looks (model prog w) s.heap (specialOf (.ref x) "__len__") (some (.ref f))) (bd : PySem.W.Looks (model prog w) s.heap (bindSpecial (.ref f) (.ref x)) (.ref f, [.ref x]))
    (hcall : wpAny (model prog w) A.in1 (call (.ref f) [.ref x]) (fun r s' => ∃ n u, r = .int n u ∧ 0 ≤ n ∧ n < 2 ^ 63 ∧ Q (.int n s'.toks) { s' with toks := s'.toks + 1 }) E s) :
    wpAny (model prog w) A (call (.builtin "len") [.ref x]) Q E s := by
  refine Calls.call_function_entry kind_len plain_len entry_len (args_len1 _) ?_
  unfold Builtin.«len»
  refine wpAny_bind (m := oneArg "len" _) (wpAny_pure ?_)
  refine wpAny_bind (m := callSpecial? (.ref x) (Str.ofString "__len__")) ?_
  unfold callSpecial?
  refine wpAny_bind (sp.here ?_)
  refine wpAny_holding (wpAny_bind (bd.here ?_))
  have fin : ∀ (r : Value) (s' : Shared), (∃ n u, r = .int n u ∧ 0 ≤ n ∧ n < 2 ^ 63 ∧ Q (.int n s'.toks) { s' with toks := s'.toks + 1 }) → _ := fun r s' hr => hr
  refine wpAny_bind (wpAny_mono hcall (fun r s' hr => wpAny_pure ?_) fun _ _ y => y)
  obtain ⟨n, u, rfl, h0, h1, hq⟩ := hr
  refine wpAny_bind (wpAny_holding (wpAny_pure ?_))
  refine wpAny_bind (wpAny_letGo ?_)
  show wpAny _ _ (if n < 0 then _ else _) _ _ _
  rw [if_neg (by omega)]
  show wpAny _ _ (if n ≥ 2 ^ 63 then _ else _) _ _ _
  rw [if_neg (by omega)]
  exact wpAny_bind (wpAny_mkInt (wpAny_pure ⟨_, rfl, hq⟩))
/-- own __len__ -/
structure LenT (Y : Lw) (X : Cx) (n : Nat) : Prop where
  at_ : ∀ c j, Y.T.len c = some j → ∃ C f k fd ps, Y.cls c = some C ∧ PySem.W.findIn X.K (.ref C) "__len__" = some (some (.ref f)) ∧ PySem.W.typeIn X.K (.ref f) = some (.type "function") ∧
    FnOk X.prog X.w X.K X.mg X.base CX0 k f fd ps (spF (Y.sx X) Y.fd n j) ∧ Room (k + 1) X.A ∧ Binds X.K fd ps []
theorem l_len (L : LenT Y X n) : CallR X (.builtin "len") (fun xs Hh Q => ∃ μ h d x, xs = [x] ∧ RH (Y.sx X) μ h Hh ∧ VR X.K μ Hh d x ∧ Good (lenI Y.T (Y.Φ n) d h) (Want Y X μ Hh Q)) := by
  intro pins s σ Hh xs us Q I r ⟨μ, h, d, x, ex, rh, w, g⟩
  subst ex
  obtain ⟨u, rfl, rx⟩ := vals1 r
  cases w with
  | @ref p a ea =>
    obtain rfl : u = .ref a := rx
    simp only [lenI] at g
    split at g
    · rename_i c fs eo
      split at g
      · rename_i j ej
        obtain ⟨C, f, k, fd, ps, hC, hf, ht, F, hr, hb⟩ := L.at_ c j ej
        obtain ⟨C', dx, gs, hC', hI, _⟩ := rh.obj p _ a eo ea
        obtain rfl : C = C' := Option.some.inj (hC.symm.trans hC')
        obtain ⟨mA, O, _⟩ := ins_get I.hok hI
        obtain ⟨v1, h1, e1, g⟩ := g.bind
        have sp : PySem.W.Looks (model X.prog X.w) s.heap (specialOf (.ref a) "__len__") (some (.ref f)) := (NwA.type_at O.obj rfl).andThen (PySem.W.looks_findIn I.kIn hf)
        refine len_of sp (PySem.W.bind_fn I.kIn _ ht) ?_
        have hsp : spF (Y.sx X) Y.fd n j [.ref a] Hh (fun z H' => ∃ i, z = .int i ∧ 0 ≤ i ∧ i < 2 ^ 63 ∧ Q z H') (fun _ _ _ => False) := by
          refine ⟨μ, h, [.ref p], rh, .cons (.ref ea) .nil, ?_⟩
          have e' : Phi (Y.sx X).T Y.fd n j [.ref p] h = .ok v1 h1 := e1
          rw [e']
          intro μ' H' y x' r' w'
          cases w' with
          | int i =>
            dsimp only at g
            split at g
            · rename_i hi
              exact ⟨i, rfl, hi.1, by omega, g μ' H' _ x' r' (.int i)⟩
            · exact g.elim
          | _ => exact g.elim
        have hl : ([Value.ref a] ++ ([] : List Value)).length = ps.length := by
          have := F.len _ _ _ _ hsp
          simpa using this
        refine wpAny_call (codeAny_mono (F.run X.A.in1 X.stack s Hh ⟨[.ref a], []⟩ [.ref a] [.ref a] _ _ hr.in1 I.env0.in1 (by have := hb s [.ref a] I.kIn hl; simpa using this) (.cons rfl .nil) hsp) fun rr s' hq => ?_)
        cases rr with
        | error e => exact hq.elim
        | ok fl =>
          cases fl with
          | ret u =>
            obtain ⟨z, H', I', rz, i, rfl, h0, h2, q⟩ := I.after hq
            obtain ⟨t, rfl⟩ := rz
            exact ⟨i, t, rfl, h0, h2, .int i, H', I'.tok _, ⟨_, rfl⟩, q⟩
          | next => exact False.elim hq
          | brk => exact False.elim hq
          | cont => exact False.elim hq
      · exact g.elim
    · exact g.elim
  | _ => exact g.elim
theorem s_lenI {p : Pos} (L : LenT Y X n) (hg : Gl X "len") (hm : X.mg "len" = none) (da : PE X a (tD Y X n ca)) (hs : noStar a = true) : PE X (.Call (.Name "len" p) [a] [] pos) (tD Y X n (.lenI ca)) :=
  PE.imp (pe_callB (l_len L) hg hm boot_len (pa_cons da pa_nil (starEach_cons hs)) (by decide) (by decide) (starEach_cons hs) rfl) fun σ Hh Q ⟨μ, h, ρ, r, g⟩ => by
    simp only [den] at g
    obtain ⟨v1, h1, e1, g⟩ := g.bind
    refine tD.of r e1 fun μ1 H1 x x1 r1 w1 => ?_
    refine ⟨μ1, h1, v1, x, rfl, r1, w1, ?_⟩
    obtain ⟨v4, h4, e4, g⟩ := g.ok
    rw [e4]
    exact fun μ' H' y x' r' w' => g μ' H' y (x1.trans x') r' w'
end
end SC
end
end
section
set_option linter.all false
set_option maxRecDepth 100000
set_option Elab.async false
/-! SC11: what is protected stays. -/
noncomputable section
namespace SC
open PySem L2
structure Pr (h h' : H) : Prop where
  fl : h'.fl = h.fl
  lk : h'.lk = h.lk
  len : h.o.length ≤ h'.o.length
  keep : ∀ n, n < h.o.length → h.prot n = true → h'.o[n]? = h.o[n]?
theorem Pr.refl (h : H) : Pr h h := ⟨rfl, rfl, Nat.le_refl _, fun _ _ _ => rfl⟩
theorem Pr.prot {h h' : H} (p : Pr h h') (n : Nat) : h'.prot n = h.prot n := by unfold H.prot; rw [p.fl, p.lk]
theorem Pr.trans {a b c : H} (p : Pr a b) (q : Pr b c) : Pr a c := ⟨q.fl.trans p.fl, q.lk.trans p.lk, Nat.le_trans p.len q.len, fun n hn hp => (q.keep n (Nat.lt_of_lt_of_le hn p.len) (by rw [p.prot]; exact hp)).trans (p.keep n hn hp)⟩
theorem Pr.push (h : H) (o : AO) : Pr h (h.push o) := ⟨rfl, rfl, by simp [H.push], fun n hn _ => by simp [H.push, List.getElem?_append_left hn]⟩
theorem Pr.put {h : H} {n : Nat} (o : AO) (hp : h.prot n = false) : Pr h (h.put n o) := ⟨rfl, rfl, by simp [H.put], fun m hm q => by
  have : n ≠ m := fun e => by subst e; rw [hp] at q; cases q
  simp [H.put, List.getElem?_set_ne this]⟩
def PrR {α : Type} (h : H) (r : R α) : Prop := match r with
  | .ok _ h' => Pr h h'
  | .bad => True
theorem PrR.bind {α β : Type} {h : H} {r : R α} {f : α → H → R β} (p : PrR h r) (q : ∀ a h1, PrR h1 (f a h1)) : PrR h (r.bind f) := by
  cases r with
  | bad => trivial
  | ok a h1 =>
    have z := q a h1
    show PrR h (f a h1)
    revert z
    cases f a h1 with
    | bad => intro _; trivial
    | ok b h2 => intro z; exact Pr.trans p z
theorem PrR.ok {α : Type} {h : H} {a : α} : PrR h (.ok a h) := Pr.refl h
theorem PrR.bad {α : Type} {h : H} : PrR h (.bad : R α) := trivial
theorem PrR.alloc {h : H} {o : AO} : PrR h (alloc o h) := Pr.push h o
theorem PrR.newL {h : H} {xs : List D} : PrR h (newL xs h) := by unfold SC.newL; split <;> first | exact PrR.alloc | exact PrR.bad
theorem PrR.newT {h : H} {xs : List D} : PrR h (newT xs h) := by unfold SC.newT; split <;> first | exact PrR.ok | exact PrR.bad
theorem PrR.write {α : Type} {h : H} {n : Nat} {o : AO} {a : α} : PrR h (h.write n o a) := by
  unfold H.write
  split
  · exact PrR.bad
  · rename_i hp
    exact Pr.put o (by simpa using hp)
theorem PrR.retB {h : H} {o : Option Bool} : PrR h (retB h o) := by cases o <;> first | exact PrR.ok | exact PrR.bad
theorem PrR.op2 {h : H} {x y : D} (o : B2) : PrR h (op2 o x y h) := by
  cases o <;> simp only [SC.op2] <;> (repeat' split) <;> first | exact PrR.ok | exact PrR.bad | exact PrR.newT | exact PrR.newL | exact PrR.retB
theorem PrR.subD {h : H} {x y : D} : PrR h (subD x y h) := by
  unfold SC.subD
  (repeat' split) <;> first | exact PrR.ok | exact PrR.bad
theorem PrR.sliceD {h : H} {x : D} {l u : Option Int} : PrR h (sliceD x l u h) := by
  unfold SC.sliceD
  (repeat' split) <;> first | exact PrR.ok | exact PrR.bad | exact PrR.alloc
theorem PrR.fldD {h : H} {x : D} {f : Nat} : PrR h (fldD x f h) := by
  unfold SC.fldD
  (repeat' split) <;> first | exact PrR.ok | exact PrR.bad
theorem PrR.bltD {h : H} {x : D} (b : Bi) : PrR h (bltD b x h) := by
  cases b <;> simp only [SC.bltD] <;> (repeat' split) <;> first | exact PrR.ok | exact PrR.bad | exact PrR.alloc
theorem PrR.bmD {h : H} {x : D} {as : List D} (b : Bm) : PrR h (bmD b x as h) := by
  cases b <;> simp only [SC.bmD] <;> (repeat' split) <;> first | exact PrR.ok | exact PrR.bad | exact PrR.write
def FPr (Φ : Nat → Fn) : Prop := ∀ j as h, PrR h (Φ j as h)
theorem Pr.unlock {h h' : H} {l : List Nat} (p : Pr (h.lock l) h') : Pr h (h'.unlock l) := by
  refine ⟨p.fl, ?_, p.len, fun n hn hp => p.keep n hn ?_⟩
  · show h'.lk.drop l.length = h.lk
    rw [p.lk]
    show (l ++ h.lk).drop l.length = h.lk
    simp
  · unfold H.prot at hp ⊢
    rw [Bool.or_eq_true] at hp ⊢
    rcases hp with hp | hp
    · exact .inl hp
    · refine .inr ?_
      simp only [H.lock, List.contains_eq_mem, List.mem_append, decide_eq_true_eq] at hp ⊢
      exact .inr hp
section
variable {T : Tab} {Φ : Nat → Fn}
theorem PrR.of {α : Type} {b h : H} {r : R α} (p : Pr b h) (q : PrR h r) : PrR b r := by
  cases r with
  | ok a h1 => exact Pr.trans p q
  | bad => trivial
theorem Pr.putNew {b h : H} {m : Nat} (o : AO) (hm : b.o.length ≤ m) (p : Pr b h) : Pr b (h.put m o) := ⟨p.fl, p.lk, by simp [H.put]; exact p.len, fun n hn hp => by
  have : m ≠ n := by omega
  simp only [H.put, List.getElem?_set_ne this]
  exact p.keep n hn hp⟩
theorem PrR.lcGo {b : H} {m : Nat} (hm : b.o.length ≤ m) {tg : Tg} {ifs elt : M} {σ : Env} (p : ∀ σ h, PrR h (ifs σ h)) (q : ∀ σ h, PrR h (elt σ h)) : ∀ (xs : List D) (h : H), Pr b h → PrR b (lcGo m tg ifs elt σ xs h)
  | [], h, z => z
  | x :: r, h, z => by
    simp only [SC.lcGo]
    split
    · exact PrR.bad
    · rename_i σ' _
      have e1 := p σ' h
      revert e1
      cases ifs σ' h with
      | bad => intro _; trivial
      | ok bb h1 =>
        intro e1
        rw [R.bind_ok]
        have z1 := Pr.trans z e1
        split
        · have e2 := q σ' h1
          revert e2
          cases elt σ' h1 with
          | bad => intro _; trivial
          | ok v h2 =>
            intro e2
            rw [R.bind_ok]
            have z2 := Pr.trans z1 e2
            split
            · split
              · exact PrR.lcGo hm p q r _ (Pr.putNew _ hm z2)
              · exact PrR.bad
            · exact PrR.bad
        · exact PrR.lcGo hm p q r _ z1
        · exact PrR.bad
theorem PrR.dcGo {b : H} {m : Nat} (hm : b.o.length ≤ m) {tg : Tg} {kk vv : M} {σ : Env} (p : ∀ σ h, PrR h (kk σ h)) (q : ∀ σ h, PrR h (vv σ h)) : ∀ (xs : List D) (h : H), Pr b h → PrR b (dcGo m tg kk vv σ xs h)
  | [], h, z => z
  | x :: r, h, z => by
    simp only [SC.dcGo]
    split
    · exact PrR.bad
    · rename_i σ' _
      have e1 := p σ' h
      revert e1
      cases kk σ' h with
      | bad => intro _; trivial
      | ok bb h1 =>
        intro e1
        rw [R.bind_ok]
        have z1 := Pr.trans z e1
        have e2 := q σ' h1
        revert e2
        cases vv σ' h1 with
        | bad => intro _; trivial
        | ok v h2 =>
          intro e2
          rw [R.bind_ok]
          have z2 := Pr.trans z1 e2
          split
          · split
            · exact PrR.dcGo hm p q r _ (Pr.putNew _ hm z2)
            · exact PrR.bad
          · exact PrR.bad
theorem PrR.lockG {α β : Type} {h : H} {l : List Nat} {r : R α} {f : α → H → R β} (p : PrR (h.lock l) r) (q : ∀ a h1, PrR (h1.unlock l) (f a h1)) : PrR h (r.bind f) := by
  cases r with
  | bad => trivial
  | ok a h1 =>
    have z := q a h1
    show PrR h (f a h1)
    revert z
    cases f a h1 with
    | bad => intro _; trivial
    | ok b h2 => intro z; exact Pr.trans (Pr.unlock p) z
mutual
theorem den_pr (F : FPr Φ) : ∀ (c : E) (σ : Env) (h : H), PrR h (den T Φ c σ h)
  | .var i, σ, h => by simp only [den]; split <;> first | exact PrR.ok | exact PrR.bad
  | .cN, σ, h => by simp only [den]; exact PrR.ok
  | .cB b, σ, h => by simp only [den]; exact PrR.ok
  | .cI b, σ, h => by simp only [den]; exact PrR.ok
  | .cS b, σ, h => by simp only [den]; exact PrR.ok
  | .glb k, σ, h => by simp only [den]; split <;> first | exact PrR.ok | exact PrR.bad
  | .op2 o a b, σ, h => by simp only [den]; exact PrR.bind (den_pr F a σ h) fun x h1 => PrR.bind (den_pr F b σ h1) fun y h2 => PrR.op2 o
  | .neg a, σ, h => by
    simp only [den]
    exact PrR.bind (den_pr F a σ h) fun x h1 => by unfold negD; split <;> first | exact PrR.ok | exact PrR.bad
  | .sub a b, σ, h => by simp only [den]; exact PrR.bind (den_pr F a σ h) fun x h1 => PrR.bind (den_pr F b σ h1) fun y h2 => PrR.subD
  | .not_ a, σ, h => by
    simp only [den]
    exact PrR.bind (den_pr F a σ h) fun x h1 => by unfold notD; split <;> first | exact PrR.ok | exact PrR.bad
  | .and_ a b, σ, h => by
    simp only [den]
    refine PrR.bind (den_pr F a σ h) fun x h1 => ?_
    split
    · exact den_pr F b σ h1
    · exact PrR.ok
    · exact PrR.bad
  | .or_ a b, σ, h => by
    simp only [den]
    refine PrR.bind (den_pr F a σ h) fun x h1 => ?_
    split
    · exact PrR.ok
    · exact den_pr F b σ h1
    · exact PrR.bad
  | .ite c a b, σ, h => by
    simp only [den]
    refine PrR.bind (den_pr F c σ h) fun x h1 => ?_
    split
    · exact den_pr F a σ h1
    · exact den_pr F b σ h1
    · exact PrR.bad
  | .chain o1 o2 a b c, σ, h => by
    simp only [den]
    refine PrR.bind (den_pr F a σ h) fun x h1 => PrR.bind (den_pr F b σ h1) fun y h2 => PrR.bind (PrR.op2 o1) fun z h3 => ?_
    split
    · exact PrR.bind (den_pr F c σ h3) fun w h4 => PrR.op2 o2
    · exact PrR.ok
    · exact PrR.bad
  | .call j as, σ, h => by simp only [den]; exact PrR.bind (denL_pr F as σ h) fun xs h1 => F j xs h1
  | .make c as, σ, h => by
    simp only [den]
    refine PrR.bind (denL_pr F as σ h) fun xs h1 => ?_
    unfold makeD
    split
    · exact PrR.bad
    · rename_i j _
      have z := F j (.ref h1.o.length :: xs) (h1.push (.ins c []))
      revert z
      cases Φ j (.ref h1.o.length :: xs) (h1.push (.ins c [])) with
      | bad => intro _; trivial
      | ok v h2 =>
        intro z
        simp only [R.bind_ok]
        split
        · exact Pr.trans (Pr.push _ _) z
        · exact PrR.bad
  | .meth m o as, σ, h => by
    simp only [den]
    refine PrR.bind (den_pr F o σ h) fun x h1 => ?_
    split
    · exact PrR.bind (denL_pr F as σ h1) fun xs h2 => F _ _ _
    · exact PrR.bad
  | .lenI o, σ, h => by
    simp only [den]
    refine PrR.bind (den_pr F o σ h) fun x h1 => ?_
    unfold lenI
    split
    · split
      · split
        · exact PrR.bind (F _ _ _) fun v h2 => by (repeat' split) <;> first | exact PrR.ok | exact PrR.bad
        · exact PrR.bad
      · exact PrR.bad
    · exact PrR.bad
  | .fld o f, σ, h => by simp only [den]; exact PrR.bind (den_pr F o σ h) fun x h1 => PrR.fldD
  | .blt b a, σ, h => by simp only [den]; exact PrR.bind (den_pr F a σ h) fun x h1 => PrR.bltD b
  | .bm b o as, σ, h => by
    simp only [den]
    refine PrR.bind (den_pr F o σ h) fun x h1 => ?_
    split
    · exact PrR.bind (denL_pr F as σ h1) fun xs h2 => PrR.bmD b
    · exact PrR.bad
  | .isi a t, σ, h => by simp only [den]; exact PrR.bind (den_pr F a σ h) fun x h1 => PrR.retB
  | .slice a lo hi, σ, h => by simp only [den]; exact PrR.bind (den_pr F a σ h) fun x h1 => PrR.bind (denO_pr F lo σ h1) fun l h2 => PrR.bind (denO_pr F hi σ h2) fun u h3 => PrR.sliceD
  | .tup es, σ, h => by simp only [den]; exact PrR.bind (denL_pr F es σ h) fun xs h1 => PrR.newT
  | .lst es, σ, h => by simp only [den]; exact PrR.bind (denL_pr F es σ h) fun xs h1 => PrR.newL
  | .star _, σ, h => by simp only [den]; exact PrR.bad
  | .dnewK, σ, h => by simp only [den]; exact PrR.alloc
  | .dnewT, σ, h => by simp only [den]; exact PrR.alloc
  | .dict1 k v, σ, h => by
    simp only [den]
    have e1 := den_pr F k σ (h.push (.dT []))
    revert e1
    cases den T Φ k σ (h.push (.dT [])) with
    | bad => intro _; trivial
    | ok x h1 =>
      intro e1
      rw [R.bind_ok]
      have e2 := den_pr F v σ h1
      revert e2
      cases den T Φ v σ h1 with
      | bad => intro _; trivial
      | ok y h2 =>
        intro e2
        rw [R.bind_ok]
        have z := Pr.trans (Pr.trans (Pr.push h (.dT [])) e1) e2
        split
        · split
          · exact Pr.putNew _ (Nat.le_refl _) z
          · exact PrR.bad
        · exact PrR.bad
  | .lc k tg its ifs elt, σ, h => by
    simp only [den]
    refine PrR.bind (denL_pr F its σ h) fun as h1 => ?_
    split
    · exact PrR.bad
    · exact PrR.lockG (PrR.lcGo (Nat.le_refl _) (fun σ h => denIfs_pr F ifs σ h) (fun σ h => den_pr F elt σ h) _ _ (Pr.push _ _)) fun a h2 => PrR.ok
  | .dc tg it kk vv, σ, h => by
    simp only [den]
    refine PrR.bind (den_pr F it σ h) fun as h1 => ?_
    split
    · exact PrR.bad
    · exact PrR.lockG (PrR.dcGo (Nat.le_refl _) (fun σ h => den_pr F kk σ h) (fun σ h => den_pr F vv σ h) _ _ (Pr.push _ _)) fun a h2 => PrR.ok
  | .tmp a, σ, h => by
    simp only [den]
    split
    · split <;> first | exact PrR.ok | exact PrR.bad
    · exact PrR.bad
theorem denL_pr (F : FPr Φ) : ∀ (c : List E) (σ : Env) (h : H), PrR h (denL T Φ c σ h)
  | [], σ, h => by simp only [denL]; exact PrR.ok
  | c :: cs, σ, h => by
    by_cases hs : c.isStar = true
    · cases c with
      | star a =>
        simp only [denL]
        refine PrR.bind (den_pr F a σ h) fun v h1 => ?_
        split
        · exact PrR.bad
        · exact PrR.bind (denL_pr F cs σ h1) fun xs h2 => PrR.ok
      | _ => simp [E.isStar] at hs
    · rw [denL_cons _ _ (by simpa using hs)]
      exact PrR.bind (den_pr F c σ h) fun x h1 => PrR.bind (denL_pr F cs σ h1) fun xs h2 => PrR.ok
theorem denO_pr (F : FPr Φ) : ∀ (c : Option E) (σ : Env) (h : H), PrR h (denO T Φ c σ h)
  | none, σ, h => by simp only [denO]; exact PrR.ok
  | some c, σ, h => by
    simp only [denO]
    exact PrR.bind (den_pr F c σ h) fun x h1 => by split <;> first | exact PrR.ok | exact PrR.bad
theorem denIfs_pr (F : FPr Φ) : ∀ (c : List E) (σ : Env) (h : H), PrR h (denIfs T Φ c σ h)
  | [], σ, h => by simp only [denIfs]; exact PrR.ok
  | c :: cs, σ, h => by
    simp only [denIfs]
    refine PrR.bind (den_pr F c σ h) fun x h1 => ?_
    split
    · exact denIfs_pr F cs σ h1
    · exact PrR.ok
    · exact PrR.bad
end
end
end SC
end
end
section
set_option linter.all false
set_option maxRecDepth 100000
set_option Elab.async false
/-! SC12: what is protected stays (statements, defs). -/
noncomputable section
namespace SC
open PySem L2
def OPr (h : H) (r : Out) : Prop := match r with
  | .nx _ h' => Pr h h'
  | .rt _ h' => Pr h h'
  | .bk _ h' => Pr h h'
  | .ct _ h' => Pr h h'
  | .bad => True
def GPr (h : H) (r : Option (Env × H)) : Prop := match r with
  | some p => Pr h p.2
  | none => True
theorem OPr.trans {h h1 : H} {r : Out} (p : Pr h h1) (q : OPr h1 r) : OPr h r := by
  cases r <;> first | exact Pr.trans p q | exact q
theorem OPr.unlock {h : H} {l : List Nat} {r : Out} (q : OPr (h.lock l) r) : OPr h (r.unlock l) := by
  cases r <;> first | exact Pr.unlock q | exact q
section
variable {T : Tab} {Φ : Nat → Fn}
theorem den_ok (F : FPr Φ) {c : E} {σ : Env} {h h1 : H} {v : D} (e : den T Φ c σ h = .ok v h1) : Pr h h1 := by
  have := den_pr (T := T) F c σ h
  rw [e] at this
  exact this
theorem denL_ok (F : FPr Φ) {c : List E} {σ : Env} {h h1 : H} {v : List D} (e : denL T Φ c σ h = .ok v h1) : Pr h h1 := by
  have := denL_pr (T := T) F c σ h
  rw [e] at this
  exact this
theorem fldPut_pr {o v : D} {f : Nat} {σ : Env} {h : H} : GPr h (fldPut o f v σ h) := by
  unfold fldPut
  split
  · split
    · split
      · trivial
      · rename_i hp
        simp only [Bool.or_eq_true, not_or, Bool.not_eq_true] at hp
        exact Pr.put _ hp.1
    · trivial
  · trivial
theorem subPut_pr {o i v : D} {σ : Env} {h : H} : GPr h (subPut o i v σ h) := by
  unfold subPut
  split
  · split
    · trivial
    · rename_i p hp
      have hp : h.prot p = false := by simpa using hp
      (repeat' split) <;> first | trivial | exact Pr.put _ hp
  · trivial
mutual
theorem gset_pr (F : FPr Φ) : ∀ (g : G) (v : D) (σ : Env) (h : H), GPr h (gset T Φ g v σ h)
  | .n i, v, σ, h => by simp only [gset]; exact Pr.refl h
  | .f o f, v, σ, h => by
    simp only [gset]
    split
    · rename_i x h1 e
      have q := fldPut_pr (o := x) (v := v) (f := f) (σ := σ) (h := h1)
      revert q
      cases fldPut x f v σ h1 with
      | none => intro _; trivial
      | some p => intro q; exact Pr.trans (den_ok F e) q
    · trivial
  | .s o i, v, σ, h => by
    simp only [gset]
    split
    · rename_i x h1 e
      split
      · rename_i y h2 e2
        have q := subPut_pr (o := x) (v := v) (i := y) (σ := σ) (h := h2)
        revert q
        cases subPut x y v σ h2 with
        | none => intro _; trivial
        | some p => intro q; exact Pr.trans (Pr.trans (den_ok F e) (den_ok F e2)) q
      · trivial
    · trivial
  | .t l, v, σ, h => by
    simp only [gset]
    split
    · exact gsets_pr F l _ σ h
    · trivial
theorem gsets_pr (F : FPr Φ) : ∀ (g : List G) (v : List D) (σ : Env) (h : H), GPr h (gsets T Φ g v σ h)
  | [], [], σ, h => by simp only [gsets]; exact Pr.refl h
  | [], _ :: _, σ, h => by simp only [gsets]; trivial
  | _ :: _, [], σ, h => by simp only [gsets]; trivial
  | g :: r, x :: s, σ, h => by
    simp only [gsets]
    have q := gset_pr F g x σ h
    split
    · rename_i σ1 h1 e
      rw [e] at q
      have q2 := gsets_pr F r s σ1 h1
      revert q2
      cases gsets T Φ r s σ1 h1 with
      | none => intro _; trivial
      | some p => intro q2; exact Pr.trans q q2
    · trivial
end
theorem forGo_pr {tg : Tg} {b : SM} (p : ∀ σ h, OPr h (b σ h)) : ∀ (xs : List D) (σ : Env) (h : H), OPr h (forGo tg b xs σ h)
  | [], σ, h => by simp only [forGo]; exact Pr.refl h
  | x :: r, σ, h => by
    simp only [forGo]
    split
    · trivial
    · rename_i σ' _
      have q := p σ' h
      revert q
      cases b σ' h with
      | nx s h1 => intro q; exact OPr.trans q (forGo_pr p r s h1)
      | ct s h1 => intro q; exact OPr.trans q (forGo_pr p r s h1)
      | bk s h1 => intro q; exact q
      | rt v h1 => intro q; exact q
      | bad => intro q; trivial
theorem whileGo_pr {c : M} {b : SM} (pc : ∀ σ h, PrR h (c σ h)) (p : ∀ σ h, OPr h (b σ h)) : ∀ (n : Nat) (σ : Env) (h : H), OPr h (whileGo c b n σ h)
  | 0, σ, h => by simp only [whileGo]; trivial
  | n + 1, σ, h => by
    simp only [whileGo]
    have q := pc σ h
    split
    · rename_i h1 e
      rw [e] at q
      have q2 := p σ h1
      revert q2
      cases b σ h1 with
      | nx s h2 => intro q2; exact OPr.trans (Pr.trans q q2) (whileGo_pr pc p n s h2)
      | ct s h2 => intro q2; exact OPr.trans (Pr.trans q q2) (whileGo_pr pc p n s h2)
      | bk s h2 => intro q2; exact Pr.trans q q2
      | rt v h2 => intro q2; exact Pr.trans q q2
      | bad => intro q2; trivial
    · rename_i h1 e
      rw [e] at q
      exact q
    · trivial
mutual
theorem exec_pr (F : FPr Φ) : ∀ (s : S) (σ : Env) (h : H), OPr h (exec T Φ s σ h)
  | .expr e, σ, h => by
    simp only [exec]
    split
    · rename_i e; exact den_ok F e
    · trivial
  | .asg g e, σ, h => by
    simp only [exec]
    split
    · rename_i v h1 e
      have q := gset_pr (T := T) F g v σ h1
      split
      · rename_i e2; rw [e2] at q; exact Pr.trans (den_ok F e) q
      · trivial
    · trivial
  | .ret e, σ, h => by
    simp only [exec]
    split
    · rename_i e; exact den_ok F e
    · trivial
  | .ite c a b, σ, h => by
    simp only [exec]
    split
    · rename_i e; exact OPr.trans (den_ok F e) (execs_pr F a _ _)
    · rename_i e; exact OPr.trans (den_ok F e) (execs_pr F b _ _)
    · trivial
  | .for_ k tg its b, σ, h => by
    simp only [exec]
    split
    · rename_i as h1 e
      split
      · trivial
      · exact OPr.trans (denL_ok F e) (OPr.unlock (forGo_pr (fun σ h => execs_pr F b σ h) _ _ _))
    · trivial
  | .while_ c b, σ, h => by
    simp only [exec]
    exact whileGo_pr (fun σ h => den_pr F c σ h) (fun σ h => execs_pr F b σ h) _ _ _
  | .raise_, σ, h => by simp only [exec]; trivial
  | .pass, σ, h => by simp only [exec]; exact Pr.refl h
theorem execs_pr (F : FPr Φ) : ∀ (s : List S) (σ : Env) (h : H), OPr h (execs T Φ s σ h)
  | [], σ, h => by simp only [execs]; exact Pr.refl h
  | s :: r, σ, h => by
    simp only [execs]
    have q := exec_pr F s σ h
    split
    · rename_i σ1 h1 e
      rw [e] at q
      exact OPr.trans q (execs_pr F r _ _)
    · exact q
end
theorem fin_pr {h : H} {o : Out} (q : OPr h o) : PrR h (fin o) := by
  cases o <;> first | exact q | trivial
theorem runF_pr (F : FPr Φ) (f : Fd) (as : List D) (h : H) : PrR h (runF T Φ f as h) := by
  unfold runF
  split
  · split
    · exact fin_pr (execs_pr F _ _ _)
    · split
      · split <;> first | exact PrR.ok | exact PrR.bad
      · exact PrR.bad
    · split
      · split
        · split <;> first | exact PrR.alloc | exact PrR.bad
        · exact PrR.bad
      · exact PrR.bad
    · split
      · unfold gcD
        split
        · split
          · split
            · refine ⟨rfl, rfl, by simp, fun n hn _ => ?_⟩
              exact List.getElem?_append_left hn
            · exact PrR.bad
          · exact PrR.bad
        · exact PrR.bad
      · exact PrR.bad
  · exact PrR.bad
theorem Phi_pr (fd : Nat → Option Fd) : ∀ n, FPr (Phi T fd n)
  | 0, j, as, h => PrR.bad
  | n + 1, j, as, h => by
    simp only [Phi]
    split
    · exact runF_pr (Phi_pr fd n) _ _ _
    · exact PrR.bad
end
section
variable {Y : Lw} {X : Cx} {n : Nat} {e : Expr} {ca : E} {μ μ' : List Addr} {Hh Hh' : Hp} {h h1 : H}
/-! ### back to the heap of before -/
theorem OR.back {a : Addr} {lk : Bool} {o : AO} (x : OR (Y.sx X) μ' Hh' a lk o) (x0 : OR (Y.sx X) μ Hh a lk o) (e : Ext X.K μ Hh μ' Hh') : OR (Y.sx X) μ Hh' a lk o := by
  cases o with
  | lst xs =>
    obtain ⟨ys, h1, h2⟩ := x
    obtain ⟨ys0, _, h20⟩ := x0
    exact ⟨ys, h1, VRs.back e _ _ _ h20 h2⟩
  | fz xs =>
    obtain ⟨o, ys, h1, h2⟩ := x
    obtain ⟨o0, ys0, _, h20⟩ := x0
    exact ⟨o, ys, h1, VRs.back e _ _ _ h20 h2⟩
  | dK kvs =>
    obtain ⟨ws, h1, h2, h3⟩ := x
    obtain ⟨ws0, _, h20, _⟩ := x0
    exact ⟨ws, h1, kr_back e h20 h2, h3⟩
  | dT kvs =>
    obtain ⟨xs, h1, h2, h3, h4, h5⟩ := x
    obtain ⟨xs0, _, _, _, h40, _⟩ := x0
    exact ⟨xs, h1, h2, h3, tr_back e h40 h4, h5⟩
  | ins c fs =>
    obtain ⟨C, dx, gs, h1, h2, h3⟩ := x
    obtain ⟨C0, dx0, gs0, _, _, h30⟩ := x0
    exact ⟨C, dx, gs, h1, h2, fr_back e h30 h3⟩
where
  kr_back {K : PySem.W.Frag} {μ μ' : List Addr} {Hh Hh' : Hp} (e : Ext K μ Hh μ' Hh') : ∀ {r : List (L2.Key × D)} {s0 s : List (L2.Key × V)}, KR K μ Hh r s0 → KR K μ' Hh' r s → KR K μ Hh' r s
    | _, _, _, .nil, .nil => .nil
    | _, _, _, .cons h0 t0, .cons h t => .cons (VR.back e _ _ _ h0 h) (kr_back e t0 t)
  tr_back {K : PySem.W.Frag} {μ μ' : List Addr} {Hh Hh' : Hp} (e : Ext K μ Hh μ' Hh') : ∀ {r : List (D × D)} {s0 s : List (NestedKey × Addr × Value)}, TR K μ Hh r s0 → TR K μ' Hh' r s → TR K μ Hh' r s
    | _, _, _, .nil, .nil => .nil
    | _, _, _, .cons p0 w0 v0 q0 t0, .cons p w v q t => .cons p (VR.back e _ _ _ w0 w) (VR.back e _ _ _ v0 v) q (tr_back e t0 t)
  fr_back {names : List Str} {K : PySem.W.Frag} {μ μ' : List Addr} {Hh Hh' : Hp} (e : Ext K μ Hh μ' Hh') : ∀ {r : List (Nat × D)} {s0 s : List (Str × V)}, FR names K μ Hh r s0 → FR names K μ' Hh' r s → FR names K μ Hh' r s
    | _, _, _, .nil, .nil => .nil
    | _, _, _, .cons p0 w0 t0, .cons p w t => .cons p (VR.back e _ _ _ w0 w) (fr_back e t0 t)
/-- what came on top is forgotten; all that stood is as it was -/
theorem RH.back (r : RH (Y.sx X) μ h Hh) (r1 : RH (Y.sx X) μ' h1 Hh') (e : Ext X.K μ Hh μ' Hh') (p : Pr { h with fl := h.o.length } h1) : RH (Y.sx X) μ h Hh' := by
  refine ⟨r.len, r.nd, fun m o a eo ea => ?_, r.lko⟩
  have hm : m < h.o.length := (List.getElem?_eq_some_iff.mp eo).1
  have k := p.keep m hm (by unfold H.prot; simp [hm])
  have k' : h1.o[m]? = some o := k.trans eo
  have q := r1.obj m o a k' (pre_get e.pre ea)
  have lk : h1.lk = h.lk := p.lk
  rw [lk] at q
  exact q.back (r.obj m o a eo ea) e
theorem s_tmp (da : PE X e (tD Y X n ca)) : PE X e (tD Y X n (.tmp ca)) := PE.imp da fun σ Hh Q ⟨μ, h, ρ, r, g⟩ => by
  simp only [den] at g
  split at g
  · rename_i v h1 e1
    split at g
    · rename_i hp
      have r' : RS (Y.sx X) μ { h with fl := h.o.length } ρ σ Hh := ⟨r.rh.same rfl rfl, r.sl, r.ln⟩
      refine tD.of r' e1 fun μ1 H1 x x1 r1 w1 => ?_
      have p := den_ok (Phi_pr Y.fd n) e1
      exact g μ H1 x ⟨List.prefix_refl _, x1.tup⟩ (r.rh.back r1 x1 p) (VR.pure _ _ hp w1)
    · exact g.elim
  · exact g.elim
theorem s_tmpT (da : PT X e (tT Y X n ca)) : PT X e (tT Y X n (.tmp ca)) := PT.imp da fun σ Hh Q ⟨μ, h, ρ, r, g⟩ => by
  simp only [den] at g
  split at g
  · rename_i v h1 e1
    split at g
    · rename_i hp
      obtain ⟨b, rfl, g⟩ := g
      have r' : RS (Y.sx X) μ { h with fl := h.o.length } ρ σ Hh := ⟨r.rh.same rfl rfl, r.sl, r.ln⟩
      refine tT.of r' e1 fun μ1 H1 x1 r1 => ?_
      have p := den_ok (Phi_pr Y.fd n) e1
      exact g μ H1 ⟨List.prefix_refl _, x1.tup⟩ (r.rh.back r1 x1 p)
    · exact g.elim
  · exact g.elim
end
end SC
end
end
section
set_option linter.all false
set_option maxRecDepth 100000
set_option Elab.async false
/-! SC13: iterators that the hand layer lacks: enumerate(tuple); a frozen dict of any keys. -/
noncomputable section
namespace SC
open PySem L2
open AutoSeq1 (wpAny_loadPart')
set_option maxHeartbeats 1000000 in
theorem meets_enumerate_newT (l : Addr) (items : Array Value) (n : Nat) (dct : Option Addr) (sl : Array (Option Value)) :
    Meets (Builtin.«enumerate.__new__» ⟨[.type "enumerate", .ref l], []⟩) (fun _ R s => s.heap.get? l = some { cls := .type "tuple", dict := dct, data := .seq items n, slots := sl } ∧
      R (.ok (.ret (.ref (s.heap.push { cls := .type "tuple_iterator", data := .fields #[.ref l, .int 0 0] }).objs.size)))
        { s with heap := (s.heap.push { cls := .type "tuple_iterator", data := .fields #[.ref l, .int 0 0] }).push { cls := .type "enumerate", data := .fields #[.none, .bool false, .ref s.heap.objs.size, rawInt 0, .none, .none] } }) :=
  .of_wp fun prog w A R s h => by
    obtain ⟨hp, g, d, tk, os⟩ := s; obtain ⟨hl, h⟩ := h
    have hsub := sub_enumerate
    have hL : Heap.IsTuple (Shared.heap ⟨hp, g, d, tk, os⟩) l items := ⟨_, hl, rfl, n, rfl⟩
    wp_walk using wpAny_loadPart' hl
    refine wpAny_stack_any fun st => wpAny_pure ?_
    split
    · rename_i c _ _ _ _ _
      cases (c == Value.type "enumerate")
      · wp_walk using wpAny_loadPart' hl, wpAny_pyIter_tuple hL
        exact ⟨_, rfl, h⟩
      · wp_walk using wpAny_loadPart' hl, wpAny_pyIter_tuple hL
        exact ⟨_, rfl, h⟩
    · wp_walk using wpAny_loadPart' hl, wpAny_pyIter_tuple hL
      exact ⟨_, rfl, h⟩
section
variable {prog : Program} {w : World} {A : Around} {E : Value → Shared → Prop} {s : Shared}
theorem call_enumerate_tup {l : Addr} {items : Array Value} {Q : Value → Shared → Prop} (hL : s.heap.IsTuple l items)
    (h : ∀ h', IsEnum h' (s.heap.objs.size + 1) s.heap.objs.size 0 .none → h'.IsTupleIter s.heap.objs.size l 0 → h'.objs.size = s.heap.objs.size + 2 →
      (∀ b o, s.heap.get? b = some o → h'.get? b = some o) → Q (.ref (s.heap.objs.size + 1)) { s with heap := h' }) :
    wpAny (model prog w) A (call (.type "enumerate") [.ref l]) Q E s := by
  obtain ⟨⟨c, dct, dt, sl⟩, hl, hc, n, hd⟩ := hL
  replace hc : c = .type "tuple" := hc
  replace hd : dt = .seq items n := hd
  subst hc hd
  refine callType_new F.called_enumerate (by decide) (F.typeCall_enumerate_1 _) (F.newCall_enumerate_1 _) (fun obj => F.args_object_init_2 obj _) F.entry_enumerate_new
    (meets_enumerate_newT l items n dct sl) ⟨hl, ?_⟩
  have hz : (s.heap.push { cls := .type "tuple_iterator", data := .fields #[.ref l, .int 0 0] }).objs.size = s.heap.objs.size + 1 := Heap.size_push ..
  show _ ∧ _
  rw [hz]
  have he : IsEnum ((s.heap.push { cls := .type "tuple_iterator", data := .fields #[.ref l, .int 0 0] }).push
      { cls := .type "enumerate", data := .fields #[.none, .bool false, .ref s.heap.objs.size, rawInt 0, .none, .none] }) (s.heap.objs.size + 1) s.heap.objs.size 0 .none := by
    have := Heap.get?_push_size (s.heap.push { cls := .type "tuple_iterator", data := .fields #[.ref l, .int 0 0] })
      (o := { cls := .type "enumerate", data := .fields #[.none, .bool false, .ref s.heap.objs.size, rawInt 0, .none, .none] }) rfl
    rw [hz] at this; exact this
  refine ⟨⟨_, he, rfl⟩, h _ he ⟨_, Heap.get?_push_of_some _ (Heap.get?_push_size _ rfl), rfl, rfl⟩ (by rw [Heap.size_push, hz]) fun b o x => Heap.get?_push_of_some _ (Heap.get?_push_of_some _ x)⟩
end
/-- the tuple at a, each item in a new pair -/
def Itet (K : PySem.W.Frag) (a : Addr) : It :=
  ⟨fun i H => ∃ (xs : List V) (x : V), SqT K H a xs ∧ xs[i]? = some x, fun i H v H' => ∃ T x, v = .ref T ∧ H T = none ∧ H' = upd H T (.tup [.int (i : Nat), x]) ∧ ∀ xs, SqT K H a xs → xs[i]? = some x, fun i H => ∃ xs : List V, SqT K H a xs ∧ xs.length = i⟩
theorem turn_enumT {P : Program} {w : World} {K : PySem.W.Frag} {elts : List Expr} {kk : Nat} {tpos : Pos} (a e it : Addr) (hai : a ≠ it) (hae : a ≠ e) :
    Turn P w K (.Tuple elts kk tpos) (Itet K a) [e, it] e (fun i h => (∃ old, IsEnum h e it ((i : Nat) : Int) old) ∧ h.IsTupleIter it a i ∧ e ≠ it) where
  mem := by simp
  obj := fun i h st b hb => by
    obtain ⟨⟨old, he⟩, ⟨o, ho, hc, hd⟩, _⟩ := st
    have e' : b = e ∨ b = it := by simpa using hb
    rcases e' with z | z
    · rw [z]; exact ⟨_, he, fun v q => nomatch q⟩
    · rw [z]; exact ⟨o, ho, fun v q => by rw [hd] at q; cases q⟩
  keep := fun i h h' st k => let ⟨⟨old, he⟩, hi, hne⟩ := st; ⟨⟨old, k e (by simp) _ he⟩, hi.at fun o q => k it (by simp) o q, hne⟩
  item := by
    intro X hP hw hK hc i pins s σ H E I hf st hg
    subst hP hw hK
    obtain ⟨⟨old, he⟩, hit, hne⟩ := st
    obtain ⟨xs, x, hq, hx⟩ := hg
    obtain ⟨its, rv, p, hz⟩ := I.tuple hq
    obtain ⟨u, hu, ru⟩ := rv.get hx
    have hel : e < s.heap.objs.size := Heap.lt_size he
    have hil : it < s.heap.objs.size := by obtain ⟨_, q, _⟩ := hit; exact Heap.lt_size q
    have hlt : i < its.toArray.size := by rw [List.size_toArray]; exact (List.getElem?_eq_some_iff.mp hu).1
    refine wpAny_pyNext_enum_itemD (Draws.tuple (A := X.A.in1) (I.ok.hd hc) it a hai its.toArray) he ⟨hit, p⟩ hlt hne (by simp [hne, Ne.symm hae]) fun y h' tk hy ho hst hT hsz hk => ?_
    obtain rfl : y = u := by
      have : its[i]? = some y := by simpa using hy
      rw [hu] at this
      exact (Option.some.inj this).symm
    refine ⟨_, rfl, wpAny_letOwnedTupleGo_enum (s := { s with heap := h', toks := tk + 1 }) ho fun h'' he' sb => ?_⟩
    have hT2 : h''.get? s.heap.objs.size = some { cls := .type "tuple", data := .seq #[.int i tk, y] } := (sb.2 _ (Nat.ne_of_gt hel)).trans hT
    have new : ObjOk X.prog X.w (upd H s.heap.objs.size (.tup [.int (i : Nat), x])) h'' s.heap.objs.size (.tup [.int (i : Nat), x]) :=
      ⟨by show 2 ≤ sizeLine; decide, [.int i tk, y], .cons ⟨_, rfl⟩ (.cons ru .nil), ⟨_, hT2, rfl, _, rfl⟩⟩
    have I1 : Inv X pins σ (upd H s.heap.objs.size (.tup [.int (i : Nat), x])) { s with heap := h'', toks := tk + 1 } :=
      I.turnedNew (ch := [e, it]) (fun b ob hb q => (sb.2 b (fun z => hb (by simp [z]))).trans (hk b ob (fun z => hb (by simp [z])) (fun z => hb (by simp [z])) q)) hf (Nat.le_refl _) new
    refine ⟨.ref s.heap.objs.size, _, I1, rfl, ⟨_, x, rfl, I.hok.fresh (Nat.le_refl _), rfl, fun ys hy => by rw [I.tuple_inj hy hq]; exact hx⟩, ⟨⟨y, ?_⟩, hst.1.at fun o q => (sb.2 it (Ne.symm hne)).trans q, hne⟩, fun b hb => ?_⟩
    · have e1 : ((i + 1 : Nat) : Int) = (i : Int) + 1 := by omega
      rw [e1]; exact he'
    · have hb' : b < s.heap.objs.size := by
        have e' : b = e ∨ b = it := by simpa using hb
        rcases e' with z | z
        · rw [z]; exact hel
        · rw [z]; exact hil
      rw [upd_ne (Nat.ne_of_lt hb')]
      exact (hf b hb).1
  done := by
    intro X hP hw hK hc i pins s σ H E I hf st hg
    subst hP hw hK
    obtain ⟨⟨old, he⟩, hit, hne⟩ := st
    obtain ⟨xs, hq, hx⟩ := hg
    obtain ⟨its, rv, p, hz⟩ := I.tuple hq
    obtain ⟨f0, f1, f2, f3, f4, f5⟩ := hf it (by simp)
    have hl := rv.length
    have e1 : its.toArray.size = i := by rw [List.size_toArray]; omega
    refine wpAny_pyNext_enum_endD (Draws.tuple (A := X.A.in1) (I.ok.hd hc) it a hai its.toArray) he ⟨?_, p⟩ fun h' eb => ⟨rfl, I.turned (t' := s.toks) (fun b o hb q => eb b o hb q) f0 f1 f3 f4 f5⟩
    rw [e1]
    exact hit
  self := fun A i s Q E st h => let ⟨⟨_, he⟩, _⟩ := st; wpAny_pyIter_enum he h
def iEnumA (K : PySem.W.Frag) (ta : TA) : TI := fun σ H R => ta σ H fun vs H1 => ∃ a xs, vs = [.ref a] ∧ ((SqL K H1 a xs ∧ R (Ite K a) H1) ∨ (SqT K H1 a xs ∧ R (Itet K a) H1))
theorem pi_enumA {X : Cx} {e : Expr} {ta : TA} {p pos tpos : Pos} {elts : List Expr} {kk : Nat} (hg : Gl X "enumerate") (hm : X.mg "enumerate" = none) (ha : PA X [e] ta) (hs : starEach [e] X.env = [(false, eval e X.env)]) :
    PI X (.Tuple elts kk tpos) (.Call (.Name "enumerate" p) [e] [] pos) (iEnumA X.K ta) := by
  refine ⟨fun pins s σ H R I h => ?_⟩
  refine PyProof.Rows.Call_ (ld_blt I hg hm PyProof.Rows.boot_enumerate (PyProof.Rows.callWith_type1 (thn (ha.run pos pins s σ H _ I h) fun us s1 ⟨vs, H1, I1, r1, q1⟩ => ?_) hs rfl))
  obtain ⟨a, xs, ex, q1⟩ := q1
  subst ex
  cases r1 with
  | cons r rr =>
    cases rr
    cases r
    have fr : ∀ b ∈ [s1.heap.objs.size + 1, s1.heap.objs.size], FpOk X pins H1 b := fun b hb => by
      have e' : b = s1.heap.objs.size + 1 ∨ b = s1.heap.objs.size := by simpa using hb
      have hle : s1.heap.objs.size ≤ b := by
        rcases e' with z | z
        · rw [z]; exact Nat.le_add_right _ _
        · rw [z]; exact Nat.le_refl _
      exact I1.fpOk hle (I1.hok.fresh hle)
    rcases q1 with ⟨hq, q⟩ | ⟨hq, q⟩
    · obtain ⟨its, rv, p', hz⟩ := I1.list hq
      refine call_enumerate_list p'.isList fun h' he hit hsz hk => wpAny_pyIter_enum he ?_
      have I2 : Inv X pins σ H1 { s1 with heap := h' } := I1.kept (t' := s1.toks) hk
      exact ⟨s1.heap.objs.size + 1, [s1.heap.objs.size + 1, s1.heap.objs.size], _, _, H1, rfl, I2, turn_enum a (s1.heap.objs.size + 1) s1.heap.objs.size, ⟨⟨.none, he⟩, hit, Nat.succ_ne_self _⟩, fr, q⟩
    · obtain ⟨its, rv, p', hz⟩ := I1.tuple hq
      have la : a < s1.heap.objs.size := by obtain ⟨o, ho, _⟩ := id p'; exact Heap.lt_size ho
      refine call_enumerate_tup p' fun h' he hit hsz hk => wpAny_pyIter_enum he ?_
      have I2 : Inv X pins σ H1 { s1 with heap := h' } := I1.kept (t' := s1.toks) hk
      exact ⟨s1.heap.objs.size + 1, [s1.heap.objs.size + 1, s1.heap.objs.size], _, _, H1, rfl, I2, turn_enumT a (s1.heap.objs.size + 1) s1.heap.objs.size (Nat.ne_of_lt la) (Nat.ne_of_lt (Nat.lt_succ_of_lt la)), ⟨⟨.none, he⟩, hit, Nat.succ_ne_self _⟩, fr, q⟩
/-! ### a frozen dict -/
/-- entries as the layer sees them -/
inductive XR : List (V × V) → List (NestedKey × Addr × Value) → Prop
  | nil : XR [] []
  | cons {k : NestedKey} {b : Addr} {u : Value} {v : V} {r : List (V × V)} {s : List (NestedKey × Addr × Value)} : RelV v u → XR r s → XR ((.ref b, v) :: r) ((k, b, u) :: s)
theorem XR.length : ∀ {r s}, XR r s → r.length = s.length
  | _, _, .nil => rfl
  | _, _, .cons _ t => by simp [XR.length t]
theorem XR.get : ∀ {r s} {i : Nat} {p : V × V}, XR r s → r[i]? = some p → ∃ k b u, s[i]? = some (k, b, u) ∧ p.1 = .ref b ∧ RelV p.2 u
  | _, _, _, _, .nil, h => by simp at h
  | _, _, 0, _, .cons q _, h => by simp at h; subst h; exact ⟨_, _, _, rfl, rfl, q⟩
  | _, _, i + 1, _, .cons _ t, h => by
    simp at h
    obtain ⟨k, b, u, h1, h2⟩ := XR.get t h
    exact ⟨k, b, u, by simpa using h1, h2⟩
theorem Inv.frzX {X : Cx} {pins : List (Addr × Obj)} {σ : L2.St} {H : Hp} {s : Shared} {d : Addr} {o : Obj} {xs : List (NestedKey × Addr × Value)} (I : Inv X pins σ H s) (h : H d = some (.frz o (.ext (rawD X.prog X.w d xs)))) :
    s.heap.get? d = some o ∧ o.ExactDict ∧ ∃ es ep, o.data = .dict es ep ∧ es.size = xs.length ∧ (∀ i (hi : i < es.size) k b u, xs[i]? = some (k, b, u) → es[i].key = .ref b ∧ es[i].val = u) := by
  obtain ⟨hd, x⟩ := I.hok d _ h
  obtain ⟨q, _, _⟩ := x
  obtain ⟨o', es, ep, h1, h2, h3, h4⟩ := q
  rw [hd] at h1
  cases h1
  have hl : es.size = xs.length := by
    have := congrArg List.length h4
    simpa using this
  refine ⟨hd, h2, es, ep, h3, hl, fun i hi k b u hx => ?_⟩
  have e : es.toList[i]? = some (entryOfKey (nestedKind X.prog X.w) (k, b, u)) := by rw [h4, List.getElem?_map, hx]; rfl
  have e' : es[i]? = some (entryOfKey (nestedKind X.prog X.w) (k, b, u)) := by simpa using e
  rw [Array.getElem?_eq_getElem hi] at e'
  have e2 := Option.some.inj e'
  exact ⟨by rw [e2]; rfl, by rw [e2]; rfl⟩
/-- the pairs of the frozen dict at d, each a new tuple -/
def Itx (P : Program) (w : World) (d : Addr) (o : Obj) (xs : List (NestedKey × Addr × Value)) (vs : List (V × V)) : It :=
  ⟨fun i H => H d = some (.frz o (.ext (rawD P w d xs))) ∧ i < vs.length, fun i H x H' => ∃ T k v, vs[i]? = some (k, v) ∧ x = .ref T ∧ H T = none ∧ H' = upd H T (.tup [k, v]), fun i H => H d = some (.frz o (.ext (rawD P w d xs))) ∧ vs.length ≤ i⟩
/-- its keys -/
def Itxk (P : Program) (w : World) (d : Addr) (o : Obj) (xs : List (NestedKey × Addr × Value)) (vs : List (V × V)) : It :=
  ⟨fun i H => H d = some (.frz o (.ext (rawD P w d xs))) ∧ i < vs.length, fun i H x H' => H' = H ∧ ∃ v, vs[i]? = some (x, v), fun i H => H d = some (.frz o (.ext (rawD P w d xs))) ∧ vs.length ≤ i⟩
section
variable {P : Program} {w : World} {K : PySem.W.Frag} {tg : Expr} {d : Addr} {o : Obj} {es : Array DictEntry} {ep : Nat} {xs : List (NestedKey × Addr × Value)} {vs : List (V × V)}
theorem turn_itemsX {elts : List Expr} {kk : Nat} {tpos : Pos} (it : Addr) (hod : o.data = .dict es ep) (hx : XR vs xs) :
    Turn P w K (.Tuple elts kk tpos) (Itx P w d o xs vs) [it] it (fun i h => ∃ ok ov, IsItemIter h it d i es.size ep ok ov) where
  mem := by simp
  obj := fun i h st b hb => by
    have e : b = it := by simpa using hb
    subst e
    obtain ⟨ok, ov, e⟩ := st
    exact ⟨_, e, fun v z => nomatch z⟩
  keep := fun i h h' st k => let ⟨ok, ov, e⟩ := st; ⟨ok, ov, k it (by simp) _ e⟩
  item := by
    intro X hP hw hK hc i pins s σ H E I hf st hg
    subst hP hw hK
    obtain ⟨hd, hi⟩ := hg
    obtain ⟨hgd, hxd, es', ep', hdt, hsz, ent⟩ := Inv.frzX I hd
    obtain ⟨rfl, rfl⟩ := dict_ep hod hdt
    obtain ⟨p, hp⟩ : ∃ p, vs[i]? = some p := ⟨vs[i], List.getElem?_eq_getElem hi⟩
    obtain ⟨k, b, u, hxi, e1, ru⟩ := hx.get hp
    have hlt' : i < es'.size := by rw [hsz, ← hx.length]; exact hi
    obtain ⟨ek, ev⟩ := ent i hlt' k b u hxi
    obtain ⟨ok, ov, he⟩ := st
    have hlt : it < s.heap.objs.size := Heap.lt_size he
    refine wpAny_pyNext_items_item_raw he ⟨o, hgd, hxd, hdt⟩ hlt' fun h' ho hT hz hk => ?_
    rw [ek, ev] at ho hT
    refine ⟨_, rfl, wpAny_letOwnedTupleGo_items (s := { s with heap := h' }) ho fun h'' he' sb => ?_⟩
    have hT2 : h''.get? s.heap.objs.size = some { cls := .type "tuple", data := .seq #[.ref b, u] } := (sb.2 _ (Nat.ne_of_gt hlt)).trans hT
    have new : ObjOk X.prog X.w (upd H s.heap.objs.size (.tup [p.1, p.2])) h'' s.heap.objs.size (.tup [p.1, p.2]) :=
      ⟨by show 2 ≤ sizeLine; decide, [.ref b, u], .cons (by rw [e1]; rfl) (.cons ru .nil), ⟨_, hT2, rfl, _, rfl⟩⟩
    have I1 : Inv X pins σ (upd H s.heap.objs.size (.tup [p.1, p.2])) { s with heap := h'' } :=
      I.turnedNew (t' := s.toks) (ch := [it]) (fun b ob hb e => (sb.2 b (by simpa using hb)).trans (hk b ob (by simpa using hb) e)) hf (Nat.le_refl _) new
    refine ⟨.ref s.heap.objs.size, _, I1, rfl, ⟨_, p.1, p.2, hp, rfl, I.hok.fresh (Nat.le_refl _), rfl⟩, ⟨.ref b, u, he'⟩, fun b hb => ?_⟩
    have e : b = it := by simpa using hb
    rw [e, upd_ne (Nat.ne_of_lt hlt)]
    exact (hf it (by simp)).1
  done := by
    intro X hP hw hK hc i pins s σ H E I hf st hg
    subst hP hw hK
    obtain ⟨hd, hi⟩ := hg
    obtain ⟨f0, f1, f2, f3, f4, f5⟩ := hf it (by simp)
    obtain ⟨hgd, hxd, es', ep', hdt, hsz, ent⟩ := Inv.frzX I hd
    obtain ⟨rfl, rfl⟩ := dict_ep hod hdt
    obtain ⟨ok, ov, he⟩ := st
    have hge : es'.size ≤ i := by rw [hsz, ← hx.length]; exact hi
    exact wpAny_pyNext_items_end_raw (I.ok.hd hc) he ⟨o, hgd, hxd, hdt⟩ hge fun h' eb => ⟨rfl, I.turned (t' := s.toks) (fun b ob hb e => eb b ob hb e) f0 f1 f3 f4 f5⟩
  self := fun A i s Q E st h => let ⟨_, _, e⟩ := st; PySem.W.kcp_self e h
theorem turn_keysX (it : Addr) (hod : o.data = .dict es ep) (hx : XR vs xs) : Turn P w K tg (Itxk P w d o xs vs) [it] it (fun i h => h.IsKeyIter it d i es.size ep) where
  mem := by simp
  obj := fun i h st b hb => by
    have e : b = it := by simpa using hb
    subst e
    obtain ⟨oi, e, c, dd⟩ := st
    exact ⟨oi, e, fun v z => by rw [dd] at z; cases z⟩
  keep := fun i h h' st k => st.at fun oi e => k it (by simp) oi e
  item := by
    intro X hP hw hK hc i pins s σ H E I hf st hg
    subst hP hw hK
    obtain ⟨hd, hi⟩ := hg
    obtain ⟨f0, f1, f2, f3, f4, f5⟩ := hf it (by simp)
    obtain ⟨hgd, hxd, es', ep', hdt, hsz, ent⟩ := Inv.frzX I hd
    obtain ⟨rfl, rfl⟩ := dict_ep hod hdt
    obtain ⟨p, hp⟩ : ∃ p, vs[i]? = some p := ⟨vs[i], List.getElem?_eq_getElem hi⟩
    obtain ⟨k, b, u, hxi, e1, ru⟩ := hx.get hp
    have hlt' : i < es'.size := by rw [hsz, ← hx.length]; exact hi
    obtain ⟨ek, ev⟩ := ent i hlt' k b u hxi
    refine wpAny_pyNext_keys_item_raw st ⟨o, hgd, hxd, hdt⟩ hlt' fun h' st' sb => ?_
    have I1 : Inv X pins σ H { s with heap := h' } := I.turned (t' := s.toks) (fun b ob hb e => (sb.2 b hb).trans e) f0 f1 f3 f4 f5
    obtain ⟨oi, e, c, dd⟩ := id st'
    exact ⟨_, rfl, go_of (s := { s with heap := h' }) e c dd (by decide) ⟨p.1, H, I1, by rw [e1, ek]; rfl, ⟨rfl, p.2, hp⟩, st', fun b hb => (hf b hb).1⟩⟩
  done := by
    intro X hP hw hK hc i pins s σ H E I hf st hg
    subst hP hw hK
    obtain ⟨hd, hi⟩ := hg
    obtain ⟨f0, f1, f2, f3, f4, f5⟩ := hf it (by simp)
    obtain ⟨hgd, hxd, es', ep', hdt, hsz, ent⟩ := Inv.frzX I hd
    obtain ⟨rfl, rfl⟩ := dict_ep hod hdt
    have hge : es'.size ≤ i := by rw [hsz, ← hx.length]; exact hi
    exact wpAny_pyNext_keys_end_raw (I.ok.hd hc) st ⟨o, hgd, hxd, hdt⟩ hge fun h' eb => ⟨rfl, I.turned (t' := s.toks) (fun b ob hb e => eb b ob hb e) f0 f1 f3 f4 f5⟩
  self := fun A i s Q E st h => by
    refine wpAny_pyIter_slot st.typeIs F.slot_dict_keyiterator_iter (wpAny_call_entry F.slot_dict_keyiterator_iter st.typeIs F.entry_dict_keyiterator_iter ?_ (F.args_dict_keyiterator_iter_1 _))
    show wpAny _ _ (ret (.ref it)) _ _ s
    exact wpAny_pure ⟨_, rfl, "dict_keyiterator", _, st.typeIs, F.slot_dict_keyiterator_next.lookup, h⟩
end
section
variable {X : Cx} {tg e : Expr} {td : TE} {apos cpos : Pos}
def iItemsX (X : Cx) (td : TE) : TI := fun σ H R => td σ H fun x H1 => ∃ d o xs vs, x = .ref d ∧ (d == sysModules) = false ∧ H1 d = some (.frz o (.ext (rawD X.prog X.w d xs))) ∧ XR vs xs ∧ R (Itx X.prog X.w d o xs vs) H1
def iKeysX (X : Cx) (td : TE) : TI := fun σ H R => td σ H fun x H1 => ∃ d o xs vs, x = .ref d ∧ (d == sysModules) = false ∧ H1 d = some (.frz o (.ext (rawD X.prog X.w d xs))) ∧ XR vs xs ∧ R (Itxk X.prog X.w d o xs vs) H1
theorem pi_keysX (he : PE X e td) : PI X tg e (iKeysX X td) := by
  refine ⟨fun pins s σ H R I h => ?_⟩
  refine thn (he.run pins s σ H _ I h) fun u s1 ⟨x, H1, I1, rx, d, o, xs, vs, ex, hs, hd, xr, q⟩ => ?_
  subst ex
  obtain rfl : u = Value.ref d := rx
  obtain ⟨hgd, hxd, es, ep, hdt, hsz, ent⟩ := Inv.frzX I1 hd
  exact wpAny_pyIter_dict_raw hs ⟨o, hgd, hxd, hdt⟩ (pi_one (tk := s1.toks) I1 _ (turn_keysX _ hdt xr) ⟨_, Heap.get?_push_size _ rfl, rfl, rfl⟩ q)
theorem pi_itemsX {elts : List Expr} {kk : Nat} {tpos : Pos} (he : PE X e td) (hbase : attributeBase e "items" X.env (eval e X.env) = eval e X.env) (hline : (apos.endLine == cpos.line) = true) :
    PI X (.Tuple elts kk tpos) (.Call (.Attribute e "items" apos) [] [] cpos) (iItemsX X td) := by
  refine ⟨fun pins s σ H R I h => ?_⟩
  refine wpAny_Call_method (T := "dict") (id := "dict.items") hbase rfl hline F.plainAttrs_dict F.slot_dict_items F.type_dict_items (thn (he.run pins s σ H _ I h) fun u s1 ⟨x, H1, I1, rx, d, o, xs, vs, ex, hs, hd, xr, q⟩ => ?_)
  subst ex
  obtain rfl : u = Value.ref d := rx
  obtain ⟨hgd, hxd, es, ep, hdt, hsz, ent⟩ := Inv.frzX I1 hd
  refine ⟨⟨o, hgd, hxd.1⟩, ?_, ?_⟩
  · exact fun a ea => by cases ea; exact ⟨o, hgd, hxd.2.1⟩
  have I2 : Inv X pins σ H1 { s1 with heap := s1.heap.push { cls := .type "dict_items", data := .fields #[.ref d] } } := I1.kept (t' := s1.toks) fun b ob q => Heap.get?_push_of_some _ q
  have fin : wpAny (model X.prog X.w) X.A (pyIter (.ref s1.heap.objs.size)) (PIE X pins σ (.Tuple elts kk tpos) R) X.xe { s1 with heap := s1.heap.push { cls := .type "dict_items", data := .fields #[.ref d] } } :=
    wpAny_pyIter_items_raw (d := d) ⟨_, Heap.get?_push_size _ rfl, rfl, rfl⟩ ⟨o, Heap.get?_push_of_some _ hgd, hxd, hdt⟩ (pi_one (tk := s1.toks) I2 _ (turn_itemsX _ hdt xr) ⟨.none, .none, Heap.get?_push_size _ rfl⟩ q)
  show wpAny _ _ (callWith cpos (.builtin "dict.items") [.ref d] [] []) _ X.xe s1
  exact method_meetsIn F.slot_dict_items F.entry_dict_items rfl (PySem.evalArgs_none ⟨rfl, ⟨o, hgd, hxd.1⟩, F.args_dict_items_1 _, _, meets_dict_items_raw d hs, ⟨es, ep, o, hgd, hxd, hdt⟩, fin⟩)
end
end SC
end
end
section
set_option linter.all false
set_option maxRecDepth 100000
set_option Elab.async false
/-! SC14: targets, walks, loops. -/
noncomputable section
namespace SC
open PySem L2
/-! ### slots -/
theorem wipe_in {σ : L2.St} {i : Nat} : ∀ {vs : List Nat}, i ∈ vs → (wipe σ vs)[i]? = if i < σ.length then some none else none
  | v :: vs, h => by
    unfold wipe
    by_cases hv : v = i
    · subst hv
      by_cases hl : v < σ.length
      · rw [List.getElem?_set_self (by rw [wipe_length]; exact hl), if_pos hl]
      · rw [List.getElem?_eq_none (by rw [List.length_set, wipe_length]; omega), if_neg hl]
    · rw [List.getElem?_set_ne hv]
      refine wipe_in ?_
      rcases List.mem_cons.mp h with e | h
      · exact absurd e.symm hv
      · exact h
theorem wipe_set {σ : L2.St} {i : Nat} {x : Option V} {vs : List Nat} (h : i ∈ vs) : wipe (σ.set i x) vs = wipe σ vs := by
  refine List.ext_getElem? fun j => ?_
  by_cases hj : j ∈ vs
  · rw [wipe_in hj, wipe_in hj, List.length_set]
  · rw [wipe_out hj, wipe_out hj, List.getElem?_set_ne (fun e : i = j => hj (e ▸ h))]
def Tg.slots : Tg → List Nat
  | .n i => [i]
  | .t l => l
/-- slots but for some -/
structure RSx (S : Sx) (vs : List Nat) (μ : List Addr) (h : H) (ρ : Env) (σ : L2.St) (Hh : Hp) : Prop where
  rh : RH S μ h Hh
  sl : ∀ (i : Nat) d, i ∉ vs → ρ[i]? = some (some d) → ∃ v, σ[i]? = some (some v) ∧ VR S.K μ Hh d v
  ln : ρ.length = σ.length
theorem RS.x {S : Sx} {vs : List Nat} {μ : List Addr} {h : H} {ρ : Env} {σ : L2.St} {Hh : Hp} (r : RS S μ h ρ σ Hh) : RSx S vs μ h ρ σ Hh := ⟨r.rh, fun i d _ e => r.sl i d e, r.ln⟩
theorem RSx.set {S : Sx} {vs ws : List Nat} {μ : List Addr} {h : H} {ρ : Env} {σ : L2.St} {Hh : Hp} {i : Nat} {d : D} {x : V} (r : RSx S vs μ h ρ σ Hh) (hv : ∀ j, j ∉ ws → j ≠ i → j ∉ vs) (w : VR S.K μ Hh d x) : RSx S ws μ h (ρ.set i (some d)) (σ.set i (some x)) Hh := by
  refine ⟨r.rh, fun j d' hj e => ?_, by simp [r.ln]⟩
  by_cases hji : i = j
  · subst hji
    by_cases hl : i < ρ.length
    · rw [List.getElem?_set_self hl] at e
      cases e
      exact ⟨x, by rw [List.getElem?_set_self (by rw [← r.ln]; exact hl)], w⟩
    · rw [List.getElem?_eq_none (by rw [List.length_set]; omega)] at e
      cases e
  · rw [List.getElem?_set_ne hji] at e ⊢
    exact r.sl j d' (hv j hj (Ne.symm hji)) e
theorem RSx.full {S : Sx} {μ : List Addr} {h : H} {ρ : Env} {σ : L2.St} {Hh : Hp} (r : RSx S [] μ h ρ σ Hh) : RS S μ h ρ σ Hh := ⟨r.rh, fun i d e => r.sl i d (by simp) e, r.ln⟩
theorem RSx.wiped {S : Sx} {vs : List Nat} {μ : List Addr} {h : H} {ρ : Env} {σ : L2.St} {Hh : Hp} (r : RS S μ h ρ σ Hh) : RSx S vs μ h ρ (wipe σ vs) Hh := ⟨r.rh, fun i d hi e => by
  obtain ⟨v, h1, h2⟩ := r.sl i d e
  exact ⟨v, by rw [wipe_out hi]; exact h1, h2⟩, by rw [wipe_length]; exact r.ln⟩
/-! ### targets of names -/
def Ik.pr : Ik → Bool
  | .enum => true | .zip => true | .items => true | _ => false
/-- an item: a value, or a new pair that is only taken apart -/
def Item (pr : Bool) (K : PySem.W.Frag) (μ : List Addr) (Hh : Hp) (d : D) (x : V) : Prop := match pr with
  | true => ∃ T ys zs, d = .tup zs ∧ x = .ref T ∧ Hh T = some (.tup ys) ∧ VRs K μ Hh zs ys
  | false => VR K μ Hh d x
def gNs : List Nat → TGs
  | [] => gNil
  | i :: r => gCons (gName i) (gNs r)
def gTg (K : PySem.W.Frag) : Tg → TG
  | .n i => gName i
  | .t l => gTup K l.length (gNs l)
def Tg.fit (pr : Bool) : Tg → Bool
  | .n _ => !pr
  | .t _ => true
theorem gNs_ok {S : Sx} {μ : List Addr} {h : H} {Hh : Hp} {Q : L2.St → Hp → Prop} : ∀ (l : List Nat) (zs : List D) (ys : List V) (ρ : Env) (σ : L2.St), RSx S l μ h ρ σ Hh → VRs S.K μ Hh zs ys → zs.length = l.length →
    (∀ σ2, RS S μ h ((l.zip zs).foldl (fun s p => s.set p.1 (some p.2)) ρ) σ2 Hh → (∀ vs, (∀ i ∈ l, i ∈ vs) → wipe σ2 vs = wipe σ vs) → Q σ2 Hh) → gNs l ys σ Hh Q
  | [], zs, ys, ρ, σ, r, w, e, q => by
    cases w with
    | nil => exact ⟨rfl, q σ r.full fun _ _ => rfl⟩
    | cons _ _ => simp at e
  | i :: l, zs, ys, ρ, σ, r, w, e, q => by
    cases w with
    | nil => simp at e
    | @cons d x zs ys w ws =>
      refine ⟨x, ys, rfl, gNs_ok l zs ys (ρ.set i (some d)) (σ.set i (some x)) (r.set (fun j hj hi => by simp [hi, hj]) w) ws (by simpa using e) fun σ2 r2 hw => ?_⟩
      refine q σ2 r2 fun vs hvs => ?_
      rw [hw vs fun j hj => hvs j (List.mem_cons_of_mem _ hj), wipe_set (hvs i List.mem_cons_self)]
theorem tg_ok {S : Sx} {μ : List Addr} {h : H} {Hh : Hp} {ρ ρ2 : Env} {σ : L2.St} {Q : L2.St → Hp → Prop} {pr : Bool} {tg : Tg} {d : D} {x : V} (hf : tg.fit pr = true) (r : RSx S tg.slots μ h ρ σ Hh) (it : Item pr S.K μ Hh d x) (e : tgSet tg d ρ = some ρ2)
    (q : ∀ σ2, RS S μ h ρ2 σ2 Hh → (∀ vs, (∀ i ∈ tg.slots, i ∈ vs) → wipe σ2 vs = wipe σ vs) → Q σ2 Hh) : gTg S.K tg x σ Hh Q := by
  cases tg with
  | n i =>
    cases pr with
    | true => cases hf
    | false =>
      cases e
      exact q _ (r.set (ws := []) (fun j _ hj => by simp [Tg.slots, hj]) it).full fun vs hvs => wipe_set (hvs i (by simp [Tg.slots]))
  | t l =>
    have key : ∀ (a : Addr) (ys : List V) (zs : List D), d = .tup zs → x = .ref a → SqT S.K Hh a ys → VRs S.K μ Hh zs ys → gTg S.K (.t l) x σ Hh Q := fun a ys zs ed ex sq ws => by
      subst ed ex
      simp only [tgSet] at e
      split at e
      · rename_i hl
        cases e
        exact ⟨a, ys, rfl, sq, by rw [← ws.length]; exact hl, gNs_ok l zs ys ρ σ r ws hl q⟩
      · cases e
    cases pr with
    | true =>
      obtain ⟨T, ys, zs, ed, ex, ht, ws⟩ := it
      exact key T ys zs ed ex (.inl (.inl ht)) ws
    | false =>
      have it : VR S.K μ Hh d x := it
      cases it with
      | @tup a zs ys q' ws => exact key a ys zs rfl rfl q'.sq ws
      | _ => simp [tgSet] at e
/-- a name that this frame stores to -/
structure NmOk (X : Cx) (x : Str) (i : Nat) : Prop where
  nd : X.N.Nodup
  at_ : X.N[i]? = some x
  loc : Loc X.env.scope x
  own : X.fn x = true ∨ X.env.scope.names.lookup x = some .local
theorem assignEach_cons {e : Expr} {es : List Expr} {env : PySem.Env} (h : noStar e = true) : assignEach (e :: es) env = (false, assign e env) :: assignEach es env := by
  cases e <;> first | rfl | (simp [noStar] at h)
theorem assignEach_ok {env : PySem.Env} : ∀ {es : List Expr}, es.all noStar = true → (assignEach es env).length = es.length ∧ (assignEach es env).findIdx? (·.1) = none
  | [], _ => ⟨rfl, rfl⟩
  | e :: es, h => by
    simp only [List.all_cons, Bool.and_eq_true] at h
    obtain ⟨h1, h2⟩ := assignEach_ok (env := env) h.2
    rw [assignEach_cons h.1]
    refine ⟨by simp [h1], ?_⟩
    rw [List.findIdx?_cons]
    simp [h2]
section
variable {Y : Lw} {X : Cx} {n : Nat} {pos : Pos}
/-- names as a target -/
def nmsOk (X : Cx) : List Expr → List Nat → Prop
  | [], [] => True
  | .Name x _ :: es, i :: l => NmOk X x i ∧ nmsOk X es l
  | _, _ => False
theorem nms_star : ∀ {es : List Expr} {l : List Nat}, nmsOk X es l → es.all noStar = true ∧ es.length = l.length
  | [], [], _ => ⟨rfl, rfl⟩
  | .Name x _ :: es, i :: l, h => by
    obtain ⟨h1, h2⟩ := nms_star h.2
    exact ⟨by simp only [List.all_cons, h1]; rfl, by simp [h2]⟩
theorem pgs_names : ∀ {es : List Expr} {l : List Nat}, nmsOk X es l → PGs X es (gNs l)
  | [], [], _ => pgs_nil
  | .Name x _ :: es, i :: l, h => pgs_cons (pg_name h.1.nd h.1.at_ h.1.loc h.1.own) (pgs_names h.2)
def tgOk (X : Cx) : Expr → Tg → Prop
  | .Name x _, .n i => NmOk X x i
  | .Tuple es _ _, .t l => nmsOk X es l
  | _, _ => False
theorem pg_tg {e : Expr} {tg : Tg} (hc : X.calm = true) (h : tgOk X e tg) : PG X e (gTg X.K tg) := by
  cases tg with
  | n i =>
    cases e with
    | Name x p => exact pg_name h.nd h.at_ h.loc h.own
    | _ => exact h.elim
  | t l =>
    cases e with
    | Tuple es k p =>
      obtain ⟨h1, h2⟩ := nms_star h
      obtain ⟨h3, h4⟩ := assignEach_ok (env := X.env) h1
      exact pg_tup hc (pgs_names h) (by rw [h3, h2]) h4
    | _ => exact h.elim
/-! ### walks -/
def ItR (Y : Lw) (X : Cx) (μ : List Addr) (h : H) (Hh : Hp) (l : List Nat) (xs : List D) (pr : Bool) (J : It) : Prop :=
  ∀ μ' h' H' (i : Nat), Ext X.K μ Hh μ' H' → RH (Y.sx X) μ' h' H' → Pr (h.lock l) h' →
    (∀ d, xs[i]? = some d → J.go i H' ∧ ∀ x H'', J.yld i H' x H'' → Ext X.K μ' H' μ' H'' ∧ RH (Y.sx X) μ' h' H'' ∧ Item pr X.K μ' H'' d x) ∧ (i = xs.length → J.stop i H')
theorem Pr.locked {h h' : H} {l : List Nat} {p : Nat} (q : Pr (h.lock l) h') (hp : p ∈ l) (hl : p < h.o.length) : h'.o[p]? = h.o[p]? := q.keep p hl (by
  unfold H.prot
  simp [H.lock, hp])
theorem list_ix {α : Type} {l : List α} {i : Nat} (h : i = l.length) : l.length ≤ i := by omega
theorem it_list {μ : List Addr} {h : H} {Hh : Hp} {l : List Nat} {p : Nat} {a : Addr} {xs : List D} (hp : p ∈ l) (ea : μ[p]? = some a) (eo : h.o[p]? = some (.lst xs) ∨ h.o[p]? = some (.fz xs)) : ItR Y X μ h Hh l xs false (Itl X.K a) := by
  intro μ' h' H' i x r q
  have hl : p < h.o.length := by rcases eo with e | e <;> exact (List.getElem?_eq_some_iff.mp e).1
  have eo' : h'.o[p]? = some (.lst xs) ∨ h'.o[p]? = some (.fz xs) := by rw [q.locked hp hl]; exact eo
  obtain ⟨ys, h1, h2⟩ := r.seq eo' (pre_get x.pre ea)
  refine ⟨fun d hd => ?_, fun e => ⟨ys, h1, by rw [← h2.length]; exact list_ix e⟩⟩
  obtain ⟨y, hy, wy⟩ := h2.get hd
  refine ⟨⟨ys, y, h1, hy⟩, fun z H'' ⟨e, hz⟩ => ?_⟩
  subst e
  have := hz ys h1
  rw [hy] at this
  cases this
  exact ⟨Ext.refl, r, wy⟩
theorem it_tup {μ : List Addr} {h : H} {Hh : Hp} {l : List Nat} {a : Addr} {xs : List D} {ys : List V} (q : TpA X.K Hh a ys) (ws : VRs X.K μ Hh xs ys) : ItR Y X μ h Hh l xs false (Itt X.K a) := by
  intro μ' h' H' i x r _
  have h1 := (x.tup.tp _ _ q).sq
  have h2 := VRs.mono x _ _ ws
  refine ⟨fun d hd => ?_, fun e => ⟨ys, h1, by rw [← h2.length]; exact list_ix e⟩⟩
  obtain ⟨y, hy, wy⟩ := h2.get hd
  refine ⟨⟨ys, y, h1, hy⟩, fun z H'' ⟨e, hz⟩ => ?_⟩
  subst e
  have := hz ys h1
  rw [hy] at this
  cases this
  exact ⟨Ext.refl, r, wy⟩
theorem rangeL_get {a : Int} {m i : Nat} {d : D} (h : (rangeL a m)[i]? = some d) : i < m ∧ d = .int (a + i) := by
  unfold rangeL at h
  rw [List.getElem?_map] at h
  cases e : (List.range m)[i]? with
  | none => rw [e] at h; cases h
  | some j =>
    rw [e] at h
    obtain ⟨h1, h2⟩ := List.getElem?_eq_some_iff.mp e
    simp at h2
    subst h2
    cases h
    exact ⟨by simpa using h1, rfl⟩
theorem it_range {μ : List Addr} {h : H} {Hh : Hp} {l : List Nat} {a : Int} {m : Nat} : ItR Y X μ h Hh l (rangeL a m) false (Itr a m) := by
  intro μ' h' H' i x r _
  refine ⟨fun d hd => ?_, fun e => ?_⟩
  · obtain ⟨h1, rfl⟩ := rangeL_get hd
    refine ⟨h1, fun z H'' ⟨e, hz⟩ => ?_⟩
    subst e hz
    exact ⟨Ext.refl, r, .int _⟩
  · have : (rangeL a m).length = m := by simp [rangeL]
    show m ≤ i
    omega
/-- a new pair -/
theorem pair_new {μ : List Addr} {h : H} {H' : Hp} {T : Addr} {zs : List D} {ys : List V} (r : RH (Y.sx X) μ h H') (hT : H' T = none) (ws : VRs X.K μ H' zs ys) :
    Ext X.K μ H' μ (upd H' T (.tup ys)) ∧ RH (Y.sx X) μ h (upd H' T (.tup ys)) ∧ Item true X.K μ (upd H' T (.tup ys)) (.tup zs) (.ref T) :=
  have e : Ext X.K μ H' μ (upd H' T (.tup ys)) := ⟨List.prefix_refl _, TK.new hT⟩
  ⟨e, r.new hT, T, ys, zs, rfl, rfl, upd_same, VRs.mono e _ _ ws⟩
theorem enumL_get {xs : List D} {i : Nat} {d : D} (h : (enumL xs)[i]? = some d) : ∃ x, xs[i]? = some x ∧ d = .tup [.int (i : Nat), x] := by
  unfold enumL at h
  rw [List.getElem?_zipWith] at h
  cases e : xs[i]? with
  | none => rw [e] at h; cases e2 : (List.range xs.length)[i]? <;> rw [e2] at h <;> cases h
  | some x =>
    have hi := (List.getElem?_eq_some_iff.mp e).1
    rw [e, List.getElem?_range hi] at h
    cases h
    exact ⟨x, rfl, rfl⟩
theorem enumL_length {xs : List D} : (enumL xs).length = xs.length := by simp [enumL]
theorem it_enumL {μ : List Addr} {h : H} {Hh : Hp} {l : List Nat} {p : Nat} {a : Addr} {xs : List D} (hp : p ∈ l) (ea : μ[p]? = some a) (eo : h.o[p]? = some (.lst xs) ∨ h.o[p]? = some (.fz xs)) : ItR Y X μ h Hh l (enumL xs) true (Ite X.K a) := by
  intro μ' h' H' i x r q
  have hl : p < h.o.length := by rcases eo with e | e <;> exact (List.getElem?_eq_some_iff.mp e).1
  have eo' : h'.o[p]? = some (.lst xs) ∨ h'.o[p]? = some (.fz xs) := by rw [q.locked hp hl]; exact eo
  obtain ⟨ys, h1, h2⟩ := r.seq eo' (pre_get x.pre ea)
  refine ⟨fun d hd => ?_, fun e => ⟨ys, h1, by rw [← h2.length]; rw [enumL_length] at e; exact list_ix e⟩⟩
  obtain ⟨z, hz, rfl⟩ := enumL_get hd
  obtain ⟨y, hy, wy⟩ := h2.get hz
  refine ⟨⟨ys, y, h1, hy⟩, fun v H'' ⟨T, y', ev, hT, eH, hy'⟩ => ?_⟩
  subst ev eH
  have := hy' ys h1
  rw [hy] at this
  cases this
  exact pair_new r hT (.cons (.int _) (.cons wy .nil))
theorem it_enumT {μ : List Addr} {h : H} {Hh : Hp} {l : List Nat} {a : Addr} {xs : List D} {ys : List V} (q : TpA X.K Hh a ys) (ws : VRs X.K μ Hh xs ys) : ItR Y X μ h Hh l (enumL xs) true (Itet X.K a) := by
  intro μ' h' H' i x r _
  have h1 := (x.tup.tp _ _ q).sq
  have h2 := VRs.mono x _ _ ws
  refine ⟨fun d hd => ?_, fun e => ⟨ys, h1, by rw [← h2.length]; rw [enumL_length] at e; exact e.symm⟩⟩
  obtain ⟨z, hz, rfl⟩ := enumL_get hd
  obtain ⟨y, hy, wy⟩ := h2.get hz
  refine ⟨⟨ys, y, h1, hy⟩, fun v H'' ⟨T, y', ev, hT, eH, hy'⟩ => ?_⟩
  subst ev eH
  have := hy' ys h1
  rw [hy] at this
  cases this
  exact pair_new r hT (.cons (.int _) (.cons wy .nil))
theorem zipL_get {xs ys : List D} {i : Nat} {d : D} (h : (zipL xs ys)[i]? = some d) : ∃ x y, xs[i]? = some x ∧ ys[i]? = some y ∧ d = .tup [x, y] := by
  unfold zipL at h
  rw [List.getElem?_zipWith] at h
  cases e : xs[i]? with
  | none => rw [e] at h; cases h
  | some x =>
    cases e2 : ys[i]? with
    | none => rw [e, e2] at h; cases h
    | some y => rw [e, e2] at h; cases h; exact ⟨x, y, rfl, rfl, rfl⟩
theorem zipL_end {xs ys : List D} {i : Nat} (h : i = (zipL xs ys).length) : xs.length ≤ i ∨ ys.length ≤ i := by
  unfold zipL at h
  rw [List.length_zipWith] at h
  omega
theorem it_zipL {μ : List Addr} {h : H} {Hh : Hp} {l : List Nat} {p q : Nat} {a b : Addr} {xs zs : List D} (hp : p ∈ l) (hq : q ∈ l) (ea : μ[p]? = some a) (eb : μ[q]? = some b) (eo : h.o[p]? = some (.lst xs) ∨ h.o[p]? = some (.fz xs)) (eo2 : h.o[q]? = some (.lst zs) ∨ h.o[q]? = some (.fz zs)) :
    ItR Y X μ h Hh l (zipL xs zs) true (Itz X.K a b) := by
  intro μ' h' H' i x r pq
  have hl : p < h.o.length := by rcases eo with e | e <;> exact (List.getElem?_eq_some_iff.mp e).1
  have hl2 : q < h.o.length := by rcases eo2 with e | e <;> exact (List.getElem?_eq_some_iff.mp e).1
  have eo' : h'.o[p]? = some (.lst xs) ∨ h'.o[p]? = some (.fz xs) := by rw [pq.locked hp hl]; exact eo
  have eo2' : h'.o[q]? = some (.lst zs) ∨ h'.o[q]? = some (.fz zs) := by rw [pq.locked hq hl2]; exact eo2
  obtain ⟨ys, h1, h2⟩ := r.seq eo' (pre_get x.pre ea)
  obtain ⟨us, h3, h4⟩ := r.seq eo2' (pre_get x.pre eb)
  refine ⟨fun d hd => ?_, fun e => ⟨ys, us, h1, h3, by rw [← h2.length, ← h4.length]; exact zipL_end e⟩⟩
  obtain ⟨z, z2, hz, hz2, rfl⟩ := zipL_get hd
  obtain ⟨y, hy, wy⟩ := h2.get hz
  obtain ⟨u, hu, wu⟩ := h4.get hz2
  refine ⟨⟨ys, us, y, u, h1, h3, hy, hu⟩, fun v H'' ⟨T, y', u', ev, hT, eH, hy', hu'⟩ => ?_⟩
  subst ev eH
  have e1 := hy' ys h1
  have e2 := hu' us h3
  rw [hy] at e1
  rw [hu] at e2
  cases e1
  cases e2
  exact pair_new r hT (.cons wy (.cons wu .nil))
theorem it_zipT {μ : List Addr} {h : H} {Hh : Hp} {l : List Nat} {a b : Addr} {xs zs : List D} {ys us : List V} (q : TpA X.K Hh a ys) (ws : VRs X.K μ Hh xs ys) (q2 : TpA X.K Hh b us) (ws2 : VRs X.K μ Hh zs us) : ItR Y X μ h Hh l (zipL xs zs) true (RZ.ItzT X.K a b) := by
  intro μ' h' H' i x r _
  have h1 := (x.tup.tp _ _ q).sq
  have h2 := VRs.mono x _ _ ws
  have h3 := (x.tup.tp _ _ q2).sq
  have h4 := VRs.mono x _ _ ws2
  refine ⟨fun d hd => ?_, fun e => ⟨ys, us, h1, h3, by rw [← h2.length, ← h4.length]; exact zipL_end e⟩⟩
  obtain ⟨z, z2, hz, hz2, rfl⟩ := zipL_get hd
  obtain ⟨y, hy, wy⟩ := h2.get hz
  obtain ⟨u, hu, wu⟩ := h4.get hz2
  refine ⟨⟨ys, us, y, u, h1, h3, hy, hu⟩, fun v H'' ⟨T, y', u', ev, hT, eH, hy', hu'⟩ => ?_⟩
  subst ev eH
  have e1 := hy' ys h1
  have e2 := hu' us h3
  rw [hy] at e1
  rw [hu] at e2
  cases e1
  cases e2
  exact pair_new r hT (.cons wy (.cons wu .nil))
end
end SC
end
end
section
set_option linter.all false
set_option maxRecDepth 100000
set_option Elab.async false
/-! SC15: what is walked; comprehensions; loops. -/
noncomputable section
namespace SC
open PySem L2
section
variable {Y : Lw} {X : Cx} {n : Nat} {pos : Pos} {e a b : Expr} {ca cb : E} {tg : Expr}
/-! ### sources -/
def iW (Y : Lw) (X : Cx) (n : Nat) (k : Ik) (cs : List E) : TI := fun σ Hh R => ∃ μ h ρ, RS (Y.sx X) μ h ρ σ Hh ∧ Good (denL Y.T (Y.Φ n) cs ρ h) fun as h1 => ∃ l xs, walkD k as h1 = some (l, xs) ∧
  ∀ μ' H' J, Ext X.K μ Hh μ' H' → RH (Y.sx X) μ' h1 H' → ItR Y X μ' h1 H' l xs k.pr J → R J H'
theorem PI.imp {iter : Expr} {t t' : TI} (h : PI X tg iter t) (i : ∀ σ Hh Q, t' σ Hh Q → t σ Hh Q) : PI X tg iter t' := ⟨fun pins s σ Hh Q I q => h.run pins s σ Hh Q I (i σ Hh Q q)⟩
def iSeq (K : PySem.W.Frag) (tl : TE) : TI := fun σ H R => tl σ H fun x H1 => ∃ a xs, x = .ref a ∧ ((SqL K H1 a xs ∧ R (Itl K a) H1) ∨ (SqT K H1 a xs ∧ R (Itt K a) H1))
theorem pi_seq {l : Expr} {tl : TE} (hl : PE X l tl) : PI X tg l (iSeq X.K tl) := by
  refine ⟨fun pins s σ H R I h => ?_⟩
  refine thn (hl.run pins s σ H _ I h) fun v s1 ⟨x, H1, I1, r1, q1⟩ => ?_
  obtain ⟨a, xs, e, q1⟩ := q1
  subst e
  cases r1
  have fr : ∀ b ∈ [s1.heap.objs.size], FpOk X pins H1 b := fun b hb => by
    have e : b = s1.heap.objs.size := by simpa using hb
    subst e
    exact I1.fpOk (Nat.le_refl _) (I1.hok.fresh (Nat.le_refl _))
  rcases q1 with ⟨hq, q⟩ | ⟨hq, q⟩
  · obtain ⟨its, rv, p, hz⟩ := I1.list hq
    exact wpAny_pyIter_list p.isList ⟨s1.heap.objs.size, [s1.heap.objs.size], _, _, H1, rfl, I1.kept (t' := s1.toks) fun b o e => Heap.get?_push_of_some _ e, turn_list a _, ⟨_, Heap.get?_push_size _ rfl, rfl, rfl⟩, fr, q⟩
  · obtain ⟨its, rv, p, hz⟩ := I1.tuple hq
    exact wpAny_pyIter_tuple (show s1.heap.IsTuple a its.toArray from p) ⟨s1.heap.objs.size, [s1.heap.objs.size], _, _, H1, rfl, I1.kept (t' := s1.toks) fun b o e => Heap.get?_push_of_some _ e, turn_tuple a _, ⟨_, Heap.get?_push_size _ rfl, rfl, rfl⟩, fr, q⟩
theorem itemsD_ref {h : H} {p : Nat} {xs : List D} (e : itemsD (.ref p) h = some xs) : h.o[p]? = some (.lst xs) ∨ h.o[p]? = some (.fz xs) := by
  simp only [itemsD] at e
  split at e
  · rename_i eo; cases e; exact .inl eo
  · rename_i eo; cases e; exact .inr eo
  · cases e
theorem walk_seq_ref {h : H} {p : Nat} {l : List Nat} {xs : List D} (ew : walkD .seq [.ref p] h = some (l, xs)) : l = [p] ∧ (h.o[p]? = some (.lst xs) ∨ h.o[p]? = some (.fz xs)) := by
  simp only [walkD] at ew
  split at ew
  · rename_i ys ei
    cases ew
    exact ⟨rfl, itemsD_ref ei⟩
  · cases ew
theorem den_one {c : E} (hs : c.isStar = false) {ρ : Env} {h h1 : H} {as : List D} (e : denL Y.T (Y.Φ n) [c] ρ h = .ok as h1) : ∃ v, as = [v] ∧ den Y.T (Y.Φ n) c ρ h = .ok v h1 := by
  rw [denL_cons _ _ hs] at e
  cases ed : den Y.T (Y.Φ n) c ρ h with
  | bad => rw [ed] at e; cases e
  | ok v hh =>
    rw [ed] at e
    simp only [R.bind_ok, denL] at e
    cases e
    exact ⟨v, rfl, rfl⟩
theorem den_two {c c2 : E} (hs : c.isStar = false) (hs2 : c2.isStar = false) {ρ : Env} {h h1 : H} {as : List D} (e : denL Y.T (Y.Φ n) [c, c2] ρ h = .ok as h1) : ∃ v w, as = [v, w] := by
  rw [denL_cons _ _ hs] at e
  cases ed : den Y.T (Y.Φ n) c ρ h with
  | bad => rw [ed] at e; cases e
  | ok v hh =>
    rw [ed] at e
    simp only [R.bind_ok] at e
    cases ed2 : denL Y.T (Y.Φ n) [c2] ρ hh with
    | bad => rw [ed2] at e; cases e
    | ok ws hh2 =>
      rw [ed2] at e
      cases e
      obtain ⟨w, rfl, _⟩ := den_one hs2 ed2
      exact ⟨v, w, rfl⟩
theorem s_wseq (da : PE X e (tD Y X n ca)) (hs : ca.isStar = false) : PI X tg e (iW Y X n .seq [ca]) := PI.imp (pi_seq da) fun σ Hh W ⟨μ, h, ρ, r, g⟩ => by
  obtain ⟨as, h1, e1, l, xs, ew, g⟩ := g.ok
  obtain ⟨v1, rfl, e2⟩ := den_one hs e1
  refine tD.of r e2 fun μ1 H1 x x1 r1 w1 => ?_
  cases w1 with
  | @tup a zs ys q ws =>
    simp only [walkD, Option.some.injEq, Prod.mk.injEq] at ew
    obtain ⟨rfl, rfl⟩ := ew
    exact ⟨a, ys, rfl, .inr ⟨q.sq, g μ1 H1 _ x1 r1 (it_tup q ws)⟩⟩
  | @ref p a ea =>
    obtain ⟨rfl, eo⟩ := walk_seq_ref ew
    obtain ⟨us, h1, h2⟩ := r1.seq eo ea
    exact ⟨a, us, rfl, .inl ⟨h1, g μ1 H1 _ x1 r1 (it_list (by simp) ea eo)⟩⟩
  | _ => cases ew
theorem s_wrange1 {p : Pos} (hg : Gl X "range") (hm : X.mg "range" = none) (da : PE X a (tD Y X n ca)) (hs : ca.isStar = false) (hn : noStar a = true) : PI X tg (.Call (.Name "range" p) [a] [] pos) (iW Y X n .range [ca]) :=
  PI.imp (pi_range1 hg hm (s_cons da s_nil hn hs) (starEach_cons hn)) fun σ Hh W ⟨μ, h, ρ, r, g⟩ => by
    obtain ⟨as, h1, e1, l, xs, ew, g⟩ := g.ok
    refine tL.of r e1 fun μ1 H1 vs x1 r1 w1 => ?_
    obtain ⟨v, rfl, _⟩ := den_one hs e1
    simp only [walkD] at ew
    cases v with
    | int m =>
      simp only at ew
      split at ew
      · rename_i hb
        cases ew
        cases w1 with
        | cons w wr =>
          cases wr
          cases w
          exact ⟨m, rfl, by omega, by omega, g μ1 H1 _ x1 r1 it_range⟩
      · cases ew
    | _ => cases ew
theorem s_wrange2 {p : Pos} (hg : Gl X "range") (hm : X.mg "range" = none) (da : PE X a (tD Y X n ca)) (db : PE X b (tD Y X n cb)) (hs : ca.isStar = false) (hs2 : cb.isStar = false) (hn : noStar a = true) (hn2 : noStar b = true) : PI X tg (.Call (.Name "range" p) [a, b] [] pos) (iW Y X n .range [ca, cb]) :=
  PI.imp (pi_range2 hg hm (s_cons da (s_cons db s_nil hn2 hs2) hn hs) (by rw [starEach_cons hn, starEach_cons hn2]; rfl) (starEach_cons hn2)) fun σ Hh W ⟨μ, h, ρ, r, g⟩ => by
    obtain ⟨as, h1, e1, l, xs, ew, g⟩ := g.ok
    refine tL.of r e1 fun μ1 H1 vs x1 r1 w1 => ?_
    obtain ⟨v, w, rfl⟩ := den_two hs hs2 e1
    simp only [walkD] at ew
    cases v with
    | int i =>
      cases w with
      | int j =>
        simp only at ew
        split at ew
        · rename_i hb
          cases ew
          cases w1 with
          | cons w wr =>
            cases w
            cases wr with
            | cons w wr =>
              cases wr
              cases w
              exact ⟨i, j, rfl, ⟨by omega, by omega, by omega, by omega⟩, g μ1 H1 _ x1 r1 it_range⟩
        · cases ew
      | _ => cases ew
    | _ => cases ew
theorem s_wenum {p tpos : Pos} {elts : List Expr} {kk : Nat} (hg : Gl X "enumerate") (hm : X.mg "enumerate" = none) (da : PE X a (tD Y X n ca)) (hs : ca.isStar = false) (hn : noStar a = true) : PI X (.Tuple elts kk tpos) (.Call (.Name "enumerate" p) [a] [] pos) (iW Y X n .enum [ca]) :=
  PI.imp (pi_enumA hg hm (s_cons da s_nil hn hs) (starEach_cons hn)) fun σ Hh W ⟨μ, h, ρ, r, g⟩ => by
    obtain ⟨as, h1, e1, l, xs, ew, g⟩ := g.ok
    refine tL.of r e1 fun μ1 H1 vs x1 r1 w1 => ?_
    obtain ⟨v, rfl, _⟩ := den_one hs e1
    simp only [walkD] at ew
    cases w1 with
    | cons w wr =>
      cases wr
      cases w with
      | @tup a zs ys q ws =>
        simp only [Option.some.injEq, Prod.mk.injEq] at ew
        obtain ⟨rfl, rfl⟩ := ew
        exact ⟨a, ys, rfl, .inr ⟨q.sq, g μ1 H1 _ x1 r1 (it_enumT q ws)⟩⟩
      | @ref p a ea =>
        simp only at ew
        split at ew
        · rename_i zs ei
          cases ew
          have eo := itemsD_ref ei
          obtain ⟨us, h1, h2⟩ := r1.seq eo ea
          exact ⟨a, us, rfl, .inl ⟨h1, g μ1 H1 _ x1 r1 (it_enumL (by simp) ea eo)⟩⟩
        · cases ew
      | _ => cases ew
theorem s_wzip {p tpos : Pos} {elts : List Expr} {kk : Nat} (hg : Gl X "zip") (hm : X.mg "zip" = none) (da : PE X a (tD Y X n ca)) (db : PE X b (tD Y X n cb)) (hs : ca.isStar = false) (hs2 : cb.isStar = false) (hn : noStar a = true) (hn2 : noStar b = true) :
    PI X (.Tuple elts kk tpos) (.Call (.Name "zip" p) [a, b] [] pos) (iW Y X n .zip [ca, cb]) :=
  PI.imp (RZ.pi_zipA hg hm (s_cons da (s_cons db s_nil hn2 hs2) hn hs) (starEach_cons hn) (starEach_none (by simp [hn2]))) fun σ Hh W ⟨μ, h, ρ, r, g⟩ => by
    obtain ⟨as, h1, e1, l, xs, ew, g⟩ := g.ok
    refine tL.of r e1 fun μ1 H1 vs x1 r1 w1 => ?_
    obtain ⟨v, w, rfl⟩ := den_two hs hs2 e1
    simp only [walkD] at ew
    cases w1 with
    | cons wa wr =>
      cases wr with
      | cons wb wr =>
        cases wr
        cases wa with
        | @tup a zs ys q ws =>
          cases wb with
          | @tup b zs2 ys2 q2 ws2 =>
            simp only [Option.some.injEq, Prod.mk.injEq] at ew
            obtain ⟨rfl, rfl⟩ := ew
            exact ⟨a, b, ys, ys2, rfl, .inr ⟨q.sq, q2.sq, g μ1 H1 _ x1 r1 (it_zipT q ws q2 ws2)⟩⟩
          | _ => cases ew
        | @ref p a ea =>
          cases wb with
          | @ref p2 b eb =>
            simp only at ew
            split at ew
            · rename_i zs zs2 ei ei2
              cases ew
              have eo := itemsD_ref ei
              have eo2 := itemsD_ref ei2
              obtain ⟨us, h1, h2⟩ := r1.seq eo ea
              obtain ⟨us2, h3, h4⟩ := r1.seq eo2 eb
              exact ⟨a, b, us, us2, rfl, .inl ⟨h1, h3, g μ1 H1 _ x1 r1 (it_zipL (by simp) (by simp) ea eb eo eo2)⟩⟩
            · cases ew
          | _ => cases ew
        | _ => cases ew
end
/-! ### what is locked -/
section
variable {Y : Lw} {X : Cx} {n : Nat} {μ : List Addr} {h : H} {Hh : Hp}
theorem OR.lk {a : Addr} {l1 l2 : Bool} {o : AO} (x : OR (Y.sx X) μ Hh a l1 o) (ho : (∃ xs, o = .lst xs) ∨ ∃ xs, o = .fz xs) : OR (Y.sx X) μ Hh a l2 o := by
  rcases ho with ⟨xs, rfl⟩ | ⟨xs, rfl⟩ <;> exact x
/-- lists only -/
def seqs (h : H) (l : List Nat) : Prop := ∀ p ∈ l, (∃ xs, h.o[p]? = some (.lst xs)) ∨ ∃ xs, h.o[p]? = some (.fz xs)
theorem walk_seqs {k : Ik} {as : List D} {l : List Nat} {xs : List D} (hk : k ≠ .items) (hk2 : k ≠ .keys) (e : walkD k as h = some (l, xs)) : seqs h l := by
  have nil : seqs h [] := fun p hp => by simp at hp
  have one : ∀ {p : Nat} {ys : List D}, itemsD (.ref p) h = some ys → seqs h [p] := fun {p ys} e q hq => by
    have : q = p := by simpa using hq
    subst this
    rcases itemsD_ref e with e | e
    · exact .inl ⟨_, e⟩
    · exact .inr ⟨_, e⟩
  cases k with
  | seq =>
    simp only [walkD] at e
    split at e
    · split at e
      · rename_i ei; cases e; exact one ei
      · cases e
    · cases e; exact nil
    · cases e
  | range =>
    simp only [walkD] at e
    split at e
    · split at e <;> cases e; exact nil
    · split at e <;> cases e; exact nil
    · cases e
  | enum =>
    simp only [walkD] at e
    split at e
    · split at e
      · rename_i ei; cases e; exact one ei
      · cases e
    · cases e; exact nil
    · cases e
  | zip =>
    simp only [walkD] at e
    split at e
    · split at e
      · rename_i p q _ _ _ e1 e2
        cases e
        intro z hz
        rcases List.mem_cons.mp hz with rfl | hz
        · exact one e1 _ (by simp)
        · exact one e2 z hz
      · cases e
    · cases e; exact nil
    · cases e
  | items => exact absurd rfl hk
  | keys => exact absurd rfl hk2
theorem RH.lockS {l : List Nat} (r : RH (Y.sx X) μ h Hh) (hs : seqs h l) : RH (Y.sx X) μ (h.lock l) Hh := by
  refine ⟨r.len, r.nd, fun m o a eo ea => ?_, fun m hm => ?_⟩
  · have q := r.obj m o a eo ea
    by_cases hm : m ∈ l
    · refine OR.lk q ?_
      rcases hs m hm with ⟨xs, e⟩ | ⟨xs, e⟩
      · have eo : h.o[m]? = some o := eo
        rw [e] at eo; cases eo; exact .inl ⟨xs, rfl⟩
      · have eo : h.o[m]? = some o := eo
        rw [e] at eo; cases eo; exact .inr ⟨xs, rfl⟩
    · have : (h.lock l).lk.contains m = h.lk.contains m := by simp [H.lock, hm]
      rw [this]
      exact q
  · rcases List.mem_append.mp hm with hm | hm
    · rcases hs m hm with ⟨xs, e⟩ | ⟨xs, e⟩ <;> exact (List.getElem?_eq_some_iff.mp e).1
    · exact r.lko m hm
theorem RH.unlockS {l : List Nat} {μ' : List Addr} {h' : H} {H' : Hp} (r : RH (Y.sx X) μ' h' H') (hs : seqs h l) (p : Pr (h.lock l) h') : RH (Y.sx X) μ' (h'.unlock l) H' := by
  have lk : (h'.unlock l).lk = h.lk := by
    show h'.lk.drop l.length = h.lk
    rw [p.lk]
    show (l ++ h.lk).drop l.length = h.lk
    simp
  refine ⟨r.len, r.nd, fun m o a eo ea => ?_, fun m hm => ?_⟩
  · have eo : h'.o[m]? = some o := eo
    have q := r.obj m o a eo ea
    rw [lk]
    by_cases hm : m ∈ l
    · refine OR.lk q ?_
      rcases hs m hm with ⟨xs, e⟩ | ⟨xs, e⟩
      · rw [p.locked hm (List.getElem?_eq_some_iff.mp e).1, e] at eo; cases eo; exact .inl ⟨xs, rfl⟩
      · rw [p.locked hm (List.getElem?_eq_some_iff.mp e).1, e] at eo; cases eo; exact .inr ⟨xs, rfl⟩
    · have : h'.lk.contains m = h.lk.contains m := by rw [p.lk]; simp [H.lock, hm]
      rw [this] at q
      exact q
  · have hm : m ∈ h.lk := by rw [← lk]; exact hm
    exact r.lko m (by rw [p.lk]; exact List.mem_append_right _ hm)
end
end SC
end
end
section
set_option linter.all false
set_option maxRecDepth 100000
set_option Elab.async false
/-! SC16: comprehensions; loops. -/
noncomputable section
namespace SC
open PySem L2
section
variable (Y : Lw) (X : Cx) (n : Nat)
def EndsOk (o : Out) (D : Ends) (μ : List Addr) (Hh : Hp) : Prop := match o with
  | .nx ρ h => ∀ μ' H' σ', Ext X.K μ Hh μ' H' → RS (Y.sx X) μ' h ρ σ' H' → D.nx σ' H'
  | .rt v h => ∀ μ' H' x, Ext X.K μ Hh μ' H' → RH (Y.sx X) μ' h H' → VR X.K μ' H' v x → D.rt x H'
  | .bk ρ h => ∀ μ' H' σ', Ext X.K μ Hh μ' H' → RS (Y.sx X) μ' h ρ σ' H' → D.bk σ' H'
  | .ct ρ h => ∀ μ' H' σ', Ext X.K μ Hh μ' H' → RS (Y.sx X) μ' h ρ σ' H' → D.ct σ' H'
  | .bad => False
def tS (s : S) : TS := fun D σ Hh => ∃ μ h ρ, RS (Y.sx X) μ h ρ σ Hh ∧ EndsOk Y X (exec Y.T (Y.Φ n) s ρ h) D μ Hh
def tSs (s : List S) : TS := fun D σ Hh => ∃ μ h ρ, RS (Y.sx X) μ h ρ σ Hh ∧ EndsOk Y X (execs Y.T (Y.Φ n) s ρ h) D μ Hh
end
section
variable {Y : Lw} {X : Cx} {n : Nat} {pos : Pos} {e a b : Expr} {ca cb : E} {tg : Expr}
theorem EndsOk.mono {o : Out} {D : Ends} {μ μ' : List Addr} {Hh Hh' : Hp} (q : EndsOk Y X o D μ Hh) (x : Ext X.K μ Hh μ' Hh') : EndsOk Y X o D μ' Hh' := by
  cases o with
  | nx ρ h => exact fun μ2 H2 σ' x2 r => q μ2 H2 σ' (x.trans x2) r
  | rt v h => exact fun μ2 H2 σ' x2 r => q μ2 H2 σ' (x.trans x2) r
  | bk ρ h => exact fun μ2 H2 σ' x2 r => q μ2 H2 σ' (x.trans x2) r
  | ct ρ h => exact fun μ2 H2 σ' x2 r => q μ2 H2 σ' (x.trans x2) r
  | bad => exact q
/-! ### for -/
theorem for_core {tg : Tg} {b : List S} {l : List Nat} {xs : List D} {pr : Bool} {J : It} {μ : List Addr} {h1 : H} {H1 : Hp} {ρ : Env} {σ : L2.St} {D : Ends} (hf : tg.fit pr = true) (it : ItR Y X μ h1 H1 l xs pr J) (r : RS (Y.sx X) μ (h1.lock l) ρ σ H1)
    (q : EndsOk Y X (forGo tg (fun σ h => execs Y.T (Y.Φ n) b σ h) xs ρ (h1.lock l)) D μ H1) :
    ∃ W : Nat → Nat → L2.St → Hp → Prop, (∃ m, W 0 m σ H1) ∧ ∀ i m σ H, W i m σ H → (J.stop i H ∧ D.nx σ H) ∨ (J.go i H ∧ ∃ N : L2.St → Hp → Prop, (∀ σ' H', N σ' H' → ∃ m', m' < m ∧ W (i + 1) m' σ' H') ∧ ∀ x H', J.yld i H x H' → gTg X.K tg x σ H' fun σ2 H2 => tSs Y X n b { D with nx := N, ct := N, bk := D.nx } σ2 H2) := by
  refine ⟨fun i m σ' H' => ∃ μ' h' ρ', Ext X.K μ H1 μ' H' ∧ RS (Y.sx X) μ' h' ρ' σ' H' ∧ Pr (h1.lock l) h' ∧ i ≤ xs.length ∧ m = xs.length - i ∧ EndsOk Y X (forGo tg (fun σ h => execs Y.T (Y.Φ n) b σ h) (xs.drop i) ρ' h') D μ' H',
    ⟨_, μ, _, ρ, Ext.refl, r, Pr.refl _, Nat.zero_le _, rfl, q⟩, ?_⟩
  rintro i m σ' H' ⟨μ', h', ρ', x', r', p', hi, rfl, q'⟩
  obtain ⟨go, stop⟩ := it μ' h' H' i x' r'.rh p'
  cases ed : xs.drop i with
  | nil =>
    have : i = xs.length := by
      have := congrArg List.length ed
      simp at this
      omega
    rw [ed] at q'
    simp only [forGo] at q'
    exact .inl ⟨stop this, q' μ' H' σ' Ext.refl r'⟩
  | cons d rest =>
    have hd : xs[i]? = some d := by
      have : (xs.drop i)[0]? = some d := by rw [ed]; rfl
      simpa using this
    have hlt : i < xs.length := (List.getElem?_eq_some_iff.mp hd).1
    have er : xs.drop (i + 1) = rest := by
      have := congrArg List.tail ed
      simpa using this
    obtain ⟨go, yl⟩ := go d hd
    rw [ed] at q'
    simp only [forGo] at q'
    refine .inr ⟨go, fun σ2 H2 => ∃ m', m' < xs.length - i ∧ ∃ μ' h' ρ', Ext X.K μ H1 μ' H2 ∧ RS (Y.sx X) μ' h' ρ' σ2 H2 ∧ Pr (h1.lock l) h' ∧ i + 1 ≤ xs.length ∧ m' = xs.length - (i + 1) ∧ EndsOk Y X (forGo tg (fun σ h => execs Y.T (Y.Φ n) b σ h) (xs.drop (i + 1)) ρ' h') D μ' H2, fun σ2 H2 ⟨m', hm, q⟩ => ⟨m', hm, q⟩, fun x H'' hy => ?_⟩
    obtain ⟨x2, r2, im⟩ := yl x H'' hy
    split at q'
    · exact q'.elim
    · rename_i ρ2 et
      refine tg_ok (S := Y.sx X) hf (RS.x (r'.mono x2 r2)) im et fun σ2 r3 _ => ⟨μ', h', ρ2, r3, ?_⟩
      have pb := execs_pr (T := Y.T) (Φ := Y.Φ n) (Phi_pr Y.fd n) b ρ2 h'
      revert q' pb
      cases execs Y.T (Y.Φ n) b ρ2 h' with
      | nx ρ4 h4 =>
        intro q' pb μ4 H4 σ4 x4 r4
        refine ⟨xs.length - (i + 1), by omega, μ4, h4, ρ4, (x'.trans x2).trans x4, r4, p'.trans pb, hlt, rfl, ?_⟩
        rw [er]
        exact EndsOk.mono q' (x2.trans x4)
      | ct ρ4 h4 =>
        intro q' pb μ4 H4 σ4 x4 r4
        refine ⟨xs.length - (i + 1), by omega, μ4, h4, ρ4, (x'.trans x2).trans x4, r4, p'.trans pb, hlt, rfl, ?_⟩
        rw [er]
        exact EndsOk.mono q' (x2.trans x4)
      | bk ρ4 h4 =>
        intro q' pb μ4 H4 σ4 x4 r4
        exact q' μ4 H4 σ4 (x2.trans x4) r4
      | rt v h4 =>
        intro q' pb μ4 H4 y x4 r4 w4
        exact q' μ4 H4 y (x2.trans x4) r4 w4
      | bad => intro q' _; exact q'.elim
theorem PS.imp {st : Stmt} {t t' : TS} (h : PS X st t) (i : ∀ D σ Hh, t' D σ Hh → t D σ Hh) : PS X st t' := ⟨fun pins s σ Hh D I q => h.run pins s σ Hh D I (i D σ Hh q)⟩
theorem PSs.imp {st : List Stmt} {t t' : TS} (h : PSs X st t) (i : ∀ D σ Hh, t' D σ Hh → t D σ Hh) : PSs X st t' := ⟨fun pins s σ Hh D I q => h.run pins s σ Hh D I (i D σ Hh q)⟩
theorem EndsOk.unlockS {o : Out} {D : Ends} {μ : List Addr} {Hh : Hp} {h : H} {l : List Nat} (hs : seqs h l) (pr : OPr (h.lock l) o) (q : EndsOk Y X (o.unlock l) D μ Hh) : EndsOk Y X o D μ Hh := by
  cases o with
  | nx ρ h' => exact fun μ2 H2 σ' x2 r => q μ2 H2 σ' x2 ⟨r.rh.unlockS hs pr, r.sl, r.ln⟩
  | rt v h' => exact fun μ2 H2 σ' x2 r w => q μ2 H2 σ' x2 (r.unlockS hs pr) w
  | bk ρ h' => exact fun μ2 H2 σ' x2 r => q μ2 H2 σ' x2 ⟨r.rh.unlockS hs pr, r.sl, r.ln⟩
  | ct ρ h' => exact fun μ2 H2 σ' x2 r => q μ2 H2 σ' x2 ⟨r.rh.unlockS hs pr, r.sl, r.ln⟩
  | bad => exact q
theorem s_for {k : Ik} {tgE iter : Expr} {tg : Tg} {body : List Stmt} {cs : List E} {b : List S} (hk : k ≠ .items) (hk2 : k ≠ .keys) (hp : PassesOwn (model X.prog X.w) X.A X.env X.xe) (hc : X.calm = true) (hi : PI X tgE iter (iW Y X n k cs)) (hg : tgOk X tgE tg) (hf : tg.fit k.pr = true) (hb : PSs X body (tSs Y X n b))
    (hs : ∀ x, foldedSetIterable iter X.env x = pure x) : PS X (.For tgE iter body [] pos) (tS Y X n (.for_ k tg cs b)) :=
  PS.imp (ps_for hp hc hi (pg_tg hc hg) hb hs) fun D σ Hh ⟨μ, h, ρ, r, q⟩ => by
    simp only [exec] at q
    refine ⟨μ, h, ρ, r, ?_⟩
    split at q
    · rename_i as h1 e1
      rw [e1]
      split at q
      · exact q.elim
      · rename_i l xs ew
        refine ⟨l, xs, ew, fun μ' H' J x' r' it => ?_⟩
        have hq := walk_seqs hk hk2 ew
        refine for_core hf it ⟨r'.lockS hq, (r.mono x' r').sl, r.ln⟩ (EndsOk.mono ?_ x')
        exact q.unlockS hq (forGo_pr (fun σ h => execs_pr (Phi_pr Y.fd n) b σ h) xs ρ _)
    · exact q.elim
/-! ### comprehensions -/
structure BodySame (tg : Tg) (own : List (Str × Nat)) : Prop where
  sub : ∀ i ∈ own.map (·.2), i ∈ tg.slots
  sup : ∀ i ∈ tg.slots, i ∈ own.map (·.2)
structure BodyOk (Y : Lw) (X : Cx) (n : Nat) (scope : Scope) (own : List (Str × Nat)) (tgE : Expr) (tg : Tg) : Prop where
  calm : X.calm = true
  nd : X.N.Nodup
  blk : BlkOk X.N X.env.scope scope own
  same : BodySame tg own
  tgt : ∀ (s : Shared) (H : Hp) (C : Addr) (cl : List (Str × Addr)) (fp : List Addr), tgOk (X.blk s H scope (compEnvC scope cl C X.env) fp) tgE tg
def tIfs (Y : Lw) (X : Cx) (n : Nat) (c : List E) : TT := fun σ Hh Q => ∃ μ h ρ, RS (Y.sx X) μ h ρ σ Hh ∧ Good (denIfs Y.T (Y.Φ n) c ρ h) fun v h' => ∃ b, v = .bl b ∧ ∀ μ' H', Ext X.K μ Hh μ' H' → RH (Y.sx X) μ' h' H' → Q b H'
theorem lc_read {k : Ik} {tg : Tg} {cs cifs : List E} {celt : E} {own : List (Str × Nat)} (hk : k ≠ .items) (hk2 : k ≠ .keys) (same : BodySame tg own) (hf : tg.fit k.pr = true) {σ : L2.St} {Hh : Hp} {Q : VK} (t : tD Y X n (.lc k tg cs cifs celt) σ Hh Q) :
    tLc (iW Y X n k cs) (gTg X.K tg) (tIfs Y X n cifs) (tD Y X n celt) (own.map (·.2)) σ Hh Q := by
  obtain ⟨μ, h, ρ, r, g⟩ := t
  simp only [den] at g
  obtain ⟨as, h1, e1, g⟩ := g.bind
  refine ⟨μ, h, ρ, r, ?_⟩
  rw [e1]
  split at g
  · exact g.elim
  · rename_i l xs ew
    refine ⟨l, xs, ew, fun μ1 H1 J x1 r1 it Dd hD => ?_⟩
    have hq := walk_seqs hk hk2 ew
    have rl := r1.lockS hq
    have hμ : (μ1 ++ [Dd])[h1.o.length]? = some Dd := by rw [← r1.len]; simp
    have ext0 : Ext X.K μ1 H1 (μ1 ++ [Dd]) (upd H1 Dd (.lst [])) := ⟨List.prefix_append _ _, TK.new hD⟩
    have r0 : RH (Y.sx X) (μ1 ++ [Dd]) ((h1.lock l).push (.lst [])) (upd H1 Dd (.lst [])) := rl.push hD ⟨[], upd_same, .nil⟩
    refine ⟨fun i m H' => ∃ μ' h', Ext X.K (μ1 ++ [Dd]) (upd H1 Dd (.lst [])) μ' H' ∧ RH (Y.sx X) μ' h' H' ∧ Pr (h1.lock l) h' ∧ i ≤ xs.length ∧ m = xs.length - i ∧
      Good ((lcGo h1.o.length tg (fun σ h => denIfs Y.T (Y.Φ n) cifs σ h) (fun σ h => den Y.T (Y.Φ n) celt σ h) ρ (xs.drop i) h').bind fun v h => .ok v (h.unlock l)) (Want Y X μ1 H1 Q),
      ⟨_, μ1 ++ [Dd], _, Ext.refl, r0, Pr.push _ _, Nat.zero_le _, rfl, ?_⟩, ?_⟩
    · obtain ⟨v2, h2, e2, g⟩ := g.bind
      rw [List.drop_zero, e2]
      exact fun μ' H' y x' r' w' => g μ' H' y (x1.trans x') r' w'
    rintro i m H' ⟨μ', h', x', r', p', hi', rfl, g'⟩
    have xx : Ext X.K μ1 H1 μ' H' := ext0.trans x'
    obtain ⟨go, stop⟩ := it μ' h' H' i xx r' p'
    cases ed : xs.drop i with
    | nil =>
      have : i = xs.length := by
        have := congrArg List.length ed
        simp at this
        omega
      rw [ed] at g'
      simp only [lcGo, R.bind_ok] at g'
      exact .inl ⟨stop this, g' μ' H' _ xx (r'.unlockS hq p') (.ref (pre_get x'.pre hμ))⟩
    | cons d rest =>
      have hd : xs[i]? = some d := by
        have : (xs.drop i)[0]? = some d := by rw [ed]; rfl
        simpa using this
      have hlt : i < xs.length := (List.getElem?_eq_some_iff.mp hd).1
      have er : xs.drop (i + 1) = rest := by
        have := congrArg List.tail ed
        simpa using this
      obtain ⟨go, yl⟩ := go d hd
      rw [ed] at g'
      simp only [lcGo] at g'
      refine .inr ⟨go, fun H2 => ∃ m', m' < xs.length - i ∧ ∃ μ' h', Ext X.K (μ1 ++ [Dd]) (upd H1 Dd (.lst [])) μ' H2 ∧ RH (Y.sx X) μ' h' H2 ∧ Pr (h1.lock l) h' ∧ i + 1 ≤ xs.length ∧ m' = xs.length - (i + 1) ∧
        Good ((lcGo h1.o.length tg (fun σ h => denIfs Y.T (Y.Φ n) cifs σ h) (fun σ h => den Y.T (Y.Φ n) celt σ h) ρ (xs.drop (i + 1)) h').bind fun v h => .ok v (h.unlock l)) (Want Y X μ1 H1 Q), fun H2 q => q, fun x H'' hy => ?_⟩
      obtain ⟨x2, r2, im⟩ := yl x H'' hy
      split at g'
      · exact g'.elim
      · rename_i ρ2 et
        have rw_ : RSx (Y.sx X) tg.slots μ' h' ρ (wipe σ (own.map (·.2))) H'' := by
          have q : RS (Y.sx X) μ' h' ρ σ H'' := (r.mono x1 r1).mono (xx.trans x2) r2
          refine ⟨q.rh, fun j dj hj ej => ?_, by rw [wipe_length]; exact q.ln⟩
          obtain ⟨v, h1, h2⟩ := q.sl j dj ej
          exact ⟨v, by rw [wipe_out (fun hm => hj (same.sub j hm))]; exact h1, h2⟩
        refine tg_ok (S := Y.sx X) hf rw_ im et fun σ2 r3 hw => ⟨(hw _ same.sup).trans ?_, ?_⟩
        · refine List.ext_getElem? fun j => ?_
          by_cases hj : j ∈ own.map (·.2)
          · rw [wipe_in hj, wipe_in hj, wipe_length]
          · rw [wipe_out hj]
        · cases ei : denIfs Y.T (Y.Φ n) cifs ρ2 h' with
          | bad => rw [ei] at g'; exact g'.elim
          | ok bv h3 =>
            rw [ei, R.bind_ok] at g'
            have pi : Pr h' h3 := by
              have := denIfs_pr (T := Y.T) (Φ := Y.Φ n) (Phi_pr Y.fd n) cifs ρ2 h'
              rw [ei] at this
              exact this
            refine ⟨μ', h', ρ2, r3, ?_⟩
            rw [ei]
            cases bv with
            | bl bb =>
              refine ⟨bb, rfl, fun μ3 H3 x3 rh3 => ?_⟩
              cases bb with
              | false =>
                refine (if_neg (by simp)).mpr ?_
                refine ⟨xs.length - (i + 1), by omega, μ3, h3, (x'.trans x2).trans x3, rh3, p'.trans pi, hlt, rfl, ?_⟩
                rw [er]
                exact g'
              | true =>
                refine (if_pos rfl).mpr ?_
                simp only at g'
                cases ee : den Y.T (Y.Φ n) celt ρ2 h3 with
                | bad => rw [ee] at g'; exact g'.elim
                | ok v h4 =>
                  rw [ee, R.bind_ok] at g'
                  have pe := den_ok (Phi_pr Y.fd n) ee
                  refine tD.of (r3.mono x3 rh3) ee fun μ4 H4 y x4 r4 w4 => ?_
                  split at g'
                  · rename_i acc ea
                    split at g'
                    · rename_i hz
                      have eD : μ4[h1.o.length]? = some Dd := pre_get ((((x'.trans x2).trans x3).trans x4).pre) hμ
                      obtain ⟨accV, hA, wA⟩ := r4.list ea eD
                      refine ⟨accV, hA, by rw [← sc_line, ← wA.length]; exact hz, ?_⟩
                      have ext5 : Ext X.K μ4 H4 μ4 (upd H4 Dd (.lst (accV ++ [y]))) := ⟨List.prefix_refl _, TK.upd (by rw [hA]; simp)⟩
                      have q5 := r4.put (u := .lst (accV ++ [y])) (o' := .lst (acc ++ [v])) eD ea (by rw [hA]; simp) ⟨_, upd_same, VRs.mono ext5 _ _ (wA.append (.cons w4 .nil))⟩
                      refine ⟨xs.length - (i + 1), by omega, μ4, _, (((x'.trans x2).trans x3).trans x4).trans q5.2, q5.1, Pr.putNew _ (Nat.le_refl _) ((p'.trans pi).trans pe), hlt, rfl, ?_⟩
                      rw [er]
                      exact g'
                    · exact g'.elim
                  · exact g'.elim
            | _ => exact g'.elim

theorem s_lc {k : Ik} {tgE iter elt : Expr} {tg : Tg} {ifs : List Expr} {cs cifs : List E} {celt : E} {scope : Scope} {own : List (Str × Nat)} (hk : k ≠ .items) (hk2 : k ≠ .keys) (B : BodyOk Y X n scope own tgE tg) (hf : tg.fit k.pr = true) (hi : PI X tgE iter (iW Y X n k cs))
    (ht : ∀ (s : Shared) (H : Hp) (C : Addr) (cl : List (Str × Addr)) (fp : List Addr), PTs (X.blk s H scope (compEnvC scope cl C X.env) fp) ifs (tIfs Y X n cifs))
    (he : ∀ (s : Shared) (H : Hp) (C : Addr) (cl : List (Str × Addr)) (fp : List Addr), PE (X.blk s H scope (compEnvC scope cl C X.env) fp) elt (tD Y X n celt))
    (hs : ∀ x, foldedSetIterable iter X.env x = pure x) : PE X (.ListComp elt [⟨tgE, iter, ifs, 0⟩] scope pos) (tD Y X n (.lc k tg cs cifs celt)) :=
  PE.imp (pe_lc (g := gTg X.K tg) B.calm B.nd hi B.blk (fun s H C cl fp => pg_tg (X := X.blk s H scope (compEnvC scope cl C X.env) fp) B.calm (B.tgt s H C cl fp)) ht he hs) fun σ Hh Q t => lc_read hk hk2 B.same hf t
theorem set_read {i : Nat} {c : E} {D : Ends} {σ : L2.St} {Hh : Hp} (t : tS Y X n (.asg (.n i) c) D σ Hh) : tD Y X n c σ Hh fun x H1 => gName i x σ H1 D.nx := by
  obtain ⟨μ, h, ρ, r, q⟩ := t
  simp only [exec] at q
  split at q
  · rename_i v h1 e1
    simp only [gset] at q
    refine tD.of r e1 fun μ1 H1 x x1 r1 w1 => ?_
    exact q μ1 H1 _ x1 ((RS.x (vs := []) (r.mono x1 r1)).set (fun j _ _ => by simp) w1).full
  · exact q.elim
theorem s_setLc {k : Ik} {tgE iter elt : Expr} {tg : Tg} {ifs : List Expr} {cs cifs : List E} {celt : E} {scope : Scope} {own : List (Str × Nat)} {i : Nat} {y : Str} {py spos : Pos} (hk : k ≠ .items) (hk2 : k ≠ .keys) (B : BodyOk Y X n scope own tgE tg) (hf : tg.fit k.pr = true) (hi : PI X tgE iter (iW Y X n k cs))
    (ht : ∀ (s : Shared) (H : Hp) (C : Addr) (cl : List (Str × Addr)) (fp : List Addr), PTs (X.blk s H scope (compEnvC scope cl C X.env) fp) ifs (tIfs Y X n cifs))
    (he : ∀ (s : Shared) (H : Hp) (C : Addr) (cl : List (Str × Addr)) (fp : List Addr), PE (X.blk s H scope (compEnvC scope cl C X.env) fp) elt (tD Y X n celt))
    (hs : ∀ x, foldedSetIterable iter X.env x = pure x) (hy : X.N[i]? = some y) (hyl : X.env.scope.names.lookup y = some .local) (hsw : swapsWith (.ListComp elt [⟨tgE, iter, ifs, 0⟩] scope pos) (some (.Name y py)) spos.line X.env = pure true) :
    PS X (.Assign [.Name y py] (.ListComp elt [⟨tgE, iter, ifs, 0⟩] scope pos) spos) (tS Y X n (.asg (.n i) (.lc k tg cs cifs celt))) :=
  PS.imp (ps_setLc (g := gTg X.K tg) B.calm B.nd hy hyl hsw hi B.blk (fun s H C cl fp => pg_tg (X := X.blk s H scope (compEnvC scope cl C X.env) fp) B.calm (B.tgt s H C cl fp)) ht he hs) fun D σ Hh t => lc_read hk hk2 B.same hf (set_read t)
end
end SC
end
end
section
set_option linter.all false
set_option maxRecDepth 100000
set_option Elab.async false
/-! SC17: dicts made and written; dict comprehensions. -/
noncomputable section
namespace SC
open PySem L2
section
variable {K : PySem.W.Frag} {μ : List Addr} {Hh : Hp}
theorem KR.keys : ∀ {r : List (L2.Key × D)} {s : List (L2.Key × V)}, KR K μ Hh r s → s.map (·.1) = r.map (·.1)
  | _, _, .nil => rfl
  | _, _, .cons _ t => by simp [KR.keys t]
theorem putV_map {k : L2.Key} {v : V} : ∀ {s : List (L2.Key × V)}, k ∉ s.map (·.1) → s.map (fun kv => if kv.1 = k then (kv.1, v) else kv) = s
  | [], _ => rfl
  | (a, w) :: s, h => by
    simp only [List.map_cons, List.mem_cons, not_or] at h
    simp only [List.map_cons, putV_map h.2]
    rw [if_neg (Ne.symm h.1)]
theorem KR.put {k : L2.Key} {d : D} {v : V} (w : VR K μ Hh d v) : ∀ {r : List (L2.Key × D)} {s : List (L2.Key × V)}, KR K μ Hh r s → (r.map (·.1)).Nodup → KR K μ Hh (SC.putK k d r) (L2.putK s k v)
  | _, _, .nil, _ => by
    have : L2.putK ([] : List (L2.Key × V)) k v = [(k, v)] := by simp [L2.putK]
    rw [this]
    exact .cons w .nil
  | _, _, .cons (k := a) (d := d0) (v := v0) (r := r) (s := s) w0 t, nd => by
    simp only [List.map_cons, List.nodup_cons] at nd
    by_cases hk : a = k
    · subst hk
      have e1 : SC.putK a d ((a, d0) :: r) = (a, d) :: r := by simp [SC.putK]
      have e2 : L2.putK ((a, v0) :: s) a v = (a, v) :: s := by
        unfold L2.putK
        rw [if_pos (by simp)]
        simp only [List.map_cons]
        rw [if_pos trivial, putV_map (by rw [t.keys]; exact nd.1)]
      rw [e1, e2]
      exact .cons w t
    · have e1 : SC.putK k d ((a, d0) :: r) = (a, d0) :: SC.putK k d r := by simp [SC.putK, hk]
      have e2 : L2.putK ((a, v0) :: s) k v = (a, v0) :: L2.putK s k v := by
        unfold L2.putK
        simp only [List.any_cons, hk, decide_false, Bool.false_or]
        split
        · simp [hk]
        · simp
      rw [e1, e2]
      exact .cons w0 (KR.put w t nd.2)
theorem putK_mem {k x : L2.Key} {d : D} : ∀ {r : List (L2.Key × D)}, x ∈ (SC.putK k d r).map (·.1) → x = k ∨ x ∈ r.map (·.1)
  | [], h => by simp [SC.putK] at h; exact .inl h
  | (a, w) :: r, h => by
    by_cases hk : a = k
    · simp only [SC.putK, hk, if_true, List.map_cons, List.mem_cons] at h ⊢
      rcases h with h | h
      · exact .inl h
      · exact .inr (.inr h)
    · simp only [SC.putK, hk, if_false, List.map_cons, List.mem_cons] at h ⊢
      rcases h with h | h
      · exact .inr (.inl h)
      · rcases putK_mem h with h | h
        · exact .inl h
        · exact .inr (.inr h)
theorem putK_nodup {k : L2.Key} {d : D} : ∀ {r : List (L2.Key × D)}, (r.map (·.1)).Nodup → ((SC.putK k d r).map (·.1)).Nodup
  | [], _ => by simp [SC.putK]
  | (a, w) :: r, h => by
    simp only [List.map_cons, List.nodup_cons] at h
    by_cases hk : a = k
    · simp only [SC.putK, hk, if_true, List.map_cons, List.nodup_cons]
      rw [← hk]
      exact h
    · simp only [SC.putK, hk, if_false, List.map_cons, List.nodup_cons]
      refine ⟨fun hm => ?_, putK_nodup h.2⟩
      rcases putK_mem hm with e | e
      · exact hk e
      · exact h.1 e
theorem TR.nks : ∀ {r : List (D × D)} {s : List (NestedKey × Addr × Value)}, TR K μ Hh r s → s.map (·.1) = r.map fun p => p.1.nk
  | _, _, .nil => rfl
  | _, _, .cons _ _ _ _ t => by simp [TR.nks t]
theorem putAt_map {k : NestedKey} {u : Value} : ∀ {s : List (NestedKey × Addr × Value)}, k ∉ s.map (·.1) → s.map (putAt k u) = s
  | [], _ => rfl
  | (a, w) :: s, h => by
    simp only [List.map_cons, List.mem_cons, not_or] at h
    simp only [List.map_cons, putAt_map h.2]
    have : putAt k u (a, w) = (a, w) := by unfold putAt; rw [if_neg (Ne.symm h.1)]
    rw [this]
theorem TR.put {k d : D} {b : Addr} {v : V} {u : Value} (hk : keyT k = true) (wk : VR K μ Hh k (.ref b)) (w : VR K μ Hh d v) (ru : RelV v u) : ∀ {r : List (D × D)} {s : List (NestedKey × Addr × Value)}, TR K μ Hh r s → (s.map (·.1)).Nodup → TR K μ Hh (putT k d r) (storedH s k.nk b u)
  | _, _, .nil, _ => by
    have : storedH ([] : List (NestedKey × Addr × Value)) k.nk b u = [(k.nk, b, u)] := by simp [storedH, atKey]
    rw [this]
    exact .cons hk wk w ru .nil
  | _, _, .cons (k := a) (d := d0) (b := b0) (v := v0) (u := u0) (r := r) (s := s) p w0 wd rd t, nd => by
    simp only [List.map_cons, List.nodup_cons] at nd
    have e := same_nk a k (keyT_pure p) (keyT_pure hk)
    by_cases hk2 : a.nk = k.nk
    · have e1 : putT k d ((a, d0) :: r) = (a, d) :: r := by simp [putT, e, hk2]
      have e2 : storedH ((a.nk, b0, u0) :: s) k.nk b u = (a.nk, b0, u) :: s := by
        unfold storedH
        rw [if_pos (by simp [atKey, hk2])]
        simp only [List.map_cons]
        rw [putAt_map (by rw [← hk2]; exact nd.1)]
        simp [putAt, hk2]
      rw [e1, e2]
      exact .cons p w0 w ru t
    · have e1 : putT k d ((a, d0) :: r) = (a, d0) :: putT k d r := by simp [putT, e, hk2]
      have ea : atKey ((a.nk, b0, u0) :: s) k.nk = atKey s k.nk := by simp [atKey, List.find?_cons, hk2]
      have e2 : storedH ((a.nk, b0, u0) :: s) k.nk b u = (a.nk, b0, u0) :: storedH s k.nk b u := by
        unfold storedH
        rw [ea]
        split
        · simp [putAt, hk2]
        · simp
      rw [e1, e2]
      exact .cons p w0 wd rd (TR.put hk wk w ru t nd.2)
theorem putT_length (k v : D) : ∀ r : List (D × D), (putT k v r).length ≤ r.length + 1
  | [] => by simp [putT]
  | (a, w) :: r => by
    simp only [putT]
    split
    · simp
    · have := putT_length k v r
      simp; omega
theorem storedH_nodup {k : NestedKey} {b : Addr} {u : Value} {s : List (NestedKey × Addr × Value)} (h : (s.map (·.1)).Nodup) : ((storedH s k b u).map (·.1)).Nodup := by
  unfold storedH
  split
  · rw [keys_map_putAt]; exact h
  · rename_i hn
    rw [List.map_append, List.nodup_append]
    refine ⟨h, by simp, fun x hx y hy => ?_⟩
    simp at hy
    subst hy
    intro e
    subst e
    apply hn
    obtain ⟨p, hp, e⟩ := List.mem_map.mp hx
    simp only [atKey, Option.isSome_map, List.find?_isSome]
    exact ⟨p, hp, by simp [e]⟩
end
section
variable {Y : Lw} {X : Cx} {n : Nat} {pos : Pos} {o i e kE vE : Expr} {co ci ce ck cv : E} {μ : List Addr} {h : H} {Hh : Hp}
/-- a dict of tuple keys, as the layer tells it -/
theorem rawD_keep {P : Program} {w : World} {a : Addr} {xs : List (NestedKey × Addr × Value)} {h1 h2 : Heap} (x : rawD P w a xs h1) (k : ∀ o, h1.get? a = some o → h2.get? a = some o) : rawD P w a xs h2 := by
  obtain ⟨o, es, ep, e1, e2⟩ := x
  exact ⟨o, es, ep, k o e1, e2⟩
theorem dt_laid {s : Shared} {pins : List (Addr × Obj)} {σ : L2.St} (I : Inv X pins σ Hh s) : Inv X pins σ (upd Hh s.heap.objs.size (.ext (rawD X.prog X.w s.heap.objs.size []))) { s with heap := s.heap.push { cls := .type "dict", data := .dict #[] } } := by
  refine I.laid (a := s.heap.objs.size) (t' := s.toks) (fun _ _ q => Heap.get?_push_of_some _ q) (Nat.le_refl _) ?_
  have z : rawD X.prog X.w s.heap.objs.size [] (s.heap.push { cls := .type "dict", data := .dict #[] }) := by
    obtain ⟨o, es, ep, e1, e2, e3, e4, _⟩ := Heap.DictOfH.new (knd := nestedKind X.prog X.w) s.heap
    exact ⟨o, es, ep, e1, e2, e3, e4⟩
  exact ⟨z, ⟨_, Heap.get?_push_size _ rfl⟩, fun h1 h2 x k => rawD_keep x k⟩
theorem big_ne {s : Shared} {pins : List (Addr × Obj)} {σ : L2.St} (I : Inv X pins σ Hh s) : (s.heap.objs.size == sysModules) = false := by
  exact beq_eq_false_iff_ne.mpr (Ne.symm (Nat.ne_of_lt I.big))

/-! ### displays -/
theorem s_dnewK : PE X (.Dict [] [] pos) (tD Y X n .dnewK) := PE.imp pe_dnewK fun σ Hh Q ⟨μ, h, ρ, r, g⟩ p hp => by
  simp only [den, alloc] at g
  have ext : Ext X.K μ Hh (μ ++ [p]) (upd Hh p (.dK [])) := ⟨List.prefix_append _ _, TK.new hp⟩
  refine g _ _ _ ext (r.rh.push hp ⟨[], upd_same, .nil, List.nodup_nil⟩) (.ref ?_)
  rw [← r.rh.len]
  simp
/-- {} for tuple keys -/
def tDNewX (X : Cx) : TE := fun _ H Q => ∀ p, H p = none → (p == sysModules) = false → Q (.ref p) (upd H p (.ext (rawD X.prog X.w p [])))
theorem pe_dnewX : PE X (.Dict [] [] pos) (tDNewX X) := ⟨fun pins s σ H Q I h =>
  wpAny_Dict_empty ⟨.ref s.heap.objs.size, _, dt_laid I, rfl, h _ (I.hok.fresh (Nat.le_refl _)) (big_ne I)⟩⟩
theorem RH.pushT {p : Addr} (r : RH (Y.sx X) μ h Hh) (hp : Hh p = none) (hs : (p == sysModules) = false) : RH (Y.sx X) (μ ++ [p]) (h.push (.dT [])) (upd Hh p (.ext (rawD X.prog X.w p []))) :=
  r.push hp ⟨[], upd_same, hs, Nat.zero_le _, .nil, List.nodup_nil⟩
theorem s_dnewT : PE X (.Dict [] [] pos) (tD Y X n .dnewT) := PE.imp pe_dnewX fun σ Hh Q ⟨μ, h, ρ, r, g⟩ p hp hs => by
  simp only [den, alloc] at g
  have ext : Ext X.K μ Hh (μ ++ [p]) (upd Hh p (.ext (rawD X.prog X.w p []))) := ⟨List.prefix_append _ _, TK.new hp⟩
  refine g _ _ _ ext (r.rh.pushT hp hs) (.ref ?_)
  rw [← r.rh.len]
  simp
/-- {k: v}, k a tuple -/
def tDisp1 (X : Cx) (tk tv : TE) : TE := fun σ H Q => ∀ p, H p = none → (p == sysModules) = false → tk σ (upd H p (.ext (rawD X.prog X.w p []))) fun x H1 => tv σ H1 fun y H2 => H2 p = some (.ext (rawD X.prog X.w p [])) ∧
  ∃ b μ d, x = .ref b ∧ keyT d = true ∧ VR X.K μ H2 d (.ref b) ∧ ∀ u, RelV y u → Q (.ref p) (upd H2 p (.ext (rawD X.prog X.w p [(d.nk, b, u)])))
theorem ext_write {s : Shared} {pins : List (Addr × Obj)} {σ : L2.St} {a : Addr} {xs xs' : List (NestedKey × Addr × Value)} {h' : Heap} {t' : Nat} (I : Inv X pins σ Hh s) (e : Hh a = some (.ext (rawD X.prog X.w a xs))) (hs : Heap.SameBut a s.heap h') (d : h'.DictOfH (nestedKind X.prog X.w) a xs') :
    Inv X pins σ (upd Hh a (.ext (rawD X.prog X.w a xs'))) { s with heap := h', toks := t' } := by
  obtain ⟨o, es, ep, e1, e2, e3, e4, _⟩ := d
  exact d_write I (by rw [e]; exact True.intro) hs ⟨o, e1⟩ ⟨⟨o, es, ep, e1, e2, e3, e4⟩, ⟨o, e1⟩, fun h1 h2 x k => rawD_keep x k⟩
theorem pe_disp1 {tk tv : TE} (hu : X.A.units + 70 < cLine) (hk : PE X kE tk) (hv : PE X vE tv) : PE X (.Dict [some kE] [vE] pos) (tDisp1 X tk tv) := by
  refine ⟨fun pins s σ H Q I q => ?_⟩
  have hn := I.hok.fresh (Nat.le_refl s.heap.objs.size)
  have I1 := dt_laid I
  rw [arm_eval_Dict]
  have hp : (evalEachOpt [some kE] X.env).zip ((evalEach [vE] X.env).map fun v => do let x ← v; standAt pos; pure x) = (pairTrees [some kE] [vE] X.env pos).map fun p => (some p.1, p.2) := rfl
  rw [hp, dictDisplay_pairs _ (by simp [pairTrees]) (by simp [pairTrees])]
  refine wpAny_bind (wpAny_standAt (wpAny_bind (wpAny_subDictH (knd := nestedKind X.prog X.w) (by show X.A.units + 8 < cLine; omega) (by simp [pairTrees]) ?_)))
  have hq := q _ hn (big_ne I)
  refine thn ((pps_cons (pos := pos) hk hv pps_nil).run pins _ σ _ (fun ps H2 => match ps with
    | [(x, y)] => H2 s.heap.objs.size = some (.ext (rawD X.prog X.w s.heap.objs.size [])) ∧
      ∃ b μ d, x = .ref b ∧ keyT d = true ∧ VR X.K μ H2 d (.ref b) ∧ ∀ u, RelV y u → Q (.ref s.heap.objs.size) (upd H2 s.heap.objs.size (.ext (rawD X.prog X.w s.heap.objs.size [(d.nk, b, u)])))
    | _ => False) I1 hq) fun ws s2 ⟨ps, H2, I2, rel, q⟩ => ?_
  split at q
  · rename_i x y
    obtain ⟨e, b, μ, d, ex, kd, wd, q2⟩ := q
    subst ex
    cases rel with
    | @cons a w2 as bs rr rl =>
      cases rl
      obtain ⟨u1, u2⟩ := w2
      obtain ⟨r1, r2⟩ := rr
      cases (show u1 = Value.ref b from r1)
      have z := (I2.hok _ _ e).1
      obtain ⟨o, es, ep, e1, e2, e3, e4⟩ := z
      refine ⟨[(d.nk, b, u2)], ⟨rfl, rfl, keyT_is I2 kd wd, trivial⟩, ⟨o, es, ep, e1, e2, e3, e4, by simp, List.nodup_nil⟩, fun h' tk dd hs => wpAny_pure ⟨.ref s.heap.objs.size, _, ext_write I2 e hs ?_, rfl, q2 u2 r2⟩⟩
      have : storedAllH ([] : List (NestedKey × Addr × Value)) [(d.nk, b, u2)] = [(d.nk, b, u2)] := by simp [storedAllH, storedH, atKey]
      rw [this] at dd
      exact dd
  · exact q.elim
end
end SC
end
end
section
set_option linter.all false
set_option maxRecDepth 100000
set_option Elab.async false
/-! SC18: stores; dict comprehensions. -/
noncomputable section
namespace SC
open PySem L2
section
variable {Y : Lw} {X : Cx} {n : Nat} {pos : Pos} {o i e kE vE : Expr} {co ci ce ck cv : E} {μ : List Addr} {h : H} {Hh : Hp}
theorem s_dict1 (hu : X.A.units + 70 < cLine) (hk : PE X kE (tD Y X n ck)) (hv : PE X vE (tD Y X n cv)) : PE X (.Dict [some kE] [vE] pos) (tD Y X n (.dict1 ck cv)) := PE.imp (pe_disp1 hu hk hv) fun σ Hh Q ⟨μ, h, ρ, r, g⟩ p hp hs => by
  simp only [den] at g
  obtain ⟨x1, h1, e1, g⟩ := g.bind
  obtain ⟨y1, h2, e2, g⟩ := g.bind
  have ext : Ext X.K μ Hh (μ ++ [p]) (upd Hh p (.ext (rawD X.prog X.w p []))) := ⟨List.prefix_append _ _, TK.new hp⟩
  have r0 : RS (Y.sx X) (μ ++ [p]) (h.push (.dT [])) ρ σ (upd Hh p (.ext (rawD X.prog X.w p []))) := r.mono ext (r.rh.pushT hp hs)
  have hμ : (μ ++ [p])[h.o.length]? = some p := by rw [← r.rh.len]; simp
  refine tD.of r0 e1 fun μ1 H1 x xx r1 w1 => ?_
  refine tD.of (r0.mono xx r1) e2 fun μ2 H2 y xy r2 w2 => ?_
  split at g
  · rename_i eo
    split at g
    · rename_i hc
      simp only [Bool.and_eq_true, Bool.not_eq_true'] at hc
      have ea := pre_get (xx.trans xy).pre hμ
      obtain ⟨xs, at_, hs2, _, tr, nd⟩ := r2.obj _ _ p eo ea
      rw [hc.2] at at_
      cases tr
      have at_ : H2 p = some (.ext (rawD X.prog X.w p [])) := at_
      have wk := VR.mono xy _ _ w1
      obtain ⟨b, rfl⟩ := keyT_ref hc.1 wk
      refine ⟨at_, b, μ2, x1, rfl, hc.1, wk, fun u ru => ?_⟩
      have ext3 : Ext X.K μ2 H2 μ2 (upd H2 p (.ext (rawD X.prog X.w p [(x1.nk, b, u)]))) := ⟨List.prefix_refl _, TK.upd (by rw [at_]; simp)⟩
      have q := r2.put (u := .ext (rawD X.prog X.w p [(x1.nk, b, u)])) (o' := .dT [(x1, y1)]) ea eo (by rw [at_]; simp) (by
        rw [hc.2]
        exact ⟨_, upd_same, hs, by simp [sizeLine_eq], .cons hc.1 (VR.mono ext3 _ _ wk) (VR.mono ext3 _ _ w2) ru .nil, by simp⟩)
      exact g μ2 _ _ (((ext.trans xx).trans xy).trans q.2) q.1 (.ref ea)
    · exact g.elim
  · exact g.elim
/-! ### o[i] = v -/
def SetOk (Y : Lw) (X : Cx) (μ : List Addr) (Hh : Hp) (Q : Hp → Prop) : Option (Env × H) → Prop
  | some p => ∀ μ' H', Ext X.K μ Hh μ' H' → RH (Y.sx X) μ' p.2 H' → Q H'
  | none => False
def tSetA (Y : Lw) (X : Cx) : TSet := fun o i v Hh Q => ∃ μ h d1 d2 d3 ρ, RH (Y.sx X) μ h Hh ∧ VR X.K μ Hh d1 o ∧ VR X.K μ Hh d2 i ∧ VR X.K μ Hh d3 v ∧ SetOk Y X μ Hh Q (subPut d1 d2 d3 ρ h)
theorem prot_lk {h : H} {p : Nat} (e : h.prot p = false) : h.lk.contains p = false := by
  unfold H.prot at e
  rw [Bool.or_eq_false_iff] at e
  exact e.2
theorem set_any (hu : X.A.units + 70 < cLine) : PSet X (tSetA Y X) := by
  intro pins s σ Hh o i v ov iv u Q I ro ri rv ⟨μ, h, d1, d2, d3, ρ, r, w1, w2, w3, g⟩
  cases w1 with
  | @ref p a ea =>
    simp only [subPut] at g
    split at g
    · exact g.elim
    · rename_i hp
      have hp : h.prot p = false := by simpa using hp
      have hlk := prot_lk hp
      split at g
      · rename_i xs eo
        cases w2 with
        | int k =>
          simp only at g
          split at g
          · rename_i j ej
            obtain ⟨ys, h1, h2⟩ := r.list eo ea
            refine set_list pins s σ Hh _ _ v ov iv u Q I ro ri rv ⟨a, ys, k, j, rfl, rfl, h1, by rw [← h2.length]; exact ej, ?_⟩
            have ext : Ext X.K μ Hh μ (upd Hh a (.lst (ys.set j v))) := ⟨List.prefix_refl _, TK.upd (by rw [h1]; simp)⟩
            have q := r.put (u := .lst (ys.set j v)) (o' := .lst (xs.set j d3)) ea eo (by rw [h1]; simp) ⟨_, upd_same, VRs.mono ext _ _ (h2.set w3 j)⟩
            exact g μ _ q.2 q.1
          · exact g.elim
        | _ => exact g.elim
      · rename_i kvs eo
        split at g
        · rename_i k ek
          split at g
          · rename_i hz
            obtain ⟨ws, at_, kr, nd⟩ := r.obj p _ a eo ea
            rw [hlk] at at_
            have at_ : Hh a = some (.dK ws) := at_
            have := keyOf_kV ek w2
            subst this
            refine set_dict (by omega) pins s σ Hh _ _ v ov iv u Q I ro ri rv ⟨a, _, rfl, DPut.k at_ (by rw [← sc_line, ← kr.length]; exact hz), ?_⟩
            have ext : Ext X.K μ Hh μ (upd Hh a (.dK (L2.putK ws k v))) := ⟨List.prefix_refl _, TK.upd (by rw [at_]; simp)⟩
            have q := r.put (u := .dK (L2.putK ws k v)) (o' := .dK (SC.putK k d3 kvs)) ea eo (by rw [at_]; simp) (by
              rw [hlk]
              exact ⟨_, upd_same, KR.put (VR.mono ext _ _ w3) (kr.mono (X := Y.sx X) ext) nd, putK_nodup nd⟩)
            exact g μ _ q.2 q.1
          · exact g.elim
        · exact g.elim
      · rename_i kvs eo
        split at g
        · rename_i hc
          simp only [Bool.and_eq_true, decide_eq_true_eq] at hc
          obtain ⟨xs, at_, hs, hz, tr, nd⟩ := r.obj p _ a eo ea
          have dh := dictH I at_ tr nd
          rw [hlk] at at_
          have at_ : Hh a = some (.ext (rawD X.prog X.w a xs)) := at_
          obtain ⟨b, rfl⟩ := keyT_ref hc.1 w2
          cases ro
          cases ri
          refine wpAny_setItem_heap (knd := nestedKind X.prog X.w) (hsz := by rw [← tr.length]; exact hz) (by show X.A.units + 1 + 8 < cLine; omega) (keyT_is I hc.1 w2) dh fun h' dd hs' => ⟨_, ext_write I at_ hs' dd, ?_⟩
          have ext : Ext X.K μ Hh μ (upd Hh a (.ext (rawD X.prog X.w a (storedH xs d2.nk b u)))) := ⟨List.prefix_refl _, TK.upd (by rw [at_]; simp)⟩
          have q := r.put (u := .ext (rawD X.prog X.w a (storedH xs d2.nk b u))) (o' := .dT (putT d2 d3 kvs)) ea eo (by rw [at_]; simp) (by
            rw [hlk]
            refine ⟨_, upd_same, hs, ?_, TR.put hc.1 (VR.mono ext _ _ w2) (VR.mono ext _ _ w3) rv (tr.mono (X := Y.sx X) ext) nd, storedH_nodup nd⟩
            have := putT_length d2 d3 kvs
            rw [← sc_line]
            omega)
          exact g μ _ q.2 q.1
        · exact g.elim
      · exact g.elim
  | _ => exact g.elim

/-! ### o.f = v -/
theorem FR.put {names : List Str} (nd : names.Nodup) {K : PySem.W.Frag} {f : Nat} {x : Str} {d : D} {v : V} (hf : names[f]? = some x) (w : VR K μ Hh d v) : ∀ {fs : List (Nat × D)} {gs : List (Str × V)}, FR names K μ Hh fs gs → FR names K μ Hh (SC.putF f d fs) (L2.putF x v gs)
  | _, _, .nil => .cons hf w .nil
  | _, _, .cons (f := g) (x := y) (d := d0) (v := v0) e w0 t => by
    by_cases hg : g = f
    · subst hg
      rw [e] at hf
      cases hf
      simp only [SC.putF, L2.putF, if_true]
      exact .cons e w t
    · have hy : y ≠ x := fun z => by
        subst z
        exact hg (nodup_ix nd e hf)
      simp only [SC.putF, L2.putF, hg, hy, if_false]
      exact .cons e w0 (FR.put nd hf w t)
theorem FR.length {names : List Str} {K : PySem.W.Frag} : ∀ {fs : List (Nat × D)} {gs : List (Str × V)}, FR names K μ Hh fs gs → fs.length = gs.length
  | _, _, .nil => rfl
  | _, _, .cons _ _ t => by simp [FR.length t]
def gFldA (Y : Lw) (X : Cx) (to : TE) (f : Nat) : TG := fun v σ Hh Q => to σ Hh fun x H1 => ∃ μ h d1 d3 ρ, RH (Y.sx X) μ h H1 ∧ VR X.K μ H1 d1 x ∧ VR X.K μ H1 d3 v ∧ SetOk Y X μ H1 (fun H' => Q σ H') (fldPut d1 f d3 ρ h)
theorem pg_fldA {f : Nat} {x : Str} {to : TE} (ok : ClsOk Y X) (hf : Y.names[f]? = some x) (hn : ∀ c C, Y.cls c = some C → NoAttr X.K C x) (ho : PE X o to) : PG X (.Attribute o x pos) (gFldA Y X to f) := by
  refine ⟨fun pins s σ H v u Q I rv h => ?_⟩
  show wpAny _ _ (do
    let ov ← holding [u] (eval o X.env)
    standAt pos.atName
    holding [u, ov] (setAttr ov x u)
    release [u, ov] []) _ _ _
  refine wpAny_bind (wpAny_holding (thn (ho.run pins s σ H _ I h) fun ov s1 ⟨z, H1, I1, r1, μ, h, d1, d3, ρ, r, w1, w3, g⟩ => ?_))
  cases w1 with
  | @ref p a ea =>
    simp only [fldPut] at g
    split at g
    · rename_i c fs eo
      split at g
      · exact g.elim
      · rename_i hc
        simp only [Bool.or_eq_true, decide_eq_true_eq, not_or, Bool.not_eq_true] at hc
        obtain ⟨C, dx, gs, hC, hI, fr⟩ := r.obj p _ a eo ea
        obtain rfl : ov = Value.ref a := r1
        refine wpAny_bind (wpAny_standAt (wpAny_bind (wpAny_holding (setattr_ok I1 hI (ok.cl c C hC) (hn c C hC) (by rw [← fr.length]; omega) rv fun s2 I2 => ?_))))
        refine wpAny_release ⟨σ, _, I2, ?_⟩
        have ext : Ext X.K μ H1 μ (upd H1 a (.ins C dx (L2.putF x v gs))) := ⟨List.prefix_refl _, TK.upd (by rw [hI]; simp)⟩
        have q := r.put (u := .ins C dx (L2.putF x v gs)) (o' := .ins c (SC.putF f d3 fs)) ea eo (by rw [hI]; simp) ⟨C, dx, _, hC, upd_same, FR.put ok.nd hf (VR.mono ext _ _ w3) (fr.mono (X := Y.sx X) ext)⟩
        exact g μ _ q.2 q.1
    · exact g.elim
  | _ => exact g.elim
/-! ### dict comprehensions, keys whole numbers or texts -/
theorem dc_read {tg : Tg} {ci ck cv : E} {own : List (Str × Nat)} (hi : ci.isStar = false) (same : BodySame tg own) (hf : tg.fit false = true) {σ : L2.St} {Hh : Hp} {Q : VK} (t : tD Y X n (.dc tg ci ck cv) σ Hh Q) :
    tDc (iW Y X n .seq [ci]) (gTg X.K tg) tYes (tD Y X n ck) (tD Y X n cv) (own.map (·.2)) σ Hh Q := by
  obtain ⟨μ, h, ρ, r, g⟩ := t
  simp only [den] at g
  obtain ⟨v0, h1, e1, g⟩ := g.bind
  refine ⟨μ, h, ρ, r, ?_⟩
  rw [denL_cons _ _ hi, e1]
  simp only [R.bind_ok, denL]
  split at g
  · exact g.elim
  · rename_i l xs ew
    refine ⟨l, xs, ew, fun μ1 H1 J x1 r1 it Dd hD => ?_⟩
    have hq := walk_seqs (by simp) (by simp) ew
    have rl := r1.lockS hq
    have hμ : (μ1 ++ [Dd])[h1.o.length]? = some Dd := by rw [← r1.len]; simp
    have ext0 : Ext X.K μ1 H1 (μ1 ++ [Dd]) (upd H1 Dd (.dK [])) := ⟨List.prefix_append _ _, TK.new hD⟩
    have r0 : RH (Y.sx X) (μ1 ++ [Dd]) ((h1.lock l).push (.dK [])) (upd H1 Dd (.dK [])) := rl.push hD ⟨[], upd_same, .nil, List.nodup_nil⟩
    refine ⟨fun i m H' => ∃ μ' h', Ext X.K (μ1 ++ [Dd]) (upd H1 Dd (.dK [])) μ' H' ∧ RH (Y.sx X) μ' h' H' ∧ Pr (h1.lock l) h' ∧ i ≤ xs.length ∧ m = xs.length - i ∧
      Good ((dcGo h1.o.length tg (fun σ h => den Y.T (Y.Φ n) ck σ h) (fun σ h => den Y.T (Y.Φ n) cv σ h) ρ (xs.drop i) h').bind fun v h => .ok v (h.unlock l)) (Want Y X μ1 H1 Q),
      ⟨_, μ1 ++ [Dd], _, Ext.refl, r0, Pr.push _ _, Nat.zero_le _, rfl, ?_⟩, ?_⟩
    · obtain ⟨v2, h2, e2, g⟩ := g.bind
      rw [List.drop_zero, e2]
      exact fun μ' H' y x' r' w' => g μ' H' y (x1.trans x') r' w'
    rintro i m H' ⟨μ', h', x', r', p', hi', rfl, g'⟩
    have xx : Ext X.K μ1 H1 μ' H' := ext0.trans x'
    obtain ⟨go, stop⟩ := it μ' h' H' i xx r' p'
    cases ed : xs.drop i with
    | nil =>
      have : i = xs.length := by
        have := congrArg List.length ed
        simp at this
        omega
      rw [ed] at g'
      simp only [dcGo, R.bind_ok] at g'
      exact .inl ⟨stop this, g' μ' H' _ xx (r'.unlockS hq p') (.ref (pre_get x'.pre hμ))⟩
    | cons d rest =>
      have hd : xs[i]? = some d := by
        have : (xs.drop i)[0]? = some d := by rw [ed]; rfl
        simpa using this
      have hlt : i < xs.length := (List.getElem?_eq_some_iff.mp hd).1
      have er : xs.drop (i + 1) = rest := by
        have := congrArg List.tail ed
        simpa using this
      obtain ⟨go, yl⟩ := go d hd
      rw [ed] at g'
      simp only [dcGo] at g'
      refine .inr ⟨go, fun H2 => ∃ m', m' < xs.length - i ∧ ∃ μ' h', Ext X.K (μ1 ++ [Dd]) (upd H1 Dd (.dK [])) μ' H2 ∧ RH (Y.sx X) μ' h' H2 ∧ Pr (h1.lock l) h' ∧ i + 1 ≤ xs.length ∧ m' = xs.length - (i + 1) ∧
        Good ((dcGo h1.o.length tg (fun σ h => den Y.T (Y.Φ n) ck σ h) (fun σ h => den Y.T (Y.Φ n) cv σ h) ρ (xs.drop (i + 1)) h').bind fun v h => .ok v (h.unlock l)) (Want Y X μ1 H1 Q), fun H2 q => q, fun x H'' hy => ?_⟩
      obtain ⟨x2, r2, im⟩ := yl x H'' hy
      split at g'
      · exact g'.elim
      · rename_i ρ2 et
        have rw_ : RSx (Y.sx X) tg.slots μ' h' ρ (wipe σ (own.map (·.2))) H'' := by
          have q : RS (Y.sx X) μ' h' ρ σ H'' := (r.mono x1 r1).mono (xx.trans x2) r2
          refine ⟨q.rh, fun j dj hj ej => ?_, by rw [wipe_length]; exact q.ln⟩
          obtain ⟨v, h1, h2⟩ := q.sl j dj ej
          exact ⟨v, by rw [wipe_out (fun hm => hj (same.sub j hm))]; exact h1, h2⟩
        refine tg_ok (S := Y.sx X) hf rw_ im et fun σ2 r3 hw => ⟨(hw _ same.sup).trans ?_, ?_⟩
        · refine List.ext_getElem? fun j => ?_
          by_cases hj : j ∈ own.map (·.2)
          · rw [wipe_in hj, wipe_in hj, wipe_length]
          · rw [wipe_out hj]
        · unfold tYes
          refine (if_pos rfl).mpr ?_
          cases ek : den Y.T (Y.Φ n) ck ρ2 h' with
          | bad => rw [ek] at g'; exact g'.elim
          | ok kv h3 =>
            rw [ek, R.bind_ok] at g'
            have pk := den_ok (Phi_pr Y.fd n) ek
            refine tD.of r3 ek fun μ3 H3 y x3 rh3 w3 => ?_
            cases ee : den Y.T (Y.Φ n) cv ρ2 h3 with
            | bad => rw [ee] at g'; exact g'.elim
            | ok v h4 =>
              rw [ee, R.bind_ok] at g'
              have pe := den_ok (Phi_pr Y.fd n) ee
              refine tD.of (r3.mono x3 rh3) ee fun μ4 H4 z x4 r4 w4 => ?_
              split at g'
              · rename_i key acc ekey ea
                split at g'
                · rename_i hz
                  simp only [Bool.and_eq_true, decide_eq_true_eq, Bool.not_eq_true'] at hz
                  have eD : μ4[h1.o.length]? = some Dd := pre_get ((((x'.trans x2).trans x3).trans x4).pre) hμ
                  obtain ⟨ws, at_, kr, nd⟩ := r4.obj _ _ Dd ea eD
                  rw [hz.2] at at_
                  have at_ : H4 Dd = some (.dK ws) := at_
                  refine ⟨ws, key, keyOf_kV ekey (VR.mono x4 _ _ w3), at_, by rw [← sc_line, ← kr.length]; exact hz.1, ?_⟩
                  have ext5 : Ext X.K μ4 H4 μ4 (upd H4 Dd (.dK (L2.putK ws key z))) := ⟨List.prefix_refl _, TK.upd (by rw [at_]; simp)⟩
                  have q5 := r4.put (u := .dK (L2.putK ws key z)) (o' := .dK (SC.putK key v acc)) eD ea (by rw [at_]; simp) (by
                    rw [hz.2]
                    exact ⟨_, upd_same, KR.put (VR.mono ext5 _ _ w4) (kr.mono (X := Y.sx X) ext5) nd, putK_nodup nd⟩)
                  refine ⟨xs.length - (i + 1), by omega, μ4, _, (((x'.trans x2).trans x3).trans x4).trans q5.2, q5.1, Pr.putNew _ (Nat.le_refl _) ((p'.trans pk).trans pe), hlt, rfl, ?_⟩
                  rw [er]
                  exact g'
                · exact g'.elim
              · exact g'.elim
theorem s_dc {tgE iter kx vx : Expr} {tg : Tg} {ci ck cv : E} {scope : Scope} {own : List (Str × Nat)} (B : BodyOk Y X n scope own tgE tg) (hf : tg.fit false = true) (hcs : ci.isStar = false) (hi : PI X tgE iter (iW Y X n .seq [ci]))
    (hk : ∀ (s : Shared) (H : Hp) (C : Addr) (cl : List (Str × Addr)) (fp : List Addr), PE (X.blk s H scope (compEnvC scope cl C X.env) fp) kx (tD Y X n ck))
    (hv : ∀ (s : Shared) (H : Hp) (C : Addr) (cl : List (Str × Addr)) (fp : List Addr), PE (X.blk s H scope (compEnvC scope cl C X.env) fp) vx (tD Y X n cv))
    (hs : ∀ x, foldedSetIterable iter X.env x = pure x) : PE X (.DictComp kx vx [⟨tgE, iter, [], 0⟩] scope pos) (tD Y X n (.dc tg ci ck cv)) :=
  PE.imp (pe_dc (g := gTg X.K tg) B.calm B.nd hi B.blk (fun s H C cl fp => pg_tg (X := X.blk s H scope (compEnvC scope cl C X.env) fp) B.calm (B.tgt s H C cl fp)) (fun s H C cl fp => pts_nil) hk hv hs) fun σ Hh Q t => dc_read hcs B.same hf t
end
end SC
end
end
section
set_option linter.all false
set_option maxRecDepth 100000
set_option Elab.async false
/-! SC19: statements. -/
noncomputable section
namespace SC
open PySem L2
section
variable {Y : Lw} {X : Cx} {n : Nat} {pos : Pos} {o i e : Expr} {co ci ce : E} {st : Stmt} {rest : List Stmt} {c : S} {cs : List S}
/-! ### targets -/
def GOk (Y : Lw) (X : Cx) (μ : List Addr) (Hh : Hp) (Q : L2.St → Hp → Prop) : Option (Env × H) → Prop
  | some p => ∀ μ' H' σ', Ext X.K μ Hh μ' H' → RS (Y.sx X) μ' p.2 p.1 σ' H' → Q σ' H'
  | none => False
def gA (Y : Lw) (X : Cx) (n : Nat) (g : G) : TG := fun v σ Hh Q => ∃ μ h ρ d, RS (Y.sx X) μ h ρ σ Hh ∧ VR X.K μ Hh d v ∧ GOk Y X μ Hh Q (gset Y.T (Y.Φ n) g d ρ h)
def gAs (Y : Lw) (X : Cx) (n : Nat) (g : List G) : TGs := fun vs σ Hh Q => ∃ μ h ρ ds, RS (Y.sx X) μ h ρ σ Hh ∧ VRs X.K μ Hh ds vs ∧ GOk Y X μ Hh Q (gsets Y.T (Y.Φ n) g ds ρ h)
theorem PG.imp {t t' : TG} (h : PG X e t) (i : ∀ v σ Hh Q, t' v σ Hh Q → t v σ Hh Q) : PG X e t' := ⟨fun pins s σ Hh v u Q I r q => h.run pins s σ Hh v u Q I r (i v σ Hh Q q)⟩
theorem PGs.imp {es : List Expr} {t t' : TGs} (h : PGs X es t) (i : ∀ v σ Hh Q, t' v σ Hh Q → t v σ Hh Q) : PGs X es t' := ⟨fun pins s σ Hh v u Q I r q => h.run pins s σ Hh v u Q I r (i v σ Hh Q q)⟩
theorem g_name {x : Str} {j : Nat} (ok : NmOk X x j) : PG X (.Name x pos) (gA Y X n (.n j)) := PG.imp (pg_name ok.nd ok.at_ ok.loc ok.own) fun v σ Hh Q ⟨μ, h, ρ, d, r, w, g⟩ => by
  simp only [gset] at g
  exact g μ Hh _ Ext.refl ((RS.x (vs := []) r).set (fun j _ _ => by simp) w).full
theorem g_fld {f : Nat} {x : Str} (ok : ClsOk Y X) (hf : Y.names[f]? = some x) (hn : ∀ c C, Y.cls c = some C → NoAttr X.K C x) (ho : PE X o (tD Y X n co)) : PG X (.Attribute o x pos) (gA Y X n (.f co f)) := PG.imp (pg_fldA ok hf hn ho) fun v σ Hh Q ⟨μ, h, ρ, d, r, w, g⟩ => by
  simp only [gset] at g
  split at g
  · rename_i x1 h1 e1
    refine tD.of r e1 fun μ1 H1 y xx r1 w1 => ⟨μ1, h1, x1, d, ρ, r1, w1, VR.mono xx _ _ w, ?_⟩
    have er : ∀ {q : Env × H}, fldPut x1 f d ρ h1 = some q → q.1 = ρ := fun {q} e => by
      unfold fldPut at e
      split at e
      · split at e
        · split at e
          · cases e
          · cases e; rfl
        · cases e
      · cases e
    cases ef : fldPut x1 f d ρ h1 with
    | none => rw [ef] at g; exact g.elim
    | some q =>
      rw [ef] at g
      have := er ef
      exact fun μ' H' x' r' => g μ' H' σ (xx.trans x') (by rw [this]; exact (r.mono xx r1).mono x' r')
  · exact g.elim
def notSlice : Expr → Bool
  | .Slice .. => false
  | _ => true
theorem g_sub (hu : X.A.units + 70 < cLine) (ho : PE X o (tD Y X n co)) (hi : PE X i (tD Y X n ci)) (hs : notSlice i = true) : PG X (.Subscript o i pos) (gA Y X n (.s co ci)) := PG.imp (pg_sub ho hi (set_any (Y := Y) hu) (fun v => by cases i <;> first | rfl | (simp [notSlice] at hs))) fun v σ Hh Q ⟨μ, h, ρ, d, r, w, g⟩ => by
  simp only [gset] at g
  split at g
  · rename_i x1 h1 e1
    split at g
    · rename_i y1 h2 e2
      refine tD.of r e1 fun μ1 H1 y xx r1 w1 => ?_
      refine tD.of (r.mono xx r1) e2 fun μ2 H2 z xy r2 w2 => ⟨μ2, h2, x1, y1, d, ρ, r2, VR.mono xy _ _ w1, w2, VR.mono (xx.trans xy) _ _ w, ?_⟩
      have er : ∀ {q : Env × H}, subPut x1 y1 d ρ h2 = some q → q.1 = ρ := fun {q} e => by
        unfold subPut at e
        (repeat' split at e) <;> cases e <;> rfl
      cases ef : subPut x1 y1 d ρ h2 with
      | none => rw [ef] at g; exact g.elim
      | some q =>
        rw [ef] at g
        have := er ef
        exact fun μ' H' x' r' => g μ' H' σ ((xx.trans xy).trans x') (by rw [this]; exact (r.mono (xx.trans xy) r2).mono x' r')
    · exact g.elim
  · exact g.elim
theorem g_nil : PGs X [] (gAs Y X n []) := PGs.imp pgs_nil fun v σ Hh Q ⟨μ, h, ρ, ds, r, w, g⟩ => by
  cases w with
  | nil => simp only [gsets] at g; exact ⟨rfl, g μ Hh σ Ext.refl r⟩
  | cons _ _ => simp only [gsets] at g; exact g.elim
theorem g_cons {g : G} {gs : List G} {es : List Expr} (h1 : PG X e (gA Y X n g)) (h2 : PGs X es (gAs Y X n gs)) (hs : noStar e = true) : PGs X (e :: es) (gAs Y X n (g :: gs)) := PGs.imp (pgs_cons h1 h2 (by rw [assignEach_cons hs]; rfl)) fun v σ Hh Q ⟨μ, h, ρ, ds, r, w, q⟩ => by
  cases w with
  | nil => simp only [gsets] at q; exact q.elim
  | @cons d x ds xs w ws =>
    simp only [gsets] at q
    split at q
    · rename_i ρ1 hh1 e1
      refine ⟨x, xs, rfl, μ, h, ρ, d, r, w, ?_⟩
      rw [e1]
      exact fun μ' H' σ' x' r' => ⟨μ', hh1, ρ1, ds, r', VRs.mono x' _ _ ws, by
        revert q
        cases gsets Y.T (Y.Φ n) gs ds ρ1 hh1 with
        | none => exact fun q => q
        | some p => exact fun q μ2 H2 σ2 x2 r2 => q μ2 H2 σ2 (x'.trans x2) r2⟩
    · exact q.elim
theorem g_tup {gs : List G} {es : List Expr} {k : Nat} (hc : X.calm = true) (h : PGs X es (gAs Y X n gs)) (hs : es.all noStar = true) (hl : es.length = gs.length) : PG X (.Tuple es k pos) (gA Y X n (.t gs)) := by
  obtain ⟨h3, h4⟩ := assignEach_ok (env := X.env) hs
  refine PG.imp (pg_tup hc h (n := gs.length) (by rw [h3, hl]) h4) fun v σ Hh Q ⟨μ, h, ρ, d, r, w, g⟩ => ?_
  simp only [gset] at g
  cases w with
  | @tup a zs ys q ws =>
    simp only at g
    refine ⟨a, ys, rfl, q.sq, ?_, μ, h, ρ, zs, r, ws, g⟩
    rw [← ws.length]
    have key : ∀ (gs : List G) (zs : List D) (ρ : Env) (h : H), GOk Y X μ Hh Q (gsets Y.T (Y.Φ n) gs zs ρ h) → (gsets Y.T (Y.Φ n) gs zs ρ h).isSome = true := fun gs zs ρ h g => by
      revert g
      cases gsets Y.T (Y.Φ n) gs zs ρ h with
      | none => intro g; exact g.elim
      | some p => intro _; rfl
    have ln : ∀ (gs : List G) (zs : List D) (ρ : Env) (h : H), (gsets Y.T (Y.Φ n) gs zs ρ h).isSome = true → zs.length = gs.length := fun gs => by
      induction gs with
      | nil => intro zs ρ h e; cases zs <;> first | rfl | (simp [gsets] at e)
      | cons g gs ih =>
        intro zs ρ h e
        cases zs with
        | nil => simp [gsets] at e
        | cons z zs =>
          simp only [gsets] at e
          split at e
          · simp [ih _ _ _ e]
          · cases e
    exact ln gs zs ρ h (key gs zs ρ h g)
  | _ => exact g.elim
/-! ### assignments -/
theorem s_asg {tg : Expr} {g : G} (he : PE X e (tD Y X n ce)) (hg : PG X tg (gA Y X n g)) (hs : swapsWithSole [tg] e pos.line X.env = pure false) (hw : swappedStores [tg] e X.env = pure none) (hn : noStar tg = true) : PS X (.Assign [tg] e pos) (tS Y X n (.asg g ce)) :=
  PS.imp (ps_asg he hg hs hw (by rw [assignEach_cons hn]; rfl)) fun D σ Hh ⟨μ, h, ρ, r, q⟩ => by
    simp only [exec] at q
    split at q
    · rename_i v h1 e1
      refine tD.of r e1 fun μ1 H1 x xx r1 w1 => ⟨μ1, h1, ρ, v, r.mono xx r1, w1, ?_⟩
      split at q
      · rename_i ρ2 h2 e2
        rw [e2]
        exact fun μ' H' σ' x' r' => q μ' H' σ' (xx.trans x') r'
      · exact q.elim
    · exact q.elim
theorem s_set {x : Str} {j : Nat} {pos' : Pos} (ok : NmOk X x j) (he : PE X e (tD Y X n ce)) (hs : swapsWith e (some (.Name x pos')) pos.line X.env = pure false) : PS X (.Assign [.Name x pos'] e pos) (tS Y X n (.asg (.n j) ce)) :=
  PS.imp (ps_set ok.nd ok.at_ ok.loc he hs ok.own) fun D σ Hh t => set_read t
theorem RS.set2 {S' : Sx} {μ : List Addr} {h : H} {ρ : Env} {σ : L2.St} {Hh : Hp} {i : Nat} {d : D} {x : V} (r : RS S' μ h ρ σ Hh) (w : VR S'.K μ Hh d x) : RS S' μ h (ρ.set i (some d)) (σ.set i (some x)) Hh := ((RS.x (vs := []) r).set (fun j _ _ => by simp) w).full
theorem s_par {i j : Nat} {x y : Str} {a b : Expr} {ca cb : E} {px py pt : Pos} {kt k2 pt2} (hc : X.calm = true) (hN : X.N.Nodup) (hi : X.N[i]? = some x) (hj : X.N[j]? = some y) (hij : i ≠ j)
    (hx : X.env.scope.names.lookup x = some .local) (hy : X.env.scope.names.lookup y = some .local) (da : PE X a (tD Y X n ca)) (db : PE X b (tD Y X n cb)) (na : noStar a = true) (nb : noStar b = true) (sa : ca.isStar = false) (sb : cb.isStar = false)
    (hw : swappedStores [.Tuple [.Name x px, .Name y py] kt pt] (.Tuple [a, b] k2 pt2) X.env = pure (some [x, y])) :
    PS X (.Assign [.Tuple [.Name x px, .Name y py] kt pt] (.Tuple [a, b] k2 pt2) pos) (tS Y X n (.asg (.t [.n i, .n j]) (.tup [ca, cb]))) :=
  PS.imp (ps_par hc hN hi hj hij hx hy (s_cons da (s_cons db s_nil nb sb) na sa) hw) fun D σ Hh ⟨μ, h, ρ, r, q⟩ => by
    simp only [exec, den] at q
    cases e1 : denL Y.T (Y.Φ n) [ca, cb] ρ h with
    | bad => rw [e1] at q; exact q.elim
    | ok as h1 =>
      rw [e1, R.bind_ok] at q
      obtain ⟨v, w, rfl⟩ := den_two sa sb e1
      have e2 : newT [v, w] h1 = .ok (.tup [v, w]) h1 := by unfold newT; rw [if_pos (by simp [sizeCap])]
      rw [e2] at q
      simp only [gset, gsets] at q
      refine tL.of r e1 fun μ1 H1 xs xx r1 w1 => ?_
      cases w1 with
      | @cons _ u1 _ _ w1 wr =>
        cases wr with
        | @cons _ u2 _ _ w2 wr =>
          cases wr
          exact ⟨u1, u2, rfl, q μ1 H1 _ xx (((r.mono xx r1).set2 w1).set2 w2)⟩
theorem s_par3 {i j l : Nat} {x y z : Str} {a b c : Expr} {ca cb cc : E} {px py pz pt : Pos} {kt k2 pt2} (hc : X.calm = true) (hN : X.N.Nodup) (hi : X.N[i]? = some x) (hj : X.N[j]? = some y) (hl : X.N[l]? = some z) (hij : i ≠ j) (hil : i ≠ l) (hjl : j ≠ l)
    (hx : X.env.scope.names.lookup x = some .local) (hy : X.env.scope.names.lookup y = some .local) (hz : X.env.scope.names.lookup z = some .local) (da : PE X a (tD Y X n ca)) (db : PE X b (tD Y X n cb)) (dc : PE X c (tD Y X n cc))
    (na : noStar a = true) (nb : noStar b = true) (nc : noStar c = true) (sa : ca.isStar = false) (sb : cb.isStar = false) (sc : cc.isStar = false)
    (hw : swappedStores [.Tuple [.Name x px, .Name y py, .Name z pz] kt pt] (.Tuple [a, b, c] k2 pt2) X.env = pure (some [x, y, z])) :
    PS X (.Assign [.Tuple [.Name x px, .Name y py, .Name z pz] kt pt] (.Tuple [a, b, c] k2 pt2) pos) (tS Y X n (.asg (.t [.n i, .n j, .n l]) (.tup [ca, cb, cc]))) :=
  PS.imp (ps_par3 hc hN hi hj hl hij hil hjl hx hy hz (s_cons da (s_cons db (s_cons dc s_nil nc sc) nb sb) na sa) hw) fun D σ Hh ⟨μ, h, ρ, r, q⟩ => by
    simp only [exec, den] at q
    cases e1 : denL Y.T (Y.Φ n) [ca, cb, cc] ρ h with
    | bad => rw [e1] at q; exact q.elim
    | ok as h1 =>
      rw [e1, R.bind_ok] at q
      obtain ⟨u, v, w, rfl⟩ : ∃ u v w, as = [u, v, w] := by
        rw [denL_cons _ _ sa] at e1
        cases ed : den Y.T (Y.Φ n) ca ρ h with
        | bad => rw [ed] at e1; cases e1
        | ok u hh =>
          rw [ed, R.bind_ok] at e1
          cases ed2 : denL Y.T (Y.Φ n) [cb, cc] ρ hh with
          | bad => rw [ed2] at e1; cases e1
          | ok us hh2 =>
            rw [ed2] at e1
            cases e1
            obtain ⟨v, w, rfl⟩ := den_two sb sc ed2
            exact ⟨u, v, w, rfl⟩
      have e2 : newT [u, v, w] h1 = .ok (.tup [u, v, w]) h1 := by unfold newT; rw [if_pos (by simp [sizeCap])]
      rw [e2] at q
      simp only [gset, gsets] at q
      refine tL.of r e1 fun μ1 H1 xs xx r1 w1 => ?_
      cases w1 with
      | @cons _ u1 _ _ w1 wr =>
        cases wr with
        | @cons _ u2 _ _ w2 wr =>
          cases wr with
          | @cons _ u3 _ _ w3 wr =>
            cases wr
            exact ⟨u1, u2, u3, rfl, q μ1 H1 _ xx ((((r.mono xx r1).set2 w1).set2 w2).set2 w3)⟩
/-! ### the rest -/
theorem s_expr (he : PE X e (tD Y X n ce)) (hs : swapsWith e none pos.line X.env = pure false) : PS X (.Expr e pos) (tS Y X n (.expr ce)) := PS.imp (ps_expr he hs) fun D σ Hh ⟨μ, h, ρ, r, q⟩ => by
  simp only [exec] at q
  split at q
  · rename_i v h1 e1
    exact tD.of r e1 fun μ1 H1 x xx r1 w1 => q μ1 H1 σ xx (r.mono xx r1)
  · exact q.elim
theorem s_ret (he : PE X e (tD Y X n ce)) : PS X (.Return (some e) pos) (tS Y X n (.ret ce)) := PS.imp (ps_ret he) fun D σ Hh ⟨μ, h, ρ, r, q⟩ => by
  simp only [exec] at q
  split at q
  · rename_i v h1 e1
    exact tD.of r e1 fun μ1 H1 x xx r1 w1 => q μ1 H1 x xx r1 w1
  · exact q.elim
theorem s_pass : PS X (.Pass pos) (tS Y X n .pass) := PS.imp ps_pass fun D σ Hh ⟨μ, h, ρ, r, q⟩ => by
  simp only [exec] at q
  exact q μ Hh σ Ext.refl r
theorem s_raise : PS X st (tS Y X n .raise_) := PS.imp ps_never fun D σ Hh ⟨μ, h, ρ, r, q⟩ => by
  simp only [exec] at q
  exact q
theorem s_ssnil : PSs X [] (tSs Y X n []) := PSs.imp pss_nil fun D σ Hh ⟨μ, h, ρ, r, q⟩ => by
  simp only [execs] at q
  exact q μ Hh σ Ext.refl r
theorem s_sscons (h1 : PS X st (tS Y X n c)) (h2 : PSs X rest (tSs Y X n cs)) : PSs X (st :: rest) (tSs Y X n (c :: cs)) := PSs.imp (pss_cons h1 h2) fun D σ Hh ⟨μ, h, ρ, r, q⟩ => by
  simp only [execs] at q
  refine ⟨μ, h, ρ, r, ?_⟩
  cases ex : exec Y.T (Y.Φ n) c ρ h with
  | nx ρ1 h1 =>
    rw [ex] at q
    exact fun μ' H' σ' x' r' => ⟨μ', h1, ρ1, r', EndsOk.mono q x'⟩
  | rt v h1 => rw [ex] at q; exact q
  | bk ρ1 h1 => rw [ex] at q; exact q
  | ct ρ1 h1 => rw [ex] at q; exact q
  | bad => rw [ex] at q; exact q
theorem s_if {a b : List Stmt} {ca cb : List S} (hc : PT X e (tT Y X n ce)) (ha : PSs X a (tSs Y X n ca)) (hb : PSs X b (tSs Y X n cb)) : PS X (.If e a b pos) (tS Y X n (.ite ce ca cb)) := PS.imp (ps_if hc ha hb) fun D σ Hh ⟨μ, h, ρ, r, q⟩ => by
  simp only [exec] at q
  split at q
  · rename_i h1 e1
    refine tT.of r e1 fun μ1 H1 xx r1 => ?_
    exact (if_pos rfl).mpr ⟨μ1, h1, ρ, r.mono xx r1, EndsOk.mono q xx⟩
  · rename_i h1 e1
    refine tT.of r e1 fun μ1 H1 xx r1 => ?_
    exact (if_neg (by simp)).mpr ⟨μ1, h1, ρ, r.mono xx r1, EndsOk.mono q xx⟩
  · exact q.elim
theorem s_while {b : List Stmt} {cb : List S} (hp : PassesOwn (model X.prog X.w) X.A X.env X.xe) (hc : PT X e (tT Y X n ce)) (hb : PSs X b (tSs Y X n cb)) : PS X (.While e b [] pos) (tS Y X n (.while_ ce cb)) := PS.imp (ps_while hp hc hb) fun D σ Hh ⟨μ, h, ρ, r, q⟩ => by
  simp only [exec] at q
  refine ⟨fun m σ' H' => ∃ μ' h' ρ', RS (Y.sx X) μ' h' ρ' σ' H' ∧ EndsOk Y X (whileGo (den Y.T (Y.Φ n) ce) (fun σ h => execs Y.T (Y.Φ n) cb σ h) m ρ' h') D μ' H', ⟨whileFuel, μ, h, ρ, r, q⟩, ?_⟩
  rintro m σ' H' ⟨μ', h', ρ', r', q'⟩
  cases m with
  | zero => simp only [whileGo] at q'; exact q'.elim
  | succ m =>
    simp only [whileGo] at q'
    split at q'
    · rename_i h1 e1
      refine tT.of r' e1 fun μ1 H1 xx r1 => ?_
      refine (if_pos rfl).mpr ⟨fun σ2 H2 => ∃ μ' h' ρ', RS (Y.sx X) μ' h' ρ' σ2 H2 ∧ EndsOk Y X (whileGo (den Y.T (Y.Φ n) ce) (fun σ h => execs Y.T (Y.Φ n) cb σ h) m ρ' h') D μ' H2, fun σ2 H2 z => ⟨m, Nat.lt_succ_self m, z⟩, μ1, h1, ρ', r'.mono xx r1, ?_⟩
      revert q'
      cases execs Y.T (Y.Φ n) cb ρ' h1 with
      | nx ρ4 h4 => exact fun q' μ4 H4 σ4 x4 r4 => ⟨μ4, h4, ρ4, r4, EndsOk.mono q' (xx.trans x4)⟩
      | ct ρ4 h4 => exact fun q' μ4 H4 σ4 x4 r4 => ⟨μ4, h4, ρ4, r4, EndsOk.mono q' (xx.trans x4)⟩
      | bk ρ4 h4 => exact fun q' μ4 H4 σ4 x4 r4 => q' μ4 H4 σ4 (xx.trans x4) r4
      | rt v h4 => exact fun q' μ4 H4 y x4 r4 w4 => q' μ4 H4 y (xx.trans x4) r4 w4
      | bad => exact fun q' => q'.elim
    · rename_i h1 e1
      refine tT.of r' e1 fun μ1 H1 xx r1 => ?_
      exact (if_neg (by simp)).mpr (q' μ1 H1 σ' xx (r'.mono xx r1))
    · exact q'.elim
end
end SC
end
end
section
set_option linter.all false
set_option maxRecDepth 100000
set_option Elab.async false
/-! SC20: for over a dict of tuple keys (locked while it is walked). -/
noncomputable section
namespace SC
open PySem L2
/-- tuples stay -/
def TT_ (K : PySem.W.Frag) (Hh Hh' : Hp) : Prop := ∀ a ys, TpA K Hh a ys → TpA K Hh' a ys
section
variable {K : PySem.W.Frag} {μ : List Addr} {Hh Hh' : Hp}
mutual
theorem VR.monoT (e : TT_ K Hh Hh') : ∀ (d : D) (x : V), VR K μ Hh d x → VR K μ Hh' d x
  | _, _, .non => .non
  | _, _, .bl b => .bl b
  | _, _, .int i => .int i
  | _, _, .str s => .str s
  | _, _, .tup h hs => .tup (e _ _ h) (VRs.monoT e _ _ hs)
  | _, _, .ref h => .ref h
theorem VRs.monoT (e : TT_ K Hh Hh') : ∀ (d : List D) (x : List V), VRs K μ Hh d x → VRs K μ Hh' d x
  | _, _, .nil => .nil
  | _, _, .cons h hs => .cons (VR.monoT e _ _ h) (VRs.monoT e _ _ hs)
end
theorem KR.monoT (e : TT_ K Hh Hh') : ∀ {r s}, KR K μ Hh r s → KR K μ Hh' r s
  | _, _, .nil => .nil
  | _, _, .cons h t => .cons (VR.monoT e _ _ h) (KR.monoT e t)
theorem TR.monoT (e : TT_ K Hh Hh') : ∀ {r s}, TR K μ Hh r s → TR K μ Hh' r s
  | _, _, .nil => .nil
  | _, _, .cons p h g q t => .cons p (VR.monoT e _ _ h) (VR.monoT e _ _ g) q (TR.monoT e t)
theorem FR.monoT {names : List Str} (e : TT_ K Hh Hh') : ∀ {r s}, FR names K μ Hh r s → FR names K μ Hh' r s
  | _, _, .nil => .nil
  | _, _, .cons p h t => .cons p (VR.monoT e _ _ h) (FR.monoT e t)
/-- entries and what the layer sees -/
inductive PR (K : PySem.W.Frag) (μ : List Addr) (Hh : Hp) : List (D × D) → List (V × V) → Prop
  | nil : PR K μ Hh [] []
  | cons {k d : D} {x y : V} {r : List (D × D)} {s : List (V × V)} : VR K μ Hh k x → VR K μ Hh d y → PR K μ Hh r s → PR K μ Hh ((k, d) :: r) ((x, y) :: s)
theorem PR.of : ∀ {r : List (D × D)} {s : List (NestedKey × Addr × Value)}, TR K μ Hh r s → ∃ vs, XR vs s ∧ PR K μ Hh r vs
  | _, _, .nil => ⟨[], .nil, .nil⟩
  | _, _, .cons _ h g q t => let ⟨vs, h1, h2⟩ := PR.of t; ⟨_ :: vs, .cons q h1, .cons h g h2⟩
theorem PR.length : ∀ {r : List (D × D)} {s : List (V × V)}, PR K μ Hh r s → r.length = s.length
  | _, _, .nil => rfl
  | _, _, .cons _ _ t => by simp [PR.length t]
theorem PR.get : ∀ {r : List (D × D)} {s : List (V × V)} {i : Nat} {p : D × D}, PR K μ Hh r s → r[i]? = some p → ∃ q, s[i]? = some q ∧ VR K μ Hh p.1 q.1 ∧ VR K μ Hh p.2 q.2
  | _, _, _, _, .nil, h => by simp at h
  | _, _, 0, _, .cons w v _, h => by simp at h; subst h; exact ⟨_, rfl, w, v⟩
  | _, _, i + 1, _, .cons _ _ t, h => by
    simp at h
    obtain ⟨q, h1, h2⟩ := PR.get t h
    exact ⟨q, by simpa using h1, h2⟩
end
section
variable {Y : Lw} {X : Cx} {n : Nat} {pos : Pos} {μ : List Addr} {h : H} {Hh : Hp}
theorem OR.monoT {a : Addr} {lk : Bool} {o : AO} {Hh' : Hp} (x : OR (Y.sx X) μ Hh a lk o) (e : TT_ X.K Hh Hh') (ha : Hh' a = Hh a) : OR (Y.sx X) μ Hh' a lk o := by
  cases o with
  | lst xs => obtain ⟨ys, h1, h2⟩ := x; exact ⟨ys, by rw [ha]; exact h1, VRs.monoT e _ _ h2⟩
  | fz xs => obtain ⟨o, ys, h1, h2⟩ := x; exact ⟨o, ys, by rw [ha]; exact h1, VRs.monoT e _ _ h2⟩
  | dK kvs => obtain ⟨ws, h1, h2, h3⟩ := x; exact ⟨ws, by unfold At; rw [ha]; exact h1, KR.monoT e h2, h3⟩
  | dT kvs => obtain ⟨xs, h1, h2, h3, h4, h5⟩ := x; exact ⟨xs, by unfold At; rw [ha]; exact h1, h2, h3, TR.monoT e h4, h5⟩
  | ins c fs => obtain ⟨C, dx, gs, h1, h2, h3⟩ := x; exact ⟨C, dx, gs, h1, by rw [ha]; exact h2, FR.monoT e h3⟩
theorem RH.ne (r : RH (Y.sx X) μ h Hh) {m p : Nat} {b a : Addr} (e1 : μ[m]? = some b) (e2 : μ[p]? = some a) (hn : m ≠ p) : b ≠ a := fun z => by
  subst z
  obtain ⟨h1, e1⟩ := List.getElem?_eq_some_iff.mp e1
  obtain ⟨h2, e2⟩ := List.getElem?_eq_some_iff.mp e2
  exact hn ((List.getElem_inj r.nd).mp (e1.trans e2.symm))
/-- the dict at p is locked -/
theorem RH.lockT {p : Nat} {a : Addr} {kvs : List (D × D)} {u : HO} (r : RH (Y.sx X) μ h Hh) (eo : h.o[p]? = some (.dT kvs)) (ea : μ[p]? = some a) (hl : h.lk.contains p = false) (hu : Hh a = some u) (od : Obj) :
    Ext X.K μ Hh μ (upd Hh a (.frz od u)) ∧ RH (Y.sx X) μ (h.lock [p]) (upd Hh a (.frz od u)) := by
  have q := r.obj p _ a eo ea
  rw [hl] at q
  have nf := q.open (by simp)
  have ext : Ext X.K μ Hh μ (upd Hh a (.frz od u)) := ⟨List.prefix_refl _, TK.upd nf⟩
  refine ⟨ext, r.len, r.nd, fun m o b e e' => ?_, fun m hm => ?_⟩
  · replace e : h.o[m]? = some o := e
    by_cases hm : m = p
    · subst hm
      rw [eo] at e
      cases e
      rw [ea] at e'
      cases e'
      have c : (h.lock [m]).lk.contains m = true := by simp [H.lock]
      rw [c]
      obtain ⟨xs, at_, h2, h3, h4, h5⟩ := q
      have at_ : Hh a = _ := at_
      rw [hu] at at_
      cases at_
      exact ⟨xs, ⟨od, upd_same⟩, h2, h3, h4.mono (X := Y.sx X) ext, h5⟩
    · have c : (h.lock [p]).lk.contains m = h.lk.contains m := by simp [H.lock, hm]
      rw [c]
      exact (r.obj m o b e e').mono ext (upd_ne (r.ne e' ea hm))
  · rcases List.mem_append.mp hm with hm | hm
    · have : m = p := by simpa using hm
      subst this
      exact (List.getElem?_eq_some_iff.mp eo).1
    · exact r.lko m hm
/-- .. and free again -/
theorem RH.unlockT {p : Nat} {a : Addr} {kvs : List (D × D)} {u : HO} {od : Obj} {μ2 : List Addr} {h2 : H} {H2 : Hp} (eo : h.o[p]? = some (.dT kvs)) (hl : h.lk.contains p = false) (r2 : RH (Y.sx X) μ2 h2 H2) (ea : μ2[p]? = some a) (pr : Pr (h.lock [p]) h2) (hf : H2 a = some (.frz od u)) (hu : ∀ ys, u ≠ .tup ys) :
    TT_ X.K H2 (upd H2 a u) ∧ RH (Y.sx X) μ2 (h2.unlock [p]) (upd H2 a u) := by
  have tt : TT_ X.K H2 (upd H2 a u) := fun b ys x => by
    rcases x with ⟨o, x, d⟩ | x
    · refine .inl ⟨o, ?_, d⟩
      rw [upd_ne (a := a) (b := b) (fun e => by subst e; rw [hf] at x; cases x; exact hu ys rfl)]
      exact x
    · exact .inr x
  have lk : (h2.unlock [p]).lk = h.lk := by
    show h2.lk.drop 1 = h.lk
    rw [pr.lk]
    rfl
  have hp : p < h.o.length := (List.getElem?_eq_some_iff.mp eo).1
  have eo2 : h2.o[p]? = some (.dT kvs) := by rw [pr.locked (by simp) hp]; exact eo
  refine ⟨tt, r2.len, r2.nd, fun m o b e e' => ?_, fun m hm => ?_⟩
  · replace e : h2.o[m]? = some o := e
    rw [lk]
    by_cases hm : m = p
    · subst hm
      rw [eo2] at e
      cases e
      rw [ea] at e'
      cases e'
      rw [hl]
      obtain ⟨xs, at_, q2, q3, q4, q5⟩ := r2.obj m _ a eo2 ea
      have c : h2.lk.contains m = true := by rw [pr.lk]; simp [H.lock]
      rw [c] at at_
      obtain ⟨o2, at_⟩ := at_
      rw [hf] at at_
      cases at_
      exact ⟨xs, upd_same, q2, q3, TR.monoT tt q4, q5⟩
    · have q := r2.obj m o b e e'
      have c : h2.lk.contains m = h.lk.contains m := by rw [pr.lk]; simp [H.lock, hm]
      rw [c] at q
      exact q.monoT tt (upd_ne (r2.ne e' ea hm))
  · have hm : m ∈ h.lk := by rw [← lk]; exact hm
    exact r2.lko m (by rw [pr.lk]; exact List.mem_append_right _ hm)
theorem it_items {a : Addr} {od : Obj} {xs : List (NestedKey × Addr × Value)} {vs : List (V × V)} {kvs : List (D × D)} (hf : Hh a = some (.frz od (.ext (rawD X.prog X.w a xs)))) (pr : PR X.K μ Hh kvs vs) :
    ItR Y X μ h Hh [] (kvs.map fun p => .tup [p.1, p.2]) true (Itx X.prog X.w a od xs vs) := by
  intro μ' h' H' i x r _
  have hf' := x.tup a od _ hf
  refine ⟨fun d hd => ?_, fun e => ⟨hf', by rw [← pr.length]; rw [List.length_map] at e; exact list_ix e⟩⟩
  rw [List.getElem?_map] at hd
  cases ek : kvs[i]? with
  | none => rw [ek] at hd; cases hd
  | some p =>
    rw [ek] at hd
    cases hd
    obtain ⟨q, hq, w1, w2⟩ := pr.get ek
    refine ⟨⟨hf', (List.getElem?_eq_some_iff.mp hq).1⟩, fun v H'' ⟨T, k, z, hz, ev, hT, eH⟩ => ?_⟩
    subst ev eH
    rw [hq] at hz
    cases hz
    exact pair_new r hT (.cons (VR.mono x _ _ w1) (.cons (VR.mono x _ _ w2) .nil))
theorem it_keys {a : Addr} {od : Obj} {xs : List (NestedKey × Addr × Value)} {vs : List (V × V)} {kvs : List (D × D)} (hf : Hh a = some (.frz od (.ext (rawD X.prog X.w a xs)))) (pr : PR X.K μ Hh kvs vs) :
    ItR Y X μ h Hh [] (kvs.map fun p => p.1) false (Itxk X.prog X.w a od xs vs) := by
  intro μ' h' H' i x r _
  have hf' := x.tup a od _ hf
  refine ⟨fun d hd => ?_, fun e => ⟨hf', by rw [← pr.length]; rw [List.length_map] at e; exact list_ix e⟩⟩
  rw [List.getElem?_map] at hd
  cases ek : kvs[i]? with
  | none => rw [ek] at hd; cases hd
  | some p =>
    rw [ek] at hd
    cases hd
    obtain ⟨q, hq, w1, w2⟩ := pr.get ek
    refine ⟨⟨hf', (List.getElem?_eq_some_iff.mp hq).1⟩, fun v H'' ⟨eH, z, hz⟩ => ?_⟩
    subst eH
    rw [hq] at hz
    cases hz
    exact ⟨Ext.refl, r, VR.mono x _ _ w1⟩
/-- the ends of a loop that a lock surrounds -/
theorem EndsOk.unlockT {o : Out} {D : Ends} {p : Nat} {a : Addr} {kvs : List (SC.D × SC.D)} {xs : List (NestedKey × Addr × Value)} {od : Obj} {H' : Hp} (r : RH (Y.sx X) μ h Hh) (eo : h.o[p]? = some (.dT kvs)) (ea : μ[p]? = some a) (hl : h.lk.contains p = false) (hu : Hh a = some (.ext (rawD X.prog X.w a xs)))
    (eH : H' = upd Hh a (.frz od (.ext (rawD X.prog X.w a xs)))) (pr : OPr (h.lock [p]) o) (q : EndsOk Y X (o.unlock [p]) D μ Hh) :
    EndsOk Y X o ⟨fun σ' H2 => H2 a = some (.frz od (.ext (rawD X.prog X.w a xs))) ∧ D.nx σ' (upd H2 a (.ext (rawD X.prog X.w a xs))), fun v H2 => H2 a = some (.frz od (.ext (rawD X.prog X.w a xs))) ∧ D.rt v (upd H2 a (.ext (rawD X.prog X.w a xs))),
      fun σ' H2 => H2 a = some (.frz od (.ext (rawD X.prog X.w a xs))) ∧ D.bk σ' (upd H2 a (.ext (rawD X.prog X.w a xs))), fun σ' H2 => H2 a = some (.frz od (.ext (rawD X.prog X.w a xs))) ∧ D.ct σ' (upd H2 a (.ext (rawD X.prog X.w a xs)))⟩ μ H' := by
  subst eH
  have key : ∀ {μ2 : List Addr} {H2 : Hp} {h2 : H}, Ext X.K μ (upd Hh a (.frz od (.ext (rawD X.prog X.w a xs)))) μ2 H2 → RH (Y.sx X) μ2 h2 H2 → Pr (h.lock [p]) h2 →
      H2 a = some (.frz od (.ext (rawD X.prog X.w a xs))) ∧ Ext X.K μ Hh μ2 (upd H2 a (.ext (rawD X.prog X.w a xs))) ∧ TT_ X.K H2 (upd H2 a (.ext (rawD X.prog X.w a xs))) ∧ RH (Y.sx X) μ2 (h2.unlock [p]) (upd H2 a (.ext (rawD X.prog X.w a xs))) := fun {μ2 H2 h2} x2 r2 p2 => by
    have hf := x2.tup a od _ upd_same
    have ⟨tt, rr⟩ := RH.unlockT eo hl r2 (pre_get x2.pre ea) p2 hf (by simp)
    refine ⟨hf, ⟨x2.pre, fun b o z e => ?_⟩, tt, rr⟩
    have hb : b ≠ a := fun z => by subst z; rw [hu] at e; cases e
    rw [upd_ne hb]
    exact x2.tup b o z (by rw [upd_ne hb]; exact e)
  cases o with
  | nx ρ h2 =>
    intro μ2 H2 σ2 x2 r2
    obtain ⟨k1, k2, k3, k4⟩ := key x2 r2.rh pr
    exact ⟨k1, q μ2 _ σ2 k2 ⟨k4, fun i d e => let ⟨v, e1, e2⟩ := r2.sl i d e; ⟨v, e1, VR.monoT k3 _ _ e2⟩, r2.ln⟩⟩
  | bk ρ h2 =>
    intro μ2 H2 σ2 x2 r2
    obtain ⟨k1, k2, k3, k4⟩ := key x2 r2.rh pr
    exact ⟨k1, q μ2 _ σ2 k2 ⟨k4, fun i d e => let ⟨v, e1, e2⟩ := r2.sl i d e; ⟨v, e1, VR.monoT k3 _ _ e2⟩, r2.ln⟩⟩
  | ct ρ h2 =>
    intro μ2 H2 σ2 x2 r2
    obtain ⟨k1, k2, k3, k4⟩ := key x2 r2.rh pr
    exact ⟨k1, q μ2 _ σ2 k2 ⟨k4, fun i d e => let ⟨v, e1, e2⟩ := r2.sl i d e; ⟨v, e1, VR.monoT k3 _ _ e2⟩, r2.ln⟩⟩
  | rt v h2 =>
    intro μ2 H2 x x2 r2 w2
    obtain ⟨k1, k2, k3, k4⟩ := key x2 r2 pr
    exact ⟨k1, q μ2 _ x k2 k4 (VR.monoT k3 _ _ w2)⟩
  | bad => exact q
theorem s_forI {tgE e : Expr} {tg : Tg} {body : List Stmt} {b : List S} {i : Nat} {apos cpos fpos tpos : Pos} {elts : List Expr} {kk : Nat} (hp : PassesOwn (model X.prog X.w) X.A X.env X.xe) (hc : X.calm = true) (he : PE X e (tD Y X n (.var i))) (hE : tgE = .Tuple elts kk tpos) (hg : tgOk X tgE tg) (hf : tg.fit true = true) (hb : PSs X body (tSs Y X n b))
    (hs : ∀ x, foldedSetIterable (.Call (.Attribute e "items" apos) [] [] cpos) X.env x = pure x) (hbase : noSup e = true) (hline : (apos.endLine == cpos.line) = true) :
    PS X (.For tgE (.Call (.Attribute e "items" apos) [] [] cpos) body [] fpos) (tS Y X n (.for_ .items tg [.var i] b)) := by
  have hi := pi_itemsX (elts := elts) (kk := kk) (tpos := tpos) (apos := apos) (cpos := cpos) he (base_of hbase) hline
  rw [← hE] at hi
  refine PS.imp (ps_lock (ps_for hp hc hi (pg_tg hc hg) hb hs)) fun D σ Hh ⟨μ, h, ρ, r, q⟩ => ?_
  simp only [exec, denL, den] at q
  cases ei : ρ[i]? with
  | none => rw [ei] at q; exact q.elim
  | some ov =>
    cases ov with
    | none => rw [ei] at q; exact q.elim
    | some v =>
      rw [ei] at q
      simp only [R.bind_ok] at q
      split at q
      · exact q.elim
      · rename_i l ys ew
        simp only [walkD] at ew
        split at ew
        · rename_i p eqp
          cases eqp
          split at ew
          · cases ew
          · rename_i hl
            have hl : h.lk.contains p = false := by simpa using hl
            split at ew
            · rename_i kvs eo
              cases ew
              obtain ⟨w, ew1, ew2⟩ := r.sl i _ ei
              cases ew2 with
              | @ref _ a ea =>
                obtain ⟨xs, at_, hsys, hz, tr, nd⟩ := r.rh.obj p _ a eo ea
                rw [hl] at at_
                have at_ : Hh a = some (.ext (rawD X.prog X.w a xs)) := at_
                refine ⟨a, _, at_, True.intro, fun od => ?_⟩
                obtain ⟨ext, rl⟩ := r.rh.lockT eo ea hl at_ od
                have rs := r.mono ext rl
                refine tD.of rs (v := .ref p) (h1 := h.lock [p]) (by simp only [den]; rw [ei]) fun μ1 H1 x x1 r1 w1 => ?_
                cases w1 with
                | @ref _ a' ea' =>
                  have : a' = a := by
                    have := pre_get x1.pre ea
                    rw [ea'] at this
                    exact Option.some.inj this
                  subst this
                  have hf1 := x1.tup a' od _ upd_same
                  obtain ⟨vs, xr, pr⟩ := PR.of (tr.mono (X := Y.sx X) (ext.trans x1))
                  refine ⟨a', od, xs, vs, rfl, hsys, hf1, xr, ?_⟩
                  have q2 := EndsOk.unlockT (od := od) r.rh eo ea hl at_ rfl (forGo_pr (tg := tg) (fun σ h => execs_pr (Phi_pr Y.fd n) b σ h) _ ρ (h.lock [p])) q
                  exact for_core (l := []) (h1 := h.lock [p]) hf (it_items hf1 pr) (rs.mono x1 r1) (EndsOk.mono q2 x1)
            · cases ew
        · cases ew
theorem s_forK {tgE e : Expr} {tg : Tg} {body : List Stmt} {b : List S} {i : Nat} {fpos : Pos} (hp : PassesOwn (model X.prog X.w) X.A X.env X.xe) (hc : X.calm = true) (he : PE X e (tD Y X n (.var i))) (hg : tgOk X tgE tg) (hf : tg.fit false = true) (hb : PSs X body (tSs Y X n b))
    (hs : ∀ x, foldedSetIterable e X.env x = pure x) :
    PS X (.For tgE e body [] fpos) (tS Y X n (.for_ .keys tg [.var i] b)) := by
  refine PS.imp (ps_lock (ps_for hp hc (pi_keysX he) (pg_tg hc hg) hb hs)) fun D σ Hh ⟨μ, h, ρ, r, q⟩ => ?_
  simp only [exec, denL, den] at q
  cases ei : ρ[i]? with
  | none => rw [ei] at q; exact q.elim
  | some ov =>
    cases ov with
    | none => rw [ei] at q; exact q.elim
    | some v =>
      rw [ei] at q
      simp only [R.bind_ok] at q
      split at q
      · exact q.elim
      · rename_i l ys ew
        simp only [walkD] at ew
        split at ew
        · rename_i p eqp
          cases eqp
          split at ew
          · cases ew
          · rename_i hl
            have hl : h.lk.contains p = false := by simpa using hl
            split at ew
            · rename_i kvs eo
              cases ew
              obtain ⟨w, ew1, ew2⟩ := r.sl i _ ei
              cases ew2 with
              | @ref _ a ea =>
                obtain ⟨xs, at_, hsys, hz, tr, nd⟩ := r.rh.obj p _ a eo ea
                rw [hl] at at_
                have at_ : Hh a = some (.ext (rawD X.prog X.w a xs)) := at_
                refine ⟨a, _, at_, True.intro, fun od => ?_⟩
                obtain ⟨ext, rl⟩ := r.rh.lockT eo ea hl at_ od
                have rs := r.mono ext rl
                refine tD.of rs (v := .ref p) (h1 := h.lock [p]) (by simp only [den]; rw [ei]) fun μ1 H1 x x1 r1 w1 => ?_
                cases w1 with
                | @ref _ a' ea' =>
                  have : a' = a := by
                    have := pre_get x1.pre ea
                    rw [ea'] at this
                    exact Option.some.inj this
                  subst this
                  have hf1 := x1.tup a' od _ upd_same
                  obtain ⟨vs, xr, pr⟩ := PR.of (tr.mono (X := Y.sx X) (ext.trans x1))
                  refine ⟨a', od, xs, vs, rfl, hsys, hf1, xr, ?_⟩
                  have q2 := EndsOk.unlockT (od := od) r.rh eo ea hl at_ rfl (forGo_pr (tg := tg) (fun σ h => execs_pr (Phi_pr Y.fd n) b σ h) _ ρ (h.lock [p])) q
                  exact for_core (l := []) (h1 := h.lock [p]) hf (it_keys hf1 pr) (rs.mono x1 r1) (EndsOk.mono q2 x1)
            · cases ew
        · cases ew
end
end SC
end
end
section
set_option linter.all false
set_option maxRecDepth 100000
set_option Elab.async false
/-! SC21: what is asked of the text. -/
noncomputable section
namespace SC
open PySem L2
theorem plainIx_of {b : Expr} (h : notSlice b = true) : PlainIx b := by
  intro o i
  cases b <;> first | rfl | (simp [notSlice] at h)
def notSet : Expr → Bool
  | .Set .. => false
  | _ => true
theorem folded_of {e : Expr} {env : PySem.Env} (h : notSet e = true) (x : Value) : foldedSetIterable e env x = pure x := by
  cases e <;> first | rfl | (simp [notSet] at h)
theorem behind_of {op : CmpOp} {e : Expr} (h : notSet e = true) : behindInMarks op e = false := by
  cases e <;> first | rfl | (simp [notSet] at h)
/-- an expression that is no test of its own kind -/
def plainTest : Expr → Bool
  | .UnaryOp .Not _ _ => false
  | .BoolOp .. => false
  | .IfExp .. => false
  | .Compare .. => false
  | _ => true
theorem isTrue_of {e : Expr} {env : PySem.Env} (h : plainTest e = true) (whole : Sem Value) : isTrue e env whole = (do let v ← whole; standAt e.pos; holding [v] (truthy v)) := by
  cases e with
  | UnaryOp op x p => cases op <;> first | rfl | (simp [plainTest] at h)
  | BoolOp => simp [plainTest] at h
  | IfExp => simp [plainTest] at h
  | Compare => simp [plainTest] at h
  | _ => rfl
theorem meth_ht {o : Expr} {x : Str} {apos pos : Pos} {es : List Expr} {env : PySem.Env} (hb : noSup o = true) (hs : es.all noStar = true) (hl : es.length < 30) (hp : (apos.endLine == pos.line) = true) :
    eval (.Call (.Attribute o x apos) es [] pos) env = (do
      let ov ← eval o env
      standAt apos.atName
      let (f, first) ← holding [ov] (getMethod ov x (do return (← importBound o env).getD true))
      callWith pos f first (backTo pos (starEach es env)) (backToKw pos (keywordEach [] env))) := by
  rw [arm_eval_Call, base_of hb]
  have few : methodCallForm (es.length + ([] : List Keyword).length) (backTo pos (starEach es env)) (backToKw pos (keywordEach [] env)) = true := by
    unfold methodCallForm
    rw [starEach_all hs]
    simp [keywordEach, backToKw]
    exact hl
  unfold methodCall
  rw [few]
  simp only [calleeOf, if_true, methodCallPos, hp, Bool.not_true, Bool.false_or]
  rfl
/-! ### the stores that the compiler swaps -/
def compScope : Expr → Option Scope
  | .ListComp _ _ s _ => some s
  | .SetComp _ _ s _ => some s
  | .DictComp _ _ _ s _ => some s
  | _ => none
def swB (sc : List (Str × NameKind)) (value t : Expr) : Bool := match compScope value, t with
  | some s, .Name x p => (sc.lookup x == some .local) && (p.line == value.pos.line) && !(s.names.any fun (n, k) => n == x && (k == .local || k == .cell))
  | _, _ => false
theorem sw_of {env : PySem.Env} {sc : List (Str × NameKind)} (hk : env.scope.kind = .function) (hs : env.scope.names = sc) {value t : Expr} {line : Nat} : swapsWith value (some t) line env = pure (swB sc value t) := by
  have hb : env.blockKind = .function := by unfold Env.blockKind; rw [hk]; rfl
  have none_ : ∀ {v : Expr}, compScope v = none → swapsWith v (some t) line env = pure (swB sc v t) := fun {v} e => by
    cases v <;> first | (simp [compScope] at e; done) | rfl
  have some_ : ∀ {v : Expr} {s : Scope}, compScope v = some s → swapsWith v (some t) line env = pure (swB sc v t) := fun {v s} e => by
    cases v <;> first | (simp [compScope] at e; done) | skip
    all_goals
      cases t <;> first | rfl | skip
      simp only [swapsWith, swB, compScope, hb, Env.kindOf, hs]
      rfl
  cases e : compScope value with
  | none => exact none_ e
  | some s => exact some_ e
theorem sw_none {env : PySem.Env} {value : Expr} {line : Nat} (h : compScope value = none) : swapsWith value none line env = pure false := by
  cases value <;> first | (simp [compScope] at h; done) | rfl
def isStarred : Expr → Bool
  | .Starred .. => true
  | _ => false
def ssNames (sc : List (Str × NameKind)) (ts : List Expr) : List Str := ts.filterMap fun
  | .Name id pos => if sc.lookup id == some .local && pos.line == (ts.head?.map (·.pos.line)).getD 0 then some id else none
  | _ => none
def ssT (sc : List (Str × NameKind)) (ts vs : List Expr) : Option (Option (List Str)) :=
  if (!(ts.length == 2 || ts.length == 3) || vs.length != ts.length) = true then some none
  else if vs.any isStarred = true then some none
  else if ((ssNames sc ts).length != ts.length || (ssNames sc ts).eraseDups.length != (ssNames sc ts).length) = true then some none
  else if vs.all (foldedForSure 8) = true then some none
  else if vs.all (constantsAlone 8) = true then none
  else some (some (ssNames sc ts))
def ssB (sc : List (Str × NameKind)) (t value : Expr) : Option (Option (List Str)) := match t, value with
  | .Tuple ts _ _, .Tuple vs _ _ => ssT sc ts vs
  | .List .., _ => none
  | _, _ => some none
theorem ss_tup {env : PySem.Env} {sc : List (Str × NameKind)} (hk : env.scope.kind = .function) (hs : env.scope.names = sc) {ts vs : List Expr} {k1 k2 : Nat} {p1 p2 : Pos} {r : Option (List Str)} (h : ssT sc ts vs = some r) : swappedStores [.Tuple ts k1 p1] (.Tuple vs k2 p2) env = pure r := by
  have hb : (env.blockKind != .function) = false := by
    have : env.blockKind = .function := by unfold Env.blockKind; rw [hk]; rfl
    rw [this]; rfl
  subst hs
  have e : swappedStores [.Tuple ts k1 p1] (.Tuple vs k2 p2) env = (if (!(ts.length == 2 || ts.length == 3) || vs.length != ts.length || env.blockKind != .function) = true then pure none
    else if vs.any isStarred = true then pure none
    else if ((ssNames env.scope.names ts).length != ts.length || (ssNames env.scope.names ts).eraseDups.length != (ssNames env.scope.names ts).length) = true then pure none
    else if vs.all (foldedForSure 8) = true then pure none
    else if vs.all (constantsAlone 8) = true then (do let _ ← (unsupported "assign.tuple-of-constant-expressions:order-of-the-stores" : Sem PUnit); pure (some (ssNames env.scope.names ts)))
    else pure (some (ssNames env.scope.names ts))) := by rfl
  rw [e, hb, Bool.or_false]
  unfold ssT at h
  split at h
  · rename_i c; cases h; rw [if_pos c]
  · rename_i c
    rw [if_neg c]
    split at h
    · rename_i c; cases h; rw [if_pos c]
    · rename_i c
      rw [if_neg c]
      split at h
      · rename_i c; cases h; rw [if_pos c]
      · rename_i c
        rw [if_neg c]
        split at h
        · rename_i c; cases h; rw [if_pos c]
        · rename_i c
          rw [if_neg c]
          split at h
          · cases h
          · rename_i c; cases h; rw [if_neg c]
theorem ss_of {env : PySem.Env} {sc : List (Str × NameKind)} (hk : env.scope.kind = .function) (hs : env.scope.names = sc) {t value : Expr} {r : Option (List Str)} (h : ssB sc t value = some r) : swappedStores [t] value env = pure r := by
  cases t with
  | Tuple ts k p =>
    cases value with
    | Tuple vs k2 p2 => exact ss_tup hk hs h
    | _ => cases h; rfl
  | List => cases h
  | _ => cases h; rfl
end SC
end
end
section
set_option linter.all false
set_option maxRecDepth 100000
set_option Elab.async false
/-! SC22: the text checked against the IR (expressions). -/
noncomputable section
namespace SC
open PySem L2
/-- the tables of a law: what a global name is -/
structure Fc where
  fs : List (Str × Nat)
  cl : List (Str × Nat)
  dfl : Nat → List E
  kw : List (Str × Nat × Nat × Str)
  gl : List (Str × Nat)
  bl : List Str
  ms : List (Str × Nat)
  fld : List Str
/-- a block: its slots, its names -/
structure Ck where
  N : List Str
  sc : List (Str × NameKind)
  fn : List Str
def visB (sc : List (Str × NameKind)) (x : Str) : Bool := match sc.lookup x with
  | some .local => true | some .cell => true | some .free => true | _ => false
def glB (sc : List (Str × NameKind)) (x : Str) : Bool := match sc.lookup x with
  | some .globalImplicit => true | _ => false
def nameB (x : Str) : Bool := !(x == ("__debug__" : Str)) && !(x == ("__classdict__" : Str)) && decide (x ≠ "__name__")
def locB (Γ : Ck) (x : Str) : Bool := match Γ.sc.lookup x with
  | some .local => true
  | some .cell => decide (x ∈ Γ.fn)
  | _ => false
def nmB (Γ : Ck) (x : Str) (i : Nat) : Bool := decide (Γ.N[i]? = some x) && locB Γ x
def nmsB (Γ : Ck) : List Expr → List Nat → Bool
  | [], [] => true
  | .Name x _ :: es, i :: l => nmB Γ x i && nmsB Γ es l
  | _, _ => false
def tgB (Γ : Ck) : Expr → Tg → Bool
  | .Name x _, .n i => nmB Γ x i
  | .Tuple es _ _, .t l => nmsB Γ es l
  | _, _ => false
def ownNs : List Expr → List Nat → List (Str × Nat)
  | .Name x _ :: es, i :: l => (x, i) :: ownNs es l
  | _, _ => []
def ownOf : Expr → Tg → List (Str × Nat)
  | .Name x _, .n i => [(x, i)]
  | .Tuple es _ _, .t l => ownNs es l
  | _, _ => []
def relN (names sc : List (Str × NameKind)) : List (Str × NameKind) := names.map fun (n, k) => if (k == .free && sc.lookup n == some .cell) then (n, .cell) else (n, k)
def Ck.inner (Γ : Ck) (scope : Scope) : Ck := ⟨Γ.N, relN scope.names Γ.sc, (scope.names.filter fun p => scope.names.lookup p.1 == some .cell).map (·.1)⟩
def strip : Expr → Expr
  | .BoolOp _ [a] _ => a
  | e => e
def isBin : B2 → Operator → Bool
  | .add, .Add => true | .sub, .Sub => true | .mul, .Mult => true | .mod, .Mod => true | .fdiv, .FloorDiv => true | _, _ => false
def isCmp : B2 → CmpOp → Bool
  | .eq, .Eq => true | .ne, .NotEq => true | .lt, .Lt => true | .le, .LtE => true | .gt, .Gt => true | .ge, .GtE => true
  | .in_, .In => true | .nin, .NotIn => true | .is_, .Is => true | .isn, .IsNot => true | _, _ => false
def biN : Bi → Str
  | .len => "len" | .all => "all" | .any => "any" | .tuple => "tuple" | .list => "list" | .sorted => "sorted" | .int => "int" | .sum => "sum"
def bmN : Bm → Str
  | .append => "append" | .pop0 => "pop" | .index => "index"
def tyN : Ty → Str
  | .int => "int" | .bool => "bool" | .str => "str" | .tuple => "tuple" | _ => ""
def tyB (F : Fc) (Γ : Ck) : Ty → Expr → Bool
  | .lt, .Tuple [.Name a _, .Name b _] _ _ => decide (a = "list") && decide (b = "tuple") && glB Γ.sc "list" && glB Γ.sc "tuple" && decide (("list" : Str) ∈ F.bl) && decide (("tuple" : Str) ∈ F.bl)
  | .cls k, .Name x _ => decide (F.cl.lookup x = some k) && glB Γ.sc x && nameB x
  | .lt, _ => false
  | .cls _, _ => false
  | t, .Name x _ => decide (x = tyN t) && glB Γ.sc x && decide (x ∈ F.bl)
  | _, _ => false
def litEq : E → E → Bool
  | .cN, .cN => true
  | .cB a, .cB b => a == b
  | .cI a, .cI b => decide (a = b)
  | .cS a, .cS b => decide (a = b)
  | .tup [], .tup [] => true
  | .tup [.cI a], .tup [.cI b] => decide (a = b)
  | _, _ => false
def litEqs : List E → List E → Bool
  | [], [] => true
  | a :: r, b :: s => litEq a b && litEqs r s
  | _, _ => false
def bltB (F : Fc) (Γ : Ck) (x : Str) : Bool := glB Γ.sc x && decide (x ∈ F.bl)
mutual
/-- as a test: every kind but the conditional expression -/
def tstB : Expr → Bool
  | .IfExp .. => false
  | .UnaryOp .Not a _ => tstB a
  | .BoolOp _ vs _ => tstBs vs
  | _ => true
def tstBs : List Expr → Bool
  | [] => true
  | a :: r => tstB a && tstBs r
end
/-- the block of a comprehension -/
def blkB (Γ : Ck) (scope : Scope) (tgE : Expr) (tg : Tg) : Bool :=
  blkC Γ.N { scope with names := Γ.sc } scope (ownOf tgE tg) && tgB (Γ.inner scope) tgE tg && decide ((ownOf tgE tg).map (·.2) = tg.slots)
mutual
def chkE (F : Fc) : E → Ck → Expr → Bool
  | .var i, Γ, e => (match strip e with
    | .Name x _ => decide (Γ.N[i]? = some x) && visB Γ.sc x && nameB x
    | _ => false)
  | .cN, _, e => (match strip e with | .Constant .none _ _ => true | _ => false)
  | .cB b, _, e => (match strip e with | .Constant (.bool c) _ _ => decide (b = c) | _ => false)
  | .cI b, _, e => (match strip e with | .Constant (.int c) _ _ => decide (b = c) | _ => false)
  | .cS b, _, e => (match strip e with | .Constant (.str c) _ _ => decide (b = c) | _ => false)
  | .glb k, Γ, e => (match strip e with
    | .Name x _ => glB Γ.sc x && decide (F.gl.lookup x = some k) && nameB x
    | _ => false)
  | .op2 o a b, Γ, e => (match strip e with
    | .BinOp x op y _ => isBin o op && chkE F a Γ x && chkE F b Γ y
    | .Compare x [op] [y] _ => isCmp o op && notSet y && chkE F a Γ x && chkE F b Γ y
    | _ => false)
  | .neg a, Γ, e => (match strip e with | .UnaryOp .USub x _ => chkE F a Γ x | _ => false)
  | .sub a i, Γ, e => (match strip e with | .Subscript x y _ => notSlice y && chkE F a Γ x && chkE F i Γ y | _ => false)
  | .not_ a, Γ, e => (match strip e with | .UnaryOp .Not x _ => chkE F a Γ x | _ => false)
  | .and_ a b, Γ, e => (match strip e with | .BoolOp .And (x :: y :: r) p => chkE F a Γ x && chkE F b Γ (.BoolOp .And (y :: r) p) | _ => false)
  | .or_ a b, Γ, e => (match strip e with | .BoolOp .Or (x :: y :: r) p => chkE F a Γ x && chkE F b Γ (.BoolOp .Or (y :: r) p) | _ => false)
  | .ite c a b, Γ, e => (match strip e with | .IfExp z x y _ => tstB z && chkE F c Γ z && chkE F a Γ x && chkE F b Γ y | _ => false)
  | .chain o1 o2 a b c, Γ, e => (match strip e with
    | .Compare x [p, q] [y, z] _ => isCmp o1 p && isCmp o2 q && notSet z && chkE F a Γ x && chkE F b Γ y && chkE F c Γ z
    | _ => false)
  | .call j as, Γ, e => (match strip e with
    | .Call (.Name x _) es [] _ => glB Γ.sc x && nameB x && decide (F.fs.lookup x = some j) && es.all noStar && chkL F as Γ es
    | _ => false)
  | .make c as, Γ, e => (match strip e with
    | .Call (.Name x _) es [] _ => glB Γ.sc x && nameB x && decide (F.cl.lookup x = some c) && es.all noStar && chkD F as Γ es (F.dfl c)
    | .Call (.Name x _) (e1 :: es) [⟨some kw, v, _⟩] _ => glB Γ.sc x && nameB x && decide (F.kw.lookup x = some (c, (e1 :: es).length, kw)) && (e1 :: es).all noStar && chkK F as Γ (e1 :: es) v
    | _ => false)
  | .meth m o as, Γ, e => (match strip e with
    | .Call (.Attribute x nm ap) es [] p => decide (F.ms.lookup nm = some m) && noSup x && es.all noStar && decide (es.length < 30) && (ap.endLine == p.line) && chkE F o Γ x && chkL F as Γ es
    | _ => false)
  | .lenI o, Γ, e => (match strip e with
    | .Call (.Name x _) [y] [] _ => decide (x = "len") && bltB F Γ "len" && noStar y && chkE F o Γ y
    | _ => false)
  | .fld o f, Γ, e => (match strip e with
    | .Attribute x nm _ => decide (F.ms.lookup nm = some f) && decide (nm ∈ F.fld) && noSup x && chkE F o Γ x
    | _ => false)
  | .blt b a, Γ, e => (match strip e with
    | .Call (.Name x _) [y] [] _ => decide (x = biN b) && bltB F Γ (biN b) && noStar y && chkE F a Γ y
    | _ => false)
  | .bm b o as, Γ, e => (match strip e with
    | .Call (.Attribute x nm ap) (e1 :: es) [] p => decide (nm = bmN b) && noSup x && (e1 :: es).all noStar && decide ((e1 :: es).length < 30) && (ap.endLine == p.line) && chkE F o Γ x && chkL F as Γ (e1 :: es)
    | _ => false)
  | .isi a t, Γ, e => (match strip e with
    | .Call (.Name x _) [y, z] [] _ => decide (x = "isinstance") && bltB F Γ "isinstance" && noStar y && tyB F Γ t z && chkE F a Γ y
    | _ => false)
  | .slice a lo hi, Γ, e => (match strip e with
    | .Subscript x (.Slice l u none _) _ => chkE F a Γ x && chkO F lo Γ l && chkO F hi Γ u
    | _ => false)
  | .tup es, Γ, e => (match strip e with | .Tuple xs _ _ => chkL F es Γ xs | _ => false)
  | .lst es, Γ, e => (match strip e with | .List xs _ => chkL F es Γ xs | _ => false)
  | .star _, _, _ => false
  | .dnewK, _, e => (match strip e with | .Dict [] [] _ => true | _ => false)
  | .dnewT, _, e => (match strip e with | .Dict [] [] _ => true | _ => false)
  | .dict1 k v, Γ, e => (match strip e with | .Dict [some x] [y] _ => chkE F k Γ x && chkE F v Γ y | _ => false)
  | .lc k tg its ifs elt, Γ, e => (match strip e with
    | .ListComp x [⟨tgE, iter, is, 0⟩] scope _ => blkB Γ scope tgE tg && tg.fit k.pr && notSet iter && chkW F its k Γ tgE iter && chkI F ifs (Γ.inner scope) is && chkE F elt (Γ.inner scope) x
    | _ => false)
  | .dc tg it kk vv, Γ, e => (match strip e with
    | .DictComp x y [⟨tgE, iter, [], 0⟩] scope _ => blkB Γ scope tgE tg && tg.fit false && notSet iter && !it.isStar && chkE F it Γ iter && chkE F kk (Γ.inner scope) x && chkE F vv (Γ.inner scope) y
    | _ => false)
  | .tmp a, Γ, e => chkE F a Γ e
def chkL (F : Fc) : List E → Ck → List Expr → Bool
  | [], _, [] => true
  | .star a :: cs, Γ, .Starred x _ :: es => chkE F a Γ x && chkL F cs Γ es
  | c :: cs, Γ, x :: es => noStar x && !c.isStar && chkE F c Γ x && chkL F cs Γ es
  | _, _, _ => false
def chkD (F : Fc) : List E → Ck → List Expr → List E → Bool
  | [], _, [], [] => true
  | c :: cs, Γ, x :: es, d => noStar x && !c.isStar && chkE F c Γ x && chkD F cs Γ es d
  | c :: cs, _, [], d => litEqs (c :: cs) d
  | _, _, _, _ => false
def chkK (F : Fc) : List E → Ck → List Expr → Expr → Bool
  | [c], Γ, [], v => !c.isStar && chkE F c Γ v
  | c :: cs, Γ, x :: es, v => noStar x && !c.isStar && chkE F c Γ x && chkK F cs Γ es v
  | _, _, _, _ => false
def chkO (F : Fc) : Option E → Ck → Option Expr → Bool
  | none, _, none => true
  | some c, Γ, some e => chkE F c Γ e
  | _, _, _ => false
def chkI (F : Fc) : List E → Ck → List Expr → Bool
  | [], _, [] => true
  | [c], Γ, [x] => tstB x && chkE F c Γ x
  | _, _, _ => false
def chkW (F : Fc) : List E → Ik → Ck → Expr → Expr → Bool
  | [c], k, Γ, tgE, iter => !c.isStar && (match k with
    | .seq => chkE F c Γ iter
    | .range => (match iter with | .Call (.Name x _) [a] [] _ => decide (x = "range") && bltB F Γ "range" && noStar a && chkE F c Γ a | _ => false)
    | .enum => (match tgE, iter with | .Tuple .., .Call (.Name x _) [a] [] _ => decide (x = "enumerate") && bltB F Γ "enumerate" && noStar a && chkE F c Γ a | _, _ => false)
    | _ => false)
  | [c, d], k, Γ, tgE, iter => !c.isStar && !d.isStar && (match k with
    | .range => (match iter with | .Call (.Name x _) [a, b] [] _ => decide (x = "range") && bltB F Γ "range" && noStar a && noStar b && chkE F c Γ a && chkE F d Γ b | _ => false)
    | .zip => (match tgE, iter with | .Tuple .., .Call (.Name x _) [a, b] [] _ => decide (x = "zip") && bltB F Γ "zip" && noStar a && noStar b && chkE F c Γ a && chkE F d Γ b | _, _ => false)
    | _ => false)
  | _, _, _, _, _ => false
end
end SC
end
end
section
set_option linter.all false
set_option maxRecDepth 100000
set_option Elab.async false
/-! SC23: the check is sound (expressions). -/
noncomputable section
namespace SC
open PySem L2
structure Fa (Y : Lw) (X : Cx) (n : Nat) (F : Fc) : Prop where
  calm : X.calm = true
  hu : X.A.units + 70 < cLine
  fs : ∀ x j, F.fs.lookup x = some j → ∃ f, X.mg x = some (.ref f) ∧ FnT Y X n j f [] 0
  cl : ∀ x c, F.cl.lookup x = some c → ∃ C, X.mg x = some (.ref C) ∧ Y.cls c = some C
  mkc : ∀ x c, F.cl.lookup x = some c → ∀ C, X.mg x = some (.ref C) → ∃ dvs dd, MkT Y X n c C dvs ∧ (∀ ρ h, denL Y.T (Y.Φ n) (F.dfl c) ρ h = .ok dd h) ∧ ∀ μ Hh, VRs X.K μ Hh dd dvs
  kw : ∀ x c m kw, F.kw.lookup x = some (c, m, kw) → ∃ C, X.mg x = some (.ref C) ∧ MkW Y X n c C m kw
  gl : ∀ x k, F.gl.lookup x = some k → GlbOk Y X x k
  bl : ∀ x ∈ F.bl, X.mg x = none
  ok : ClsOk Y X
  ic : ∀ c C, Y.cls c = some C → IsC Y X.K c C
  nm : ∀ x m, F.ms.lookup x = some m → Y.names[m]? = some x
  na : ∀ x ∈ F.fld, ∀ c C, Y.cls c = some C → NoAttr X.K C x
  mt : ∀ x m, F.ms.lookup x = some m → MethT Y X n m x
  ln : LenT Y X n
structure CkOk (X : Cx) (Γ : Ck) : Prop where
  N : X.N = Γ.N
  nd : X.N.Nodup
  sc : X.env.scope.names = Γ.sc
  kind : X.env.scope.kind = .function
  fn : ∀ x ∈ Γ.fn, X.fn x = true
section
variable {Y : Lw} {X : Cx} {n : Nat} {F : Fc} {Γ : Ck}
theorem Fa.blk (a : Fa Y X n F) (s : Shared) (H : Hp) (scope : Scope) (ce : PySem.Env) (fp : List Addr) : Fa Y (X.blk s H scope ce fp) n F := by
  have fn : ∀ {j : Nat} {f : Addr} {dvs : List V} {up : Nat}, FnT Y X n j f dvs up → FnT Y (X.blk s H scope ce fp) n j f dvs up := fun t => ⟨t.ex⟩
  refine ⟨a.calm, a.hu, fun x j e => ?_, a.cl, fun x c e C hC => ?_, fun x c m kw e => ?_, fun x k e => ⟨(a.gl x k e).is⟩, a.bl, ⟨a.ok.nd, a.ok.cl⟩, a.ic, a.nm, a.na, fun x m e => ?_, ⟨a.ln.at_⟩⟩
  · obtain ⟨f, h1, h2⟩ := a.fs x j e
    exact ⟨f, h1, fn h2⟩
  · obtain ⟨dvs, dd, M, h1, h2⟩ := a.mkc x c e C hC
    refine ⟨dvs, dd, ⟨M.cls, ?_⟩, h1, h2⟩
    obtain ⟨j, f, e1, e2, e3⟩ := M.ex
    exact ⟨j, f, e1, e2, fn e3⟩
  · obtain ⟨C, h1, M⟩ := a.kw x c m kw e
    exact ⟨C, h1, ⟨M.cls, M.ex⟩⟩
  · have M := a.mt x m e
    refine ⟨M.nm, M.nd, fun c j h => ?_⟩
    obtain ⟨C, f, e1, e2, e3, e4⟩ := M.at_ c j h
    exact ⟨C, f, e1, e2, e3, fn e4⟩
theorem relS_names {scope sc : Scope} (hk : sc.kind = .function) : (relS scope sc).names = relN scope.names sc.names := by
  unfold relS relN
  have e : (ScopeKind.function == ScopeKind.function) = true := rfl
  simp only [hk, e, Bool.and_true]
theorem CkOk.blk (k : CkOk X Γ) {scope : Scope} (hk : scope.kind = .function) (s : Shared) (H : Hp) (C : Addr) (cl : List (Str × Addr)) (fp : List Addr) : CkOk (X.blk s H scope (compEnvC scope cl C X.env) fp) (Γ.inner scope) := by
  refine ⟨k.N, k.nd, ?_, ?_, fun x hx => ?_⟩
  · show (relS scope X.env.scope).names = _
    rw [relS_names k.kind, k.sc]
    rfl
  · exact hk
  · simp only [Ck.inner, List.mem_map, List.mem_filter] at hx
    obtain ⟨p, ⟨_, hp⟩, rfl⟩ := hx
    exact hp
theorem vis_of (k : CkOk X Γ) {x : Str} (h : visB Γ.sc x = true) : Vis X.env.scope x := by
  unfold visB at h
  unfold Vis
  rw [k.sc]
  split at h <;> first | (rename_i e; simp only [e]; simp; done) | cases h
theorem gl_of (k : CkOk X Γ) {x : Str} (h : glB Γ.sc x = true) : Gl X x := by
  unfold glB at h
  unfold Gl Env.kindOf
  rw [k.sc]
  split at h
  · assumption
  · cases h
theorem name_of {x : Str} (h : nameB x = true) : (x == ("__debug__" : Str)) = false ∧ (x == ("__classdict__" : Str)) = false ∧ x ≠ "__name__" := by
  unfold nameB at h
  simp only [Bool.and_eq_true, Bool.not_eq_true', decide_eq_true_eq] at h
  exact ⟨h.1.1, h.1.2, h.2⟩
theorem nm_of (k : CkOk X Γ) {x : Str} {i : Nat} (h : nmB Γ x i = true) : NmOk X x i := by
  unfold nmB at h
  simp only [Bool.and_eq_true, decide_eq_true_eq] at h
  unfold locB at h
  refine ⟨k.nd, by rw [k.N]; exact h.1, ?_, ?_⟩
  · unfold L2.Loc
    rw [k.sc]
    have := h.2
    split at this <;> first | (rename_i e; simp only [e]; simp; done) | cases this
  · rw [k.sc]
    have := h.2
    split at this
    · rename_i e; exact .inr e
    · exact .inl (k.fn x (by simpa using this))
    · cases this
theorem nms_of (k : CkOk X Γ) : ∀ {es : List Expr} {l : List Nat}, nmsB Γ es l = true → nmsOk X es l
  | [], [], _ => trivial
  | e :: es, i :: l, h => by
    cases e with
    | Name x p =>
      simp only [nmsB, Bool.and_eq_true] at h
      exact ⟨nm_of k h.1, nms_of k h.2⟩
    | _ => simp [nmsB] at h
  | [], _ :: _, h => by simp [nmsB] at h
  | e :: es, [], h => by cases e <;> simp [nmsB] at h
theorem tg_of (k : CkOk X Γ) {e : Expr} {tg : Tg} (h : tgB Γ e tg = true) : tgOk X e tg := by
  cases tg with
  | n i =>
    cases e with
    | Name x p => exact nm_of k h
    | _ => simp [tgB] at h
  | t l =>
    cases e with
    | Tuple es kk p => exact nms_of k h
    | _ => simp [tgB] at h
theorem bin_ok {o : B2} {op : Operator} (h : isBin o op = true) : Op2R Y X (binaryOp op) (op2 o) := by
  cases o <;> cases op <;> first | (simp [isBin] at h; done) | exact o_add | exact o_sub | exact o_mul | exact o_mod | exact o_fdiv
theorem cmp_ok (hu : X.A.units + 70 < cLine) {o : B2} {op : CmpOp} (h : isCmp o op = true) : Op2R Y X (compareOp op) (op2 o) := by
  cases o <;> cases op <;> first | (simp [isCmp] at h; done) | exact o_eq (by omega) | exact o_ne (by omega) | exact o_lt | exact o_le | exact o_gt | exact o_ge | exact o_in hu | exact o_nin hu | exact o_is | exact o_isn
theorem litEq_of {a b : E} (h : litEq a b = true) : a = b := by
  unfold litEq at h
  split at h <;> first | rfl | (simp only [decide_eq_true_eq, beq_iff_eq] at h; subst h; rfl) | cases h
theorem litEqs_of : ∀ {a b : List E}, litEqs a b = true → a = b
  | [], [], _ => rfl
  | a :: r, b :: s, h => by
    simp only [litEqs, Bool.and_eq_true] at h
    rw [litEq_of h.1, litEqs_of h.2]
  | [], _ :: _, h => by simp [litEqs] at h
  | _ :: _, [], h => by simp [litEqs] at h
theorem blk_of (k : CkOk X Γ) {scope : Scope} {tgE : Expr} {tg : Tg} (hc : X.calm = true) (h : blkB Γ scope tgE tg = true) : BodyOk Y X n scope (ownOf tgE tg) tgE tg ∧ scope.kind = .function := by
  unfold blkB at h
  simp only [Bool.and_eq_true, decide_eq_true_eq] at h
  have B := blkOk_by h.1.1
  have B' : BlkOk X.N X.env.scope scope (ownOf tgE tg) := by
    rw [k.N]
    refine ⟨B.kind, B.uniq, B.ix, fun y hy e => ?_, B.own⟩
    have := B.free y hy e
    rw [k.sc]
    exact this
  exact ⟨⟨hc, k.nd, B', ⟨fun i hi => by rw [← h.2]; exact hi, fun i hi => by rw [h.2]; exact hi⟩, fun s H C cl fp => tg_of (k.blk B.kind s H C cl fp) h.1.2⟩, B.kind⟩
/-! ### what is proved of an expression -/
structure Snd (Y : Lw) (X : Cx) (n : Nat) (e : Expr) (c : E) : Prop where
  pe : PE X e (tD Y X n c)
  pt : tstB e = true → PT X e (tT Y X n c)
  pw : ∀ op vs p, e = .BoolOp op vs p → tstB e = true → PW X e (tT Y X n c)
theorem Snd.plain {e : Expr} {c : E} (h : PE X e (tD Y X n c)) (hp : plainTest e = true) : Snd Y X n e c := ⟨h, fun _ => s_val h (isTrue_of hp), fun op vs p z => by subst z; cases hp⟩
theorem Snd.strip {e : Expr} {c : E} (h : Snd Y X n (strip e) c) : Snd Y X n e c := by
  unfold SC.strip at h
  split at h
  · rename_i op a p
    have pw : tstB (.BoolOp op [a] p) = true → PW X (.BoolOp op [a] p) (tT Y X n c) := fun ht => by
      have ha : tstB a = true := by simpa [tstB, tstBs] using ht
      cases op with
      | And => exact s_one_and (h.pt ha)
      | Or => exact s_one_or (h.pt ha)
    exact ⟨s_one h.pe, fun ht => (pw ht).pt, fun _ _ _ _ ht => pw ht⟩
  · exact h
theorem bi_ok (a : Fa Y X n F) (k : CkOk X Γ) {b : Bi} {y : Expr} {ca : E} {p pos : Pos} (hb : bltB F Γ (biN b) = true) (hn : noStar y = true) (h : PE X y (tD Y X n ca)) : PE X (.Call (.Name (biN b) p) [y] [] pos) (tD Y X n (.blt b ca)) := by
  unfold bltB at hb
  simp only [Bool.and_eq_true, decide_eq_true_eq] at hb
  have hg := gl_of k hb.1
  have hm := a.bl _ hb.2
  cases b with
  | len => exact s_bltB b_len hg hm (by decide +kernel) h hn (by decide) (by decide)
  | all => exact s_bltB (b_all a.calm) hg hm (by decide +kernel) h hn (by decide) (by decide)
  | any => exact s_bltB (b_any a.calm) hg hm (by decide +kernel) h hn (by decide) (by decide)
  | tuple => exact s_bltT b_tuple hg hm (by decide +kernel) h hn (by decide) (by decide)
  | list => exact s_bltT (b_list a.calm) hg hm (by decide +kernel) h hn (by decide) (by decide)
  | sorted => exact s_bltB (b_sorted a.calm) hg hm (by decide +kernel) h hn (by decide) (by decide)
  | int => exact s_bltT b_int hg hm (by decide +kernel) h hn (by decide) (by decide)
  | sum => exact s_bltB (b_sum a.calm) hg hm (by decide +kernel) h hn (by decide) (by decide)
theorem bm_ok {b : Bm} {o e1 : Expr} {es : List Expr} {co : E} {cs : List E} {ap p : Pos} (ho : PE X o (tD Y X n co)) (ha : PA X (e1 :: es) (tL Y X n cs)) (hb : noSup o = true) (hs : (e1 :: es).all noStar = true) (hl : (e1 :: es).length < 30) (hp : (ap.endLine == p.line) = true) :
    PE X (.Call (.Attribute o (bmN b) ap) (e1 :: es) [] p) (tD Y X n (.bm b co cs)) := by
  cases b with
  | append => exact s_bm (bm := .append) PySem.F.plainAttrs_list PySem.F.slot_list_append PySem.F.type_list_append m_append ho ha hb hs hl hp
  | pop0 => exact s_bm (bm := .pop0) PySem.F.plainAttrs_list PySem.F.slot_list_pop PySem.F.type_list_pop m_pop0 ho ha hb hs hl hp
  | index => exact s_bm (bm := .index) PySem.F.plainAttrs_tuple PySem.F.slot_tuple_index PySem.F.type_tuple_index m_index ho ha hb hs hl hp
theorem isi_ok (a : Fa Y X n F) (k : CkOk X Γ) {t : Ty} {y z : Expr} {ca : E} {p pos : Pos} (hb : bltB F Γ "isinstance" = true) (hn : noStar y = true) (ht : tyB F Γ t z = true) (h : PE X y (tD Y X n ca)) : PE X (.Call (.Name "isinstance" p) [y, z] [] pos) (tD Y X n (.isi ca t)) := by
  unfold bltB at hb
  simp only [Bool.and_eq_true, decide_eq_true_eq] at hb
  have hg := gl_of k hb.1
  have hm := a.bl _ hb.2
  have base : ∀ {t : Ty} {x : Str} {T : String} {pp : Pos}, glB Γ.sc x = true → x ∈ F.bl → bootBuiltins x = some (.type T) → tyS t = some T → x ≠ "__name__" → (x == ("__debug__" : Str)) = false → PE X (.Call (.Name "isinstance" p) [y, .Name x pp] [] pos) (tD Y X n (.isi ca t)) :=
    fun g1 g2 g3 g4 g5 g6 => s_isiB (x := "") a.ic hg hm (gl_of k g1) (a.bl _ g2) g3 g4 g5 g6 h hn
  cases t with
  | lt =>
    unfold tyB at ht
    split at ht
    · simp only [Bool.and_eq_true, decide_eq_true_eq] at ht
      obtain ⟨⟨⟨⟨⟨e1, e2⟩, g1⟩, g2⟩, m1⟩, m2⟩ := ht
      subst e1 e2
      exact s_isiL a.ic hg hm (gl_of k g1) (a.bl _ m1) (gl_of k g2) (a.bl _ m2) h hn
    all_goals first | cases ht | (rename_i e; cases e) | skip
    all_goals simp_all
  | cls c =>
    unfold tyB at ht
    split at ht
    all_goals first | cases ht | skip
    all_goals try (rename_i e; cases e; done)
    · rename_i x pp e
      cases e
      simp only [Bool.and_eq_true, decide_eq_true_eq] at ht
      obtain ⟨C, h1, h2⟩ := a.cl _ _ ht.1.1
      exact s_isiC a.ic hg hm (gl_of k ht.1.2) h1 h2 (name_of ht.2).1 h hn
    all_goals simp_all
  | int =>
    cases z <;> simp only [tyB, Bool.and_eq_true, decide_eq_true_eq, Bool.false_eq_true] at ht
    obtain ⟨⟨e, g⟩, m⟩ := ht
    subst e
    exact base g m (by decide +kernel) rfl (by decide) (by decide)
  | bool =>
    cases z <;> simp only [tyB, Bool.and_eq_true, decide_eq_true_eq, Bool.false_eq_true] at ht
    obtain ⟨⟨e, g⟩, m⟩ := ht
    subst e
    exact base g m (by decide +kernel) rfl (by decide) (by decide)
  | str =>
    cases z <;> simp only [tyB, Bool.and_eq_true, decide_eq_true_eq, Bool.false_eq_true] at ht
    obtain ⟨⟨e, g⟩, m⟩ := ht
    subst e
    exact base g m (by decide +kernel) rfl (by decide) (by decide)
  | tuple =>
    cases z <;> simp only [tyB, Bool.and_eq_true, decide_eq_true_eq, Bool.false_eq_true] at ht
    obtain ⟨⟨e, g⟩, m⟩ := ht
    subst e
    exact base g m (by decide +kernel) rfl (by decide) (by decide)
end
end SC
end
end
section
set_option linter.all false
set_option maxRecDepth 100000
set_option Elab.async false
/-! SC24: the check is sound: every expression. -/
noncomputable section
namespace SC
open PySem L2
theorem s_ifs0 {Y : Lw} {X : Cx} {n : Nat} : PTs X [] (tIfs Y X n []) := ⟨fun pins s σ Hh Q I ⟨μ, h, ρ, r, g⟩ => pts_nil.run pins s σ Hh Q I (by
  simp only [denIfs] at g
  obtain ⟨b, e, g⟩ := g
  cases e
  exact g μ Hh Ext.refl r.rh)⟩
theorem s_ifs1 {Y : Lw} {X : Cx} {n : Nat} {e : Expr} {c : E} (h : PT X e (tT Y X n c)) : PTs X [e] (tIfs Y X n [c]) := ⟨fun pins s σ Hh Q I ⟨μ, hh, ρ, r, g⟩ => (pts_one h).run pins s σ Hh Q I (by
  simp only [denIfs] at g
  obtain ⟨v, h1, e1, g⟩ := g.bind
  cases v with
  | bl b =>
    cases b with
    | true =>
      obtain ⟨b, e, g⟩ := g
      cases e
      exact tT.of r e1 g
    | false =>
      obtain ⟨b, e, g⟩ := g
      cases e
      exact tT.of r e1 g
  | _ => exact g.elim)⟩
theorem PW.imp {X : Cx} {e : Expr} {t t' : TT} (h : PW X e t) (i : ∀ σ Hh Q, t' σ Hh Q → t σ Hh Q) : PW X e t' := ⟨fun wh pins s σ Hh Q I q => h.run wh pins s σ Hh Q I (i σ Hh Q q)⟩
theorem tmp_read {Y : Lw} {X : Cx} {n : Nat} {ca : E} {σ : L2.St} {Hh : Hp} {Q : Bool → Hp → Prop} (t : tT Y X n (.tmp ca) σ Hh Q) : tT Y X n ca σ Hh Q := by
  obtain ⟨μ, h, ρ, r, g⟩ := t
  simp only [den] at g
  split at g
  · rename_i v h1 e1
    split at g
    · rename_i hp
      obtain ⟨b, rfl, g⟩ := g
      have r' : RS (Y.sx X) μ { h with fl := h.o.length } ρ σ Hh := ⟨r.rh.same rfl rfl, r.sl, r.ln⟩
      refine tT.of r' e1 fun μ1 H1 x1 r1 => ?_
      have p := den_ok (Phi_pr Y.fd n) e1
      exact g μ H1 ⟨List.prefix_refl _, x1.tup⟩ (r.rh.back r1 x1 p)
    · exact g.elim
  · exact g.elim
theorem chkL_cons {F : Fc} {c : E} {cs : List E} {Γ : Ck} {x : Expr} {es : List Expr} (h : c.isStar = false) : chkL F (c :: cs) Γ (x :: es) = (noStar x && !c.isStar && chkE F c Γ x && chkL F cs Γ es) := by
  cases c <;> first | (simp [E.isStar] at h; done) | simp only [chkL]
variable {Y : Lw} {n : Nat} {F : Fc}
mutual
theorem sndE : ∀ (c : E) (Γ : Ck) (X : Cx) (e : Expr), Fa Y X n F → CkOk X Γ → chkE F c Γ e = true → Snd Y X n e c
  | .var i, Γ, X, e, a, k, h => by
    refine Snd.strip ?_
    simp only [chkE] at h
    split at h
    · rename_i x p ex
      rw [ex]
      simp only [Bool.and_eq_true, decide_eq_true_eq] at h
      exact Snd.plain (s_var (by rw [k.N]; exact h.1.1) (vis_of k h.1.2) (name_of h.2).1 (name_of h.2).2.1) rfl
    · cases h
  | .cN, Γ, X, e, a, k, h => by
    refine Snd.strip ?_
    simp only [chkE] at h
    split at h
    · rename_i ex; rw [ex]; exact Snd.plain s_cN rfl
    · cases h
  | .cB b, Γ, X, e, a, k, h => by
    refine Snd.strip ?_
    simp only [chkE] at h
    split at h
    · rename_i ex; rw [ex]; simp only [decide_eq_true_eq] at h; subst h; exact Snd.plain s_cB rfl
    · cases h
  | .cI b, Γ, X, e, a, k, h => by
    refine Snd.strip ?_
    simp only [chkE] at h
    split at h
    · rename_i ex; rw [ex]; simp only [decide_eq_true_eq] at h; subst h; exact Snd.plain s_cI rfl
    · cases h
  | .cS b, Γ, X, e, a, k, h => by
    refine Snd.strip ?_
    simp only [chkE] at h
    split at h
    · rename_i ex; rw [ex]; simp only [decide_eq_true_eq] at h; subst h; exact Snd.plain s_cS rfl
    · cases h
  | .glb j, Γ, X, e, a, k, h => by
    refine Snd.strip ?_
    simp only [chkE] at h
    split at h
    · rename_i x p ex
      rw [ex]
      simp only [Bool.and_eq_true, decide_eq_true_eq] at h
      exact Snd.plain (s_glb (gl_of k h.1.1) (a.gl _ _ h.1.2) (name_of h.2).1) rfl
    · cases h
  | .op2 o x y, Γ, X, e, a, k, h => by
    refine Snd.strip ?_
    simp only [chkE] at h
    split at h
    · rename_i ex
      rw [ex]
      simp only [Bool.and_eq_true] at h
      exact Snd.plain (s_bin (bin_ok h.1.1) (sndE x Γ X _ a k h.1.2).pe (sndE y Γ X _ a k h.2).pe) rfl
    · rename_i ex
      rw [ex]
      simp only [Bool.and_eq_true] at h
      have p1 := (sndE x Γ X _ a k h.1.2).pe
      have p2 := (sndE y Γ X _ a k h.2).pe
      exact ⟨s_cmp (cmp_ok a.hu h.1.1.1) p1 p2 (behind_of h.1.1.2), fun _ => s_cmpT (cmp_ok a.hu h.1.1.1) p1 p2 (behind_of h.1.1.2), fun _ _ _ z => nomatch z⟩
    · cases h
  | .neg x, Γ, X, e, a, k, h => by
    refine Snd.strip ?_
    simp only [chkE] at h
    split at h
    · rename_i ex; rw [ex]; exact Snd.plain (s_neg (sndE x Γ X _ a k h).pe) rfl
    · cases h
  | .sub x y, Γ, X, e, a, k, h => by
    refine Snd.strip ?_
    simp only [chkE] at h
    split at h
    · rename_i ex
      rw [ex]
      simp only [Bool.and_eq_true] at h
      exact Snd.plain (s_sub a.hu (sndE x Γ X _ a k h.1.2).pe (sndE y Γ X _ a k h.2).pe (plainIx_of h.1.1)) rfl
    · cases h
  | .not_ x, Γ, X, e, a, k, h => by
    refine Snd.strip ?_
    simp only [chkE] at h
    split at h
    · rename_i ex
      rw [ex]
      have p := sndE x Γ X _ a k h
      exact ⟨s_not p.pe, fun ht => s_notT (p.pt (by simpa [tstB] using ht)), fun _ _ _ z => nomatch z⟩
    · cases h
  | .and_ x y, Γ, X, e, a, k, h => by
    refine Snd.strip ?_
    simp only [chkE] at h
    split at h
    · rename_i xE yE rr pp ex
      rw [ex]
      simp only [Bool.and_eq_true] at h
      have p1 := sndE x Γ X _ a k h.1
      have p2 := sndE y Γ X _ a k h.2
      have pw : tstB (.BoolOp .And (xE :: yE :: rr) pp) = true → PW X (.BoolOp .And (xE :: yE :: rr) pp) (tT Y X n (.and_ x y)) := fun ht => by
        simp only [tstB, tstBs, Bool.and_eq_true] at ht
        exact s_andT (p1.pt ht.1) (p2.pw _ _ _ rfl (by simp only [tstB, tstBs, Bool.and_eq_true]; exact ht.2))
      exact ⟨s_and p1.pe p2.pe, fun ht => (pw ht).pt, fun _ _ _ _ ht => pw ht⟩
    · cases h
  | .or_ x y, Γ, X, e, a, k, h => by
    refine Snd.strip ?_
    simp only [chkE] at h
    split at h
    · rename_i xE yE rr pp ex
      rw [ex]
      simp only [Bool.and_eq_true] at h
      have p1 := sndE x Γ X _ a k h.1
      have p2 := sndE y Γ X _ a k h.2
      have pw : tstB (.BoolOp .Or (xE :: yE :: rr) pp) = true → PW X (.BoolOp .Or (xE :: yE :: rr) pp) (tT Y X n (.or_ x y)) := fun ht => by
        simp only [tstB, tstBs, Bool.and_eq_true] at ht
        exact s_orT (p1.pt ht.1) (p2.pw _ _ _ rfl (by simp only [tstB, tstBs, Bool.and_eq_true]; exact ht.2))
      exact ⟨s_or p1.pe p2.pe, fun ht => (pw ht).pt, fun _ _ _ _ ht => pw ht⟩
    · cases h
  | .ite z x y, Γ, X, e, a, k, h => by
    refine Snd.strip ?_
    simp only [chkE] at h
    split at h
    · rename_i ex
      rw [ex]
      simp only [Bool.and_eq_true] at h
      exact ⟨s_ite ((sndE z Γ X _ a k h.1.1.2).pt h.1.1.1) (sndE x Γ X _ a k h.1.2).pe (sndE y Γ X _ a k h.2).pe, fun ht => by simp [tstB] at ht, fun _ _ _ z => nomatch z⟩
    · cases h
  | .chain o1 o2 x y z, Γ, X, e, a, k, h => by
    refine Snd.strip ?_
    simp only [chkE] at h
    split at h
    · rename_i ex
      rw [ex]
      simp only [Bool.and_eq_true] at h
      obtain ⟨q1, q2⟩ := s_chain (cmp_ok (Y := Y) (X := X) a.hu h.1.1.1.1.1) (cmp_ok a.hu h.1.1.1.1.2) (sndE x Γ X _ a k h.1.1.2).pe (sndE y Γ X _ a k h.1.2).pe (sndE z Γ X _ a k h.2).pe (behind_of h.1.1.1.2)
      exact ⟨q1, fun _ => q2, fun _ _ _ z => nomatch z⟩
    · cases h
  | .call j as, Γ, X, e, a, k, h => by
    refine Snd.strip ?_
    simp only [chkE] at h
    split at h
    · rename_i ex
      rw [ex]
      simp only [Bool.and_eq_true, decide_eq_true_eq] at h
      obtain ⟨f, h1, h2⟩ := a.fs _ _ h.1.1.2
      obtain ⟨pa, pn⟩ := sndL as Γ X _ a k h.2
      exact Snd.plain (s_call h2 (gl_of k h.1.1.1.1) h1 pa h.1.2 pn (name_of h.1.1.1.2).1) rfl
    · cases h
  | .make c as, Γ, X, e, a, k, h => by
    refine Snd.strip ?_
    simp only [chkE] at h
    split at h
    · rename_i ex
      rw [ex]
      simp only [Bool.and_eq_true, decide_eq_true_eq] at h
      obtain ⟨C, h1, _⟩ := a.cl _ _ h.1.1.2
      obtain ⟨dvs, dd, M, h3, h4⟩ := a.mkc _ _ h.1.1.2 C h1
      obtain ⟨cs, rfl, pa, pn⟩ := sndD as Γ X _ _ a k h.2
      exact Snd.plain (s_make M (gl_of k h.1.1.1.1) h1 pa h.1.2 pn h3 h4 (name_of h.1.1.1.2).1) rfl
    · rename_i ex
      rw [ex]
      simp only [Bool.and_eq_true, decide_eq_true_eq] at h
      obtain ⟨C, h1, M⟩ := a.kw _ _ _ _ h.1.1.2
      obtain ⟨cs, cv, rfl, pa, pv, hl, hst, hcv⟩ := sndK as Γ X _ _ a k h.2
      exact Snd.plain (s_makeW M (gl_of k h.1.1.1.1) h1 pa (by simpa using h.1.2) pv hl hst hcv (name_of h.1.1.1.2).1) rfl
    · cases h
  | .meth m o as, Γ, X, e, a, k, h => by
    refine Snd.strip ?_
    simp only [chkE] at h
    split at h
    · rename_i ex
      rw [ex]
      simp only [Bool.and_eq_true, decide_eq_true_eq] at h
      obtain ⟨pa, pn⟩ := sndL as Γ X _ a k h.2
      exact Snd.plain (s_meth (a.mt _ _ h.1.1.1.1.1.1) (sndE o Γ X _ a k h.1.2).pe pa h.1.1.1.1.2 pn (meth_ht h.1.1.1.1.1.2 h.1.1.1.1.2 h.1.1.1.2 h.1.1.2)) rfl
    · cases h
  | .lenI o, Γ, X, e, a, k, h => by
    refine Snd.strip ?_
    simp only [chkE] at h
    split at h
    · rename_i ex
      rw [ex]
      simp only [Bool.and_eq_true, decide_eq_true_eq] at h
      obtain ⟨⟨⟨e1, hb⟩, hn⟩, h2⟩ := h
      subst e1
      unfold bltB at hb
      simp only [Bool.and_eq_true, decide_eq_true_eq] at hb
      exact Snd.plain (s_lenI a.ln (gl_of k hb.1) (a.bl _ hb.2) (sndE o Γ X _ a k h2).pe hn) rfl
    · cases h
  | .fld o f, Γ, X, e, a, k, h => by
    refine Snd.strip ?_
    simp only [chkE] at h
    split at h
    · rename_i ex
      rw [ex]
      simp only [Bool.and_eq_true, decide_eq_true_eq] at h
      exact Snd.plain (s_fld a.ok (a.nm _ _ h.1.1.1) (a.na _ h.1.1.2) (sndE o Γ X _ a k h.2).pe h.1.2) rfl
    · cases h
  | .blt b x, Γ, X, e, a, k, h => by
    refine Snd.strip ?_
    simp only [chkE] at h
    split at h
    · rename_i ex
      rw [ex]
      simp only [Bool.and_eq_true, decide_eq_true_eq] at h
      obtain ⟨⟨⟨e1, hb⟩, hn⟩, h2⟩ := h
      subst e1
      exact Snd.plain (bi_ok a k hb hn (sndE x Γ X _ a k h2).pe) rfl
    · cases h
  | .bm b o as, Γ, X, e, a, k, h => by
    refine Snd.strip ?_
    simp only [chkE] at h
    split at h
    · rename_i ex
      rw [ex]
      simp only [Bool.and_eq_true, decide_eq_true_eq] at h
      obtain ⟨⟨⟨⟨⟨⟨e1, hb⟩, hs⟩, hl⟩, hp⟩, ho⟩, ha⟩ := h
      subst e1
      obtain ⟨pa, pn⟩ := sndL as Γ X _ a k ha
      exact Snd.plain (bm_ok (sndE o Γ X _ a k ho).pe pa hb (by simpa using hs) hl hp) rfl
    · cases h
  | .isi x t, Γ, X, e, a, k, h => by
    refine Snd.strip ?_
    simp only [chkE] at h
    split at h
    · rename_i ex
      rw [ex]
      simp only [Bool.and_eq_true, decide_eq_true_eq] at h
      obtain ⟨⟨⟨⟨e1, hb⟩, hn⟩, ht⟩, h2⟩ := h
      subst e1
      exact Snd.plain (isi_ok a k hb hn ht (sndE x Γ X _ a k h2).pe) rfl
    · cases h
  | .slice x lo hi, Γ, X, e, a, k, h => by
    refine Snd.strip ?_
    simp only [chkE] at h
    split at h
    · rename_i ex
      rw [ex]
      simp only [Bool.and_eq_true] at h
      exact Snd.plain (s_slice (sndE x Γ X _ a k h.1.1).pe (sndO lo Γ X _ a k h.1.2) (sndO hi Γ X _ a k h.2)) rfl
    · cases h
  | .tup es, Γ, X, e, a, k, h => by
    refine Snd.strip ?_
    simp only [chkE] at h
    split at h
    · rename_i ex; rw [ex]; exact Snd.plain (s_tup (sndL es Γ X _ a k h).1) rfl
    · cases h
  | .lst es, Γ, X, e, a, k, h => by
    refine Snd.strip ?_
    simp only [chkE] at h
    split at h
    · rename_i ex; rw [ex]; exact Snd.plain (s_lst (sndL es Γ X _ a k h).1) rfl
    · cases h
  | .star _, Γ, X, e, a, k, h => by simp [chkE] at h
  | .dnewK, Γ, X, e, a, k, h => by
    refine Snd.strip ?_
    simp only [chkE] at h
    split at h
    · rename_i ex; rw [ex]; exact Snd.plain s_dnewK rfl
    · cases h
  | .dnewT, Γ, X, e, a, k, h => by
    refine Snd.strip ?_
    simp only [chkE] at h
    split at h
    · rename_i ex; rw [ex]; exact Snd.plain s_dnewT rfl
    · cases h
  | .dict1 x y, Γ, X, e, a, k, h => by
    refine Snd.strip ?_
    simp only [chkE] at h
    split at h
    · rename_i ex
      rw [ex]
      simp only [Bool.and_eq_true] at h
      exact Snd.plain (s_dict1 a.hu (sndE x Γ X _ a k h.1).pe (sndE y Γ X _ a k h.2).pe) rfl
    · cases h
  | .lc kd tg its ifs elt, Γ, X, e, a, k, h => by
    refine Snd.strip ?_
    simp only [chkE] at h
    split at h
    · rename_i ex
      rw [ex]
      simp only [Bool.and_eq_true] at h
      obtain ⟨B, hk⟩ := blk_of (Y := Y) (n := n) k a.calm h.1.1.1.1.1
      obtain ⟨pi, k1, k2⟩ := sndW its kd Γ X _ _ a k h.1.1.2
      exact Snd.plain (s_lc k1 k2 B h.1.1.1.1.2 pi (fun s H C cl fp => sndI ifs _ (X.blk s H _ (compEnvC _ cl C X.env) fp) _ (a.blk s H _ _ fp) (k.blk hk s H C cl fp) h.1.2)
        (fun s H C cl fp => (sndE elt _ (X.blk s H _ (compEnvC _ cl C X.env) fp) _ (a.blk s H _ _ fp) (k.blk hk s H C cl fp) h.2).pe) (folded_of h.1.1.1.2)) rfl
    · cases h
  | .dc tg it kk vv, Γ, X, e, a, k, h => by
    refine Snd.strip ?_
    simp only [chkE] at h
    split at h
    · rename_i ex
      rw [ex]
      simp only [Bool.and_eq_true, Bool.not_eq_true'] at h
      obtain ⟨B, hk⟩ := blk_of (Y := Y) (n := n) k a.calm h.1.1.1.1.1.1
      exact Snd.plain (s_dc B h.1.1.1.1.1.2 h.1.1.1.2 (s_wseq (sndE it Γ X _ a k h.1.1.2).pe h.1.1.1.2)
        (fun s H C cl fp => (sndE kk _ (X.blk s H _ (compEnvC _ cl C X.env) fp) _ (a.blk s H _ _ fp) (k.blk hk s H C cl fp) h.1.2).pe)
        (fun s H C cl fp => (sndE vv _ (X.blk s H _ (compEnvC _ cl C X.env) fp) _ (a.blk s H _ _ fp) (k.blk hk s H C cl fp) h.2).pe) (folded_of h.1.1.1.1.2)) rfl
    · cases h
  | .tmp x, Γ, X, e, a, k, h => by
    simp only [chkE] at h
    have p := sndE x Γ X e a k h
    exact ⟨s_tmp p.pe, fun ht => s_tmpT (p.pt ht), fun op vs q z ht => PW.imp (p.pw op vs q z ht) fun σ Hh Q t => tmp_read t⟩
theorem sndL : ∀ (c : List E) (Γ : Ck) (X : Cx) (e : List Expr), Fa Y X n F → CkOk X Γ → chkL F c Γ e = true → PA X e (tL Y X n c) ∧ (e = [] → c = [])
  | [], Γ, X, [], a, k, h => ⟨s_nil, fun _ => rfl⟩
  | [], Γ, X, _ :: _, a, k, h => by simp [chkL] at h
  | c :: cs, Γ, X, [], a, k, h => by cases c <;> simp [chkL] at h
  | c :: cs, Γ, X, x :: es, a, k, h => by
    refine ⟨?_, fun z => nomatch z⟩
    by_cases hs : c.isStar = true
    · cases c with
      | star b =>
        cases x with
        | Starred y p =>
          simp only [chkL, Bool.and_eq_true] at h
          exact s_star (sndE b Γ X y a k h.1).pe (sndL cs Γ X es a k h.2).1
        | _ => simp [chkL, E.isStar] at h
      | _ => simp [E.isStar] at hs
    · have hs : c.isStar = false := by simpa using hs
      rw [chkL_cons hs] at h
      simp only [Bool.and_eq_true, Bool.not_eq_true'] at h
      exact s_cons (sndE c Γ X x a k h.1.2).pe (sndL cs Γ X es a k h.2).1 h.1.1.1 hs
theorem sndD : ∀ (c : List E) (Γ : Ck) (X : Cx) (e : List Expr) (d : List E), Fa Y X n F → CkOk X Γ → chkD F c Γ e d = true → ∃ cs, c = cs ++ d ∧ PA X e (tL Y X n cs) ∧ (e = [] → cs = [])
  | [], Γ, X, [], d, a, k, h => by
    cases d with
    | nil => exact ⟨[], rfl, s_nil, fun _ => rfl⟩
    | cons _ _ => simp [chkD] at h
  | [], Γ, X, _ :: _, d, a, k, h => by simp [chkD] at h
  | c :: cs, Γ, X, [], d, a, k, h => by
    simp only [chkD] at h
    exact ⟨[], litEqs_of h, s_nil, fun _ => rfl⟩
  | c :: cs, Γ, X, x :: es, d, a, k, h => by
    simp only [chkD, Bool.and_eq_true, Bool.not_eq_true'] at h
    obtain ⟨cs', e1, pa, _⟩ := sndD cs Γ X es d a k h.2
    exact ⟨c :: cs', by rw [e1]; rfl, s_cons (sndE c Γ X x a k h.1.2).pe pa h.1.1.1 h.1.1.2, fun z => nomatch z⟩
theorem sndK : ∀ (c : List E) (Γ : Ck) (X : Cx) (e : List Expr) (v : Expr), Fa Y X n F → CkOk X Γ → chkK F c Γ e v = true → ∃ cs cv, c = cs ++ [cv] ∧ PA X e (tL Y X n cs) ∧ PE X v (tD Y X n cv) ∧ cs.length = e.length ∧ cs.all (fun c => !c.isStar) = true ∧ cv.isStar = false
  | [], Γ, X, e, v, a, k, h => by cases e <;> simp [chkK] at h
  | [c], Γ, X, [], v, a, k, h => by
    simp only [chkK, Bool.and_eq_true, Bool.not_eq_true'] at h
    exact ⟨[], c, rfl, s_nil, (sndE c Γ X v a k h.2).pe, rfl, rfl, h.1⟩
  | c :: d :: cs, Γ, X, [], v, a, k, h => by simp [chkK] at h
  | c :: cs, Γ, X, x :: es, v, a, k, h => by
    simp only [chkK, Bool.and_eq_true, Bool.not_eq_true'] at h
    obtain ⟨cs', cv, e1, pa, pv, hl, hst, hcv⟩ := sndK cs Γ X es v a k h.2
    exact ⟨c :: cs', cv, by rw [e1]; rfl, s_cons (sndE c Γ X x a k h.1.2).pe pa h.1.1.1 h.1.1.2, pv, by simp [hl], by simp only [List.all_cons, h.1.1.2, hst]; rfl, hcv⟩
theorem sndO : ∀ (c : Option E) (Γ : Ck) (X : Cx) (e : Option Expr), Fa Y X n F → CkOk X Γ → chkO F c Γ e = true → (match e, c with | none, none => True | some e, some c => PE X e (tD Y X n c) | _, _ => False)
  | none, Γ, X, none, a, k, h => trivial
  | none, Γ, X, some _, a, k, h => by simp [chkO] at h
  | some c, Γ, X, none, a, k, h => by simp [chkO] at h
  | some c, Γ, X, some e, a, k, h => by
    simp only [chkO] at h
    exact (sndE c Γ X e a k h).pe
theorem sndI : ∀ (c : List E) (Γ : Ck) (X : Cx) (e : List Expr), Fa Y X n F → CkOk X Γ → chkI F c Γ e = true → PTs X e (tIfs Y X n c)
  | [], Γ, X, [], a, k, h => s_ifs0
  | [], Γ, X, _ :: _, a, k, h => by simp [chkI] at h
  | [c], Γ, X, [], a, k, h => by simp [chkI] at h
  | [c], Γ, X, [x], a, k, h => by
    simp only [chkI, Bool.and_eq_true] at h
    exact s_ifs1 ((sndE c Γ X x a k h.2).pt h.1)
  | [c], Γ, X, _ :: _ :: _, a, k, h => by simp [chkI] at h
  | _ :: _ :: _, Γ, X, e, a, k, h => by simp [chkI] at h
theorem sndW : ∀ (c : List E) (kd : Ik) (Γ : Ck) (X : Cx) (tgE iter : Expr), Fa Y X n F → CkOk X Γ → chkW F c kd Γ tgE iter = true → PI X tgE iter (iW Y X n kd c) ∧ kd ≠ .items ∧ kd ≠ .keys
  | [], kd, Γ, X, tgE, iter, a, k, h => by simp [chkW] at h
  | [c], kd, Γ, X, tgE, iter, a, k, h => by
    simp only [chkW, Bool.and_eq_true, Bool.not_eq_true'] at h
    obtain ⟨hs, h⟩ := h
    cases kd with
    | seq => exact ⟨s_wseq (sndE c Γ X _ a k h).pe hs, by simp, by simp⟩
    | range =>
      simp only at h
      split at h
      · simp only [Bool.and_eq_true, decide_eq_true_eq] at h
        obtain ⟨⟨⟨e1, hb⟩, hn⟩, h2⟩ := h
        subst e1
        unfold bltB at hb
        simp only [Bool.and_eq_true, decide_eq_true_eq] at hb
        exact ⟨s_wrange1 (gl_of k hb.1) (a.bl _ hb.2) (sndE c Γ X _ a k h2).pe hs hn, by simp, by simp⟩
      · cases h
    | enum =>
      simp only at h
      split at h
      · simp only [Bool.and_eq_true, decide_eq_true_eq] at h
        obtain ⟨⟨⟨e1, hb⟩, hn⟩, h2⟩ := h
        subst e1
        unfold bltB at hb
        simp only [Bool.and_eq_true, decide_eq_true_eq] at hb
        exact ⟨s_wenum (gl_of k hb.1) (a.bl _ hb.2) (sndE c Γ X _ a k h2).pe hs hn, by simp, by simp⟩
      · cases h
    | _ => cases h
  | [c, d], kd, Γ, X, tgE, iter, a, k, h => by
    simp only [chkW, Bool.and_eq_true, Bool.not_eq_true'] at h
    obtain ⟨⟨hs, hs2⟩, h⟩ := h
    cases kd with
    | range =>
      simp only at h
      split at h
      · simp only [Bool.and_eq_true, decide_eq_true_eq] at h
        obtain ⟨⟨⟨⟨⟨e1, hb⟩, hn⟩, hn2⟩, h2⟩, h3⟩ := h
        subst e1
        unfold bltB at hb
        simp only [Bool.and_eq_true, decide_eq_true_eq] at hb
        exact ⟨s_wrange2 (gl_of k hb.1) (a.bl _ hb.2) (sndE c Γ X _ a k h2).pe (sndE d Γ X _ a k h3).pe hs hs2 hn hn2, by simp, by simp⟩
      · cases h
    | zip =>
      simp only at h
      split at h
      · simp only [Bool.and_eq_true, decide_eq_true_eq] at h
        obtain ⟨⟨⟨⟨⟨e1, hb⟩, hn⟩, hn2⟩, h2⟩, h3⟩ := h
        subst e1
        unfold bltB at hb
        simp only [Bool.and_eq_true, decide_eq_true_eq] at hb
        exact ⟨s_wzip (gl_of k hb.1) (a.bl _ hb.2) (sndE c Γ X _ a k h2).pe (sndE d Γ X _ a k h3).pe hs hs2 hn hn2, by simp, by simp⟩
      · cases h
    | _ => cases h
  | _ :: _ :: _ :: _, kd, Γ, X, tgE, iter, a, k, h => by simp [chkW] at h
end
end SC
end
end
section
set_option linter.all false
set_option maxRecDepth 100000
set_option Elab.async false
/-! SC25: the text checked against the IR (statements). -/
noncomputable section
namespace SC
open PySem L2
mutual
def chkG (F : Fc) : G → Ck → Expr → Bool
  | .n i, Γ, e => (match e with | .Name x _ => nmB Γ x i | _ => false)
  | .f o f, Γ, e => (match e with | .Attribute x nm _ => decide (F.ms.lookup nm = some f) && decide (nm ∈ F.fld) && chkE F o Γ x | _ => false)
  | .s o i, Γ, e => (match e with | .Subscript x y _ => notSlice y && chkE F o Γ x && chkE F i Γ y | _ => false)
  | .t l, Γ, e => (match e with | .Tuple es _ _ => chkGs F l Γ es | _ => false)
def chkGs (F : Fc) : List G → Ck → List Expr → Bool
  | [], _, [] => true
  | g :: l, Γ, e :: es => noStar e && chkG F g Γ e && chkGs F l Γ es
  | _, _, _ => false
end
/-- a, b = x, y: stored by the swapped stores -/
def chkP (F : Fc) (Γ : Ck) (tg e : Expr) (g : G) (c : E) : Bool := match tg, e, g, c with
  | .Tuple [.Name x _, .Name y _] _ _, .Tuple [a, b] _ _, .t [.n i, .n j], .tup [ca, cb] =>
    decide (ssB Γ.sc tg e = some (some [x, y])) && decide (Γ.N[i]? = some x) && decide (Γ.N[j]? = some y) && decide (i ≠ j) && decide (Γ.sc.lookup x = some .local) && decide (Γ.sc.lookup y = some .local) &&
      noStar a && noStar b && !ca.isStar && !cb.isStar && chkE F ca Γ a && chkE F cb Γ b
  | .Tuple [.Name x _, .Name y _, .Name z _] _ _, .Tuple [a, b, d] _ _, .t [.n i, .n j, .n l], .tup [ca, cb, cd] =>
    decide (ssB Γ.sc tg e = some (some [x, y, z])) && decide (Γ.N[i]? = some x) && decide (Γ.N[j]? = some y) && decide (Γ.N[l]? = some z) && decide (i ≠ j) && decide (i ≠ l) && decide (j ≠ l) &&
      decide (Γ.sc.lookup x = some .local) && decide (Γ.sc.lookup y = some .local) && decide (Γ.sc.lookup z = some .local) &&
      noStar a && noStar b && noStar d && !ca.isStar && !cb.isStar && !cd.isStar && chkE F ca Γ a && chkE F cb Γ b && chkE F cd Γ d
  | _, _, _, _ => false
/-- name = [..] -/
def chkLc (F : Fc) (Γ : Ck) (tg e : Expr) (g : G) (c : E) : Bool := match tg, e, g, c with
  | .Name y _, .ListComp x [⟨tgE, iter, is, 0⟩] scope _, .n i, .lc k t its ifs elt =>
    swB Γ.sc e tg && decide (Γ.N[i]? = some y) && decide (Γ.sc.lookup y = some .local) && (blkB Γ scope tgE t && t.fit k.pr && notSet iter && chkW F its k Γ tgE iter && chkI F ifs (Γ.inner scope) is && chkE F elt (Γ.inner scope) x)
  | _, _, _, _ => false
def chkA (F : Fc) (Γ : Ck) (tg e : Expr) (g : G) (c : E) : Bool :=
  chkLc F Γ tg e g c || chkP F Γ tg e g c || (!swB Γ.sc e tg && decide (ssB Γ.sc tg e = some none) && noStar tg && chkG F g Γ tg && chkE F c Γ e)
def noComp (e : Expr) : Bool := match compScope e with | none => true | some _ => false
/-- for over a dict -/
def chkF (F : Fc) (Γ : Ck) (k : Ik) (its : List E) (tgE iter : Expr) : Bool := match k, its with
  | .items, [.var i] => (match tgE, iter with
    | .Tuple .., .Call (.Attribute e nm ap) [] [] cp => decide (nm = "items") && noSup e && (ap.endLine == cp.line) && chkE F (.var i) Γ e
    | _, _ => false)
  | .keys, [.var i] => chkE F (.var i) Γ iter
  | _, _ => chkW F its k Γ tgE iter
mutual
def chkS (F : Fc) : S → Ck → Stmt → Bool
  | .expr c, Γ, st => (match st with | .Expr e _ => noComp e && chkE F c Γ e | _ => false)
  | .asg g c, Γ, st => (match st with | .Assign [tg] e _ => chkA F Γ tg e g c | _ => false)
  | .ret c, Γ, st => (match st with | .Return (some e) _ => chkE F c Γ e | _ => false)
  | .ite c a b, Γ, st => (match st with | .If e x y _ => tstB e && chkE F c Γ e && chkSs F a Γ x && chkSs F b Γ y | _ => false)
  | .for_ k tg its b, Γ, st => (match st with | .For tgE iter body [] _ => tgB Γ tgE tg && tg.fit k.pr && notSet iter && chkF F Γ k its tgE iter && chkSs F b Γ body | _ => false)
  | .while_ c b, Γ, st => (match st with | .While e body [] _ => tstB e && chkE F c Γ e && chkSs F b Γ body | _ => false)
  | .raise_, _, st => (match st with | .Raise _ _ _ => true | _ => false)
  | .pass, _, st => (match st with | .Pass _ => true | _ => false)
def chkSs (F : Fc) : List S → Ck → List Stmt → Bool
  | [], _, [] => true
  | s :: r, Γ, st :: rest => chkS F s Γ st && chkSs F r Γ rest
  | _, _, _ => false
end
section
variable {Y : Lw} {n : Nat} {F : Fc} {X : Cx} {Γ : Ck}
mutual
theorem sndG (a : Fa Y X n F) (k : CkOk X Γ) : ∀ (g : G) (e : Expr), chkG F g Γ e = true → PG X e (gA Y X n g)
  | .n i, e, h => by
    simp only [chkG] at h
    split at h
    · exact g_name (nm_of k h)
    · cases h
  | .f o f, e, h => by
    simp only [chkG] at h
    split at h
    · simp only [Bool.and_eq_true, decide_eq_true_eq] at h
      exact g_fld a.ok (a.nm _ _ h.1.1) (a.na _ h.1.2) (sndE o Γ X _ a k h.2).pe
    · cases h
  | .s o i, e, h => by
    simp only [chkG] at h
    split at h
    · simp only [Bool.and_eq_true] at h
      exact g_sub a.hu (sndE o Γ X _ a k h.1.2).pe (sndE i Γ X _ a k h.2).pe h.1.1
    · cases h
  | .t l, e, h => by
    simp only [chkG] at h
    split at h
    · obtain ⟨h1, h2, h3⟩ := sndGs a k l _ h
      exact g_tup a.calm h1 h2 h3
    · cases h
theorem sndGs (a : Fa Y X n F) (k : CkOk X Γ) : ∀ (g : List G) (e : List Expr), chkGs F g Γ e = true → PGs X e (gAs Y X n g) ∧ e.all noStar = true ∧ e.length = g.length
  | [], [], _ => ⟨g_nil, rfl, rfl⟩
  | [], _ :: _, h => by simp [chkGs] at h
  | _ :: _, [], h => by simp [chkGs] at h
  | g :: l, e :: es, h => by
    simp only [chkGs, Bool.and_eq_true] at h
    obtain ⟨h1, h2, h3⟩ := sndGs a k l es h.2
    exact ⟨g_cons (sndG a k g e h.1.2) h1 h.1.1, by simp only [List.all_cons, h2, h.1.1]; rfl, by simp [h3]⟩
end
theorem sndP (a : Fa Y X n F) (k : CkOk X Γ) {tg e : Expr} {g : G} {c : E} {pos : Pos} (h : chkP F Γ tg e g c = true) : PS X (.Assign [tg] e pos) (tS Y X n (.asg g c)) := by
  unfold chkP at h
  split at h
  · simp only [Bool.and_eq_true, decide_eq_true_eq, Bool.not_eq_true'] at h
    obtain ⟨⟨⟨⟨⟨⟨⟨⟨⟨⟨⟨h0, h1⟩, h2⟩, h3⟩, h4⟩, h5⟩, h6⟩, h7⟩, h8⟩, h9⟩, h10⟩, h11⟩ := h
    exact s_par a.calm k.nd (by rw [k.N]; exact h1) (by rw [k.N]; exact h2) h3 (by rw [k.sc]; exact h4) (by rw [k.sc]; exact h5) (sndE _ Γ X _ a k h10).pe (sndE _ Γ X _ a k h11).pe h6 h7 h8 h9 (ss_of k.kind k.sc h0)
  · simp only [Bool.and_eq_true, decide_eq_true_eq, Bool.not_eq_true'] at h
    obtain ⟨⟨⟨⟨⟨⟨⟨⟨⟨⟨⟨⟨⟨⟨⟨⟨⟨⟨h0, h1⟩, h2⟩, h3⟩, h4⟩, h5⟩, h6⟩, h7⟩, h8⟩, h9⟩, h10⟩, h11⟩, h12⟩, h13⟩, h14⟩, h15⟩, h16⟩, h17⟩, h18⟩ := h
    exact s_par3 a.calm k.nd (by rw [k.N]; exact h1) (by rw [k.N]; exact h2) (by rw [k.N]; exact h3) h4 h5 h6 (by rw [k.sc]; exact h7) (by rw [k.sc]; exact h8) (by rw [k.sc]; exact h9) (sndE _ Γ X _ a k h16).pe (sndE _ Γ X _ a k h17).pe (sndE _ Γ X _ a k h18).pe h10 h11 h12 h13 h14 h15 (ss_of k.kind k.sc h0)
  · cases h
theorem sndLc (a : Fa Y X n F) (k : CkOk X Γ) {tg e : Expr} {g : G} {c : E} {pos : Pos} (h : chkLc F Γ tg e g c = true) : PS X (.Assign [tg] e pos) (tS Y X n (.asg g c)) := by
  unfold chkLc at h
  split at h
  · rename_i y py x tgE iter is scope lp i kd t its ifs elt
    simp only [Bool.and_eq_true, decide_eq_true_eq] at h
    obtain ⟨⟨⟨h0, h1⟩, h2⟩, h⟩ := h
    obtain ⟨B, hk⟩ := blk_of (Y := Y) (n := n) k a.calm h.1.1.1.1.1
    obtain ⟨pi, k1, k2⟩ := sndW its kd Γ X _ _ a k h.1.1.2
    refine s_setLc k1 k2 B h.1.1.1.1.2 pi (fun s H C cl fp => sndI ifs _ (X.blk s H _ (compEnvC _ cl C X.env) fp) _ (a.blk s H _ _ fp) (k.blk hk s H C cl fp) h.1.2)
      (fun s H C cl fp => (sndE elt _ (X.blk s H _ (compEnvC _ cl C X.env) fp) _ (a.blk s H _ _ fp) (k.blk hk s H C cl fp) h.2).pe) (folded_of h.1.1.1.2) (by rw [k.N]; exact h1) (by rw [k.sc]; exact h2) ?_
    rw [sw_of k.kind k.sc, h0]
  · cases h
theorem sndA (a : Fa Y X n F) (k : CkOk X Γ) {tg e : Expr} {g : G} {c : E} {pos : Pos} (h : chkA F Γ tg e g c = true) : PS X (.Assign [tg] e pos) (tS Y X n (.asg g c)) := by
  unfold chkA at h
  simp only [Bool.or_eq_true] at h
  rcases h with (h | h) | h
  · exact sndLc a k h
  · exact sndP a k h
  · simp only [Bool.and_eq_true, decide_eq_true_eq, Bool.not_eq_true'] at h
    refine s_asg (sndE _ Γ X _ a k h.2).pe (sndG a k _ _ h.1.2) ?_ (ss_of k.kind k.sc h.1.1.1.2) h.1.1.2
    show swapsWith e (some tg) pos.line X.env = _
    rw [sw_of k.kind k.sc, h.1.1.1.1]
mutual
theorem sndS (a : Fa Y X n F) (k : CkOk X Γ) (hp : PassesOwn (model X.prog X.w) X.A X.env X.xe) : ∀ (s : S) (st : Stmt), chkS F s Γ st = true → PS X st (tS Y X n s)
  | .expr c, st, h => by
    simp only [chkS] at h
    split at h
    · simp only [Bool.and_eq_true] at h
      refine s_expr (sndE c Γ X _ a k h.2).pe (sw_none ?_)
      have := h.1
      unfold noComp at this
      split at this
      · assumption
      · cases this
    · cases h
  | .asg g c, st, h => by
    simp only [chkS] at h
    split at h
    · exact sndA a k h
    · cases h
  | .ret c, st, h => by
    simp only [chkS] at h
    split at h
    · exact s_ret (sndE c Γ X _ a k h).pe
    · cases h
  | .ite c x y, st, h => by
    simp only [chkS] at h
    split at h
    · simp only [Bool.and_eq_true] at h
      exact s_if ((sndE c Γ X _ a k h.1.1.2).pt h.1.1.1) (sndSs a k hp x _ h.1.2) (sndSs a k hp y _ h.2)
    · cases h
  | .for_ kd tg its b, st, h => by
    simp only [chkS] at h
    split at h
    · simp only [Bool.and_eq_true] at h
      obtain ⟨⟨⟨⟨h1, h2⟩, h3⟩, h4⟩, h5⟩ := h
      have pb := sndSs a k hp b _ h5
      unfold chkF at h4
      split at h4
      · split at h4
        · simp only [Bool.and_eq_true, decide_eq_true_eq] at h4
          obtain ⟨⟨⟨e1, hb⟩, hl⟩, he⟩ := h4
          subst e1
          exact s_forI hp a.calm (sndE _ Γ X _ a k he).pe rfl (tg_of k h1) h2 pb (folded_of h3) hb hl
        · cases h4
      · exact s_forK hp a.calm (sndE _ Γ X _ a k h4).pe (tg_of k h1) h2 pb (folded_of h3)
      · obtain ⟨pi, k1, k2⟩ := sndW its kd Γ X _ _ a k h4
        exact s_for k1 k2 hp a.calm pi (tg_of k h1) h2 pb (folded_of h3)
    · cases h
  | .while_ c b, st, h => by
    simp only [chkS] at h
    split at h
    · simp only [Bool.and_eq_true] at h
      exact s_while hp ((sndE c Γ X _ a k h.1.2).pt h.1.1) (sndSs a k hp b _ h.2)
    · cases h
  | .raise_, st, h => s_raise
  | .pass, st, h => by
    simp only [chkS] at h
    split at h
    · exact s_pass
    · cases h
theorem sndSs (a : Fa Y X n F) (k : CkOk X Γ) (hp : PassesOwn (model X.prog X.w) X.A X.env X.xe) : ∀ (s : List S) (st : List Stmt), chkSs F s Γ st = true → PSs X st (tSs Y X n s)
  | [], [], _ => s_ssnil
  | [], _ :: _, h => by simp [chkSs] at h
  | _ :: _, [], h => by simp [chkSs] at h
  | s :: r, st :: rest, h => by
    simp only [chkSs, Bool.and_eq_true] at h
    exact s_sscons (sndS a k hp s st h.1) (sndSs a k hp r rest h.2)
end
end
end SC
end
end
section
set_option linter.all false
set_option maxRecDepth 100000
set_option Elab.async false
/-! SC26: every def keeps its promise. -/
noncomputable section
namespace SC
open PySem L2
/-- a def of the text -/
structure Df where
  x : Str
  qual : Str
  params : Arguments
  body : List Stmt
  scope : Scope
  N : List Str
  ps : List Str
  kws : List (Str × V)
abbrev Adr := Nat → Option (Addr × FuncData × List Str)
/-- what ties a law's tables to the module as it stands -/
structure Tie (Y : Lw) (F : Fc) (K : PySem.W.Frag) (mg : Str → Option Value) (A0 : Adr) : Prop where
  d : ∀ j fd', Y.fd j = some fd' → ∃ f fd, ∃ d : Df, A0 j = some (f, fd, d.ps) ∧ FunD K d.x d.qual d.params d.body d.scope [] d.kws f fd ∧ FnScope d.N d.ps d.scope ∧ chkSs F fd'.body ⟨d.N, d.scope.names, d.N⟩ d.body = true ∧ fd'.np = d.ps.length ∧ fd'.ns = d.N.length
  kp : ∀ j f fd ps, A0 j = some (f, fd, ps) → PySem.W.keepIn K (.ref f) = true
  fs : ∀ x j, F.fs.lookup x = some j → ∃ f fd ps, A0 j = some (f, fd, ps) ∧ mg x = some (.ref f) ∧ Binds K fd ps []
  cl : ∀ x c, F.cl.lookup x = some c → ∃ C, mg x = some (.ref C) ∧ Y.cls c = some C
  mkc : ∀ x c, F.cl.lookup x = some c → ∀ C, mg x = some (.ref C) → ∃ j f fd ps ds dvs dd, Y.T.init c = some j ∧ A0 j = some (f, fd, ps) ∧ Mk K C f ∧ Binds K fd ps ds ∧ Vals dvs ds ∧ (∀ n ρ h, denL Y.T (Y.Φ n) (F.dfl c) ρ h = .ok dd h) ∧ ∀ μ Hh, VRs K μ Hh dd dvs
  kw : ∀ x c m kw, F.kw.lookup x = some (c, m, kw) → ∃ C j f fd ps, mg x = some (.ref C) ∧ Y.cls c = some C ∧ Y.T.init c = some j ∧ A0 j = some (f, fd, ps) ∧ Mk K C f ∧ KBn K fd ps (m + 1) [kw] (fun us ws => us ++ ws) (fun us ws => us ++ ws)
  gl : ∀ x k, F.gl.lookup x = some k → ∃ (v : D) (y : V) (u : Value), Y.T.glb k = some v ∧ mg x = some u ∧ RelV y u ∧ ∀ μ Hh, VR K μ Hh v y
  bl : ∀ x ∈ F.bl, mg x = none
  nd : Y.names.Nodup
  ccl : ∀ c C, Y.cls c = some C → Cls K C
  ic : ∀ c C, Y.cls c = some C → IsC Y K c C
  nm : ∀ x m, F.ms.lookup x = some m → Y.names[m]? = some x
  na : ∀ x ∈ F.fld, ∀ c C, Y.cls c = some C → NoAttr K C x
  mt : ∀ x m, F.ms.lookup x = some m → ∀ c j, Y.T.meth c m = some j → ∃ C f fd ps, Y.cls c = some C ∧ Meth K C x f ∧ A0 j = some (f, fd, ps) ∧ Binds K fd ps []
  ln : ∀ c j, Y.T.len c = some j → ∃ C f fd ps, Y.cls c = some C ∧ PySem.W.findIn K (.ref C) "__len__" = some (some (.ref f)) ∧ PySem.W.typeIn K (.ref f) = some (.type "function") ∧ A0 j = some (f, fd, ps) ∧ Binds K fd ps []
section
variable {Y : Lw} {F : Fc} {K : PySem.W.Frag} {mg : Str → Option Value} {A0 : Adr} {P : Program} {w : World} {base : Heap}
/-- all promises n deep -/
def AllOk (Y : Lw) (P : Program) (w : World) (K : PySem.W.Frag) (mg : Str → Option Value) (base : Heap) (A0 : Adr) (n : Nat) : Prop :=
  ∀ j f fd ps, A0 j = some (f, fd, ps) → FnOk P w K mg base CX0 (2 * n) f fd ps (spF ⟨P, w, K, Y.T, Y.names, Y.cls⟩ Y.fd n j)
theorem Tie.fa (t : Tie Y F K mg A0) {n : Nat} (ok : AllOk Y P w K mg base A0 n) {X : Cx} (hP : X.prog = P) (hw : X.w = w) (hK : X.K = K) (hm : X.mg = mg) (hb : X.base = base) (hc : X.calm = true) (hr : Room (2 * n + 1) X.A) : Fa Y X n F := by
  subst hP hw hK hm hb
  have r0 : Room (2 * n) X.A := hr.mono (by omega)
  refine ⟨hc, by have := hr.un; omega, fun x j e => ?_, t.cl, fun x c e C hC => ?_, fun x c m kw e => ?_, fun x k e => ⟨t.gl x k e⟩, t.bl, ⟨t.nd, t.ccl⟩, t.ic, t.nm, t.na, fun x m e => ⟨t.nm x m e, t.nd, fun c j h => ?_⟩, ⟨fun c j h => ?_⟩⟩
  · obtain ⟨f, fd, ps, h1, h2, h3⟩ := t.fs x j e
    exact ⟨f, h2, ⟨2 * n, fd, ps, [], ok j f fd ps h1, r0, h3, .nil, t.kp j f fd ps h1⟩⟩
  · obtain ⟨j, f, fd, ps, ds, dvs, dd, h1, h2, h3, h4, h5, h6, h7⟩ := t.mkc x c e C hC
    obtain ⟨C', q1, q2⟩ := t.cl x c e
    have : C' = C := by rw [hC] at q1; cases q1; rfl
    subst this
    exact ⟨dvs, dd, ⟨q2, j, f, h1, h3, ⟨2 * n, fd, ps, ds, ok j f fd ps h2, hr, h4, h5, t.kp j f fd ps h2⟩⟩, h6 n, h7⟩
  · obtain ⟨C, j, f, fd, ps, h1, h2, h3, h4, h5, h6⟩ := t.kw x c m kw e
    exact ⟨C, h1, ⟨h2, j, f, 2 * n, fd, ps, h3, h5, ok j f fd ps h4, hr, h6⟩⟩
  · obtain ⟨C, f, fd, ps, h1, h2, h3, h4⟩ := t.mt x m e c j h
    exact ⟨C, f, h1, t.ccl c C h1, h2, ⟨2 * n, fd, ps, [], ok j f fd ps h3, r0, h4, .nil, t.kp j f fd ps h3⟩⟩
  · obtain ⟨C, f, fd, ps, h1, h2, h3, h4, h5⟩ := t.ln c j h
    exact ⟨C, f, 2 * n, fd, ps, h1, h2, h3, ok j f fd ps h4, hr, h5⟩
/-! ### the entry -/
theorem start_rs {X : Cx} {μ : List Addr} {h : H} {Hh : Hp} {ds : List D} {vs : List V} {N : List Str} {fd : Fd} (r : RH (Y.sx X) μ h Hh) (ws : VRs X.K μ Hh ds vs) (hn : fd.ns = N.length) (hl : ds.length ≤ N.length) : RS (Y.sx X) μ h (startE fd ds) (L2.start N vs) Hh := by
  have e := ws.length
  refine ⟨r, fun i d hd => ?_, by simp [startE, L2.start, hn, e]⟩
  unfold startE at hd
  by_cases hi : i < ds.length
  · rw [List.getElem?_append_left (by simpa using hi), List.getElem?_map] at hd
    cases ed : ds[i]? with
    | none => rw [ed] at hd; cases hd
    | some d' =>
      rw [ed] at hd
      cases hd
      obtain ⟨v, h1, h2⟩ := ws.get ed
      refine ⟨v, ?_, h2⟩
      unfold L2.start
      rw [List.getElem?_append_left (by rw [List.length_map, ← e]; exact hi), List.getElem?_map, h1]
      rfl
  · rw [List.getElem?_append_right (by simpa using hi), List.getElem?_replicate] at hd
    split at hd <;> cases hd
/-- what a body's end gives -/
theorem ends_fin {X : Cx} {μ : List Addr} {Hh : Hp} {Q : VK} {o : Out} {k : D → H → Prop} (g : Good (fin o) k) (q : ∀ v h', k v h' → ∀ μ' H' x, Ext X.K μ Hh μ' H' → RH (Y.sx X) μ' h' H' → VR X.K μ' H' v x → Q x H') :
    EndsOk Y X o { nx := fun _ H' => Q .non H', rt := Q } μ Hh := by
  cases o with
  | nx ρ h => exact fun μ' H' σ' x r => q .non h g μ' H' .non x r.rh .non
  | rt v h => exact fun μ' H' y x r w => q v h g μ' H' y x r w
  | _ => exact g.elim
/-- a new list of pure values outlives its heap -/
theorem RH.backL {X : Cx} {μ μ' : List Addr} {h h1 : H} {Hh Hh' : Hp} {p : Nat} {xs : List D} {a : Addr} (r : RH (Y.sx X) μ h Hh) (r1 : RH (Y.sx X) μ' h1 Hh') (e : Ext X.K μ Hh μ' Hh') (pr : Pr { h with fl := h.o.length } h1) (eo : h1.o[p]? = some (.lst xs)) (hp : h.o.length ≤ p) (hx : D.pures xs = true) (ea : μ'[p]? = some a) :
    Ext X.K μ Hh (μ ++ [a]) Hh' ∧ RH (Y.sx X) (μ ++ [a]) (h.push (.lst xs)) Hh' := by
  have b := r.back r1 e pr
  have ha : a ∉ μ := fun hm => by
    obtain ⟨m, hm, em⟩ := List.getElem_of_mem hm
    have e1 : μ[m]? = some a := by rw [List.getElem?_eq_getElem hm, em]
    have e2 := pre_get e.pre e1
    obtain ⟨q1, q2⟩ := List.getElem?_eq_some_iff.mp e2
    obtain ⟨q3, q4⟩ := List.getElem?_eq_some_iff.mp ea
    have := (List.getElem_inj r1.nd).mp (q2.trans q4.symm)
    have : m < h.o.length := by rw [← r.len]; exact hm
    omega
  obtain ⟨ys, h1', h2'⟩ := r1.list eo ea
  refine ⟨⟨List.prefix_append _ _, e.tup⟩, by simp [H.push, r.len], ?_, fun m o b' e1 e2 => ?_, fun m hm => by have := r.lko m hm; simp [H.push]; omega⟩
  · rw [List.nodup_append]
    exact ⟨r.nd, by simp, fun x hx y hy => by simp at hy; subst hy; exact fun z => ha (z ▸ hx)⟩
  · by_cases hlt : m < h.o.length
    · have e1' : h.o[m]? = some o := by
        have : (h.o ++ [AO.lst xs])[m]? = some o := e1
        rwa [List.getElem?_append_left hlt] at this
      have e2' : μ[m]? = some b' := by rwa [List.getElem?_append_left (by rw [r.len]; exact hlt)] at e2
      exact (b.obj m o b' e1' e2').mono (X := Y.sx X) ⟨List.prefix_append _ _, TK.refl⟩ rfl
    · have hlt2 : m < (h.o ++ [AO.lst xs]).length := (List.getElem?_eq_some_iff.mp e1).1
      have em : m = h.o.length := by simp at hlt2; omega
      subst em
      have e3 : o = .lst xs := by
        have : (h.o ++ [AO.lst xs])[h.o.length]? = some o := e1
        simp at this
        exact this.symm
      have e4 : b' = a := by
        rw [← r.len] at e2
        simp at e2
        exact e2.symm
      subst e3 e4
      exact ⟨ys, h1', VRs.pure _ _ hx h2'⟩
theorem gets_get {h : H} : ∀ {ks : List Nat} {os : List AO}, gets h ks = some os → ∀ (i : Nat) (o : AO), os[i]? = some o → ∃ k, ks[i]? = some k ∧ h.o[k]? = some o
  | [], os, e, i, o, q => by simp [gets] at e; subst e; simp at q
  | k :: r, os, e, i, o, q => by
    simp only [gets] at e
    split at e
    · rename_i o1 l e1 e2
      cases e
      cases i with
      | zero => simp at q; subst q; exact ⟨k, rfl, e1⟩
      | succ i =>
        obtain ⟨k', h1, h2⟩ := gets_get e2 i o (by simpa using q)
        exact ⟨k', by simpa using h1, h2⟩
    · cases e
theorem gets_len {h : H} : ∀ {ks : List Nat} {os : List AO}, gets h ks = some os → os.length = ks.length
  | [], os, e => by simp [gets] at e; subst e; rfl
  | k :: r, os, e => by
    simp only [gets] at e
    split at e
    · rename_i o1 l e1 e2
      cases e
      simp [gets_len e2]
    · cases e
section
variable {K' : PySem.W.Frag} {μ μ1 : List Addr} {Hh' : Hp} {ks : List Nat} {as : List Addr}
/-- where an address went -/
structure RenM (n : Nat) (ks : List Nat) (μ1 μ2 : List Addr) : Prop where
  old : ∀ (p : Nat) a, p < n → μ1[p]? = some a → μ2[p]? = some a
  new : ∀ (p : Nat) a, p ∈ ks → μ1[p]? = some a → μ2[n + ks.idxOf p]? = some a
variable {n : Nat} {μ2 : List Addr}
mutual
theorem VR.ren (m : RenM n ks μ1 μ2) : ∀ (d : D) (x : V), d.clo n ks = true → VR K' μ1 Hh' d x → VR K' μ2 Hh' (d.ren n ks) x
  | _, _, _, .non => by simp only [D.ren]; exact .non
  | _, _, _, .bl b => by simp only [D.ren]; exact .bl b
  | _, _, _, .int i => by simp only [D.ren]; exact .int i
  | _, _, _, .str s => by simp only [D.ren]; exact .str s
  | _, _, c, .tup t ts => by
    simp only [D.ren]
    exact .tup t (VRs.ren m _ _ (by simpa [D.clo] using c) ts)
  | .ref p, _, c, .ref e => by
    simp only [D.ren]
    split
    · rename_i h; exact .ref (m.old p _ h e)
    · rename_i h
      simp only [D.clo, Bool.or_eq_true, decide_eq_true_eq] at c
      rcases c with c | c
      · exact absurd c h
      · exact .ref (m.new p _ (by simpa using c) e)
theorem VRs.ren (m : RenM n ks μ1 μ2) : ∀ (d : List D) (x : List V), D.clos n ks d = true → VRs K' μ1 Hh' d x → VRs K' μ2 Hh' (D.rens n ks d) x
  | _, _, _, .nil => by simp only [D.rens]; exact .nil
  | _, _, c, .cons h hs => by
    simp only [D.clos, Bool.and_eq_true] at c
    simp only [D.rens]
    exact .cons (VR.ren m _ _ c.1 h) (VRs.ren m _ _ c.2 hs)
end
theorem KR.ren (m : RenM n ks μ1 μ2) : ∀ {r s}, D.clos n ks (r.map (·.2)) = true → KR K' μ1 Hh' r s → KR K' μ2 Hh' (r.map fun p => (p.1, D.ren n ks p.2)) s
  | _, _, _, .nil => .nil
  | _, _, c, .cons h t => by
    simp only [List.map_cons, D.clos, Bool.and_eq_true] at c
    exact .cons (VR.ren m _ _ c.1 h) (KR.ren m c.2 t)
theorem TR.ren (m : RenM n ks μ1 μ2) : ∀ {r s}, D.clos n ks (r.map (·.2)) = true → TR K' μ1 Hh' r s → TR K' μ2 Hh' (r.map fun p => (p.1, D.ren n ks p.2)) s
  | _, _, _, .nil => .nil
  | _, _, c, .cons p h g q t => by
    simp only [List.map_cons, D.clos, Bool.and_eq_true] at c
    refine .cons p (VR.pure _ _ ?_ h) (VR.ren m _ _ c.1 g) q (TR.ren m c.2 t)
    revert p
    rename_i k _ _ _ _ _ _
    cases k <;> simp [keyT, D.pure]
    exact fun h _ => h
theorem FR.ren {names : List Str} (m : RenM n ks μ1 μ2) : ∀ {r s}, D.clos n ks (r.map (·.2)) = true → FR names K' μ1 Hh' r s → FR names K' μ2 Hh' (r.map fun p => (p.1, D.ren n ks p.2)) s
  | _, _, _, .nil => .nil
  | _, _, c, .cons p h t => by
    simp only [List.map_cons, D.clos, Bool.and_eq_true] at c
    exact .cons p (VR.ren m _ _ c.1 h) (FR.ren m c.2 t)
end
theorem OR.ren {X : Sx} {n : Nat} {ks : List Nat} {μ1 μ2 : List Addr} {Hh' : Hp} {a : Addr} {lk : Bool} {o : AO} (m : RenM n ks μ1 μ2) (c : D.clos n ks o.vals = true) (x : OR X μ1 Hh' a lk o) : OR X μ2 Hh' a lk (o.ren n ks) := by
  cases o with
  | lst xs => obtain ⟨ys, h1, h2⟩ := x; exact ⟨ys, h1, VRs.ren m _ _ c h2⟩
  | fz xs => obtain ⟨o, ys, h1, h2⟩ := x; exact ⟨o, ys, h1, VRs.ren m _ _ c h2⟩
  | dK kvs =>
    obtain ⟨ws, h1, h2, h3⟩ := x
    exact ⟨ws, h1, KR.ren m c h2, by rw [List.map_map]; exact h3⟩
  | dT kvs =>
    obtain ⟨xs, h1, h2, h3, h4, h5⟩ := x
    exact ⟨xs, h1, h2, by simpa using h3, TR.ren m c h4, h5⟩
  | ins k fs => obtain ⟨C, dx, gs, h1, h2, h3⟩ := x; exact ⟨C, dx, gs, h1, h2, FR.ren m c h3⟩
/-- what is still reached outlives its heap -/
theorem RH.backG {X : Cx} {μ μ' : List Addr} {h h1 : H} {Hh Hh' : Hp} {ks : List Nat} {os : List AO} (r : RH (Y.sx X) μ h Hh) (r1 : RH (Y.sx X) μ' h1 Hh') (e : Ext X.K μ Hh μ' Hh') (pr : Pr { h with fl := h.o.length } h1) (eg : gets h1 ks = some os) (hc : ∀ o ∈ os, D.clos h.o.length ks o.vals = true) (hk : ∀ k ∈ ks, h.o.length ≤ k) (hd : ks.Nodup) :
    ∃ μ2, Ext X.K μ Hh μ2 Hh' ∧ RH (Y.sx X) μ2 { h with o := h.o ++ os.map (AO.ren h.o.length ks) } Hh' ∧ RenM h.o.length ks μ' μ2 := by
  have b := r.back r1 e pr
  have lo := gets_len eg
  have hks : ∀ k ∈ ks, ∃ a, μ'[k]? = some a := fun k hk' => by
    obtain ⟨i, hi, rfl⟩ := List.getElem_of_mem hk'
    obtain ⟨k', q1, q2⟩ := gets_get eg i os[i] (List.getElem?_eq_getElem (by omega))
    rw [List.getElem?_eq_getElem hi] at q1
    cases q1
    have := (List.getElem?_eq_some_iff.mp q2).1
    exact ⟨_, List.getElem?_eq_getElem (by rw [r1.len]; exact this)⟩
  have hlen : h.o.length ≤ μ'.length := by rw [← r.len]; exact e.pre.length_le
  let f : Nat → Addr := fun k => μ'.getD k 0
  have fk : ∀ k ∈ ks, μ'[k]? = some (f k) := fun k hk' => by
    obtain ⟨a, ea⟩ := hks k hk'
    simp [f, List.getD_eq_getElem?_getD, ea]
  let μ2 := μ ++ ks.map f
  have inj : ∀ (i j : Nat) a, μ'[i]? = some a → μ'[j]? = some a → i = j := fun i j a h1 h2 => by
    obtain ⟨p1, p2⟩ := List.getElem?_eq_some_iff.mp h1
    obtain ⟨p3, p4⟩ := List.getElem?_eq_some_iff.mp h2
    exact (List.getElem_inj r1.nd).mp (p2.trans p4.symm)
  have rm : RenM h.o.length ks μ' μ2 := by
    refine ⟨fun p a hp ea => ?_, fun p a hp ea => ?_⟩
    · have hp' : p < μ.length := by rw [r.len]; exact hp
      rw [List.getElem?_append_left hp']
      have := pre_get e.pre (List.getElem?_eq_getElem hp')
      rw [this] at ea
      rw [List.getElem?_eq_getElem hp', ea]
    · rw [List.getElem?_append_right (by rw [r.len]; omega), r.len, Nat.add_sub_cancel_left, List.getElem?_map]
      have hi := List.idxOf_lt_length_of_mem hp
      rw [List.getElem?_eq_getElem hi, List.getElem_idxOf]
      have := fk p hp
      rw [this] at ea
      cases ea
      rfl
  refine ⟨μ2, ⟨List.prefix_append _ _, e.tup⟩, ?_, rm⟩
  refine ⟨by simp [μ2, r.len, lo], ?_, fun m o b' e1 e2 => ?_, fun m hm => by have := r.lko m hm; simp; omega⟩
  · rw [List.nodup_append]
    refine ⟨r.nd, ?_, fun x hx y hy => ?_⟩
    · rw [List.nodup_iff_pairwise_ne] at hd ⊢
      rw [List.pairwise_map]
      refine List.Pairwise.imp_of_mem (fun {a c} ha hc' hac z => hac ?_) hd
      exact inj a c _ (fk a ha) (by rw [z]; exact fk c hc')
    · obtain ⟨k, hk', rfl⟩ := List.mem_map.mp hy
      intro z
      subst z
      obtain ⟨m, hm, em⟩ := List.getElem_of_mem hx
      have q1 : μ[m]? = some (f k) := by rw [List.getElem?_eq_getElem hm, em]
      have := inj m k _ (pre_get e.pre q1) (fk k hk')
      have := hk k hk'
      rw [r.len] at hm
      omega
  · by_cases hlt : m < h.o.length
    · have e1' : h.o[m]? = some o := by
        have : (h.o ++ os.map (AO.ren h.o.length ks))[m]? = some o := e1
        rwa [List.getElem?_append_left hlt] at this
      have e2' : μ[m]? = some b' := by rwa [List.getElem?_append_left (by rw [r.len]; exact hlt)] at e2
      exact (b.obj m o b' e1' e2').mono (X := Y.sx X) ⟨List.prefix_append _ _, TK.refl⟩ rfl
    · obtain ⟨i, rfl⟩ : ∃ i, m = h.o.length + i := ⟨m - h.o.length, by omega⟩
      have e3 : (os.map (AO.ren h.o.length ks))[i]? = some o := by
        have : (h.o ++ os.map (AO.ren h.o.length ks))[h.o.length + i]? = some o := e1
        rwa [List.getElem?_append_right (Nat.le_add_right _ _), Nat.add_sub_cancel_left] at this
      have e4 : (ks.map f)[i]? = some b' := by
        have : (μ ++ ks.map f)[h.o.length + i]? = some b' := e2
        rwa [List.getElem?_append_right (by rw [r.len]; omega), r.len, Nat.add_sub_cancel_left] at this
      rw [List.getElem?_map] at e3 e4
      cases eo : os[i]? with
      | none => rw [eo] at e3; cases e3
      | some o0 =>
        rw [eo] at e3
        cases e3
        obtain ⟨k, q1, q2⟩ := gets_get eg i o0 eo
        rw [q1] at e4
        cases e4
        have hkm : k ∈ ks := List.mem_of_getElem? q1
        have q := r1.obj k o0 (f k) q2 (fk k hkm)
        have lk : h1.lk.contains k = false := by
          rw [pr.lk]
          cases z : h.lk.contains k with
          | false => rfl
          | true =>
            have := r.lko k (by simpa using z)
            have := hk k hkm
            omega
        rw [lk] at q
        have lk2 : (h.lk.contains (h.o.length + i)) = false := by
          cases z : h.lk.contains (h.o.length + i) with
          | false => rfl
          | true =>
            have := r.lko _ (by simpa using z)
            omega
        show OR (Y.sx X) μ2 Hh' (f k) (h.lk.contains (h.o.length + i)) _
        rw [lk2]
        exact q.ren rm (hc o0 (List.mem_of_getElem? eo))
/-- a body's run is its def's run -/
theorem body_of {X : Cx} {n j : Nat} {fd : Fd} {N : List Str} {μ : List Addr} {h : H} {Hh : Hp} {ds : List D} {vs : List V} {Q : VK} (r : RH (Y.sx X) μ h Hh) (ws : VRs X.K μ Hh ds vs) (hn : fd.ns = N.length)
    (g : Good (runF Y.T (Y.Φ n) fd ds h) fun v h' => ∀ μ' H' x, Ext X.K μ Hh μ' H' → RH (Y.sx X) μ' h' H' → VR X.K μ' H' v x → Q x H') :
    tSs Y X n fd.body { nx := fun _ H' => Q .non H', rt := Q } (L2.start N vs) Hh := by
  unfold runF at g
  split at g
  · rename_i hl
    have hle : ds.length ≤ N.length := by rw [← hn, hl.1]; exact hl.2
    have rf : RH (Y.sx X) μ { h with fl := h.o.length } Hh := r.same rfl rfl
    split at g
    · exact ⟨μ, h, _, start_rs r ws hn hle, ends_fin g fun v h' k => k⟩
    · split at g
      · rename_i v h1 e1
        refine ⟨μ, _, _, start_rs rf ws hn hle, ends_fin (k := fun v' h1' => v' = v ∧ h1' = h1) (by rw [e1]; exact ⟨rfl, rfl⟩) fun v' h1' ⟨z1, z2⟩ μ' H' x x1 r1 w1 => ?_⟩
        subst z1 z2
        split at g
        · rename_i hp
          have pr := fin_pr (execs_pr (T := Y.T) (Φ := Y.Φ n) (Phi_pr Y.fd n) fd.body (startE fd ds) { h with fl := h.o.length })
          rw [e1] at pr
          exact g μ H' x ⟨List.prefix_refl _, x1.tup⟩ (r.back r1 x1 pr) (VR.pure _ _ hp w1)
        · exact g.elim
      · exact g.elim
    · split at g
      · rename_i p h1 e1
        refine ⟨μ, _, _, start_rs rf ws hn hle, ends_fin (k := fun v' h1' => v' = .ref p ∧ h1' = h1) (by rw [e1]; exact ⟨rfl, rfl⟩) fun v' h1' ⟨z1, z2⟩ μ' H' x x1 r1 w1 => ?_⟩
        subst z1 z2
        split at g
        · rename_i xs eo
          split at g
          · rename_i hc
            simp only [Bool.and_eq_true, decide_eq_true_eq] at hc
            have pr := fin_pr (execs_pr (T := Y.T) (Φ := Y.Φ n) (Phi_pr Y.fd n) fd.body (startE fd ds) { h with fl := h.o.length })
            rw [e1] at pr
            cases w1 with
            | @ref _ a ea =>
              obtain ⟨k1, k2⟩ := r.backL r1 x1 pr eo hc.1 hc.2 ea
              exact g _ H' _ k1 k2 (.ref (by rw [← r.len]; simp))
          · exact g.elim
        · exact g.elim
      · exact g.elim
    · split at g
      · rename_i v h1 e1
        refine ⟨μ, _, _, start_rs rf ws hn hle, ends_fin (k := fun v' h1' => v' = v ∧ h1' = h1) (by rw [e1]; exact ⟨rfl, rfl⟩) fun v' h1' ⟨z1, z2⟩ μ' H' x x1 r1 w1 => ?_⟩
        subst z1 z2
        unfold gcD at g
        split at g
        · rename_i ks ev
          split at g
          · rename_i os eg
            split at g
            · rename_i hc
              simp only [Bool.and_eq_true, decide_eq_true_eq, List.all_eq_true] at hc
              obtain ⟨⟨c1, c2⟩, c3, c4⟩ := hc
              have pr := fin_pr (execs_pr (T := Y.T) (Φ := Y.Φ n) (Phi_pr Y.fd n) fd.body (startE fd ds) { h with fl := h.o.length })
              rw [e1] at pr
              obtain ⟨μ2, k1, k2, k3⟩ := r.backG r1 x1 pr eg c2 c3 c4
              exact g μ2 H' _ k1 k2 (VR.ren k3 _ _ c1 w1)
            · exact g.elim
          · exact g.elim
        · exact g.elim
      · exact g.elim
  · exact g.elim
theorem all_ok (t : Tie Y F K mg A0) : ∀ n, AllOk Y P w K mg base A0 n
  | 0, j, f, fd, ps, e => ⟨fun vs H Q E ⟨_, _, _, _, _, g⟩ => g.elim, fun A outer s H args us vs Q E _ _ _ _ ⟨_, _, _, _, _, g⟩ => g.elim⟩
  | n + 1, j, f, fd, ps, e => by
    have ih := all_ok t n
    cases ej : Y.fd j with
    | none =>
      have no : ∀ {vs H Q E}, ¬ spF ⟨P, w, K, Y.T, Y.names, Y.cls⟩ Y.fd (n + 1) j vs H Q E := fun {vs H Q E} ⟨_, _, _, _, _, g⟩ => by
        simp only [Phi, ej] at g
        exact g
      exact ⟨fun vs H Q E z => (no z).elim, fun A outer s H args us vs Q E _ _ _ _ z => (no z).elim⟩
    | some fd' =>
      obtain ⟨f', fdd, d, h1, h2, h3, h4, h5, h6⟩ := t.d j fd' ej
      rw [e] at h1
      cases h1
      have key : 2 * (n + 1) = (2 * n + 1) + 1 := by omega
      rw [key]
      refine h2.ok h3 (fun vs H Q E ⟨μ, h, ds, r, ws, g⟩ => ?_) fun cdv A outer s H vs Q E hr ⟨μ, h, ds, r, ws, g⟩ => ?_
      · simp only [Phi, ej] at g
        rw [← ws.length]
        unfold runF at g
        split at g
        · rename_i hl; rw [hl.1, h5]
        · exact g.elim
      · simp only [Phi, ej] at g
        refine ⟨tSs Y (cxOf CX0 P w K mg base d.N d.qual d.scope f cdv A outer s H E).nox n fd'.body, PSs.nox ?_, body_of (j := j) r ws h6 g⟩
        refine sndSs (t.fa ih rfl rfl rfl rfl rfl rfl hr) ⟨rfl, h3.nd, rfl, h3.kind, fun _ _ => rfl⟩ ?_ _ _ h4
        exact .never
end
end SC
end
end
section
set_option linter.all false
set_option maxRecDepth 100000
set_option Elab.async false
/-! SC27: the head's facts. -/
noncomputable section
namespace SC
open PySem L2
/-! ### own facts, by a Bool -/
def ftup (K : PySem.W.Frag) (x : Str) (vs : List He.Dv) : Bool := match PySem.W.nsIn K mainGlobals x with
  | some (some (.ref a)) => decide (a = He.ga K x) && (match K.lookup (He.ga K x) with
    | some ⟨.type c, none, .seq its _, _⟩ => decide (c = "tuple") && (decide (its.size ≤ sizeLine) && He.relAll (vs.map (He.Dv.v K)) its.toList)
    | _ => false)
  | _ => false
theorem ftup_ok {K : PySem.W.Frag} {x : Str} {vs : List He.Dv} (h : ftup K x vs = true) : PySem.W.nsIn K mainGlobals x = some (some (.ref (He.ga K x))) ∧ ∀ Hh, TpA K Hh (He.ga K x) (vs.map (He.Dv.v K)) := by
  unfold ftup at h
  split at h
  · rename_i a ea
    simp only [Bool.and_eq_true, decide_eq_true_eq] at h
    obtain ⟨e1, h⟩ := h
    subst e1
    refine ⟨ea, fun Hh => ?_⟩
    split at h
    · rename_i c its m sl el
      simp only [Bool.and_eq_true, decide_eq_true_eq] at h
      exact .inr ⟨_, its, m, el, by rw [h.1], rfl, rfl, h.2.1, He.relAll_ok h.2.2⟩
    · cases h
  · cases h
def fisc (K : PySem.W.Frag) (x : Str) : Bool :=
  He.eqO (PySem.W.findIn K (.ref (He.ga K x)) "__class__") (some (some (.builtin "object.__class__"))) && He.eqO (PySem.W.specialIn K (.builtin "object.__class__") "__get__") (some (some (.builtin "getset_descriptor.__get__"))) &&
    decide (PySem.W.takesIn K (.builtin "object.__class__") = some true)
/-! ### the hook -/
def obsX (fa : List He.Fa) (fn : List He.DefD) (B : PySem.W.Frag → Bool) (K : PySem.W.Frag) : He.AlD := ((fa.all fun f => f.ok K) && (fn.all fun d => d.ok K) && B K, fn.map fun d => He.fnW K d.at_)
def SaysX (fa : List He.Fa) (fn : List He.DefD) (B : PySem.W.Frag → Bool) (K : PySem.W.Frag) : Prop := obsX fa fn B K = He.valD fn
def obsXG (n : Nat) (fa : List He.Fa) (fn : List He.DefD) (B : PySem.W.Frag → Bool) (g : Addr → Option Obj) : He.AlD := obsX fa fn B (He.frG g (He.asD g n))
def hookX (n : Nat) (fa : List He.Fa) (fn : List He.DefD) (B : PySem.W.Frag → Bool) : PySem.W.Hook where
  α := He.AlD
  obs := fun s => obsXG n fa fn B s.heap.get?
  val := fun _ => He.valD fn
  says := fun _ h => ∃ K : PySem.W.Frag, K.In h ∧ SaysX fa fn B K
  of := fun _ _ e => ⟨_, He.frG_in, e⟩
  keeps := fun _ _ _ ⟨K, hK, c⟩ k => ⟨K, PySem.W.Frag.In.keeps hK k, c⟩
theorem obsXG_eq {n : Nat} {fa : List He.Fa} {fn : List He.DefD} {B : PySem.W.Frag → Bool} {g : Addr → Option Obj} {s : Shared} (h : ∀ a, g a = s.heap.get? a) : obsXG n fa fn B g = (hookX n fa fn B).obs s := by
  have e : g = s.heap.get? := funext h
  rw [e] <;> rfl
section
variable {fa : List He.Fa} {fn : List He.DefD} {B : PySem.W.Frag → Bool} {K : PySem.W.Frag}
theorem SaysX.all (c : SaysX fa fn B K) : (fa.all fun f => f.ok K) = true ∧ (fn.all fun d => d.ok K) = true ∧ B K = true := by
  have c1 : ((fa.all fun f => f.ok K) && (fn.all fun d => d.ok K) && B K) = true := congrArg (fun z : He.AlD => z.1) c
  simp only [Bool.and_eq_true] at c1
  exact ⟨c1.1.1, c1.1.2, c1.2⟩
theorem SaysX.fact (c : SaysX fa fn B K) {f : He.Fa} (h : f ∈ fa) : f.ok K = true := List.all_eq_true.mp c.all.1 f h
theorem SaysX.def_ (c : SaysX fa fn B K) (i : Nat) {d : He.DefD} (h : fn[i]? = some d) : ∃ fd, FunD K d.name d.qual d.params d.body d.scope (d.dvs K) (d.kws K) (He.fAd K d.at_) fd := by
  have e : fn.map (fun d => He.fnW K d.at_) = fn.map He.DefD.val := congrArg (fun z : He.AlD => z.2) c
  have e2 : (fn.map fun d => He.fnW K d.at_)[i]? = (fn.map He.DefD.val)[i]? := by rw [e]
  rw [List.getElem?_map, List.getElem?_map, h] at e2
  exact He.DefD.funD (Option.some.inj e2) (List.all_eq_true.mp c.all.2.1 d (List.mem_of_getElem? h))
end
end SC
end
end
section
set_option linter.all false
set_option maxRecDepth 100000
set_option Elab.async false
/-! SC28: the law's promise. -/
noncomputable section
namespace SC
open PySem L2
/-- no list stands in the module -/
def noLst (K : PySem.W.Frag) : Bool := K.all fun p => match p.2.cls with
  | .type c => !(c == "list")
  | _ => true
theorem look_mem {K : PySem.W.Frag} {a : Addr} {o : Obj} (h : K.lookup a = some o) : ∃ b, (b, o) ∈ K := by
  induction K with
  | nil => cases h
  | cons p r ih =>
    obtain ⟨b, u⟩ := p
    have h' : List.lookup a ((b, u) :: r) = some o := h
    rw [List.lookup_cons] at h'
    cases e : a == b with
    | true => rw [e] at h'; cases h'; exact ⟨b, List.mem_cons_self⟩
    | false =>
      rw [e] at h'
      obtain ⟨c, hc⟩ := ih h'
      exact ⟨c, List.mem_cons_of_mem _ hc⟩
theorem noLst_ok {K : PySem.W.Frag} {H : Hp} {a : Addr} {xs : List V} (h : noLst K = true) (hO : Only H) (s : SqL K H a xs) : ∃ o, H a = some (.frz o (.lst xs)) := by
  rcases s with s | ⟨o, its, n, e, c, _⟩
  · rcases s with s | ⟨o, s⟩
    · rcases hO a with z | ⟨o, ys, z⟩
      · rw [s] at z; cases z
      · rw [s] at z; cases z
    · exact ⟨o, s⟩
  · obtain ⟨b, hb⟩ := look_mem e
    have := List.all_eq_true.mp h _ hb
    simp only [c] at this
    simp at this
theorem vrs_ints_of {K : PySem.W.Frag} {μ : List Addr} {H : Hp} : ∀ ns : List Int, VRs K μ H (ns.map D.int) (ns.map V.int)
  | [] => .nil
  | n :: ns => .cons (.int n) (vrs_ints_of ns)
def scrH (ns : List Int) : H := ⟨[.fz (ns.map D.int)], 0, []⟩
theorem law_sp {S : Sx} {fd : Nat → Option Fd} {n j m : Nat} (hK : noLst S.K = true) (h : ∀ ns : List Int, ns.length ≤ m → ∃ h', Phi S.T fd n j [.ref 0] (scrH ns) = .ok (.bl true) h') (H : Hp) (a : Addr) (ns : List Int) (hl : ns.length ≤ m) (hO : Only H) (hs : SqL S.K H a (ns.map V.int)) :
    spF S fd n j [.ref a] H (fun v _ => v = .bl true) (fun _ _ _ => False) := by
  obtain ⟨o, e⟩ := noLst_ok hK hO hs
  obtain ⟨h', eh⟩ := h ns hl
  refine ⟨[a], scrH ns, [.ref 0], ⟨rfl, by simp, fun m ob b e1 e2 => ?_, fun m hm => by simp [scrH] at hm⟩, .cons (.ref rfl) .nil, ?_⟩
  · cases m with
    | zero =>
      simp [scrH] at e1 e2
      subst e1 e2
      exact ⟨o, ns.map V.int, e, vrs_ints_of ns⟩
    | succ m => simp [scrH] at e1
  · rw [eh]
    intro μ' H' x _ _ w
    cases w
    rfl
end SC
end
end
section
set_option linter.all false
set_option maxRecDepth 100000
set_option Elab.async false
/-! SC29: plain parameters are bound as they come. -/
noncomputable section
namespace SC
open PySem L2
theorem zip_look : ∀ {ps : List Str} {us : List Value}, ps.length = us.length → ∀ x ∈ ps, ((ps.zip us).lookup x).isSome = true
  | p :: ps, u :: us, h, x, hx => by
    simp only [List.zip_cons_cons, List.lookup_cons]
    cases e : x == p with
    | true => rfl
    | false =>
      rcases List.mem_cons.mp hx with z | z
      · subst z; simp at e
      · exact zip_look (by simpa using h) x z
theorem fm_congr {α β : Type} {f g : α → Option β} : ∀ {l : List α}, (∀ x ∈ l, f x = g x) → l.filterMap f = l.filterMap g
  | [], _ => rfl
  | a :: l, h => by
    rw [List.filterMap_cons, List.filterMap_cons, h a List.mem_cons_self, fm_congr fun x hx => h x (List.mem_cons_of_mem _ hx)]
theorem zip_map : ∀ {ps : List Str} {us : List Value}, ps.Nodup → ps.length = us.length → (ps.filterMap fun n => ((ps.zip us).lookup n).map (n, ·)) = ps.zip us
  | [], [], _, _ => rfl
  | p :: ps, u :: us, nd, h => by
    simp only [List.nodup_cons] at nd
    simp only [List.zip_cons_cons, List.filterMap_cons, List.lookup_cons, beq_self_eq_true, Option.map_some]
    refine congrArg _ ?_
    have ih := zip_map (us := us) nd.2 (by simpa using h)
    refine Eq.trans (fm_congr fun x hx => ?_) ih
    have : (x == p) = false := by
      rw [beq_eq_false_iff_ne]
      exact fun e => nd.1 (e ▸ hx)
    simp only [this]
def plainP (a : Arguments) (ps : List Str) : Bool := a.posonlyargs.isEmpty && a.vararg.isNone && a.kwonlyargs.isEmpty && a.kwarg.isNone && decide (a.args.map (·.arg) = ps) && decide ps.Nodup
theorem bind_plain {name qual : Str} {params : Arguments} {body : List Stmt} {scope : Scope} {kV doc pm cdv ct : Value} {an : Option Addr} {ps : List Str} {us : List Value} (h : plainP params ps = true) (hl : us.length = ps.length) :
    bindArgs (PySem.W.fnOf name qual params body scope .none kV doc pm an cdv ct) ⟨us, []⟩ = pure (ps.zip us) := by
  unfold plainP at h
  simp only [Bool.and_eq_true, decide_eq_true_eq, List.isEmpty_iff, Option.isNone_iff_eq_none] at h
  obtain ⟨⟨⟨⟨⟨h1, h2⟩, h3⟩, h4⟩, h5⟩, h6⟩ := h
  have e0 : ∀ x ∈ ps, ((ps.zip us).lookup x).isNone = false := fun x hx => by
    have := zip_look hl.symm x hx
    cases e : (ps.zip us).lookup x with
    | none => rw [e] at this; cases this
    | some v => rfl
  have e1 : (ps.filter fun n => ((ps.zip us).lookup n).isNone) = [] := by
    rw [List.filter_eq_nil_iff]
    intro x hx
    rw [e0 x hx]
    simp
  have e2 := zip_map h6 hl.symm
  unfold bindArgs
  simp only [PySem.W.fnOf, h1, h2, h3, h4, h5, List.map_nil, List.nil_append, List.append_nil, List.forIn_nil, pure_bind]
  have es : seqItems? Value.none = pure none := rfl
  have c1 : (decide (us.length > ps.length) && (none : Option Arg).isNone) = false := by simp [hl]
  have t1 : (ps.drop ps.length) = [] := by simp
  rw [es, pure_bind]
  simp only [c1, Bool.false_eq_true, if_false, Option.getD_none, List.drop_nil, List.length_nil, Nat.sub_zero, List.take_length, e1, List.isEmpty_nil, Bool.not_true, t1, List.zip_nil_right, List.zip_nil_left, List.forIn_nil, pure_bind, e2]
end SC
end
end
section
set_option linter.all false
set_option maxRecDepth 100000
set_option Elab.async false
/-! SC30: a law's tables, tied to the module by Bools. -/
noncomputable section
namespace SC
open PySem L2
/-- one def: its number, its IR, where it stands, its slots, its parameters -/
structure Dn where
  j : Nat
  ir : Fd
  dd : He.DefD
  N : List Str
  ps : List Str
def scB (d : Dn) : Bool :=
  (match d.dd.scope.kind with | .function => true | _ => false) && !d.dd.scope.isCoroutine && !d.dd.scope.isGenerator && decide d.N.Nodup && decide (d.N.take d.ps.length = d.ps) &&
    (d.ps.all fun x => match d.dd.scope.names.lookup x with | some .local => true | some .cell => true | _ => false) && (d.dd.scope.names.all fun y => match y.2 with | .free => false | _ => true)
theorem scB_ok {d : Dn} (h : scB d = true) : FnScope d.N d.ps d.dd.scope := by
  unfold scB at h
  simp only [Bool.and_eq_true, Bool.not_eq_true', decide_eq_true_eq, List.all_eq_true] at h
  obtain ⟨⟨⟨⟨⟨⟨h1, h2⟩, h3⟩, h4⟩, h5⟩, h6⟩, h7⟩ := h
  refine ⟨?_, h2, h3, h4, h5, fun x hx => ?_, fun y hy e => ?_⟩
  · split at h1
    · assumption
    · cases h1
  · have := h6 x hx
    split at this
    · exact .inl (by assumption)
    · exact .inr (by assumption)
    · cases this
  · have := h7 y hy
    rw [e] at this
    cases this
def dnB (F : Fc) (d : Dn) : Bool := scB d && chkSs F d.ir.body ⟨d.N, d.dd.scope.names, d.N⟩ d.dd.body && decide (d.ir.np = d.ps.length) && decide (d.ir.ns = d.N.length) && d.dd.dfl.isEmpty
def fdAt (K : PySem.W.Frag) (p : Str × Option Str) : Option FuncData := match K.lookup (He.fAd K p) with
  | some ⟨_, _, .func fd, _⟩ => some fd
  | _ => none
def findD (dns : List Dn) (j : Nat) : Option Dn := dns.find? fun d => d.j == j
def adrOf (dns : List Dn) (K : PySem.W.Frag) : Adr := fun j => (findD dns j).bind fun d => (fdAt K d.dd.at_).map fun fd => (He.fAd K d.dd.at_, fd, d.ps)
def fdOf (dns : List Dn) : Nat → Option Fd := fun j => (findD dns j).map (·.ir)
theorem findD_mem {dns : List Dn} {j : Nat} {d : Dn} (h : findD dns j = some d) : d ∈ dns ∧ d.j = j := by
  refine ⟨List.mem_of_find?_eq_some h, ?_⟩
  have := List.find?_some h
  simpa using this
section
variable {fa : List He.Fa} {dns : List Dn} {B : PySem.W.Frag → Bool} {K : PySem.W.Frag} {F : Fc}
/-- each def's function object -/
theorem fun_of (c : SaysX fa (dns.map (·.dd)) B K) (hB : dns.all (dnB F) = true) {d : Dn} (hd : d ∈ dns) : ∃ fd, fdAt K d.dd.at_ = some fd ∧ FunD K d.dd.name d.dd.qual d.dd.params d.dd.body d.dd.scope [] (d.dd.kws K) (He.fAd K d.dd.at_) fd := by
  obtain ⟨i, hi, e⟩ := List.getElem_of_mem hd
  have e1 : (dns.map (·.dd))[i]? = some d.dd := by rw [List.getElem?_map, List.getElem?_eq_getElem hi, e]; rfl
  obtain ⟨fd, f⟩ := c.def_ i e1
  have hb := List.all_eq_true.mp hB d hd
  unfold dnB at hb
  simp only [Bool.and_eq_true, List.isEmpty_iff] at hb
  have ed : d.dd.dvs K = [] := by unfold He.DefD.dvs; rw [hb.2]; rfl
  rw [ed] at f
  refine ⟨fd, ?_, f⟩
  obtain ⟨oc, od, dV, kV, doc, pm, an, cdv, ct, osl, e1, e2, _⟩ := f.ex
  unfold fdAt
  rw [e2]
theorem adr_of (c : SaysX fa (dns.map (·.dd)) B K) (hB : dns.all (dnB F) = true) {j : Nat} {d : Dn} (h : findD dns j = some d) : ∃ fd, adrOf dns K j = some (He.fAd K d.dd.at_, fd, d.ps) ∧ FunD K d.dd.name d.dd.qual d.dd.params d.dd.body d.dd.scope [] (d.dd.kws K) (He.fAd K d.dd.at_) fd := by
  obtain ⟨fd, h1, h2⟩ := fun_of c hB (findD_mem h).1
  exact ⟨fd, by unfold adrOf; rw [h]; simp [h1], h2⟩
theorem binds_of {d : Dn} {f : Addr} {fd : FuncData} {kws : List (Str × V)} (g : FunD K d.dd.name d.dd.qual d.dd.params d.dd.body d.dd.scope [] kws f fd) (hp : plainP d.dd.params d.ps = true) : Binds K fd d.ps [] := g.bindsN fun _ _ _ _ _ _ us hl => bind_plain hp hl
end
end SC
end
end
section
set_option linter.all false
set_option maxRecDepth 100000
set_option Elab.async false
/-! SC31: Tie from Bools. -/
noncomputable section
namespace SC
open PySem L2
inductive Gv where
  | int (i : Int) | txs (l : List Str)
def Gv.d : Gv → D
  | .int i => .int i
  | .txs l => .tup (l.map D.str)
structure LawD where
  F : Fc
  dns : List Dn
  cn : List Str
  gv : List (Str × Gv)
  ini : List Nat
  mth : List (Nat × Nat × Nat)
  lens : List (Nat × Nat)
  names : List Str
  xB : PySem.W.Frag → Bool
def LawD.T (L : LawD) : Tab where
  glb := fun k => (L.gv[k]?).map fun p => p.2.d
  init := fun c => L.ini[c]?
  meth := fun c m => (L.mth.find? fun p => p.1 == c && p.2.1 == m).map fun p => p.2.2
  len := fun c => L.lens.lookup c
def LawD.Y (L : LawD) (K : PySem.W.Frag) : Lw := ⟨L.T, fdOf L.dns, L.names, fun c => (L.cn[c]?).map (He.ga K)⟩
def LawD.fa (L : LawD) : List He.Fa :=
  (L.F.fs.map fun p => .glo p.1) ++ (L.F.cl.map fun p => .glo p.1) ++ (L.F.bl.map .free) ++ (L.gv.filterMap fun p => match p.2 with | .int i => some (.int p.1 i) | _ => none) ++
    (L.cn.map .cls) ++ (L.cn.flatMap fun x => L.F.fld.map (.noat x)) ++ (L.cn.map .mkr) ++ (L.mth.filterMap fun p => match L.cn[p.1]?, L.names[p.2.1]? with | some x, some m => some (.meth x m) | _, _ => none) ++
    (L.lens.filterMap fun p => (L.cn[p.1]?).map fun x => .meth x "__len__")
def kitB2 (K : PySem.W.Frag) (cn : List Str) : Bool :=
  (cn.all fun x => (basicT.all fun t => decide (PySem.W.kitOne K (.type t) (.ref (He.ga K x)) = some false) && decide (PySem.W.kitOne K (.ref (He.ga K x)) (.type t) = some false)) && decide (PySem.W.mroIn K (He.ga K x) (.type "object") = some true)) &&
    ((List.range cn.length).all fun c => (List.range cn.length).all fun c' => match cn[c]?, cn[c']? with
      | some x, some y => decide (PySem.W.kitOne K (.ref (He.ga K x)) (.ref (He.ga K y)) = some (decide (c = c')))
      | _, _ => true)
def LawD.B (L : LawD) (K : PySem.W.Frag) : Bool :=
  noLst K && (L.cn.all (fisc K)) && kitB2 K L.cn && (L.gv.all fun p => match p.2 with | .txs l => ftup K p.1 (l.map .str) | _ => true) &&
    (L.lens.all fun p => match L.cn[p.1]? with | some x => decide (PySem.W.typeIn K (.ref (He.fAd K (x, some "__len__"))) = some (.type "function")) | none => true) && L.xB K
/-- def j stands at p, its parameters plain -/
def atB (L : LawD) (j : Nat) (p : Str × Option Str) : Bool := match findD L.dns j with
  | some d => decide (d.dd.at_ = p) && plainP d.dd.params d.ps
  | none => false
def LawD.ok (L : LawD) : Bool :=
  (L.F.fs.all fun p => atB L p.2 (p.1, none)) && (L.F.cl.all fun p => decide (L.cn[p.2]? = some p.1)) && (L.F.gl.all fun p => match L.gv[p.2]? with | some g => decide (g.1 = p.1) | none => false) &&
    (L.F.ms.all fun p => decide (L.names[p.2]? = some p.1)) && decide L.names.Nodup &&
    (L.mth.all fun p => match L.cn[p.1]?, L.names[p.2.1]? with | some x, some m => atB L p.2.2 (x, some m) | _, _ => false) &&
    (L.lens.all fun p => match L.cn[p.1]? with | some x => atB L p.2 (x, some "__len__") | none => false)
theorem lookup_mem' {α β : Type} [BEq α] [LawfulBEq α] {x : α} {y : β} : ∀ {l : List (α × β)}, l.lookup x = some y → (x, y) ∈ l
  | (a, b) :: l, h => by
    rw [List.lookup_cons] at h
    cases e : x == a with
    | true =>
      rw [e] at h
      cases h
      rw [eq_of_beq e]
      exact List.mem_cons_self
    | false =>
      rw [e] at h
      exact List.mem_cons_of_mem _ (lookup_mem' h)
section
variable {L : LawD} {K : PySem.W.Frag} {mg : Str → Option Value} {h : Heap}
theorem at_of (c : SaysX L.fa (L.dns.map (·.dd)) L.B K) (hB : L.dns.all (dnB L.F) = true) {j : Nat} {p : Str × Option Str} (a : atB L j p = true) : ∃ fd ps, adrOf L.dns K j = some (He.fAd K p, fd, ps) ∧ Binds K fd ps [] := by
  unfold atB at a
  split at a
  · rename_i d ed
    simp only [Bool.and_eq_true, decide_eq_true_eq] at a
    obtain ⟨fd, h1, h2⟩ := adr_of c hB ed
    rw [a.1] at h1
    exact ⟨fd, d.ps, h1, binds_of h2 a.2⟩
  · cases a
/-- making instances (each class's own proof) -/
def MkA (L : LawD) (K : PySem.W.Frag) (c : Nat) : Prop := ∃ j fd ps ds dvs dd, L.ini[c]? = some j ∧ (∃ x, L.cn[c]? = some x ∧ adrOf L.dns K j = some (He.fAd K (x, some "__init__"), fd, ps)) ∧ Binds K fd ps ds ∧ Vals dvs ds ∧ (∀ n ρ h, denL L.T (Phi L.T (fdOf L.dns) n) (L.F.dfl c) ρ h = .ok dd h) ∧ ∀ μ Hh, VRs K μ Hh dd dvs
theorem mk_plain (c : SaysX L.fa (L.dns.map (·.dd)) L.B K) (hB : L.dns.all (dnB L.F) = true) {k j : Nat} {x : Str} (e1 : L.ini[k]? = some j) (e2 : L.cn[k]? = some x) (a : atB L j (x, some "__init__") = true) (hd : L.F.dfl k = []) : MkA L K k := by
  obtain ⟨fd, ps, h1, h2⟩ := at_of c hB a
  refine ⟨j, fd, ps, [], [], [], e1, ⟨x, e2, h1⟩, h2, .nil, fun n ρ h => ?_, fun _ _ => .nil⟩
  rw [hd]
  simp only [denL]
theorem tie (X : K.In h) (G : h.Ns mainGlobals mg) (c : SaysX L.fa (L.dns.map (·.dd)) L.B K) (hB : L.dns.all (dnB L.F) = true) (ok : L.ok = true) (mk : ∀ x k, L.F.cl.lookup x = some k → MkA L K k)
    (kw : ∀ x k m kw, L.F.kw.lookup x = some (k, m, kw) → ∃ j fd ps y, L.cn[k]? = some x ∧ L.ini[k]? = some j ∧ L.F.cl.lookup x = some k ∧ y = He.fAd K (x, some "__init__") ∧ adrOf L.dns K j = some (y, fd, ps) ∧ KBn K fd ps (m + 1) [kw] (fun us ws => us ++ ws) (fun us ws => us ++ ws)) :
    Tie (L.Y K) L.F K mg (adrOf L.dns K) := by
  unfold LawD.ok at ok
  simp only [Bool.and_eq_true, List.all_eq_true, decide_eq_true_eq] at ok
  obtain ⟨⟨⟨⟨⟨⟨o1, o2⟩, o3⟩, o4⟩, o5⟩, o6⟩, o7⟩ := ok
  have bB := c.all.2.2
  unfold LawD.B at bB
  simp only [Bool.and_eq_true, List.all_eq_true] at bB
  obtain ⟨⟨⟨⟨⟨b1, b2⟩, b3⟩, b4⟩, b5⟩, _⟩ := bB
  have glo : ∀ {x j}, L.F.cl.lookup x = some j → mg x = some (.ref (He.ga K x)) := fun {x j} e => He.glo_ok X G (c.fact (by
    simp only [LawD.fa, List.mem_append]
    exact .inl (.inl (.inl (.inl (.inl (.inl (.inl (.inr (List.mem_map.mpr ⟨_, lookup_mem' e, rfl⟩))))))))))
  have clsF : ∀ {x}, x ∈ L.cn → Cls K (He.ga K x) := fun {x} hx => He.cls_ok (c.fact (by
    simp only [LawD.fa, List.mem_append]
    exact .inl (.inl (.inl (.inl (.inr (List.mem_map.mpr ⟨_, hx, rfl⟩)))))))
  have mkF : ∀ {x}, x ∈ L.cn → Mk K (He.ga K x) (He.ma K (He.ga K x) "__init__") := fun {x} hx => He.mkr_ok (c.fact (by
    simp only [LawD.fa, List.mem_append]
    exact .inl (.inl (.inr (List.mem_map.mpr ⟨_, hx, rfl⟩)))))
  have cl_mem : ∀ {k C}, (L.Y K).cls k = some C → ∃ x, L.cn[k]? = some x ∧ C = He.ga K x ∧ x ∈ L.cn := fun {k C} e => by
    have e : (L.cn[k]?).map (He.ga K) = some C := e
    cases ex : L.cn[k]? with
    | none => rw [ex] at e; cases e
    | some x => rw [ex] at e; cases e; exact ⟨x, rfl, rfl, List.mem_of_getElem? ex⟩
  refine ⟨fun j fd' e => ?_, fun j f fd ps e => ?_, fun x j e => ?_, fun x k e => ?_, fun x k e C hC => ?_, fun x k m kw' e => ?_, fun x k e => ?_, fun x hx => ?_, o5, fun k C e => ?_, fun k C e => ?_, fun x m e => o4 (x, m) (lookup_mem' e), fun x hx k C e => ?_, fun x m e k j ej => ?_, fun k j e => ?_⟩
  · have e : (findD L.dns j).map (·.ir) = some fd' := e
    cases ed : findD L.dns j with
    | none => rw [ed] at e; cases e
    | some d =>
      rw [ed] at e
      cases e
      obtain ⟨fd, h1, h2⟩ := adr_of c hB ed
      have hb := List.all_eq_true.mp hB d (findD_mem ed).1
      unfold dnB at hb
      simp only [Bool.and_eq_true, decide_eq_true_eq] at hb
      exact ⟨_, fd, ⟨d.dd.name, d.dd.qual, d.dd.params, d.dd.body, d.dd.scope, d.N, d.ps, d.dd.kws K⟩, h1, h2, scB_ok hb.1.1.1.1, hb.1.1.1.2, hb.1.1.2, hb.1.2⟩
  · cases ed : findD L.dns j with
    | none => unfold adrOf at e; rw [ed] at e; cases e
    | some d =>
      obtain ⟨fd2, h1, h2⟩ := adr_of c hB ed
      rw [h1] at e
      cases e
      exact h2.kp
  · obtain ⟨fd, ps, h1, h2⟩ := at_of c hB (o1 (x, j) (lookup_mem' e))
    exact ⟨_, fd, ps, h1, He.glo_ok X G (c.fact (by
      simp only [LawD.fa, List.mem_append]
      exact .inl (.inl (.inl (.inl (.inl (.inl (.inl (.inl (List.mem_map.mpr ⟨_, lookup_mem' e, rfl⟩)))))))))), h2⟩
  · refine ⟨_, glo e, ?_⟩
    show (L.cn[k]?).map (He.ga K) = _
    rw [o2 (x, k) (lookup_mem' e)]
    rfl
  · obtain ⟨j, fd, ps, ds, dvs, dd, h1, ⟨y, h2, h3⟩, h4, h5, h6, h7⟩ := mk x k e
    have hx := o2 (x, k) (lookup_mem' e)
    rw [hx] at h2
    cases h2
    have hC2 := glo e
    rw [hC] at hC2
    cases hC2
    exact ⟨j, _, fd, ps, ds, dvs, dd, h1, h3, mkF (List.mem_of_getElem? hx), h4, h5, h6, h7⟩
  · obtain ⟨j, fd, ps, y, h1, h2, h3, h4, h5, h6⟩ := kw x k m kw' e
    subst h4
    refine ⟨_, j, _, fd, ps, glo h3, ?_, h2, h5, mkF (List.mem_of_getElem? h1), h6⟩
    show (L.cn[k]?).map (He.ga K) = _
    rw [h1]
    rfl
  · have q := o3 (x, k) (lookup_mem' e)
    split at q
    · rename_i g eg
      simp only [decide_eq_true_eq] at q
      obtain ⟨gx, gg⟩ := g
      have q : gx = x := q
      subst q
      have hg : (L.Y K).T.glb k = some gg.d := by
        show (L.gv[k]?).map _ = _
        rw [eg]
        rfl
      cases gg with
      | int i =>
        obtain ⟨t, ht⟩ := He.int_ok X G (c.fact (f := .int gx i) (by
          simp only [LawD.fa, List.mem_append]
          exact .inl (.inl (.inl (.inl (.inl (.inr (List.mem_filterMap.mpr ⟨_, List.mem_of_getElem? eg, rfl⟩)))))))) 
        exact ⟨_, .int i, _, hg, ht, ⟨t, rfl⟩, fun _ _ => .int i⟩
      | txs l =>
        have q2 := b4 _ (List.mem_of_getElem? eg)
        obtain ⟨k1, k2⟩ := ftup_ok q2
        refine ⟨_, .ref (He.ga K gx), _, hg, PySem.W.mg_of X G k1, rfl, fun μ Hh => .tup (k2 Hh) ?_⟩
        have : ∀ l : List Str, VRs K μ Hh (l.map D.str) ((l.map He.Dv.str).map (He.Dv.v K)) := fun l => by
          induction l with
          | nil => exact .nil
          | cons a l ih => exact .cons (.str a) ih
        exact this l
    · cases q
  · exact He.free_ok X G (c.fact (by
      simp only [LawD.fa, List.mem_append]
      exact .inl (.inl (.inl (.inl (.inl (.inl (.inr (List.mem_map.mpr ⟨_, hx, rfl⟩)))))))))
  · obtain ⟨x, _, rfl, hx⟩ := cl_mem e
    exact clsF hx
  · obtain ⟨x, ex, rfl, hx⟩ := cl_mem e
    have f := b2 x hx
    unfold fisc at f
    simp only [Bool.and_eq_true, decide_eq_true_eq] at f
    unfold kitB2 at b3
    simp only [Bool.and_eq_true, List.all_eq_true, decide_eq_true_eq] at b3
    obtain ⟨k1, k2⟩ := b3
    obtain ⟨k3, k4⟩ := k1 x hx
    refine ⟨clsF hx, He.eqO_ok f.1.1, He.eqO_ok f.1.2, f.2, k4, fun t ht => (k3 t ht).1, fun t ht => (k3 t ht).2, fun c' C' e' => ?_⟩
    obtain ⟨y, ey, rfl, hy⟩ := cl_mem e'
    have q := k2 k (by simp; exact (List.getElem?_eq_some_iff.mp ex).1) c' (by simp; exact (List.getElem?_eq_some_iff.mp ey).1)
    rw [ex, ey] at q
    simpa using q
  · obtain ⟨y, _, rfl, hy⟩ := cl_mem e
    exact He.noat_ok (c.fact (by
      simp only [LawD.fa, List.mem_append]
      exact .inl (.inl (.inl (.inr (List.mem_flatMap.mpr ⟨y, hy, List.mem_map.mpr ⟨x, hx, rfl⟩⟩))))))
  · have ej : (L.mth.find? fun p => p.1 == k && p.2.1 == m).map (fun p => p.2.2) = some j := ej
    cases ef : L.mth.find? fun p => p.1 == k && p.2.1 == m with
    | none => rw [ef] at ej; cases ej
    | some p =>
      rw [ef] at ej
      cases ej
      have pm := List.mem_of_find?_eq_some ef
      have pp := List.find?_some ef
      simp only [Bool.and_eq_true, beq_iff_eq] at pp
      have q := o6 p pm
      split at q
      · rename_i cx nm e1 e2
        have e3 := o4 (x, m) (lookup_mem' e)
        have e3 : L.names[m]? = some x := e3
        rw [pp.2] at e2
        rw [e2] at e3
        cases e3
        obtain ⟨fd, ps, h1, h2⟩ := at_of c hB q
        refine ⟨_, _, fd, ps, ?_, He.meth_ok (x := cx) (m := x) (c.fact (by
          simp only [LawD.fa, List.mem_append]
          refine .inl (.inr (List.mem_filterMap.mpr ⟨p, pm, ?_⟩))
          rw [e1, pp.2, e2])), h1, h2⟩
        show (L.cn[k]?).map (He.ga K) = _
        rw [← pp.1, e1]
        rfl
      · cases q
  · have e : L.lens.lookup k = some j := e
    have q := o7 (k, j) (lookup_mem' e)
    have q2 := b5 (k, j) (lookup_mem' e)
    cases ex : L.cn[k]? with
    | none => simp only [ex] at q; cases q
    | some x =>
      simp only [ex] at q q2
      obtain ⟨fd, ps, h1, h2⟩ := at_of c hB q
      have M := He.meth_ok (x := x) (m := "__len__") (c.fact (by
        simp only [LawD.fa, List.mem_append]
        refine .inr (List.mem_filterMap.mpr ⟨(k, j), lookup_mem' e, ?_⟩)
        simp only [ex]
        rfl))
      refine ⟨_, _, fd, ps, ?_, M.1, of_decide_eq_true q2, h1, h2⟩
      show (L.cn[k]?).map (He.ga K) = _
      rw [ex]
      rfl
theorem LawD.xb (c : SaysX L.fa (L.dns.map (·.dd)) L.B K) : L.xB K = true ∧ noLst K = true := by
  have bB := c.all.2.2
  unfold LawD.B at bB
  simp only [Bool.and_eq_true] at bB
  exact ⟨bB.2, bB.1.1.1.1.1⟩
/-- the default of a keyword-only parameter -/
def kwdAt (f : Str × Option Str) (x : Str) (K : PySem.W.Frag) : Addr := match fdAt K f with
  | some fd => (match fd.kwdefaults with
    | .ref D => (match PySem.W.nsIn K D x with
      | some (some (.ref a)) => a
      | _ => 0)
    | _ => 0)
  | none => 0
def ftupA (K : PySem.W.Frag) (a : Addr) (vs : List He.Dv) : Bool := match K.lookup a with
  | some ⟨.type c, none, .seq its _, _⟩ => decide (c = "tuple") && (decide (its.size ≤ sizeLine) && He.relAll (vs.map (He.Dv.v K)) its.toList)
  | _ => false
theorem ftupA_ok {a : Addr} {vs : List He.Dv} (h : ftupA K a vs = true) (Hh : Hp) : TpA K Hh a (vs.map (He.Dv.v K)) := by
  unfold ftupA at h
  split at h
  · rename_i c its m sl el
    simp only [Bool.and_eq_true, decide_eq_true_eq] at h
    exact .inr ⟨_, its, m, el, by rw [h.1], rfl, rfl, h.2.1, He.relAll_ok h.2.2⟩
  · cases h
end
end SC
end
end
section
set_option linter.all false
set_option maxRecDepth 100000
/-! the IR of the program's defs (printed by drive.py) -/
noncomputable section
namespace SC
open PySem (Str)
def ir_is_number : Fd := ⟨3, 3, [.ret (.and_ (.isi (.var 0) .int) (.and_ (.not_ (.isi (.var 0) .bool)) (.chain .le .le (.var 1) (.var 0) (.var 2))))], .P⟩
def nn_is_number : List Str := ["thing", "low", "high"]
def ir_is_word : Fd := ⟨2, 2, [.ret (.and_ (.isi (.var 0) .str) (.op2 .in_ (.var 0) (.var 1)))], .P⟩
def nn_is_word : List Str := ["thing", "words"]
def ir_are_parents : Fd := ⟨1, 3, [.ite (.or_ (.not_ (.isi (.var 0) .tuple)) (.op2 .ge (.blt .len (.var 0)) (.glb 0))) [.ret (.cB false)] [], .ret (.tmp (.blt .all (.lc .enum (.t [1, 2]) [(.var 0)] [] (.call 0 [(.var 2), (.cI 0), (.var 1)]))))], .P⟩
def nn_are_parents : List Str := ["thing", "index", "parent"]
def ir_are_kinds : Fd := ⟨2, 5, [.ite (.or_ (.not_ (.isi (.var 1) .tuple)) (.not_ (.tmp (.blt .all (.lc .seq (.n 2) [(.var 1)] [] (.call 0 [(.var 2), (.cI 0), (.op2 .sub (.var 0) (.cI 1))])))))) [.ret (.cB false)] [], .ret (.and_ (.op2 .in_ (.cI 0) (.var 1)) (.tmp (.blt .all (.lc .zip (.t [3, 4]) [(.var 1), (.slice (.var 1) (some (.cI 1)) none)] [] (.op2 .lt (.var 3) (.var 4))))))], .P⟩
def nn_are_kinds : List Str := ["many", "thing", "kind", "one", "other"]
def ir_are_bodies : Fd := ⟨2, 3, [.ite (.or_ (.not_ (.isi (.var 1) .tuple)) (.op2 .ne (.blt .len (.var 1)) (.cI 2))) [.ret (.cB false)] [], .ret (.tmp (.blt .all (.lc .seq (.n 2) [(.var 1)] [] (.call 3 [(.var 0), (.var 2)]))))], .P⟩
def nn_are_bodies : List Str := ["many", "thing", "kinds"]
def ir_are_numbers : Fd := ⟨3, 4, [.ret (.and_ (.isi (.var 2) .tuple) (.and_ (.op2 .eq (.blt .len (.var 2)) (.var 0)) (.tmp (.blt .all (.lc .seq (.n 3) [(.var 2)] [] (.call 0 [(.var 3), (.cI 0), (.var 1)]))))))], .P⟩
def nn_are_numbers : List Str := ["many", "high", "thing", "one"]
def ir_are_loaded : Fd := ⟨2, 3, [.ite (.not_ (.call 3 [(.op2 .add (.blt .len (.var 0)) (.cI 1)), (.var 1)])) [.ret (.cB false)] [], .ret (.tmp (.blt .all (.lc .seq (.n 2) [(.var 1)] [] (.or_ (.op2 .eq (.var 2) (.cI 0)) (.op2 .in_ (.sub (.var 0) (.op2 .sub (.var 2) (.cI 1))) (.var 1))))))], .P⟩
def nn_are_loaded : List Str := ["parents", "thing", "kind"]
def ir_Plan___init__ : Fd := ⟨6, 7, [.ite (.not_ (.call 2 [(.var 1)])) [.raise_] [], .asg (.n 6) (.op2 .add (.blt .len (.var 1)) (.cI 1)), .ite (.not_ (.call 4 [(.var 6), (.var 2)])) [.raise_] [], .ite (.not_ (.call 5 [(.blt .len (.sub (.var 2) (.cI 0))), (.glb 1), (.var 3)])) [.raise_] [], .ite (.not_ (.call 5 [(.cI 2), (.op2 .sub (.var 6) (.cI 1)), (.var 4)])) [.raise_] [], .ite (.not_ (.call 6 [(.var 1), (.var 5)])) [.raise_] [], .asg (.f (.var 0) 0) (.var 1), .asg (.f (.var 0) 1) (.var 2), .asg (.f (.var 0) 2) (.var 3), .asg (.f (.var 0) 3) (.var 4), .asg (.f (.var 0) 4) (.var 5)], .raw⟩
def nn_Plan___init__ : List Str := ["self", "parents", "bodies", "calls", "bounds", "first", "many"]
def ir_Plan_five : Fd := ⟨1, 1, [.ret (.tup [(.fld (.var 0) 0), (.fld (.var 0) 1), (.fld (.var 0) 2), (.fld (.var 0) 3), (.fld (.var 0) 4)])], .P⟩
def nn_Plan_five : List Str := ["self"]
def ir_Plan___len__ : Fd := ⟨1, 1, [.ret (.blt .len (.tup [(.cI 0), (.star (.fld (.var 0) 0))]))], .P⟩
def nn_Plan___len__ : List Str := ["self"]
def ir_Plan_check_kind : Fd := ⟨2, 2, [.ite (.not_ (.call 0 [(.var 1), (.cI 0), (.blt .len (.fld (.var 0) 0))])) [.raise_] []], .P⟩
def nn_Plan_check_kind : List Str := ["self", "kind"]
def ir_Plan_is_under : Fd := ⟨3, 3, [.expr (.meth 15 (.var 0) [(.var 1)]), .expr (.meth 15 (.var 0) [(.var 2)]), .while_ (.op2 .gt (.var 1) (.var 2)) [.asg (.n 1) (.sub (.fld (.var 0) 0) (.op2 .sub (.var 1) (.cI 1)))], .ret (.op2 .eq (.var 1) (.var 2))], .P⟩
def nn_Plan_is_under : List Str := ["self", "kind", "other"]
def ir_Plan_body : Fd := ⟨3, 3, [.expr (.call 15 [(.var 1)]), .expr (.meth 15 (.var 0) [(.var 2)]), .while_ (.op2 .nin (.var 2) (.sub (.fld (.var 0) 1) (.var 1))) [.asg (.n 2) (.sub (.fld (.var 0) 0) (.op2 .sub (.var 2) (.cI 1)))], .ret (.var 2)], .P⟩
def nn_Plan_body : List Str := ["self", "site", "kind"]
def ir_Plan_possible : Fd := ⟨3, 3, [.expr (.call 15 [(.var 1)]), .ite (.not_ (.call 6 [(.fld (.var 0) 0), (.var 2)])) [.raise_] [], .ret (.call 16 [(.var 0), (.var 1), (.var 2)])], .L⟩
def nn_Plan_possible : List Str := ["self", "site", "loaded"]
def ir_Plan_many_calls : Fd := ⟨2, 2, [.ret (.sub (.fld (.var 0) 2) (.bm .index (.sub (.fld (.var 0) 1) (.cI 0)) [(.var 1)]))], .P⟩
def nn_Plan_many_calls : List Str := ["self", "entered"]
def ir_check_site : Fd := ⟨1, 1, [.ite (.not_ (.call 0 [(.var 0), (.cI 0), (.cI 1)])) [.raise_] []], .P⟩
def nn_check_site : List Str := ["site"]
def ir_bodies_at : Fd := ⟨3, 5, [.asg (.n 3) (.lc .seq (.n 4) [(.var 2)] [(.meth 16 (.var 0) [(.var 4), (.sub (.fld (.var 0) 3) (.var 1))])] (.var 4)), .ret (.blt .sorted (.dc (.n 4) (.var 3) (.meth 17 (.var 0) [(.var 1), (.var 4)]) (.cB true)))], .L⟩
def nn_bodies_at : List Str := ["plan", "site", "loaded", "under", "kind"]
def ir_is_note : Fd := ⟨1, 1, [.ite (.or_ (.not_ (.isi (.var 0) .tuple)) (.op2 .ne (.blt .len (.var 0)) (.cI 2))) [.ret (.cB false)] [], .ret (.and_ (.call 1 [(.sub (.var 0) (.cI 0)), (.glb 2)]) (.call 1 [(.sub (.var 0) (.cI 1)), (.glb 3)]))], .P⟩
def nn_is_note : List Str := ["thing"]
def ir_check_plan : Fd := ⟨1, 1, [.ite (.not_ (.isi (.var 0) (.cls 0))) [.raise_] []], .P⟩
def nn_check_plan : List Str := ["plan"]
def ir_check_book : Fd := ⟨2, 3, [.expr (.call 18 [(.var 0)]), .ite (.or_ (.not_ (.isi (.var 1) .tuple)) (.or_ (.op2 .ne (.blt .len (.var 1)) (.cI 2)) (.not_ (.tmp (.blt .all (.lc .seq (.n 2) [(.var 1)] [] (.call 17 [(.var 2)]))))))) [.raise_] []], .P⟩
def nn_check_book : List Str := ["plan", "book", "note"]
def ir_does_hit : Fd := ⟨4, 5, [.asg (.n 4) (.sub (.sub (.var 1) (.var 2)) (.cI 0)), .ite (.not_ (.meth 16 (.var 0) [(.var 3), (.sub (.fld (.var 0) 3) (.var 2))])) [.ret (.cB false)] [], .ret (.or_ (.op2 .eq (.var 4) (.cS "all")) (.and_ (.op2 .eq (.var 4) (.cS "own")) (.op2 .in_ (.var 3) (.sub (.fld (.var 0) 1) (.var 2)))))], .P⟩
def nn_does_hit : List Str := ["plan", "book", "site", "kind", "watched"]
def ir_World___init__ : Fd := ⟨4, 4, [.asg (.f (.var 0) 5) (.var 1), .asg (.f (.var 0) 6) (.var 2), .asg (.f (.var 0) 7) (.sub (.var 3) (.cI 0)), .asg (.f (.var 0) 8) (.blt .list (.sub (.var 3) (.cI 1))), .asg (.f (.var 0) 9) (.sub (.var 3) (.cI 2)), .asg (.f (.var 0) 10) .cN, .asg (.f (.var 0) 11) .dnewK], .raw⟩
def nn_World___init__ : List Str := ["self", "plan", "book", "state"]
def ir_World_state_now : Fd := ⟨1, 1, [.ret (.tup [(.fld (.var 0) 7), (.blt .tuple (.fld (.var 0) 8)), (.fld (.var 0) 9)])], .P⟩
def nn_World_state_now : List Str := ["self"]
def ir_World_load : Fd := ⟨2, 5, [.asg (.f (.var 0) 7) (.tmp (.blt .tuple (.blt .sorted (.lst [(.star (.fld (.var 0) 7)), (.var 1)])))), .asg (.n 2) (.lst []), .for_ .seq (.n 3) [(.tup [(.cI 0), (.cI 1)])] [.ite (.and_ (.op2 .isn (.sub (.fld (.var 0) 8) (.var 3)) .cN) (.call 20 [(.fld (.var 0) 5), (.fld (.var 0) 6), (.var 3), (.var 1)])) [.asg (.s (.fld (.var 0) 8) (.var 3)) .cN, .expr (.bm .append (.var 2) [(.var 3)]), .ite (.op2 .eq (.tmp (.blt .len (.call 16 [(.fld (.var 0) 5), (.var 3), (.fld (.var 0) 7)]))) (.cI 1)) [.asg (.s (.fld (.var 0) 11) (.cS "thrifty")) (.cB true)] []] []], .asg (.n 4) (.tmp (.blt .any (.lc .seq (.n 3) [(.var 2)] [] (.op2 .eq (.sub (.sub (.fld (.var 0) 6) (.var 3)) (.cI 1)) (.cS "once"))))), .ite (.and_ (.var 4) (.op2 .isn (.fld (.var 0) 9) .cN)) [.asg (.f (.var 0) 9) (.tup [(.sub (.fld (.var 0) 9) (.cI 0)), (.sub (.fld (.var 0) 9) (.cI 1)), .cN])] [], .asg (.f (.var 0) 10) (.blt .tuple (.var 2))], .raw⟩
def nn_World_load : List Str := ["self", "kind", "taken", "site", "is_once"]
def ir_World_make : Fd := ⟨2, 2, [.asg (.s (.fld (.var 0) 8) (.var 1)) (.sub (.call 16 [(.fld (.var 0) 5), (.var 1), (.fld (.var 0) 7)]) (.cI 0))], .raw⟩
def nn_World_make : List Str := ["self", "site"]
def ir_World_call : Fd := ⟨2, 4, [.asg (.t [(.n 2), (.n 3)]) (.tup [(.meth 17 (.fld (.var 0) 5) [(.cI 0), (.var 1)]), .cN]), .asg (.f (.var 0) 10) (.var 2), .ite (.op2 .isn (.sub (.fld (.var 0) 8) (.cI 0)) .cN) [.asg (.t [(.f (.var 0) 10), (.n 3)]) (.tup [(.sub (.fld (.var 0) 8) (.cI 0)), (.sub (.fld (.var 0) 8) (.cI 1))])] [], .ite (.op2 .ne (.fld (.var 0) 10) (.var 2)) [.asg (.s (.fld (.var 0) 11) (.cS "right")) (.cB true)] [], .asg (.f (.var 0) 9) (.tup [(.fld (.var 0) 10), (.meth 19 (.fld (.var 0) 5) [(.fld (.var 0) 10)]), (.var 3)])], .raw⟩
def nn_World_call : List Str := ["self", "kind", "due", "placed"]
def ir_World_inner : Fd := ⟨2, 4, [.asg (.t [(.n 2), (.n 3)]) (.tup [(.meth 17 (.fld (.var 0) 5) [(.cI 1), (.var 1)]), (.sub (.fld (.var 0) 9) (.cI 2))]), .asg (.f (.var 0) 10) (.var 2), .ite (.op2 .isn (.var 3) .cN) [.asg (.f (.var 0) 10) (.var 3), .ite (.tmp (.op2 .ne (.call 16 [(.fld (.var 0) 5), (.cI 1), (.fld (.var 0) 7)]) (.lst [(.var 3)]))) [.asg (.s (.fld (.var 0) 11) (.cS "fresh")) (.cB true)] []] [.ite (.op2 .isn (.sub (.fld (.var 0) 8) (.cI 1)) .cN) [.asg (.f (.var 0) 10) (.sub (.fld (.var 0) 8) (.cI 1))] []], .ite (.op2 .ne (.fld (.var 0) 10) (.var 2)) [.asg (.s (.fld (.var 0) 11) (.cS "right")) (.cB true)] [], .asg (.f (.var 0) 9) (.tup [(.sub (.fld (.var 0) 9) (.cI 0)), (.op2 .sub (.sub (.fld (.var 0) 9) (.cI 1)) (.cI 1)), (.var 3)])], .raw⟩
def nn_World_inner : List Str := ["self", "kind", "due", "placed"]
def ir_World_do : Fd := ⟨2, 2, [.ite (.op2 .eq (.sub (.var 1) (.cI 0)) (.cS "load")) [.expr (.meth 21 (.var 0) [(.sub (.var 1) (.cI 1))])] [.ite (.op2 .eq (.sub (.var 1) (.cI 0)) (.cS "make")) [.expr (.meth 22 (.var 0) [(.sub (.var 1) (.cI 1))])] [.ite (.op2 .eq (.sub (.var 1) (.cI 0)) (.cS "call")) [.expr (.meth 23 (.var 0) [(.sub (.var 1) (.cI 1))])] [.ite (.op2 .eq (.sub (.var 1) (.cI 0)) (.cS "inner")) [.expr (.meth 24 (.var 0) [(.sub (.var 1) (.cI 1))])] [.asg (.f (.var 0) 9) .cN]]]]], .raw⟩
def nn_World_do : List Str := ["self", "deed"]
def ir_start_of : Fd := ⟨1, 1, [.ret (.tup [(.fld (.var 0) 4), (.tup [.cN, .cN]), .cN])], .P⟩
def nn_start_of : List Str := ["plan"]
def ir_deeds_of : Fd := ⟨2, 8, [.asg (.t [(.n 4), (.n 5), (.n 6)]) (.var 1), .asg (.n 2) (.lc .range (.n 7) [(.cI 1), (.lenI (.var 0))] [(.and_ (.op2 .nin (.var 7) (.var 4)) (.op2 .in_ (.sub (.fld (.var 0) 0) (.op2 .sub (.var 7) (.cI 1))) (.var 4)))] (.tup [(.cS "load"), (.var 7)])), .for_ .seq (.n 3) [(.tup [(.cI 0), (.cI 1)])] [.ite (.and_ (.op2 .is_ (.sub (.var 5) (.var 3)) .cN) (.op2 .eq (.tmp (.blt .len (.call 16 [(.var 0), (.var 3), (.var 4)]))) (.cI 1))) [.expr (.bm .append (.var 2) [(.tup [(.cS "make"), (.var 3)])])] []], .ite (.op2 .is_ (.var 6) .cN) [.ret (.lst [(.star (.var 2)), (.star (.lc .seq (.n 7) [(.var 4)] [(.meth 16 (.var 0) [(.var 7), (.sub (.fld (.var 0) 3) (.cI 0))])] (.tup [(.cS "call"), (.var 7)])))])] [], .ite (.op2 .eq (.sub (.var 6) (.cI 1)) (.cI 0)) [.ret (.lst [(.star (.var 2)), (.tup [(.cS "end")])])] [], .ret (.lst [(.star (.var 2)), (.star (.lc .seq (.n 7) [(.var 4)] [(.meth 16 (.var 0) [(.var 7), (.sub (.fld (.var 0) 3) (.cI 1))])] (.tup [(.cS "inner"), (.var 7)])))])], .L⟩
def nn_deeds_of : List Str := ["plan", "state", "found", "site", "loaded", "straight", "frame", "kind"]
def ir_is_deed : Fd := ⟨3, 3, [.ite (.or_ (.not_ (.isi (.var 2) .tuple)) (.or_ (.not_ (.chain .le .le (.cI 1) (.blt .len (.var 2)) (.cI 2))) (.not_ (.isi (.sub (.var 2) (.cI 0)) .str)))) [.ret (.cB false)] [], .ite (.and_ (.op2 .eq (.blt .len (.var 2)) (.cI 2)) (.not_ (.call 0 [(.sub (.var 2) (.cI 1)), (.cI 0), (.lenI (.var 0))]))) [.ret (.cB false)] [], .ret (.tmp (.op2 .in_ (.var 2) (.call 29 [(.var 0), (.var 1)])))], .P⟩
def nn_is_deed : List Str := ["plan", "state", "thing"]
def ir_done : Fd := ⟨4, 5, [.asg (.n 4) (.make 1 [(.var 0), (.var 1), (.var 2)]), .expr (.meth 25 (.var 4) [(.var 3)]), .ret (.var 4)], .raw⟩
def nn_done : List Str := ["plan", "book", "state", "deed", "world"]
def ir_walked : Fd := ⟨3, 6, [.asg (.t [(.n 4), (.n 5)]) (.tup [(.call 28 [(.var 0)]), (.lst [])]), .for_ .seq (.n 3) [(.var 2)] [.ite (.not_ (.call 30 [(.var 0), (.var 4), (.var 3)])) [.ret (.var 5)] [], .expr (.bm .append (.var 5) [(.call 31 [(.var 0), (.var 1), (.var 4), (.var 3)])]), .asg (.n 4) (.meth 20 (.sub (.var 5) (.neg (.cI 1))) [])], .ret (.var 5)], .raw⟩
def nn_walked : List Str := ["plan", "book", "history", "deed", "state", "found"]
def ir_check_history : Fd := ⟨3, 4, [.expr (.call 19 [(.var 0), (.var 1)]), .ite (.not_ (.isi (.var 2) .lt)) [.raise_] [], .asg (.n 3) (.call 32 [(.var 0), (.var 1), (.var 2)]), .ite (.op2 .lt (.blt .len (.var 3)) (.blt .len (.var 2))) [.raise_] [], .ret (.var 3)], .raw⟩
def nn_check_history : List Str := ["plan", "book", "history", "found"]
def ir_reach : Fd := ⟨2, 7, [.asg (.t [(.n 2), (.n 3)]) (.tup [(.dict1 (.call 28 [(.var 0)]) (.tup [])), (.lst [(.call 28 [(.var 0)])])]), .while_ (.tmp (.op2 .ne (.var 3) (.lst []))) [.asg (.n 4) (.bm .pop0 (.var 3) [(.cI 0)]), .for_ .seq (.n 5) [(.call 29 [(.var 0), (.var 4)])] [.asg (.n 6) (.tmp (.meth 20 (.call 31 [(.var 0), (.var 1), (.var 4), (.var 5)]) [])), .ite (.op2 .nin (.var 6) (.var 2)) [.ite (.op2 .eq (.blt .len (.var 2)) (.glb 4)) [.raise_] [], .asg (.s (.var 2) (.var 6)) (.tup [(.star (.sub (.var 2) (.var 4))), (.var 5)]), .expr (.bm .append (.var 3) [(.var 6)])] []]], .ret (.var 2)], .raw⟩
def nn_reach : List Str := ["plan", "book", "found", "line", "state", "deed", "late"]
def ir_state_after : Fd := ⟨3, 4, [.asg (.n 3) (.call 33 [(.var 0), (.var 1), (.var 2)]), .ret (.ite (.tmp (.op2 .ne (.var 3) (.lst []))) (.meth 20 (.sub (.var 3) (.neg (.cI 1))) []) (.call 28 [(.var 0)]))], .P⟩
def nn_state_after : List Str := ["plan", "book", "history", "found"]
def ir_deeds : Fd := ⟨3, 3, [.ret (.call 29 [(.var 0), (.call 35 [(.var 0), (.var 1), (.var 2)])])], .L⟩
def nn_deeds : List Str := ["plan", "book", "history"]
def ir_shown : Fd := ⟨3, 6, [.asg (.n 3) (.call 33 [(.var 0), (.var 1), (.var 2)]), .ret (.lc .zip (.t [4, 5]) [(.var 2), (.var 3)] [] (.tup [(.sub (.var 4) (.cI 0)), (.fld (.var 5) 10)]))], .L⟩
def nn_shown : List Str := ["plan", "book", "history", "rows", "deed", "world"]
def ir_all_states : Fd := ⟨2, 2, [.expr (.call 19 [(.var 0), (.var 1)]), .ret (.blt .list (.call 34 [(.var 0), (.var 1)]))], .L⟩
def nn_all_states : List Str := ["plan", "book"]
def ir_check_wish : Fd := ⟨3, 3, [.expr (.call 19 [(.var 0), (.var 1)]), .ite (.not_ (.call 1 [(.var 2), (.glb 5)])) [.raise_] []], .P⟩
def nn_check_wish : List Str := ["plan", "book", "wish"]
def ir_Safe___init__ : Fd := ⟨2, 2, [.asg (.f (.var 0) 12) (.blt .list (.var 1))], .raw⟩
def nn_Safe___init__ : List Str := ["self", "states"]
def ir_Broken___init__ : Fd := ⟨2, 2, [.asg (.f (.var 0) 13) (.blt .tuple (.var 1))], .raw⟩
def nn_Broken___init__ : List Str := ["self", "history"]
def ir_judged : Fd := ⟨3, 7, [.asg (.n 3) (.call 34 [(.var 0), (.var 1)]), .for_ .items (.t [4, 5]) [(.var 3)] [.for_ .seq (.n 6) [(.call 29 [(.var 0), (.var 4)])] [.ite (.tmp (.op2 .in_ (.var 2) (.fld (.call 31 [(.var 0), (.var 1), (.var 4), (.var 6)]) 11))) [.ret (.make 3 [(.tup [(.star (.var 5)), (.var 6)])])] []]], .ret (.make 2 [(.var 3)])], .raw⟩
def nn_judged : List Str := ["plan", "book", "wish", "found", "state", "history", "deed"]
def ir_judge : Fd := ⟨3, 3, [.expr (.call 39 [(.var 0), (.var 1), (.var 2)]), .ret (.call 42 [(.var 0), (.var 1), (.var 2)])], .raw⟩
def nn_judge : List Str := ["plan", "book", "wish"]
def ir_is_safe : Fd := ⟨3, 3, [.ret (.tmp (.isi (.call 43 [(.var 0), (.var 1), (.var 2)]) (.cls 2)))], .P⟩
def nn_is_safe : List Str := ["plan", "book", "wish"]
def ir_soonest : Fd := ⟨3, 4, [.asg (.n 3) (.call 43 [(.var 0), (.var 1), (.var 2)]), .ret (.ite (.isi (.var 3) (.cls 3)) (.blt .len (.fld (.var 3) 13)) .cN)], .P⟩
def nn_soonest : List Str := ["plan", "book", "wish", "found"]
def ir_broken_by : Fd := ⟨3, 6, [.asg (.n 3) (.call 33 [(.var 0), (.var 1), (.var 2)]), .ret (.lc .seq (.n 4) [(.var 3)] [] (.lc .seq (.n 5) [(.glb 5)] [(.op2 .in_ (.var 5) (.fld (.var 4) 11))] (.var 5)))], .raw⟩
def nn_broken_by : List Str := ["plan", "book", "history", "rows", "world", "wish"]
end SC
end
end
section
set_option linter.all false
set_option maxRecDepth 100000
set_option Elab.async false
/-! M0: the IR's equations as simp rules. -/
noncomputable section
namespace SC
section
variable (T : Tab) (Φ : Nat → Fn) (σ : Env) (h : H)
@[simp] theorem den_var (i : Nat) : den T Φ (.var i) σ h = (match σ[i]? with | some (some v) => .ok v h | _ => .bad) := by simp only [den] <;> rfl
@[simp] theorem den_cN : den T Φ .cN σ h = .ok .non h := by simp only [den] <;> rfl
@[simp] theorem den_cB (b : Bool) : den T Φ (.cB b) σ h = .ok (.bl b) h := by simp only [den] <;> rfl
@[simp] theorem den_cI (i : Int) : den T Φ (.cI i) σ h = .ok (.int i) h := by simp only [den] <;> rfl
@[simp] theorem den_cS (s : PySem.Str) : den T Φ (.cS s) σ h = .ok (.str s) h := by simp only [den] <;> rfl
@[simp] theorem den_glb (k : Nat) : den T Φ (.glb k) σ h = (match T.glb k with | some v => .ok v h | none => .bad) := by simp only [den] <;> rfl
@[simp] theorem den_op2 (o : B2) (a b : E) : den T Φ (.op2 o a b) σ h = (den T Φ a σ h).bind fun x h => (den T Φ b σ h).bind fun y h => op2 o x y h := by simp only [den] <;> rfl
@[simp] theorem den_neg (a : E) : den T Φ (.neg a) σ h = (den T Φ a σ h).bind fun x h => negD x h := by simp only [den] <;> rfl
@[simp] theorem den_sub (a i : E) : den T Φ (.sub a i) σ h = (den T Φ a σ h).bind fun x h => (den T Φ i σ h).bind fun y h => subD x y h := by simp only [den] <;> rfl
@[simp] theorem den_not (a : E) : den T Φ (.not_ a) σ h = (den T Φ a σ h).bind fun x h => notD x h := by simp only [den] <;> rfl
@[simp] theorem den_and (a b : E) : den T Φ (.and_ a b) σ h = (den T Φ a σ h).bind fun x h => (match x with | .bl true => den T Φ b σ h | .bl false => .ok (.bl false) h | _ => .bad) := by simp only [den] <;> rfl
@[simp] theorem den_or (a b : E) : den T Φ (.or_ a b) σ h = (den T Φ a σ h).bind fun x h => (match x with | .bl true => .ok (.bl true) h | .bl false => den T Φ b σ h | _ => .bad) := by simp only [den] <;> rfl
@[simp] theorem den_ite (c a b : E) : den T Φ (.ite c a b) σ h = (den T Φ c σ h).bind fun x h => (match x with | .bl true => den T Φ a σ h | .bl false => den T Φ b σ h | _ => .bad) := by simp only [den] <;> rfl
@[simp] theorem den_chain (o1 o2 : B2) (a b c : E) : den T Φ (.chain o1 o2 a b c) σ h = (den T Φ a σ h).bind fun x h => (den T Φ b σ h).bind fun y h => (op2 o1 x y h).bind fun z h => (match z with
    | .bl true => (den T Φ c σ h).bind fun w h => op2 o2 y w h
    | .bl false => .ok (.bl false) h
    | _ => .bad) := by simp only [den] <;> rfl
@[simp] theorem den_call (j : Nat) (as : List E) : den T Φ (.call j as) σ h = (denL T Φ as σ h).bind fun xs h => Φ j xs h := by simp only [den] <;> rfl
@[simp] theorem den_make (c : Nat) (as : List E) : den T Φ (.make c as) σ h = (denL T Φ as σ h).bind fun xs h => makeD T Φ c xs h := by simp only [den] <;> rfl
@[simp] theorem den_meth (m : Nat) (o : E) (as : List E) : den T Φ (.meth m o as) σ h = (den T Φ o σ h).bind fun x h => (match methD T m x h with
    | some j => (denL T Φ as σ h).bind fun xs h => Φ j (x :: xs) h
    | none => .bad) := by simp only [den] <;> rfl
@[simp] theorem den_lenI (o : E) : den T Φ (.lenI o) σ h = (den T Φ o σ h).bind fun x h => lenI T Φ x h := by simp only [den] <;> rfl
@[simp] theorem den_fld (o : E) (f : Nat) : den T Φ (.fld o f) σ h = (den T Φ o σ h).bind fun x h => fldD x f h := by simp only [den] <;> rfl
@[simp] theorem den_blt (b : Bi) (a : E) : den T Φ (.blt b a) σ h = (den T Φ a σ h).bind fun x h => bltD b x h := by simp only [den] <;> rfl
@[simp] theorem den_bm (b : Bm) (o : E) (as : List E) : den T Φ (.bm b o as) σ h = (den T Φ o σ h).bind fun x h => if bmOk b x h then (denL T Φ as σ h).bind fun xs h => bmD b x xs h else .bad := by simp only [den] <;> rfl
@[simp] theorem den_isi (a : E) (t : Ty) : den T Φ (.isi a t) σ h = (den T Φ a σ h).bind fun x h => retB h (isiD x t h) := by simp only [den] <;> rfl
@[simp] theorem den_slice (a : E) (lo hi : Option E) : den T Φ (.slice a lo hi) σ h = (den T Φ a σ h).bind fun x h => (denO T Φ lo σ h).bind fun l h => (denO T Φ hi σ h).bind fun u h => sliceD x l u h := by simp only [den] <;> rfl
@[simp] theorem den_tup (es : List E) : den T Φ (.tup es) σ h = (denL T Φ es σ h).bind fun xs h => newT xs h := by simp only [den] <;> rfl
@[simp] theorem den_lst (es : List E) : den T Φ (.lst es) σ h = (denL T Φ es σ h).bind fun xs h => newL xs h := by simp only [den] <;> rfl
@[simp] theorem den_dnewK : den T Φ .dnewK σ h = alloc (.dK []) h := by simp only [den] <;> rfl
@[simp] theorem den_dnewT : den T Φ .dnewT σ h = alloc (.dT []) h := by simp only [den] <;> rfl
theorem den_dict1 (k v : E) : den T Φ (.dict1 k v) σ h = (den T Φ k σ (h.push (.dT []))).bind fun x h1 => (den T Φ v σ h1).bind fun y h2 => (match h2.o[h.o.length]? with
    | some (.dT []) => if keyT x && !h2.lk.contains h.o.length then .ok (.ref h.o.length) (h2.put h.o.length (.dT [(x, y)])) else .bad
    | _ => .bad) := by simp only [den] <;> rfl
theorem den_lc (k : Ik) (tg : Tg) (its ifs : List E) (elt : E) : den T Φ (.lc k tg its ifs elt) σ h = (denL T Φ its σ h).bind fun as h => (match walkD k as h with
    | none => .bad
    | some (l, xs) => (lcGo h.o.length tg (fun σ h => denIfs T Φ ifs σ h) (fun σ h => den T Φ elt σ h) σ xs ((h.lock l).push (.lst []))).bind fun v h => .ok v (h.unlock l)) := by simp only [den] <;> rfl
theorem den_dc (tg : Tg) (it kk vv : E) : den T Φ (.dc tg it kk vv) σ h = (den T Φ it σ h).bind fun v h => (match walkD .seq [v] h with
    | none => .bad
    | some (l, xs) => (dcGo h.o.length tg (fun σ h => den T Φ kk σ h) (fun σ h => den T Φ vv σ h) σ xs ((h.lock l).push (.dK []))).bind fun v h => .ok v (h.unlock l)) := by simp only [den] <;> rfl
theorem den_tmp (a : E) : den T Φ (.tmp a) σ h = (match den T Φ a σ { h with fl := h.o.length } with
    | .ok v _ => if v.pure then .ok v h else .bad
    | .bad => .bad) := by simp only [den] <;> rfl
theorem tmp_ok {T : Tab} {Φ : Nat → Fn} {σ : Env} {h : H} {a : E} {v : D} {h' : H} (hv : v.pure = true) (e : den T Φ a σ { h with fl := h.o.length } = .ok v h') : den T Φ (.tmp a) σ h = .ok v h := by
  rw [den_tmp, e]; simp [hv]
@[simp] theorem denL_nil : denL T Φ [] σ h = .ok [] h := by simp only [denL] <;> rfl
@[simp] theorem denL_star (a : E) (r : List E) : denL T Φ (.star a :: r) σ h = (den T Φ a σ h).bind fun v h => (match itemsD v h with
    | none => .bad
    | some ys => (denL T Φ r σ h).bind fun xs h => .ok (ys ++ xs) h) := by simp only [denL] <;> rfl
@[simp] theorem denM_cons (e : E) (r : List E) (he : ∀ a, e ≠ .star a) : denL T Φ (e :: r) σ h = (den T Φ e σ h).bind fun x h => (denL T Φ r σ h).bind fun xs h => .ok (x :: xs) h := by
  cases e <;> first | exact absurd rfl (he _) | (simp only [denL])
@[simp] theorem denO_none : denO T Φ none σ h = .ok none h := by simp only [denO] <;> rfl
@[simp] theorem denO_some (e : E) : denO T Φ (some e) σ h = (den T Φ e σ h).bind fun x h => (match x with | .int i => .ok (some i) h | _ => .bad) := by simp only [denO] <;> rfl
@[simp] theorem denIfs_nil : denIfs T Φ [] σ h = .ok (.bl true) h := by simp only [denIfs] <;> rfl
@[simp] theorem denIfs_cons (e : E) (r : List E) : denIfs T Φ (e :: r) σ h = (den T Φ e σ h).bind fun x h => (match x with | .bl true => denIfs T Φ r σ h | .bl false => .ok (.bl false) h | _ => .bad) := by simp only [denIfs] <;> rfl
@[simp] theorem gset_n (i : Nat) (v : D) : gset T Φ (.n i) v σ h = some (σ.set i (some v), h) := by simp only [gset] <;> rfl
@[simp] theorem gset_f (o : E) (f : Nat) (v : D) : gset T Φ (.f o f) v σ h = (match den T Φ o σ h with | .ok x h => fldPut x f v σ h | .bad => none) := by simp only [gset] <;> rfl
@[simp] theorem gset_s (o i : E) (v : D) : gset T Φ (.s o i) v σ h = (match den T Φ o σ h with
    | .ok x h => (match den T Φ i σ h with | .ok y h => subPut x y v σ h | .bad => none)
    | .bad => none) := by simp only [gset] <;> rfl
@[simp] theorem gset_t (l : List G) (v : D) : gset T Φ (.t l) v σ h = (match v with | .tup xs => gsets T Φ l xs σ h | _ => none) := by simp only [gset] <;> rfl
@[simp] theorem gsets_nil : gsets T Φ [] [] σ h = some (σ, h) := by simp only [gsets] <;> rfl
@[simp] theorem gsets_cons (g : G) (r : List G) (x : D) (s : List D) : gsets T Φ (g :: r) (x :: s) σ h = (match gset T Φ g x σ h with | some (σ, h) => gsets T Φ r s σ h | none => none) := by simp only [gsets] <;> rfl
@[simp] theorem exec_expr (e : E) : exec T Φ (.expr e) σ h = (match den T Φ e σ h with | .ok _ h => .nx σ h | .bad => .bad) := by simp only [exec] <;> rfl
@[simp] theorem exec_asg (g : G) (e : E) : exec T Φ (.asg g e) σ h = (match den T Φ e σ h with
    | .ok v h => (match gset T Φ g v σ h with | some (σ, h) => .nx σ h | none => .bad)
    | .bad => .bad) := by simp only [exec] <;> rfl
@[simp] theorem exec_ret (e : E) : exec T Φ (.ret e) σ h = (match den T Φ e σ h with | .ok v h => .rt v h | .bad => .bad) := by simp only [exec] <;> rfl
@[simp] theorem exec_ite (c : E) (a b : List S) : exec T Φ (.ite c a b) σ h = (match den T Φ c σ h with
    | .ok (.bl true) h => execs T Φ a σ h
    | .ok (.bl false) h => execs T Φ b σ h
    | _ => .bad) := by simp only [exec] <;> rfl
theorem exec_for (k : Ik) (tg : Tg) (its : List E) (b : List S) : exec T Φ (.for_ k tg its b) σ h = (match denL T Φ its σ h with
    | .ok as h => (match walkD k as h with
      | none => .bad
      | some (l, xs) => (forGo tg (fun σ h => execs T Φ b σ h) xs σ (h.lock l)).unlock l)
    | .bad => .bad) := by simp only [exec] <;> rfl
theorem exec_while (c : E) (b : List S) : exec T Φ (.while_ c b) σ h = whileGo (den T Φ c) (fun σ h => execs T Φ b σ h) whileFuel σ h := by simp only [exec] <;> rfl
@[simp] theorem exec_pass : exec T Φ .pass σ h = .nx σ h := by simp only [exec] <;> rfl
@[simp] theorem execs_nil : execs T Φ [] σ h = .nx σ h := by simp only [execs] <;> rfl
@[simp] theorem execs_cons (s : S) (r : List S) : execs T Φ (s :: r) σ h = (match exec T Φ s σ h with
    | .nx σ h => execs T Φ r σ h
    | o => o) := by simp only [execs] <;> rfl
end
theorem execs_nx {T : Tab} {Φ : Nat → Fn} {σ σ' : Env} {h h' : H} {s : S} {r : List S} (e : exec T Φ s σ h = .nx σ' h') : execs T Φ (s :: r) σ h = execs T Φ r σ' h' := by rw [execs_cons, e]
theorem execs_rt {T : Tab} {Φ : Nat → Fn} {σ : Env} {h h' : H} {s : S} {r : List S} {v : D} (e : exec T Φ s σ h = .rt v h') : execs T Φ (s :: r) σ h = .rt v h' := by rw [execs_cons, e]
section
variable {T : Tab} {Φ : Nat → Fn} {σ σ' : Env} {h h' : H} {s : S} {r : List S} {e : E} {i : Nat}
theorem execs_expr (v : D) (h' : H) (q : den T Φ e σ h = .ok v h') : execs T Φ (.expr e :: r) σ h = execs T Φ r σ h' := by rw [execs_cons, exec_expr, q]
theorem execs_asgn (v : D) (h' : H) (q : den T Φ e σ h = .ok v h') : execs T Φ (.asg (.n i) e :: r) σ h = execs T Φ r (σ.set i (some v)) h' := by rw [execs_cons, exec_asg, q]; simp
theorem execs_asg {g : G} (v : D) (h' : H) (q : den T Φ e σ h = .ok v h') (σ2 : Env) (h2 : H) (q2 : gset T Φ g v σ h' = some (σ2, h2)) : execs T Φ (.asg g e :: r) σ h = execs T Φ r σ2 h2 := by rw [execs_cons, exec_asg, q]; simp [q2]
theorem execs_ite_f {a : List S} (h' : H) (q : den T Φ e σ h = .ok (.bl false) h') : execs T Φ (.ite e a [] :: r) σ h = execs T Φ r σ h' := by rw [execs_cons, exec_ite, q]; simp
theorem execs_ite_e {a b : List S} (h' : H) (q : den T Φ e σ h = .ok (.bl false) h') (σ2 : Env) (h2 : H) (q2 : execs T Φ b σ h' = .nx σ2 h2) : execs T Φ (.ite e a b :: r) σ h = execs T Φ r σ2 h2 := by rw [execs_cons, exec_ite, q]; simp [q2]
theorem execs_ite_t {a b : List S} (h' : H) (q : den T Φ e σ h = .ok (.bl true) h') (σ2 : Env) (h2 : H) (q2 : execs T Φ a σ h' = .nx σ2 h2) : execs T Φ (.ite e a b :: r) σ h = execs T Φ r σ2 h2 := by rw [execs_cons, exec_ite, q]; simp [q2]
theorem execs_ite_rt {a b : List S} (h' : H) (q : den T Φ e σ h = .ok (.bl true) h') (v : D) (h2 : H) (q2 : execs T Φ a σ h' = .rt v h2) : execs T Φ (.ite e a b :: r) σ h = .rt v h2 := by rw [execs_cons, exec_ite, q]; simp [q2]
theorem execs_ret (v : D) (h' : H) (q : den T Φ e σ h = .ok v h') : execs T Φ (.ret e :: r) σ h = .rt v h' := by rw [execs_cons, exec_ret, q]
end
section
variable {T : Tab} {fd : Nat → Option Fd} {n : Nat} {h : H}
theorem phi_raw {j : Nat} {f : Fd} {as : List D} (e : fd j = some f) (m : f.mode = .raw) (hl : as.length = f.np ∧ f.np ≤ f.ns) : Phi T fd (n + 1) j as h = fin (execs T (Phi T fd n) f.body (startE f as) h) := by
  simp only [Phi, e, runF, if_pos hl, m]
theorem phi_P {j : Nat} {f : Fd} {as : List D} {v : D} (h1 : H) (e : fd j = some f) (m : f.mode = .P) (hl : as.length = f.np ∧ f.np ≤ f.ns) (hv : v.pure = true)
    (r : fin (execs T (Phi T fd n) f.body (startE f as) { h with fl := h.o.length }) = .ok v h1) : Phi T fd (n + 1) j as h = .ok v h := by
  simp only [Phi, e, runF, if_pos hl, m, r, hv, if_true]
theorem phi_L {j : Nat} {f : Fd} {as : List D} {xs : List D} (p : Nat) (h1 : H) (e : fd j = some f) (m : f.mode = .L) (hl : as.length = f.np ∧ f.np ≤ f.ns) (hp : h.o.length ≤ p) (ho : h1.o[p]? = some (.lst xs)) (hv : D.pures xs = true)
    (r : fin (execs T (Phi T fd n) f.body (startE f as) { h with fl := h.o.length }) = .ok (.ref p) h1) : Phi T fd (n + 1) j as h = .ok (.ref h.o.length) (h.push (.lst xs)) := by
  simp only [Phi, e, runF, if_pos hl, m, r, ho, hv, decide_eq_true hp, Bool.and_self, if_true, alloc]
end
/-- locks are of objects -/
def H.ok (h : H) : Prop := ∀ x ∈ h.lk, x < h.o.length
theorem phi_P' {T : Tab} {fd : Nat → Option Fd} {n : Nat} {h : H} {j : Nat} {f : Fd} {as : List D} {v : D} (e : fd j = some f) (m : f.mode = .P) (hl : as.length = f.np ∧ f.np ≤ f.ns) (hv : v.pure = true)
    (r : ∀ h' : H, h'.o = h.o → h'.lk = h.lk → h'.fl = h.o.length → ∃ h1, fin (execs T (Phi T fd n) f.body (startE f as) h') = .ok v h1) : Phi T fd (n + 1) j as h = .ok v h := by
  obtain ⟨h1, r⟩ := r { h with fl := h.o.length } rfl rfl rfl
  exact phi_P h1 e m hl hv r
theorem phi_L' {T : Tab} {fd : Nat → Option Fd} {n : Nat} {h : H} {j : Nat} {f : Fd} {as : List D} {xs : List D} (e : fd j = some f) (m : f.mode = .L) (hl : as.length = f.np ∧ f.np ≤ f.ns) (hv : D.pures xs = true)
    (r : ∀ h' : H, h'.o = h.o → h'.lk = h.lk → h'.fl = h.o.length → ∃ h1 p, fin (execs T (Phi T fd n) f.body (startE f as) h') = .ok (.ref p) h1 ∧ h.o.length ≤ p ∧ h1.o[p]? = some (.lst xs)) : Phi T fd (n + 1) j as h = .ok (.ref h.o.length) (h.push (.lst xs)) := by
  obtain ⟨h1, p, r, h2, h3⟩ := r { h with fl := h.o.length } rfl rfl rfl
  exact phi_L p h1 e m hl h2 h3 hv r
theorem tmp_ok' {T : Tab} {Φ : Nat → Fn} {σ : Env} {h : H} {a : E} {v : D} (hv : v.pure = true) (r : ∀ h' : H, h'.o = h.o → h'.lk = h.lk → h'.fl = h.o.length → ∃ h1, den T Φ a σ h' = .ok v h1) : den T Φ (.tmp a) σ h = .ok v h := by
  obtain ⟨h1, r⟩ := r { h with fl := h.o.length } rfl rfl rfl
  exact tmp_ok hv r
theorem whileGo_true {c : M} {b : SM} {n : Nat} {σ σ2 : Env} {h h1 h2 : H} (e : c σ h = .ok (.bl true) h1) (e2 : b σ h1 = .nx σ2 h2) : whileGo c b (n + 1) σ h = whileGo c b n σ2 h2 := by
  rw [whileGo, e]
  simp only [e2]
theorem whileGo_false {c : M} {b : SM} {n : Nat} {σ : Env} {h h1 : H} (e : c σ h = .ok (.bl false) h1) : whileGo c b (n + 1) σ h = .nx σ h1 := by
  rw [whileGo, e]
theorem whileGo_ret {c : M} {b : SM} {n : Nat} {σ : Env} {h h1 h2 : H} {v : D} (e : c σ h = .ok (.bl true) h1) (e2 : b σ h1 = .rt v h2) : whileGo c b (n + 1) σ h = .rt v h2 := by
  rw [whileGo, e]
  simp only [e2]
/-! ### comprehensions whose parts leave the heap alone -/
/-- h' has all that h has -/
structure Has (h h' : H) : Prop where
  get : ∀ (i : Nat) (o : AO), h.o[i]? = some o → h'.o[i]? = some o
  ok : h'.ok
theorem Has.refl {h : H} (k : h.ok) : Has h h := ⟨fun _ _ e => e, k⟩
theorem Has.trans {a b c : H} (x : Has a b) (y : Has b c) : Has a c := ⟨fun i o e => y.get i o (x.get i o e), y.ok⟩
theorem H.ok.push {h : H} (k : h.ok) (o : AO) : (h.push o).ok := fun x hx => by
  have := k x hx
  simp [H.push]
  omega
theorem H.ok.put {h : H} (k : h.ok) (m : Nat) (o : AO) : (h.put m o).ok := fun x hx => by
  have := k x hx
  simpa [H.put] using this
theorem H.ok.of {h h' : H} (k : h.ok) (e : h'.o = h.o) (e2 : h'.lk = h.lk) : h'.ok := fun x hx => by
  rw [e]
  exact k x (e2 ▸ hx)
theorem H.ok.lock {h : H} (k : h.ok) {l : List Nat} (hl : ∀ x ∈ l, x < h.o.length) : (h.lock l).ok := fun x hx => by
  rcases List.mem_append.mp hx with hx | hx
  · exact hl x hx
  · exact k x hx
theorem H.ok.unlock {h : H} (k : h.ok) (l : List Nat) : (h.unlock l).ok := fun x hx => k x (List.mem_of_mem_drop hx)
theorem Has.push {h h' : H} (x : Has h h') (o : AO) : Has h (h'.push o) := ⟨fun i o' e => by
  have := x.get i o' e
  unfold H.push
  rw [List.getElem?_append_left (List.getElem?_eq_some_iff.mp this).1]
  exact this, x.ok.push o⟩
theorem Has.put {h h' : H} (x : Has h h') {m : Nat} (hm : h.o.length ≤ m) (o : AO) : Has h (h'.put m o) := ⟨fun i o' e => by
  have h1 := x.get i o' e
  have h2 : i < h.o.length := (List.getElem?_eq_some_iff.mp e).1
  unfold H.put
  rw [List.getElem?_set_ne (by omega)]
  exact h1, x.ok.put m o⟩
theorem Has.of {h h' h'' : H} (x : Has h h') (e : h''.o = h'.o) (e2 : h''.lk = h'.lk) : Has h h'' := ⟨fun i o q => by rw [e]; exact x.get i o q, x.ok.of e e2⟩
theorem Has.len {h h' : H} (x : Has h h') : h.o.length ≤ h'.o.length := by
  rcases Nat.eq_zero_or_pos h.o.length with z | z
  · omega
  · have := x.get (h.o.length - 1) _ (List.getElem?_eq_getElem (by omega))
    have := (List.getElem?_eq_some_iff.mp this).1
    omega
@[simp] theorem H.push_put (h : H) (a b : AO) : (h.push a).put h.o.length b = h.push b := by
  simp [H.push, H.put]
@[simp] theorem H.push_len (h : H) (a : AO) : (h.push a).o.length = h.o.length + 1 := by simp [H.push]
@[simp] theorem H.push_get (h : H) (a : AO) : (h.push a).o[h.o.length]? = some a := by simp [H.push]
theorem H.push_old {h : H} {a o : AO} {i : Nat} (e : h.o[i]? = some o) : (h.push a).o[i]? = some o := by
  unfold H.push
  rw [List.getElem?_append_left (List.getElem?_eq_some_iff.mp e).1]
  exact e
theorem H.put_ne {h : H} {a : AO} {i m : Nat} (e : m ≠ i) : (h.put m a).o[i]? = h.o[i]? := by
  unfold H.put
  rw [List.getElem?_set_ne e]
theorem H.put_eq {h : H} {a o : AO} {m : Nat} (e : h.o[m]? = some o) : (h.put m a).o[m]? = some a := by
  unfold H.put
  simp [(List.getElem?_eq_some_iff.mp e).1]
theorem H.put_same {h : H} {o : AO} {m : Nat} (ho : h.o[m]? = some o) : h.put m o = h := by
  unfold H.put
  obtain ⟨hs, fl, lk⟩ := h
  simp at ho ⊢
  obtain ⟨h1, h2⟩ := List.getElem?_eq_some_iff.mp ho
  rw [← h2]
  simp
@[simp] theorem H.put_put (h : H) (m : Nat) (a b : AO) : (h.put m a).put m b = h.put m b := by simp [H.put]
@[simp] theorem H.put_len (h : H) (m : Nat) (a : AO) : (h.put m a).o.length = h.o.length := by simp [H.put]
theorem lcGo_pure {m : Nat} {tg : Tg} {ifs elt : M} {σ : Env} {h0 : H} (f : D → Bool) (g : D → D) (hm : h0.o.length ≤ m) :
    ∀ (xs : List D) (h : H) (acc : List D), (∀ x ∈ xs, ∃ σ', tgSet tg x σ = some σ' ∧ ∀ h', Has h0 h' → ifs σ' h' = .ok (.bl (f x)) h' ∧ (f x = true → elt σ' h' = .ok (g x) h')) →
      Has h0 h → h.o[m]? = some (.lst acc) → acc.length + xs.length ≤ sizeCap →
      lcGo m tg ifs elt σ xs h = .ok (.ref m) (h.put m (.lst (acc ++ (xs.filter f).map g)))
  | [], h, acc, _, _, ho, _ => by
    simp only [lcGo, List.filter_nil, List.map_nil, List.append_nil, H.put_same ho]
  | x :: xs, h, acc, hx, hh, ho, hc => by
    obtain ⟨σ', e1, e2⟩ := hx x (List.mem_cons_self ..)
    obtain ⟨e3, e4⟩ := e2 h hh
    simp only [lcGo, e1, e3, R.bind_ok]
    have hx' : ∀ y ∈ xs, _ := fun y hy => hx y (List.mem_cons_of_mem _ hy)
    simp only [List.length_cons] at hc
    cases ef : f x with
    | false =>
      simp only [List.filter_cons, ef]
      exact lcGo_pure f g hm xs h acc hx' hh ho (by omega)
    | true =>
      simp only [e4 ef, R.bind_ok, ho, List.filter_cons, ef, if_true, List.map_cons]
      rw [if_pos (by omega), lcGo_pure f g hm xs _ _ hx' (hh.put hm _) (H.put_eq ho) (by simp; omega)]
      simp
theorem dcGo_pure {m : Nat} {tg : Tg} {kk vv : M} {σ : Env} {h0 : H} (f : D → L2.Key) (kd : D → D) (g : D → D) (hkd : ∀ x, keyOf (kd x) = some (f x)) (hm : h0.o.length ≤ m) :
    ∀ (xs : List D) (h : H) (acc : List (L2.Key × D)), (∀ x ∈ xs, ∃ σ', tgSet tg x σ = some σ' ∧ ∀ h', Has h0 h' → kk σ' h' = .ok (kd x) h' ∧ vv σ' h' = .ok (g x) h') →
      Has h0 h → m ∉ h.lk → h.o[m]? = some (.dK acc) → acc.length + xs.length ≤ sizeCap →
      dcGo m tg kk vv σ xs h = .ok (.ref m) (h.put m (.dK (xs.foldl (fun a x => putK (f x) (g x) a) acc)))
  | [], h, acc, _, _, _, ho, _ => by
    simp only [dcGo, List.foldl_nil, H.put_same ho]
  | x :: xs, h, acc, hx, hh, hl, ho, hc => by
    obtain ⟨σ', e1, e2⟩ := hx x (List.mem_cons_self ..)
    obtain ⟨e3, e4⟩ := e2 h hh
    simp only [dcGo, e1, e3, e4, R.bind_ok, hkd, ho]
    have hx' : ∀ y ∈ xs, _ := fun y hy => hx y (List.mem_cons_of_mem _ hy)
    simp only [List.length_cons] at hc
    have hl' : h.lk.contains m = false := by simpa using hl
    have hp : ∀ (k : L2.Key) (v : D) (l : List (L2.Key × D)), (putK k v l).length ≤ l.length + 1 := fun k v l => by
      induction l with
      | nil => simp [putK]
      | cons a l ih => rw [putK]; split <;> simp <;> omega
    have := hp (f x) (g x) acc
    simp only [hl', Bool.not_false, Bool.and_true, decide_eq_true_eq]
    rw [if_pos (by omega), dcGo_pure f kd g hkd hm xs _ _ hx' (hh.put hm _) hl (H.put_eq ho) (by omega)]
    simp
theorem lc_pure {T : Tab} {Φ : Nat → Fn} {k : Ik} {tg : Tg} {its ifs : List E} {elt : E} {σ : Env} {h : H} {h1 : H} {as : List D} {l : List Nat} {xs : List D} (f : D → Bool) (g : D → D) (e : denL T Φ its σ h = .ok as h1) (ew : walkD k as h1 = some (l, xs)) (k1 : h1.ok) (hl : ∀ x ∈ l, x < h1.o.length) (hc : xs.length ≤ sizeCap)
    (hx : ∀ x ∈ xs, ∃ σ', tgSet tg x σ = some σ' ∧ ∀ h', Has h1 h' → denIfs T Φ ifs σ' h' = .ok (.bl (f x)) h' ∧ (f x = true → den T Φ elt σ' h' = .ok (g x) h')) :
    den T Φ (.lc k tg its ifs elt) σ h = .ok (.ref h1.o.length) (h1.push (.lst ((xs.filter f).map g))) := by
  rw [den_lc, e]
  simp only [R.bind_ok, ew]
  have hh : Has h1 ((h1.lock l).push (.lst [])) := by
    refine ⟨fun i o e => H.push_old (h := h1.lock l) e, H.ok.push (k1.lock hl) _⟩
  rw [lcGo_pure f g (Nat.le_refl _) xs _ [] hx hh (H.push_get (h1.lock l) _) (by simpa using hc)]
  simp only [R.bind_ok]
  congr 1
  simp [H.push, H.put, H.unlock, H.lock]
end SC
end
end
section
set_option linter.all false
set_option maxRecDepth 100000
set_option Elab.async false
/-! M1: plans. -/
noncomputable section
namespace SC
structure Pl where
  ps : List Nat
  b0 : List Nat
  b1 : List Nat
  cs : List Nat
  q0 : Nat
  q1 : Nat
  fs : List Nat
def nt (l : List Nat) : D := .tup (l.map fun (k : Nat) => .int k)
def nl (l : List Nat) : AO := .lst (l.map fun (k : Nat) => .int k)
def sI (s : Bool) : D := .int (if s then 1 else 0)
def Pl.obj (P : Pl) : AO := .ins 0 [(0, nt P.ps), (1, .tup [nt P.b0, nt P.b1]), (2, nt P.cs), (3, .tup [.int P.q0, .int P.q1]), (4, nt P.fs)]
def Pl.par (P : Pl) (k : Nat) : Nat := P.ps.getD (k - 1) 0
def Pl.bs (P : Pl) (s : Bool) : List Nat := if s then P.b1 else P.b0
def Pl.q (P : Pl) (s : Bool) : Nat := if s then P.q1 else P.q0
/-- what the walks lean on -/
structure Pl.Ok (P : Pl) : Prop where
  len : P.ps.length ≤ 4
  par : ∀ (i k : Nat), P.ps[i]? = some k → k ≤ i
  z0 : 0 ∈ P.b0
  z1 : 0 ∈ P.b1
  r0 : ∀ k ∈ P.b0, k ≤ P.ps.length
  r1 : ∀ k ∈ P.b1, k ≤ P.ps.length
  cl : P.cs.length = P.b0.length
  q0 : P.q0 ≤ P.ps.length
  q1 : P.q1 ≤ P.ps.length
  fs : ∀ k ∈ P.fs, k ≤ P.ps.length
theorem Pl.Ok.q {P : Pl} (ok : P.Ok) (s : Bool) : P.q s ≤ P.ps.length := by
  cases s
  · exact ok.q0
  · exact ok.q1
theorem Pl.Ok.par_lt {P : Pl} (ok : P.Ok) {k : Nat} (h : 0 < k) (hk : k ≤ P.ps.length) : P.par k < k := by
  unfold Pl.par
  have h1 : k - 1 < P.ps.length := by omega
  have := ok.par (k - 1) (P.ps[k - 1]) (List.getElem?_eq_getElem h1)
  rw [List.getD_eq_getElem?_getD, List.getElem?_eq_getElem h1]
  simp
  omega
/-- up while above o -/
def Pl.climb (P : Pl) (o : Nat) : Nat → Nat → Nat
  | 0, k => k
  | f + 1, k => if o < k then P.climb o f (P.par k) else k
def Pl.under (P : Pl) (k o : Nat) : Bool := P.climb o k k == o
/-- up to an own body -/
def Pl.up (P : Pl) (l : List Nat) : Nat → Nat → Nat
  | 0, k => k
  | f + 1, k => if l.contains k then k else P.up l f (P.par k)
def Pl.body (P : Pl) (s : Bool) (k : Nat) : Nat := P.up (P.bs s) k k
structure AgP (T : Tab) (fd : Nat → Option Fd) : Prop where
  f0 : fd 0 = some ir_is_number
  f9 : fd 9 = some ir_Plan___len__
  f10 : fd 10 = some ir_Plan_check_kind
  f11 : fd 11 = some ir_Plan_is_under
  f12 : fd 12 = some ir_Plan_body
  f14 : fd 14 = some ir_Plan_many_calls
  f15 : fd 15 = some ir_check_site
  f16 : fd 16 = some ir_bodies_at
  f20 : fd 20 = some ir_does_hit
  m15 : T.meth 0 15 = some 10
  m16 : T.meth 0 16 = some 11
  m17 : T.meth 0 17 = some 12
  m19 : T.meth 0 19 = some 14
  l0 : T.len 0 = some 9
section
variable {T : Tab} {fd : Nat → Option Fd} {n : Nat} {h : H} {P : Pl} {p : Nat}
theorem is_number_ok (A : AgP T fd) (a lo hi : Int) : Phi T fd (n + 1) 0 [.int a, .int lo, .int hi] h = .ok (.bl (decide (lo ≤ a) && decide (a ≤ hi))) h := by
  refine phi_P { h with fl := h.o.length } A.f0 rfl ⟨rfl, by decide⟩ rfl ?_
  simp [ir_is_number, startE, isiD, tyD, kitT, retB, notD, op2, fin]
  by_cases c : lo ≤ a <;> simp [c]
theorem nt_sub {l : List Nat} {i : Nat} (hi : i < l.length) : subD (nt l) (.int i) h = .ok (.int (l.getD i 0 : Nat)) h := by
  have : ixAt (l.map fun (k : Nat) => D.int k).length (i : Int) = some i := by
    simp [ixAt, L2.ixN]
    omega
  simp only [subD, nt, this]
  simp [List.getD_eq_getElem?_getD, List.getElem?_eq_getElem hi]
theorem nt_in {l : List Nat} {k : Nat} : inD (.int k) (nt l) h = some (l.contains k) := by
  simp only [inD, nt]
  have e1 : (l.map fun (k : Nat) => D.int k).all flat = true := by
    rw [List.all_eq_true]
    intro x hx
    obtain ⟨a, _, rfl⟩ := List.mem_map.mp hx
    rfl
  simp only [e1, flat, Bool.and_self, if_true, Option.some.injEq]
  induction l with
  | nil => rfl
  | cons a l ih =>
    simp only [List.map_cons, List.any_cons, List.contains_cons]
    rw [ih (by simp only [List.map_cons, List.all_cons, Bool.and_eq_true] at e1; exact e1.2)]
    congr 1
    simp only [feq]
    by_cases c : a = k
    · subst c; simp
    · have : ¬ k = a := fun z => c z.symm
      have e : ((a : Int) == (k : Int)) = false := by simp; omega
      simp [this, e]
theorem plan_fld {f : Nat} {v : D} (hp : h.o[p]? = some P.obj) (e : getF f [(0, nt P.ps), (1, .tup [nt P.b0, nt P.b1]), (2, nt P.cs), (3, .tup [.int P.q0, .int P.q1]), (4, nt P.fs)] = some v) : fldD (.ref p) f h = .ok v h := by
  simp only [fldD, hp, Pl.obj, e]
theorem plan_meth {m : Nat} (hp : h.o[p]? = some P.obj) (hm : 5 ≤ m) : methD T m (.ref p) h = T.meth 0 m := by
  simp only [methD, hp, Pl.obj, getF]
  simp [show ¬ 0 = m by omega, show ¬ 1 = m by omega, show ¬ 2 = m by omega, show ¬ 3 = m by omega, show ¬ 4 = m by omega]
theorem check_kind_ok (A : AgP T fd) (hp : h.o[p]? = some P.obj) {k : Nat} (hk : k ≤ P.ps.length) : Phi T fd (n + 2) 10 [.ref p, .int k] h = .ok .non h := by
  refine phi_P' A.f10 rfl ⟨rfl, by decide⟩ rfl fun h' e' _ _ => ⟨h', ?_⟩
  rw [← e'] at hp
  have e := is_number_ok (n := n) (h := h') A k 0 (P.ps.length : Nat)
  have e0 := plan_fld (h := h') (P := P) (p := p) (f := 0) hp rfl
  simp [ir_Plan_check_kind, startE, e0, bltD, nt, lenD]
  simp at e
  rw [e]
  simp [notD, hk, fin]
theorem check_site_ok (A : AgP T fd) (s : Bool) : Phi T fd (n + 2) 15 [sI s] h = .ok .non h := by
  refine phi_P' A.f15 rfl ⟨rfl, by decide⟩ rfl fun h' e' _ _ => ⟨h', ?_⟩
  have e := is_number_ok (n := n) (h := h') A (if s then 1 else 0) 0 1
  simp [ir_check_site, startE, sI, e]
  cases s <;> simp [notD, fin]
theorem is_under_ok (A : AgP T fd) (ok : P.Ok) (hp : h.o[p]? = some P.obj) {k o : Nat} (hk : k ≤ P.ps.length) (ho : o ≤ P.ps.length) : Phi T fd (n + 3) 11 [.ref p, .int k, .int o] h = .ok (.bl (P.under k o)) h := by
  refine phi_P' A.f11 rfl ⟨rfl, by decide⟩ rfl fun h' e' _ _ => ⟨h', ?_⟩
  rw [← e'] at hp
  have e1 := check_kind_ok (n := n) A hp hk
  have e2 := check_kind_ok (n := n) A hp ho
  have m := plan_meth (T := T) (P := P) (p := p) (m := 15) hp (by omega)
  have e0 := plan_fld (P := P) (p := p) (f := 0) hp rfl
  have lp : ∀ (f : Nat) (k' g : Nat), k' ≤ f → k' ≤ P.ps.length → whileGo (den T (Phi T fd (n + 2)) (.op2 .gt (.var 1) (.var 2))) (fun σ h => execs T (Phi T fd (n + 2)) [.asg (.n 1) (.sub (.fld (.var 0) 0) (.op2 .sub (.var 1) (.cI 1)))] σ h) (g + f + 1) [some (.ref p), some (.int k'), some (.int o)] h' = .nx [some (.ref p), some (.int (P.climb o f k' : Nat)), some (.int o)] h' := by
    intro f
    induction f with
    | zero =>
      intro k' g h1 h2
      have : k' = 0 := by omega
      subst this
      exact whileGo_false (by simp [op2])
    | succ f ih =>
      intro k' g h1 h2
      show whileGo _ _ ((g + f + 1) + 1) _ _ = _
      by_cases c : o < k'
      · have hs := nt_sub (h := h') (l := P.ps) (i := k' - 1) (by omega)
        have hc : ((k' : Int) - 1) = ((k' - 1 : Nat) : Int) := by omega
        have hlt := ok.par_lt (k := k') (by omega) h2
        rw [Pl.climb, if_pos c, whileGo_true (h1 := h') (σ2 := [some (.ref p), some (.int (P.par k' : Nat)), some (.int o)]) (h2 := h') (by simp [op2, c]) (by simp [e0, op2, hc, hs, Pl.par])]
        exact ih (P.par k') g (by omega) (by omega)
      · rw [Pl.climb, if_neg c]
        exact whileGo_false (by simp [op2]; omega)
  have l1 := lp k k (whileFuel - k - 1) (Nat.le_refl _) hk
  have hw : whileFuel - k - 1 + k + 1 = whileFuel := by
    have := ok.len
    unfold whileFuel
    omega
  rw [hw] at l1
  show fin (execs T (Phi T fd (n + 2)) ir_Plan_is_under.body [some (.ref p), some (.int k), some (.int o)] h') = _
  unfold ir_Plan_is_under
  rw [execs_expr .non h' (by simp [m, A.m15, e1]), execs_expr .non h' (by simp [m, A.m15, e2]), execs_nx (by rw [exec_while]; exact l1)]
  simp [op2, eqD, scalar, bi, seqv, retB, fin, Pl.under]
  rw [Bool.eq_iff_iff]
  simp
  omega
theorem body_ok (A : AgP T fd) (ok : P.Ok) (hp : h.o[p]? = some P.obj) {k : Nat} (s : Bool) (hk : k ≤ P.ps.length) : Phi T fd (n + 3) 12 [.ref p, sI s, .int k] h = .ok (.int (P.body s k : Nat)) h := by
  refine phi_P' A.f12 rfl ⟨rfl, by decide⟩ rfl fun h' e' _ _ => ⟨h', ?_⟩
  rw [← e'] at hp
  have e1 := check_kind_ok (n := n) A hp hk
  have e2 := check_site_ok (T := T) (n := n) (h := h') A s
  have m := plan_meth (T := T) (P := P) (p := p) (m := 15) hp (by omega)
  have e0 := plan_fld (P := P) (p := p) (f := 0) hp rfl
  have e01 := plan_fld (P := P) (p := p) (f := 1) hp rfl
  have eb : subD (.tup [nt P.b0, nt P.b1]) (sI s) h' = .ok (nt (P.bs s)) h' := by cases s <;> rfl
  have hz : 0 ∈ P.bs s := by
    cases s
    · exact ok.z0
    · exact ok.z1
  have lp : ∀ (f : Nat) (k' g : Nat), k' ≤ f → k' ≤ P.ps.length → whileGo (den T (Phi T fd (n + 2)) (.op2 .nin (.var 2) (.sub (.fld (.var 0) 1) (.var 1)))) (fun σ h => execs T (Phi T fd (n + 2)) [.asg (.n 2) (.sub (.fld (.var 0) 0) (.op2 .sub (.var 2) (.cI 1)))] σ h) (g + f + 1) [some (.ref p), some (sI s), some (.int k')] h' = .nx [some (.ref p), some (sI s), some (.int (P.up (P.bs s) f k' : Nat))] h' := by
    intro f
    induction f with
    | zero =>
      intro k' g h1 h2
      have : k' = 0 := by omega
      subst this
      have hi := nt_in (h := h') (l := P.bs s) (k := 0)
      simp only [Int.ofNat_zero] at hi
      exact whileGo_false (by simp [e01, eb, op2, hi, retB, hz])
    | succ f ih =>
      intro k' g h1 h2
      show whileGo _ _ ((g + f + 1) + 1) _ _ = _
      have hi := nt_in (h := h') (l := P.bs s) (k := k')
      rw [Pl.up]
      cases c : (P.bs s).contains k' with
      | true => 
        rw [c] at hi
        exact whileGo_false (by simp [e01, eb, op2, hi, retB])
      | false =>
        rw [c] at hi
        have h0 : k' ≠ 0 := fun z => by
          subst z
          simp [hz] at c
        have hs := nt_sub (h := h') (l := P.ps) (i := k' - 1) (by omega)
        have hc : ((k' : Int) - 1) = ((k' - 1 : Nat) : Int) := by omega
        have hlt := ok.par_lt (k := k') (by omega) h2
        rw [whileGo_true (h1 := h') (σ2 := [some (.ref p), some (sI s), some (.int (P.par k' : Nat))]) (h2 := h') (by simp [e01, eb, op2, hi, retB]) (by simp [e0, op2, hc, hs, Pl.par])]
        exact ih (P.par k') g (by omega) (by omega)
  have l1 := lp k k (whileFuel - k - 1) (Nat.le_refl _) hk
  have hw : whileFuel - k - 1 + k + 1 = whileFuel := by
    have := ok.len
    unfold whileFuel
    omega
  rw [hw] at l1
  show fin (execs T (Phi T fd (n + 2)) ir_Plan_body.body [some (.ref p), some (sI s), some (.int k)] h') = _
  unfold ir_Plan_body
  rw [execs_expr .non h' (by simp [e2]), execs_expr .non h' (by simp [m, A.m15, e1]), execs_nx (by rw [exec_while]; exact l1)]
  simp [fin, Pl.body]
end
end SC
end
end
section
set_option linter.all false
set_option maxRecDepth 100000
set_option Elab.async false
/-! M2: bodies that are possible, hits, calls. -/
noncomputable section
namespace SC
def ddN : List Nat → List Nat → List Nat
  | acc, [] => acc
  | acc, x :: r => if acc.contains x then ddN acc r else ddN (acc ++ [x]) r
def insN (x : Nat) : List Nat → List Nat
  | [] => [x]
  | y :: r => if x ≤ y then x :: y :: r else y :: insN x r
def sortN (l : List Nat) : List Nat := l.foldr insN []
def Pl.at (P : Pl) (s : Bool) (ld : List Nat) : List Nat := sortN (ddN [] ((ld.filter fun k => P.under k (P.q s)).map (P.body s)))
theorem insI_nat (x : Nat) : ∀ l : List Nat, insI (x : Int) (l.map fun (k : Nat) => (k : Int)) = (insN x l).map fun (k : Nat) => (k : Int)
  | [] => rfl
  | y :: l => by
    simp only [List.map_cons, insI, insN]
    by_cases c : x ≤ y
    · rw [if_pos (by omega), if_pos c]; rfl
    · rw [if_neg (by omega), if_neg c, insI_nat x l]; rfl
theorem sortI_nat : ∀ l : List Nat, sortI (l.map fun (k : Nat) => (k : Int)) = (sortN l).map fun (k : Nat) => (k : Int)
  | [] => rfl
  | x :: l => by
    have := sortI_nat l
    unfold sortI sortN at this ⊢
    simp only [List.map_cons, List.foldr_cons]
    rw [this, insI_nat]
theorem insN_len (x : Nat) : ∀ l : List Nat, (insN x l).length = l.length + 1
  | [] => rfl
  | y :: l => by
    rw [insN]
    split
    · rfl
    · simp [insN_len x l]
theorem sortN_len : ∀ l : List Nat, (sortN l).length = l.length
  | [] => rfl
  | x :: l => by
    have := sortN_len l
    unfold sortN at this ⊢
    rw [List.foldr_cons, insN_len, this]; rfl
theorem ddN_len : ∀ (acc l : List Nat), (ddN acc l).length ≤ acc.length + l.length
  | acc, [] => by simp [ddN]
  | acc, x :: l => by
    rw [ddN]
    split
    · have := ddN_len acc l; simp; omega
    · have := ddN_len (acc ++ [x]) l; simp at this ⊢; omega
theorem intsOf_nat (l : List Nat) : intsOf (l.map fun (k : Nat) => D.int k) = some (l.map fun (k : Nat) => (k : Int)) := by
  induction l with
  | nil => rfl
  | cons a l ih => simp [intsOf, ih]
theorem pures_nat (l : List Nat) : D.pures (l.map fun (k : Nat) => D.int k) = true := by
  induction l with
  | nil => rfl
  | cons a l ih => simp [D.pures, D.pure, ih]
@[simp] theorem pure_nt (l : List Nat) : (nt l).pure = true := by simp [nt, D.pure, pures_nat]
def nk (l : List Nat) : List (L2.Key × D) := l.map fun (k : Nat) => ((.inl (k : Int) : L2.Key), D.bl true)
theorem putK_nk (x : Nat) : ∀ l : List Nat, putK (.inl (x : Int)) (.bl true) (nk l) = nk (if l.contains x then l else l ++ [x])
  | [] => rfl
  | y :: l => by
    have ih := putK_nk x l
    simp only [nk, List.map_cons, putK] at ih ⊢
    by_cases c : y = x
    · subst c; simp
    · rw [if_neg (by intro z; cases z; exact c rfl), ih]
      have : ¬ x = y := fun z => c z.symm
      by_cases d : x ∈ l <;> simp [this, d]
theorem fold_nk : ∀ (xs acc : List Nat), (xs.map fun (k : Nat) => D.int k).foldl (fun a x => putK ((fun x => match x with | D.int i => (.inl i : L2.Key) | _ => .inl 0) x) (.bl true) a) (nk acc) = nk (ddN acc xs)
  | [], acc => rfl
  | x :: xs, acc => by
    simp only [List.map_cons, List.foldl_cons, ddN]
    rw [putK_nk, fold_nk xs]
    split <;> rfl
theorem intKeys_nk (l : List Nat) : intKeys (nk l) = some (l.map fun (k : Nat) => (k : Int)) := by
  induction l with
  | nil => rfl
  | cons a l ih =>
    simp only [nk, List.map_cons, intKeys] at ih ⊢
    rw [ih]; rfl
section
variable {T : Tab} {fd : Nat → Option Fd} {n : Nat} {h : H} {P : Pl} {p : Nat}
theorem fold_body (f : Nat → Nat) : ∀ (xs acc : List Nat), (xs.map fun (k : Nat) => D.int k).foldl (fun a x => putK ((fun x => match x with | D.int i => (.inl (f i.toNat : Nat) : L2.Key) | _ => .inl 0) x) ((fun _ => D.bl true) x) a) (nk acc) = nk (ddN acc (xs.map f))
  | [], acc => rfl
  | x :: xs, acc => by
    simp only [List.map_cons, List.foldl_cons, ddN, Int.toNat_natCast]
    rw [putK_nk, fold_body f xs]
    split <;> rfl
theorem bodies_at_ok (A : AgP T fd) (ok : P.Ok) (hk : h.ok) (hp : h.o[p]? = some P.obj) (s : Bool) {ld : List Nat} (hl : ∀ k ∈ ld, k ≤ P.ps.length) (hc : ld.length ≤ 60) : Phi T fd (n + 4) 16 [.ref p, sI s, nt ld] h = .ok (.ref h.o.length) (h.push (nl (P.at s ld))) := by
  refine phi_L' A.f16 rfl ⟨rfl, by decide⟩ (pures_nat _) fun h' e' ek' _ => ?_
  rw [← e'] at hp
  have k' : h'.ok := hk.of e' ek'
  have e3 := plan_fld (P := P) (p := p) (f := 3) hp rfl
  have eb : ∀ h'' : H, subD (.tup [.int P.q0, .int P.q1]) (sI s) h'' = .ok (.int (P.q s : Nat)) h'' := fun h'' => by cases s <;> rfl
  have cap : ld.length ≤ sizeCap := by unfold sizeCap; omega
  let f : D → Bool := fun x => match x with | .int i => P.under i.toNat (P.q s) | _ => false
  let g : D → D := fun x => x
  have l1 := lc_pure (T := T) (Φ := Phi T fd (n + 3)) (k := .seq) (tg := .n 4) (its := [.var 2]) (ifs := [(.meth 16 (.var 0) [(.var 4), (.sub (.fld (.var 0) 3) (.var 1))])]) (elt := .var 4) (σ := [some (.ref p), some (sI s), some (nt ld), none, none]) (h := h') (h1 := h') (as := [nt ld]) (l := []) (xs := ld.map fun (k : Nat) => D.int k) f g
    (by simp) (by simp [walkD, nt]) k' (by simp) (by simpa using cap) (fun x hx => by
      obtain ⟨k, hk, rfl⟩ := List.mem_map.mp hx
      refine ⟨_, rfl, fun h'' q => ?_⟩
      have hp2 := q.get _ _ hp
      have u := is_under_ok (T := T) (fd := fd) (n := n) A ok hp2 (hl k hk) (ok.q s)
      have e3' := plan_fld (P := P) (p := p) (f := 3) hp2 rfl
      have m := plan_meth (T := T) (P := P) (p := p) (m := 16) hp2 (by omega)
      constructor
      · simp [m, A.m16, e3', eb, u, f]
        cases P.under k (P.q s) <;> rfl
      · intro _; simp [g])
  have el : ((ld.map fun (k : Nat) => D.int k).filter f).map g = (ld.filter fun k => P.under k (P.q s)).map fun (k : Nat) => D.int k := by
    clear l1 cap hl hc
    induction ld with
    | nil => rfl
    | cons a ld ih =>
      have e : f (.int (a : Int)) = P.under a (P.q s) := rfl
      simp only [List.map_cons, List.filter_cons, e]
      cases P.under a (P.q s) <;> simp [ih, g]
  rw [el] at l1
  let us := ld.filter fun k => P.under k (P.q s)
  have hus : ∀ k ∈ us, k ≤ P.ps.length := fun k hk => hl k (List.mem_filter.mp hk).1
  have cus : us.length ≤ 60 := Nat.le_trans (List.length_filter_le _ _) hc
  let h2 : H := h'.push (nl us)
  have k2 : h2.ok := k'.push _
  have g2 : h2.o[h'.o.length]? = some (nl us) := H.push_get _ _
  have k2' : (h2.lock [h'.o.length]).ok := k2.lock (by simp [h2])
  have hh2 : Has h2 ((h2.lock [h'.o.length]).push (.dK [])) := ⟨fun i o e => H.push_old (h := h2.lock [h'.o.length]) e, k2'.push _⟩
  have hnl : h2.o.length ∉ ((h2.lock [h'.o.length]).push (.dK [])).lk := fun z => by
    have := k2' _ z
    simp [H.lock] at this
  have l2 := dcGo_pure (m := h2.o.length) (tg := .n 4) (kk := fun σ h => den T (Phi T fd (n + 3)) (.meth 17 (.var 0) [(.var 1), (.var 4)]) σ h) (vv := fun σ h => den T (Phi T fd (n + 3)) (.cB true) σ h) (σ := [some (.ref p), some (sI s), some (nt ld), some (.ref h'.o.length), none]) (h0 := h2)
    (fun x => match x with | D.int i => (.inl (P.body s i.toNat : Nat) : L2.Key) | _ => .inl 0) (fun x => match x with | D.int i => .int (P.body s i.toNat : Nat) | _ => .int 0) (fun _ => .bl true) (fun x => by cases x <;> rfl) (Nat.le_refl _) (us.map fun (k : Nat) => D.int k) _ [] (fun x hx => by
      obtain ⟨k, hk, rfl⟩ := List.mem_map.mp hx
      refine ⟨_, rfl, fun h'' q => ?_⟩
      have hp2 := q.get _ _ (H.push_old (a := nl us) hp)
      have u := body_ok (T := T) (fd := fd) (n := n) A ok hp2 s (hus k hk)
      have m := plan_meth (T := T) (P := P) (p := p) (m := 17) hp2 (by omega)
      simp [m, A.m17, u]) hh2 hnl (H.push_get _ _) (by simp [sizeCap]; omega)
  have fb := fold_body (P.body s) us []
  have l3 : den T (Phi T fd (n + 3)) (.dc (.n 4) (.var 3) (.meth 17 (.var 0) [(.var 1), (.var 4)]) (.cB true)) [some (.ref p), some (sI s), some (nt ld), some (.ref h'.o.length), none] h2 = .ok (.ref h2.o.length) (h2.push (.dK (nk (ddN [] (us.map (P.body s)))))) := by
    rw [den_dc]
    have : walkD .seq [.ref h'.o.length] h2 = some ([h'.o.length], us.map fun (k : Nat) => D.int k) := by
      simp only [walkD, itemsD, g2, nl]
    simp only [den_var, List.getElem?_cons_succ, List.getElem?_cons_zero, R.bind_ok, this]
    rw [l2]
    simp only [R.bind_ok]
    congr 1
    have fb' : List.foldl (fun a x => putK (match x with | D.int i => (.inl (P.body s i.toNat : Nat) : L2.Key) | _ => .inl 0) (D.bl true) a) [] (us.map fun (k : Nat) => D.int k) = nk (ddN [] (us.map (P.body s))) := fb
    rw [fb']
    simp [H.push, H.put, H.unlock, H.lock]
  refine ⟨(h2.push (.dK (nk (ddN [] (us.map (P.body s)))))).push (nl (P.at s ld)), h2.o.length + 1, ?_, by simp [h2, e']; omega, by
    have := H.push_get (h2.push (.dK (nk (ddN [] (us.map (P.body s)))))) (nl (P.at s ld))
    simpa [nl] using this⟩
  show fin (execs T (Phi T fd (n + 3)) ir_bodies_at.body [some (.ref p), some (sI s), some (nt ld), none, none] h') = _
  unfold ir_bodies_at
  rw [execs_asgn (.ref h'.o.length) h2 l1, execs_ret (.ref (h2.o.length + 1)) ((h2.push (.dK (nk (ddN [] (us.map (P.body s)))))).push (nl (P.at s ld))) (by
    rw [den_blt]
    simp only [List.set_cons_succ, List.set_cons_zero, l3, R.bind_ok, bltD, listD, H.push_get, intKeys_nk]
    have := ddN_len [] (us.map (P.body s))
    simp only [List.length_map, List.length_nil] at this
    rw [if_pos (by simp; omega), sortI_nat]
    simp [alloc, nl, Pl.at, us]
    rfl)]
  rfl
/-! ### hits -/
inductive Wt where | none | own | all
def Wt.s : Wt → PySem.Str | .none => "none" | .own => "own" | .all => "all"
structure Bk where
  w0 : Wt
  o0 : Bool
  w1 : Wt
  o1 : Bool
def noteD (w : Wt) (o : Bool) : D := .tup [.str w.s, .str (if o then "once" else "later")]
def Bk.d (b : Bk) : D := .tup [noteD b.w0 b.o0, noteD b.w1 b.o1]
theorem wt_all (w : Wt) : decide (w.s = ("all" : PySem.Str)) = (match w with | .all => true | _ => false) := by cases w <;> decide +kernel
theorem wt_own (w : Wt) : decide (w.s = ("own" : PySem.Str)) = (match w with | .own => true | _ => false) := by cases w <;> decide +kernel
def Bk.w (b : Bk) (s : Bool) : Wt := if s then b.w1 else b.w0
def Bk.o (b : Bk) (s : Bool) : Bool := if s then b.o1 else b.o0
def Pl.hit (P : Pl) (b : Bk) (s : Bool) (k : Nat) : Bool := P.under k (P.q s) && (match b.w s with | .all => true | .own => (P.bs s).contains k | .none => false)
theorem does_hit_ok (A : AgP T fd) (ok : P.Ok) (hp : h.o[p]? = some P.obj) (b : Bk) (s : Bool) {k : Nat} (hk : k ≤ P.ps.length) : Phi T fd (n + 4) 20 [.ref p, b.d, sI s, .int k] h = .ok (.bl (P.hit b s k)) h := by
  refine phi_P' A.f20 rfl ⟨rfl, by decide⟩ rfl fun h' e' _ _ => ⟨h', ?_⟩
  rw [← e'] at hp
  have e3 := plan_fld (P := P) (p := p) (f := 3) hp rfl
  have e1 := plan_fld (P := P) (p := p) (f := 1) hp rfl
  have eb : subD (.tup [.int P.q0, .int P.q1]) (sI s) h' = .ok (.int (P.q s : Nat)) h' := by cases s <;> rfl
  have ebs : subD (.tup [nt P.b0, nt P.b1]) (sI s) h' = .ok (nt (P.bs s)) h' := by cases s <;> rfl
  have en : subD b.d (sI s) h' = .ok (noteD (b.w s) (b.o s)) h' := by cases s <;> rfl
  have ew : subD (noteD (b.w s) (b.o s)) (.int 0) h' = .ok (.str (b.w s).s) h' := rfl
  have u := is_under_ok (T := T) (fd := fd) (n := n) A ok hp hk (ok.q s)
  have m := plan_meth (T := T) (P := P) (p := p) (m := 16) hp (by omega)
  have hi := nt_in (h := h') (l := P.bs s) (k := k)
  show fin (execs T (Phi T fd (n + 3)) ir_does_hit.body [some (.ref p), some b.d, some (sI s), some (.int k), none] h') = _
  unfold ir_does_hit
  rw [execs_asgn (.str (b.w s).s) h' (by simp [en, ew])]
  cases cu : P.under k (P.q s) with
  | false =>
    rw [cu] at u
    rw [execs_ite_rt h' (by simp [m, A.m16, e3, eb, u, notD]) (.bl false) h' (by simp)]
    simp [fin, Pl.hit, cu]
  | true =>
    rw [cu] at u
    rw [execs_ite_f h' (by simp [m, A.m16, e3, eb, u, notD])]
    have q1 := wt_all (b.w s)
    have q2 := wt_own (b.w s)
    cases cw : b.w s <;> rw [cw] at q1 q2 <;> simp only [] at q1 q2 <;> simp [op2, eqD, scalar, bi, seqv, retB, e1, ebs, hi, fin, Pl.hit, cu, cw, q1, q2]
def Pl.many (P : Pl) (b : Nat) : Nat := P.cs.getD (P.b0.idxOf b) 0
theorem idx_nat (k : Nat) : ∀ l : List Nat, (l.map fun (a : Nat) => (a : Int)).idxOf (k : Int) = l.idxOf k
  | [] => rfl
  | a :: l => by
    rw [List.map_cons, List.idxOf_cons, List.idxOf_cons, idx_nat k l]
    by_cases c : a = k
    · subst c; simp
    · have e : ((a : Int) == (k : Int)) = false := by simp; omega
      have e2 : (a == k) = false := by simp [c]
      rw [e, e2]
theorem many_calls_ok (A : AgP T fd) (ok : P.Ok) (hp : h.o[p]? = some P.obj) {b : Nat} (hb : b ∈ P.b0) : Phi T fd (n + 1) 14 [.ref p, .int b] h = .ok (.int (P.many b : Nat)) h := by
  refine phi_P' A.f14 rfl ⟨rfl, by decide⟩ rfl fun h' e' _ _ => ⟨h', ?_⟩
  rw [← e'] at hp
  have e2 := plan_fld (P := P) (p := p) (f := 2) hp rfl
  have e1 := plan_fld (P := P) (p := p) (f := 1) hp rfl
  have eb : subD (.tup [nt P.b0, nt P.b1]) (.int 0) h' = .ok (nt P.b0) h' := rfl
  have hx : P.b0.idxOf b < P.cs.length := by rw [ok.cl]; exact List.idxOf_lt_length_of_mem hb
  have hs := nt_sub (h := h') (l := P.cs) hx
  have hm : (b : Int) ∈ P.b0.map fun (a : Nat) => (a : Int) := List.mem_map.mpr ⟨b, hb, rfl⟩
  show fin (execs T (Phi T fd n) ir_Plan_many_calls.body [some (.ref p), some (.int b)] h') = _
  unfold ir_Plan_many_calls
  have ei : bmD .index (nt P.b0) [.int b] h' = .ok (.int (P.b0.idxOf b : Nat)) h' := by
    simp only [bmD, nt, intsOf_nat, if_pos hm, idx_nat]
  rw [execs_ret (.int (P.many b : Nat)) h' (by simp [e2, e1, eb]; rw [if_pos (show bmOk .index (nt P.b0) h' = true from rfl), ei]; exact hs)]
  rfl
theorem newT_ok {xs : List D} (c : xs.length ≤ sizeCap) : newT xs h = .ok (.tup xs) h := by unfold newT; rw [if_pos c]
theorem newL_ok {xs : List D} (c : xs.length ≤ sizeCap) : newL xs h = .ok (.ref h.o.length) (h.push (.lst xs)) := by unfold newL; rw [if_pos c]; rfl
theorem plan_len9 (A : AgP T fd) (ok : P.Ok) (hp : h.o[p]? = some P.obj) : Phi T fd (n + 1) 9 [.ref p] h = .ok (.int (P.ps.length + 1 : Nat)) h := by
  refine phi_P' A.f9 rfl ⟨rfl, by decide⟩ rfl fun h' e' _ _ => ⟨h', ?_⟩
  rw [← e'] at hp
  have e0 := plan_fld (P := P) (p := p) (f := 0) hp rfl
  have cap : (D.int 0 :: ((P.ps.map fun (k : Nat) => D.int k) ++ [])).length ≤ sizeCap := by have := ok.len; simp [sizeCap]; omega
  have i0 : itemsD (nt P.ps) h' = some (P.ps.map fun (k : Nat) => D.int k) := rfl
  show fin (execs T (Phi T fd n) ir_Plan___len__.body [some (.ref p)] h') = _
  unfold ir_Plan___len__
  rw [execs_ret (.int (P.ps.length + 1 : Nat)) h' (by
    rw [den_blt, den_tup, denM_cons _ _ _ _ _ _ (by intro a; simp), den_cI]
    simp only [denL_star, den_fld, den_var, List.getElem?_cons_zero, R.bind_ok, e0, i0, denL_nil, newT_ok cap, bltD, lenD]
    simp)]
  rfl
theorem lenI_ok {Φ : Nat → Fn} {h1 : H} {c j : Nat} {fs : List (Nat × D)} {i : Int} (hp : h.o[p]? = some (.ins c fs)) (e : T.len c = some j) (e2 : Φ j [.ref p] h = .ok (.int i) h1) (b : 0 ≤ i ∧ i ≤ 1000000) : lenI T Φ (.ref p) h = .ok (.int i) h1 := by
  simp only [lenI, hp, e, e2, R.bind_ok]
  exact if_pos b
theorem plan_len (A : AgP T fd) (ok : P.Ok) (hp : h.o[p]? = some P.obj) : lenI T (Phi T fd (n + 1)) (.ref p) h = .ok (.int (P.ps.length + 1 : Nat)) h :=
  lenI_ok hp A.l0 (plan_len9 A ok hp) (by have := ok.len; omega)
end
end SC
end
end
section
set_option linter.all false
set_option maxRecDepth 100000
set_option Elab.async false
/-! M3: worlds. -/
noncomputable section
namespace SC
structure Fr where
  b : Nat
  m : Nat
  p : Option Nat
  deriving DecidableEq
structure Stt where
  ld : List Nat
  s0 : Option Nat
  s1 : Option Nat
  fr : Option Fr
  deriving DecidableEq
inductive Dd where
  | load (k : Nat) | make (s : Bool) | call (k : Nat) | inner (k : Nat) | fin
  deriving DecidableEq
def oN : Option Nat → D
  | none => .non
  | some k => .int k
def frD : Option Fr → D
  | none => .non
  | some f => .tup [.int f.b, .int f.m, oN f.p]
def Stt.d (s : Stt) : D := .tup [nt s.ld, .tup [oN s.s0, oN s.s1], frD s.fr]
def Dd.d : Dd → D
  | .load k => .tup [.str "load", .int k]
  | .make s => .tup [.str "make", sI s]
  | .call k => .tup [.str "call", .int k]
  | .inner k => .tup [.str "inner", .int k]
  | .fin => .tup [.str "end"]
def Stt.sg (st : Stt) (s : Bool) : Option Nat := if s then st.s1 else st.s0
/-- a mark -/
inductive Mk where | right | fresh | thrifty
  deriving DecidableEq
def Mk.s : Mk → PySem.Str | .right => "right" | .fresh => "fresh" | .thrifty => "thrifty"
structure Wd where
  st : Stt
  told : D
  ms : List Mk
def Pl.tk (P : Pl) (b : Bk) (st : Stt) (k : Nat) (s : Bool) : Bool := (st.sg s).isSome && P.hit b s k
def Pl.stLoad (P : Pl) (b : Bk) (st : Stt) (k : Nat) : Wd :=
  let ld := sortN (st.ld ++ [k])
  let t0 := P.tk b st k false
  let t1 := P.tk b st k true
  let once := (t0 && b.o0) || (t1 && b.o1)
  ⟨⟨ld, if t0 then none else st.s0, if t1 then none else st.s1, if once then st.fr.map (fun f => ⟨f.b, f.m, none⟩) else st.fr⟩,
    .tup ((if t0 then [.int 0] else []) ++ (if t1 then [.int 1] else [])),
    if (t0 && (P.at false ld).length == 1) || (t1 && (P.at true ld).length == 1) then [.thrifty] else []⟩
def Pl.stMake (P : Pl) (st : Stt) (s : Bool) : Wd :=
  ⟨if s then { st with s1 := some ((P.at true st.ld).headD 0) } else { st with s0 := some ((P.at false st.ld).headD 0) }, .non, []⟩
def Pl.stCall (P : Pl) (st : Stt) (k : Nat) : Wd :=
  let due := P.body false k
  let told := st.s0.getD due
  ⟨{ st with fr := some ⟨told, P.many told, if st.s0.isSome then st.s1 else none⟩ }, .int told, if told = due then [] else [.right]⟩
def Pl.stInner (P : Pl) (st : Stt) (k : Nat) : Wd := match st.fr with
  | none => ⟨st, .non, []⟩
  | some f =>
    let due := P.body true k
    let told := (f.p.or st.s1).getD due
    ⟨{ st with fr := some ⟨f.b, f.m - 1, f.p⟩ }, .int told, (if f.p.isSome && P.at true st.ld != f.p.toList then [.fresh] else []) ++ (if told = due then [] else [.right])⟩
def Pl.step (P : Pl) (b : Bk) (st : Stt) : Dd → Wd
  | .load k => P.stLoad b st k
  | .make s => P.stMake st s
  | .call k => P.stCall st k
  | .inner k => P.stInner st k
  | .fin => ⟨{ st with fr := none }, .non, []⟩

/-! ### heaps with a tail -/
def hx (h : H) (l : List AO) : H := { h with o := h.o ++ l }
section
variable {h : H} {l : List AO}
@[simp] theorem hx_fl : (hx h l).fl = h.fl := rfl
@[simp] theorem hx_lk : (hx h l).lk = h.lk := rfl
theorem hx_len : (hx h l).o.length = h.o.length + l.length := by simp [hx]
@[simp] theorem hx_get0 : (hx h l).o[h.o.length]? = l[0]? := by
  show (h.o ++ l)[h.o.length]? = _
  rw [List.getElem?_append_right (Nat.le_refl _), Nat.sub_self]
@[simp] theorem hx_get (i : Nat) : (hx h l).o[h.o.length + i]? = l[i]? := by
  show (h.o ++ l)[h.o.length + i]? = _
  rw [List.getElem?_append_right (Nat.le_add_right _ _), Nat.add_sub_cancel_left]
theorem hx_old {i : Nat} {o : AO} (e : h.o[i]? = some o) : (hx h l).o[i]? = some o := by
  unfold hx
  rw [List.getElem?_append_left (List.getElem?_eq_some_iff.mp e).1]
  exact e
@[simp] theorem hx_put0 (a : AO) : (hx h l).put h.o.length a = hx h (l.set 0 a) := by simp [hx, H.put, List.set_append]
@[simp] theorem hx_put (i : Nat) (a : AO) : (hx h l).put (h.o.length + i) a = hx h (l.set i a) := by
  simp [hx, H.put, List.set_append]
@[simp] theorem hx_push (a : AO) : (hx h l).push a = hx h (l ++ [a]) := by simp [hx, H.push]
theorem push_hx (a : AO) : h.push a = hx h [a] := by simp [hx, H.push]
theorem hx_hx {m : List AO} : hx (hx h l) m = hx h (l ++ m) := by simp [hx]
theorem hx_nil : hx h [] = h := by simp [hx]
theorem H.ok.hx (k : h.ok) : (hx h l).ok := fun x hx' => by
  have := k x hx'
  rw [hx_len]
  simp
  omega
theorem Has.hx (k : h.ok) : Has h (hx h l) := ⟨fun _ _ e => hx_old e, k.hx⟩
theorem hx_prot (k : h.ok) (hf : h.fl ≤ h.o.length) (i : Nat) : (hx h l).prot (h.o.length + i) = false := by
  unfold H.prot
  have h1 : ¬ (h.o.length + i < h.fl) := by omega
  have h2 : h.lk.contains (h.o.length + i) = false := by
    rw [Bool.eq_false_iff]
    intro z
    have := k _ (by simpa using z)
    omega
  have h2' : h.o.length + i ∉ h.lk := by simpa using h2
  simp only [hx_fl, hx_lk, h1, h2]
  rfl
theorem hx_prot0 (k : h.ok) (hf : h.fl ≤ h.o.length) : (hx h l).prot h.o.length = false := hx_prot k hf 0
end
def mkD (l : List Mk) : AO := .dK (l.map fun m => ((.inr m.s : L2.Key), D.bl true))
def wobj (p q : Nat) (b : Bk) (ld : List Nat) (fr : Option Fr) (told : D) : AO := .ins 1 [(5, .ref p), (6, b.d), (7, nt ld), (8, .ref (q + 1)), (9, frD fr), (10, told), (11, .ref (q + 2))]
/-- the three objects of a world at q -/
def w3 (p q : Nat) (b : Bk) (w : Wd) : List AO := [wobj p q b w.st.ld w.st.fr w.told, .lst [oN w.st.s0, oN w.st.s1], mkD w.ms]
structure AgW (T : Tab) (fd : Nat → Option Fd) : Prop extends AgP T fd where
  f21 : fd 21 = some ir_World___init__
  f22 : fd 22 = some ir_World_state_now
  f23 : fd 23 = some ir_World_load
  f24 : fd 24 = some ir_World_make
  f25 : fd 25 = some ir_World_call
  f26 : fd 26 = some ir_World_inner
  f27 : fd 27 = some ir_World_do
  f28 : fd 28 = some ir_start_of
  f29 : fd 29 = some ir_deeds_of
  f30 : fd 30 = some ir_is_deed
  f31 : fd 31 = some ir_done
  f32 : fd 32 = some ir_walked
  m20 : T.meth 1 20 = some 22
  m21 : T.meth 1 21 = some 23
  m22 : T.meth 1 22 = some 24
  m23 : T.meth 1 23 = some 25
  m24 : T.meth 1 24 = some 26
  m25 : T.meth 1 25 = some 27
  i1 : T.init 1 = some 21
structure Stt.Ok (P : Pl) (st : Stt) : Prop where
  up : st.ld.Pairwise (· < ·)
  rg : ∀ k ∈ st.ld, k ≤ P.ps.length
  s0 : ∀ k ∈ st.s0, k ∈ P.b0
  s1 : ∀ k ∈ st.s1, k ∈ P.b1
  fb : ∀ f ∈ st.fr, f.b ∈ P.b0
section
variable {T : Tab} {fd : Nat → Option Fd} {n : Nat} {h : H} {P : Pl} {p q : Nat} {b : Bk}
theorem alloc_hx (o : AO) (l : List AO) : alloc o (hx h l) = .ok (.ref (h.o.length + l.length)) (hx h (l ++ [o])) := by simp [alloc, hx_len]
theorem World_init_ok (A : AgW T fd) (k : h.ok) (hf : h.fl ≤ h.o.length) (st : Stt) :
    Phi T fd (n + 1) 21 [.ref h.o.length, .ref p, b.d, st.d] (h.push (.ins 1 [])) = .ok .non (hx h (w3 p h.o.length b ⟨st, .non, []⟩)) := by
  rw [phi_raw A.f21 rfl ⟨rfl, by decide⟩, push_hx]
  have e0 : ∀ h' : H, subD st.d (.int 0) h' = .ok (nt st.ld) h' := fun _ => rfl
  have e1 : ∀ h' : H, subD st.d (.int 1) h' = .ok (.tup [oN st.s0, oN st.s1]) h' := fun _ => rfl
  have e2 : ∀ h' : H, subD st.d (.int 2) h' = .ok (frD st.fr) h' := fun _ => rfl
  have pr := fun l => hx_prot0 (l := l) k hf
  show fin (execs T (Phi T fd n) ir_World___init__.body [some (.ref h.o.length), some (.ref p), some b.d, some st.d] _) = _
  simp [ir_World___init__, fldPut, putF, e0, e1, e2, pr, bltD, itemsD, alloc_hx, fin, w3, wobj, mkD]
theorem Pl.up_mem {l : List Nat} (ok : P.Ok) (hz : 0 ∈ l) : ∀ (f k : Nat), k ≤ f → k ≤ P.ps.length → P.up l f k ∈ l
  | 0, k, h1, _ => by
    have : k = 0 := by omega
    subst this
    exact hz
  | f + 1, k, h1, h2 => by
    rw [Pl.up]
    split
    · next c => simpa using c
    · next c =>
      have h0 : k ≠ 0 := fun z => by subst z; simp [hz] at c
      have := ok.par_lt (k := k) (by omega) h2
      exact Pl.up_mem ok hz f _ (by omega) (by omega)
theorem Pl.Ok.z {P : Pl} (ok : P.Ok) (s : Bool) : 0 ∈ P.bs s := by
  cases s
  · exact ok.z0
  · exact ok.z1
theorem Pl.body_mem (ok : P.Ok) (s : Bool) {k : Nat} (hk : k ≤ P.ps.length) : P.body s k ∈ P.bs s := Pl.up_mem ok (ok.z s) _ _ (Nat.le_refl _) hk
theorem hx_has {l : List AO} (hp : h.o[p]? = some P.obj) : (hx h l).o[p]? = some P.obj := hx_old hp
theorem ld_len {ld : List Nat} {m : Nat} (u : ld.Pairwise (· < ·)) (r : ∀ k ∈ ld, k ≤ m) : ld.length ≤ m + 1 := by
  have : ∀ (l : List Nat) (lo : Nat), l.Pairwise (· < ·) → (∀ k ∈ l, lo ≤ k ∧ k ≤ m) → l.length ≤ m + 1 - lo := by
    intro l
    induction l with
    | nil => intro lo _ _; simp
    | cons a l ih =>
      intro lo u r
      have h1 := r a (List.mem_cons_self ..)
      have u' := List.pairwise_cons.mp u
      have := ih (a + 1) u'.2 fun k hk => ⟨u'.1 k hk, (r k (List.mem_cons_of_mem _ hk)).2⟩
      simp
      omega
  simpa using this ld 0 u fun k hk => ⟨Nat.zero_le _, r k hk⟩
theorem Stt.Ok.len {st : Stt} (ok : P.Ok) (so : st.Ok P) : st.ld.length ≤ 60 := by
  have := ld_len so.up so.rg
  have := ok.len
  omega
theorem World_make_ok (A : AgW T fd) (ok : P.Ok) (k : h.ok) (hf : h.fl ≤ h.o.length) (hp : h.o[p]? = some P.obj) {st : Stt} (so : st.Ok P) (s : Bool) (hn : P.at s st.ld ≠ []) :
    Phi T fd (n + 5) 24 [.ref h.o.length, sI s] (hx h (w3 p h.o.length b ⟨st, .non, []⟩)) = .ok .non (hx h (w3 p h.o.length b (P.stMake st s) ++ [nl (P.at s st.ld)])) := by
  rw [phi_raw A.f24 rfl ⟨rfl, by decide⟩]
  have e := bodies_at_ok (n := n) (h := hx h (w3 p h.o.length b ⟨st, .non, []⟩)) A.toAgP ok k.hx (hx_has hp) s so.rg (so.len ok)
  have pr := fun l => hx_prot (l := l) k hf 1
  cases ea : P.at s st.ld with
  | nil => exact absurd ea hn
  | cons x r =>
    rw [ea] at e
    show fin (execs T (Phi T fd (n + 4)) ir_World_make.body [some (.ref h.o.length), some (sI s)] _) = _
    have g2 : ixAt ((x :: r).map fun (k : Nat) => D.int k).length 0 = some 0 := by simp [ixAt, L2.ixN]
    simp [ir_World_make, w3, wobj, fldD, getF] at e ⊢
    rw [hx_len] at e
    simp [e, subD, nl, subPut, pr]
    have g3 : ixAt (r.length + 1) 0 = some 0 := by simp [ixAt, L2.ixN]
    cases s <;> simp [g3, sI, ixAt, L2.ixN, pr, fin, Pl.stMake, ea, getF, fldD, oN]
theorem many_ok (A : AgW T fd) (ok : P.Ok) (hp : h.o[p]? = some P.obj) {l : List AO} {x : Nat} (hx' : x ∈ P.b0) : Phi T fd (n + 4) 14 [.ref p, .int x] (hx h l) = .ok (.int (P.many x : Nat)) (hx h l) := many_calls_ok (n := n + 3) A.toAgP ok (hx_has hp) hx'
theorem World_call_ok (A : AgW T fd) (ok : P.Ok) (k : h.ok) (hf : h.fl ≤ h.o.length) (hp : h.o[p]? = some P.obj) {st : Stt} (so : st.Ok P) {i : Nat} (hi : i ≤ P.ps.length) :
    Phi T fd (n + 5) 25 [.ref h.o.length, .int i] (hx h (w3 p h.o.length b ⟨st, .non, []⟩)) = .ok .non (hx h (w3 p h.o.length b (P.stCall st i))) := by
  rw [phi_raw A.f25 rfl ⟨rfl, by decide⟩]
  have e := fun l => body_ok (n := n + 1) (h := hx h l) A.toAgP ok (hx_has hp) false hi
  have e' : ∀ l, Phi T fd (n + 4) 12 [.ref p, .int 0, .int i] (hx h l) = .ok (.int (P.body false i : Nat)) (hx h l) := e
  have pr0 := fun l => hx_prot0 (l := l) k hf
  have pr2 := fun l => hx_prot (l := l) k hf 2
  have m17 := fun l => plan_meth (T := T) (h := hx h l) (P := P) (p := p) (m := 17) (hx_has hp) (by omega)
  have m19 := fun l => plan_meth (T := T) (h := hx h l) (P := P) (p := p) (m := 19) (hx_has hp) (by omega)
  have hb := Pl.body_mem (P := P) ok false hi
  show fin (execs T (Phi T fd (n + 4)) ir_World_call.body [some (.ref h.o.length), some (.int i), none, none] _) = _
  cases c0 : st.s0 with
  | none =>
    have my := fun l => many_ok (T := T) (fd := fd) (n := n) (l := l) A ok hp hb
    simp [ir_World_call, w3, wobj, fldD, getF, c0, e', m17, m19, A.m17, A.m19, newT, sizeCap, fldPut, putF, pr0, subD, ixAt, L2.ixN, oN, op2, my, eqD, scalar, bi, seqv, retB, fin, Pl.stCall, frD]
  | some x =>
    have my := fun l => many_ok (T := T) (fd := fd) (n := n) (l := l) A ok hp (so.s0 x c0)
    by_cases cx : x = P.body false i
    · subst cx
      simp [ir_World_call, w3, wobj, fldD, getF, c0, e', m17, m19, A.m17, A.m19, newT, sizeCap, fldPut, putF, pr0, subD, ixAt, L2.ixN, oN, op2, my, eqD, scalar, bi, seqv, retB, fin, Pl.stCall, frD]
    · have cx' : ¬ ((x : Int) = (P.body false i : Nat)) := by omega
      simp [ir_World_call, w3, wobj, fldD, getF, c0, e', m17, m19, A.m17, A.m19, newT, sizeCap, fldPut, putF, pr0, pr2, subD, ixAt, L2.ixN, oN, op2, my, eqD, scalar, bi, seqv, retB, fin, Pl.stCall, frD, cx, cx', subPut, mkD, keyOf, putK, Mk.s]
end
end SC
end
end
section
set_option linter.all false
set_option maxRecDepth 100000
set_option Elab.async false
/-! M4: equality of data. -/
noncomputable section
namespace SC
open PySem (PyData)
mutual
/-- texts are texts -/
def D.sok : D → Bool
  | .str s => PySem.PyData.strOk s
  | .tup xs => D.soks xs
  | .ref _ => false
  | _ => true
def D.soks : List D → Bool
  | [] => true
  | x :: r => x.sok && D.soks r
end
mutual
def D.py : D → PyData
  | .non => .none
  | .bl b => .bool b
  | .int i => .int i
  | .str s => .str s
  | .tup xs => .tuple (D.pys xs)
  | .ref _ => .none
def D.pys : List D → List PyData
  | [] => []
  | x :: r => x.py :: D.pys r
end
mutual
theorem toP_py (h : H) : ∀ (d : D) (n : Nat), d.pure = true → d.depth ≤ n → toP h n d = some d.py
  | .non, n, _, _ => by cases n <;> simp [toP, D.py]
  | .bl _, n, _, _ => by cases n <;> simp [toP, D.py]
  | .int _, n, _, _ => by cases n <;> simp [toP, D.py]
  | .str _, n, _, _ => by cases n <;> simp [toP, D.py]
  | .ref _, _, p, _ => by simp [D.pure] at p
  | .tup xs, 0, _, q => by simp [D.depth] at q
  | .tup xs, n + 1, p, q => by
    simp only [D.depth, Nat.add_le_add_iff_right] at q
    show (toPs h n xs).map PyData.tuple = _
    rw [toPs_py h xs n (by simpa [D.pure] using p) q]
    rfl
theorem toPs_py (h : H) : ∀ (d : List D) (n : Nat), D.pures d = true → D.depths d ≤ n → toPs h n d = some (D.pys d)
  | [], n, _, _ => by simp [toPs, mapO, D.pys]
  | x :: r, n, p, q => by
    simp only [D.pures, Bool.and_eq_true] at p
    simp only [D.depths] at q
    have e2 : mapO (toP h n) r = _ := toPs_py h r n p.2 (by omega)
    rw [toPs, mapO, toP_py h x n p.1 (by omega), e2]
    rfl
end
mutual
theorem lay_py : ∀ d : D, d.sok = true → d.py.canLay0 = true
  | .non, _ => rfl
  | .bl _, _ => rfl
  | .int _, _ => rfl
  | .str s, h => by simpa [D.sok, D.py, PyData.canLay0] using h
  | .ref _, h => by simp [D.sok] at h
  | .tup xs, h => by
    have := lays_py xs (by simpa [D.sok] using h)
    simpa [D.py, PyData.canLay0] using this
theorem lays_py : ∀ d : List D, D.soks d = true → PyData.canLayAll0 (D.pys d) = true
  | [], _ => by simp [D.pys, PyData.canLayAll0]
  | x :: r, h => by
    simp only [D.soks, Bool.and_eq_true] at h
    simp [D.pys, PyData.canLayAll0, lay_py x h.1, lays_py r h.2]
end
mutual
theorem depth_py : ∀ d : D, d.py.depth = d.depth
  | .non => by simp [D.py, D.depth, PyData.depth]
  | .bl _ => by simp [D.py, D.depth, PyData.depth]
  | .int _ => by simp [D.py, D.depth, PyData.depth]
  | .str s => by simp [D.py, D.depth, PyData.depth]
  | .ref _ => by simp [D.py, D.depth, PyData.depth]
  | .tup xs => by simp [D.py, D.depth, PyData.depth, depths_py xs]
theorem depths_py : ∀ d : List D, PyData.depthAll (D.pys d) = D.depths d
  | [] => by simp [D.pys, D.depths, PyData.depthAll]
  | x :: r => by simp [D.pys, D.depths, PyData.depthAll, depth_py x, depths_py r]
end
mutual
theorem pure_sok : ∀ d : D, d.sok = true → d.pure = true
  | .non, _ => rfl
  | .bl _, _ => rfl
  | .int _, _ => rfl
  | .str s, h => rfl
  | .ref _, h => by simp [D.sok] at h
  | .tup xs, h => by
    have := pures_soks xs (by simpa [D.sok] using h)
    simpa [D.pure] using this
theorem pures_soks : ∀ d : List D, D.soks d = true → D.pures d = true
  | [], _ => rfl
  | x :: r, h => by
    simp only [D.soks, Bool.and_eq_true] at h
    simp [D.pures, pure_sok x h.1, pures_soks r h.2]
end
mutual
theorem eqv_py : ∀ x y : D, x.pure = true → y.pure = true → PyData.eqv x.py y.py = D.same x y
  | .non, y, _, q => by cases y <;> first | rfl | simp [D.pure] at q | simp [D.py, PyData.eqv, D.same]
  | .bl a, y, _, q => by
    cases y <;> first | simp [D.pure] at q; done | simp [D.py, PyData.eqv, D.same, BEq.beq]
  | .int a, y, _, q => by
    cases y <;> first | simp [D.pure] at q; done | simp [D.py, PyData.eqv, D.same, BEq.beq]
  | .str a, y, _, q => by
    cases y <;> first | simp [D.pure] at q; done | simp [D.py, PyData.eqv, D.same, BEq.beq]
  | .ref _, _, p, _ => by simp [D.pure] at p
  | .tup xs, y, p, q => by
    cases y with
    | tup ys => simp only [D.py, PyData.eqv, D.same]; exact eqvs_py xs ys (by simpa [D.pure] using p) (by simpa [D.pure] using q)
    | ref _ => simp [D.pure] at q
    | _ => simp [D.py, PyData.eqv, D.same]
theorem eqvs_py : ∀ x y : List D, D.pures x = true → D.pures y = true → PyData.eqvAll (D.pys x) (D.pys y) = D.sames x y
  | [], [], _, _ => by simp [D.pys, PyData.eqvAll, D.sames]
  | [], _ :: _, _, _ => by simp [D.pys, PyData.eqvAll, D.sames]
  | _ :: _, [], _, _ => by simp [D.pys, PyData.eqvAll, D.sames]
  | x :: r, y :: s, p, q => by
    simp only [D.pures, Bool.and_eq_true] at p q
    simp [D.pys, PyData.eqvAll, D.sames, eqv_py x y p.1 q.1, eqvs_py r s p.2 q.2]
end
section
variable {h : H}
theorem shaped_py {d : D} (s : d.sok = true) (q : d.depth ≤ 60) : PySem.SeqAt.shaped d.py = true := by
  simp [PySem.SeqAt.shaped, lay_py d s, depth_py]; omega
theorem shaped_pys {d : List D} (s : D.soks d = true) (q : D.depths d ≤ 59) : PySem.SeqAt.shaped (.list (D.pys d)) = true := by
  simp [PySem.SeqAt.shaped, PyData.canLay0, PyData.depth, lays_py d s, depths_py]; omega
theorem seqv_same {x y : D} (c : (scalar x && scalar y && !bi x y) = true) : seqv x y = D.same x y := by
  cases x <;> cases y <;> simp [scalar, bi, seqv, D.same] at *
theorem eqD_pure {x y : D} (sx : x.sok = true) (sy : y.sok = true) (qx : x.depth ≤ 60) (qy : y.depth ≤ 60) : eqD h x y = some (D.same x y) := by
  unfold eqD
  have hn : lenNe h x y = false := by
    have := pure_sok x sx
    cases x <;> first | rfl | (simp [D.pure] at this)
  rw [hn]
  simp only [Bool.false_eq_true, if_false]
  split
  · next c => rw [seqv_same c]
  · rw [toP_py h x 60 (pure_sok x sx) qx, toP_py h y 60 (pure_sok y sy) qy]
    simp [shaped_py sx qx, shaped_py sy qy, eqv_py x y (pure_sok x sx) (pure_sok y sy)]
theorem toP_lst {a : Nat} {xs : List D} {n : Nat} (ha : h.o[a]? = some (.lst xs)) (p : D.pures xs = true) (q : D.depths xs ≤ n) : toP h (n + 1) (.ref a) = some (.list (D.pys xs)) := by
  have e : mapO (toP h n) xs = _ := toPs_py h xs n p q
  rw [toP]
  simp only [ha, e]
  rfl
theorem eqD_len {a b : Nat} {xs ys : List D} (ha : h.o[a]? = some (.lst xs)) (hb : h.o[b]? = some (.lst ys)) (hl : xs.length ≠ ys.length) : eqD h (.ref a) (.ref b) = some false := by simp [eqD, scalar, lenNe, ha, hb, hl]
theorem eqD_lst {a b : Nat} {xs ys : List D} (ha : h.o[a]? = some (.lst xs)) (hb : h.o[b]? = some (.lst ys)) (sx : D.soks xs = true) (sy : D.soks ys = true) (qx : D.depths xs ≤ 59) (qy : D.depths ys ≤ 59) : eqD h (.ref a) (.ref b) = some (D.sames xs ys) := by
  unfold eqD
  have hs : ∀ a b : List D, a.length ≠ b.length → D.sames a b = false := by
    intro a
    induction a with
    | nil => intro b; cases b <;> simp [D.sames]
    | cons x a ih => intro b; cases b with
      | nil => simp [D.sames]
      | cons y b => intro z; simp [D.sames, ih b (by simpa using z)]
  by_cases hl : xs.length = ys.length
  case neg => simp [scalar, lenNe, ha, hb, hl, hs xs ys hl]
  have hn : lenNe h (.ref a) (.ref b) = false := by simp [lenNe, ha, hb, hl]
  rw [hn]
  simp only [scalar, Bool.false_and, Bool.false_eq_true, if_false, toP_lst ha (pures_soks xs sx) qx, toP_lst hb (pures_soks ys sy) qy, shaped_pys sx qx, shaped_pys sy qy, Bool.and_self, if_true, PyData.eqv, eqvs_py xs ys (pures_soks xs sx) (pures_soks ys sy)]
theorem same_int (i j : Int) : D.same (.int i) (.int j) = decide (i = j) := rfl
theorem sames_nat : ∀ a b : List Nat, D.sames (a.map fun (k : Nat) => D.int k) (b.map fun (k : Nat) => D.int k) = decide (a = b)
  | [], [] => rfl
  | [], _ :: _ => by simp [D.sames]
  | _ :: _, [] => by simp [D.sames]
  | x :: r, y :: s => by
    simp only [List.map_cons, D.sames, sames_nat r s, D.same, List.cons.injEq, Bool.decide_and]
    congr 1
    rw [Bool.eq_iff_iff]
    simp
    omega
theorem same_nt (a b : List Nat) : D.same (nt a) (nt b) = decide (a = b) := by
  rw [nt, nt, D.same, sames_nat]
theorem same_oN (a b : Option Nat) : D.same (oN a) (oN b) = decide (a = b) := by
  cases a <;> cases b <;> simp [oN, D.same]
  omega
theorem same_fr (a b : Option Fr) : D.same (frD a) (frD b) = decide (a = b) := by
  cases a with
  | none => cases b <;> simp [frD, D.same]
  | some f => cases b with
    | none => simp [frD, D.same]
    | some g =>
      obtain ⟨x, y, z⟩ := f
      obtain ⟨x', y', z'⟩ := g
      simp only [frD, D.same, D.sames, same_oN, Bool.and_true, Option.some.injEq, Fr.mk.injEq, Bool.decide_and]
      have e : ∀ a b : Nat, decide ((a : Int) = (b : Int)) = decide (a = b) := fun a b => by
        rw [Bool.eq_iff_iff]; simp; omega
      simp [e]
theorem same_st (s t : Stt) : D.same s.d t.d = decide (s = t) := by
  obtain ⟨a, b, c, d⟩ := s
  obtain ⟨a', b', c', d'⟩ := t
  simp [Stt.d, D.same, D.sames, same_nt, same_oN, same_fr, Bool.and_assoc]
theorem same_sI (s t : Bool) : D.same (sI s) (sI t) = decide (s = t) := by cases s <;> cases t <;> rfl
theorem w_ne : decide (("load" : PySem.Str) = ("make" : PySem.Str)) = false ∧ decide (("load" : PySem.Str) = ("call" : PySem.Str)) = false ∧ decide (("load" : PySem.Str) = ("inner" : PySem.Str)) = false ∧ decide (("load" : PySem.Str) = ("end" : PySem.Str)) = false ∧ decide (("make" : PySem.Str) = ("load" : PySem.Str)) = false ∧ decide (("make" : PySem.Str) = ("call" : PySem.Str)) = false ∧ decide (("make" : PySem.Str) = ("inner" : PySem.Str)) = false ∧ decide (("make" : PySem.Str) = ("end" : PySem.Str)) = false ∧ decide (("call" : PySem.Str) = ("load" : PySem.Str)) = false ∧ decide (("call" : PySem.Str) = ("make" : PySem.Str)) = false ∧ decide (("call" : PySem.Str) = ("inner" : PySem.Str)) = false ∧ decide (("call" : PySem.Str) = ("end" : PySem.Str)) = false ∧ decide (("inner" : PySem.Str) = ("load" : PySem.Str)) = false ∧ decide (("inner" : PySem.Str) = ("make" : PySem.Str)) = false ∧ decide (("inner" : PySem.Str) = ("call" : PySem.Str)) = false ∧ decide (("inner" : PySem.Str) = ("end" : PySem.Str)) = false ∧ decide (("end" : PySem.Str) = ("load" : PySem.Str)) = false ∧ decide (("end" : PySem.Str) = ("make" : PySem.Str)) = false ∧ decide (("end" : PySem.Str) = ("call" : PySem.Str)) = false ∧ decide (("end" : PySem.Str) = ("inner" : PySem.Str)) = false := by decide +kernel
theorem same_dd (a b : Dd) : D.same a.d b.d = decide (a = b) := by
  obtain ⟨w1, w2, w3, w4, w5, w6, w7, w8, w9, w10, w11, w12, w13, w14, w15, w16, w17, w18, w19, w20⟩ := w_ne
  have e : ∀ a b : Nat, decide ((a : Int) = (b : Int)) = decide (a = b) := fun a b => by
    rw [Bool.eq_iff_iff]; simp; omega
  cases a <;> cases b <;> simp only [Dd.d, D.same, D.sames, same_sI, w1, w2, w3, w4, w5, w6, w7, w8, w9, w10, w11, w12, w13, w14, w15, w16, w17, w18, w19, w20, Bool.false_and, Bool.and_false, Bool.and_true] <;> simp [e]
theorem soks_nat : ∀ l : List Nat, D.soks (l.map fun (k : Nat) => D.int k) = true
  | [] => rfl
  | a :: l => by simp [D.soks, D.sok, soks_nat l]
theorem depths_nat : ∀ l : List Nat, D.depths (l.map fun (k : Nat) => D.int k) = 0
  | [] => rfl
  | a :: l => by simp [D.depths, D.depth, depths_nat l]
theorem sok_nt (l : List Nat) : (nt l).sok = true := by simp [nt, D.sok, soks_nat]
theorem depth_nt (l : List Nat) : (nt l).depth = 1 := by simp [nt, D.depth, depths_nat]
theorem sok_oN (o : Option Nat) : (oN o).sok = true := by cases o <;> rfl
theorem depth_oN (o : Option Nat) : (oN o).depth = 0 := by cases o <;> rfl
theorem sok_st (s : Stt) : s.d.sok = true := by
  cases e : s.fr <;> simp [Stt.d, D.sok, D.soks, sok_nt, sok_oN, e, frD]
theorem depth_st (s : Stt) : s.d.depth = 2 := by
  cases e : s.fr <;> simp [Stt.d, D.depth, D.depths, depth_nt, depth_oN, e, frD]
theorem sok_words : PySem.PyData.strOk ("load" : PySem.Str) = true ∧ PySem.PyData.strOk ("make" : PySem.Str) = true ∧ PySem.PyData.strOk ("call" : PySem.Str) = true ∧ PySem.PyData.strOk ("inner" : PySem.Str) = true ∧ PySem.PyData.strOk ("end" : PySem.Str) = true := by decide +kernel
theorem sok_dd (a : Dd) : a.d.sok = true := by
  obtain ⟨w1, w2, w3, w4, w5⟩ := sok_words
  cases a <;> simp [Dd.d, D.sok, D.soks, w1, w2, w3, w4, w5, sI]
theorem depth_dd (a : Dd) : a.d.depth = 1 := by
  cases a <;> simp [Dd.d, D.depth, D.depths, sI]
theorem pure_st (s : Stt) : s.d.pure = true := pure_sok _ (sok_st s)
theorem pure_dd (s : Dd) : s.d.pure = true := pure_sok _ (sok_dd s)
theorem keyT_st (s : Stt) : keyT s.d = true := by
  have h1 := pure_st s
  have h2 := depth_st s
  simp only [Stt.d, D.pure, D.depth] at h1 h2
  simp [keyT, Stt.d, h1, h2]
end
end SC
end
end
section
set_option linter.all false
set_option maxRecDepth 100000
set_option Elab.async false
/-! M5: worlds, the rest. -/
noncomputable section
namespace SC
section
variable {T : Tab} {fd : Nat → Option Fd} {n : Nat} {h : H} {P : Pl} {p q : Nat} {b : Bk}
@[simp] theorem oN_none : oN none = .non := rfl
@[simp] theorem oN_some (x : Nat) : oN (some x) = .int x := rfl
theorem tmp_hx {Φ : Nat → Fn} {σ : Env} {a : E} {l : List AO} {v : D} (hv : v.pure = true) (r : ∀ h0 : H, h0.o = h.o → h0.lk = h.lk → ∃ h1, den T Φ a σ (hx h0 l) = .ok v h1) : den T Φ (.tmp a) σ (hx h l) = .ok v (hx h l) := by
  refine tmp_ok' hv fun h' e e2 e3 => ?_
  obtain ⟨h1, r⟩ := r { h with fl := h'.fl } rfl rfl
  refine ⟨h1, ?_⟩
  rw [← r]
  congr 1
  obtain ⟨a, b, c⟩ := h'
  simp at e e2
  subst e e2
  rfl
theorem H.ok.eq {h0 : H} (k : h.ok) (e : h0.o = h.o) (e2 : h0.lk = h.lk) : h0.ok := k.of e e2
theorem fresh_ok (A : AgW T fd) (ok : P.Ok) (k : h.ok) (hp : h.o[p]? = some P.obj) {w : Wd} (rg : ∀ k ∈ w.st.ld, k ≤ P.ps.length) (ln : w.st.ld.length ≤ 60) {x : Nat} {d1 d2 : D} :
    den T (Phi T fd (n + 4)) (.tmp (.op2 .ne (.call 16 [(.fld (.var 0) 5), (.cI 1), (.fld (.var 0) 7)]) (.lst [(.var 3)]))) [some (.ref h.o.length), some d1, some d2, some (.int x)] (hx h (w3 p h.o.length b w)) = .ok (.bl (!decide (P.at true w.st.ld = [x]))) (hx h (w3 p h.o.length b w)) := by
  refine tmp_hx rfl fun h0 e e2 => ?_
  rw [← e] at hp ⊢
  replace k := k.eq e e2
  have e16 := bodies_at_ok (n := n) (h := hx h0 (w3 p h0.o.length b w)) A.toAgP ok k.hx (hx_has hp) true rg ln
  rw [hx_len] at e16
  have e16' : Phi T fd (n + 4) 16 [.ref p, .int 1, nt w.st.ld] (hx h0 (w3 p h0.o.length b w)) = _ := e16
  simp [w3, wobj] at e16'
  have ec := eqD_lst (h := hx h0 (w3 p h0.o.length b w ++ [nl (P.at true w.st.ld), .lst [.int x]])) (a := h0.o.length + 3) (b := h0.o.length + 4) (xs := (P.at true w.st.ld).map fun (k : Nat) => D.int k) (ys := [x].map fun (k : Nat) => D.int k) (by simp [w3, nl]) (by simp [w3]) (soks_nat _) (soks_nat _) (by rw [depths_nat]; omega) (by rw [depths_nat]; omega)
  rw [sames_nat] at ec
  simp [w3, wobj] at ec
  refine ⟨hx h0 (w3 p h0.o.length b w ++ [nl (P.at true w.st.ld), .lst [.int x]]), ?_⟩
  simp [w3, wobj, fldD, getF, e16', newL, sizeCap, alloc_hx, op2, ec, retB]
theorem wfr : ¬ (("fresh" : PySem.Str) = ("right" : PySem.Str)) := by decide +kernel
theorem World_inner_ok (A : AgW T fd) (ok : P.Ok) (k : h.ok) (hf : h.fl ≤ h.o.length) (hp : h.o[p]? = some P.obj) {st : Stt} (so : st.Ok P) {f : Fr} (ef : st.fr = some f) (hm : 0 < f.m) {i : Nat} (hi : i ≤ P.ps.length) :
    Phi T fd (n + 5) 26 [.ref h.o.length, .int i] (hx h (w3 p h.o.length b ⟨st, .non, []⟩)) = .ok .non (hx h (w3 p h.o.length b (P.stInner st i))) := by
  rw [phi_raw A.f26 rfl ⟨rfl, by decide⟩]
  have e := fun l => body_ok (n := n + 1) (h := hx h l) A.toAgP ok (hx_has hp) true hi
  have e' : ∀ l, Phi T fd (n + 4) 12 [.ref p, .int 1, .int i] (hx h l) = .ok (.int (P.body true i : Nat)) (hx h l) := e
  have pr0 := fun l => hx_prot0 (l := l) k hf
  have pr2 := fun l => hx_prot (l := l) k hf 2
  have m17 := fun l => plan_meth (T := T) (h := hx h l) (P := P) (p := p) (m := 17) (hx_has hp) (by omega)
  have hm' : ((f.m : Int) - 1) = ((f.m - 1 : Nat) : Int) := by omega
  show fin (execs T (Phi T fd (n + 4)) ir_World_inner.body [some (.ref h.o.length), some (.int i), none, none] _) = _
  cases cp : f.p with
  | some x =>
    have fr := fresh_ok (n := n) (b := b) (d1 := .int i) (d2 := .int (P.body true i : Nat)) (x := x) A ok k hp (w := ⟨st, .int x, []⟩) so.rg (so.len ok)
    by_cases cx : x = P.body true i
    · subst cx
      by_cases ca : P.at true st.ld = [P.body true i]
      · simp [w3, wobj, ef, cp, frD, mkD, ca] at fr
        simp [ir_World_inner, w3, wobj, fldD, getF, ef, cp, frD, e', m17, A.m17, newT, sizeCap, fldPut, putF, pr0, pr2, subD, ixAt, L2.ixN, op2, eqD, scalar, bi, seqv, retB, fr, fin, Pl.stInner,  hm', subPut, mkD, keyOf, putK, Mk.s, ca, wfr]
      · simp [w3, wobj, ef, cp, frD, mkD, ca] at fr
        simp [ir_World_inner, w3, wobj, fldD, getF, ef, cp, frD, e', m17, A.m17, newT, sizeCap, fldPut, putF, pr0, pr2, subD, ixAt, L2.ixN, op2, eqD, scalar, bi, seqv, retB, fr, fin, Pl.stInner,  hm', subPut, mkD, keyOf, putK, Mk.s, ca, wfr]
    · have cx' : ¬ ((x : Int) = (P.body true i : Nat)) := by omega
      by_cases ca : P.at true st.ld = [x]
      · simp [w3, wobj, ef, cp, frD, mkD, ca] at fr
        simp [ir_World_inner, w3, wobj, fldD, getF, ef, cp, frD, e', m17, A.m17, newT, sizeCap, fldPut, putF, pr0, pr2, subD, ixAt, L2.ixN, op2, eqD, scalar, bi, seqv, retB, fr, fin, Pl.stInner, cx, cx', hm', subPut, mkD, keyOf, putK, Mk.s, ca, wfr]
      · simp [w3, wobj, ef, cp, frD, mkD, ca] at fr
        simp [ir_World_inner, w3, wobj, fldD, getF, ef, cp, frD, e', m17, A.m17, newT, sizeCap, fldPut, putF, pr0, pr2, subD, ixAt, L2.ixN, op2, eqD, scalar, bi, seqv, retB, fr, fin, Pl.stInner, cx, cx', hm', subPut, mkD, keyOf, putK, Mk.s, ca, wfr]
  | none =>
    cases c1 : st.s1 with
    | none =>
      simp [ir_World_inner, w3, wobj, fldD, getF, ef, cp, c1, frD, e', m17, A.m17, newT, sizeCap, fldPut, putF, pr0, pr2, subD, ixAt, L2.ixN, op2, eqD, scalar, bi, seqv, retB, fin, Pl.stInner, hm', subPut, mkD, keyOf, putK, Mk.s]
    | some x =>
      have cx0 := Nat.decEq x (P.body true i)
      rcases cx0 with cx | cx
      all_goals
        have cx' : decide ((x : Int) = (P.body true i : Nat)) = decide (x = P.body true i) := by rw [Bool.eq_iff_iff]; simp; omega
        simp [ir_World_inner, w3, wobj, fldD, getF, ef, cp, c1, frD, e', m17, A.m17, newT, sizeCap, fldPut, putF, pr0, pr2, subD, ixAt, L2.ixN, op2, eqD, scalar, bi, seqv, retB, fin, Pl.stInner, cx', cx, hm', subPut, mkD, keyOf, putK, Mk.s]
end
end SC
end
end
section
set_option linter.all false
set_option maxRecDepth 100000
set_option Elab.async false
/-! M6: loading; deeds done. -/
noncomputable section
namespace SC
section
variable {T : Tab} {fd : Nat → Option Fd} {n : Nat} {h : H} {P : Pl} {p q : Nat} {b : Bk}
theorem sort_tmp_ok {σ : Env} {Φ : Nat → Fn} {l : List AO} {w i : Nat} {ld : List Nat} (hc : ld.length ≤ 60) {o : AO} (h1 : σ[0]? = some (some (.ref w))) (h2 : σ[1]? = some (some (.int i))) (hw : ∀ h0 : H, h0.o = h.o → fldD (.ref w) 7 (hx h0 l) = .ok (nt ld) (hx h0 l)) :
    den T Φ (.tmp (.blt .tuple (.blt .sorted (.lst [(.star (.fld (.var 0) 7)), (.var 1)])))) σ (hx h l) = .ok (nt (sortN (ld ++ [i]))) (hx h l) := by
  refine tmp_hx (pure_nt _) fun h0 e e2 => ?_
  have hw := hw h0 e
  have cap : (ld.map (fun (k : Nat) => D.int k) ++ [D.int i]).length ≤ sizeCap := by simp [sizeCap]; omega
  have it : itemsD (nt ld) (hx h0 l) = some (ld.map fun (k : Nat) => D.int k) := rfl
  have e3 : ld.map (fun (k : Nat) => D.int k) ++ [D.int i] = (ld ++ [i]).map fun (k : Nat) => D.int k := by simp
  rw [e3] at cap
  rw [den_blt, den_blt, den_lst]
  simp only [denL_star, den_fld, den_var, h1, R.bind_ok, hw, it]
  rw [denM_cons _ _ _ _ _ _ (by intro a; simp)]
  simp only [den_var, h2, R.bind_ok, denL_nil, e3, newL, if_pos cap, alloc_hx, bltD, listD, hx_get, List.getElem?_append_right (Nat.le_refl _), Nat.sub_self, List.getElem?_cons_zero, intsOf_nat, itemsD, sortI_nat, List.map_map]
  exact ⟨_, rfl⟩
theorem len_tmp_ok (A : AgW T fd) (ok : P.Ok) (k : h.ok) (hp : h.o[p]? = some P.obj) {σ : Env} {l : List AO} {e1 e2 e3 : E} {s : Bool} {ld : List Nat} (rg : ∀ k ∈ ld, k ≤ P.ps.length) (ln : ld.length ≤ 60)
    (q1 : ∀ h0 : H, h0.o = h.o → denL T (Phi T fd (n + 4)) [e1, e2, e3] σ (hx h0 l) = .ok [.ref p, sI s, nt ld] (hx h0 l)) :
    den T (Phi T fd (n + 4)) (.tmp (.blt .len (.call 16 [e1, e2, e3]))) σ (hx h l) = .ok (.int (P.at s ld).length) (hx h l) := by
  refine tmp_hx rfl fun h0 e e2 => ?_
  have q1 := q1 h0 e
  rw [← e] at hp
  replace k := k.eq e e2
  have e16 := bodies_at_ok (n := n) (h := hx h0 l) A.toAgP ok k.hx (hx_has hp) s rg ln
  rw [hx_len, hx_push] at e16
  simp only [den_blt, den_call, q1, R.bind_ok, e16, bltD, lenD, hx_get, List.getElem?_append_right (Nat.le_refl _), Nat.sub_self, List.getElem?_cons_zero, nl, List.length_map]
  exact ⟨_, rfl⟩
def loadB : List S := [.ite (.and_ (.op2 .isn (.sub (.fld (.var 0) 8) (.var 3)) .cN) (.call 20 [(.fld (.var 0) 5), (.fld (.var 0) 6), (.var 3), (.var 1)])) [.asg (.s (.fld (.var 0) 8) (.var 3)) .cN, .expr (.bm .append (.var 2) [(.var 3)]), .ite (.op2 .eq (.tmp (.blt .len (.call 16 [(.fld (.var 0) 5), (.var 3), (.fld (.var 0) 7)]))) (.cI 1)) [.asg (.s (.fld (.var 0) 11) (.cS "thrifty")) (.cB true)] []] []]
theorem load_turn (A : AgW T fd) (ok : P.Ok) (k : h.ok) (hf : h.fl ≤ h.o.length) (hp : h.o[p]? = some P.obj) {ld : List Nat} {fr : Option Fr} (rg : ∀ k ∈ ld, k ≤ P.ps.length) (ln : ld.length ≤ 60) {i : Nat} (hi : i ≤ P.ps.length) (s : Bool) (a0 a1 : Option Nat) {ms : List Mk} (hm : ms = [] ∨ ms = [.thrifty]) {tk : List D} (ht : tk.length ≤ 5) {z : Option D} :
    execs T (Phi T fd (n + 4)) loadB [some (.ref h.o.length), some (.int i), some (.ref (h.o.length + 3)), some (sI s), z] (hx h [wobj p h.o.length b ld fr .non, .lst [oN a0, oN a1], mkD ms, .lst tk]) =
      .nx [some (.ref h.o.length), some (.int i), some (.ref (h.o.length + 3)), some (sI s), z]
        (hx h [wobj p h.o.length b ld fr .non, .lst [oN (if !s && (a0.isSome && P.hit b s i) then none else a0), oN (if s && (a1.isSome && P.hit b s i) then none else a1)],
          mkD (if ((if s then a1 else a0).isSome && P.hit b s i) && (P.at s ld).length == 1 then [.thrifty] else ms), .lst (tk ++ (if ((if s then a1 else a0).isSome && P.hit b s i) then [sI s] else []))]) := by
  have eh := fun l => does_hit_ok (n := n) (h := hx h l) A.toAgP ok (hx_has hp) b s hi
  have pr1 := fun l => hx_prot (l := l) k hf 1
  have pr2 := fun l => hx_prot (l := l) k hf 2
  have pr3 := fun l => hx_prot (l := l) k hf 3
  have el := fun l1 l2 l3 => len_tmp_ok (n := n) (s := s) (ld := ld) (l := [wobj p h.o.length b ld fr .non, l1, l2, l3]) (σ := [some (.ref h.o.length), some (.int i), some (.ref (h.o.length + 3)), some (sI s), z]) (e1 := .fld (.var 0) 5) (e2 := .var 3) (e3 := .fld (.var 0) 7) A ok k hp rg ln (fun h0 e => by
    rw [← e]
    simp [fldD, wobj, getF])
  have ht' : tk.length < 16777216 := by omega
  have wt : ∀ a : PySem.Str, a = a := fun _ => rfl
  cases s
  · cases a0 with
    | none => simp [loadB, wobj, fldD, getF, subD, sI, ixAt, L2.ixN, op2]
    | some x =>
      have eh' : ∀ l, Phi T fd (n + 4) 20 [.ref p, b.d, .int 0, .int i] (hx h l) = _ := eh
      cases ch : P.hit b false i with
      | false =>
        simp only [ch] at eh'
        simp [loadB, wobj, fldD, getF, subD, sI, ixAt, L2.ixN, op2, eh']
      | true =>
        simp only [ch] at eh'
        by_cases c1 : (P.at false ld).length = 1
        · have el' := fun l1 l2 l3 => el l1 l2 l3
          simp [c1, wobj, sI] at el'
          rcases hm with rfl | rfl <;> simp [loadB, wobj, fldD, getF, subD, sI, ixAt, L2.ixN, op2, eh', subPut, pr1, pr2, pr3, bmOk, bmD, H.write, ht', el', eqD, scalar, bi, seqv, retB, c1, mkD, keyOf, putK, Mk.s, sizeCap]
        · have el' := fun l1 l2 l3 => el l1 l2 l3
          have c1' : ¬ (((P.at false ld).length : Int) = 1) := by omega
          simp [wobj, sI] at el'
          rcases hm with rfl | rfl <;> simp [loadB, wobj, fldD, getF, subD, sI, ixAt, L2.ixN, op2, eh', subPut, pr1, pr2, pr3, bmOk, bmD, H.write, ht', el', eqD, scalar, bi, seqv, retB, c1, c1', mkD, keyOf, putK, Mk.s, sizeCap]
  · cases a1 with
    | none => simp [loadB, wobj, fldD, getF, subD, sI, ixAt, L2.ixN, op2]
    | some x =>
      have eh' : ∀ l, Phi T fd (n + 4) 20 [.ref p, b.d, .int 1, .int i] (hx h l) = _ := eh
      cases ch : P.hit b true i with
      | false =>
        simp only [ch] at eh'
        simp [loadB, wobj, fldD, getF, subD, sI, ixAt, L2.ixN, op2, eh']
      | true =>
        simp only [ch] at eh'
        by_cases c1 : (P.at true ld).length = 1
        · have el' := fun l1 l2 l3 => el l1 l2 l3
          simp [c1, wobj, sI] at el'
          rcases hm with rfl | rfl <;> simp [loadB, wobj, fldD, getF, subD, sI, ixAt, L2.ixN, op2, eh', subPut, pr1, pr2, pr3, bmOk, bmD, H.write, ht', el', eqD, scalar, bi, seqv, retB, c1, mkD, keyOf, putK, Mk.s, sizeCap]
        · have el' := fun l1 l2 l3 => el l1 l2 l3
          have c1' : ¬ (((P.at true ld).length : Int) = 1) := by omega
          simp [wobj, sI] at el'
          rcases hm with rfl | rfl <;> simp [loadB, wobj, fldD, getF, subD, sI, ixAt, L2.ixN, op2, eh', subPut, pr1, pr2, pr3, bmOk, bmD, H.write, ht', el', eqD, scalar, bi, seqv, retB, c1, c1', mkD, keyOf, putK, Mk.s, sizeCap]
end
end SC
end
end
section
set_option linter.all false
set_option maxRecDepth 100000
set_option Elab.async false
/-! M7: loading; deeds done. -/
noncomputable section
namespace SC
theorem boolsOf_map {α : Type} (f : α → Bool) : ∀ l : List α, boolsOf (l.map fun x => D.bl (f x)) = some (l.map f)
  | [] => rfl
  | x :: l => by simp [boolsOf, boolsOf_map f l]
theorem filter_tt {α : Type} (l : List α) : l.filter (fun _ => true) = l := by
  induction l with
  | nil => rfl
  | cons a l ih => simp [ih]
section
variable {T : Tab} {fd : Nat → Option Fd} {n : Nat} {h : H} {P : Pl} {p q : Nat} {b : Bk}
theorem wlo : ¬ (("later" : PySem.Str) = ("once" : PySem.Str)) := by decide +kernel
theorem once_tmp_ok {Φ : Nat → Fn} (k : h.ok) {ld : List Nat} {fr : Option Fr} {told d1 : D} {a1 a2 : AO} {z1 z2 : Option D} (ss : List Bool) (hs : ss.length ≤ 2) :
    den T Φ (.tmp (.blt .any (.lc .seq (.n 3) [(.var 2)] [] (.op2 .eq (.sub (.sub (.fld (.var 0) 6) (.var 3)) (.cI 1)) (.cS "once"))))) [some (.ref h.o.length), some d1, some (.ref (h.o.length + 3)), z1, z2] (hx h [wobj p h.o.length b ld fr told, a1, a2, .lst (ss.map sI)]) =
      .ok (.bl (ss.any b.o)) (hx h [wobj p h.o.length b ld fr told, a1, a2, .lst (ss.map sI)]) := by
  refine tmp_hx rfl fun h0 e e2 => ?_
  rw [← e]
  replace k := k.eq e e2
  let l0 : List AO := [wobj p h0.o.length b ld fr told, a1, a2, .lst (ss.map sI)]
  have l1 := lc_pure (T := T) (Φ := Φ) (k := .seq) (tg := .n 3) (its := [.var 2]) (ifs := []) (elt := .op2 .eq (.sub (.sub (.fld (.var 0) 6) (.var 3)) (.cI 1)) (.cS "once")) (σ := [some (.ref h0.o.length), some d1, some (.ref (h0.o.length + 3)), z1, z2]) (h := hx h0 l0) (h1 := hx h0 l0) (as := [.ref (h0.o.length + 3)]) (l := [h0.o.length + 3]) (xs := ss.map sI) (fun _ => true) (fun x => .bl (match x with | .int i => b.o (i == 1) | _ => false))
    (by simp) (by simp [walkD, itemsD, l0]) k.hx (by simp [hx_len, l0]) (by simp [sizeCap]; omega) (fun x hx' => by
      obtain ⟨s, hs, rfl⟩ := List.mem_map.mp hx'
      refine ⟨_, rfl, fun h'' q => ?_⟩
      have g0 := q.get h0.o.length _ (by simp [l0]; rfl)
      have es : ∀ h2 : H, subD b.d (sI s) h2 = .ok (noteD (b.w s) (b.o s)) h2 := fun _ => by cases s <;> rfl
      have et : ∀ h2 : H, subD (noteD (b.w s) (b.o s)) (.int 1) h2 = .ok (.str (if b.o s then "once" else "later")) h2 := fun _ => by cases b.o s <;> rfl
      constructor
      · simp
      · intro _
        have e0 : fldD (.ref h0.o.length) 6 h'' = .ok b.d h'' := by simp [fldD, g0, wobj, getF]
        simp [e0, es, et, op2, eqD, scalar, bi, seqv, retB]
        cases s <;> (cases co : b.o _ <;> simp [sI, co, wlo]))
  rw [filter_tt, List.map_map] at l1
  have e3 : ((fun x => D.bl (match x with | .int i => b.o (i == 1) | _ => false)) ∘ sI) = fun s => D.bl (b.o s) := by
    funext s
    cases s <;> rfl
  rw [e3] at l1
  rw [hx_len, hx_push] at l1
  simp only [den_blt, l0] at l1 ⊢
  simp only [l1, R.bind_ok, bltD, listD, hx_get]
  rw [List.getElem?_append_right (Nat.le_refl _), Nat.sub_self]
  simp only [List.getElem?_cons_zero, boolsOf_map]
  have ea : (List.map b.o ss).any id = ss.any b.o := by simp [List.any_map]
  rw [ea]
  exact ⟨_, rfl⟩
theorem rg_load {ld : List Nat} (rg : ∀ k ∈ ld, k ≤ P.ps.length) {i : Nat} (hi : i ≤ P.ps.length) : ∀ k ∈ sortN (ld ++ [i]), k ≤ P.ps.length := by
  have m : ∀ l : List Nat, ∀ k ∈ sortN l, k ∈ l := by
    intro l
    induction l with
    | nil => intro k hk; exact hk
    | cons a l ih =>
      have mi : ∀ (x : Nat) (l : List Nat) (k : Nat), k ∈ insN x l → k = x ∨ k ∈ l := by
        intro x l
        induction l with
        | nil => intro k hk; simpa [insN] using hk
        | cons y l ih =>
          intro k hk
          rw [insN] at hk
          split at hk
          · simpa using hk
          · rcases List.mem_cons.mp hk with rfl | hk
            · simp
            · rcases ih k hk with z | z <;> simp [z]
      intro k hk
      have hk' : k ∈ insN a (sortN l) := hk
      rcases mi _ _ _ hk' with rfl | z
      · simp
      · exact List.mem_cons_of_mem _ (ih k z)
  intro k hk
  have := m _ k hk
  rcases List.mem_append.mp this with z | z
  · exact rg k z
  · simp at z; omega
theorem World_load_ok (A : AgW T fd) (ok : P.Ok) (k : h.ok) (hf : h.fl ≤ h.o.length) (hp : h.o[p]? = some P.obj) {st : Stt} (so : st.Ok P) {i : Nat} (hi : i ≤ P.ps.length) :
    ∃ g, Phi T fd (n + 5) 23 [.ref h.o.length, .int i] (hx h (w3 p h.o.length b ⟨st, .non, []⟩)) = .ok .non (hx h (w3 p h.o.length b (P.stLoad b st i) ++ g)) := by
  rw [phi_raw A.f23 rfl ⟨rfl, by decide⟩]
  have pr0 := fun l => hx_prot0 (l := l) k hf
  have hl := so.len ok
  have hl' : (sortN (st.ld ++ [i])).length ≤ 60 := by
    rw [sortN_len]
    have := ld_len so.up so.rg
    have := ok.len
    simp
    omega
  have rg' := rg_load so.rg hi
  generalize eld : sortN (st.ld ++ [i]) = ld at *
  have et0 : (st.s0.isSome && P.hit b false i) = P.tk b st i false := rfl
  have et1 : (st.s1.isSome && P.hit b true i) = P.tk b st i true := rfl
  generalize e0 : P.tk b st i false = t0 at *
  generalize e1 : P.tk b st i true = t1 at *
  have es := sort_tmp_ok (T := T) (h := h) (Φ := Phi T fd (n + 4)) (σ := [some (.ref h.o.length), some (.int i), none, none, none]) (l := w3 p h.o.length b ⟨st, .non, []⟩) (w := h.o.length) (i := i) (ld := st.ld) (o := .lst []) hl rfl rfl (fun h0 e => by rw [← e]; simp [fldD, w3, wobj, getF])
  rw [eld] at es
  have r0 := load_turn (n := n) (fr := st.fr) A ok k hf hp rg' hl' hi (b := b) false st.s0 st.s1 (ms := []) (.inl rfl) (tk := []) (by simp) (z := none)
  have r1 := load_turn (n := n) (fr := st.fr) A ok k hf hp rg' hl' hi (b := b) true (if t0 then none else st.s0) st.s1 (ms := if t0 && (P.at false ld).length == 1 then [.thrifty] else []) (by split <;> simp) (tk := if t0 then [sI false] else []) (by split <;> simp) (z := none)
  simp only [Bool.not_false, Bool.not_true, Bool.true_and, Bool.false_and, Bool.false_eq_true, if_false, if_true, et0, et1, List.nil_append] at r0 r1
  have et : (if t1 && (P.at true ld).length == 1 then [Mk.thrifty] else (if t0 && (P.at false ld).length == 1 then [Mk.thrifty] else [])) = (P.stLoad b st i).ms := by
    simp only [Pl.stLoad, e0, e1, eld]
    cases t0 <;> cases t1 <;> cases c0 : ((P.at false ld).length == 1) <;> cases c1 : ((P.at true ld).length == 1) <;> simp
  rw [et] at r1
  have el : (if t0 then [sI false] else []) ++ (if t1 then [sI true] else []) = ((if t0 then [false] else []) ++ (if t1 then [true] else []) : List Bool).map sI := by
    cases t0 <;> cases t1 <;> rfl
  rw [el] at r1
  generalize ess : ((if t0 then [false] else []) ++ (if t1 then [true] else []) : List Bool) = ss at *
  have hss : ss.length ≤ 2 := by rw [← ess]; cases t0 <;> cases t1 <;> simp
  have eo : ss.any b.o = ((t0 && b.o0) || (t1 && b.o1)) := by
    rw [← ess]; cases t0 <;> cases t1 <;> simp [Bk.o]
  refine ⟨[.lst (ss.map sI)], ?_⟩
  have lp : exec T (Phi T fd (n + 4)) (.for_ .seq (.n 3) [(.tup [(.cI 0), (.cI 1)])] loadB) [some (.ref h.o.length), some (.int i), some (.ref (h.o.length + 3)), none, none] (hx h [wobj p h.o.length b ld st.fr .non, .lst [oN st.s0, oN st.s1], mkD [], .lst []]) =
      .nx [some (.ref h.o.length), some (.int i), some (.ref (h.o.length + 3)), some (sI true), none] (hx h [wobj p h.o.length b ld st.fr .non, .lst [oN (if t0 then none else st.s0), oN (if t1 then none else st.s1)], mkD (P.stLoad b st i).ms, .lst (ss.map sI)]) := by
    rw [exec_for]
    have : denL T (Phi T fd (n + 4)) [(.tup [(.cI 0), (.cI 1)])] [some (.ref h.o.length), some (.int i), some (.ref (h.o.length + 3)), none, none] (hx h [wobj p h.o.length b ld st.fr .non, .lst [oN st.s0, oN st.s1], mkD [], .lst []]) = .ok [.tup [sI false, sI true]] (hx h [wobj p h.o.length b ld st.fr .non, .lst [oN st.s0, oN st.s1], mkD [], .lst []]) := by simp [newT, sizeCap, sI]
    rw [this]
    have hlk : ∀ h' : H, h'.lock [] = h' := fun _ => rfl
    have huk : ∀ h' : H, h'.unlock [] = h' := fun _ => rfl
    simp only [walkD, forGo, tgSet, List.set_cons_succ, List.set_cons_zero, hlk, r0, r1, Out.unlock, huk]
  have on := once_tmp_ok (T := T) (p := p) (b := b) (Φ := Phi T fd (n + 4)) k (ld := ld) (fr := st.fr) (told := .non) (d1 := .int i) (a1 := .lst [oN (if t0 then none else st.s0), oN (if t1 then none else st.s1)]) (a2 := mkD (P.stLoad b st i).ms) (z1 := some (sI true)) (z2 := none) ss hss
  rw [eo] at on
  have tt : ss.map sI = (if t0 then [D.int 0] else []) ++ (if t1 then [D.int 1] else []) := by
    rw [← ess]; cases t0 <;> cases t1 <;> rfl
  show fin (execs T (Phi T fd (n + 4)) ir_World_load.body [some (.ref h.o.length), some (.int i), none, none, none] _) = _
  unfold ir_World_load
  simp only []
  rw [execs_asg (nt ld) _ es [some (.ref h.o.length), some (.int i), none, none, none] (hx h [wobj p h.o.length b ld st.fr .non, .lst [oN st.s0, oN st.s1], mkD []]) (by simp [w3, wobj, fldPut, putF, pr0])]
  rw [execs_asgn (.ref (h.o.length + 3)) (hx h [wobj p h.o.length b ld st.fr .non, .lst [oN st.s0, oN st.s1], mkD [], .lst []]) (by simp [newL, alloc_hx, sizeCap])]
  rw [execs_nx (by exact lp)]
  rw [execs_asgn _ _ on]
  simp only [List.set_cons_succ, List.set_cons_zero]
  cases co : ((t0 && b.o0) || (t1 && b.o1)) with
  | false =>
    rw [execs_ite_f (hx h [wobj p h.o.length b ld st.fr .non, .lst [oN (if t0 then none else st.s0), oN (if t1 then none else st.s1)], mkD (P.stLoad b st i).ms, .lst (ss.map sI)]) (by simp)]
    simp [w3, wobj, fldPut, putF, pr0, bltD, itemsD, fin, tt]
    simp [Pl.stLoad, eld, e0, e1, co]
  | true =>
    cases cf : st.fr with
    | none =>
      rw [execs_ite_f (hx h [wobj p h.o.length b ld none .non, .lst [oN (if t0 then none else st.s0), oN (if t1 then none else st.s1)], mkD (P.stLoad b st i).ms, .lst (ss.map sI)]) (by simp [w3, wobj, fldD, getF, frD, op2])]
      simp [w3, wobj, fldPut, putF, pr0, bltD, itemsD, fin, tt]
      simp [Pl.stLoad, eld, e0, e1, co, cf]
    | some f =>
      rw [execs_ite_t (hx h [wobj p h.o.length b ld (some f) .non, .lst [oN (if t0 then none else st.s0), oN (if t1 then none else st.s1)], mkD (P.stLoad b st i).ms, .lst (ss.map sI)]) (by simp [w3, wobj, fldD, getF, frD, op2]) [some (.ref h.o.length), some (.int i), some (.ref (h.o.length + 3)), some (sI true), some (.bl true)] (hx h [wobj p h.o.length b ld (some ⟨f.b, f.m, none⟩) .non, .lst [oN (if t0 then none else st.s0), oN (if t1 then none else st.s1)], mkD (P.stLoad b st i).ms, .lst (ss.map sI)]) (by simp [w3, wobj, fldD, getF, frD, op2, subD, ixAt, L2.ixN, newT, sizeCap, fldPut, putF, pr0])]
      simp [w3, wobj, fldPut, putF, pr0, bltD, itemsD, fin, tt]
      simp [Pl.stLoad, eld, e0, e1, co, cf]
end
end SC
end
end
section
set_option linter.all false
set_option maxRecDepth 100000
set_option Elab.async false
/-! M8: deeds, done. -/
noncomputable section
namespace SC
def Pl.loads (P : Pl) (st : Stt) : List Nat := ((List.range P.ps.length).map (· + 1)).filter fun k => !st.ld.contains k && st.ld.contains (P.par k)
def Pl.mks (P : Pl) (st : Stt) (s : Bool) : List Dd := if (st.sg s).isNone && (P.at s st.ld).length == 1 then [.make s] else []
def Pl.cal (P : Pl) (st : Stt) (s : Bool) : List Nat := st.ld.filter fun k => P.under k (P.q s)
def Pl.deeds (P : Pl) (st : Stt) : List Dd := (P.loads st).map .load ++ (P.mks st false ++ P.mks st true) ++ (match st.fr with
  | none => (P.cal st false).map .call
  | some f => if f.m = 0 then [.fin] else (P.cal st true).map .inner)
/-- what `done` asks of a deed -/
def Pl.may (P : Pl) (st : Stt) : Dd → Prop
  | .load k => k ≤ P.ps.length ∧ k ∉ st.ld
  | .make s => (P.at s st.ld).length = 1
  | .call k => k ≤ P.ps.length
  | .inner k => k ≤ P.ps.length ∧ ∃ f, st.fr = some f ∧ 0 < f.m
  | .fin => True
theorem Pl.may_of {P : Pl} {st : Stt} (so : st.Ok P) {dd : Dd} (h : dd ∈ P.deeds st) : P.may st dd := by
  unfold Pl.deeds at h
  rcases List.mem_append.mp h with h | h
  · rcases List.mem_append.mp h with h | h
    · obtain ⟨k, hk, rfl⟩ := List.mem_map.mp h
      simp [Pl.loads] at hk
      exact ⟨by omega, hk.2.1⟩
    · rcases List.mem_append.mp h with h | h <;>
      · unfold Pl.mks at h
        split at h
        · next c =>
          simp at h
          subst h
          simp at c
          exact c.2
        · cases h
  · cases ef : st.fr with
    | none =>
      rw [ef] at h
      obtain ⟨k, hk, rfl⟩ := List.mem_map.mp h
      exact so.rg k (List.mem_filter.mp hk).1
    | some f =>
      rw [ef] at h
      simp only at h
      split at h
      · simp at h; subst h; trivial
      · next c =>
        obtain ⟨k, hk, rfl⟩ := List.mem_map.mp h
        exact ⟨so.rg k (List.mem_filter.mp hk).1, f, ef, by omega⟩
section
variable {T : Tab} {fd : Nat → Option Fd} {n : Nat} {h : H} {P : Pl} {p q : Nat} {b : Bk}
theorem wmeth {l : List AO} {ld : List Nat} {fr : Option Fr} {told : D} {m : Nat} (hm : 12 ≤ m) : methD T m (.ref h.o.length) (hx h (wobj p h.o.length b ld fr told :: l)) = T.meth 1 m := by
  simp only [methD, hx_get0, List.getElem?_cons_zero, wobj, getF]
  simp [show ¬ 5 = m by omega, show ¬ 6 = m by omega, show ¬ 7 = m by omega, show ¬ 8 = m by omega, show ¬ 9 = m by omega, show ¬ 10 = m by omega, show ¬ 11 = m by omega]
theorem World_do_ok (A : AgW T fd) (ok : P.Ok) (k : h.ok) (hf : h.fl ≤ h.o.length) (hp : h.o[p]? = some P.obj) {st : Stt} (so : st.Ok P) {dd : Dd} (hd : P.may st dd) :
    ∃ g, Phi T fd (n + 6) 27 [.ref h.o.length, dd.d] (hx h (w3 p h.o.length b ⟨st, .non, []⟩)) = .ok .non (hx h (w3 p h.o.length b (P.step b st dd) ++ g)) := by
  rw [phi_raw A.f27 rfl ⟨rfl, by decide⟩]
  obtain ⟨w1, w2, w3_, w4, w5, w6, w7, w8, w9, w10, w11, w12, w13, w14, w15, w16, w17, w18, w19, w20⟩ := w_ne
  have ew := fun m hm => wmeth (T := T) (h := h) (p := p) (b := b) (l := [.lst [oN st.s0, oN st.s1], mkD []]) (ld := st.ld) (fr := st.fr) (told := .non) (m := m) hm
  have e21 := ew 21 (by omega)
  have e22 := ew 22 (by omega)
  have e23 := ew 23 (by omega)
  have e24 := ew 24 (by omega)
  show ∃ g, fin (execs T (Phi T fd (n + 5)) ir_World_do.body [some (.ref h.o.length), some dd.d] _) = _
  have s0 : ∀ h' : H, ∀ (w : PySem.Str) (r : List D), subD (.tup (.str w :: r)) (.int 0) h' = .ok (.str w) h' := fun h' w r => by
    have : ixAt (r.length + 1) 0 = some 0 := by simp [ixAt, L2.ixN]
    simp [subD, this]
  have s1 : ∀ h' : H, ∀ (w : PySem.Str) (x : D), subD (.tup [.str w, x]) (.int 1) h' = .ok x h' := fun h' w r => rfl
  have eq : ∀ (h' : H) (a c : PySem.Str), op2 .eq (.str a) (.str c) h' = .ok (.bl (decide (a = c))) h' := fun _ _ _ => rfl
  have dt : ∀ a : PySem.Str, decide (a = a) = true := fun _ => by simp
  unfold ir_World_do
  simp only []
  cases dd with
  | load i =>
    obtain ⟨g, e⟩ := World_load_ok (n := n) (b := b) A ok k hf hp so hd.1
    exact ⟨g, by simp only [w3] at e ⊢; simp [Dd.d, s0, s1, eq,  e21, A.m21, e, fin, Pl.step]⟩
  | make s =>
    have hn : P.at s st.ld ≠ [] := fun z => by simp [Pl.may, z] at hd
    have e := World_make_ok (n := n) (b := b) A ok k hf hp so s hn
    exact ⟨[nl (P.at s st.ld)], by simp only [w3] at e ⊢; simp [Dd.d, s0, s1, eq, w5,  e22, A.m22, e, fin, Pl.step]⟩
  | call i =>
    have e := World_call_ok (n := n) (b := b) A ok k hf hp so hd
    exact ⟨[], by simp only [w3] at e ⊢; simp [Dd.d, s0, s1, eq, w9, w10,  e23, A.m23, e, fin, Pl.step]⟩
  | inner i =>
    obtain ⟨h1, f, ef, hm⟩ := hd
    have e := World_inner_ok (n := n) (b := b) A ok k hf hp so ef hm h1
    exact ⟨[], by simp only [w3] at e ⊢; simp [Dd.d, s0, s1, eq, w13, w14, w15,  e24, A.m24, e, fin, Pl.step]⟩
  | fin =>
    have pr0 := fun l => hx_prot0 (l := l) k hf
    exact ⟨[], by simp only [execs_cons, exec_ite, den_op2, den_sub, den_var, den_cI, den_cS, List.getElem?_cons_succ, List.getElem?_cons_zero, R.bind_ok, Dd.d, s0, eq, dt, w17, w18, w19, w20]; simp [fldPut, w3, wobj, putF, pr0, fin, Pl.step, frD]⟩
theorem done_ok (A : AgW T fd) (ok : P.Ok) (k : h.ok) (hf : h.fl ≤ h.o.length) (hp : h.o[p]? = some P.obj) {st : Stt} (so : st.Ok P) {dd : Dd} (hd : P.may st dd) :
    ∃ g, Phi T fd (n + 7) 31 [.ref p, b.d, st.d, dd.d] h = .ok (.ref h.o.length) (hx h (w3 p h.o.length b (P.step b st dd) ++ g)) := by
  rw [phi_raw A.f31 rfl ⟨rfl, by decide⟩]
  have e1 := World_init_ok (n := n + 5) (p := p) (b := b) A k hf st
  obtain ⟨g, e2⟩ := World_do_ok (n := n) (b := b) A ok k hf hp so hd
  have ew := wmeth (T := T) (h := h) (p := p) (b := b) (l := [.lst [oN st.s0, oN st.s1], mkD []]) (ld := st.ld) (fr := st.fr) (told := .non) (m := 25) (by omega)
  refine ⟨g, ?_⟩
  show fin (execs T (Phi T fd (n + 6)) ir_done.body [some (.ref p), some b.d, some st.d, some dd.d, none] h) = _
  unfold ir_done
  rw [execs_asgn (.ref h.o.length) (hx h (w3 p h.o.length b ⟨st, .non, []⟩)) (by simp [makeD, A.i1, e1]),
    execs_expr .non (hx h (w3 p h.o.length b (P.step b st dd) ++ g)) (by simp only [den_meth, den_var, List.set_cons_succ, List.set_cons_zero, List.getElem?_cons_succ, List.getElem?_cons_zero, R.bind_ok, w3] at *; rw [ew]; simp [A.m25, e2])]
  simp [fin]
theorem state_now_ok (A : AgW T fd) {l : List AO} {w : Wd} (hq : ∃ l1, l = w3 p h.o.length b w ++ l1) : Phi T fd (n + 1) 22 [.ref h.o.length] (hx h l) = .ok w.st.d (hx h l) := by
  obtain ⟨l1, rfl⟩ := hq
  refine phi_P' A.f22 rfl ⟨rfl, by decide⟩ (pure_st _) fun h' e' _ _ => ?_
  refine ⟨h', ?_⟩
  have g0 : h'.o[h.o.length]? = some (wobj p h.o.length b w.st.ld w.st.fr w.told) := by rw [e']; simp [w3]
  have g1 : h'.o[h.o.length + 1]? = some (.lst [oN w.st.s0, oN w.st.s1]) := by rw [e']; simp [w3]
  show fin (execs T (Phi T fd n) ir_World_state_now.body [some (.ref h.o.length)] h') = _
  simp [ir_World_state_now, fldD, g0, wobj, getF, bltD, itemsD, g1, newT, sizeCap, fin, Stt.d]
def Pl.st0 (P : Pl) : Stt := ⟨P.fs, none, none, none⟩
theorem start_of_ok (A : AgW T fd) (hp : h.o[p]? = some P.obj) : Phi T fd (n + 1) 28 [.ref p] h = .ok P.st0.d h := by
  refine phi_P' A.f28 rfl ⟨rfl, by decide⟩ (pure_st _) fun h' e' _ _ => ⟨h', ?_⟩
  rw [← e'] at hp
  have e4 := plan_fld (P := P) (p := p) (f := 4) hp rfl
  show fin (execs T (Phi T fd n) ir_start_of.body [some (.ref p)] h') = _
  simp [ir_start_of, e4, newT, sizeCap, fin, Stt.d, Pl.st0, frD]
end
end SC
end
end
section
set_option linter.all false
set_option maxRecDepth 100000
set_option Elab.async false
/-! M9: which deeds can be done. -/
noncomputable section
namespace SC
theorem pures_dds : ∀ l : List Dd, D.pures (l.map Dd.d) = true
  | [] => rfl
  | a :: l => by simp [D.pures, pure_dd a, pures_dds l]
theorem soks_dds : ∀ l : List Dd, D.soks (l.map Dd.d) = true
  | [] => rfl
  | a :: l => by simp [D.soks, sok_dd a, soks_dds l]
theorem depths_dds : ∀ l : List Dd, D.depths (l.map Dd.d) ≤ 1
  | [] => by simp [D.depths]
  | a :: l => by have := depths_dds l; simp [D.depths, depth_dd a]; omega
theorem fm_nat (f : Nat → Bool) (g : D → D) (F : D → Bool) (hF : ∀ k : Nat, F (.int k) = f k) : ∀ ks : List Nat, ((ks.map fun (k : Nat) => D.int k).filter F).map g = (ks.filter f).map fun (k : Nat) => g (.int k)
  | [] => rfl
  | a :: ks => by
    have ih := fm_nat f g F hF ks
    simp only [List.map_cons, List.filter_cons, hF]
    split
    · simp [ih]
    · exact ih
section
variable {T : Tab} {fd : Nat → Option Fd} {n : Nat} {h : H} {P : Pl} {p q : Nat} {b : Bk}
theorem under_lc {l : List AO} (A : AgW T fd) (ok : P.Ok) (k : h.ok) (hp : h.o[p]? = some P.obj) {ld : List Nat} (rg : ∀ k ∈ ld, k ≤ P.ps.length) (ln : ld.length ≤ 60) (w : PySem.Str) (s : Bool) {σ : Env} (h0 : σ[0]? = some (some (.ref p))) (h4 : σ[4]? = some (some (nt ld))) (h7 : σ.length = 8) :
    den T (Phi T fd (n + 3)) (.lc .seq (.n 7) [(.var 4)] [(.meth 16 (.var 0) [(.var 7), (.sub (.fld (.var 0) 3) (.cI (if s then 1 else 0)))])] (.tup [(.cS w), (.var 7)])) σ (hx h l) =
      .ok (.ref (h.o.length + l.length)) (hx h (l ++ [.lst ((ld.filter fun k => P.under k (P.q s)).map fun (k : Nat) => D.tup [.str w, .int k])])) := by
  have e := lc_pure (T := T) (Φ := Phi T fd (n + 3)) (k := .seq) (tg := .n 7) (its := [.var 4]) (ifs := [(.meth 16 (.var 0) [(.var 7), (.sub (.fld (.var 0) 3) (.cI (if s then 1 else 0)))])]) (elt := .tup [(.cS w), (.var 7)]) (σ := σ) (h := hx h l) (h1 := hx h l) (as := [nt ld]) (l := []) (xs := ld.map fun (k : Nat) => D.int k)
    (fun x => match x with | .int i => P.under i.toNat (P.q s) | _ => false) (fun x => .tup [.str w, x]) (by simp [h4]) (by simp [walkD, nt]) k.hx (by simp) (by simp [sizeCap]; omega) (fun x hx' => by
      obtain ⟨i, hi, rfl⟩ := List.mem_map.mp hx'
      refine ⟨_, rfl, fun h'' q => ?_⟩
      have hp2 := q.get _ _ (hx_has hp)
      have u := is_under_ok (T := T) (fd := fd) (n := n) A.toAgP ok hp2 (rg i hi) (ok.q s)
      have e3' := plan_fld (P := P) (p := p) (f := 3) hp2 rfl
      have m := plan_meth (T := T) (P := P) (p := p) (m := 16) hp2 (by omega)
      have eb : ∀ h2 : H, subD (.tup [.int P.q0, .int P.q1]) (.int (if s then 1 else 0)) h2 = .ok (.int (P.q s : Nat)) h2 := fun h2 => by cases s <;> rfl
      have s0 : (σ.set 7 (some (.int i)))[0]? = some (some (.ref p)) := by rw [List.getElem?_set_ne (by omega)]; exact h0
      have s7 : (σ.set 7 (some (.int i)))[7]? = some (some (.int i)) := by rw [List.getElem?_set_self (by omega)]
      constructor
      · simp only [denIfs_cons, denIfs_nil, den_meth, den_var, s0, s7, R.bind_ok, m, A.m16]
        simp [s0, s7, e3', eb, u]
        cases P.under i (P.q s) <;> rfl
      · intro _; simp [s7, newT, sizeCap])
  rw [hx_len, hx_push] at e
  rw [e]
  rw [fm_nat (fun k => P.under k (P.q s)) _ _ (fun k => rfl)]
def deedsB : List S := [.ite (.and_ (.op2 .is_ (.sub (.var 5) (.var 3)) .cN) (.op2 .eq (.tmp (.blt .len (.call 16 [(.var 0), (.var 3), (.var 4)]))) (.cI 1))) [.expr (.bm .append (.var 2) [(.tup [(.cS "make"), (.var 3)])])] []]
theorem deeds_turn (A : AgW T fd) (ok : P.Ok) (k : h.ok) (hf : h.fl ≤ h.o.length) (hp : h.o[p]? = some P.obj) {st : Stt} (so : st.Ok P) (s : Bool) {acc : List D} (ha : acc.length ≤ 100) {d1 d2 : D} :
    execs T (Phi T fd (n + 4)) deedsB [some (.ref p), some d1, some (.ref h.o.length), some (sI s), some (nt st.ld), some (.tup [oN st.s0, oN st.s1]), some d2, none] (hx h [.lst acc]) =
      .nx [some (.ref p), some d1, some (.ref h.o.length), some (sI s), some (nt st.ld), some (.tup [oN st.s0, oN st.s1]), some d2, none] (hx h [.lst (acc ++ (P.mks st s).map Dd.d)]) := by
  have pr0 := fun l => hx_prot0 (l := l) k hf
  have el := len_tmp_ok (n := n) (s := s) (ld := st.ld) (l := [.lst acc]) (σ := [some (.ref p), some d1, some (.ref h.o.length), some (sI s), some (nt st.ld), some (.tup [oN st.s0, oN st.s1]), some d2, none]) (e1 := .var 0) (e2 := .var 3) (e3 := .var 4) A ok k hp so.rg (so.len ok) (fun h0 e => by simp)
  have ha' : acc.length < 16777216 := by omega
  have es : ∀ h' : H, subD (.tup [oN st.s0, oN st.s1]) (sI s) h' = .ok (oN (st.sg s)) h' := fun h' => by cases s <;> rfl
  unfold Pl.mks
  cases c : st.sg s with
  | some x => simp [deedsB, es, c, op2]
  | none =>
    by_cases c1 : (P.at s st.ld).length = 1
    · simp only [c1] at el
      simp [deedsB, es, c, op2, el, eqD, scalar, bi, seqv, retB, c1, bmOk, bmD, newT, sizeCap, H.write, pr0, ha', Dd.d]
    · have c1' : ¬ (((P.at s st.ld).length : Int) = 1) := by omega
      simp [deedsB, es, c, op2, el, eqD, scalar, bi, seqv, retB, c1, c1']
theorem loads_lc {l : List AO} (A : AgW T fd) (ok : P.Ok) (k : h.ok) (hp : h.o[p]? = some P.obj) {st : Stt} {σ : Env} (h0 : σ[0]? = some (some (.ref p))) (h4 : σ[4]? = some (some (nt st.ld))) (h7 : σ.length = 8) :
    den T (Phi T fd (n + 1)) (.lc .range (.n 7) [(.cI 1), (.lenI (.var 0))] [(.and_ (.op2 .nin (.var 7) (.var 4)) (.op2 .in_ (.sub (.fld (.var 0) 0) (.op2 .sub (.var 7) (.cI 1))) (.var 4)))] (.tup [(.cS "load"), (.var 7)])) σ (hx h l) =
      .ok (.ref (h.o.length + l.length)) (hx h (l ++ [.lst (((P.loads st).map Dd.load).map Dd.d)])) := by
  have hn := plan_len (n := n) (h := hx h l) A.toAgP ok (hx_has hp)
  have hlen := ok.len
  have e := lc_pure (T := T) (Φ := Phi T fd (n + 1)) (k := .range) (tg := .n 7) (its := [(.cI 1), (.lenI (.var 0))]) (ifs := [(.and_ (.op2 .nin (.var 7) (.var 4)) (.op2 .in_ (.sub (.fld (.var 0) 0) (.op2 .sub (.var 7) (.cI 1))) (.var 4)))]) (elt := .tup [(.cS "load"), (.var 7)]) (σ := σ) (h := hx h l) (h1 := hx h l) (as := [.int 1, .int (P.ps.length + 1 : Nat)]) (l := []) (xs := ((List.range P.ps.length).map (· + 1)).map fun (k : Nat) => D.int k)
    (fun x => match x with | .int i => !st.ld.contains i.toNat && st.ld.contains (P.par i.toNat) | _ => false) (fun x => .tup [.str "load", x]) (by simp [h0, hn]) (by
      simp only [walkD]
      rw [if_pos (by omega)]
      have : ((P.ps.length + 1 : Nat) - (1 : Int)).toNat = P.ps.length := by omega
      rw [this]
      simp only [rangeL, List.map_map]
      congr 2
      apply List.map_congr_left
      intro a _
      simp
      omega) k.hx (by simp) (by simp [sizeCap]; omega) (fun x hx' => by
      obtain ⟨i, hi, rfl⟩ := List.mem_map.mp hx'
      simp at hi
      refine ⟨_, rfl, fun h'' q => ?_⟩
      have hp2 := q.get _ _ (hx_has hp)
      have e0 := plan_fld (P := P) (p := p) (f := 0) hp2 rfl
      have hs := nt_sub (h := h'') (l := P.ps) (i := i - 1) (by omega)
      have hc : ((i : Int) - 1) = ((i - 1 : Nat) : Int) := by omega
      have hi1 := nt_in (h := h'') (l := st.ld) (k := i)
      have hi2 := nt_in (h := h'') (l := st.ld) (k := P.par i)
      have ep : P.ps.getD (i - 1) 0 = P.par i := rfl
      rw [ep] at hs
      have s0 : (σ.set 7 (some (.int i)))[0]? = some (some (.ref p)) := by rw [List.getElem?_set_ne (by omega)]; exact h0
      have s4 : (σ.set 7 (some (.int i)))[4]? = some (some (nt st.ld)) := by rw [List.getElem?_set_ne (by omega)]; exact h4
      have s7 : (σ.set 7 (some (.int i)))[7]? = some (some (.int i)) := by rw [List.getElem?_set_self (by omega)]
      constructor
      · simp only [denIfs_cons, denIfs_nil, den_and, den_op2, den_sub, den_fld, den_var, den_cI, s0, s4, s7, R.bind_ok, op2, hi1, e0, hc, hs, hi2, retB, Option.map_some]
        cases c1 : st.ld.contains i <;> cases c2 : st.ld.contains (P.par i) <;> simp [c1, c2, retB, hi2] <;> simp_all
      · intro _; simp [s7, newT, sizeCap])
  rw [hx_len, hx_push] at e
  rw [e]
  rw [fm_nat (fun k => !st.ld.contains k && st.ld.contains (P.par k)) _ _ (fun k => rfl)]
  simp only [Pl.loads, List.map_map]
  rfl
theorem forGo_two {tg : Tg} {bd : SM} {x y : D} {σ σ1 σ2 σ3 σ4 : Env} {h1 h2 h3 : H} (e1 : tgSet tg x σ = some σ1) (e2 : bd σ1 h1 = .nx σ2 h2) (e3 : tgSet tg y σ2 = some σ3) (e4 : bd σ3 h2 = .nx σ4 h3) : forGo tg bd [x, y] σ h1 = .nx σ4 h3 := by
  simp only [forGo, e1, e2, e3, e4]
theorem mks_len (st : Stt) (s : Bool) : (P.mks st s).length ≤ 1 := by unfold Pl.mks; split <;> simp
theorem loads_len (st : Stt) : (P.loads st).length ≤ P.ps.length := by
  unfold Pl.loads
  exact Nat.le_trans (List.length_filter_le _ _) (by simp)
theorem deeds_of_ok (A : AgW T fd) (ok : P.Ok) (k : h.ok) (hp : h.o[p]? = some P.obj) {st : Stt} (so : st.Ok P) :
    Phi T fd (n + 5) 29 [.ref p, st.d] h = .ok (.ref h.o.length) (h.push (.lst ((P.deeds st).map Dd.d))) := by
  refine phi_L' A.f29 rfl ⟨rfl, by decide⟩ (pures_dds _) fun h' e' ek' ef' => ?_
  rw [← e'] at hp ef'
  have k' : h'.ok := k.of e' ek'
  have hf' : h'.fl ≤ h'.o.length := by omega
  have ln := so.len ok
  let σ1 : Env := [some (.ref p), some st.d, none, none, some (nt st.ld), some (.tup [oN st.s0, oN st.s1]), some (frD st.fr), none]
  have e1 := loads_lc (n := n + 3) (l := []) (st := st) (σ := σ1) A ok k' hp rfl rfl rfl
  rw [hx_nil] at e1
  let a0 : List D := ((P.loads st).map Dd.load).map Dd.d
  have la0 : a0.length ≤ 4 := by have := loads_len (P := P) st; have := ok.len; simp [a0]; omega
  have t0 := deeds_turn (n := n) (d1 := st.d) (d2 := frD st.fr) A ok k' hf' hp so false (acc := a0) (by omega)
  have lm0 := mks_len (P := P) st false
  have lm1 := mks_len (P := P) st true
  have t1 := deeds_turn (n := n) (d1 := st.d) (d2 := frD st.fr) A ok k' hf' hp so true (acc := a0 ++ (P.mks st false).map Dd.d) (by simp; omega)
  have lp := forGo_two (tg := .n 3) (bd := fun σ h => execs T (Phi T fd (n + 4)) deedsB σ h) (x := sI false) (y := sI true) (σ := [some (.ref p), some st.d, some (.ref h'.o.length), none, some (nt st.ld), some (.tup [oN st.s0, oN st.s1]), some (frD st.fr), none]) rfl t0 rfl t1
  let a1 : List D := a0 ++ (P.mks st false).map Dd.d ++ (P.mks st true).map Dd.d
  let σ2 : Env := [some (.ref p), some st.d, some (.ref h'.o.length), some (sI true), some (nt st.ld), some (.tup [oN st.s0, oN st.s1]), some (frD st.fr), none]
  have la1 : a1.length ≤ 6 := by simp [a1]; omega
  have lp' : exec T (Phi T fd (n + 4)) (.for_ .seq (.n 3) [(.tup [(.cI 0), (.cI 1)])] deedsB) [some (.ref p), some st.d, some (.ref h'.o.length), none, some (nt st.ld), some (.tup [oN st.s0, oN st.s1]), some (frD st.fr), none] (hx h' [.lst a0]) = .nx σ2 (hx h' [.lst a1]) := by
    rw [exec_for]
    have : ∀ σ h2, denL T (Phi T fd (n + 4)) [(.tup [(.cI 0), (.cI 1)])] σ h2 = .ok [.tup [sI false, sI true]] h2 := fun σ h2 => by simp [newT, sizeCap, sI]
    rw [this]
    have hlk : ∀ h' : H, h'.lock [] = h' := fun _ => rfl
    have huk : ∀ h' : H, h'.unlock [] = h' := fun _ => rfl
    simp only [walkD, hlk, lp, Out.unlock, huk]
    rfl
  have ec : ∀ ks : List Nat, ∀ w : PySem.Str, ∀ c : Nat → Dd, (∀ k, (c k).d = .tup [.str w, .int k]) → (ks.map fun (k : Nat) => D.tup [.str w, .int k]) = (ks.map c).map Dd.d := fun ks w c hc => by
    rw [List.map_map]
    apply List.map_congr_left
    intro a _
    simp [hc]
  have lc : ∀ s, (P.cal st s).length ≤ 60 := fun s => Nat.le_trans (List.length_filter_le _ _) ln
  have tgt : ∀ (ds : List Dd), (P.deeds st) = (P.loads st).map Dd.load ++ (P.mks st false ++ P.mks st true) ++ ds → (P.deeds st).map Dd.d = a1 ++ ds.map Dd.d := fun ds e => by rw [e]; simp [a1, a0]
  have run : ∀ r, fin (execs T (Phi T fd (n + 4)) ir_deeds_of.body [some (.ref p), some st.d, none, none, none, none, none, none] h') = r ↔ fin (execs T (Phi T fd (n + 4)) (ir_deeds_of.body.drop 3) σ2 (hx h' [.lst a1])) = r := fun r => by
    unfold ir_deeds_of
    simp only [List.drop_succ_cons, List.drop_zero]
    rw [execs_asg st.d h' (by simp) σ1 h' (by simp [Stt.d, σ1]), execs_asgn (.ref h'.o.length) (hx h' [.lst a0]) (by exact e1)]
    simp only [σ1, List.set_cons_succ, List.set_cons_zero]
    rw [execs_nx (by exact lp')]
  have out : ∀ (ds : List Dd) (g : List AO), (P.deeds st).map Dd.d = a1 ++ ds.map Dd.d → fin (execs T (Phi T fd (n + 4)) (ir_deeds_of.body.drop 3) σ2 (hx h' [.lst a1])) = .ok (.ref (h'.o.length + (g.length + 1))) (hx h' (.lst a1 :: g ++ [.lst (a1 ++ ds.map Dd.d)])) → ∃ h1 p1, fin (execs T (Phi T fd (n + 4)) ir_deeds_of.body [some (.ref p), some st.d, none, none, none, none, none, none] h') = .ok (.ref p1) h1 ∧ h.o.length ≤ p1 ∧ h1.o[p1]? = some (.lst ((P.deeds st).map Dd.d)) := fun ds g e1 e2 => by
    refine ⟨_, _, (run _).mpr e2, by rw [← e']; omega, ?_⟩
    rw [hx_get, e1]
    simp
  have i1 : ∀ g, itemsD (.ref h'.o.length) (hx h' (.lst a1 :: g)) = some a1 := fun g => by simp [itemsD]
  show ∃ h1 p1, fin (execs T (Phi T fd (n + 4)) ir_deeds_of.body [some (.ref p), some st.d, none, none, none, none, none, none] h') = .ok (.ref p1) h1 ∧ _
  cases ef : st.fr with
  | none =>
    have ed : P.deeds st = (P.loads st).map Dd.load ++ (P.mks st false ++ P.mks st true) ++ (P.cal st false).map .call := by simp [Pl.deeds, ef]
    have ecl := ec (P.cal st false) "call" Dd.call (fun _ => rfl)
    have u := under_lc (n := n + 1) (l := [.lst a1]) A ok k' hp so.rg ln "call" false (σ := σ2) rfl rfl rfl
    have ecl' : (st.ld.filter fun k => P.under k (P.q false)).map (fun (k : Nat) => D.tup [.str "call", .int k]) = ((P.cal st false).map Dd.call).map Dd.d := ecl
    rw [ecl'] at u
    have cap : (a1 ++ (((P.cal st false).map Dd.call).map Dd.d ++ [])).length ≤ sizeCap := by have := lc false; simp [sizeCap]; omega
    refine out ((P.cal st false).map .call) [.lst (((P.cal st false).map Dd.call).map Dd.d)] (tgt _ ed) ?_
    unfold ir_deeds_of
    simp only [List.drop_succ_cons, List.drop_zero]
    rw [execs_ite_rt (hx h' [.lst a1]) (by simp [σ2, ef, frD, op2]) (.ref (h'.o.length + 2)) (hx h' [.lst a1, .lst (((P.cal st false).map Dd.call).map Dd.d), .lst (a1 ++ ((P.cal st false).map Dd.call).map Dd.d)]) (by
      rw [execs_ret (.ref (h'.o.length + 2)) _]
      rw [den_lst, denL_star, den_var]
      simp only [σ2, List.getElem?_cons_succ, List.getElem?_cons_zero, R.bind_ok, i1, denL_star]
      simp [-List.map_map] at u
      rw [u]
      simp only [R.bind_ok, itemsD, hx_get, List.getElem?_cons_succ, List.getElem?_cons_zero, denL_nil]
      rw [newL_ok cap, hx_len, hx_push]
      simp)]
    simp [fin]
  | some f =>
    by_cases c : f.m = 0
    · have ed : P.deeds st = (P.loads st).map Dd.load ++ (P.mks st false ++ P.mks st true) ++ [.fin] := by simp [Pl.deeds, ef, c]
      have cap : (a1 ++ [D.tup [.str "end"]]).length ≤ sizeCap := by simp [sizeCap]; omega
      refine out [.fin] [] (tgt _ ed) ?_
      unfold ir_deeds_of
      simp only [List.drop_succ_cons, List.drop_zero]
      rw [execs_ite_f (hx h' [.lst a1]) (by simp [σ2, ef, frD, op2])]
      rw [execs_ite_rt (hx h' [.lst a1]) (by simp [σ2, ef, frD, op2, subD, ixAt, L2.ixN, c, eqD, scalar, bi, seqv, retB]) (.ref (h'.o.length + 1)) (hx h' [.lst a1, .lst (a1 ++ [D.tup [.str "end"]])]) (by
        rw [execs_ret (.ref (h'.o.length + 1)) _]
        rw [den_lst, denL_star, den_var]
        simp only [σ2, List.getElem?_cons_succ, List.getElem?_cons_zero, R.bind_ok, i1]
        rw [denM_cons _ _ _ _ _ _ (by intro a; simp), den_tup]
        rw [denM_cons _ _ _ _ _ _ (by intro a; simp)]
        simp only [den_cS, R.bind_ok, denL_nil]
        rw [newT_ok (by simp [sizeCap])]
        simp only [R.bind_ok]
        rw [newL_ok cap, hx_len, hx_push]
        simp)]
      simp [fin, Dd.d]
    · have ed : P.deeds st = (P.loads st).map Dd.load ++ (P.mks st false ++ P.mks st true) ++ (P.cal st true).map .inner := by simp [Pl.deeds, ef, c]
      have ecl := ec (P.cal st true) "inner" Dd.inner (fun _ => rfl)
      have u := under_lc (n := n + 1) (l := [.lst a1]) A ok k' hp so.rg ln "inner" true (σ := σ2) rfl rfl rfl
      have ecl' : (st.ld.filter fun k => P.under k (P.q true)).map (fun (k : Nat) => D.tup [.str "inner", .int k]) = ((P.cal st true).map Dd.inner).map Dd.d := ecl
      rw [ecl'] at u
      have cap : (a1 ++ (((P.cal st true).map Dd.inner).map Dd.d ++ [])).length ≤ sizeCap := by have := lc true; simp [sizeCap]; omega
      refine out ((P.cal st true).map .inner) [.lst (((P.cal st true).map Dd.inner).map Dd.d)] (tgt _ ed) ?_
      unfold ir_deeds_of
      simp only [List.drop_succ_cons, List.drop_zero]
      rw [execs_ite_f (hx h' [.lst a1]) (by simp [σ2, ef, frD, op2])]
      rw [execs_ite_f (hx h' [.lst a1]) (by simp [σ2, ef, frD, op2, subD, ixAt, L2.ixN, c, eqD, scalar, bi, seqv, retB])]
      rw [execs_ret (.ref (h'.o.length + 2)) (hx h' [.lst a1, .lst (((P.cal st true).map Dd.inner).map Dd.d), .lst (a1 ++ ((P.cal st true).map Dd.inner).map Dd.d)]) (by
        rw [den_lst, denL_star, den_var]
        simp only [σ2, List.getElem?_cons_succ, List.getElem?_cons_zero, R.bind_ok, i1, denL_star]
        simp [-List.map_map] at u
        rw [u]
        simp only [R.bind_ok, itemsD, hx_get, List.getElem?_cons_succ, List.getElem?_cons_zero, denL_nil]
        rw [newL_ok cap, hx_len, hx_push]
        simp)]
      simp [fin]
end
end SC
end
end
section
set_option linter.all false
set_option maxRecDepth 100000
set_option Elab.async false
/-! M10: deeds that can be done; histories. -/
noncomputable section
namespace SC
open PySem (PyData)
section
variable {T : Tab} {fd : Nat → Option Fd} {n : Nat} {h : H} {P : Pl} {p q : Nat} {b : Bk}
theorem any_py (x : D) (px : x.pure = true) : ∀ l : List D, D.pures l = true → (D.pys l).any (fun z => PyData.eqv z x.py) = l.any fun y => D.same y x
  | [], _ => rfl
  | a :: l, h => by
    simp only [D.pures, Bool.and_eq_true] at h
    simp only [D.pys, List.any_cons, eqv_py a x h.1 px, any_py x px l h.2]
theorem inD_lst {a : Nat} {xs : List D} {x : D} (ha : h.o[a]? = some (.lst xs)) (sx : x.sok = true) (qx : x.depth ≤ 60) (sl : D.soks xs = true) (ql : D.depths xs ≤ 59) : inD x (.ref a) h = some (xs.any fun y => D.same y x) := by
  simp only [inD, ha, toP_py h x 60 (pure_sok x sx) qx, toPs_py h xs 60 (pures_soks xs sl) (by omega), shaped_py sx qx, shaped_pys sl ql, Bool.and_self, if_true, any_py x (pure_sok x sx) xs (pures_soks xs sl)]
theorem any_dd (dd : Dd) (l : List Dd) : ((l.map Dd.d).any fun y => D.same y dd.d) = decide (dd ∈ l) := by
  induction l with
  | nil => rfl
  | cons a l ih =>
    simp only [List.map_cons, List.any_cons, ih, same_dd, List.mem_cons, Bool.decide_or]
    congr 1
    rw [Bool.eq_iff_iff]
    simp [eq_comm]
/-- the number of a deed -/
def Dd.num : Dd → Option Nat
  | .load k => some k
  | .make s => some (if s then 1 else 0)
  | .call k => some k
  | .inner k => some k
  | .fin => none
theorem num_of {st : Stt} (so : st.Ok P) {dd : Dd} (h : dd ∈ P.deeds st) {k : Nat} (e : dd.num = some k) : k ≤ P.ps.length + 1 := by
  have := Pl.may_of so h
  cases dd with
  | load i => simp [Dd.num] at e; subst e; have := this.1; omega
  | make s => simp [Dd.num] at e; subst e; split <;> omega
  | call i => simp [Dd.num] at e; subst e; have : i ≤ P.ps.length := this; omega
  | inner i => simp [Dd.num] at e; subst e; have := this.1; omega
  | fin => simp [Dd.num] at e
theorem tmp_ok2 {Φ : Nat → Fn} {σ : Env} {a : E} {v : D} (hv : v.pure = true) (r : ∃ h1, den T Φ a σ { h with fl := h.o.length } = .ok v h1) : den T Φ (.tmp a) σ h = .ok v h := by
  obtain ⟨h1, r⟩ := r
  exact tmp_ok hv r
theorem is_deed_ok (A : AgW T fd) (ok : P.Ok) (k : h.ok) (hp : h.o[p]? = some P.obj) {st : Stt} (so : st.Ok P) (dd : Dd) : Phi T fd (n + 6) 30 [.ref p, st.d, dd.d] h = .ok (.bl (decide (dd ∈ P.deeds st))) h := by
  refine phi_P' A.f30 rfl ⟨rfl, by decide⟩ rfl fun h' e' ek' ef' => ⟨h', ?_⟩
  rw [← e'] at hp ef'
  have k' : h'.ok := k.of e' ek'
  have nl := plan_len (n := n + 4) (h := h') A.toAgP ok hp
  have last : den T (Phi T fd (n + 5)) (.tmp (.op2 .in_ (.var 2) (.call 29 [(.var 0), (.var 1)]))) [some (.ref p), some st.d, some dd.d] h' = .ok (.bl (decide (dd ∈ P.deeds st))) h' := by
    refine tmp_ok2 rfl ?_
    have kk : H.ok { h' with fl := h'.o.length } := k'
    have e := deeds_of_ok (n := n) (h := { h' with fl := h'.o.length }) A ok kk hp so
    have ei := inD_lst (h := H.push { h' with fl := h'.o.length } (.lst ((P.deeds st).map Dd.d))) (a := h'.o.length) (x := dd.d) (H.push_get { h' with fl := h'.o.length } _) (sok_dd dd) (by rw [depth_dd]; omega) (soks_dds _) (by have := depths_dds (P.deeds st); omega)
    rw [any_dd] at ei
    simp [e, op2, ei, retB]
  have sI1 : ∀ (w : PySem.Str) (r : List D), subD (.tup (.str w :: r)) (.int 0) h' = .ok (.str w) h' := fun w r => by
    have : ixAt (r.length + 1) 0 = some 0 := by simp [ixAt, L2.ixN]
    simp [subD, this]
  have s1 : ∀ (w : PySem.Str) (x : D), subD (.tup [.str w, x]) (.int 1) h' = .ok x h' := fun w r => rfl
  have two : ∀ (w : PySem.Str) (j : Nat), dd.d = .tup [.str w, .int j] → dd.num = some j → fin (execs T (Phi T fd (n + 5)) ir_is_deed.body [some (.ref p), some st.d, some dd.d] h') = .ok (.bl (decide (dd ∈ P.deeds st))) h' := fun w j hd hj => by
    have hn := is_number_ok (T := T) (fd := fd) (n := n + 4) (h := h') A.toAgP j 0 (P.ps.length + 1 : Nat)
    unfold ir_is_deed
    rw [execs_ite_f h' (by simp [hd, isiD, tyD, kitT, retB, notD, bltD, lenD, op2, sI1])]
    by_cases c : j ≤ P.ps.length + 1
    · rw [execs_ite_f h' (by
        have c1 : decide ((0 : Int) ≤ j) = true := by simp
        have c2 : decide ((j : Int) ≤ (P.ps.length + 1 : Nat)) = true := by simp; omega
        rw [c1, c2] at hn
        simp [hd, bltD, lenD, op2, eqD, scalar, bi, seqv, retB, s1, nl]
        simp at hn
        simp [hn, notD]), execs_ret _ h' last]
      rfl
    · have nd : dd ∉ P.deeds st := fun z => c (num_of so z hj)
      rw [execs_ite_rt h' (by
        have c1 : decide ((0 : Int) ≤ j) = true := by simp
        have c2 : decide ((j : Int) ≤ (P.ps.length + 1 : Nat)) = false := by simp; omega
        rw [c1, c2] at hn
        simp [hd, bltD, lenD, op2, eqD, scalar, bi, seqv, retB, s1, nl]
        simp at hn
        simp [hn, notD]) (.bl false) h' (by simp)]
      simp [fin, nd]
  show fin (execs T (Phi T fd (n + 5)) ir_is_deed.body [some (.ref p), some st.d, some dd.d] h') = _
  cases dd with
  | load i => exact two _ i rfl rfl
  | make s => exact two "make" (if s then 1 else 0) (by cases s <;> rfl) rfl
  | call i => exact two _ i rfl rfl
  | inner i => exact two _ i rfl rfl
  | fin =>
    unfold ir_is_deed
    rw [execs_ite_f h' (by simp [Dd.d, isiD, tyD, kitT, retB, notD, bltD, lenD, op2, sI1]), execs_ite_f h' (by simp [Dd.d, bltD, lenD, op2, eqD, scalar, bi, seqv, retB]), execs_ret _ h' last]
    rfl
end
end SC
end
end
section
set_option linter.all false
set_option maxRecDepth 100000
set_option Elab.async false
/-! M11: states stay states. -/
noncomputable section
namespace SC
theorem mem_insN (x : Nat) : ∀ (l : List Nat) (k : Nat), k ∈ insN x l ↔ k = x ∨ k ∈ l
  | [], k => by simp [insN]
  | y :: l, k => by
    rw [insN]
    split
    · simp
    · rw [List.mem_cons, mem_insN x l k, List.mem_cons]
      constructor
      · rintro (z | z | z) <;> simp [z]
      · rintro (z | z | z) <;> simp [z]
theorem mem_sortN : ∀ (l : List Nat) (k : Nat), k ∈ sortN l ↔ k ∈ l
  | [], k => Iff.rfl
  | a :: l, k => by
    show k ∈ insN a (sortN l) ↔ _
    rw [mem_insN, mem_sortN l k, List.mem_cons]
theorem up_insN {x : Nat} : ∀ {l : List Nat}, l.Pairwise (· < ·) → x ∉ l → (insN x l).Pairwise (· < ·)
  | [], _, _ => by simp [insN]
  | y :: l, u, h => by
    have u' := List.pairwise_cons.mp u
    rw [insN]
    split
    · next c =>
      have hxy : x ≠ y := fun z => h (by simp [z])
      refine List.pairwise_cons.mpr ⟨fun k hk => ?_, u⟩
      rcases List.mem_cons.mp hk with rfl | hk
      · omega
      · have := u'.1 k hk; omega
    · next c =>
      refine List.pairwise_cons.mpr ⟨fun k hk => ?_, up_insN u'.2 fun z => h (List.mem_cons_of_mem _ z)⟩
      rcases (mem_insN x l k).mp hk with rfl | hk
      · omega
      · exact u'.1 k hk
theorem up_sortN : ∀ {l : List Nat}, l.Nodup → (sortN l).Pairwise (· < ·)
  | [], _ => List.Pairwise.nil
  | a :: l, h => by
    have h' := List.nodup_cons.mp h
    exact up_insN (l := sortN l) (up_sortN h'.2) fun z => h'.1 ((mem_sortN l a).mp z)
theorem nodup_of_up {l : List Nat} (u : l.Pairwise (· < ·)) : l.Nodup := List.Pairwise.imp (fun h => by omega) u
theorem mem_ddN : ∀ (l acc : List Nat) (k : Nat), k ∈ ddN acc l ↔ k ∈ acc ∨ k ∈ l
  | [], acc, k => by simp [ddN]
  | x :: l, acc, k => by
    rw [ddN]
    split
    · next c =>
      rw [mem_ddN l acc k, List.mem_cons]
      have c' : x ∈ acc := by simpa using c
      constructor
      · rintro (z | z) <;> simp [z]
      · rintro (z | z | z)
        · simp [z]
        · subst z; simp [c']
        · simp [z]
    · rw [mem_ddN l _ k]
      simp [or_assoc]
section
variable {P : Pl} {b : Bk}
theorem Pl.at_mem (ok : P.Ok) (s : Bool) {ld : List Nat} (rg : ∀ k ∈ ld, k ≤ P.ps.length) {x : Nat} (h : x ∈ P.at s ld) : x ∈ P.bs s := by
  unfold Pl.at at h
  rw [mem_sortN, mem_ddN] at h
  rcases h with h | h
  · cases h
  · obtain ⟨k, hk, rfl⟩ := List.mem_map.mp h
    exact Pl.body_mem ok s (rg k (List.mem_filter.mp hk).1)
theorem Stt.Ok.load {st : Stt} (so : st.Ok P) {i : Nat} (hi : i ≤ P.ps.length) (hn : i ∉ st.ld) : (P.stLoad b st i).st.Ok P where
  up := by
    refine up_sortN ?_
    rw [List.nodup_append]
    exact ⟨nodup_of_up so.up, by simp, fun a ha c hc => by simp at hc; subst hc; exact fun z => hn (z ▸ ha)⟩
  rg := rg_load so.rg hi
  s0 := fun k hk => by
    simp only [Pl.stLoad] at hk
    split at hk
    · cases hk
    · exact so.s0 k hk
  s1 := fun k hk => by
    simp only [Pl.stLoad] at hk
    split at hk
    · cases hk
    · exact so.s1 k hk
  fb := fun f hf => by
    simp only [Pl.stLoad] at hf
    split at hf
    · cases e : st.fr with
      | none => rw [e] at hf; cases hf
      | some f' =>
        rw [e] at hf
        cases hf
        exact so.fb f' e
    · exact so.fb f hf
theorem Stt.Ok.step (ok : P.Ok) {st : Stt} (so : st.Ok P) {dd : Dd} (h : P.may st dd) : (P.step b st dd).st.Ok P := by
  cases dd with
  | load i => exact so.load h.1 h.2
  | make s =>
    have hm : ((P.at s st.ld).headD 0) ∈ P.bs s := by
      cases e : P.at s st.ld with
      | nil => simp [Pl.may, e] at h
      | cons x r => exact Pl.at_mem ok s so.rg (by simp [e])
    cases s
    · exact ⟨so.up, so.rg, fun k hk => by simp [Pl.step, Pl.stMake] at hk; subst hk; simpa [Pl.bs] using hm, so.s1, so.fb⟩
    · exact ⟨so.up, so.rg, so.s0, fun k hk => by simp [Pl.step, Pl.stMake] at hk; subst hk; simpa [Pl.bs] using hm, so.fb⟩
  | call i =>
    refine ⟨so.up, so.rg, so.s0, so.s1, fun f hf => ?_⟩
    simp [Pl.step, Pl.stCall] at hf
    subst hf
    show st.s0.getD (P.body false i) ∈ P.b0
    cases e : st.s0 with
    | none => exact Pl.body_mem ok false h
    | some x => exact so.s0 x e
  | inner i =>
    obtain ⟨h1, f, ef, hm⟩ := h
    refine ⟨?_, ?_, ?_, ?_, fun g hg => ?_⟩
    · simpa [Pl.step, Pl.stInner, ef] using so.up
    · simpa [Pl.step, Pl.stInner, ef] using so.rg
    · simpa [Pl.step, Pl.stInner, ef] using so.s0
    · simpa [Pl.step, Pl.stInner, ef] using so.s1
    · simp [Pl.step, Pl.stInner, ef] at hg
      subst hg
      exact so.fb f ef
  | fin => exact ⟨so.up, so.rg, so.s0, so.s1, fun f hf => by cases hf⟩
/-- the worlds behind deeds, up to the first that can't be done -/
def Pl.walk (P : Pl) (b : Bk) : Stt → List Dd → List Wd
  | _, [] => []
  | st, d :: r => if d ∈ P.deeds st then P.step b st d :: P.walk b (P.step b st d).st r else []
end
end SC
end
end
section
set_option linter.all false
set_option maxRecDepth 100000
set_option Elab.async false
/-! M12: histories, checks of books. -/
noncomputable section
namespace SC
/-- a world at q -/
structure WAt (h : H) (p : Nat) (b : Bk) (q : Nat) (w : Wd) : Prop where
  g0 : h.o[q]? = some (wobj p q b w.st.ld w.st.fr w.told)
  g1 : h.o[q + 1]? = some (.lst [oN w.st.s0, oN w.st.s1])
  g2 : h.o[q + 2]? = some (mkD w.ms)
inductive WAts (h : H) (p : Nat) (b : Bk) : List Nat → List Wd → Prop
  | nil : WAts h p b [] []
  | cons {q : Nat} {w : Wd} {qs : List Nat} {ws : List Wd} : WAt h p b q w → WAts h p b qs ws → WAts h p b (q :: qs) (w :: ws)
/-- a history: a list or tuple of deeds -/
def Hist (h : H) (v : D) (ds : List Dd) : Prop := v = .tup (ds.map Dd.d) ∨ ∃ r, v = .ref r ∧ h.o[r]? = some (.lst (ds.map Dd.d))
section
variable {T : Tab} {fd : Nat → Option Fd} {n : Nat} {h h' : H} {P : Pl} {p q : Nat} {b : Bk}
theorem WAt.mono {w : Wd} (x : WAt h p b q w) (e : ∀ (i : Nat) (o : AO), q ≤ i → h.o[i]? = some o → h'.o[i]? = some o) : WAt h' p b q w := ⟨e _ _ (by omega) x.g0, e _ _ (by omega) x.g1, e _ _ (by omega) x.g2⟩
theorem WAts.mono {qs : List Nat} {ws : List Wd} {lo : Nat} (x : WAts h p b qs ws) (hl : ∀ q ∈ qs, lo ≤ q) (e : ∀ (i : Nat) (o : AO), lo ≤ i → h.o[i]? = some o → h'.o[i]? = some o) : WAts h' p b qs ws := by
  induction x with
  | nil => exact .nil
  | @cons q w qs ws a _ ih => exact .cons (a.mono fun i o hi => e i o (Nat.le_trans (hl q (List.mem_cons_self ..)) hi)) (ih fun q hq => hl q (List.mem_cons_of_mem _ hq))
theorem WAts.len {qs : List Nat} {ws : List Wd} (x : WAts h p b qs ws) : qs.length = ws.length := by
  induction x with
  | nil => rfl
  | cons a _ ih => simp [ih]
theorem WAts.append {qs qs' : List Nat} {ws ws' : List Wd} (x : WAts h p b qs ws) (y : WAts h p b qs' ws') : WAts h p b (qs ++ qs') (ws ++ ws') := by
  induction x with
  | nil => exact y
  | cons a _ ih => exact .cons a ih
theorem state_now_at (A : AgW T fd) {w : Wd} (x : WAt h p b q w) : Phi T fd (n + 1) 22 [.ref q] h = .ok w.st.d h := by
  refine phi_P' A.f22 rfl ⟨rfl, by decide⟩ (pure_st _) fun h' e' _ _ => ?_
  refine ⟨h', ?_⟩
  have g0 := x.g0
  have g1 := x.g1
  rw [← e'] at g0 g1
  show fin (execs T (Phi T fd n) ir_World_state_now.body [some (.ref q)] h') = _
  simp [ir_World_state_now, fldD, g0, wobj, getF, bltD, itemsD, g1, newT, sizeCap, fin, Stt.d]
theorem wmeth_at {w : Wd} {m : Nat} (x : WAt h p b q w) (hm : 12 ≤ m) : methD T m (.ref q) h = T.meth 1 m := by
  simp only [methD, x.g0, wobj, getF]
  simp [show ¬ 5 = m by omega, show ¬ 6 = m by omega, show ¬ 7 = m by omega, show ¬ 8 = m by omega, show ¬ 9 = m by omega, show ¬ 10 = m by omega, show ¬ 11 = m by omega]
def walkB : List S := [.ite (.not_ (.call 30 [(.var 0), (.var 4), (.var 3)])) [.ret (.var 5)] [], .expr (.bm .append (.var 5) [(.call 31 [(.var 0), (.var 1), (.var 4), (.var 3)])]), .asg (.n 4) (.meth 20 (.sub (.var 5) (.neg (.cI 1))) [])]
theorem hx_wat {l g : List AO} {w : Wd} : WAt (hx h (l ++ (w3 p (h.o.length + l.length) b w ++ g))) p b (h.o.length + l.length) w := by
  have e : hx h (l ++ (w3 p (h.o.length + l.length) b w ++ g)) = hx (hx h l) (w3 p (h.o.length + l.length) b w ++ g) := by rw [hx_hx]
  rw [e]
  have hl : (hx h l).o.length = h.o.length + l.length := hx_len
  refine ⟨?_, ?_, ?_⟩
  · rw [← hl, hx_get0]; rfl
  · rw [← hl, hx_get]; rfl
  · rw [← hl, hx_get]; rfl
/-- the loop of walked, from a place in the middle; the base heap is locked -/
theorem walk_go (A : AgW T fd) (ok : P.Ok) (k : h.ok) (hf : h.fl ≤ h.o.length) (hp : h.o[p]? = some P.obj) {hv : D} :
    ∀ (ds : List Dd) (st : Stt) (qs : List Nat) (ws : List Wd) (g : List AO) (z : Option D), st.Ok P → WAts (hx h (.lst (qs.map .ref) :: g)) p b qs ws → (∀ q ∈ qs, h.o.length + 1 ≤ q) → qs.length + ds.length ≤ 1000000 →
      ∃ (o : Out) (qs' : List Nat) (g' : List AO), forGo (.n 3) (fun σ h => execs T (Phi T fd (n + 7)) walkB σ h) (ds.map Dd.d) [some (.ref p), some b.d, some hv, z, some st.d, some (.ref h.o.length)] (hx h (.lst (qs.map .ref) :: g)) = o ∧
        (o = .rt (.ref h.o.length) (hx h (.lst (qs'.map .ref) :: g')) ∨ ∃ z st', o = .nx [some (.ref p), some b.d, some hv, z, some st', some (.ref h.o.length)] (hx h (.lst (qs'.map .ref) :: g'))) ∧ WAts (hx h (.lst (qs'.map .ref) :: g')) p b qs' (ws ++ P.walk b st ds)
  | [], st, qs, ws, g, z, so, wa, _, _ => ⟨_, qs, g, rfl, .inr ⟨z, st.d, rfl⟩, by simpa [Pl.walk] using wa⟩
  | d :: ds, st, qs, ws, g, z, so, wa, hq, hl => by
    have e1 := is_deed_ok (n := n + 1) (h := hx h (.lst (qs.map .ref) :: g)) A ok k.hx (hx_has hp) so d
    simp only [List.map_cons, forGo, tgSet, List.set_cons_succ, List.set_cons_zero]
    by_cases c : d ∈ P.deeds st
    · have hd := Pl.may_of so c
      obtain ⟨g1, e2⟩ := done_ok (n := n) (b := b) (h := hx h (.lst (qs.map .ref) :: g)) A ok k.hx (by rw [hx_len]; simp; omega) (hx_has hp) so hd
      rw [hx_len, hx_hx] at e2
      rw [decide_eq_true c] at e1
      have pr0 := fun l => hx_prot0 (l := l) k hf
      generalize eq : h.o.length + (AO.lst (qs.map .ref) :: g).length = q at *
      generalize eg : g ++ (w3 p q b (P.step b st d) ++ g1) = g2 at *
      have e2' : Phi T fd (n + 7) 31 [.ref p, b.d, st.d, d.d] (hx h (.lst (qs.map .ref) :: g)) = .ok (.ref q) (hx h (.lst (qs.map .ref) :: g2)) := by rw [e2, ← eg]; rfl
      have wq : WAt (hx h (.lst ((qs ++ [q]).map .ref) :: g2)) p b q (P.step b st d) := by
        have := hx_wat (h := h) (p := p) (b := b) (l := .lst ((qs ++ [q]).map .ref) :: g) (g := g1) (w := P.step b st d)
        have el : h.o.length + (AO.lst ((qs ++ [q]).map .ref) :: g).length = q := by rw [← eq]; simp
        rw [el] at this
        rw [← eg]
        exact this
      have e3 := state_now_at (n := n + 6) (T := T) (fd := fd) A wq
      have wm := wmeth_at (T := T) (m := 20) wq (by omega)
      have hq1 : h.o.length + 1 ≤ q := by rw [← eq]; simp
      have wa' : WAts (hx h (.lst ((qs ++ [q]).map .ref) :: g2)) p b (qs ++ [q]) (ws ++ [P.step b st d]) := by
        refine WAts.append (wa.mono hq fun i o hi e => ?_) (.cons wq .nil)
        obtain ⟨j, rfl⟩ : ∃ j, i = h.o.length + (j + 1) := ⟨i - h.o.length - 1, by omega⟩
        rw [hx_get, List.getElem?_cons_succ] at e ⊢
        rw [← eg, List.getElem?_append_left (List.getElem?_eq_some_iff.mp e).1]
        exact e
      have cap : (qs.map D.ref).length < sizeCap := by simp [sizeCap] at hl ⊢; omega
      have ex : execs T (Phi T fd (n + 7)) walkB [some (.ref p), some b.d, some hv, some d.d, some st.d, some (.ref h.o.length)] (hx h (.lst (qs.map .ref) :: g)) = .nx [some (.ref p), some b.d, some hv, some d.d, some (P.step b st d).st.d, some (.ref h.o.length)] (hx h (.lst ((qs ++ [q]).map .ref) :: g2)) := by
        unfold walkB
        rw [execs_ite_f (hx h (.lst (qs.map .ref) :: g)) (by simp [e1, notD]), execs_expr .non (hx h (.lst ((qs ++ [q]).map .ref) :: g2)) (by
          rw [den_bm]
          simp only [den_var, List.getElem?_cons_succ, List.getElem?_cons_zero, R.bind_ok, bmOk, hx_get0, if_true]
          rw [denM_cons _ _ _ _ _ _ (by intro a; simp), den_call]
          simp [e2', bmD, H.write, pr0]
          simpa using cap), execs_asgn (P.step b st d).st.d (hx h (.lst ((qs ++ [q]).map .ref) :: g2)) (by
          have ix : ixAt ((qs ++ [q]).map D.ref).length (-1) = some qs.length := by simp [ixAt, L2.ixN]; omega
          have gx : ((qs ++ [q]).map D.ref)[qs.length]? = some (.ref q) := by simp
          rw [den_meth, den_sub]
          simp only [den_var, den_neg, den_cI, List.getElem?_cons_succ, List.getElem?_cons_zero, R.bind_ok, negD, subD, hx_get0, ix, gx, wm, A.m20, denL_nil, e3])]
        simp
      obtain ⟨o, qs', g', h1, h2, h3⟩ := walk_go A ok k hf hp (hv := hv) ds (P.step b st d).st (qs ++ [q]) (ws ++ [P.step b st d]) g2 (some d.d) (so.step ok hd) wa' (fun x hx' => by
        rcases List.mem_append.mp hx' with hx' | hx'
        · exact hq x hx'
        · simp at hx'; omega) (by simp at hl ⊢; omega)
      refine ⟨o, qs', g', ?_, h2, ?_⟩
      · rw [ex]
        exact h1
      · rw [Pl.walk, if_pos c]
        simpa using h3
    · rw [decide_eq_false c] at e1
      have ex : execs T (Phi T fd (n + 7)) walkB [some (.ref p), some b.d, some hv, some d.d, some st.d, some (.ref h.o.length)] (hx h (.lst (qs.map .ref) :: g)) = .rt (.ref h.o.length) (hx h (.lst (qs.map .ref) :: g)) := by
        unfold walkB
        rw [execs_ite_rt (hx h (.lst (qs.map .ref) :: g)) (by simp [e1, notD]) (.ref h.o.length) (hx h (.lst (qs.map .ref) :: g)) (by simp)]
      refine ⟨_, qs, g, ?_, .inl rfl, ?_⟩
      · rw [ex]
      · rw [Pl.walk, if_neg c]
        simpa using wa
theorem walked_ok (A : AgW T fd) (ok : P.Ok) (s0 : P.st0.Ok P) (k : h.ok) (hf : h.fl ≤ h.o.length) (hp : h.o[p]? = some P.obj) {hv : D} {ds : List Dd} (hh : Hist h hv ds) (hl : ds.length ≤ 1000000) :
    ∃ (qs : List Nat) (g : List AO), Phi T fd (n + 8) 32 [.ref p, b.d, hv] h = .ok (.ref h.o.length) (hx h (.lst (qs.map .ref) :: g)) ∧ WAts (hx h (.lst (qs.map .ref) :: g)) p b qs (P.walk b P.st0 ds) := by
  rw [phi_raw A.f32 rfl ⟨rfl, by decide⟩]
  have e0 := start_of_ok (T := T) (fd := fd) (n := n + 6) A hp
  obtain ⟨l, hw, hlk⟩ : ∃ l, walkD .seq [hv] (hx h [.lst []]) = some (l, ds.map Dd.d) ∧ ∀ x ∈ l, x < h.o.length := by
    rcases hh with rfl | ⟨r, rfl, e⟩
    · exact ⟨[], rfl, by simp⟩
    · exact ⟨[r], by simp [walkD, itemsD, hx_old e], by simp; exact (List.getElem?_eq_some_iff.mp e).1⟩
  have kl : (h.lock l).ok := k.lock hlk
  obtain ⟨o, qs, g, h1, h2, h3⟩ := walk_go (n := n) (h := h.lock l) (b := b) (hv := hv) A ok kl hf hp ds P.st0 [] [] [] none s0 .nil (by simp) (by simpa using hl)
  have ul : ∀ g, (hx (h.lock l) g).unlock l = hx h g := fun g => by simp [hx, H.lock, H.unlock]
  refine ⟨qs, g, ?_, h3.mono (lo := 0) (fun _ _ => Nat.zero_le _) fun i o _ e => e⟩
  show fin (execs T (Phi T fd (n + 7)) ir_walked.body [some (.ref p), some b.d, some hv, none, none, none] h) = _
  unfold ir_walked
  rw [execs_asg (.tup [P.st0.d, .ref h.o.length]) (hx h [.lst []]) (by simp [e0, newL, newT, sizeCap, alloc, push_hx]) [some (.ref p), some b.d, some hv, none, some P.st0.d, some (.ref h.o.length)] (hx h [.lst []]) (by simp)]
  have ef : exec T (Phi T fd (n + 7)) (.for_ .seq (.n 3) [(.var 2)] walkB) [some (.ref p), some b.d, some hv, none, some P.st0.d, some (.ref h.o.length)] (hx h [.lst []]) = o.unlock l := by
    rw [exec_for]
    simp only [denM_cons _ _ _ _ (.var 2) _ (by intro a; simp), den_var, List.getElem?_cons_succ, List.getElem?_cons_zero, R.bind_ok, denL_nil, hw]
    congr 1
  rcases h2 with rfl | ⟨z, st', rfl⟩
  · rw [execs_rt (v := .ref h.o.length) (h' := hx h (.lst (qs.map .ref) :: g)) (by
      refine Eq.trans (by exact ef) ?_
      simp only [Out.unlock, ul]
      rfl)]
    rfl
  · rw [execs_nx (σ' := [some (.ref p), some b.d, some hv, z, some st', some (.ref h.o.length)]) (h' := hx h (.lst (qs.map .ref) :: g)) (by
      refine Eq.trans (by exact ef) ?_
      simp only [Out.unlock, ul]
      rfl)]
    simp [fin]
end
end SC
end
end
section
set_option linter.all false
set_option maxRecDepth 100000
set_option Elab.async false
/-! M13: checks; what is told of a history. -/
noncomputable section
namespace SC
structure AgC (T : Tab) (fd : Nat → Option Fd) : Prop extends AgW T fd where
  f1 : fd 1 = some ir_is_word
  f17 : fd 17 = some ir_is_note
  f18 : fd 18 = some ir_check_plan
  f19 : fd 19 = some ir_check_book
  f33 : fd 33 = some ir_check_history
  f34 : fd 34 = some ir_reach
  f35 : fd 35 = some ir_state_after
  f36 : fd 36 = some ir_deeds
  f37 : fd 37 = some ir_shown
  g2 : T.glb 2 = some (.tup [.str "none", .str "own", .str "all"])
  g3 : T.glb 3 = some (.tup [.str "later", .str "once"])
  g4 : T.glb 4 = some (.int 300)
section
variable {T : Tab} {fd : Nat → Option Fd} {n : Nat} {h h' : H} {P : Pl} {p q : Nat} {b : Bk}
theorem in_strs {w : PySem.Str} {ws : List PySem.Str} : inD (.str w) (.tup (ws.map .str)) h = some (ws.contains w) := by
  simp only [inD]
  have e1 : (ws.map D.str).all flat = true := by
    rw [List.all_eq_true]
    intro x hx
    obtain ⟨a, _, rfl⟩ := List.mem_map.mp hx
    rfl
  simp only [e1, flat, Bool.and_self, if_true, Option.some.injEq]
  induction ws with
  | nil => rfl
  | cons a l ih =>
    simp only [List.map_cons, List.any_cons, List.contains_cons]
    rw [ih (by simp only [List.map_cons, List.all_cons, Bool.and_eq_true] at e1; exact e1.2)]
    congr 1
    simp only [feq]
    rw [Bool.eq_iff_iff]
    simp only [beq_iff_eq]
    exact eq_comm
theorem is_word_ok (A : AgC T fd) (w : PySem.Str) (ws : List PySem.Str) : Phi T fd (n + 1) 1 [.str w, .tup (ws.map .str)] h = .ok (.bl (ws.contains w)) h := by
  refine phi_P' A.f1 rfl ⟨rfl, by decide⟩ rfl fun h' e' _ _ => ⟨h', ?_⟩
  have := in_strs (h := h') (w := w) (ws := ws)
  show fin (execs T (Phi T fd n) ir_is_word.body [some (.str w), some (.tup (ws.map .str))] h') = _
  simp [ir_is_word, isiD, tyD, kitT, retB, op2, this, fin]
theorem is_note_ok (A : AgC T fd) (w : Wt) (o : Bool) : Phi T fd (n + 2) 17 [noteD w o] h = .ok (.bl true) h := by
  refine phi_P' A.f17 rfl ⟨rfl, by decide⟩ rfl fun h' e' _ _ => ⟨h', ?_⟩
  have e1 := is_word_ok (n := n) (h := h') A w.s ["none", "own", "all"]
  have e2 := is_word_ok (n := n) (h := h') A (if o then "once" else "later") ["later", "once"]
  have c1 : (["none", "own", "all"] : List PySem.Str).contains w.s = true := by cases w <;> decide +kernel
  have c2 : (["later", "once"] : List PySem.Str).contains (if o then "once" else "later") = true := by cases o <;> decide +kernel
  rw [c1] at e1
  rw [c2] at e2
  have s0 : subD (noteD w o) (.int 0) h' = .ok (.str w.s) h' := rfl
  have s1 : subD (noteD w o) (.int 1) h' = .ok (.str (if o then "once" else "later")) h' := rfl
  have i1 : isiD (noteD w o) .tuple h' = some true := rfl
  have l1 : lenD (noteD w o) h' = some 2 := rfl
  show fin (execs T (Phi T fd (n + 1)) ir_is_note.body [some (noteD w o)] h') = _
  unfold ir_is_note
  rw [execs_ite_f h' (by simp [i1, retB, notD, bltD, l1, op2, eqD, scalar, bi, seqv])]
  simp at e1 e2
  simp [s0, s1, A.g2, A.g3, e1, e2, fin]
theorem check_plan_ok (A : AgC T fd) (hp : h.o[p]? = some P.obj) : Phi T fd (n + 1) 18 [.ref p] h = .ok .non h := by
  refine phi_P' A.f18 rfl ⟨rfl, by decide⟩ rfl fun h' e' _ _ => ⟨h', ?_⟩
  rw [← e'] at hp
  have i1 : isiD (.ref p) (.cls 0) h' = some true := by simp [isiD, tyD, hp, Pl.obj, kitT]
  show fin (execs T (Phi T fd n) ir_check_plan.body [some (.ref p)] h') = _
  simp [ir_check_plan, i1, retB, notD, fin]
theorem check_book_ok (A : AgC T fd) (k : h.ok) (hp : h.o[p]? = some P.obj) : Phi T fd (n + 3) 19 [.ref p, b.d] h = .ok .non h := by
  refine phi_P' A.f19 rfl ⟨rfl, by decide⟩ rfl fun h' e' ek' _ => ⟨h', ?_⟩
  rw [← e'] at hp
  have k' : h'.ok := k.of e' ek'
  have e0 := check_plan_ok (n := n + 1) (P := P) A hp
  have t : den T (Phi T fd (n + 2)) (.tmp (.blt .all (.lc .seq (.n 2) [(.var 1)] [] (.call 17 [(.var 2)])))) [some (.ref p), some b.d, none] h' = .ok (.bl true) h' := by
    refine tmp_ok2 rfl ?_
    have kk : H.ok { h' with fl := h'.o.length } := k'
    have l1 := lc_pure (T := T) (Φ := Phi T fd (n + 2)) (k := .seq) (tg := .n 2) (its := [.var 1]) (ifs := []) (elt := .call 17 [(.var 2)]) (σ := [some (.ref p), some b.d, none]) (h := { h' with fl := h'.o.length }) (h1 := { h' with fl := h'.o.length }) (as := [b.d]) (l := []) (xs := [noteD b.w0 b.o0, noteD b.w1 b.o1]) (fun _ => true) (fun _ => .bl true)
      (by simp) (by simp [walkD, Bk.d]) kk (by simp) (by simp [sizeCap]) (fun x hx' => by
        refine ⟨_, rfl, fun h'' q => ⟨by simp, fun _ => ?_⟩⟩
        simp at hx'
        rcases hx' with rfl | rfl
        · have := is_note_ok (n := n) (h := h'') A b.w0 b.o0; simp [this]
        · have := is_note_ok (n := n) (h := h'') A b.w1 b.o1; simp [this])
    rw [den_blt, l1]
    simp [bltD, listD, boolsOf, H.push]
  have i1 : isiD b.d .tuple h' = some true := rfl
  have ln : lenD b.d h' = some 2 := rfl
  show fin (execs T (Phi T fd (n + 2)) ir_check_book.body [some (.ref p), some b.d, none] h') = _
  unfold ir_check_book
  rw [execs_expr .non h' (by simp [e0]), execs_ite_f h' (by simp only [den_or, den_not, den_isi, den_var, List.getElem?_cons_succ, List.getElem?_cons_zero, R.bind_ok, i1, retB, notD, Bool.not_true, den_op2, den_blt, bltD, ln, den_cI]; simp [op2, eqD, scalar, bi, seqv, retB]; simp only [t, R.bind_ok]; rfl)]
  simp [fin]
theorem Hist.len {hv : D} {ds : List Dd} (hh : Hist h hv ds) : lenD hv h = some ds.length ∧ isiD hv .lt h = some true := by
  rcases hh with rfl | ⟨r, rfl, e⟩
  · exact ⟨by simp [lenD], rfl⟩
  · exact ⟨by simp [lenD, e], by simp [isiD, tyD, e, kitT]⟩
theorem Hist.mono {hv : D} {ds : List Dd} (hh : Hist h hv ds) (e : ∀ (i : Nat) (o : AO), h.o[i]? = some o → h'.o[i]? = some o) : Hist h' hv ds := by
  rcases hh with rfl | ⟨r, rfl, e1⟩
  · exact .inl rfl
  · exact .inr ⟨r, rfl, e _ _ e1⟩
theorem check_history_ok (A : AgC T fd) (ok : P.Ok) (s0 : P.st0.Ok P) (k : h.ok) (hf : h.fl ≤ h.o.length) (hp : h.o[p]? = some P.obj) {hv : D} {ds : List Dd} (hh : Hist h hv ds) (hl : ds.length ≤ 1000000) (hw : (P.walk b P.st0 ds).length = ds.length) :
    ∃ (qs : List Nat) (g : List AO), Phi T fd (n + 9) 33 [.ref p, b.d, hv] h = .ok (.ref h.o.length) (hx h (.lst (qs.map .ref) :: g)) ∧ WAts (hx h (.lst (qs.map .ref) :: g)) p b qs (P.walk b P.st0 ds) := by
  rw [phi_raw A.f33 rfl ⟨rfl, by decide⟩]
  have e0 := check_book_ok (n := n + 5) (b := b) (P := P) A k hp
  obtain ⟨qs, g, e1, wa⟩ := walked_ok (n := n) (b := b) A.toAgW ok s0 k hf hp hh hl
  have hl1 := hh.len
  have hl2 := (hh.mono (h' := hx h (.lst (qs.map .ref) :: g)) fun i o e => hx_old e).len
  have wl := wa.len
  have hlen : lenD (.ref h.o.length) (hx h (.lst (qs.map .ref) :: g)) = some ds.length := by simp [lenD]; omega
  refine ⟨qs, g, ?_, wa⟩
  show fin (execs T (Phi T fd (n + 8)) ir_check_history.body [some (.ref p), some b.d, some hv, none] h) = _
  unfold ir_check_history
  rw [execs_expr .non h (by simp [e0]), execs_ite_f h (by simp [hl1.2, retB, notD]), execs_asgn (.ref h.o.length) (hx h (.lst (qs.map .ref) :: g)) (by simp [e1]),
    execs_ite_f (hx h (.lst (qs.map .ref) :: g)) (by simp [bltD, hlen, hl2.1, op2])]
  simp [fin]
def Pl.after (P : Pl) (b : Bk) (ds : List Dd) : Stt := match (P.walk b P.st0 ds).getLast? with
  | some w => w.st
  | none => P.st0
theorem WAts.last {qs : List Nat} {ws : List Wd} (x : WAts h p b qs ws) {w : Wd} (e : ws.getLast? = some w) : ∃ q, qs.getLast? = some q ∧ WAt h p b q w := by
  induction x with
  | nil => cases e
  | @cons q w' qs ws a y ih =>
    cases y with
    | nil => simp at e; subst e; exact ⟨q, rfl, a⟩
    | cons a' y' =>
      rw [List.getLast?_cons_cons] at e
      obtain ⟨q', h1, h2⟩ := ih e
      exact ⟨q', by rw [List.getLast?_cons_cons]; exact h1, h2⟩
theorem sub_last {xs : List D} {x : D} {a : Nat} (ha : h.o[a]? = some (.lst xs)) (e : xs.getLast? = some x) : subD (.ref a) (.int (-1)) h = .ok x h := by
  have hne : xs ≠ [] := fun z => by subst z; cases e
  have hl : 0 < xs.length := List.length_pos_iff.mpr hne
  have ix : ixAt xs.length (-1) = some (xs.length - 1) := by simp [ixAt, L2.ixN]; omega
  have gx : xs[xs.length - 1]? = some x := by rw [← List.getLast?_eq_getElem?]; exact e
  simp only [subD, ha, ix, gx]
theorem ne_nil {σ : Env} {Φ : Nat → Fn} {a v : Nat} {xs : List D} (hv : σ[v]? = some (some (.ref a))) (ha : h.o[a]? = some (.lst xs)) :
    den T Φ (.tmp (.op2 .ne (.var v) (.lst []))) σ h = .ok (.bl (!xs.isEmpty)) h := by
  refine tmp_ok2 rfl ?_
  have ha' : (H.push { h with fl := h.o.length } (.lst [])).o[a]? = some (.lst xs) := H.push_old ha
  have hb' := H.push_get { h with fl := h.o.length } (.lst [])
  have e : eqD (H.push { h with fl := h.o.length } (.lst [])) (.ref a) (.ref h.o.length) = some xs.isEmpty := by
    cases xs with
    | nil => exact eqD_lst ha' hb' rfl rfl (by simp [D.depths]) (by simp [D.depths])
    | cons x r => exact eqD_len ha' hb' (by simp)
  simp [hv, newL, sizeCap, alloc, op2, e, retB]
theorem state_after_ok (A : AgC T fd) (ok : P.Ok) (s0 : P.st0.Ok P) (k : h.ok) (hp : h.o[p]? = some P.obj) {hv : D} {ds : List Dd} (hh : Hist h hv ds) (hl : ds.length ≤ 1000000) (hw : (P.walk b P.st0 ds).length = ds.length) :
    Phi T fd (n + 10) 35 [.ref p, b.d, hv] h = .ok (P.after b ds).d h := by
  refine phi_P' A.f35 rfl ⟨rfl, by decide⟩ (pure_st _) fun h' e' ek' ef' => ?_
  rw [← e'] at hp ef'
  have k' : h'.ok := k.of e' ek'
  have hh' : Hist h' hv ds := hh.mono fun i o e => by rw [e']; exact e
  obtain ⟨qs, g, e1, wa⟩ := check_history_ok (n := n) (b := b) A ok s0 k' (by omega) hp hh' hl hw
  let h1 := hx h' (.lst (qs.map .ref) :: g)
  have hp1 : h1.o[p]? = some P.obj := hx_has hp
  refine ⟨h1, ?_⟩
  show fin (execs T (Phi T fd (n + 9)) ir_state_after.body [some (.ref p), some b.d, some hv, none] h') = _
  unfold ir_state_after
  have en := ne_nil (T := T) (Φ := Phi T fd (n + 9)) (h := h1) (σ := [some (.ref p), some b.d, some hv, some (.ref h'.o.length)]) (a := h'.o.length) (v := 3) (xs := qs.map .ref) rfl (by simp [h1])
  rw [execs_asgn (.ref h'.o.length) h1 (by simp [e1, h1])]
  simp only [List.set_cons_succ, List.set_cons_zero]
  cases ew : (P.walk b P.st0 ds).getLast? with
  | none =>
    have : P.walk b P.st0 ds = [] := by simpa using ew
    rw [this] at wa
    cases wa
    have es := start_of_ok (T := T) (fd := fd) (n := n + 8) A.toAgW hp1
    rw [execs_ret P.st0.d h1 (by rw [den_ite, en]; simp [es])]
    simp [fin, Pl.after, ew]
  | some w =>
    obtain ⟨q, h2, h3⟩ := wa.last ew
    have hq : qs ≠ [] := fun z => by subst z; cases h2
    have e2 := state_now_at (n := n + 8) A.toAgW h3
    have wm := wmeth_at (T := T) (m := 20) h3 (by omega)
    have sl := sub_last (h := h1) (a := h'.o.length) (xs := qs.map .ref) (x := .ref q) (by simp [h1]) (by rw [List.getLast?_map, h2]; rfl)
    have en' : (!(qs.map D.ref).isEmpty) = true := by cases qs with
      | nil => exact absurd rfl hq
      | cons _ _ => rfl
    rw [en'] at en
    rw [execs_ret w.st.d h1 (by rw [den_ite, en]; simp [negD, sl, wm, A.m20, e2, h1])]
    simp [fin, Pl.after, ew]
theorem deeds_ok (A : AgC T fd) (ok : P.Ok) (s0 : P.st0.Ok P) (k : h.ok) (hp : h.o[p]? = some P.obj) {hv : D} {ds : List Dd} (hh : Hist h hv ds) (hl : ds.length ≤ 1000000) (hw : (P.walk b P.st0 ds).length = ds.length) (so : (P.after b ds).Ok P) :
    Phi T fd (n + 11) 36 [.ref p, b.d, hv] h = .ok (.ref h.o.length) (h.push (.lst ((P.deeds (P.after b ds)).map Dd.d))) := by
  refine phi_L' A.f36 rfl ⟨rfl, by decide⟩ (pures_dds _) fun h' e' ek' ef' => ?_
  rw [← e'] at hp ef'
  have k' : h'.ok := k.of e' ek'
  have hh' : Hist h' hv ds := hh.mono fun i o e => by rw [e']; exact e
  have e1 := state_after_ok (n := n) (b := b) A ok s0 k' hp hh' hl hw
  have e2 := deeds_of_ok (n := n + 5) A.toAgW ok k' hp so
  refine ⟨h'.push (.lst ((P.deeds (P.after b ds)).map Dd.d)), h'.o.length, ?_, by rw [e']; omega, H.push_get _ _⟩
  show fin (execs T (Phi T fd (n + 10)) ir_deeds.body [some (.ref p), some b.d, some hv] h') = _
  simp [ir_deeds, e1, e2, fin]
theorem Pl.walk_ok (ok : P.Ok) : ∀ (ds : List Dd) (st : Stt), st.Ok P → ∀ w ∈ P.walk b st ds, w.st.Ok P
  | [], _, _, w, h => by cases h
  | d :: ds, st, so, w, h => by
    rw [Pl.walk] at h
    split at h
    · next c =>
      have s1 := so.step (b := b) ok (Pl.may_of so c)
      rcases List.mem_cons.mp h with rfl | h
      · exact s1
      · exact Pl.walk_ok ok ds _ s1 w h
    · cases h
theorem Pl.after_ok (ok : P.Ok) (s0 : P.st0.Ok P) (ds : List Dd) : (P.after b ds).Ok P := by
  unfold Pl.after
  cases e : (P.walk b P.st0 ds).getLast? with
  | none => exact s0
  | some w => exact Pl.walk_ok ok ds _ s0 w (List.mem_of_getLast? e)
end
end SC
end
end
section
set_option linter.all false
set_option maxRecDepth 100000
set_option Elab.async false
/-! M14: comprehensions in general; readings; shown, broken_by. -/
noncomputable section
namespace SC
open PySem (PyData)
theorem lcGo_map {α : Type} {m : Nat} {tg : Tg} {ifs elt : M} {σ : Env} {h0 : H} (X : α → D) (f : α → Bool) (g : α → D) (hm : h0.o.length ≤ m) :
    ∀ (zs : List α) (h : H) (acc : List D), (∀ z ∈ zs, ∃ σ', tgSet tg (X z) σ = some σ' ∧ ∀ h', Has h0 h' → ifs σ' h' = .ok (.bl (f z)) h' ∧ (f z = true → elt σ' h' = .ok (g z) h')) →
      Has h0 h → h.o[m]? = some (.lst acc) → acc.length + zs.length ≤ sizeCap →
      lcGo m tg ifs elt σ (zs.map X) h = .ok (.ref m) (h.put m (.lst (acc ++ (zs.filter f).map g)))
  | [], h, acc, _, _, ho, _ => by
    simp only [List.map_nil, lcGo, List.filter_nil, List.map_nil, List.append_nil, H.put_same ho]
  | x :: xs, h, acc, hx, hh, ho, hc => by
    obtain ⟨σ', e1, e2⟩ := hx x (List.mem_cons_self ..)
    obtain ⟨e3, e4⟩ := e2 h hh
    simp only [List.map_cons, lcGo, e1, e3, R.bind_ok]
    have hx' : ∀ y ∈ xs, _ := fun y hy => hx y (List.mem_cons_of_mem _ hy)
    simp only [List.length_cons] at hc
    cases ef : f x with
    | false =>
      simp only [List.filter_cons, ef]
      exact lcGo_map X f g hm xs h acc hx' hh ho (by omega)
    | true =>
      simp only [e4 ef, R.bind_ok, ho, List.filter_cons, ef, if_true, List.map_cons]
      rw [if_pos (by omega), lcGo_map X f g hm xs _ _ hx' (hh.put hm _) (H.put_eq ho) (by simp; omega)]
      simp
theorem lc_map {α : Type} {T : Tab} {Φ : Nat → Fn} {k : Ik} {tg : Tg} {its ifs : List E} {elt : E} {σ : Env} {h : H} {h1 : H} {as : List D} {l : List Nat} {zs : List α} (X : α → D) (f : α → Bool) (g : α → D) (e : denL T Φ its σ h = .ok as h1) (ew : walkD k as h1 = some (l, zs.map X)) (k1 : h1.ok) (hl : ∀ x ∈ l, x < h1.o.length) (hc : zs.length ≤ sizeCap)
    (hx : ∀ z ∈ zs, ∃ σ', tgSet tg (X z) σ = some σ' ∧ ∀ h', Has h1 h' → denIfs T Φ ifs σ' h' = .ok (.bl (f z)) h' ∧ (f z = true → den T Φ elt σ' h' = .ok (g z) h')) :
    den T Φ (.lc k tg its ifs elt) σ h = .ok (.ref h1.o.length) (h1.push (.lst ((zs.filter f).map g))) := by
  rw [den_lc, e]
  simp only [R.bind_ok, ew]
  have hh : Has h1 ((h1.lock l).push (.lst [])) := by
    refine ⟨fun i o e => H.push_old (h := h1.lock l) e, H.ok.push (k1.lock hl) _⟩
  rw [lcGo_map X f g (Nat.le_refl _) zs _ [] hx hh (H.push_get (h1.lock l) _) (by simpa using hc)]
  simp only [R.bind_ok]
  congr 1
  simp [H.push, H.put, H.unlock, H.lock]
/-! ### readings: what a value says, from lists made at lo or later -/
mutual
inductive Rd (h : H) (lo : Nat) : D → PyData → Prop
  | pur {d : D} : d.sok = true → Rd h lo d d.py
  | lst {a : Nat} {vs : List D} {ps : List PyData} : lo ≤ a → h.o[a]? = some (.lst vs) → Rds h lo vs ps → Rd h lo (.ref a) (.list ps)
inductive Rds (h : H) (lo : Nat) : List D → List PyData → Prop
  | nil : Rds h lo [] []
  | cons {v : D} {p : PyData} {vs : List D} {ps : List PyData} : Rd h lo v p → Rds h lo vs ps → Rds h lo (v :: vs) (p :: ps)
end
section
variable {h h' : H} {lo lo' : Nat}
mutual
theorem Rd.mono (hl : lo' ≤ lo) (e : ∀ (i : Nat) (o : AO), lo ≤ i → h.o[i]? = some o → h'.o[i]? = some o) : ∀ (v : D) (p : PyData), Rd h lo v p → Rd h' lo' v p
  | _, _, .pur s => .pur s
  | _, _, .lst ha ho r => .lst (Nat.le_trans hl ha) (e _ _ ha ho) (Rds.mono hl e _ _ r)
theorem Rds.mono (hl : lo' ≤ lo) (e : ∀ (i : Nat) (o : AO), lo ≤ i → h.o[i]? = some o → h'.o[i]? = some o) : ∀ (v : List D) (p : List PyData), Rds h lo v p → Rds h' lo' v p
  | _, _, .nil => .nil
  | _, _, .cons x r => .cons (Rd.mono hl e _ _ x) (Rds.mono hl e _ _ r)
end
theorem Rds.append : ∀ {vs ws : List D} {ps qs : List PyData}, Rds h lo vs ps → Rds h lo ws qs → Rds h lo (vs ++ ws) (ps ++ qs)
  | _, _, _, _, .nil, y => y
  | _, _, _, _, .cons a r, y => .cons a (r.append y)
theorem Rds.len : ∀ {vs : List D} {ps : List PyData}, Rds h lo vs ps → vs.length = ps.length
  | _, _, .nil => rfl
  | _, _, .cons _ r => by simp [r.len]
theorem Rds.drop : ∀ {vs : List D} {ps : List PyData} (n : Nat), Rds h lo vs ps → Rds h lo (vs.drop n) (ps.drop n)
  | _, _, 0, r => by simpa using r
  | _, _, n + 1, .nil => by simpa using .nil
  | _, _, n + 1, .cons _ r => by simpa using r.drop n
theorem Rds.take : ∀ {vs : List D} {ps : List PyData} (n : Nat), Rds h lo vs ps → Rds h lo (vs.take n) (ps.take n)
  | _, _, 0, r => by simpa using .nil
  | _, _, n + 1, .nil => by simpa using .nil
  | _, _, n + 1, .cons a r => by simpa using .cons a (r.take n)
theorem Rds.get : ∀ {vs : List D} {ps : List PyData} {i : Nat} {p : PyData}, Rds h lo vs ps → ps[i]? = some p → ∃ v, vs[i]? = some v ∧ Rd h lo v p
  | _, _, _, _, .nil, e => by simp at e
  | _, _, 0, _, .cons a _, e => by simp at e; subst e; exact ⟨_, rfl, a⟩
  | _, _, i + 1, _, .cons _ r, e => by
    obtain ⟨v, h1, h2⟩ := r.get (i := i) (by simpa using e)
    exact ⟨v, by simpa using h1, h2⟩
theorem Rds.of : ∀ {vs : List D}, D.soks vs = true → Rds h lo vs (D.pys vs)
  | [], _ => .nil
  | v :: vs, e => by
    simp only [D.soks, Bool.and_eq_true] at e
    exact .cons (.pur e.1) (Rds.of e.2)
mutual
theorem Rd.toP : ∀ (n : Nat) (v : D) (p : PyData), Rd h lo v p → p.depth ≤ n → toP h n v = some p
  | n, _, _, .pur s, q => toP_py h _ n (pure_sok _ s) (by rw [← depth_py]; exact q)
  | 0, _, _, .lst ha ho r, q => by simp [PyData.depth] at q
  | n + 1, _, _, .lst ha ho r, q => by
    simp only [PyData.depth, Nat.add_le_add_iff_right] at q
    have e : mapO (SC.toP h n) _ = _ := Rds.toP n _ _ r q
    simp only [SC.toP, ho, e]
    rfl
theorem Rds.toP : ∀ (n : Nat) (v : List D) (p : List PyData), Rds h lo v p → PyData.depthAll p ≤ n → toPs h n v = some p
  | n, _, _, .nil, _ => by simp [toPs, mapO]
  | n, _, _, .cons x r, q => by
    simp only [PyData.depthAll] at q
    have e : mapO (SC.toP h n) _ = _ := Rds.toP n _ _ r (by omega)
    simp only [toPs, mapO, Rd.toP n _ _ x (by omega), e]
end
theorem eqvAll_len : ∀ (a b : List PyData), a.length ≠ b.length → PyData.eqvAll a b = false
  | [], [], h => absurd rfl h
  | [], _ :: _, _ => by simp [PyData.eqvAll]
  | _ :: _, [], _ => by simp [PyData.eqvAll]
  | x :: a, y :: b, h => by simp [PyData.eqvAll, eqvAll_len a b (by simpa using h)]
theorem eqD_rd {x y : D} {p q : PyData} (rx : Rd h lo x p) (ry : Rd h lo' y q) (cp : PySem.SeqAt.shaped p = true) (cq : PySem.SeqAt.shaped q = true) (dp : p.depth ≤ 60) (dq : q.depth ≤ 60) : eqD h x y = some (PyData.eqv p q) := by
  unfold eqD
  split
  · next c =>
    cases rx with
    | pur s => cases ry with
      | pur s' => rw [seqv_same c, eqv_py _ _ (pure_sok _ s) (pure_sok _ s')]
      | lst => simp [scalar] at c
    | lst => simp [scalar] at c
  · split
    · next c =>
      cases rx with
      | pur s => exfalso; revert c; have := pure_sok _ s; cases x <;> first | (simp [lenNe]; done) | (simp [D.pure] at this)
      | lst ha ho r => cases ry with
        | pur s => exfalso; revert c; have := pure_sok _ s; cases y <;> first | (simp [lenNe]; done) | (simp [D.pure] at this)
        | lst ha' ho' r' =>
          simp only [lenNe, ho, ho', bne_iff_ne] at c
          rw [PyData.eqv, eqvAll_len _ _ (by rw [← r.len, ← r'.len]; exact c)]
    · rw [rx.toP 60 _ _ dp, ry.toP 60 _ _ dq]
      simp [cp, cq]
end
/-- comprehensions whose elements make new lists -/
theorem lcGo_grow {α : Type} {tg : Tg} {ifs elt : M} {σ : Env} {h0 : H} (X : α → D) (G : α → PyData) :
    ∀ (zs : List α) (acc : List D) (ps : List PyData) (g : List AO), (∀ z ∈ zs, ∃ σ', tgSet tg (X z) σ = some σ' ∧ ∀ l, ifs σ' (hx h0 l) = .ok (.bl true) (hx h0 l) ∧ ∃ v l', elt σ' (hx h0 l) = .ok v (hx h0 (l ++ l')) ∧ Rd (hx h0 (l ++ l')) (h0.o.length + l.length) v (G z)) →
      Rds (hx h0 (.lst acc :: g)) (h0.o.length + 1) acc ps → acc.length + zs.length ≤ sizeCap →
      ∃ vs g', lcGo h0.o.length tg ifs elt σ (zs.map X) (hx h0 (.lst acc :: g)) = .ok (.ref h0.o.length) (hx h0 (.lst vs :: g')) ∧ Rds (hx h0 (.lst vs :: g')) (h0.o.length + 1) vs (ps ++ zs.map G)
  | [], acc, ps, g, _, r, _ => ⟨acc, g, by simp [lcGo], by simpa using r⟩
  | z :: zs, acc, ps, g, hz, r, hc => by
    obtain ⟨σ', e1, e2⟩ := hz z (List.mem_cons_self ..)
    obtain ⟨e3, v, l', e4, rv⟩ := e2 (.lst acc :: g)
    simp only [List.map_cons, lcGo, e1, e3, e4, R.bind_ok, hx_get0, List.cons_append, List.getElem?_cons_zero]
    simp only [List.length_cons] at hc
    rw [if_pos (by omega), hx_put0, List.set_cons_zero]
    have ag : ∀ (i : Nat) (o : AO), h0.o.length + 1 ≤ i → (hx h0 (.lst acc :: (g ++ l'))).o[i]? = some o → (hx h0 (.lst (acc ++ [v]) :: (g ++ l'))).o[i]? = some o := fun i o hi e => by
      obtain ⟨j, rfl⟩ : ∃ j, i = h0.o.length + (j + 1) := ⟨i - h0.o.length - 1, by omega⟩
      rw [hx_get, List.getElem?_cons_succ] at e ⊢
      exact e
    have ag' : ∀ (i : Nat) (o : AO), h0.o.length + 1 ≤ i → (hx h0 (.lst acc :: g)).o[i]? = some o → (hx h0 (.lst (acc ++ [v]) :: (g ++ l'))).o[i]? = some o := fun i o hi e => by
      refine ag i o hi ?_
      obtain ⟨j, rfl⟩ : ∃ j, i = h0.o.length + (j + 1) := ⟨i - h0.o.length - 1, by omega⟩
      rw [hx_get, List.getElem?_cons_succ] at e ⊢
      rw [List.getElem?_append_left (List.getElem?_eq_some_iff.mp e).1]
      exact e
    obtain ⟨vs, g', h1, h2⟩ := lcGo_grow X G zs (acc ++ [v]) (ps ++ [G z]) (g ++ l') (fun y hy => hz y (List.mem_cons_of_mem _ hy)) (Rds.append (Rds.mono (Nat.le_refl _) ag' _ _ r) (.cons (Rd.mono (lo := h0.o.length + (AO.lst acc :: g).length) (by simp) (fun i o hi e => ag i o (by simp at hi; omega) e) _ _ rv) .nil)) (by simp; omega)
    exact ⟨vs, g', h1, by simpa using h2⟩
theorem lc_grow {α : Type} {T : Tab} {Φ : Nat → Fn} {k : Ik} {tg : Tg} {its ifs : List E} {elt : E} {σ : Env} {h : H} {h1 : H} {as : List D} {l : List Nat} {zs : List α} (X : α → D) (G : α → PyData) (e : denL T Φ its σ h = .ok as h1) (ew : walkD k as h1 = some (l, zs.map X)) (hc : zs.length ≤ sizeCap)
    (hz : ∀ z ∈ zs, ∃ σ', tgSet tg (X z) σ = some σ' ∧ ∀ l1, denIfs T Φ ifs σ' (hx (h1.lock l) l1) = .ok (.bl true) (hx (h1.lock l) l1) ∧ ∃ v l', den T Φ elt σ' (hx (h1.lock l) l1) = .ok v (hx (h1.lock l) (l1 ++ l')) ∧ Rd (hx (h1.lock l) (l1 ++ l')) (h1.o.length + l1.length) v (G z)) :
    ∃ vs g, den T Φ (.lc k tg its ifs elt) σ h = .ok (.ref h1.o.length) (hx h1 (.lst vs :: g)) ∧ Rds (hx h1 (.lst vs :: g)) (h1.o.length + 1) vs (zs.map G) := by
  obtain ⟨vs, g, e1, e2⟩ := lcGo_grow (h0 := h1.lock l) (tg := tg) (ifs := fun σ h => denIfs T Φ ifs σ h) (elt := fun σ h => den T Φ elt σ h) (σ := σ) X G zs [] [] [] hz .nil (by simpa using hc)
  have e2' : Rds (hx (h1.lock l) (.lst vs :: g)) (h1.o.length + 1) vs (zs.map G) := e2
  refine ⟨vs, g, ?_, Rds.mono (h := hx (h1.lock l) (.lst vs :: g)) (h' := hx h1 (.lst vs :: g)) (Nat.le_refl _) (fun i o _ e => e) _ _ e2'⟩
  rw [den_lc, e]
  simp only [R.bind_ok, ew]
  have e1' : lcGo h1.o.length tg (fun σ h => denIfs T Φ ifs σ h) (fun σ h => den T Φ elt σ h) σ (zs.map X) ((h1.lock l).push (.lst [])) = .ok (.ref h1.o.length) (hx (h1.lock l) (.lst vs :: g)) := by rw [push_hx]; exact e1
  rw [e1']
  simp only [R.bind_ok]
  congr 1
  simp [hx, H.unlock, H.lock]
end SC
end
end
section
set_option linter.all false
set_option maxRecDepth 100000
set_option Elab.async false
/-! M15: shown, broken_by. -/
noncomputable section
namespace SC
open PySem (PyData)
def Dd.w : Dd → PySem.Str
  | .load _ => "load" | .make _ => "make" | .call _ => "call" | .inner _ => "inner" | .fin => "end"
/-- what is shown -/
def Pl.showns (P : Pl) (b : Bk) (ds : List Dd) : List D := (ds.zip (P.walk b P.st0 ds)).map fun x => .tup [.str x.1.w, x.2.told]
def Wd.marks (w : Wd) : List Mk := [Mk.right, .fresh, .thrifty].filter fun m => w.ms.contains m
def mkL (l : List Mk) : List D := l.map fun m => .str m.s
structure AgJ (T : Tab) (fd : Nat → Option Fd) : Prop extends AgC T fd where
  f38 : fd 38 = some ir_all_states
  f39 : fd 39 = some ir_check_wish
  f40 : fd 40 = some ir_Safe___init__
  f41 : fd 41 = some ir_Broken___init__
  f42 : fd 42 = some ir_judged
  f43 : fd 43 = some ir_judge
  f44 : fd 44 = some ir_is_safe
  f45 : fd 45 = some ir_soonest
  f46 : fd 46 = some ir_broken_by
  g5 : T.glb 5 = some (.tup [.str "right", .str "fresh", .str "thrifty"])
  i2 : T.init 2 = some 40
  i3 : T.init 3 = some 41
section
variable {T : Tab} {fd : Nat → Option Fd} {n : Nat} {h h' : H} {P : Pl} {p q : Nat} {b : Bk}
/-- told things are pure -/
theorem told_pure {st : Stt} {d : Dd} : (P.step b st d).told.pure = true := by
  cases d with
  | load i => simp only [Pl.step, Pl.stLoad]; split <;> split <;> rfl
  | make s => rfl
  | call i => rfl
  | inner i => simp only [Pl.step, Pl.stInner]; split <;> rfl
  | fin => rfl
theorem told_sok {st : Stt} {d : Dd} : (P.step b st d).told.sok = true := by
  cases d with
  | load i => simp only [Pl.step, Pl.stLoad]; split <;> split <;> rfl
  | make s => rfl
  | call i => rfl
  | inner i => simp only [Pl.step, Pl.stInner]; split <;> rfl
  | fin => rfl
theorem Pl.walk_told : ∀ (ds : List Dd) (st : Stt), ∀ w ∈ P.walk b st ds, w.told.sok = true
  | [], _, w, h => by cases h
  | d :: ds, st, w, h => by
    rw [Pl.walk] at h
    split at h
    · rcases List.mem_cons.mp h with rfl | h
      · exact told_sok
      · exact Pl.walk_told ds _ w h
    · cases h
theorem w_sok (d : Dd) : PySem.PyData.strOk d.w = true := by
  obtain ⟨w1, w2, w3, w4, w5⟩ := sok_words
  cases d <;> assumption
theorem zip_wats {qs : List Nat} {ws : List Wd} (wa : WAts h p b qs ws) : ∀ (ds : List Dd), ∃ zs : List (Dd × Nat × Wd), zs.map (fun z => z.1) = (ds.zip ws).map (·.1) ∧ zs.map (fun z => z.2.2) = (ds.zip ws).map (·.2) ∧ zipL (ds.map Dd.d) (qs.map .ref) = zs.map (fun z => .tup [z.1.d, .ref z.2.1]) ∧ ∀ z ∈ zs, WAt h p b z.2.1 z.2.2 := by
  induction wa with
  | nil => intro ds; exact ⟨[], by simp, by simp, by cases ds <;> simp [zipL], by simp⟩
  | @cons q w qs ws a y ih =>
    intro ds
    cases ds with
    | nil => exact ⟨[], by simp, by simp, by simp [zipL], by simp⟩
    | cons d ds =>
      obtain ⟨zs, h1, h2, h3, h4⟩ := ih ds
      refine ⟨(d, q, w) :: zs, by simp [h1], by simp [h2], ?_, fun z hz => ?_⟩
      · simp only [zipL, List.map_cons, List.zipWith_cons_cons] at h3 ⊢
        rw [h3]
      · rcases List.mem_cons.mp hz with rfl | hz
        · exact a
        · exact h4 z hz
theorem shown_ok (A : AgJ T fd) (ok : P.Ok) (s0 : P.st0.Ok P) (k : h.ok) (hp : h.o[p]? = some P.obj) {r : Nat} {ds : List Dd} (hh : h.o[r]? = some (.lst (ds.map Dd.d))) (hl : ds.length ≤ 1000000) (hw : (P.walk b P.st0 ds).length = ds.length) :
    Phi T fd (n + 10) 37 [.ref p, b.d, .ref r] h = .ok (.ref h.o.length) (h.push (.lst (P.showns b ds))) := by
  have pu : D.pures (P.showns b ds) = true := by
    unfold Pl.showns
    have := Pl.walk_told (P := P) (b := b) ds P.st0
    have gen : ∀ l : List (Dd × Wd), (∀ x ∈ l, x.2.told.sok = true) → D.pures (l.map fun x => .tup [.str x.1.w, x.2.told]) = true := by
      intro l
      induction l with
      | nil => intro _; rfl
      | cons x l ih => intro hx; simp [D.pures, D.pure, pure_sok _ (hx x (List.mem_cons_self ..)), ih fun y hy => hx y (List.mem_cons_of_mem _ hy)]
    exact gen _ fun x hx => this x.2 (List.of_mem_zip hx).2
  refine phi_L' A.f37 rfl ⟨rfl, by decide⟩ pu fun h' e' ek' ef' => ?_
  rw [← e'] at hp ef' hh
  have k' : h'.ok := k.of e' ek'
  obtain ⟨qs, g, e1, wa⟩ := check_history_ok (n := n) (b := b) A.toAgC ok s0 k' (by omega) hp (.inr ⟨r, rfl, hh⟩) hl hw
  obtain ⟨zs, z1, z2, z3, z4⟩ := zip_wats wa ds
  have kx : (hx h' (.lst (qs.map .ref) :: g)).ok := k'.hx
  have hr : r < h'.o.length := (List.getElem?_eq_some_iff.mp hh).1
  have l1 := lc_map (T := T) (Φ := Phi T fd (n + 9)) (k := .zip) (tg := .t [4, 5]) (its := [(.var 2), (.var 3)]) (ifs := []) (elt := .tup [(.sub (.var 4) (.cI 0)), (.fld (.var 5) 10)]) (σ := [some (.ref p), some b.d, some (.ref r), some (.ref h'.o.length), none, none]) (h := hx h' (.lst (qs.map .ref) :: g)) (h1 := hx h' (.lst (qs.map .ref) :: g)) (as := [.ref r, .ref h'.o.length]) (l := [r, h'.o.length]) (zs := zs) (fun z => .tup [z.1.d, .ref z.2.1]) (fun _ => true) (fun z => .tup [.str z.1.w, z.2.2.told])
    (by simp) (by simp only [walkD, itemsD, hx_old hh, hx_get0, List.getElem?_cons_zero, z3]) kx (by simp [hx_len]; omega) (by
      have := congrArg List.length z1
      simp at this
      simp [sizeCap]; omega) (fun z hz => by
      refine ⟨_, rfl, fun h'' q => ⟨by simp, fun _ => ?_⟩⟩
      have g0 := q.get _ _ (z4 z hz).g0
      have sd : ∀ h2 : H, subD z.1.d (.int 0) h2 = .ok (.str z.1.w) h2 := fun h2 => by cases z.1 <;> rfl
      simp [sd, fldD, g0, wobj, getF, newT, sizeCap])
  rw [filter_tt] at l1
  have ez : zs.map (fun z => D.tup [.str z.1.w, z.2.2.told]) = P.showns b ds := by
    unfold Pl.showns
    have gen : ∀ (zs : List (Dd × Nat × Wd)) (l : List (Dd × Wd)), zs.map (fun z => z.1) = l.map (·.1) → zs.map (fun z => z.2.2) = l.map (·.2) → zs.map (fun z => D.tup [.str z.1.w, z.2.2.told]) = l.map fun x => .tup [.str x.1.w, x.2.told] := by
      intro zs
      induction zs with
      | nil => intro l h1 h2; cases l with
        | nil => rfl
        | cons _ _ => simp at h1
      | cons z zs ih => intro l h1 h2; cases l with
        | nil => simp at h1
        | cons x l =>
          simp only [List.map_cons, List.cons.injEq] at h1 h2 ⊢
          exact ⟨by rw [h1.1, h2.1], ih l h1.2 h2.2⟩
    exact gen zs _ z1 z2
  rw [ez] at l1
  refine ⟨_, _, ?_, ?_, H.push_get (hx h' (.lst (qs.map .ref) :: g)) _⟩
  · show fin (execs T (Phi T fd (n + 9)) ir_shown.body [some (.ref p), some b.d, some (.ref r), none, none, none] h') = _
    unfold ir_shown
    rw [execs_asgn (.ref h'.o.length) (hx h' (.lst (qs.map .ref) :: g)) (by simp [e1]), execs_ret _ _ (by exact l1)]
    rfl
  · rw [hx_len, e']; omega
theorem marks_in {l : List Mk} (m : Mk) (ha : h.o[q]? = some (mkD l)) : inD (.str m.s) (.ref q) h = some (l.contains m) := by
  simp only [inD, ha, mkD, keyOf]
  congr 1
  clear ha
  induction l with
  | nil => rfl
  | cons a l ih =>
    simp only [List.map_cons, getK, List.contains_cons]
    have hinj : ((.inr a.s : L2.Key) = .inr m.s) → a = m := by
      intro z
      have z' : a.s = m.s := by simpa using z
      cases a <;> cases m <;> first | rfl | (exfalso; revert z'; decide +kernel)
    by_cases c : a = m
    · subst c; simp
    · rw [if_neg (fun z => c (hinj z))]
      have c' : (m == a) = false := by simp; exact fun z => c z.symm
      rw [c', Bool.false_or]
      exact ih
theorem mk_sok (m : Mk) : PySem.PyData.strOk m.s = true := by cases m <;> decide +kernel
theorem soks_mk : ∀ l : List Mk, D.soks (mkL l) = true
  | [] => rfl
  | m :: l => by
    have := soks_mk l
    simp only [mkL, List.map_cons, D.soks, D.sok, mk_sok, Bool.true_and] at this ⊢
    exact this
def mkPy (l : List Mk) : PyData := .list (l.map fun m => .str m.s)
theorem pys_mk : ∀ l : List Mk, D.pys (mkL l) = l.map fun m => .str m.s
  | [] => rfl
  | m :: l => by
    have := pys_mk l
    simp only [mkL, List.map_cons, D.pys, D.py] at this ⊢
    rw [this]
theorem broken_by_ok (A : AgJ T fd) (ok : P.Ok) (s0 : P.st0.Ok P) (k : h.ok) (hf : h.fl ≤ h.o.length) (hp : h.o[p]? = some P.obj) {hv : D} {ds : List Dd} (hh : Hist h hv ds) (hl : ds.length ≤ 1000000) (hw : (P.walk b P.st0 ds).length = ds.length) :
    ∃ a vs l, Phi T fd (n + 10) 46 [.ref p, b.d, hv] h = .ok (.ref (h.o.length + a)) (hx h l) ∧ l[a]? = some (.lst vs) ∧ Rds (hx h l) (h.o.length + a + 1) vs ((P.walk b P.st0 ds).map fun w => mkPy w.marks) := by
  rw [phi_raw A.f46 rfl ⟨rfl, by decide⟩]
  obtain ⟨qs, g, e1, wa⟩ := check_history_ok (n := n) (b := b) A.toAgC ok s0 k hf hp hh hl hw
  obtain ⟨zs, z1, z2, z3⟩ : ∃ zs : List (Nat × Wd), zs.map (·.1) = qs ∧ zs.map (·.2) = P.walk b P.st0 ds ∧ ∀ z ∈ zs, WAt (hx h (.lst (qs.map .ref) :: g)) p b z.1 z.2 := by
    have gen : ∀ {h : H} {qs : List Nat} {ws : List Wd}, WAts h p b qs ws → ∃ zs : List (Nat × Wd), zs.map (·.1) = qs ∧ zs.map (·.2) = ws ∧ ∀ z ∈ zs, WAt h p b z.1 z.2 := by
      intro h qs ws wa
      induction wa with
      | nil => exact ⟨[], rfl, rfl, by simp⟩
      | @cons q w qs ws a y ih =>
        obtain ⟨zs, h1, h2, h3⟩ := ih
        refine ⟨(q, w) :: zs, by simp [h1], by simp [h2], fun z hz => ?_⟩
        rcases List.mem_cons.mp hz with rfl | hz
        · exact a
        · exact h3 z hz
    exact gen wa
  generalize eh1 : hx h (.lst (qs.map .ref) :: g) = h1 at *
  have k1 : h1.ok := by rw [← eh1]; exact k.hx
  have hlen : h.o.length < h1.o.length := by rw [← eh1, hx_len]; simp
  have g0 : h1.o[h.o.length]? = some (.lst (qs.map .ref)) := by rw [← eh1]; simp
  obtain ⟨vs, g2, e2, r2⟩ := lc_grow (T := T) (Φ := Phi T fd (n + 9)) (k := .seq) (tg := .n 4) (its := [(.var 3)]) (ifs := []) (elt := .lc .seq (.n 5) [(.glb 5)] [(.op2 .in_ (.var 5) (.fld (.var 4) 11))] (.var 5)) (σ := [some (.ref p), some b.d, some hv, some (.ref h.o.length), none, none]) (h := h1) (h1 := h1) (as := [.ref h.o.length]) (l := [h.o.length]) (zs := zs) (fun z => .ref z.1) (fun z => mkPy z.2.marks)
    (by simp) (by
      simp only [walkD, itemsD, g0]
      rw [← z1, List.map_map]; rfl) (by
      have := congrArg List.length z2
      simp at this
      simp [sizeCap]; omega) (fun z hz => by
      refine ⟨_, rfl, fun l1 => ⟨by simp, ?_⟩⟩
      have kl : (h1.lock [h.o.length]).ok := k1.lock (by simp; exact hlen)
      have wz := z3 z hz
      have l2 := lc_map (T := T) (Φ := Phi T fd (n + 9)) (k := .seq) (tg := .n 5) (its := [(.glb 5)]) (ifs := [(.op2 .in_ (.var 5) (.fld (.var 4) 11))]) (elt := .var 5) (σ := [some (.ref p), some b.d, some hv, some (.ref h.o.length), some (.ref z.1), none]) (h := hx (h1.lock [h.o.length]) l1) (h1 := hx (h1.lock [h.o.length]) l1) (as := [.tup [.str "right", .str "fresh", .str "thrifty"]]) (l := []) (zs := [Mk.right, .fresh, .thrifty]) (fun m => .str m.s) (fun m => z.2.ms.contains m) (fun m => .str m.s)
        (by simp [A.g5]) (by simp [walkD, Mk.s]) kl.hx (by simp) (by simp [sizeCap]) (fun m _ => by
          refine ⟨_, rfl, fun h'' q => ?_⟩
          have q0 := q.get _ _ (hx_old (h := h1.lock [h.o.length]) wz.g0)
          have q2 := q.get _ _ (hx_old (h := h1.lock [h.o.length]) wz.g2)
          have mi := marks_in m q2
          constructor
          · show denIfs T (Phi T fd (n + 9)) [(.op2 .in_ (.var 5) (.fld (.var 4) 11))] [some (.ref p), some b.d, some hv, some (.ref h.o.length), some (.ref z.1), some (.str m.s)] h'' = .ok (.bl (z.2.ms.contains m)) h''
            generalize z.2.ms.contains m = c at mi ⊢
            simp [fldD, q0, wobj, getF, op2, mi, retB]
            cases c <;> rfl
          · intro _; simp)
      rw [hx_len, hx_push] at l2
      refine ⟨.ref ((h1.lock [h.o.length]).o.length + l1.length), [.lst (mkL z.2.marks)], by exact l2, ?_⟩
      · 
        have : mkPy z.2.marks = .list (D.pys (mkL z.2.marks)) := by rw [pys_mk]; rfl
        rw [this]
        refine .lst (Nat.le_refl _) ?_ (Rds.of (soks_mk _))
        show (hx (h1.lock [h.o.length]) (l1 ++ [.lst (mkL z.2.marks)])).o[(h1.lock [h.o.length]).o.length + l1.length]? = _
        rw [hx_get]
        simp)
  have hx2 : hx h1 (.lst vs :: g2) = hx h ((.lst (qs.map .ref) :: g) ++ (.lst vs :: g2)) := by rw [← eh1, hx_hx]
  have hl1 : h1.o.length = h.o.length + (AO.lst (qs.map .ref) :: g).length := by rw [← eh1, hx_len]
  refine ⟨(AO.lst (qs.map .ref) :: g).length, vs, (.lst (qs.map .ref) :: g) ++ (.lst vs :: g2), ?_, by rw [List.getElem?_append_right (Nat.le_refl _), Nat.sub_self]; rfl, ?_⟩
  · rw [← hx2, ← hl1]
    show fin (execs T (Phi T fd (n + 9)) ir_broken_by.body [some (.ref p), some b.d, some hv, none, none, none] h) = _
    unfold ir_broken_by
    rw [execs_asgn (.ref h.o.length) h1 (by simp [e1]), execs_ret _ _ (by exact e2)]
    rfl
  · rw [← hx2, ← hl1]
    have : zs.map (fun z => mkPy z.2.marks) = (P.walk b P.st0 ds).map fun w => mkPy w.marks := by rw [← z2, List.map_map]; rfl
    rw [← this]
    exact r2
end
end SC
end
end
section
set_option linter.all false
set_option maxRecDepth 100000
set_option Elab.async false
/-! M16: all states that come about. -/
noncomputable section
namespace SC
abbrev Fnd := List (Stt × List Dd)
def fget : Fnd → Stt → Option (List Dd)
  | [], _ => none
  | (s, hh) :: r, st => if s = st then some hh else fget r st
def FD (F : Fnd) : List (D × D) := F.map fun x => (x.1.d, .tup (x.2.map Dd.d))
theorem getT_FD (st : Stt) : ∀ F : Fnd, getT st.d (FD F) = (fget F st).map fun hh => .tup (hh.map Dd.d)
  | [] => rfl
  | (s, hh) :: r => by
    have ih := getT_FD st r
    simp only [FD, List.map_cons, getT, fget, same_st] at ih ⊢
    by_cases c : s = st
    · simp [c]
    · simp only [c, decide_false, if_false, Bool.false_eq_true]
      exact ih
theorem putT_FD (st : Stt) (v : D) : ∀ F : Fnd, fget F st = none → putT st.d v (FD F) = FD F ++ [(st.d, v)]
  | [], _ => rfl
  | (s, hh) :: r, e => by
    simp only [fget] at e
    by_cases c : s = st
    · simp [c] at e
    · rw [if_neg c] at e
      have ih := putT_FD st v r e
      simp only [FD, List.map_cons, putT, same_st] at ih ⊢
      simp only [c, decide_false, if_false, Bool.false_eq_true, List.cons_append]
      rw [ih]
theorem fget_append (st : Stt) {F : Fnd} {hs : List Dd} (G : Fnd) : fget F st = some hs → fget (F ++ G) st = some hs := by
  induction F with
  | nil => intro e; cases e
  | cons x r ih =>
    obtain ⟨s, hh⟩ := x
    intro e
    simp only [List.cons_append, fget] at e ⊢
    split
    · next c => rw [if_pos c] at e; exact e
    · next c => rw [if_neg c] at e; exact ih e
theorem fget_new (st : Stt) (hs : List Dd) (F : Fnd) : fget F st = none → fget (F ++ [(st, hs)]) st = some hs := by
  induction F with
  | nil => intro _; simp [fget]
  | cons x r ih =>
    obtain ⟨s, hh⟩ := x
    intro e
    simp only [List.cons_append, fget] at e ⊢
    split
    · next c => rw [if_pos c] at e; cases e
    · next c => rw [if_neg c] at e; exact ih e
theorem fget_mem {st : Stt} {hs : List Dd} {F : Fnd} : fget F st = some hs → (st, hs) ∈ F := by
  induction F with
  | nil => intro e; cases e
  | cons x r ih =>
    obtain ⟨s, hh⟩ := x
    intro e
    simp only [fget] at e
    split at e
    · next c => cases e; subst c; exact List.mem_cons_self ..
    · exact List.mem_cons_of_mem _ (ih e)
def Pl.rIn (P : Pl) (b : Bk) (st : Stt) (hs : List Dd) : List Dd → Fnd → List Stt → Option (Fnd × List Stt)
  | [], F, L => some (F, L)
  | d :: ds, F, L => match fget F (P.step b st d).st with
    | some _ => P.rIn b st hs ds F L
    | none => if F.length = 300 then none else P.rIn b st hs ds (F ++ [((P.step b st d).st, hs ++ [d])]) (L ++ [(P.step b st d).st])
def Pl.rGo (P : Pl) (b : Bk) : Nat → Fnd → List Stt → Option Fnd
  | 0, _, _ => none
  | _ + 1, F, [] => some F
  | f + 1, F, st :: L => match fget F st with
    | none => none
    | some hs => (match P.rIn b st hs (P.deeds st) F L with
      | none => none
      | some (F', L') => P.rGo b f F' L')
def Pl.reach (P : Pl) (b : Bk) : Option Fnd := P.rGo b 1000 [(P.st0, [])] [P.st0]
/-- what holds of what was found, and of the line -/
structure FOk (P : Pl) (F : Fnd) (L : List Stt) : Prop where
  ok : ∀ x ∈ F, x.1.Ok P
  hl : ∀ x ∈ F, x.2.length < F.length
  cap : F.length ≤ 300
  ln : ∀ s ∈ L, (fget F s).isSome
  ll : L.length ≤ F.length
section
variable {T : Tab} {fd : Nat → Option Fd} {n : Nat} {h h' : H} {P : Pl} {p q : Nat} {b : Bk}
theorem FOk.add {F : Fnd} {L : List Stt} {st : Stt} {hs : List Dd} {d : Dd} (fo : FOk P F L) (so : st.Ok P) (hc : F.length ≠ 300) (hn : fget F st = none) (hhs : hs.length < F.length) : FOk P (F ++ [(st, hs ++ [d])]) (L ++ [st]) where
  ok := fun x hx => by
    rcases List.mem_append.mp hx with hx | hx
    · exact fo.ok x hx
    · simp at hx; subst hx; exact so
  hl := fun x hx => by
    rcases List.mem_append.mp hx with hx | hx
    · have := fo.hl x hx; simp; omega
    · simp at hx; subst hx; simp; omega
  cap := by have := fo.cap; simp; omega
  ln := fun s hs' => by
    rcases List.mem_append.mp hs' with hs' | hs'
    · have := fo.ln s hs'
      cases e : fget F s with
      | none => rw [e] at this; cases this
      | some y => rw [fget_append _ _ e]; rfl
    · simp at hs'; subst hs'; rw [fget_new _ _ _ hn]; rfl
  ll := by have := fo.ll; simp; omega
theorem hx_prot_lock {l : List AO} {a : Nat} (k : h.ok) (hf : h.fl ≤ h.o.length) (i : Nat) (ha : a ≠ h.o.length + i) : (hx (h.lock [a]) l).prot (h.o.length + i) = false := by
  have h0 := hx_prot (l := l) k hf i
  unfold H.prot at h0 ⊢
  simp only [hx_fl, hx_lk, H.lock] at h0 ⊢
  rw [Bool.or_eq_false_iff] at h0 ⊢
  refine ⟨h0.1, ?_⟩
  rw [List.singleton_append, List.contains_cons, h0.2, Bool.or_false]
  simp
  exact fun z => ha z.symm
theorem late_ok (A : AgW T fd) (ok : P.Ok) (k : h.ok) (hp : h.o[p]? = some P.obj) {st : Stt} (so : st.Ok P) {d : Dd} (hd : P.may st d) {σ : Env} {i4 i5 : Nat} (h0 : σ[0]? = some (some (.ref p))) (h1 : σ[1]? = some (some b.d)) (h4 : σ[i4]? = some (some st.d)) (h5 : σ[i5]? = some (some d.d)) :
    den T (Phi T fd (n + 7)) (.tmp (.meth 20 (.call 31 [(.var 0), (.var 1), (.var i4), (.var i5)]) [])) σ h = .ok (P.step b st d).st.d h := by
  refine tmp_ok2 (pure_st _) ?_
  have kk : H.ok { h with fl := h.o.length } := k
  obtain ⟨g, e⟩ := done_ok (n := n) (b := b) (h := { h with fl := h.o.length }) A ok kk (Nat.le_refl _) hp so hd
  have e2 := state_now_ok (T := T) (fd := fd) (n := n + 6) (h := { h with fl := h.o.length }) (p := p) (b := b) (w := P.step b st d) (l := w3 p h.o.length b (P.step b st d) ++ g) A ⟨g, rfl⟩
  have ew := wmeth (T := T) (h := { h with fl := h.o.length }) (p := p) (b := b) (l := [.lst [oN (P.step b st d).st.s0, oN (P.step b st d).st.s1], mkD (P.step b st d).ms] ++ g) (ld := (P.step b st d).st.ld) (fr := (P.step b st d).st.fr) (told := (P.step b st d).told) (m := 20) (by omega)
  rw [den_meth, den_call]
  simp [h0, h1, h4, h5]
  rw [e]
  simp only [R.bind_ok]
  simp only [w3, List.cons_append, List.nil_append] at ew e2 ⊢
  rw [ew]
  simp only [A.m20, denL_nil, R.bind_ok, e2]
  exact ⟨_, rfl⟩
def reachB : List S := [.asg (.n 6) (.tmp (.meth 20 (.call 31 [(.var 0), (.var 1), (.var 4), (.var 5)]) [])), .ite (.op2 .nin (.var 6) (.var 2)) [.ite (.op2 .eq (.blt .len (.var 2)) (.glb 4)) [.raise_] [], .asg (.s (.var 2) (.var 6)) (.tup [(.star (.sub (.var 2) (.var 4))), (.var 5)]), .expr (.bm .append (.var 3) [(.var 6)])] []]
theorem reach_in (A : AgC T fd) (ok : P.Ok) (k : h.ok) (hf : h.fl ≤ h.o.length) (hp : h.o[p]? = some P.obj) {st : Stt} (so : st.Ok P) {hs : List Dd} {g : List AO} {a : Nat} (ha1 : a < h.o.length + (g.length + 2)) (ha2 : h.o.length + 1 < a) :
    ∀ (ds : List Dd) (F F' : Fnd) (L L' : List Stt) (z1 z2 : Option D), (∀ d ∈ ds, P.may st d) → FOk P F L → fget F st = some hs → P.rIn b st hs ds F L = some (F', L') →
      ∃ z1' z2', forGo (.n 5) (fun σ h => execs T (Phi T fd (n + 7)) reachB σ h) (ds.map Dd.d) [some (.ref p), some b.d, some (.ref h.o.length), some (.ref (h.o.length + 1)), some st.d, z1, z2] (hx (h.lock [a]) (.dT (FD F) :: .lst (L.map Stt.d) :: g)) =
        .nx [some (.ref p), some b.d, some (.ref h.o.length), some (.ref (h.o.length + 1)), some st.d, z1', z2'] (hx (h.lock [a]) (.dT (FD F') :: .lst (L'.map Stt.d) :: g)) ∧ FOk P F' L' ∧ (∀ s y, fget F s = some y → fget F' s = some y)
  | [], F, F', L, L', z1, z2, _, fo, _, e => by
    simp only [Pl.rIn, Option.some.injEq, Prod.mk.injEq] at e
    obtain ⟨rfl, rfl⟩ := e
    exact ⟨z1, z2, by simp [forGo], fo, fun _ _ e => e⟩
  | d :: ds, F, F', L, L', z1, z2, hm, fo, hs0, e => by
    have hd := hm d (List.mem_cons_self ..)
    let HB := hx (h.lock [a]) (.dT (FD F) :: .lst (L.map Stt.d) :: g)
    have kb : HB.ok := fun x hx' => by
      have : x ∈ a :: h.lk := hx'
      show x < (hx (h.lock [a]) (.dT (FD F) :: .lst (L.map Stt.d) :: g)).o.length
      rw [hx_len]
      show x < h.o.length + _
      rcases List.mem_cons.mp this with rfl | z
      · simp; omega
      · have := k x z; omega
    have hpb : HB.o[p]? = some P.obj := hx_old (h := h.lock [a]) hp
    have l1 := late_ok (n := n) (b := b) (σ := [some (.ref p), some b.d, some (.ref h.o.length), some (.ref (h.o.length + 1)), some st.d, some d.d, z2]) (i4 := 4) (i5 := 5) A.toAgW ok kb hpb so hd rfl rfl rfl rfl
    have s' := so.step (b := b) ok hd
    rw [Pl.rIn] at e
    have gd : ∀ (F : Fnd) (l : List AO), (hx (h.lock [a]) (.dT (FD F) :: l)).o[h.o.length]? = some (.dT (FD F)) := fun F l => by
      exact hx_get0 (h := h.lock [a]) (l := .dT (FD F) :: l)
    have gl : ∀ (x : AO) (L : List Stt) (l : List AO), (hx (h.lock [a]) (x :: .lst (L.map Stt.d) :: l)).o[h.o.length + 1]? = some (.lst (L.map Stt.d)) := fun x L l => by
      exact hx_get (h := h.lock [a]) (l := x :: .lst (L.map Stt.d) :: l) 1
    cases ef : fget F (P.step b st d).st with
    | some y =>
      rw [ef] at e
      obtain ⟨w1, w2, h1, h2, h3⟩ := reach_in A ok k hf hp so ha1 ha2 ds F F' L L' (some d.d) (some (P.step b st d).st.d) (fun d hd => hm d (List.mem_cons_of_mem _ hd)) fo hs0 e
      refine ⟨w1, w2, ?_, h2, h3⟩
      simp only [List.map_cons, forGo, tgSet, List.set_cons_succ, List.set_cons_zero]
      have ex : execs T (Phi T fd (n + 7)) reachB [some (.ref p), some b.d, some (.ref h.o.length), some (.ref (h.o.length + 1)), some st.d, some d.d, z2] HB = .nx [some (.ref p), some b.d, some (.ref h.o.length), some (.ref (h.o.length + 1)), some st.d, some d.d, some (P.step b st d).st.d] HB := by
        unfold reachB
        have ni : inD (P.step b st d).st.d (.ref h.o.length) HB = some true := by
          simp [inD, HB, gd, keyT_st, getT_FD, ef]
        rw [execs_asgn _ _ l1, execs_ite_f HB (by simp [op2, ni, retB])]
        simp
      rw [show execs T (Phi T fd (n + 7)) reachB [some (.ref p), some b.d, some (.ref h.o.length), some (.ref (h.o.length + 1)), some st.d, some d.d, z2] (hx (h.lock [a]) (.dT (FD F) :: .lst (L.map Stt.d) :: g)) = _ from ex]
      exact h1
    | none =>
      rw [ef] at e
      simp only at e
      split at e
      · cases e
      · next c =>
        have hhs : hs.length < F.length := fo.hl _ (fget_mem hs0)
        have fo' := fo.add (d := d) (hs := hs) s' c ef hhs
        obtain ⟨w1, w2, h1, h2, h3⟩ := reach_in A ok k hf hp so ha1 ha2 ds _ F' _ L' (some d.d) (some (P.step b st d).st.d) (fun d hd => hm d (List.mem_cons_of_mem _ hd)) fo' (fget_append _ _ hs0) e
        refine ⟨w1, w2, ?_, h2, fun s y e => h3 s y (fget_append _ _ e)⟩
        simp only [List.map_cons, forGo, tgSet, List.set_cons_succ, List.set_cons_zero]
        let H1 := hx (h.lock [a]) (.dT (FD (F ++ [((P.step b st d).st, hs ++ [d])])) :: .lst (L.map Stt.d) :: g)
        have cap := fo.cap
        have capL := fo.ll
        have ex : execs T (Phi T fd (n + 7)) reachB [some (.ref p), some b.d, some (.ref h.o.length), some (.ref (h.o.length + 1)), some st.d, some d.d, z2] HB = .nx [some (.ref p), some b.d, some (.ref h.o.length), some (.ref (h.o.length + 1)), some st.d, some d.d, some (P.step b st d).st.d] (hx (h.lock [a]) (.dT (FD (F ++ [((P.step b st d).st, hs ++ [d])])) :: .lst ((L ++ [(P.step b st d).st]).map Stt.d) :: g)) := by
          unfold reachB
          have ni : inD (P.step b st d).st.d (.ref h.o.length) HB = some false := by
            simp [inD, HB, gd, keyT_st, getT_FD, ef]
          have fl : (FD F).length = F.length := by simp [FD]
          have ln : lenD (.ref h.o.length) HB = some F.length := by simp only [lenD, HB, gd, fl]
          have sb : subD (.ref h.o.length) st.d HB = .ok (.tup (hs.map Dd.d)) HB := by
            simp only [subD, HB, gd, keyT_st, if_true, getT_FD, hs0, Option.map_some]
          have c' : ¬ ((F.length : Int) = 300) := by omega
          have pr0 := hx_prot_lock (l := .dT (FD F) :: .lst (L.map Stt.d) :: g) (a := a) k hf 0 (by omega)
          have pr1 := hx_prot_lock (l := .dT (FD (F ++ [((P.step b st d).st, hs ++ [d])])) :: .lst (L.map Stt.d) :: g) (a := a) k hf 1 (by omega)
          have cp : FD F ++ [((P.step b st d).st.d, .tup ((hs ++ [d]).map Dd.d))] = FD (F ++ [((P.step b st d).st, hs ++ [d])]) := by simp [FD]
          have pu := putT_FD (P.step b st d).st (.tup ((hs ++ [d]).map Dd.d)) F ef
          rw [cp] at pu
          have cF : (FD F).length < sizeCap := by simp [FD, sizeCap]; omega
          have cL : (L.map Stt.d).length < sizeCap := by simp [sizeCap]; omega
          have cT : (hs.map Dd.d ++ [d.d]).length ≤ sizeCap := by simp [sizeCap]; omega
          have et : hs.map Dd.d ++ [d.d] = (hs ++ [d]).map Dd.d := by simp
          rw [execs_asgn _ _ l1, execs_ite_t HB (by simp [op2, ni, retB]) [some (.ref p), some b.d, some (.ref h.o.length), some (.ref (h.o.length + 1)), some st.d, some d.d, some (P.step b st d).st.d] (hx (h.lock [a]) (.dT (FD (F ++ [((P.step b st d).st, hs ++ [d])])) :: .lst ((L ++ [(P.step b st d).st]).map Stt.d) :: g)) (by
            simp only [List.set_cons_succ, List.set_cons_zero]
            rw [execs_ite_f HB (by simp [bltD, ln, A.g4, op2, eqD, scalar, bi, seqv, retB, c'])]
            rw [execs_asg (.tup ((hs ++ [d]).map Dd.d)) HB (by
              rw [den_tup, denL_star, den_sub]
              simp only [den_var, List.getElem?_cons_succ, List.getElem?_cons_zero, R.bind_ok, sb, itemsD]
              rw [denM_cons _ _ _ _ _ _ (by intro a; simp)]
              simp only [den_var, List.getElem?_cons_succ, List.getElem?_cons_zero, R.bind_ok, denL_nil]
              rw [newT_ok cT, et]) [some (.ref p), some b.d, some (.ref h.o.length), some (.ref (h.o.length + 1)), some st.d, some d.d, some (P.step b st d).st.d] H1 (by
              simp only [gset_s, den_var, List.getElem?_cons_succ, List.getElem?_cons_zero, subPut, HB]
              rw [show (hx (h.lock [a]) (.dT (FD F) :: .lst (L.map Stt.d) :: g)).prot h.o.length = false from pr0]
              simp only [Bool.false_eq_true, if_false, gd, keyT_st, Bool.true_and, decide_eq_true cF, if_true, pu]
              have := hx_put0 (h := h.lock [a]) (l := .dT (FD F) :: .lst (L.map Stt.d) :: g) (.dT (FD (F ++ [((P.step b st d).st, hs ++ [d])])))
              rw [List.set_cons_zero] at this
              have t2 : (h.lock [a]).o.length = h.o.length := rfl
              rw [t2] at this
              rw [this])]
            rw [execs_expr .non (hx (h.lock [a]) (.dT (FD (F ++ [((P.step b st d).st, hs ++ [d])])) :: .lst ((L ++ [(P.step b st d).st]).map Stt.d) :: g)) (by
              rw [den_bm]
              simp only [den_var, List.getElem?_cons_succ, List.getElem?_cons_zero, R.bind_ok, bmOk, H1, gl, if_true]
              rw [denM_cons _ _ _ _ _ _ (by intro a; simp)]
              simp only [den_var, List.getElem?_cons_succ, List.getElem?_cons_zero, R.bind_ok, denL_nil, bmD, gl, if_pos cL, H.write]
              rw [show (hx (h.lock [a]) (.dT (FD (F ++ [((P.step b st d).st, hs ++ [d])])) :: .lst (L.map Stt.d) :: g)).prot (h.o.length + 1) = false from pr1]
              have := hx_put (h := h.lock [a]) (l := .dT (FD (F ++ [((P.step b st d).st, hs ++ [d])])) :: .lst (L.map Stt.d) :: g) 1 (.lst (L.map Stt.d ++ [(P.step b st d).st.d]))
              have t2 : (h.lock [a]).o.length = h.o.length := rfl
              rw [t2] at this
              simp only [Bool.false_eq_true, if_false]
              rw [this]
              simp)]
            simp)]
          simp
        rw [show execs T (Phi T fd (n + 7)) reachB [some (.ref p), some b.d, some (.ref h.o.length), some (.ref (h.o.length + 1)), some st.d, some d.d, z2] (hx (h.lock [a]) (.dT (FD F) :: .lst (L.map Stt.d) :: g)) = _ from ex]
        exact h1
end
end SC
end
end
section
set_option linter.all false
set_option maxRecDepth 100000
set_option Elab.async false
/-! M17: reach, judged. -/
noncomputable section
namespace SC
def Pl.judg (P : Pl) (b : Bk) (m : Mk) : Fnd → Option (List Dd)
  | [] => none
  | (st, hs) :: F => match (P.deeds st).find? (fun d => (P.step b st d).ms.contains m) with
    | some d => some (hs ++ [d])
    | none => P.judg b m F
section
variable {T : Tab} {fd : Nat → Option Fd} {n : Nat} {h h' : H} {P : Pl} {p q : Nat} {b : Bk}
def reachL : List S := [.asg (.n 4) (.bm .pop0 (.var 3) [(.cI 0)]), .for_ .seq (.n 5) [(.call 29 [(.var 0), (.var 4)])] reachB]
theorem reach_go (A : AgC T fd) (ok : P.Ok) (k : h.ok) (hf : h.fl ≤ h.o.length) (hp : h.o[p]? = some P.obj) :
    ∀ (f N : Nat) (F F' : Fnd) (L : List Stt) (g : List AO) (z4 z5 z6 : Option D), f ≤ N → FOk P F L → P.rGo b f F L = some F' →
      ∃ g' z4' z5' z6', whileGo (den T (Phi T fd (n + 7)) (.tmp (.op2 .ne (.var 3) (.lst [])))) (fun σ h => execs T (Phi T fd (n + 7)) reachL σ h) N [some (.ref p), some b.d, some (.ref h.o.length), some (.ref (h.o.length + 1)), z4, z5, z6] (hx h (.dT (FD F) :: .lst (L.map Stt.d) :: g)) =
        .nx [some (.ref p), some b.d, some (.ref h.o.length), some (.ref (h.o.length + 1)), z4', z5', z6'] (hx h (.dT (FD F') :: g')) ∧ FOk P F' []
  | 0, _, _, _, _, _, _, _, _, _, _, e => by cases e
  | f + 1, 0, _, _, _, _, _, _, _, h0, _, _ => by omega
  | f + 1, N + 1, F, F', [], g, z4, z5, z6, h0, fo, e => by
    simp only [Pl.rGo, Option.some.injEq] at e
    subst e
    refine ⟨.lst [] :: g, z4, z5, z6, ?_, fo⟩
    have en := ne_nil (T := T) (Φ := Phi T fd (n + 7)) (h := hx h (.dT (FD F) :: .lst [] :: g)) (σ := [some (.ref p), some b.d, some (.ref h.o.length), some (.ref (h.o.length + 1)), z4, z5, z6]) (a := h.o.length + 1) (v := 3) (xs := []) rfl (by rw [hx_get]; rfl)
    exact whileGo_false en
  | f + 1, N + 1, F, F', st :: L, g, z4, z5, z6, h0, fo, e => by
    rw [Pl.rGo] at e
    cases eg : fget F st with
    | none => rw [eg] at e; cases e
    | some hs =>
      rw [eg] at e
      simp only at e
      cases er : P.rIn b st hs (P.deeds st) F L with
      | none => rw [er] at e; cases e
      | some FL =>
        obtain ⟨F1, L1⟩ := FL
        rw [er] at e
        simp only at e
        have so : st.Ok P := fo.ok _ (fget_mem eg)
        have fo1 : FOk P F L := ⟨fo.ok, fo.hl, fo.cap, fun s hs => fo.ln s (List.mem_cons_of_mem _ hs), by have := fo.ll; simp at this; omega⟩
        let a := h.o.length + (g.length + 2)
        let g1 := g ++ [.lst ((P.deeds st).map Dd.d)]
        obtain ⟨w1, w2, e1, fo2, _⟩ := reach_in (n := n) (b := b) (hs := hs) (g := g1) (a := a) A ok k hf hp so (by simp [a, g1]) (by simp [a]) (P.deeds st) F F1 L L1 z5 z6 (fun d hd => Pl.may_of so hd) fo1 eg er
        have en := ne_nil (T := T) (Φ := Phi T fd (n + 7)) (h := hx h (.dT (FD F) :: .lst ((st :: L).map Stt.d) :: g)) (σ := [some (.ref p), some b.d, some (.ref h.o.length), some (.ref (h.o.length + 1)), z4, z5, z6]) (a := h.o.length + 1) (v := 3) (xs := (st :: L).map Stt.d) rfl (by rw [hx_get]; rfl)
        have pr1 := hx_prot (l := .dT (FD F) :: .lst ((st :: L).map Stt.d) :: g) k hf 1
        have ed := deeds_of_ok (n := n + 2) (h := hx h (.dT (FD F) :: .lst (L.map Stt.d) :: g)) A.toAgW ok k.hx (hx_has hp) so
        rw [hx_len, hx_push] at ed
        have gl : (hx h (.dT (FD F) :: .lst ((st :: L).map Stt.d) :: g)).o[h.o.length + 1]? = some (.lst (st.d :: L.map Stt.d)) := by rw [hx_get]; rfl
        have bd : execs T (Phi T fd (n + 7)) reachL [some (.ref p), some b.d, some (.ref h.o.length), some (.ref (h.o.length + 1)), z4, z5, z6] (hx h (.dT (FD F) :: .lst ((st :: L).map Stt.d) :: g)) = .nx [some (.ref p), some b.d, some (.ref h.o.length), some (.ref (h.o.length + 1)), some st.d, w1, w2] (hx h (.dT (FD F1) :: .lst (L1.map Stt.d) :: g1)) := by
          unfold reachL
          rw [execs_asgn st.d (hx h (.dT (FD F) :: .lst (L.map Stt.d) :: g)) (by
            rw [den_bm]
            simp only [den_var, List.getElem?_cons_succ, List.getElem?_cons_zero, R.bind_ok, bmOk, gl, if_true]
            rw [denM_cons _ _ _ _ _ _ (by intro a; simp)]
            simp only [den_cI, R.bind_ok, denL_nil, bmD, gl, if_true, H.write, pr1, Bool.false_eq_true, if_false, hx_put]
            rfl)]
          rw [execs_nx (σ' := [some (.ref p), some b.d, some (.ref h.o.length), some (.ref (h.o.length + 1)), some st.d, w1, w2]) (h' := hx h (.dT (FD F1) :: .lst (L1.map Stt.d) :: g1)) (by
            rw [exec_for]
            rw [denM_cons _ _ _ _ _ _ (by intro a; simp), den_call]
            simp only [List.set_cons_succ, List.set_cons_zero]
            rw [show denL T (Phi T fd (n + 7)) [.var 0, .var 4] [some (.ref p), some b.d, some (.ref h.o.length), some (.ref (h.o.length + 1)), some st.d, z5, z6] (hx h (.dT (FD F) :: .lst (L.map Stt.d) :: g)) = .ok [.ref p, st.d] (hx h (.dT (FD F) :: .lst (L.map Stt.d) :: g)) by simp]
            simp only [R.bind_ok, ed, denL_nil]
            have wk : walkD .seq [.ref (h.o.length + (AO.dT (FD F) :: .lst (L.map Stt.d) :: g).length)] (hx h ((.dT (FD F) :: .lst (L.map Stt.d) :: g) ++ [.lst ((P.deeds st).map Dd.d)])) = some ([a], (P.deeds st).map Dd.d) := by
              simp only [walkD, itemsD, hx_get]
              rw [List.getElem?_append_right (Nat.le_refl _), Nat.sub_self]
              simp [a]
            simp only [wk]
            have : (hx h ((.dT (FD F) :: .lst (L.map Stt.d) :: g) ++ [.lst ((P.deeds st).map Dd.d)])).lock [a] = hx (h.lock [a]) (.dT (FD F) :: .lst (L.map Stt.d) :: g1) := rfl
            rw [this, e1]
            rfl)]
          simp
        obtain ⟨g', y4, y5, y6, e2, fo3⟩ := reach_go A ok k hf hp f N F1 F' L1 g1 (some st.d) w1 w2 (by omega) fo2 e
        refine ⟨g', y4, y5, y6, ?_, fo3⟩
        rw [whileGo_true (h1 := hx h (.dT (FD F) :: .lst ((st :: L).map Stt.d) :: g)) (by exact en) (by exact bd)]
        exact e2
theorem reach_ok (A : AgC T fd) (ok : P.Ok) (s0 : P.st0.Ok P) (k : h.ok) (hf : h.fl ≤ h.o.length) (hp : h.o[p]? = some P.obj) {F : Fnd} (e : P.reach b = some F) :
    (∃ g, Phi T fd (n + 8) 34 [.ref p, b.d] h = .ok (.ref h.o.length) (hx h (.dT (FD F) :: g))) ∧ FOk P F [] := by
  rw [phi_raw A.f34 rfl ⟨rfl, by decide⟩]
  have fo : FOk P [(P.st0, [])] [P.st0] := ⟨by simp; exact s0, by simp, by simp, by simp [fget], by simp⟩
  obtain ⟨g', z4, z5, z6, e1, fo'⟩ := reach_go (n := n) (b := b) A ok k hf hp 1000 whileFuel [(P.st0, [])] F [P.st0] [] none none none (by unfold whileFuel; omega) fo e
  refine ⟨⟨g', ?_⟩, fo'⟩
  have es := fun l => start_of_ok (T := T) (fd := fd) (n := n + 6) (h := hx h l) A.toAgW (hx_has hp)
  have lc : h.lk.contains h.o.length = false := by
    rw [Bool.eq_false_iff]
    intro z
    have := k _ (by simpa using z)
    omega
  have d1 : den T (Phi T fd (n + 7)) (.dict1 (.call 28 [(.var 0)]) (.tup [])) [some (.ref p), some b.d, none, none, none, none, none] h = .ok (.ref h.o.length) (hx h [.dT (FD [(P.st0, [])])]) := by
    rw [den_dict1, push_hx, den_call]
    rw [denM_cons _ _ _ _ _ _ (by intro a; simp)]
    simp only [den_var, List.getElem?_cons_succ, List.getElem?_cons_zero, R.bind_ok, denL_nil, es, den_tup]
    rw [newT_ok (by simp)]
    simp only [R.bind_ok, hx_get0, List.getElem?_cons_zero, keyT_st, hx_lk, lc, Bool.not_false, Bool.and_self, if_true, hx_put0, List.set_cons_zero]
    rfl
  show fin (execs T (Phi T fd (n + 7)) ir_reach.body [some (.ref p), some b.d, none, none, none, none, none] h) = _
  unfold ir_reach
  rw [execs_asg (.tup [.ref h.o.length, .ref (h.o.length + 1)]) (hx h [.dT (FD [(P.st0, [])]), .lst [P.st0.d]]) (by
    rw [den_tup, denM_cons _ _ _ _ _ _ (by intro a; simp), d1]
    simp only [R.bind_ok]
    rw [denM_cons _ _ _ _ _ _ (by intro a; simp), den_lst]
    rw [denM_cons _ _ _ _ _ _ (by intro a; simp), den_call]
    rw [denM_cons _ _ _ _ _ _ (by intro a; simp)]
    simp only [den_var, List.getElem?_cons_succ, List.getElem?_cons_zero, R.bind_ok, denL_nil, es]
    rw [newL_ok (by simp [sizeCap]), hx_len, hx_push]
    simp only [R.bind_ok]
    rw [newT_ok (by simp [sizeCap])]
    rfl) [some (.ref p), some b.d, some (.ref h.o.length), some (.ref (h.o.length + 1)), none, none, none] (hx h [.dT (FD [(P.st0, [])]), .lst [P.st0.d]]) (by simp)]
  rw [execs_nx (by rw [exec_while]; exact e1)]
  simp [fin]
end
end SC
end
end
section
set_option linter.all false
set_option maxRecDepth 100000
set_option Elab.async false
/-! M18: judged, is_safe, soonest, all_states. -/
noncomputable section
namespace SC
section
variable {T : Tab} {fd : Nat → Option Fd} {n : Nat} {h h' : H} {P : Pl} {p q : Nat} {b : Bk}
theorem mark_ok (A : AgW T fd) (ok : P.Ok) (k : h.ok) (hp : h.o[p]? = some P.obj) {st : Stt} (so : st.Ok P) {d : Dd} (hd : P.may st d) (m : Mk) {σ : Env} {i2 i4 i5 : Nat} (h0 : σ[0]? = some (some (.ref p))) (h1 : σ[1]? = some (some b.d)) (h2 : σ[i2]? = some (some (.str m.s))) (h4 : σ[i4]? = some (some st.d)) (h5 : σ[i5]? = some (some d.d)) :
    den T (Phi T fd (n + 7)) (.tmp (.op2 .in_ (.var i2) (.fld (.call 31 [(.var 0), (.var 1), (.var i4), (.var i5)]) 11))) σ h = .ok (.bl ((P.step b st d).ms.contains m)) h := by
  refine tmp_ok2 rfl ?_
  have kk : H.ok { h with fl := h.o.length } := k
  obtain ⟨g, e⟩ := done_ok (n := n) (b := b) (h := { h with fl := h.o.length }) A ok kk (Nat.le_refl _) hp so hd
  have mi := marks_in (h := hx { h with fl := h.o.length } (w3 p h.o.length b (P.step b st d) ++ g)) (q := h.o.length + 2) (l := (P.step b st d).ms) m (by
    have := hx_get (h := { h with fl := h.o.length }) (l := w3 p h.o.length b (P.step b st d) ++ g) 2
    exact this)
  have f0 : fldD (.ref h.o.length) 11 (hx { h with fl := h.o.length } (w3 p h.o.length b (P.step b st d) ++ g)) = .ok (.ref (h.o.length + 2)) (hx { h with fl := h.o.length } (w3 p h.o.length b (P.step b st d) ++ g)) := by
    have := hx_get0 (h := { h with fl := h.o.length }) (l := w3 p h.o.length b (P.step b st d) ++ g)
    simp only [fldD]
    rw [show (hx { h with fl := h.o.length } (w3 p h.o.length b (P.step b st d) ++ g)).o[h.o.length]? = _ from this]
    simp [w3, wobj, getF]
  rw [den_op2, den_var, h2]
  simp only [R.bind_ok]
  rw [den_fld, den_call]
  rw [show denL T (Phi T fd (n + 7)) [.var 0, .var 1, .var i4, .var i5] σ { h with fl := h.o.length } = .ok [.ref p, b.d, st.d, d.d] { h with fl := h.o.length } by simp [h0, h1, h4, h5]]
  simp only [R.bind_ok, e, f0, op2, mi, retB]
  exact ⟨_, rfl⟩
def judB : List S := [.ite (.tmp (.op2 .in_ (.var 2) (.fld (.call 31 [(.var 0), (.var 1), (.var 4), (.var 6)]) 11))) [.ret (.make 3 [(.tup [(.star (.var 5)), (.var 6)])])] []]
/-- one object of its own behind a heap -/
theorem broken_init (A : AgJ T fd) {v : D} {xs : List D} (hi : ∀ l, itemsD v (hx h l) = some xs) (pr : ∀ l, (hx h l).prot h.o.length = false) : makeD T (Phi T fd (n + 1)) 3 [v] h = .ok (.ref h.o.length) (hx h [.ins 3 [(13, .tup xs)]]) := by
  have e : Phi T fd (n + 1) 41 [.ref h.o.length, v] (hx h [.ins 3 []]) = .ok .non (hx h [.ins 3 [(13, .tup xs)]]) := by
    rw [phi_raw A.f41 rfl ⟨rfl, by decide⟩]
    show fin (execs T (Phi T fd n) ir_Broken___init__.body [some (.ref h.o.length), some v] (hx h [.ins 3 []])) = _
    simp [ir_Broken___init__, bltD, hi, fldPut, pr, putF, fin]
  simp only [makeD, A.i3, push_hx, e, R.bind_ok]
theorem jud_in (A : AgJ T fd) (ok : P.Ok) (k : h.ok) (hf : h.fl ≤ h.o.length) (hp : h.o[p]? = some P.obj) {st : Stt} (so : st.Ok P) (m : Mk) {hs : List Dd} (hl : hs.length ≤ 1000) {v3 : D} :
    ∀ (ds : List Dd) (z : Option D), (∀ d ∈ ds, P.may st d) →
      (∃ z', ds.find? (fun d => (P.step b st d).ms.contains m) = none ∧ forGo (.n 6) (fun σ h => execs T (Phi T fd (n + 7)) judB σ h) (ds.map Dd.d) [some (.ref p), some b.d, some (.str m.s), some v3, some st.d, some (.tup (hs.map Dd.d)), z] h = .nx [some (.ref p), some b.d, some (.str m.s), some v3, some st.d, some (.tup (hs.map Dd.d)), z'] h) ∨
      (∃ d, ds.find? (fun d => (P.step b st d).ms.contains m) = some d ∧ forGo (.n 6) (fun σ h => execs T (Phi T fd (n + 7)) judB σ h) (ds.map Dd.d) [some (.ref p), some b.d, some (.str m.s), some v3, some st.d, some (.tup (hs.map Dd.d)), z] h = .rt (.ref h.o.length) (hx h [.ins 3 [(13, .tup ((hs ++ [d]).map Dd.d))]]))
  | [], z, _ => .inl ⟨z, rfl, by simp [forGo]⟩
  | d :: ds, z, hm => by
    have hd := hm d (List.mem_cons_self ..)
    have mk := mark_ok (n := n) (b := b) A.toAgW ok k hp so hd m (σ := [some (.ref p), some b.d, some (.str m.s), some v3, some st.d, some (.tup (hs.map Dd.d)), some d.d]) (i2 := 2) (i4 := 4) (i5 := 6) rfl rfl rfl rfl rfl
    simp only [List.map_cons, forGo, tgSet, List.set_cons_succ, List.set_cons_zero, List.find?_cons]
    cases c : (P.step b st d).ms.contains m with
    | true =>
      rw [c] at mk
      have mkd := broken_init (n := n + 6) (h := h) (v := .tup ((hs ++ [d]).map Dd.d)) (xs := (hs ++ [d]).map Dd.d) A (fun _ => rfl) (fun l => hx_prot0 k hf)
      have cT : (hs.map Dd.d ++ [d.d]).length ≤ sizeCap := by simp [sizeCap]; omega
      have et : hs.map Dd.d ++ [d.d] = (hs ++ [d]).map Dd.d := by simp
      refine .inr ⟨d, rfl, ?_⟩
      unfold judB
      rw [execs_ite_rt h mk (.ref h.o.length) (hx h [.ins 3 [(13, .tup ((hs ++ [d]).map Dd.d))]]) (by
        rw [execs_ret (.ref h.o.length) _]
        rw [den_make, denM_cons _ _ _ _ _ _ (by intro a; simp), den_tup, denL_star]
        simp only [den_var, List.getElem?_cons_succ, List.getElem?_cons_zero, R.bind_ok, itemsD]
        rw [denM_cons _ _ _ _ _ _ (by intro a; simp)]
        simp only [den_var, List.getElem?_cons_succ, List.getElem?_cons_zero, R.bind_ok, denL_nil]
        rw [newT_ok cT, et]
        simp only [R.bind_ok, mkd])]
    | false =>
      rw [c] at mk
      have ex : execs T (Phi T fd (n + 7)) judB [some (.ref p), some b.d, some (.str m.s), some v3, some st.d, some (.tup (hs.map Dd.d)), some d.d] h = .nx [some (.ref p), some b.d, some (.str m.s), some v3, some st.d, some (.tup (hs.map Dd.d)), some d.d] h := by
        unfold judB
        rw [execs_ite_f h mk]
        simp
      rw [ex]
      exact jud_in A ok k hf hp so m hl ds (some d.d) fun d hd => hm d (List.mem_cons_of_mem _ hd)
def judL : List S := [.for_ .seq (.n 6) [(.call 29 [(.var 0), (.var 4)])] judB]
theorem jud_go (A : AgJ T fd) (ok : P.Ok) (k : h.ok) (hf : h.fl ≤ h.o.length) (hp : h.o[p]? = some P.obj) (m : Mk) {v3 : D} :
    ∀ (F : Fnd) (g : List AO) (z4 z5 z6 : Option D), (∀ x ∈ F, x.1.Ok P ∧ x.2.length ≤ 1000) →
      (∃ g' z4' z5' z6', P.judg b m F = none ∧ forGo (.t [4, 5]) (fun σ h => execs T (Phi T fd (n + 7)) judL σ h) (F.map fun x => .tup [x.1.d, .tup (x.2.map Dd.d)]) [some (.ref p), some b.d, some (.str m.s), some v3, z4, z5, z6] (hx h g) = .nx [some (.ref p), some b.d, some (.str m.s), some v3, z4', z5', z6'] (hx h (g ++ g'))) ∨
      (∃ hs g' a, P.judg b m F = some hs ∧ forGo (.t [4, 5]) (fun σ h => execs T (Phi T fd (n + 7)) judL σ h) (F.map fun x => .tup [x.1.d, .tup (x.2.map Dd.d)]) [some (.ref p), some b.d, some (.str m.s), some v3, z4, z5, z6] (hx h g) = .rt (.ref (h.o.length + a)) (hx h g') ∧ g'[a]? = some (.ins 3 [(13, .tup (hs.map Dd.d))]))
  | [], g, z4, z5, z6, _ => .inl ⟨[], z4, z5, z6, rfl, by simp [forGo]⟩
  | (st, hs) :: F, g, z4, z5, z6, hF => by
    obtain ⟨so, hl⟩ := hF _ (List.mem_cons_self ..)
    have hF' := fun x hx' => hF x (List.mem_cons_of_mem _ hx')
    have ed := deeds_of_ok (n := n + 2) (h := hx h g) A.toAgW ok k.hx (hx_has hp) so
    rw [hx_len, hx_push] at ed
    let a := h.o.length + g.length
    let HB := hx (h.lock [a]) (g ++ [.lst ((P.deeds st).map Dd.d)])
    have lHB : HB.o.length = h.o.length + (g.length + 1) := by
      show (hx (h.lock [a]) _).o.length = _
      rw [hx_len]
      simp [H.lock]
    have kb : HB.ok := fun x hx' => by
      have : x ∈ a :: h.lk := hx'
      rw [lHB]
      rcases List.mem_cons.mp this with rfl | z
      · simp [a]
      · have := k x z; omega
    have hpb : HB.o[p]? = some P.obj := hx_old (h := h.lock [a]) hp
    have hfb : HB.fl ≤ HB.o.length := by rw [lHB]; show h.fl ≤ _; omega
    have wk : walkD .seq [.ref (h.o.length + g.length)] (hx h (g ++ [.lst ((P.deeds st).map Dd.d)])) = some ([a], (P.deeds st).map Dd.d) := by
      simp only [walkD, itemsD, hx_get]
      rw [List.getElem?_append_right (Nat.le_refl _), Nat.sub_self]
      rfl
    have ji := jud_in (n := n) (b := b) (v3 := v3) A ok kb hfb hpb so m hl (P.deeds st) z6 (fun d hd => Pl.may_of so hd)
    have tg : tgSet (.t [4, 5]) (.tup [st.d, .tup (hs.map Dd.d)]) [some (.ref p), some b.d, some (.str m.s), some v3, z4, z5, z6] = some [some (.ref p), some b.d, some (.str m.s), some v3, some st.d, some (.tup (hs.map Dd.d)), z6] := rfl
    simp only [List.map_cons, forGo, tg]
    have e0 : exec T (Phi T fd (n + 7)) (.for_ .seq (.n 6) [(.call 29 [(.var 0), (.var 4)])] judB) [some (.ref p), some b.d, some (.str m.s), some v3, some st.d, some (.tup (hs.map Dd.d)), z6] (hx h g) = (forGo (.n 6) (fun σ h => execs T (Phi T fd (n + 7)) judB σ h) ((P.deeds st).map Dd.d) [some (.ref p), some b.d, some (.str m.s), some v3, some st.d, some (.tup (hs.map Dd.d)), z6] HB).unlock [a] := by
      rw [exec_for]
      rw [denM_cons _ _ _ _ _ _ (by intro a; simp), den_call]
      rw [show denL T (Phi T fd (n + 7)) [.var 0, .var 4] [some (.ref p), some b.d, some (.str m.s), some v3, some st.d, some (.tup (hs.map Dd.d)), z6] (hx h g) = .ok [.ref p, st.d] (hx h g) by simp]
      simp only [R.bind_ok, ed, denL_nil, wk]
      rfl
    rcases ji with ⟨z', f1, e1⟩ | ⟨d, f1, e1⟩
    · rw [e1] at e0
      have ex : execs T (Phi T fd (n + 7)) judL [some (.ref p), some b.d, some (.str m.s), some v3, some st.d, some (.tup (hs.map Dd.d)), z6] (hx h g) = .nx [some (.ref p), some b.d, some (.str m.s), some v3, some st.d, some (.tup (hs.map Dd.d)), z'] (hx h (g ++ [.lst ((P.deeds st).map Dd.d)])) := by
        unfold judL
        rw [execs_nx e0]
        simp
        rfl
      rw [ex]
      simp only [Pl.judg, f1]
      rcases jud_go A ok k hf hp m F (g ++ [.lst ((P.deeds st).map Dd.d)]) (some st.d) (some (.tup (hs.map Dd.d))) z' hF' with ⟨g', y4, y5, y6, j1, j2⟩ | ⟨hs', g', a', j1, j2, j3⟩
      · exact .inl ⟨_, y4, y5, y6, j1, by rw [j2, List.append_assoc]⟩
      · exact .inr ⟨hs', g', a', j1, j2, j3⟩
    · rw [e1] at e0
      have ul : (hx HB [.ins 3 [(13, .tup ((hs ++ [d]).map Dd.d))]]).unlock [a] = hx h (g ++ [.lst ((P.deeds st).map Dd.d)] ++ [.ins 3 [(13, .tup ((hs ++ [d]).map Dd.d))]]) := by
        simp [hx, HB, H.unlock, H.lock]
      simp only [Out.unlock, ul, lHB] at e0
      have ex : execs T (Phi T fd (n + 7)) judL [some (.ref p), some b.d, some (.str m.s), some v3, some st.d, some (.tup (hs.map Dd.d)), z6] (hx h g) = .rt (.ref (h.o.length + (g.length + 1))) (hx h (g ++ [.lst ((P.deeds st).map Dd.d)] ++ [.ins 3 [(13, .tup ((hs ++ [d]).map Dd.d))]])) := by
        unfold judL
        rw [execs_rt e0]
      rw [ex]
      simp only [Pl.judg, f1]
      refine .inr ⟨hs ++ [d], _, _, rfl, rfl, ?_⟩
      rw [List.append_assoc, List.getElem?_append_right (by omega)]
      simp
theorem keys_FD (F : Fnd) : (FD F).map (·.1) = F.map fun x => x.1.d := by simp [FD]
theorem safe_init (A : AgJ T fd) {r : Nat} {F : Fnd} (hr : h.o[r]? = some (.dT (FD F))) (pr : ∀ l, (hx h l).prot h.o.length = false) : makeD T (Phi T fd (n + 1)) 2 [.ref r] h = .ok (.ref h.o.length) (hx h [.ins 2 [(12, .ref (h.o.length + 1))], .lst (F.map fun x => x.1.d)]) := by
  have e : Phi T fd (n + 1) 40 [.ref h.o.length, .ref r] (hx h [.ins 2 []]) = .ok .non (hx h [.ins 2 [(12, .ref (h.o.length + 1))], .lst (F.map fun x => x.1.d)]) := by
    rw [phi_raw A.f40 rfl ⟨rfl, by decide⟩]
    have i0 : ∀ l, itemsD (.ref r) (hx h l) = none := fun l => by simp only [itemsD, hx_old hr]
    have k0 : ∀ l, keysD (.ref r) (hx h l) = some (F.map fun x => x.1.d) := fun l => by simp only [keysD, hx_old hr, keys_FD]
    show fin (execs T (Phi T fd n) ir_Safe___init__.body [some (.ref h.o.length), some (.ref r)] (hx h [.ins 2 []])) = _
    simp [ir_Safe___init__, bltD, i0, k0, alloc_hx, fldPut, pr, putF, fin]
  simp only [makeD, A.i2, push_hx, e, R.bind_ok]
/-- what judged gives back -/
def JRes (h : H) (a : Nat) (F : Fnd) : Option (List Dd) → Prop
  | some hs => h.o[a]? = some (.ins 3 [(13, .tup (hs.map Dd.d))])
  | none => ∃ a2, h.o[a]? = some (.ins 2 [(12, .ref a2)]) ∧ h.o[a2]? = some (.lst (F.map fun x => x.1.d)) ∧ a < a2
theorem judged_ok (A : AgJ T fd) (ok : P.Ok) (s0 : P.st0.Ok P) (k : h.ok) (hf : h.fl ≤ h.o.length) (hp : h.o[p]? = some P.obj) {F : Fnd} (e : P.reach b = some F) (m : Mk) :
    ∃ g a, Phi T fd (n + 9) 42 [.ref p, b.d, .str m.s] h = .ok (.ref (h.o.length + a)) (hx h g) ∧ JRes (hx h g) (h.o.length + a) F (P.judg b m F) := by
  rw [phi_raw A.f42 rfl ⟨rfl, by decide⟩]
  obtain ⟨⟨g0, e1⟩, fo⟩ := reach_ok (n := n) (b := b) A.toAgC ok s0 k hf hp e
  have lc : h.lk.contains h.o.length = false := by
    rw [Bool.eq_false_iff]
    intro z
    have := k _ (by simpa using z)
    omega
  let HB := (hx h (.dT (FD F) :: g0)).lock [h.o.length]
  have wk : walkD .items [.ref h.o.length] (hx h (.dT (FD F) :: g0)) = some ([h.o.length], F.map fun x => .tup [x.1.d, .tup (x.2.map Dd.d)]) := by
    simp only [walkD, hx_lk, lc, Bool.false_eq_true, if_false, hx_get0, List.getElem?_cons_zero]
    simp [FD]
  have kb : HB.ok := by
    refine H.ok.lock k.hx ?_
    intro x hx'
    simp at hx'
    subst hx'
    rw [hx_len]; simp
  have hfb : HB.fl ≤ HB.o.length := by show h.fl ≤ (hx h (.dT (FD F) :: g0)).o.length; rw [hx_len]; omega
  have hpb : HB.o[p]? = some P.obj := hx_has hp
  have hF : ∀ x ∈ F, x.1.Ok P ∧ x.2.length ≤ 1000 := fun x hx' => ⟨fo.ok x hx', by have := fo.hl x hx'; have := fo.cap; omega⟩
  have jg := jud_go (n := n + 1) (b := b) (v3 := .ref h.o.length) A ok kb hfb hpb m F [] none none none hF
  have e2 : ∀ o, forGo (.t [4, 5]) (fun σ h => execs T (Phi T fd (n + 8)) judL σ h) (F.map fun x => .tup [x.1.d, .tup (x.2.map Dd.d)]) [some (.ref p), some b.d, some (.str m.s), some (.ref h.o.length), none, none, none] HB = o → exec T (Phi T fd (n + 8)) (.for_ .items (.t [4, 5]) [(.var 3)] judL) [some (.ref p), some b.d, some (.str m.s), some (.ref h.o.length), none, none, none] (hx h (.dT (FD F) :: g0)) = o.unlock [h.o.length] := fun o e => by
    rw [exec_for]
    rw [denM_cons _ _ _ _ _ _ (by intro a; simp)]
    simp only [den_var, List.getElem?_cons_succ, List.getElem?_cons_zero, R.bind_ok, denL_nil, wk]
    rw [← e]
  have ul : ∀ g, (hx HB g).unlock [h.o.length] = hx h ((.dT (FD F) :: g0) ++ g) := fun g => by simp [hx, HB, H.unlock, H.lock]
  have lHB : HB.o.length = h.o.length + (g0.length + 1) := by show (hx h (.dT (FD F) :: g0)).o.length = _; rw [hx_len]; simp
  rw [hx_nil] at jg
  have st1 : ∀ r, fin (execs T (Phi T fd (n + 8)) [.for_ .items (.t [4, 5]) [(.var 3)] judL, .ret (.make 2 [(.var 3)])] [some (.ref p), some b.d, some (.str m.s), some (.ref h.o.length), none, none, none] (hx h (.dT (FD F) :: g0))) = r → fin (execs T (Phi T fd (n + 8)) ir_judged.body [some (.ref p), some b.d, some (.str m.s), none, none, none, none] h) = r := fun r hr => by
    unfold ir_judged
    rw [execs_asgn (.ref h.o.length) (hx h (.dT (FD F) :: g0)) (by simp [e1])]
    exact hr
  show ∃ g a, fin (execs T (Phi T fd (n + 8)) ir_judged.body [some (.ref p), some b.d, some (.str m.s), none, none, none, none] h) = _ ∧ _
  rcases jg with ⟨g', z4, z5, z6, j1, j2⟩ | ⟨hs, g', a, j1, j2, j3⟩
  · have ex := e2 _ j2
    simp only [Out.unlock, ul, List.nil_append] at ex
    have sf := safe_init (n := n + 7) (h := hx h ((.dT (FD F) :: g0) ++ g')) (r := h.o.length) (F := F) A (by rw [hx_get0]; rfl) (fun l => by
      rw [hx_len, hx_hx]
      exact hx_prot k hf _)
    rw [hx_len, hx_hx] at sf
    refine ⟨(AO.dT (FD F) :: g0) ++ g' ++ [.ins 2 [(12, .ref (h.o.length + ((AO.dT (FD F) :: g0) ++ g').length + 1))], .lst (F.map fun x => x.1.d)], ((AO.dT (FD F) :: g0) ++ g').length, st1 _ ?_, ?_⟩
    · rw [execs_nx ex, execs_ret _ _ (by
        rw [den_make, denM_cons _ _ _ _ _ _ (by intro a; simp)]
        simp only [den_var, List.getElem?_cons_succ, List.getElem?_cons_zero, R.bind_ok, denL_nil]
        exact sf)]
      rfl
    · rw [j1]
      refine ⟨h.o.length + (((AO.dT (FD F) :: g0) ++ g').length + 1), ?_, ?_, by omega⟩
      · rw [hx_get, List.getElem?_append_right (Nat.le_refl _), Nat.sub_self]
        simp [Nat.add_assoc]
      · rw [hx_get, List.getElem?_append_right (by omega), Nat.add_sub_cancel_left]
        rfl
  · have ex := e2 _ j2
    simp only [Out.unlock, ul, lHB] at ex
    refine ⟨(.dT (FD F) :: g0) ++ g', g0.length + 1 + a, st1 _ ?_, ?_⟩
    · rw [execs_rt ex, Nat.add_assoc]
      rfl
    · rw [j1]
      show (hx h ((.dT (FD F) :: g0) ++ g')).o[h.o.length + (g0.length + 1 + a)]? = _
      rw [hx_get, List.getElem?_append_right (by simp)]
      have : g0.length + 1 + a - (AO.dT (FD F) :: g0).length = a := by simp
      rw [this]
      exact j3
theorem check_wish_ok (A : AgJ T fd) (k : h.ok) (hp : h.o[p]? = some P.obj) (m : Mk) : Phi T fd (n + 4) 39 [.ref p, b.d, .str m.s] h = .ok .non h := by
  refine phi_P' A.f39 rfl ⟨rfl, by decide⟩ rfl fun h' e' ek' _ => ⟨h', ?_⟩
  rw [← e'] at hp
  have k' : h'.ok := k.of e' ek'
  have e0 := check_book_ok (n := n) (b := b) (P := P) A.toAgC k' hp
  have e1 := is_word_ok (n := n + 2) (h := h') A.toAgC m.s ["right", "fresh", "thrifty"]
  have c1 : (["right", "fresh", "thrifty"] : List PySem.Str).contains m.s = true := by cases m <;> decide +kernel
  rw [c1] at e1
  show fin (execs T (Phi T fd (n + 3)) ir_check_wish.body [some (.ref p), some b.d, some (.str m.s)] h') = _
  unfold ir_check_wish
  simp only [List.map_cons, List.map_nil] at e1
  rw [execs_expr .non h' (by simp [e0]), execs_ite_f h' (by simp [A.g5, e1, notD])]
  simp [fin]
theorem judge_ok (A : AgJ T fd) (ok : P.Ok) (s0 : P.st0.Ok P) (k : h.ok) (hf : h.fl ≤ h.o.length) (hp : h.o[p]? = some P.obj) {F : Fnd} (e : P.reach b = some F) (m : Mk) :
    ∃ g a, Phi T fd (n + 10) 43 [.ref p, b.d, .str m.s] h = .ok (.ref (h.o.length + a)) (hx h g) ∧ JRes (hx h g) (h.o.length + a) F (P.judg b m F) := by
  rw [phi_raw A.f43 rfl ⟨rfl, by decide⟩]
  have e0 := check_wish_ok (n := n + 5) (b := b) (P := P) A k hp m
  obtain ⟨g, a, e1, jr⟩ := judged_ok (n := n) (b := b) A ok s0 k hf hp e m
  refine ⟨g, a, ?_, jr⟩
  show fin (execs T (Phi T fd (n + 9)) ir_judge.body [some (.ref p), some b.d, some (.str m.s)] h) = _
  unfold ir_judge
  rw [execs_expr .non h (by simp [e0])]
  simp [e1, fin]
theorem is_safe_ok (A : AgJ T fd) (ok : P.Ok) (s0 : P.st0.Ok P) (k : h.ok) (hp : h.o[p]? = some P.obj) {F : Fnd} (e : P.reach b = some F) (m : Mk) :
    Phi T fd (n + 11) 44 [.ref p, b.d, .str m.s] h = .ok (.bl (P.judg b m F).isNone) h := by
  refine phi_P' A.f44 rfl ⟨rfl, by decide⟩ rfl fun h' e' ek' ef' => ⟨h', ?_⟩
  rw [← e'] at hp ef'
  have k' : h'.ok := k.of e' ek'
  have t : den T (Phi T fd (n + 10)) (.tmp (.isi (.call 43 [(.var 0), (.var 1), (.var 2)]) (.cls 2))) [some (.ref p), some b.d, some (.str m.s)] h' = .ok (.bl (P.judg b m F).isNone) h' := by
    refine tmp_ok2 rfl ?_
    have kk : H.ok { h' with fl := h'.o.length } := k'
    obtain ⟨g, a, e1, jr⟩ := judge_ok (n := n) (b := b) (h := { h' with fl := h'.o.length }) A ok s0 kk (Nat.le_refl _) hp e m
    rw [den_isi, den_call]
    rw [show denL T (Phi T fd (n + 10)) [.var 0, .var 1, .var 2] [some (.ref p), some b.d, some (.str m.s)] { h' with fl := h'.o.length } = .ok [.ref p, b.d, .str m.s] { h' with fl := h'.o.length } by simp]
    simp only [R.bind_ok, e1]
    cases ej : P.judg b m F with
    | none =>
      rw [ej] at jr
      obtain ⟨a2, j1, j2⟩ := jr
      simp only [isiD, tyD, j1, Option.map_some, kitT, retB]
      exact ⟨_, rfl⟩
    | some hs =>
      rw [ej] at jr
      have j1 : (hx { h' with fl := h'.o.length } g).o[h'.o.length + a]? = _ := jr
      simp only [isiD, tyD, j1, Option.map_some, kitT, retB]
      exact ⟨_, rfl⟩
  show fin (execs T (Phi T fd (n + 10)) ir_is_safe.body [some (.ref p), some b.d, some (.str m.s)] h') = _
  unfold ir_is_safe
  rw [execs_ret _ _ t]
  rfl
def oLen : Option (List Dd) → D
  | none => .non
  | some hs => .int hs.length
theorem soonest_ok (A : AgJ T fd) (ok : P.Ok) (s0 : P.st0.Ok P) (k : h.ok) (hp : h.o[p]? = some P.obj) {F : Fnd} (e : P.reach b = some F) (m : Mk) :
    Phi T fd (n + 11) 45 [.ref p, b.d, .str m.s] h = .ok (oLen (P.judg b m F)) h := by
  refine phi_P' A.f45 rfl ⟨rfl, by decide⟩ (by cases P.judg b m F <;> rfl) fun h' e' ek' ef' => ?_
  rw [← e'] at hp ef'
  have k' : h'.ok := k.of e' ek'
  obtain ⟨g, a, e1, jr⟩ := judge_ok (n := n) (b := b) A ok s0 k' (by omega) hp e m
  refine ⟨hx h' g, ?_⟩
  show fin (execs T (Phi T fd (n + 10)) ir_soonest.body [some (.ref p), some b.d, some (.str m.s), none] h') = _
  unfold ir_soonest
  rw [execs_asgn (.ref (h'.o.length + a)) (hx h' g) (by simp [e1])]
  cases ej : P.judg b m F with
  | none =>
    rw [ej] at jr
    obtain ⟨a2, j1, j2⟩ := jr
    have i1 : isiD (.ref (h'.o.length + a)) (.cls 3) (hx h' g) = some false := by simp only [isiD, tyD, j1, Option.map_some, kitT]; rfl
    rw [execs_ret .non (hx h' g) (by simp [i1, retB])]
    rfl
  | some hs =>
    rw [ej] at jr
    have j1 : (hx h' g).o[h'.o.length + a]? = some (.ins 3 [(13, .tup (hs.map Dd.d))]) := jr
    have i1 : isiD (.ref (h'.o.length + a)) (.cls 3) (hx h' g) = some true := by simp only [isiD, tyD, j1, Option.map_some, kitT]; rfl
    have f1 : fldD (.ref (h'.o.length + a)) 13 (hx h' g) = .ok (.tup (hs.map Dd.d)) (hx h' g) := by simp only [fldD, j1, getF]; rfl
    rw [execs_ret (.int hs.length) (hx h' g) (by simp [i1, retB, f1, bltD, lenD])]
    rfl
theorem sts_pure (F : Fnd) : D.pures (F.map fun x => x.1.d) = true := by
  induction F with
  | nil => rfl
  | cons x F ih => simp [D.pures, pure_st, ih]
theorem all_states_ok (A : AgJ T fd) (ok : P.Ok) (s0 : P.st0.Ok P) (k : h.ok) (hp : h.o[p]? = some P.obj) {F : Fnd} (e : P.reach b = some F) :
    Phi T fd (n + 9) 38 [.ref p, b.d] h = .ok (.ref h.o.length) (h.push (.lst (F.map fun x => x.1.d))) := by
  refine phi_L' A.f38 rfl ⟨rfl, by decide⟩ (sts_pure F) fun h' e' ek' ef' => ?_
  rw [← e'] at hp ef'
  have k' : h'.ok := k.of e' ek'
  have e0 := check_book_ok (n := n + 5) (b := b) (P := P) A.toAgC k' hp
  obtain ⟨⟨g0, e1⟩, fo⟩ := reach_ok (n := n) (b := b) A.toAgC ok s0 k' (by omega) hp e
  have i0 : itemsD (.ref h'.o.length) (hx h' (.dT (FD F) :: g0)) = none := by simp only [itemsD, hx_get0, List.getElem?_cons_zero]
  have k0 : keysD (.ref h'.o.length) (hx h' (.dT (FD F) :: g0)) = some (F.map fun x => x.1.d) := by simp only [keysD, hx_get0, List.getElem?_cons_zero, keys_FD]
  refine ⟨hx h' (.dT (FD F) :: g0 ++ [.lst (F.map fun x => x.1.d)]), h'.o.length + (AO.dT (FD F) :: g0).length, ?_, by rw [e']; omega, by rw [hx_get, List.getElem?_append_right (Nat.le_refl _), Nat.sub_self]; rfl⟩
  show fin (execs T (Phi T fd (n + 8)) ir_all_states.body [some (.ref p), some b.d] h') = _
  unfold ir_all_states
  rw [execs_expr .non h' (by simp [e0]), execs_ret (.ref (h'.o.length + (AO.dT (FD F) :: g0).length)) (hx h' (.dT (FD F) :: g0 ++ [.lst (F.map fun x => x.1.d)])) (by
    rw [den_blt, den_call]
    rw [show denL T (Phi T fd (n + 8)) [.var 0, .var 1] [some (.ref p), some b.d] h' = .ok [.ref p, b.d] h' by simp]
    simp only [R.bind_ok, e1, bltD, i0, k0, alloc_hx])]
  rfl
end
end SC
end
end
section
set_option linter.all false
set_option maxRecDepth 100000
set_option Elab.async false
/-! N1: a run by a lesser oracle is a run. -/
noncomputable section
namespace SC
def LeR {α : Type} (r s : R α) : Prop := r = .bad ∨ r = s
def LeO (r s : Out) : Prop := r = .bad ∨ r = s
theorem LeR.refl {α : Type} (r : R α) : LeR r r := .inr rfl
theorem LeR.bad {α : Type} (r : R α) : LeR .bad r := .inl rfl
theorem LeO.refl (r : Out) : LeO r r := .inr rfl
theorem LeO.bad (r : Out) : LeO .bad r := .inl rfl
theorem LeR.bind {α β : Type} {r s : R α} {f g : α → H → R β} (h : LeR r s) (k : ∀ a h, LeR (f a h) (g a h)) : LeR (r.bind f) (s.bind g) := by
  rcases h with rfl | rfl
  · exact .inl rfl
  · cases r with
    | ok a h => exact k a h
    | bad => exact .inl rfl
theorem LeR.ok {α : Type} {r s : R α} {a : α} {h : H} (x : LeR r s) (e : r = .ok a h) : s = .ok a h := by
  rcases x with z | z
  · rw [z] at e; cases e
  · rw [← z]; exact e
/-- an oracle that answers as another one, or not at all -/
def LeF (Ψ Φ : Nat → Fn) : Prop := ∀ j as h, LeR (Ψ j as h) (Φ j as h)
variable {T : Tab} {Ψ Φ : Nat → Fn}
theorem lcGo_le {m : Nat} {tg : Tg} {f1 f2 e1 e2 : M} {σ : Env} (hf : ∀ σ h, LeR (f1 σ h) (f2 σ h)) (he : ∀ σ h, LeR (e1 σ h) (e2 σ h)) : ∀ (xs : List D) (h : H), LeR (lcGo m tg f1 e1 σ xs h) (lcGo m tg f2 e2 σ xs h)
  | [], h => .refl _
  | x :: r, h => by
    simp only [lcGo]
    cases tgSet tg x σ with
    | none => exact .refl _
    | some σ' =>
      refine LeR.bind (hf σ' h) fun b h1 => ?_
      split
      · refine LeR.bind (he σ' h1) fun v h2 => ?_
        split
        · split
          · exact lcGo_le hf he r _
          · exact .refl _
        · exact .refl _
      · exact lcGo_le hf he r _
      · exact .refl _
theorem dcGo_le {m : Nat} {tg : Tg} {f1 f2 e1 e2 : M} {σ : Env} (hf : ∀ σ h, LeR (f1 σ h) (f2 σ h)) (he : ∀ σ h, LeR (e1 σ h) (e2 σ h)) : ∀ (xs : List D) (h : H), LeR (dcGo m tg f1 e1 σ xs h) (dcGo m tg f2 e2 σ xs h)
  | [], h => .refl _
  | x :: r, h => by
    simp only [dcGo]
    cases tgSet tg x σ with
    | none => exact .refl _
    | some σ' =>
      refine LeR.bind (hf σ' h) fun b h1 => LeR.bind (he σ' h1) fun v h2 => ?_
      split
      · split
        · exact dcGo_le hf he r _
        · exact .refl _
      · exact .refl _
theorem makeD_le (L : LeF Ψ Φ) (c : Nat) (as : List D) (h : H) : LeR (makeD T Ψ c as h) (makeD T Φ c as h) := by
  unfold makeD
  split
  · exact .refl _
  · refine LeR.bind (L _ _ _) fun v h1 => ?_
    split <;> exact .refl _
theorem lenI_le (L : LeF Ψ Φ) (o : D) (h : H) : LeR (lenI T Ψ o h) (lenI T Φ o h) := by
  unfold lenI
  split
  · split
    · split
      · refine LeR.bind (L _ _ _) fun v h1 => .refl _
      · exact .refl _
    · exact .refl _
  · exact .refl _
theorem if_le {c : Prop} [Decidable c] {α : Type} {a b a' b' : R α} (h1 : LeR a a') (h2 : LeR b b') : LeR (if c then a else b) (if c then a' else b') := by
  split <;> assumption
mutual
theorem den_le (L : LeF Ψ Φ) : ∀ (e : E) (σ : Env) (h : H), LeR (den T Ψ e σ h) (den T Φ e σ h)
  | .var i, σ, h => by simp only [den]; exact .refl _
  | .cN, σ, h => by simp only [den]; exact .refl _
  | .cB b, σ, h => by simp only [den]; exact .refl _
  | .cI i, σ, h => by simp only [den]; exact .refl _
  | .cS s, σ, h => by simp only [den]; exact .refl _
  | .glb k, σ, h => by simp only [den]; exact .refl _
  | .op2 o a b, σ, h => by simp only [den]; exact LeR.bind (den_le L a σ h) fun x h => LeR.bind (den_le L b σ h) fun y h => .refl _
  | .neg a, σ, h => by simp only [den]; exact LeR.bind (den_le L a σ h) fun x h => .refl _
  | .sub a i, σ, h => by simp only [den]; exact LeR.bind (den_le L a σ h) fun x h => LeR.bind (den_le L i σ h) fun y h => .refl _
  | .not_ a, σ, h => by simp only [den]; exact LeR.bind (den_le L a σ h) fun x h => .refl _
  | .and_ a b, σ, h => by
    simp only [den]
    refine LeR.bind (den_le L a σ h) fun x h => ?_
    split
    · exact den_le L b σ h
    · exact .refl _
    · exact .refl _
  | .or_ a b, σ, h => by
    simp only [den]
    refine LeR.bind (den_le L a σ h) fun x h => ?_
    split
    · exact .refl _
    · exact den_le L b σ h
    · exact .refl _
  | .ite c a b, σ, h => by
    simp only [den]
    refine LeR.bind (den_le L c σ h) fun x h => ?_
    split
    · exact den_le L a σ h
    · exact den_le L b σ h
    · exact .refl _
  | .chain o1 o2 a b c, σ, h => by
    simp only [den]
    refine LeR.bind (den_le L a σ h) fun x h => LeR.bind (den_le L b σ h) fun y h => LeR.bind (.refl _) fun z h => ?_
    split
    · exact LeR.bind (den_le L c σ h) fun w h => .refl _
    · exact .refl _
    · exact .refl _
  | .call j as, σ, h => by simp only [den]; exact LeR.bind (denL_le L as σ h) fun xs h => L j xs h
  | .make c as, σ, h => by simp only [den]; exact LeR.bind (denL_le L as σ h) fun xs h => makeD_le L c xs h
  | .meth m o as, σ, h => by
    simp only [den]
    refine LeR.bind (den_le L o σ h) fun x h => ?_
    split
    · exact LeR.bind (denL_le L as σ h) fun xs h => L _ _ h
    · exact .refl _
  | .lenI o, σ, h => by simp only [den]; exact LeR.bind (den_le L o σ h) fun x h => lenI_le L x h
  | .fld o f, σ, h => by simp only [den]; exact LeR.bind (den_le L o σ h) fun x h => .refl _
  | .blt b a, σ, h => by simp only [den]; exact LeR.bind (den_le L a σ h) fun x h => .refl _
  | .bm b o as, σ, h => by
    simp only [den]
    refine LeR.bind (den_le L o σ h) fun x h => if_le ?_ (.refl _)
    exact LeR.bind (denL_le L as σ h) fun xs h => .refl _
  | .isi a t, σ, h => by simp only [den]; exact LeR.bind (den_le L a σ h) fun x h => .refl _
  | .slice a lo hi, σ, h => by simp only [den]; exact LeR.bind (den_le L a σ h) fun x h => LeR.bind (denO_le L lo σ h) fun l h => LeR.bind (denO_le L hi σ h) fun u h => .refl _
  | .tup es, σ, h => by simp only [den]; exact LeR.bind (denL_le L es σ h) fun xs h => .refl _
  | .lst es, σ, h => by simp only [den]; exact LeR.bind (denL_le L es σ h) fun xs h => .refl _
  | .star _, σ, h => by simp only [den]; exact .refl _
  | .dnewK, σ, h => by simp only [den]; exact .refl _
  | .dnewT, σ, h => by simp only [den]; exact .refl _
  | .dict1 k v, σ, h => by simp only [den]; exact LeR.bind (den_le L k σ _) fun x h => LeR.bind (den_le L v σ h) fun y h => .refl _
  | .lc k tg its ifs elt, σ, h => by
    simp only [den]
    refine LeR.bind (denL_le L its σ h) fun as h => ?_
    split
    · exact .refl _
    · exact LeR.bind (lcGo_le (fun σ h => denIfs_le L ifs σ h) (fun σ h => den_le L elt σ h) _ _) fun v h => .refl _
  | .dc tg it kk vv, σ, h => by
    simp only [den]
    refine LeR.bind (den_le L it σ h) fun v h => ?_
    split
    · exact .refl _
    · exact LeR.bind (dcGo_le (fun σ h => den_le L kk σ h) (fun σ h => den_le L vv σ h) _ _) fun v h => .refl _
  | .tmp a, σ, h => by
    simp only [den]
    rcases den_le L a σ { h with fl := h.o.length } with e | e
    · rw [e]; exact .bad _
    · rw [e]; exact .refl _
theorem denL_le (L : LeF Ψ Φ) : ∀ (es : List E) (σ : Env) (h : H), LeR (denL T Ψ es σ h) (denL T Φ es σ h)
  | [], σ, h => by simp only [denL]; exact .refl _
  | e :: r, σ, h => by
    cases e with
    | star a =>
      simp only [denL]
      refine LeR.bind (den_le L a σ h) fun v h => ?_
      split
      · exact .refl _
      · exact LeR.bind (denL_le L r σ h) fun xs h => .refl _
    | _ =>
      simp only [denL]
      exact LeR.bind (den_le L _ σ h) fun x h => LeR.bind (denL_le L r σ h) fun xs h => .refl _
theorem denO_le (L : LeF Ψ Φ) : ∀ (e : Option E) (σ : Env) (h : H), LeR (denO T Ψ e σ h) (denO T Φ e σ h)
  | none, σ, h => by simp only [denO]; exact .refl _
  | some e, σ, h => by simp only [denO]; exact LeR.bind (den_le L e σ h) fun x h => .refl _
theorem denIfs_le (L : LeF Ψ Φ) : ∀ (es : List E) (σ : Env) (h : H), LeR (denIfs T Ψ es σ h) (denIfs T Φ es σ h)
  | [], σ, h => by simp only [denIfs]; exact .refl _
  | e :: r, σ, h => by
    simp only [denIfs]
    refine LeR.bind (den_le L e σ h) fun x h => ?_
    split
    · exact denIfs_le L r σ h
    · exact .refl _
    · exact .refl _
end
def LeP {α : Type} (r s : Option α) : Prop := r = none ∨ r = s
mutual
theorem gset_le (L : LeF Ψ Φ) : ∀ (g : G) (v : D) (σ : Env) (h : H), LeP (gset T Ψ g v σ h) (gset T Φ g v σ h)
  | .n i, v, σ, h => by simp only [gset]; exact .inr rfl
  | .f o f, v, σ, h => by
    simp only [gset]
    rcases den_le (T := T) L o σ h with e | e
    · rw [e]; exact .inl rfl
    · rw [e]; exact .inr rfl
  | .s o i, v, σ, h => by
    simp only [gset]
    rcases den_le (T := T) L o σ h with e | e
    · rw [e]; exact .inl rfl
    · rw [e]
      split
      · rename_i x h1 _
        rcases den_le (T := T) L i σ h1 with e | e
        · rw [e]; exact .inl rfl
        · rw [e]; exact .inr rfl
      · exact .inr rfl
  | .t l, v, σ, h => by
    simp only [gset]
    split
    · exact gsets_le L l _ σ h
    · exact .inr rfl
theorem gsets_le (L : LeF Ψ Φ) : ∀ (g : List G) (v : List D) (σ : Env) (h : H), LeP (gsets T Ψ g v σ h) (gsets T Φ g v σ h)
  | [], [], σ, h => by simp only [gsets]; exact .inr rfl
  | [], _ :: _, σ, h => by simp only [gsets]; exact .inr rfl
  | _ :: _, [], σ, h => by simp only [gsets]; exact .inr rfl
  | g :: r, x :: s, σ, h => by
    simp only [gsets]
    rcases gset_le L g x σ h with e | e
    · rw [e]; exact .inl rfl
    · rw [e]
      split
      · exact gsets_le L r s _ _
      · exact .inr rfl
end
theorem forGo_le {tg : Tg} {b1 b2 : SM} (hb : ∀ σ h, LeO (b1 σ h) (b2 σ h)) : ∀ (xs : List D) (σ : Env) (h : H), LeO (forGo tg b1 xs σ h) (forGo tg b2 xs σ h)
  | [], σ, h => .refl _
  | x :: r, σ, h => by
    simp only [forGo]
    split
    · exact .refl _
    · rename_i σ' _
      rcases hb σ' h with e | e
      · rw [e]; exact .bad _
      · rw [e]
        split
        · exact forGo_le hb r _ _
        · exact forGo_le hb r _ _
        · exact .refl _
        · exact .refl _
        · exact .refl _
theorem whileGo_le {c1 c2 : M} {b1 b2 : SM} (hc : ∀ σ h, LeR (c1 σ h) (c2 σ h)) (hb : ∀ σ h, LeO (b1 σ h) (b2 σ h)) : ∀ (n : Nat) (σ : Env) (h : H), LeO (whileGo c1 b1 n σ h) (whileGo c2 b2 n σ h)
  | 0, σ, h => .refl _
  | n + 1, σ, h => by
    simp only [whileGo]
    rcases hc σ h with e | e
    · rw [e]; exact .bad _
    · rw [e]
      split
      · rename_i h1 _
        rcases hb σ h1 with e | e
        · rw [e]; exact .bad _
        · rw [e]
          split
          · exact whileGo_le hc hb n _ _
          · exact whileGo_le hc hb n _ _
          · exact .refl _
          · exact .refl _
          · exact .refl _
      · exact .refl _
      · exact .refl _
theorem LeO.unlock {o p : Out} (x : LeO o p) (l : List Nat) : LeO (o.unlock l) (p.unlock l) := by
  rcases x with rfl | rfl
  · exact .bad _
  · exact .refl _
mutual
theorem exec_le (L : LeF Ψ Φ) : ∀ (s : S) (σ : Env) (h : H), LeO (exec T Ψ s σ h) (exec T Φ s σ h)
  | .expr e, σ, h => by
    simp only [exec]
    rcases den_le (T := T) L e σ h with z | z <;> rw [z] <;> first | exact .bad _ | exact .refl _
  | .asg g e, σ, h => by
    simp only [exec]
    rcases den_le (T := T) L e σ h with z | z
    · rw [z]; exact .bad _
    · rw [z]
      split
      · rename_i v h1 _
        rcases gset_le (T := T) L g v σ h1 with z | z
        · rw [z]; exact .bad _
        · rw [z]; exact .refl _
      · exact .refl _
  | .ret e, σ, h => by
    simp only [exec]
    rcases den_le (T := T) L e σ h with z | z <;> rw [z] <;> first | exact .bad _ | exact .refl _
  | .ite c a b, σ, h => by
    simp only [exec]
    rcases den_le (T := T) L c σ h with z | z
    · rw [z]; exact .bad _
    · rw [z]
      split
      · exact execs_le L a _ _
      · exact execs_le L b _ _
      · exact .refl _
  | .for_ k tg its b, σ, h => by
    simp only [exec]
    rcases denL_le (T := T) L its σ h with z | z
    · rw [z]; exact .bad _
    · rw [z]
      split
      · split
        · exact .refl _
        · exact (forGo_le (fun σ h => execs_le L b σ h) _ _ _).unlock _
      · exact .refl _
  | .while_ c b, σ, h => by
    simp only [exec]
    exact whileGo_le (fun σ h => den_le L c σ h) (fun σ h => execs_le L b σ h) _ _ _
  | .raise_, σ, h => by simp only [exec]; exact .refl _
  | .pass, σ, h => by simp only [exec]; exact .refl _
theorem execs_le (L : LeF Ψ Φ) : ∀ (s : List S) (σ : Env) (h : H), LeO (execs T Ψ s σ h) (execs T Φ s σ h)
  | [], σ, h => by simp only [execs]; exact .refl _
  | s :: r, σ, h => by
    simp only [execs]
    rcases exec_le L s σ h with z | z
    · rw [z]; exact .bad _
    · rw [z]
      split
      · exact execs_le L r _ _
      · exact .refl _
end
theorem runF_le (L : LeF Ψ Φ) (f : Fd) (as : List D) (h : H) : LeR (runF T Ψ f as h) (runF T Φ f as h) := by
  have e := fun h => execs_le (T := T) L f.body (startE f as) h
  have q : ∀ h, LeR (fin (execs T Ψ f.body (startE f as) h)) (fin (execs T Φ f.body (startE f as) h)) := fun h => by
    rcases e h with z | z
    · rw [z]; exact .bad _
    · rw [z]; exact .refl _
  unfold runF
  split
  · split
    · exact q _
    all_goals
      rcases q { h with fl := h.o.length } with z | z
      · rw [z]; exact .bad _
      · rw [z]; exact .refl _
  · exact .refl _
end SC
end
end
section
set_option linter.all false
set_option maxRecDepth 100000
set_option Elab.async false
/-! N2: an oracle for the program's plain defs. -/
noncomputable section
namespace SC
/-! ### reading values back -/
def unN : D → Option Nat
  | .int i => if 0 ≤ i then some i.toNat else none
  | _ => none
theorem unN_ok {d : D} {k : Nat} (e : unN d = some k) : d = .int k := by
  cases d <;> simp only [unN] at e <;> first | (cases e; done) | skip
  split at e
  · cases e; congr 1; omega
  · cases e
def unNs : List D → Option (List Nat)
  | [] => some []
  | d :: r => (match unN d, unNs r with
    | some k, some l => some (k :: l)
    | _, _ => none)
theorem unNs_ok : ∀ {ds : List D} {l : List Nat}, unNs ds = some l → ds = l.map fun (k : Nat) => .int k
  | [], l, e => by simp [unNs] at e; subst e; rfl
  | d :: r, l, e => by
    simp only [unNs] at e
    split at e
    · rename_i k l' e1 e2
      cases e
      rw [unN_ok e1, unNs_ok e2]
      rfl
    · cases e
def unNt : D → Option (List Nat)
  | .tup xs => unNs xs
  | _ => none
theorem unNt_ok {d : D} {l : List Nat} (e : unNt d = some l) : d = nt l := by
  cases d <;> simp only [unNt] at e <;> first | (cases e; done) | skip
  rw [unNs_ok e]
  rfl
def unPl : AO → Option Pl
  | .ins 0 [(0, ps), (1, .tup [b0, b1]), (2, cs), (3, .tup [q0, q1]), (4, fs)] => (match unNt ps, unNt b0, unNt b1, unNt cs, unN q0, unN q1, unNt fs with
    | some ps, some b0, some b1, some cs, some q0, some q1, some fs => some ⟨ps, b0, b1, cs, q0, q1, fs⟩
    | _, _, _, _, _, _, _ => none)
  | _ => none
theorem unPl_ok {o : AO} {P : Pl} (e : unPl o = some P) : o = P.obj := by
  unfold unPl at e
  split at e
  · split at e
    · rename_i e1 e2 e3 e4 e5 e6 e7
      cases e
      rw [unNt_ok e1, unNt_ok e2, unNt_ok e3, unNt_ok e4, unN_ok e5, unN_ok e6, unNt_ok e7]
      rfl
    · cases e
  · cases e
def upB : List Nat → Bool
  | [] => true
  | [_] => true
  | a :: b :: r => decide (a < b) && upB (b :: r)
theorem upB_ok : ∀ {l : List Nat}, upB l = true → l.Pairwise (· < ·)
  | [], _ => .nil
  | [_], _ => by simp
  | a :: b :: r, e => by
    simp only [upB, Bool.and_eq_true, decide_eq_true_eq] at e
    have ih := upB_ok e.2
    refine List.pairwise_cons.mpr ⟨fun x hx => ?_, ih⟩
    rcases List.mem_cons.mp hx with rfl | hx
    · exact e.1
    · have := (List.pairwise_cons.mp ih).1 x hx; omega
def parB : Nat → List Nat → Bool
  | _, [] => true
  | i, k :: r => decide (k ≤ i) && parB (i + 1) r
theorem parB_ok : ∀ {l : List Nat} {i : Nat}, parB i l = true → ∀ (j k : Nat), l[j]? = some k → k ≤ i + j
  | [], i, _, j, k, e => by simp at e
  | a :: r, i, h, 0, k, e => by
    simp only [parB, Bool.and_eq_true, decide_eq_true_eq] at h
    simp at e; omega
  | a :: r, i, h, j + 1, k, e => by
    simp only [parB, Bool.and_eq_true] at h
    have := parB_ok h.2 j k (by simpa using e)
    omega
def Pl.okB (P : Pl) : Bool :=
  decide (P.ps.length ≤ 4) && parB 0 P.ps && (P.b0.contains 0 && P.b1.contains 0) && (P.b0.all (fun k => decide (k ≤ P.ps.length)) && P.b1.all (fun k => decide (k ≤ P.ps.length))) &&
  decide (P.cs.length = P.b0.length) && (decide (P.q0 ≤ P.ps.length) && decide (P.q1 ≤ P.ps.length)) && (P.fs.all (fun k => decide (k ≤ P.ps.length)) && upB P.fs)
theorem Pl.okB_ok {P : Pl} (h : P.okB = true) : P.Ok ∧ P.st0.Ok P := by
  simp only [Pl.okB, Bool.and_eq_true, decide_eq_true_eq, List.all_eq_true] at h
  obtain ⟨⟨⟨⟨⟨⟨h1, h2⟩, h3, h4⟩, h5, h6⟩, h7⟩, h8, h9⟩, h10, h11⟩ := h
  refine ⟨⟨h1, fun i k e => by have := parB_ok h2 i k e; omega, by simpa using h3, by simpa using h4, h5, h6, h7, h8, h9, h10⟩, ?_⟩
  exact ⟨upB_ok h11, h10, fun _ e => by (cases e), fun _ e => by (cases e), fun _ e => by (cases e)⟩
def getP (h : H) : D → Option Pl
  | .ref p => (match h.o[p]? with
    | some o => (match unPl o with
      | some P => if P.okB then some P else none
      | none => none)
    | none => none)
  | _ => none
theorem getP_ok {h : H} {d : D} {P : Pl} (e : getP h d = some P) : ∃ p, d = .ref p ∧ h.o[p]? = some P.obj ∧ P.Ok ∧ P.st0.Ok P := by
  cases d <;> simp only [getP] at e <;> first | (cases e; done) | skip
  rename_i p
  split at e
  · rename_i o eo
    split at e
    · rename_i P' e1
      split at e
      · rename_i hb
        cases e
        exact ⟨p, rfl, by rw [eo, unPl_ok e1], (Pl.okB_ok hb).1, (Pl.okB_ok hb).2⟩
      · cases e
    · cases e
  · cases e
def H.okB (h : H) : Bool := h.lk.all (fun x => decide (x < h.o.length))
theorem H.okB_ok {h : H} (e : h.okB = true) : h.ok := fun x hx => by
  simp only [H.okB, List.all_eq_true, decide_eq_true_eq] at e
  exact e x hx
def unS : D → Option Bool
  | .int i => if i = 0 then some false else if i = 1 then some true else none
  | _ => none
theorem unS_ok {d : D} {s : Bool} (e : unS d = some s) : d = sI s := by
  cases d <;> simp only [unS] at e <;> first | (cases e; done) | skip
  split at e
  · rename_i z; cases e; subst z; rfl
  · split at e
    · rename_i z; cases e; subst z; rfl
    · cases e
def unWt (s : PySem.Str) : Option Wt := if s = Wt.none.s then some .none else if s = Wt.own.s then some .own else if s = Wt.all.s then some .all else none
theorem unWt_ok {s : PySem.Str} {w : Wt} (e : unWt s = some w) : s = w.s := by
  unfold unWt at e
  split at e
  · rename_i z; cases e; exact z
  · split at e
    · rename_i z; cases e; exact z
    · split at e
      · rename_i z; cases e; exact z
      · cases e
def unOn (s : PySem.Str) : Option Bool := if s = ("once" : PySem.Str) then some true else if s = ("later" : PySem.Str) then some false else none
theorem unOn_ok {s : PySem.Str} {o : Bool} (e : unOn s = some o) : s = (if o then "once" else "later" : PySem.Str) := by
  unfold unOn at e
  split at e
  · rename_i z; cases e; exact z
  · split at e
    · rename_i z; cases e; exact z
    · cases e
def unBk : D → Option Bk
  | .tup [.tup [.str a, .str b], .tup [.str c, .str d]] => (match unWt a, unOn b, unWt c, unOn d with
    | some a, some b, some c, some d => some ⟨a, b, c, d⟩
    | _, _, _, _ => none)
  | _ => none
theorem unBk_ok {d : D} {b : Bk} (e : unBk d = some b) : d = b.d := by
  unfold unBk at e
  split at e
  · split at e
    · rename_i e1 e2 e3 e4
      cases e
      rw [unWt_ok e1, unOn_ok e2, unWt_ok e3, unOn_ok e4]
      rfl
    · cases e
  · cases e
def unMk : D → Option Mk
  | .str s => if s = Mk.right.s then some .right else if s = Mk.fresh.s then some .fresh else if s = Mk.thrifty.s then some .thrifty else none
  | _ => none
theorem unMk_ok {d : D} {m : Mk} (e : unMk d = some m) : d = .str m.s := by
  cases d <;> simp only [unMk] at e <;> first | (cases e; done) | skip
  split at e
  · rename_i z; cases e; rw [z]
  · split at e
    · rename_i z; cases e; rw [z]
    · split at e
      · rename_i z; cases e; rw [z]
      · cases e
def unON : D → Option (Option Nat)
  | .non => some none
  | d => (unN d).map some
theorem unON_ok {d : D} {o : Option Nat} (e : unON d = some o) : d = oN o := by
  cases d <;> simp only [unON, Option.map_eq_some_iff] at e
  case non => cases e; rfl
  all_goals
    obtain ⟨k, e, rfl⟩ := e
    exact unN_ok e
def unFr : D → Option (Option Fr)
  | .non => some none
  | .tup [b, m, p] => (match unN b, unN m, unON p with
    | some b, some m, some p => some (some ⟨b, m, p⟩)
    | _, _, _ => none)
  | _ => none
theorem unFr_ok {d : D} {o : Option Fr} (e : unFr d = some o) : d = frD o := by
  unfold unFr at e
  split at e
  · cases e; rfl
  · split at e
    · rename_i e1 e2 e3
      cases e
      rw [unN_ok e1, unN_ok e2, unON_ok e3]
      rfl
    · cases e
  · cases e
def unSt : D → Option Stt
  | .tup [l, .tup [a, b], f] => (match unNt l, unON a, unON b, unFr f with
    | some l, some a, some b, some f => some ⟨l, a, b, f⟩
    | _, _, _, _ => none)
  | _ => none
theorem unSt_ok {d : D} {s : Stt} (e : unSt d = some s) : d = s.d := by
  unfold unSt at e
  split at e
  · split at e
    · rename_i e1 e2 e3 e4
      cases e
      rw [unNt_ok e1, unON_ok e2, unON_ok e3, unFr_ok e4]
      rfl
    · cases e
  · cases e
def Stt.okB (P : Pl) (st : Stt) : Bool := upB st.ld && st.ld.all (fun k => decide (k ≤ P.ps.length)) && ((match st.s0 with | some k => P.b0.contains k | none => true) && (match st.s1 with | some k => P.b1.contains k | none => true)) && (match st.fr with | some f => P.b0.contains f.b | none => true)
theorem Stt.okB_ok {P : Pl} {st : Stt} (h : st.okB P = true) : st.Ok P := by
  simp only [Stt.okB, Bool.and_eq_true, decide_eq_true_eq, List.all_eq_true] at h
  obtain ⟨⟨⟨h1, h2⟩, h3, h4⟩, h5⟩ := h
  exact ⟨upB_ok h1, h2, fun k e => by rw [Option.mem_def] at e; rw [e] at h3; simpa using h3, fun k e => by rw [Option.mem_def] at e; rw [e] at h4; simpa using h4, fun f e => by rw [Option.mem_def] at e; rw [e] at h5; simpa using h5⟩
def unDd : D → Option Dd
  | .tup [.str w] => if w = ("end" : PySem.Str) then some .fin else none
  | .tup [.str w, d] => (match unN d with
    | some k => if w = ("load" : PySem.Str) then some (.load k) else if w = ("call" : PySem.Str) then some (.call k) else if w = ("inner" : PySem.Str) then some (.inner k) else if w = ("make" : PySem.Str) then (match k with | 0 => some (.make false) | 1 => some (.make true) | _ => none) else none
    | none => none)
  | _ => none
theorem unDd_ok {d : D} {x : Dd} (e : unDd d = some x) : d = x.d := by
  unfold unDd at e
  split at e
  · split at e
    · rename_i z; cases e; rw [z]; rfl
    · cases e
  · split at e
    · rename_i k e1
      rw [unN_ok e1]
      split at e
      · rename_i z; cases e; rw [z]; rfl
      · split at e
        · rename_i z; cases e; rw [z]; rfl
        · split at e
          · rename_i z; cases e; rw [z]; rfl
          · split at e
            · rename_i z
              split at e
              · cases e; rw [z]; rfl
              · cases e; rw [z]; rfl
              · cases e
            · cases e
    · cases e
  · cases e
def unDds : List D → Option (List Dd)
  | [] => some []
  | d :: r => (match unDd d, unDds r with
    | some k, some l => some (k :: l)
    | _, _ => none)
theorem unDds_ok : ∀ {ds : List D} {l : List Dd}, unDds ds = some l → ds = l.map Dd.d
  | [], l, e => by simp [unDds] at e; subst e; rfl
  | d :: r, l, e => by
    simp only [unDds] at e
    split at e
    · rename_i k l' e1 e2
      cases e
      rw [unDd_ok e1, unDds_ok e2]
      rfl
    · cases e
def getH (h : H) : D → Option (List Dd)
  | .tup xs => unDds xs
  | .ref r => (match h.o[r]? with
    | some (.lst xs) => unDds xs
    | _ => none)
  | _ => none
theorem getH_ok {h : H} {d : D} {ds : List Dd} (e : getH h d = some ds) : Hist h d ds := by
  unfold getH at e
  split at e
  · rw [unDds_ok e]; exact .inl rfl
  · split at e
    · rename_i r _ xs eo
      exact .inr ⟨r, rfl, by rw [eo, unDds_ok e]⟩
    · cases e
  · cases e
def getHl (h : H) : D → Option (List Dd)
  | .ref r => (match h.o[r]? with
    | some (.lst xs) => unDds xs
    | _ => none)
  | _ => none
theorem getHl_ok {h : H} {d : D} {ds : List Dd} (e : getHl h d = some ds) : ∃ r, d = .ref r ∧ h.o[r]? = some (.lst (ds.map Dd.d)) := by
  unfold getHl at e
  split at e
  · split at e
    · rename_i r _ xs eo
      exact ⟨r, rfl, by rw [eo, unDds_ok e]⟩
    · cases e
  · cases e
/-! ### the oracle -/
def Orc (j : Nat) (as : List D) (h : H) : Option (R D) := match as with
  | pd :: as => (match getP h pd with
    | none => none
    | some P => (match j, as with
      | 11, [k, o] => (match unN k, unN o with
        | some k, some o => if k ≤ P.ps.length ∧ o ≤ P.ps.length then some (.ok (.bl (P.under k o)) h) else none
        | _, _ => none)
      | 12, [s, k] => (match unS s, unN k with
        | some s, some k => if k ≤ P.ps.length then some (.ok (.int (P.body s k : Nat)) h) else none
        | _, _ => none)
      | 16, [s, l] => (match unS s, unNt l with
        | some s, some l => if h.okB ∧ l.all (fun k => decide (k ≤ P.ps.length)) ∧ l.length ≤ 60 then some (.ok (.ref h.o.length) (h.push (nl (P.at s l)))) else none
        | _, _ => none)
      | 20, [b, s, k] => (match unBk b, unS s, unN k with
        | some b, some s, some k => if k ≤ P.ps.length then some (.ok (.bl (P.hit b s k)) h) else none
        | _, _, _ => none)
      | 29, [s] => (match unSt s with
        | some s => if h.okB ∧ s.okB P then some (.ok (.ref h.o.length) (h.push (.lst ((P.deeds s).map Dd.d)))) else none
        | _ => none)
      | 30, [s, d] => (match unSt s, unDd d with
        | some s, some d => if h.okB ∧ s.okB P then some (.ok (.bl (decide (d ∈ P.deeds s))) h) else none
        | _, _ => none)
      | 35, [b, hv] => (match unBk b, getH h hv with
        | some b, some ds => if h.okB ∧ (P.walk b P.st0 ds).length = ds.length ∧ ds.length ≤ 1000 then some (.ok (P.after b ds).d h) else none
        | _, _ => none)
      | 36, [b, hv] => (match unBk b, getH h hv with
        | some b, some ds => if h.okB ∧ (P.walk b P.st0 ds).length = ds.length ∧ ds.length ≤ 1000 then some (.ok (.ref h.o.length) (h.push (.lst ((P.deeds (P.after b ds)).map Dd.d)))) else none
        | _, _ => none)
      | 37, [b, hv] => (match unBk b, getHl h hv with
        | some b, some ds => if h.okB ∧ (P.walk b P.st0 ds).length = ds.length ∧ ds.length ≤ 1000 then some (.ok (.ref h.o.length) (h.push (.lst (P.showns b ds)))) else none
        | _, _ => none)
      | 38, [b] => (match unBk b with
        | some b => if h.okB then (match P.reach b with
          | some F => some (.ok (.ref h.o.length) (h.push (.lst (F.map fun x => x.1.d))))
          | none => none) else none
        | _ => none)
      | 44, [b, m] => (match unBk b, unMk m with
        | some b, some m => if h.okB then (match P.reach b with
          | some F => some (.ok (.bl (P.judg b m F).isNone) h)
          | none => none) else none
        | _, _ => none)
      | 45, [b, m] => (match unBk b, unMk m with
        | some b, some m => if h.okB then (match P.reach b with
          | some F => some (.ok (oLen (P.judg b m F)) h)
          | none => none) else none
        | _, _ => none)
      | _, _ => none))
  | _ => none
theorem Orc_ok {T : Tab} {fd : Nat → Option Fd} (A : AgJ T fd) {n j : Nat} {as : List D} {h : H} {r : R D} (e : Orc j as h = some r) : Phi T fd (n + 12) j as h = r := by
  unfold Orc at e
  split at e
  · rename_i pd as
    split at e
    · cases e
    · rename_i P eP
      obtain ⟨p, rfl, hp, ok, s0⟩ := getP_ok eP
      split at e
      · split at e
        · rename_i e1 e2
          split at e
          · rename_i c
            cases e
            rw [unN_ok e1, unN_ok e2]
            exact is_under_ok (n := n + 9) A.toAgP ok hp c.1 c.2
          · cases e
        · cases e
      · split at e
        · rename_i e1 e2
          split at e
          · rename_i c
            cases e
            rw [unS_ok e1, unN_ok e2]
            exact body_ok (n := n + 9) A.toAgP ok hp _ c
          · cases e
        · cases e
      · split at e
        · rename_i e1 e2
          split at e
          · rename_i c
            cases e
            rw [unS_ok e1, unNt_ok e2]
            exact bodies_at_ok (n := n + 8) A.toAgP ok (H.okB_ok c.1) hp _ (by simpa [List.all_eq_true] using c.2.1) c.2.2
          · cases e
        · cases e
      · split at e
        · rename_i e1 e2 e3
          split at e
          · rename_i c
            cases e
            rw [unBk_ok e1, unS_ok e2, unN_ok e3]
            exact does_hit_ok (n := n + 8) A.toAgP ok hp _ _ c
          · cases e
        · cases e
      · split at e
        · rename_i e1
          split at e
          · rename_i c
            cases e
            rw [unSt_ok e1]
            exact deeds_of_ok (n := n + 7) A.toAgW ok (H.okB_ok c.1) hp (Stt.okB_ok c.2)
          · cases e
        · cases e
      · split at e
        · rename_i e1 e2
          split at e
          · rename_i c
            cases e
            rw [unSt_ok e1, unDd_ok e2]
            exact is_deed_ok (n := n + 6) A.toAgW ok (H.okB_ok c.1) hp (Stt.okB_ok c.2) _
          · cases e
        · cases e
      · split at e
        · rename_i e1 e2
          split at e
          · rename_i c
            cases e
            rw [unBk_ok e1]
            exact state_after_ok (n := n + 2) A.toAgC ok s0 (H.okB_ok c.1) hp (getH_ok e2) (by omega) c.2.1
          · cases e
        · cases e
      · split at e
        · rename_i e1 e2
          split at e
          · rename_i c
            cases e
            rw [unBk_ok e1]
            exact deeds_ok (n := n + 1) A.toAgC ok s0 (H.okB_ok c.1) hp (getH_ok e2) (by omega) c.2.1 (Pl.after_ok ok s0 _)
          · cases e
        · cases e
      · split at e
        · rename_i e1 e2
          split at e
          · rename_i c
            cases e
            obtain ⟨r, rfl, hr⟩ := getHl_ok e2
            rw [unBk_ok e1]
            exact shown_ok (n := n + 2) A ok s0 (H.okB_ok c.1) hp hr (by omega) c.2.1
          · cases e
        · cases e
      · split at e
        · rename_i e1
          split at e
          · rename_i c
            split at e
            · rename_i F eF
              cases e
              rw [unBk_ok e1]
              exact all_states_ok (n := n + 3) A ok s0 (H.okB_ok c) hp eF
            · cases e
          · cases e
        · cases e
      · split at e
        · rename_i e1 e2
          split at e
          · rename_i c
            split at e
            · rename_i F eF
              cases e
              rw [unBk_ok e1, unMk_ok e2]
              exact is_safe_ok (n := n + 1) A ok s0 (H.okB_ok c) hp eF _
            · cases e
          · cases e
        · cases e
      · split at e
        · rename_i e1 e2
          split at e
          · rename_i c
            split at e
            · rename_i F eF
              cases e
              rw [unBk_ok e1, unMk_ok e2]
              exact soonest_ok (n := n + 1) A ok s0 (H.okB_ok c) hp eF _
            · cases e
          · cases e
        · cases e
      · cases e
  · cases e
/-- runs that ask the oracle first -/
def Psi (T : Tab) (fd : Nat → Option Fd) (O : Nat → List D → H → Option (R D)) : Nat → Nat → Fn
  | 0, _, _, _ => .bad
  | n + 1, j, as, h => (match (if 12 ≤ n + 1 then O j as h else none) with
    | some r => r
    | none => (match fd j with
      | some f => runF T (Psi T fd O n) f as h
      | none => .bad))
theorem Psi_le {T : Tab} {fd : Nat → Option Fd} {O : Nat → List D → H → Option (R D)} (ho : ∀ n j as h r, O j as h = some r → Phi T fd (n + 12) j as h = r) : ∀ n, LeF (Psi T fd O n) (Phi T fd n)
  | 0, j, as, h => .inl rfl
  | n + 1, j, as, h => by
    simp only [Psi]
    split
    · rename_i r e
      split at e
      · rename_i c
        have := ho (n + 1 - 12) j as h r e
        rw [show n + 1 - 12 + 12 = n + 1 by omega] at this
        exact .inr this.symm
      · cases e
    · simp only [Phi]
      cases fd j with
      | some f => exact runF_le (Psi_le ho n) _ _ _
      | none => exact .refl _
end SC
end
end
section
set_option linter.all false
set_option maxRecDepth 100000
set_option Elab.async false
noncomputable section
namespace Law
open PySem SC L2
def top (i : Nat) : Stmt := PySem.Challenge.pw_straightcalls_k35_known.main.body.getD i (.Pass ⟨0, 0, 0, 0⟩)
def clsB : Stmt → List Stmt
  | .ClassDef (body := b) .. => b
  | _ => []
def inC (i j : Nat) : Stmt := (clsB (top i)).getD j (.Pass ⟨0, 0, 0, 0⟩)
def ir__law_amid_right : Fd := ⟨1, 12, [.asg (.n 1) (.make 0 [(.tup [(.cI 0), (.cI 0)]), (.tup [(.tup [(.cI 0), (.cI 1)]), (.tup [(.cI 0), (.cI 2)])]), (.tup [(.cI 2), (.cI 0)]), (.tup [(.cI 0), (.cI 0)]), (.tup [.cI 0])]), .asg (.n 2) (.lst [(.tup [(.cS "make"), (.cI 0)]), (.tup [(.cS "make"), (.cI 1)]), (.tup [(.cS "call"), (.cI 0)]), (.tup [(.cS "load"), (.cI 2)]), (.tup [(.cS "inner"), (.cI 2)]), (.tup [(.cS "inner"), (.cI 0)]), (.tup [(.cS "end")])]), .asg (.t [(.n 6), (.n 7), (.n 8)]) (.tup [(.tup [(.cS "none"), (.var 0)]), (.tup [(.cS "own"), (.cS "later")]), (.tup [(.cS "own"), (.cS "once")])]), .asg (.n 3) (.lc .seq (.n 9) [(.tup [(.tup [(.var 6), (.var 6)]), (.tup [(.var 7), (.var 7)]), (.tup [(.var 7), (.var 8)])])] [] (.lc .seq (.n 10) [(.slice (.call 37 [(.var 1), (.var 9), (.var 2)]) (some (.cI 3)) none)] [] (.sub (.var 10) (.cI 1)))), .ite (.tmp (.op2 .ne (.var 3) (.lst [(.lst [(.tup []), (.cI 0), (.cI 0), .cN]), (.lst [(.tup [(.cI 1)]), (.cI 0), (.cI 0), .cN]), (.lst [(.tup [(.cI 1)]), (.cI 2), (.cI 0), .cN])]))) [.ret (.cB false)] [], .asg (.n 4) (.lc .seq (.n 9) [(.tup [(.tup [(.var 6), (.var 6)]), (.tup [(.var 7), (.var 7)]), (.tup [(.var 7), (.var 8)])])] [] (.slice (.call 46 [(.var 1), (.var 9), (.var 2)]) (some (.cI 3)) none)), .ite (.tmp (.op2 .ne (.var 4) (.lst [(.lst [(.lst []), (.lst [(.cS "right"), (.cS "fresh")]), (.lst [(.cS "fresh")]), (.lst [])]), (.lst [(.lst []), (.lst [(.cS "right"), (.cS "fresh")]), (.lst [(.cS "fresh")]), (.lst [])]), (.lst [(.lst []), (.lst []), (.lst []), (.lst [])])]))) [.ret (.cB false)] [], .ite (.tmp (.op2 .ne (.lc .seq (.n 11) [(.glb 5)] [] (.call 45 [(.var 1), (.tup [(.var 7), (.var 7)]), (.var 11)])) (.lst [(.cI 5), (.cI 5), .cN]))) [.ret (.cB false)] [], .ite (.tmp (.op2 .ne (.lc .seq (.n 11) [(.glb 5)] [] (.call 44 [(.var 1), (.tup [(.var 7), (.var 8)]), (.var 11)])) (.lst [(.cB true), (.cB true), (.cB true)]))) [.ret (.cB false)] [], .ite (.op2 .ne (.tmp (.call 35 [(.var 1), (.tup [(.var 6), (.var 6)]), (.slice (.var 2) none (some (.cI 4)))])) (.tup [(.tup [(.cI 0), (.cI 2)]), (.tup [(.cI 0), (.cI 0)]), (.tup [(.cI 0), (.cI 2), (.cI 0)])])) [.ret (.cB false)] [], .ite (.op2 .ne (.tmp (.call 35 [(.var 1), (.tup [(.var 7), (.var 8)]), (.slice (.var 2) none (some (.cI 5)))])) (.tup [(.tup [(.cI 0), (.cI 2)]), (.tup [(.cI 0), .cN]), (.tup [(.cI 0), (.cI 1), .cN])])) [.ret (.cB false)] [], .asg (.n 5) (.tup [(.tup [(.cS "all"), (.cS "once")]), (.var 7)]), .ite (.or_ (.tmp (.op2 .ne (.sub (.call 37 [(.var 1), (.var 5), (.var 2)]) (.cI 3)) (.tup [(.cS "load"), (.tup [(.cI 0), (.cI 1)])]))) (.tmp (.op2 .ne (.sub (.call 46 [(.var 1), (.var 5), (.var 2)]) (.cI 3)) (.lst [(.cS "thrifty")])))) [.ret (.cB false)] [], .ret (.and_ (.op2 .eq (.tmp (.call 35 [(.var 1), (.var 5), (.slice (.var 2) none (some (.cI 4)))])) (.tup [(.tup [(.cI 0), (.cI 2)]), (.tup [.cN, .cN]), (.tup [(.cI 0), (.cI 2), .cN])])) (.op2 .is_ (.call 45 [(.var 1), (.var 5), (.cS "right")]) .cN))], .P⟩
def nn__law_amid_right : List Str := ["_law_word", "_law_plan", "_law_past", "_law_rows", "_law_marks", "_law_wide", "_law_never", "_law_later", "_law_once", "_law_notes", "_law_one", "_law_wish"]
def ir__law_bound_right : Fd := ⟨0, 4, [.asg (.n 0) (.make 0 [(.tup [(.cI 0), (.cI 1)]), (.tup [(.tup [(.cI 0), (.cI 2)]), (.tup [(.cI 0)])]), (.tup [(.cI 0), (.cI 1)]), (.tup [(.cI 1), (.cI 0)]), (.tup [.cI 0])]), .asg (.n 1) (.tup [(.tup [(.cS "none"), (.cS "later")]), (.tup [(.cS "none"), (.cS "later")])]), .ite (.or_ (.tmp (.op2 .ne (.call 36 [(.var 0), (.var 1), (.lst [])]) (.lst [(.tup [(.cS "load"), (.cI 1)]), (.tup [(.cS "make"), (.cI 1)])]))) (.or_ (.tmp (.op2 .ne (.meth 18 (.var 0) [(.cI 0), (.tup [(.cI 0)])]) (.lst []))) (.tmp (.op2 .ne (.meth 18 (.var 0) [(.cI 0), (.tup [(.cI 0), (.cI 1)])]) (.lst [(.cI 0)]))))) [.ret (.cB false)] [], .asg (.n 2) (.lst [(.tup [(.cS "load"), (.cI 1)]), (.tup [(.cS "make"), (.cI 0)]), (.tup [(.cS "call"), (.cI 1)]), (.tup [(.cS "end")]), (.tup [(.cS "load"), (.cI 2)]), (.tup [(.cS "call"), (.cI 2)]), (.tup [(.cS "end")])]), .ite (.tmp (.op2 .ne (.slice (.call 37 [(.var 0), (.var 1), (.var 2)]) (some (.cI 4)) none) (.lst [(.tup [(.cS "load"), (.tup [])]), (.tup [(.cS "call"), (.cI 0)]), (.tup [(.cS "end"), .cN])]))) [.ret (.cB false)] [], .ite (.or_ (.tmp (.op2 .ne (.call 46 [(.var 0), (.var 1), (.var 2)]) (.lst [(.lst []), (.lst []), (.lst []), (.lst []), (.lst []), (.lst [(.cS "right")]), (.lst [])]))) (.op2 .ne (.call 45 [(.var 0), (.var 1), (.cS "right")]) (.cI 4))) [.ret (.cB false)] [], .ite (.tmp (.op2 .ne (.call 36 [(.var 0), (.var 1), (.slice (.var 2) none (some (.cI 3)))]) (.lst [(.tup [(.cS "load"), (.cI 2)]), (.tup [(.cS "make"), (.cI 1)]), (.tup [(.cS "end")])]))) [.ret (.cB false)] [], .asg (.n 3) (.make 0 [(.tup [(.cI 0), (.cI 1)]), (.tup [(.tup [(.cI 0), (.cI 2)]), (.tup [(.cI 0)])]), (.tup [(.cI 0), (.cI 1)]), (.tup [(.cI 1), (.cI 0)]), (.tup [(.cI 0), (.cI 1), (.cI 2)])]), .ret (.and_ (.tmp (.op2 .eq (.call 36 [(.var 3), (.var 1), (.lst [])]) (.lst [(.tup [(.cS "make"), (.cI 1)]), (.tup [(.cS "call"), (.cI 1)]), (.tup [(.cS "call"), (.cI 2)])]))) (.call 44 [(.var 3), (.var 1), (.cS "right")]))], .P⟩
def nn__law_bound_right : List Str := ["_law_plan", "_law_none", "_law_past", "_law_early"]
def ir__law_inherited_right : Fd := ⟨0, 4, [.asg (.n 0) (.make 0 [(.tup [(.cI 0), (.cI 0)]), (.tup [(.tup [(.cI 0)]), (.tup [(.cI 0)])]), (.tup [(.cI 1)]), (.tup [(.cI 0), (.cI 0)]), (.tup [.cI 0])]), .asg (.n 1) (.lc .seq (.n 2) [(.tup [(.cS "none"), (.cS "own"), (.cS "all")])] [] (.tup [(.tup [(.var 2), (.cS "later")]), (.tup [(.var 2), (.cS "later")])])), .ite (.tmp (.op2 .ne (.lc .seq (.n 3) [(.var 1)] [] (.call 45 [(.var 0), (.var 3), (.cS "thrifty")])) (.lst [.cN, .cN, (.cI 2)]))) [.ret (.cB false)] [], .ite (.not_ (.tmp (.blt .all (.lc .seq (.n 3) [(.var 1)] [] (.and_ (.call 44 [(.var 0), (.var 3), (.cS "right")]) (.call 44 [(.var 0), (.var 3), (.cS "fresh")])))))) [.ret (.cB false)] [], .ret (.op2 .eq (.tmp (.blt .len (.call 38 [(.make 0 [(.tup []), (.tup [(.tup [(.cI 0)]), (.tup [(.cI 0)])]), (.tup [(.cI 0)]), (.tup [(.cI 0), (.cI 0)]), (.tup [.cI 0])]), (.sub (.var 1) (.cI 0))]))) (.cI 9))], .P⟩
def nn__law_inherited_right : List Str := ["_law_plan", "_law_some", "_law_word", "_law_notes"]
def ir_law : Fd := ⟨1, 2, [.asg (.n 1) (.sub (.tup [(.cS "later"), (.cS "once")]) (.op2 .mod (.blt .int (.tmp (.blt .sum (.slice (.var 0) none (some (.cI 63)))))) (.cI 2))), .ret (.and_ (.call 500 [(.var 1)]) (.and_ (.call 501 []) (.call 502 [])))], .P⟩
def nn_law : List Str := ["_law_script", "_law_word"]
def fdT : Nat → Option Fd
  | 0 => some ir_is_number
  | 1 => some ir_is_word
  | 2 => some ir_are_parents
  | 3 => some ir_are_kinds
  | 4 => some ir_are_bodies
  | 5 => some ir_are_numbers
  | 6 => some ir_are_loaded
  | 7 => some ir_Plan___init__
  | 8 => some ir_Plan_five
  | 9 => some ir_Plan___len__
  | 10 => some ir_Plan_check_kind
  | 11 => some ir_Plan_is_under
  | 12 => some ir_Plan_body
  | 13 => some ir_Plan_possible
  | 14 => some ir_Plan_many_calls
  | 15 => some ir_check_site
  | 16 => some ir_bodies_at
  | 17 => some ir_is_note
  | 18 => some ir_check_plan
  | 19 => some ir_check_book
  | 20 => some ir_does_hit
  | 21 => some ir_World___init__
  | 22 => some ir_World_state_now
  | 23 => some ir_World_load
  | 24 => some ir_World_make
  | 25 => some ir_World_call
  | 26 => some ir_World_inner
  | 27 => some ir_World_do
  | 28 => some ir_start_of
  | 29 => some ir_deeds_of
  | 30 => some ir_is_deed
  | 31 => some ir_done
  | 32 => some ir_walked
  | 33 => some ir_check_history
  | 34 => some ir_reach
  | 35 => some ir_state_after
  | 36 => some ir_deeds
  | 37 => some ir_shown
  | 38 => some ir_all_states
  | 39 => some ir_check_wish
  | 40 => some ir_Safe___init__
  | 41 => some ir_Broken___init__
  | 42 => some ir_judged
  | 43 => some ir_judge
  | 44 => some ir_is_safe
  | 45 => some ir_soonest
  | 46 => some ir_broken_by
  | 500 => some ir__law_amid_right
  | 501 => some ir__law_bound_right
  | 502 => some ir__law_inherited_right
  | 503 => some ir_law
  | _ => none
def F : Fc where
  fs := [(("is_number" : Str), 0), (("is_word" : Str), 1), (("are_parents" : Str), 2), (("are_kinds" : Str), 3), (("are_bodies" : Str), 4), (("are_numbers" : Str), 5), (("are_loaded" : Str), 6), (("check_site" : Str), 15), (("bodies_at" : Str), 16), (("is_note" : Str), 17), (("check_plan" : Str), 18), (("check_book" : Str), 19), (("does_hit" : Str), 20), (("start_of" : Str), 28), (("deeds_of" : Str), 29)] ++ [(("is_deed" : Str), 30), (("done" : Str), 31), (("walked" : Str), 32), (("check_history" : Str), 33), (("reach" : Str), 34), (("state_after" : Str), 35), (("deeds" : Str), 36), (("shown" : Str), 37), (("all_states" : Str), 38), (("check_wish" : Str), 39), (("judged" : Str), 42), (("judge" : Str), 43), (("is_safe" : Str), 44), (("soonest" : Str), 45), (("broken_by" : Str), 46)] ++ [(("_law_amid_right" : Str), 500), (("_law_bound_right" : Str), 501), (("_law_inherited_right" : Str), 502), (("law" : Str), 503)]
  cl := [("Plan", 0), ("World", 1), ("Safe", 2), ("Broken", 3)]
  dfl := fun c => if c = 0 then [.tup [.cI 0]] else []
  kw := [("Plan", 0, 4, "first")]
  gl := [("MOST_KINDS", 0), ("MOST_CALLS", 1), ("WATCHES", 2), ("TAKINGS", 3), ("MOST_STATES", 4), ("WISHES", 5)]
  bl := ["len", "all", "any", "tuple", "list", "sorted", "int", "sum", "isinstance", "bool", "str", "range", "enumerate", "zip"]
  ms := [(("parents" : Str), 0), (("bodies" : Str), 1), (("calls" : Str), 2), (("bounds" : Str), 3), (("first" : Str), 4), (("plan" : Str), 5), (("book" : Str), 6), (("loaded" : Str), 7), (("straight" : Str), 8), (("frame" : Str), 9), (("told" : Str), 10), (("marks" : Str), 11), (("states" : Str), 12), (("history" : Str), 13), (("five" : Str), 14)] ++ [(("check_kind" : Str), 15), (("is_under" : Str), 16), (("body" : Str), 17), (("possible" : Str), 18), (("many_calls" : Str), 19), (("state_now" : Str), 20), (("load" : Str), 21), (("make" : Str), 22), (("call" : Str), 23), (("inner" : Str), 24), (("do" : Str), 25), (("shows" : Str), 26)]
  fld := ["parents", "bodies", "calls", "bounds", "first", "plan", "book", "loaded", "straight", "frame", "told", "marks", "states", "history"]
def dn_is_number : Dn := ⟨0, ir_is_number, ⟨("is_number", none), "is_number", "is_number", defArgs (top 14), defBody (top 14), defScope (top 14), [], []⟩, nn_is_number, nn_is_number.take 3⟩
def dn_is_word : Dn := ⟨1, ir_is_word, ⟨("is_word", none), "is_word", "is_word", defArgs (top 15), defBody (top 15), defScope (top 15), [], []⟩, nn_is_word, nn_is_word.take 2⟩
def dn_are_parents : Dn := ⟨2, ir_are_parents, ⟨("are_parents", none), "are_parents", "are_parents", defArgs (top 16), defBody (top 16), defScope (top 16), [], []⟩, nn_are_parents, nn_are_parents.take 1⟩
def dn_are_kinds : Dn := ⟨3, ir_are_kinds, ⟨("are_kinds", none), "are_kinds", "are_kinds", defArgs (top 17), defBody (top 17), defScope (top 17), [], []⟩, nn_are_kinds, nn_are_kinds.take 2⟩
def dn_are_bodies : Dn := ⟨4, ir_are_bodies, ⟨("are_bodies", none), "are_bodies", "are_bodies", defArgs (top 18), defBody (top 18), defScope (top 18), [], []⟩, nn_are_bodies, nn_are_bodies.take 2⟩
def dn_are_numbers : Dn := ⟨5, ir_are_numbers, ⟨("are_numbers", none), "are_numbers", "are_numbers", defArgs (top 19), defBody (top 19), defScope (top 19), [], []⟩, nn_are_numbers, nn_are_numbers.take 3⟩
def dn_are_loaded : Dn := ⟨6, ir_are_loaded, ⟨("are_loaded", none), "are_loaded", "are_loaded", defArgs (top 20), defBody (top 20), defScope (top 20), [], []⟩, nn_are_loaded, nn_are_loaded.take 2⟩
def dn_Plan___init__ : Dn := ⟨7, ir_Plan___init__, ⟨("Plan", some "__init__"), "__init__", "Plan.__init__", defArgs (inC 21 0), defBody (inC 21 0), defScope (inC 21 0), [], [("first", .adr (kwdAt ("Plan", some "__init__") "first"))]⟩, nn_Plan___init__, nn_Plan___init__.take 6⟩
def dn_Plan_five : Dn := ⟨8, ir_Plan_five, ⟨("Plan", some "five"), "five", "Plan.five", defArgs (inC 21 1), defBody (inC 21 1), defScope (inC 21 1), [], []⟩, nn_Plan_five, nn_Plan_five.take 1⟩
def dn_Plan___len__ : Dn := ⟨9, ir_Plan___len__, ⟨("Plan", some "__len__"), "__len__", "Plan.__len__", defArgs (inC 21 2), defBody (inC 21 2), defScope (inC 21 2), [], []⟩, nn_Plan___len__, nn_Plan___len__.take 1⟩
def dn_Plan_check_kind : Dn := ⟨10, ir_Plan_check_kind, ⟨("Plan", some "check_kind"), "check_kind", "Plan.check_kind", defArgs (inC 21 5), defBody (inC 21 5), defScope (inC 21 5), [], []⟩, nn_Plan_check_kind, nn_Plan_check_kind.take 2⟩
def dn_Plan_is_under : Dn := ⟨11, ir_Plan_is_under, ⟨("Plan", some "is_under"), "is_under", "Plan.is_under", defArgs (inC 21 6), defBody (inC 21 6), defScope (inC 21 6), [], []⟩, nn_Plan_is_under, nn_Plan_is_under.take 3⟩
def dn_Plan_body : Dn := ⟨12, ir_Plan_body, ⟨("Plan", some "body"), "body", "Plan.body", defArgs (inC 21 7), defBody (inC 21 7), defScope (inC 21 7), [], []⟩, nn_Plan_body, nn_Plan_body.take 3⟩
def dn_Plan_possible : Dn := ⟨13, ir_Plan_possible, ⟨("Plan", some "possible"), "possible", "Plan.possible", defArgs (inC 21 8), defBody (inC 21 8), defScope (inC 21 8), [], []⟩, nn_Plan_possible, nn_Plan_possible.take 3⟩
def dn_Plan_many_calls : Dn := ⟨14, ir_Plan_many_calls, ⟨("Plan", some "many_calls"), "many_calls", "Plan.many_calls", defArgs (inC 21 9), defBody (inC 21 9), defScope (inC 21 9), [], []⟩, nn_Plan_many_calls, nn_Plan_many_calls.take 2⟩
def dn_check_site : Dn := ⟨15, ir_check_site, ⟨("check_site", none), "check_site", "check_site", defArgs (top 22), defBody (top 22), defScope (top 22), [], []⟩, nn_check_site, nn_check_site.take 1⟩
def dn_bodies_at : Dn := ⟨16, ir_bodies_at, ⟨("bodies_at", none), "bodies_at", "bodies_at", defArgs (top 23), defBody (top 23), defScope (top 23), [], []⟩, nn_bodies_at, nn_bodies_at.take 3⟩
def dn_is_note : Dn := ⟨17, ir_is_note, ⟨("is_note", none), "is_note", "is_note", defArgs (top 24), defBody (top 24), defScope (top 24), [], []⟩, nn_is_note, nn_is_note.take 1⟩
def dn_check_plan : Dn := ⟨18, ir_check_plan, ⟨("check_plan", none), "check_plan", "check_plan", defArgs (top 25), defBody (top 25), defScope (top 25), [], []⟩, nn_check_plan, nn_check_plan.take 1⟩
def dn_check_book : Dn := ⟨19, ir_check_book, ⟨("check_book", none), "check_book", "check_book", defArgs (top 26), defBody (top 26), defScope (top 26), [], []⟩, nn_check_book, nn_check_book.take 2⟩
def dn_does_hit : Dn := ⟨20, ir_does_hit, ⟨("does_hit", none), "does_hit", "does_hit", defArgs (top 27), defBody (top 27), defScope (top 27), [], []⟩, nn_does_hit, nn_does_hit.take 4⟩
def dn_World___init__ : Dn := ⟨21, ir_World___init__, ⟨("World", some "__init__"), "__init__", "World.__init__", defArgs (inC 30 0), defBody (inC 30 0), defScope (inC 30 0), [], []⟩, nn_World___init__, nn_World___init__.take 4⟩
def dn_World_state_now : Dn := ⟨22, ir_World_state_now, ⟨("World", some "state_now"), "state_now", "World.state_now", defArgs (inC 30 1), defBody (inC 30 1), defScope (inC 30 1), [], []⟩, nn_World_state_now, nn_World_state_now.take 1⟩
def dn_World_load : Dn := ⟨23, ir_World_load, ⟨("World", some "load"), "load", "World.load", defArgs (inC 30 2), defBody (inC 30 2), defScope (inC 30 2), [], []⟩, nn_World_load, nn_World_load.take 2⟩
def dn_World_make : Dn := ⟨24, ir_World_make, ⟨("World", some "make"), "make", "World.make", defArgs (inC 30 3), defBody (inC 30 3), defScope (inC 30 3), [], []⟩, nn_World_make, nn_World_make.take 2⟩
def dn_World_call : Dn := ⟨25, ir_World_call, ⟨("World", some "call"), "call", "World.call", defArgs (inC 30 4), defBody (inC 30 4), defScope (inC 30 4), [], []⟩, nn_World_call, nn_World_call.take 2⟩
def dn_World_inner : Dn := ⟨26, ir_World_inner, ⟨("World", some "inner"), "inner", "World.inner", defArgs (inC 30 5), defBody (inC 30 5), defScope (inC 30 5), [], []⟩, nn_World_inner, nn_World_inner.take 2⟩
def dn_World_do : Dn := ⟨27, ir_World_do, ⟨("World", some "do"), "do", "World.do", defArgs (inC 30 6), defBody (inC 30 6), defScope (inC 30 6), [], []⟩, nn_World_do, nn_World_do.take 2⟩
def dn_start_of : Dn := ⟨28, ir_start_of, ⟨("start_of", none), "start_of", "start_of", defArgs (top 31), defBody (top 31), defScope (top 31), [], []⟩, nn_start_of, nn_start_of.take 1⟩
def dn_deeds_of : Dn := ⟨29, ir_deeds_of, ⟨("deeds_of", none), "deeds_of", "deeds_of", defArgs (top 32), defBody (top 32), defScope (top 32), [], []⟩, nn_deeds_of, nn_deeds_of.take 2⟩
def dn_is_deed : Dn := ⟨30, ir_is_deed, ⟨("is_deed", none), "is_deed", "is_deed", defArgs (top 33), defBody (top 33), defScope (top 33), [], []⟩, nn_is_deed, nn_is_deed.take 3⟩
def dn_done : Dn := ⟨31, ir_done, ⟨("done", none), "done", "done", defArgs (top 34), defBody (top 34), defScope (top 34), [], []⟩, nn_done, nn_done.take 4⟩
def dn_walked : Dn := ⟨32, ir_walked, ⟨("walked", none), "walked", "walked", defArgs (top 35), defBody (top 35), defScope (top 35), [], []⟩, nn_walked, nn_walked.take 3⟩
def dn_check_history : Dn := ⟨33, ir_check_history, ⟨("check_history", none), "check_history", "check_history", defArgs (top 36), defBody (top 36), defScope (top 36), [], []⟩, nn_check_history, nn_check_history.take 3⟩
def dn_reach : Dn := ⟨34, ir_reach, ⟨("reach", none), "reach", "reach", defArgs (top 37), defBody (top 37), defScope (top 37), [], []⟩, nn_reach, nn_reach.take 2⟩
def dn_state_after : Dn := ⟨35, ir_state_after, ⟨("state_after", none), "state_after", "state_after", defArgs (top 38), defBody (top 38), defScope (top 38), [], []⟩, nn_state_after, nn_state_after.take 3⟩
def dn_deeds : Dn := ⟨36, ir_deeds, ⟨("deeds", none), "deeds", "deeds", defArgs (top 39), defBody (top 39), defScope (top 39), [], []⟩, nn_deeds, nn_deeds.take 3⟩
def dn_shown : Dn := ⟨37, ir_shown, ⟨("shown", none), "shown", "shown", defArgs (top 40), defBody (top 40), defScope (top 40), [], []⟩, nn_shown, nn_shown.take 3⟩
def dn_all_states : Dn := ⟨38, ir_all_states, ⟨("all_states", none), "all_states", "all_states", defArgs (top 41), defBody (top 41), defScope (top 41), [], []⟩, nn_all_states, nn_all_states.take 2⟩
def dn_check_wish : Dn := ⟨39, ir_check_wish, ⟨("check_wish", none), "check_wish", "check_wish", defArgs (top 44), defBody (top 44), defScope (top 44), [], []⟩, nn_check_wish, nn_check_wish.take 3⟩
def dn_Safe___init__ : Dn := ⟨40, ir_Safe___init__, ⟨("Safe", some "__init__"), "__init__", "Safe.__init__", defArgs (inC 45 0), defBody (inC 45 0), defScope (inC 45 0), [], []⟩, nn_Safe___init__, nn_Safe___init__.take 2⟩
def dn_Broken___init__ : Dn := ⟨41, ir_Broken___init__, ⟨("Broken", some "__init__"), "__init__", "Broken.__init__", defArgs (inC 46 0), defBody (inC 46 0), defScope (inC 46 0), [], []⟩, nn_Broken___init__, nn_Broken___init__.take 2⟩
def dn_judged : Dn := ⟨42, ir_judged, ⟨("judged", none), "judged", "judged", defArgs (top 47), defBody (top 47), defScope (top 47), [], []⟩, nn_judged, nn_judged.take 3⟩
def dn_judge : Dn := ⟨43, ir_judge, ⟨("judge", none), "judge", "judge", defArgs (top 48), defBody (top 48), defScope (top 48), [], []⟩, nn_judge, nn_judge.take 3⟩
def dn_is_safe : Dn := ⟨44, ir_is_safe, ⟨("is_safe", none), "is_safe", "is_safe", defArgs (top 49), defBody (top 49), defScope (top 49), [], []⟩, nn_is_safe, nn_is_safe.take 3⟩
def dn_soonest : Dn := ⟨45, ir_soonest, ⟨("soonest", none), "soonest", "soonest", defArgs (top 50), defBody (top 50), defScope (top 50), [], []⟩, nn_soonest, nn_soonest.take 3⟩
def dn_broken_by : Dn := ⟨46, ir_broken_by, ⟨("broken_by", none), "broken_by", "broken_by", defArgs (top 51), defBody (top 51), defScope (top 51), [], []⟩, nn_broken_by, nn_broken_by.take 3⟩
def dn__law_amid_right : Dn := ⟨500, ir__law_amid_right, ⟨("_law_amid_right", none), "_law_amid_right", "_law_amid_right", defArgs (top 53), defBody (top 53), defScope (top 53), [], []⟩, nn__law_amid_right, nn__law_amid_right.take 1⟩
def dn__law_bound_right : Dn := ⟨501, ir__law_bound_right, ⟨("_law_bound_right", none), "_law_bound_right", "_law_bound_right", defArgs (top 54), defBody (top 54), defScope (top 54), [], []⟩, nn__law_bound_right, nn__law_bound_right.take 0⟩
def dn__law_inherited_right : Dn := ⟨502, ir__law_inherited_right, ⟨("_law_inherited_right", none), "_law_inherited_right", "_law_inherited_right", defArgs (top 55), defBody (top 55), defScope (top 55), [], []⟩, nn__law_inherited_right, nn__law_inherited_right.take 0⟩
def dn_law : Dn := ⟨503, ir_law, ⟨("law", none), "law", "law", defArgs (top 56), defBody (top 56), defScope (top 56), [], []⟩, nn_law, nn_law.take 1⟩
def dns : List Dn := [dn_is_number, dn_is_word, dn_are_parents, dn_are_kinds, dn_are_bodies, dn_are_numbers, dn_are_loaded, dn_Plan___init__, dn_Plan_five, dn_Plan___len__, dn_Plan_check_kind, dn_Plan_is_under] ++ [dn_Plan_body, dn_Plan_possible, dn_Plan_many_calls, dn_check_site, dn_bodies_at, dn_is_note, dn_check_plan, dn_check_book, dn_does_hit, dn_World___init__, dn_World_state_now, dn_World_load] ++ [dn_World_make, dn_World_call, dn_World_inner, dn_World_do, dn_start_of, dn_deeds_of, dn_is_deed, dn_done, dn_walked, dn_check_history, dn_reach, dn_state_after] ++ [dn_deeds, dn_shown, dn_all_states, dn_check_wish, dn_Safe___init__, dn_Broken___init__, dn_judged, dn_judge, dn_is_safe, dn_soonest, dn_broken_by, dn__law_amid_right] ++ [dn__law_bound_right, dn__law_inherited_right, dn_law]
def L : LawD where
  F := F
  dns := dns
  cn := ["Plan", "World", "Safe", "Broken"]
  gv := [("MOST_KINDS", .int 5), ("MOST_CALLS", .int 2), ("WATCHES", .txs ["none", "own", "all"]), ("TAKINGS", .txs ["later", "once"]), ("MOST_STATES", .int 300), ("WISHES", .txs ["right", "fresh", "thrifty"])]
  ini := [7, 21, 40, 41]
  mth := [(0, 14, 8), (0, 15, 10), (0, 16, 11), (0, 17, 12), (0, 18, 13), (0, 19, 14), (1, 20, 22), (1, 21, 23), (1, 22, 24), (1, 23, 25), (1, 24, 26), (1, 25, 27)]
  lens := [(0, 9)]
  names := [("parents" : Str), ("bodies" : Str), ("calls" : Str), ("bounds" : Str), ("first" : Str), ("plan" : Str), ("book" : Str), ("loaded" : Str), ("straight" : Str), ("frame" : Str), ("told" : Str), ("marks" : Str), ("states" : Str), ("history" : Str), ("five" : Str)] ++ [("check_kind" : Str), ("is_under" : Str), ("body" : Str), ("possible" : Str), ("many_calls" : Str), ("state_now" : Str), ("load" : Str), ("make" : Str), ("call" : Str), ("inner" : Str), ("do" : Str), ("shows" : Str)]
  xB := fun K => ftupA K (kwdAt ("Plan", some "__init__") "first" K) [.int 0]
theorem okB : dns.all (dnB F) = true := by decide +kernel
theorem okL : L.ok = true := by decide +kernel
end Law
end
end
section
set_option Elab.async false
set_option linter.all false
set_option maxRecDepth 100000
set_option maxHeartbeats 0
noncomputable section
namespace Law
open PySem PySem.W PySem.Calls PyProof.Rows SC
abbrev R : OpenRow := OpenLaw.row PySem.Challenge.rw_straightcalls_k35_known
abbrev qv : Program := view R.prog [56]
def n1 : List PySem.Str := ["__name__", "CallError", "BadPlan", "BadKind", "BadSite", "BadBook", "BadHistory", "BadWish", "TooLarge", "MOST_KINDS", "MOST_CALLS", "WATCHES", "TAKINGS", "is_number", "is_word", "are_parents", "are_kinds", "are_bodies", "are_numbers", "are_loaded", "Plan", "check_site", "bodies_at", "is_note", "check_plan", "check_book", "does_hit", "MOST_STATES", "World"]
def n2 : List PySem.Str := ["start_of", "deeds_of", "is_deed", "done", "walked", "check_history", "reach", "state_after", "deeds", "shown", "all_states", "WISHES", "check_wish", "Safe", "Broken", "judged", "judge", "is_safe", "soonest", "broken_by", "_law_amid_right", "_law_bound_right", "_law_inherited_right"]
def names : List PySem.Str := n1 ++ n2
abbrev hk : PySem.W.Hook := hookX 5 L.fa (L.dns.map (·.dd)) L.B
def ob (s : PySem.W.SharedT) : He.AlD := obsXG 5 L.fa (L.dns.map (·.dd)) L.B (HandSHeadRun.getT s)
theorem ob_eq (s : PySem.W.SharedT) : ob s = hk.obs s.abs := obsXG_eq (HandSHeadRun.getT_eq s)
theorem run (w : World) : HandSHeadRun.RunEq R qv hk ob 6000 names w := by
  intro os
  kernel_rfl
end Law
end
end
section
set_option Elab.async false
set_option linter.all false
set_option maxRecDepth 100000
set_option maxHeartbeats 0
noncomputable section
namespace Law
open PySem SC L2
variable {K : PySem.W.Frag}
theorem mkPlan (c : SaysX L.fa (L.dns.map (·.dd)) L.B K) : MkA L K 0 := by
  obtain ⟨fd, h1, h2⟩ := adr_of (F := F) c okB (j := 7) (d := dn_Plan___init__) rfl
  obtain ⟨ds, r, b⟩ := h2.binds0 (ps := nn_Plan___init__.take 6) 5 (by simp [dn_Plan___init__, He.DefD.kws]) (by rfl) (fun D doc pm an cdv ct us ks hl hk => by
    match us, ks, hl, hk with
    | [_, _, _, _, _], [_], _, _ => exact ⟨_, _, _, _, _, _, rfl, rfl, rfl⟩)
  refine ⟨7, fd, _, ds, _, [.tup [.int 0]], rfl, ⟨"Plan", rfl, h1⟩, b, r, fun n ρ h => ?_, fun μ Hh => ?_⟩
  · have e : L.F.dfl 0 = [.tup [.cI 0]] := rfl
    rw [e]
    simp [denL, den, newT, sizeCap]
  · exact .cons (.tup (ftupA_ok (LawD.xb c).1 Hh) (.cons (.int 0) .nil)) .nil
theorem kwPlan (c : SaysX L.fa (L.dns.map (·.dd)) L.B K) : ∃ fd, adrOf L.dns K 7 = some (He.fAd K ("Plan", some "__init__"), fd, nn_Plan___init__.take 6) ∧ KBn K fd (nn_Plan___init__.take 6) (4 + 1) ["first"] (fun us ws => us ++ ws) (fun us ws => us ++ ws) := by
  obtain ⟨fd, h1, h2⟩ := adr_of (F := F) c okB (j := 7) (d := dn_Plan___init__) rfl
  refine ⟨fd, h1, ?_⟩
  obtain ⟨mv, b⟩ := h2.kbinds0 (ps := nn_Plan___init__.take 6) 5 ["first"] [] (fun us _ ws => us ++ ws) (by simp [dn_Plan___init__, He.DefD.kws]) (by simp) (fun r1 _ r3 => r1.append r3) (fun D doc pm an cdv ct us mv ws hl hm hw => by
    match us, mv, ws, hl, hm, hw with
    | [_, _, _, _, _], [], [_], _, _, _ => rfl)
  exact b
end Law
end
end
section
set_option Elab.async false
set_option linter.all false
set_option maxRecDepth 100000
set_option maxHeartbeats 0
open PySem PySem.W PySem.Calls PyProof.Rows SC
theorem Law.facts {P : Program} {w : World} {K : PySem.W.Frag} {h : Heap} {mg : Str → Option Value} {f : Addr} {n : Nat} (X : K.In h) (G : h.Ns mainGlobals mg) (hfa : mg ("law" : Str) = some (.ref f)) (c : SaysX Law.L.fa (Law.L.dns.map (·.dd)) Law.L.B K) :
    ∃ fd : FuncData, (∀ (s : Shared) (v : Value), BindsTo s fd ⟨[v], []⟩ [("_law_script", v)]) ∧ ∀ base : Heap, L2.FnOk P w K mg base L2.CX0 (2 * n) f fd ["_law_script"] (spF ⟨P, w, K, Law.L.T, Law.L.names, (Law.L.Y K).cls⟩ (SC.fdOf Law.L.dns) n 503) := by
  have t : Tie (Law.L.Y K) Law.F K mg (adrOf Law.L.dns K) := tie (L := Law.L) X G c Law.okB Law.okL (fun x k e => ?_) (fun x k m kw e => ?_)
  · obtain ⟨fd, h1, h2⟩ := adr_of (F := Law.F) c Law.okB (j := 503) (d := Law.dn_law) rfl
    have e := hfa.symm.trans (He.glo_ok X G (c.fact (f := .glo "law") (by
      simp only [LawD.fa, List.mem_append]
      exact .inl (.inl (.inl (.inl (.inl (.inl (.inl (.inl (List.mem_map.mpr ⟨("law", 503), by decide +kernel, rfl⟩))))))))))) 
    cases e
    have b := L2.FunD.bindsA (ps := ["_law_script"]) h2 fun _ _ _ _ _ _ us hl => bind_plain (by decide +kernel) hl
    exact ⟨fd, fun s v => b s [v] rfl, fun base => all_ok (P := P) (w := w) (base := base) t n 503 _ fd _ h1⟩
  · have hk := lookup_mem' e
    have : x = "Plan" ∧ k = 0 ∨ x = "World" ∧ k = 1 ∨ x = "Safe" ∧ k = 2 ∨ x = "Broken" ∧ k = 3 := by
      simpa [Law.L, Law.F] using hk
    rcases this with ⟨rfl, rfl⟩ | ⟨rfl, rfl⟩ | ⟨rfl, rfl⟩ | ⟨rfl, rfl⟩
    · exact Law.mkPlan c
    · exact mk_plain c Law.okB (x := "World") rfl rfl (by decide +kernel) rfl
    · exact mk_plain c Law.okB (x := "Safe") rfl rfl (by decide +kernel) rfl
    · exact mk_plain c Law.okB (x := "Broken") rfl rfl (by decide +kernel) rfl
  · have hk := lookup_mem' e
    have : x = "Plan" ∧ k = 0 ∧ m = 4 ∧ kw = "first" := by simpa [Law.L, Law.F] using hk
    obtain ⟨rfl, rfl, rfl, rfl⟩ := this
    obtain ⟨fd, h1, h2⟩ := Law.kwPlan c
    exact ⟨7, fd, _, _, rfl, rfl, by decide +kernel, rfl, h1, h2⟩
theorem Law.holds_of (n : Nat) (hr : L2.Room (2 * n) callerA) (hl : ∀ ns : List Int, ns.length ≤ 63 → ∃ h', Phi Law.L.T (SC.fdOf Law.L.dns) n 503 [.ref 0] (scrH ns) = .ok (.bl true) h') : PySem.Challenge.rw_straightcalls_k35_known.Holds := by
  w_on; o_law
  refine HandSHeadRun.head_any (r := OpenLaw.row PySem.Challenge.rw_straightcalls_k35_known) (q := Law.qv) (H := Law.hk) (ob := Law.ob) (M := 6000) (loose := Law.names) (d := HandSHeadRun.topDef (OpenLaw.row PySem.Challenge.rw_straightcalls_k35_known).prog 56) (kwd := []) Law.ob_eq
    (by kernel_rfl) (fun s => by kernel_rfl) Law.run (by kernel_rfl) (by kernel_rfl) (by kernel_rfl) (by rfl) (by first | assumption | decide +kernel) (by decide +kernel) ⟨rfl, rfl, rfl, rfl, rfl, by decide +kernel⟩ ?hw ?hc
  case hw => w_witness2
  case hc =>
    refine L2.walk_ofE (l := PySem.Challenge.rw_straightcalls_k35_known) (n := 63) (k := 2 * n) (x := "_law_script") (CX := L2.CX0) rfl (by decide) (by kernel_rfl) hr ?F (fun _ _ _ _ z => z)
    intro w mg fa h Y G hmg0
    obtain ⟨K, KX, c⟩ := Y
    have hmg : mg ("law" : PySem.Str) = some (.ref fa) := by
      have e : (HandSHeadRun.topDef (OpenLaw.row PySem.Challenge.rw_straightcalls_k35_known).prog 56).name = ("law" : PySem.Str) := by kernel_rfl
      rw [← e]
      exact hmg0
    obtain ⟨fd, hb, hF⟩ := Law.facts (P := (PySem.Challenge.rw_straightcalls_k35_known).prog) (w := w) (n := n) KX G hmg c
    exact ⟨K, fd, _, KX, hb, fun H a ns hlen hO hS => law_sp (S := ⟨_, w, K, Law.L.T, Law.L.names, (Law.L.Y K).cls⟩) (LawD.xb c).2 hl H a ns hlen hO hS, fun base _ _ => hF base⟩
end
section
set_option Elab.async false
set_option linter.all false
set_option maxRecDepth 100000
set_option maxHeartbeats 0
noncomputable section
namespace Law
open SC
theorem ag : AgJ L.T (fdOf L.dns) where
  f0 := by kernel_rfl
  f9 := by kernel_rfl
  f10 := by kernel_rfl
  f11 := by kernel_rfl
  f12 := by kernel_rfl
  f14 := by kernel_rfl
  f15 := by kernel_rfl
  f16 := by kernel_rfl
  f20 := by kernel_rfl
  m15 := by kernel_rfl
  m16 := by kernel_rfl
  m17 := by kernel_rfl
  m19 := by kernel_rfl
  l0 := by kernel_rfl
  f21 := by kernel_rfl
  f22 := by kernel_rfl
  f23 := by kernel_rfl
  f24 := by kernel_rfl
  f25 := by kernel_rfl
  f26 := by kernel_rfl
  f27 := by kernel_rfl
  f28 := by kernel_rfl
  f29 := by kernel_rfl
  f30 := by kernel_rfl
  f31 := by kernel_rfl
  f32 := by kernel_rfl
  m20 := by kernel_rfl
  m21 := by kernel_rfl
  m22 := by kernel_rfl
  m23 := by kernel_rfl
  m24 := by kernel_rfl
  m25 := by kernel_rfl
  i1 := by kernel_rfl
  f1 := by kernel_rfl
  f17 := by kernel_rfl
  f18 := by kernel_rfl
  f19 := by kernel_rfl
  f33 := by kernel_rfl
  f34 := by kernel_rfl
  f35 := by kernel_rfl
  f36 := by kernel_rfl
  f37 := by kernel_rfl
  g2 := by kernel_rfl
  g3 := by kernel_rfl
  g4 := by kernel_rfl
  f38 := by kernel_rfl
  f39 := by kernel_rfl
  f40 := by kernel_rfl
  f41 := by kernel_rfl
  f42 := by kernel_rfl
  f43 := by kernel_rfl
  f44 := by kernel_rfl
  f45 := by kernel_rfl
  f46 := by kernel_rfl
  g5 := by kernel_rfl
  i2 := by kernel_rfl
  i3 := by kernel_rfl
theorem run500l (X : AO) (fl : Nat) : Psi L.T (fdOf L.dns) Orc 19 500 [.str "later"] ⟨[X], fl, []⟩ = .ok (.bl true) ⟨[X], fl, []⟩ := by kernel_rfl
theorem run500o (X : AO) (fl : Nat) : Psi L.T (fdOf L.dns) Orc 19 500 [.str "once"] ⟨[X], fl, []⟩ = .ok (.bl true) ⟨[X], fl, []⟩ := by kernel_rfl
theorem run501 (X : AO) (fl : Nat) : Psi L.T (fdOf L.dns) Orc 19 501 [] ⟨[X], fl, []⟩ = .ok (.bl true) ⟨[X], fl, []⟩ := by kernel_rfl
theorem run502 (X : AO) (fl : Nat) : Psi L.T (fdOf L.dns) Orc 19 502 [] ⟨[X], fl, []⟩ = .ok (.bl true) ⟨[X], fl, []⟩ := by kernel_rfl
theorem phi_of {j : Nat} {as : List D} {h h' : H} {v : D} (e : Psi L.T (fdOf L.dns) Orc 19 j as h = .ok v h') : Phi L.T (fdOf L.dns) 19 j as h = .ok v h' :=
  LeR.ok (Psi_le (fun n j as h r e => Orc_ok ag e) 19 j as h) e
theorem cut_ints (ns : List Int) (lo hi : Option Int) : ∃ ms : List Int, cutL (ns.map D.int) lo hi = ms.map D.int := by
  refine ⟨(ns.drop (HT.sIx ns.length 0 lo)).take (HT.sIx ns.length ns.length hi - HT.sIx ns.length 0 lo), ?_⟩
  simp [cutL, List.map_take, List.map_drop]
theorem intsOf_ints : ∀ ns : List Int, intsOf (ns.map D.int) = some ns
  | [] => rfl
  | n :: ns => by simp [intsOf, intsOf_ints ns]
theorem law_body {T : Tab} {Φ : Nat → Fn} {ns : List Int} {fl : Nat} (e1 : ∀ w : PySem.Str, (w = "later" ∨ w = "once") → Φ 500 [.str w] ⟨[.fz (ns.map D.int)], fl, []⟩ = .ok (.bl true) ⟨[.fz (ns.map D.int)], fl, []⟩)
    (e2 : Φ 501 [] ⟨[.fz (ns.map D.int)], fl, []⟩ = .ok (.bl true) ⟨[.fz (ns.map D.int)], fl, []⟩) (e3 : Φ 502 [] ⟨[.fz (ns.map D.int)], fl, []⟩ = .ok (.bl true) ⟨[.fz (ns.map D.int)], fl, []⟩) :
    fin (execs T Φ ir_law.body [some (.ref 0), none] ⟨[.fz (ns.map D.int)], fl, []⟩) = .ok (.bl true) ⟨[.fz (ns.map D.int)], fl, []⟩ := by
  obtain ⟨ms, em⟩ := cut_ints ns none (some 63)
  have t : den T Φ (.tmp (.blt .sum (.slice (.var 0) none (some (.cI 63))))) [some (.ref 0), none] ⟨[.fz (ns.map D.int)], fl, []⟩ = .ok (.int ms.sum) ⟨[.fz (ns.map D.int)], fl, []⟩ := by
    refine tmp_ok2 rfl ?_
    simp [sliceD, em, alloc, H.push, bltD, listD, intsOf_ints]
  have h2 : ms.sum % 2 = 0 ∨ ms.sum % 2 = 1 := by omega
  unfold ir_law
  have key : ∀ w : PySem.Str, (w = "later" ∨ w = "once") → execs T Φ [.ret (.and_ (.call 500 [(.var 1)]) (.and_ (.call 501 []) (.call 502 [])))] [some (.ref 0), some (.str w)] ⟨[.fz (ns.map D.int)], fl, []⟩ = .rt (.bl true) ⟨[.fz (ns.map D.int)], fl, []⟩ := fun w hw => by
    have e1 := e1 w hw
    simp [e1, e2, e3]
  rcases h2 with c | c
  · rw [execs_asgn (.str "later") ⟨[.fz (ns.map D.int)], fl, []⟩ (by
      simp [newT, sizeCap]
      rw [t]
      simp [bltD, op2, c, subD, ixAt, L2.ixN])]
    rw [show ([some (.ref 0), none] : Env).set 1 (some (.str "later")) = [some (.ref 0), some (.str "later")] from rfl, key _ (.inl rfl)]
    rfl
  · rw [execs_asgn (.str "once") ⟨[.fz (ns.map D.int)], fl, []⟩ (by
      simp [newT, sizeCap]
      rw [t]
      simp [bltD, op2, c, subD, ixAt, L2.ixN])]
    rw [show ([some (.ref 0), none] : Env).set 1 (some (.str "once")) = [some (.ref 0), some (.str "once")] from rfl, key _ (.inr rfl)]
    rfl
theorem run500 (X : AO) (fl : Nat) (w : PySem.Str) (hw : w = "later" ∨ w = "once") : Phi L.T (fdOf L.dns) 19 500 [.str w] ⟨[X], fl, []⟩ = .ok (.bl true) ⟨[X], fl, []⟩ := by
  rcases hw with rfl | rfl
  · exact phi_of (run500l X fl)
  · exact phi_of (run500o X fl)
theorem law_at : fdOf L.dns 503 = some ir_law := by kernel_rfl
theorem plain (ns : List Int) : ∃ h', Phi L.T (fdOf L.dns) 20 503 [.ref 0] (scrH ns) = .ok (.bl true) h' := by
  refine ⟨scrH ns, phi_P' (n := 19) law_at rfl ⟨rfl, by decide⟩ rfl fun h' e ek ef => ⟨h', ?_⟩⟩
  obtain ⟨o, fl, lk⟩ := h'
  simp only [scrH] at e ek
  subst e ek
  exact law_body (run500 _ fl) (phi_of (run501 _ fl)) (phi_of (run502 _ fl))
end Law
end
end
section
open PySem SC
theorem Law.room : L2.Room (2 * 20) callerA := ⟨rfl, by decide +kernel, by decide +kernel⟩
theorem Law.final : PySem.Challenge.rw_straightcalls_k35_known.Holds := Law.holds_of 20 Law.room fun ns _ => Law.plain ns
end
theorem PySem.Challenge.cw_straightcalls_k35_known_holds : PySem.Challenge.rw_straightcalls_k35_known.Holds := by
  exact Law.final
