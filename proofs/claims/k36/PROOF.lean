import PyProof.Rows.All
import Wide.All
import OpenK.AllK
import Wide.FinOn
import HandS.ForMost
import HandS.ForExc
import HandS.IsInst
import HandS.TupAny
import HandS.TupMul
import HandS.Iter
import HandS.Wide
import HandS.WideBits
import HandS.Lambda
import HandS.SetKeys
import HandS.WordsDict
import KE.GoesMore
import HandS.Zip
import HandS.ExcField
import HandS.EndTab
import HandS.Flow
import HandS.TryOnly
import HandS.ExcInit
import HandS.ExcOwn
import HandS.Defaults
import KE.KExcInit
import HandS.Style
import HandS.Head0
import HandS.Head1
import HandS.Head2
import HandS.HeadEnd
import HandS.HeadHook1
import HandS.HeadHook2
import HandS.Codes
import HandS.HeadHook3
import HandS.HeadHook4
import HandS.HeadWalk
import PySem.Challenge.RW_boughsums_k36_whole_great_surroundings
section
set_option Elab.async false
set_option linter.all false
set_option maxRecDepth 100000
/-! PyD, part A: a small core language, deep values, a store, what a core text wants (its weakest precondition). -/
namespace PD
open PySem

/-- a value: tuples as trees, what can change by its address; a text by its codes -/
inductive D where
  | non | bl (b : Bool) | int (i : Int) | str (x : List Nat) | tup (ds : List D) | ref (a : Addr)
  /-- a list that is only read -/
  | lis (ds : List D)
  /-- a function, a class of the program, by its number; a built-in type -/
  | fn (f : Nat) | cls (c : Nat) | ty (n : String)
  deriving Inhabited

abbrev Key := Sum Int (List Nat)
/-- what stands in the store: a list, a dict by ints and texts -/
inductive SO where
  | lst (ds : List D)
  | dk (kvs : List (Key × D))
abbrev DS := Addr → Option SO
def DS.put (S : DS) (a : Addr) (o : SO) : DS := fun b => if b = a then some o else S b
/-- an exception: its class's number, its fields -/
structure Exn where
  c : Nat
  fs : List D

inductive Op where
  | add | sub | mul | fdiv | mod | pow
  deriving DecidableEq
inductive Cm where
  | eq | ne | lt | le | gt | ge | is | isnot | isin | notin
  deriving DecidableEq
/-- built-in functions and types that are called -/
inductive BI where
  | len | abs | int | isinst | tuple | list | sum | max | min | all | any
  deriving DecidableEq
/-- methods of built-in types -/
inductive MT where
  | append | pop | extend | setdefault
  deriving DecidableEq

mutual
/-- an expression -/
inductive C where
  | var (i : Nat) | int (i : Int) | str (x : List Nat) | bl (b : Bool) | non
  | gl (g : Nat) | ty (n : String)
  | neg (a : C) | not (a : C)
  | bin (o : Op) (a b : C)
  | and (a b : C) | or (a b : C)
  | ite (t : Te) (a b : C)
  | cmp (o : Cm) (a b : C)
  | chain (o p : Cm) (a b c : C)
  | call (f : Nat) (es : List C)
  /-- a call within a lambda's body -/
  | callL (f : Nat) (es : List C)
  /-- t(lambda: b), t a def that calls what it gets and tells a caught exception -/
  | told (t : Nat) (b : C)
  | callv (i : Nat) (es : List C)
  | bi (b : BI) (es : List C)
  | biL (b : BI) (l : L)
  | mth (m : MT) (o : C) (es : List C)
  | ext (o : C) (l : L)
  | ix (a i : C)
  | sl (a : C) (lo hi : Option C)
  | tup (es : List C) | mk (l : L)
  | dct0
/-- a test -/
inductive Te where
  | and (a b : Te) | or (a b : Te) | not (a : Te) | val (e : C)
/-- a list that is made for the one who asks, or read -/
inductive L where
  | ex (e : C) | exl (e : C) | lst (es : List C) | lc (e : C) (tg : Tg) (w : W) (t : Option Te)
/-- what is walked -/
inductive W where
  | ex (e : C) | fl (l : L) | range1 (a : C) | range2 (a b : C) | enum (e : C) | zip (a b : C)
/-- a target -/
inductive Tg where
  | name (i : Nat) | tup (ts : List Tg) | sub (o i : C)
end

mutual
inductive T where
  | ret (e : C) | retN
  | expr (e : C)
  | asg (t : Tg) (e : C)
  | aug (i : Nat) (o : Op) (e : C)
  | ite (t : Te) (a b : List T)
  | while (t : Te) (b : List T)
  | for (tg : Tg) (w : W) (b : List T)
  | raise (c : Nat) (es : List C)
  | brk | cont | pass
  /-- what is never reached -/
  | never
end

/-- a function: its name, its parameters, its slots, its body -/
structure Fn where
  name : Str
  ps : List Str
  N : List Str
  body : List T
  /-- it makes lambdas -/
  lam : Bool := false
/-- a class of exceptions: its name, its base's number (none: Exception), its fields -/
structure Cl where
  name : Str
  base : Option Nat
  fs : List Str
/-- what a caught exception is told as: texts and fields, in a tuple -/
abbrev HR := List (Sum (List Nat) Nat)
def hvals : HR → List D → Option (List D)
  | [], _ => some []
  | .inl x :: r, fs => match hvals r fs with
    | some ds => some (.str x :: ds)
    | none => none
  | .inr i :: r, fs => match fs[i]?, hvals r fs with
    | some d, some ds => some (d :: ds)
    | _, _ => none
/-- def t(a): try: return a() / except c as e: return (..) ; c: the class's number -/
structure Told where
  name : Str
  c : Nat
  r : HR
structure Prog where
  fns : List Fn
  cls : List Cl
  gl : List (Str × D)
  told : List Told

/-! ### values -/
abbrev lim : Nat := 16777216
mutual
/-- nothing in it that can change -/
def D.pure : D → Bool
  | .non | .bl _ | .int _ | .str _ => true
  | .tup ds => D.pures ds
  | _ => false
def D.pures : List D → Bool
  | [] => true
  | d :: ds => d.pure && D.pures ds
end
mutual
def D.dep : D → Nat
  | .tup ds => D.deps ds + 1
  | _ => 0
def D.deps : List D → Nat
  | [] => 0
  | d :: ds => max d.dep (D.deps ds)
end
mutual
/-- == of pure values -/
def D.eqv : D → D → Bool
  | .non, .non => true
  | .bl a, .bl b => a == b
  | .bl a, .int j => (if a then 1 else 0) == j
  | .int i, .bl b => i == (if b then 1 else 0)
  | .int i, .int j => i == j
  | .str x, .str y => x == y
  | .tup xs, .tup ys => D.eqvs xs ys
  | _, _ => false
def D.eqvs : List D → List D → Bool
  | [], [] => true
  | x :: xs, y :: ys => D.eqv x y && D.eqvs xs ys
  | _, _ => false
end
mutual
/-- data, where lists are read by r -/
def D.py (r : Addr → Option PyData) : D → Option PyData
  | .non => some .none
  | .bl b => some (.bool b)
  | .int i => some (.int i)
  | .str x => some (.str ⟨x.toArray⟩)
  | .tup ds => match D.pys r ds with
    | some ps => some (.tuple ps)
    | none => none
  | .lis ds => match D.pys r ds with
    | some ps => some (.list ps)
    | none => none
  | .ref a => r a
  | _ => none
def D.pys (r : Addr → Option PyData) : List D → Option (List PyData)
  | [] => some []
  | d :: ds => match D.py r d, D.pys r ds with
    | some p, some ps => some (p :: ps)
    | _, _ => none
end
/-- lists read so deep -/
def DS.rd (S : DS) : Nat → Addr → Option PyData
  | 0, _ => none
  | n + 1, a => match S a with
    | some (.lst ds) => match D.pys (DS.rd S n) ds with
      | some ps => some (.list ps)
      | none => none
    | _ => none

abbrev Env := List (Option D)
abbrev QD := D → DS → Prop
abbrev QE := Exn → DS → Prop
/-- no exception -/
def noE : QE := fun _ _ => False

/-- the list at a -/
def DS.lst? (S : DS) : D → Option (List D)
  | .ref a => match S a with
    | some (.lst ds) => some ds
    | _ => none
  | .tup ds => some ds
  | .lis ds => some ds
  | _ => none
/-- .. a list alone -/
def DS.lsl? (S : DS) : D → Option (List D)
  | .ref a => match S a with
    | some (.lst ds) => some ds
    | _ => none
  | .lis ds => some ds
  | _ => none
/-- truth -/
def truth (d : D) (S : DS) : Option Bool := match d with
  | .non => some false
  | .bl b => some b
  | .int i => some (i != 0)
  | .str x => some (!x.isEmpty)
  | .tup ds => some (!ds.isEmpty)
  | .lis ds => some (!ds.isEmpty)
  | .ref a => match S a with
    | some (.lst ds) => some (!ds.isEmpty)
    | some (.dk kvs) => some (!kvs.isEmpty)
    | none => none
  | _ => none
def truthW (d : D) (S : DS) (Q : Bool → DS → Prop) : Prop := match truth d S with
  | some b => Q b S
  | none => False

def mulOk (i j : Int) : Prop := (-(2 ^ 64) < i ∧ i < 2 ^ 64) ∨ (-(2 ^ 64) < j ∧ j < 2 ^ 64) ∨ i.natAbs.log2 + j.natAbs.log2 ≤ 100000000
def divOk (i j : Int) : Prop := 0 < j ∧ Builtin.divisionGoesByPylong i j = false
def powOk (i j : Int) : Prop := 0 ≤ j ∧ j ≤ 1000000 ∧ i.natAbs < 2 ^ 64
/-- a new object -/
def newW (o : SO) (S : DS) (Q : QD) : Prop := ∀ p, S p = none → Q (.ref p) (S.put p o)
/-- list + list, list * int -/
def catW (x y : D) (S : DS) (Q : QD) : Prop := match S.lsl? x, S.lsl? y with
  | some xs, some ys => xs.length + ys.length ≤ lim ∧ newW (.lst (xs ++ ys)) S Q
  | _, _ => False
def repW (x : D) (j : Int) (S : DS) (Q : QD) : Prop := match S.lsl? x with
  | some xs => 0 ≤ j ∧ j ≤ 1000 ∧ xs.length ≤ 1000 ∧ newW (.lst (List.replicate j.toNat xs).flatten) S Q
  | none => False
def binW (o : Op) (x y : D) (S : DS) (Q : QD) : Prop := match o, x, y with
  | .add, .int i, .int j => Q (.int (i + j)) S
  | .add, .str a, .str b => a.length + b.length ≤ lim ∧ Q (.str (a ++ b)) S
  | .add, .tup a, .tup b => a.length + b.length ≤ lim ∧ Q (.tup (a ++ b)) S
  | .add, .ref a, y => catW (.ref a) y S Q
  | .add, .lis a, y => catW (.lis a) y S Q
  | .mul, .ref a, .int j => repW (.ref a) j S Q
  | .mul, .lis a, .int j => repW (.lis a) j S Q
  | .sub, .int i, .int j => Q (.int (i - j)) S
  | .mul, .int i, .int j => mulOk i j ∧ Q (.int (i * j)) S
  | .mul, .tup a, .int j => 0 ≤ j ∧ j ≤ 1000 ∧ a.length ≤ 1000 ∧ Q (.tup (List.replicate j.toNat a).flatten) S
  | .fdiv, .int i, .int j => divOk i j ∧ Q (.int (i / j)) S
  | .mod, .int i, .int j => 0 < j ∧ Q (.int (i % j)) S
  | .pow, .int i, .int j => powOk i j ∧ Q (.int (i ^ j.toNat)) S
  | _, _, _ => False
/-- x == y -/
def eqW (x y : D) (S : DS) (Q : Bool → Prop) : Prop := ∃ n p q, D.py (S.rd n) x = some p ∧ D.py (S.rd n) y = some q ∧ min p.depth q.depth ≤ 1000 ∧ Q (PyData.eqv p q)
def keyOf : D → Option Key
  | .int i => some (.inl i)
  | .str x => some (.inr x)
  | _ => none
def getK (kvs : List (Key × D)) (k : Key) : Option D := match kvs.find? fun kv => decide (kv.1 = k) with
  | some kv => some kv.2
  | none => none
/-- x in y -/
def inL (x : D) (ds : List D) (S : DS) (Q : Bool → Prop) : Prop := ∃ n p ps, D.py (S.rd n) x = some p ∧ D.pys (S.rd n) ds = some ps ∧ min (PyData.depthAll ps) p.depth ≤ 1000 ∧ Q (ps.any fun y => PyData.eqv y p)
def inW (x y : D) (S : DS) (Q : Bool → Prop) : Prop := match y with
  | .str b => match x with
    | .str [c] => Q (b.contains c)
    | _ => False
  | .tup ds => inL x ds S Q
  | .lis ds => inL x ds S Q
  | .ref a => match S a with
    | some (.lst ds) => inL x ds S Q
    | some (.dk kvs) => match keyOf x with
      | some k => Q (getK kvs k).isSome
      | none => False
    | none => False
  | _ => False
def isNon : D → Bool
  | .non => true
  | _ => false
def cmpW (o : Cm) (x y : D) (S : DS) (Q : Bool → Prop) : Prop := match o with
  | .eq => eqW x y S Q
  | .ne => eqW x y S fun b => Q (!b)
  | .isin => inW x y S Q
  | .notin => inW x y S fun b => Q (!b)
  | .lt => match x, y with
    | .int i, .int j => Q (decide (i < j))
    | .str a, .str b => Q (decide (a < b))
    | _, _ => False
  | .le => match x, y with
    | .int i, .int j => Q (decide (i ≤ j))
    | _, _ => False
  | .gt => match x, y with
    | .int i, .int j => Q (decide (j < i))
    | _, _ => False
  | .ge => match x, y with
    | .int i, .int j => Q (decide (j ≤ i))
    | _, _ => False
  | .is => match y with
    | .non => Q (isNon x)
    | _ => False
  | .isnot => match y with
    | .non => Q (!isNon x)
    | _ => False
/-- the place that a Python index names -/
def ixP (n : Nat) (i : Int) : Option Nat := if 0 ≤ i then (if i < n then some i.toNat else none) else if -(n : Int) ≤ i then some (i + n).toNat else none
def ixL (ds : List D) (i : Int) (Q : D → Prop) : Prop := match ixP ds.length i with
  | some j => match ds[j]? with
    | some d => Q d
    | none => False
  | none => False
def ixW (x i : D) (S : DS) (Q : QD) : Prop := match x with
  | .str b => match i with
    | .int i => match ixP b.length i with
      | some j => match b[j]? with
        | some c => Q (.str [c]) S
        | none => False
      | none => False
    | _ => False
  | .tup ds => match i with
    | .int i => ixL ds i fun d => Q d S
    | _ => False
  | .lis ds => match i with
    | .int i => ixL ds i fun d => Q d S
    | _ => False
  | .ref a => match S a with
    | some (.lst ds) => match i with
      | .int i => ixL ds i fun d => Q d S
      | _ => False
    | some (.dk kvs) => match keyOf i with
      | some k => match getK kvs k with
        | some d => Q d S
        | none => False
      | none => False
    | none => False
  | _ => False
/-- where a Python bound lies -/
def bnd (n d : Nat) : Option Int → Nat
  | none => d
  | some i => if i < 0 then (i + (n : Int)).toNat else min i.toNat n
def cutD {α : Type} (xs : List α) (lo hi : Option Int) : List α := (xs.drop (bnd xs.length 0 lo)).take (bnd xs.length xs.length hi - bnd xs.length 0 lo)
def slW (x : D) (lo hi : Option Int) (S : DS) (Q : QD) : Prop := match x with
  | .tup ds => Q (.tup (cutD ds lo hi)) S
  | .lis ds => newW (.lst (cutD ds lo hi)) S Q
  | .ref a => match S.lst? (.ref a) with
    | some ds => newW (.lst (cutD ds lo hi)) S Q
    | none => False
  | _ => False

/-- ints, bools of a list -/
def ints? : List D → Option (List Int)
  | [] => some []
  | .int i :: ds => match ints? ds with
    | some is => some (i :: is)
    | none => none
  | _ => none
def bls? : List D → Option (List Bool)
  | [] => some []
  | .bl b :: ds => match bls? ds with
    | some bs => some (b :: bs)
    | none => none
  | _ => none
/-- is d of the type | class -/
def isOf (d : D) (n : String) (S : DS) : Option Bool := match d with
  | .non => some (n == "NoneType")
  | .bl _ => some (n == "bool" || n == "int")
  | .int _ => some (n == "int")
  | .str _ => some (n == "str")
  | .tup _ => some (n == "tuple")
  | .lis _ => some (n == "list")
  | .ref a => match S a with
    | some (.lst _) => some (n == "list")
    | some (.dk _) => some (n == "dict")
    | none => none
  | _ => none
def intMax : Int → List Int → Int
  | m, [] => m
  | m, x :: xs => intMax (if m < x then x else m) xs
def intMin : Int → List Int → Int
  | m, [] => m
  | m, x :: xs => intMin (if x < m then x else m) xs
/-- a built-in called with values; a list that was made for it is told by its items (see biL) -/
def biW (b : BI) (ds : List D) (S : DS) (Q : QD) : Prop := match b, ds with
  | .len, [.str x] => x.length ≤ lim ∧ Q (.int x.length) S
  | .len, [.ref a] => match S a with
    | some (.lst xs) => Q (.int xs.length) S
    | some (.dk kvs) => Q (.int kvs.length) S
    | none => False
  | .len, [.tup xs] => Q (.int xs.length) S
  | .len, [.lis xs] => Q (.int xs.length) S
  | .abs, [.int i] => Q (.int (if i < 0 then -i else i)) S
  | .int, [.int i] => Q (.int i) S
  | .isinst, [d, .ty n] => match isOf d n S with
    | some b => Q (.bl b) S
    | none => False
  | .max, [.int i, .int j] => Q (.int (if j > i then j else i)) S
  | .min, [.int i, .int j] => Q (.int (if j < i then j else i)) S
  | _, _ => False
/-- a built-in over the items of a list or a tuple -/
def biL (b : BI) (ds : List D) (S : DS) (Q : QD) : Prop := match b with
  | .tuple => Q (.tup ds) S
  | .list => newW (.lst ds) S Q
  | .sum => match ints? ds with
    | some is => Q (.int is.sum) S
    | none => False
  | .max => match ints? ds with
    | some (i :: is) => Q (.int (intMax i is)) S
    | _ => False
  | .min => match ints? ds with
    | some (i :: is) => Q (.int (intMin i is)) S
    | _ => False
  | .all => match bls? ds with
    | some bs => Q (.bl (bs.all id)) S
    | none => False
  | .any => match bls? ds with
    | some bs => Q (.bl (bs.any id)) S
    | none => False
  | _ => False
def overL : BI → Bool
  | .tuple | .list | .sum | .max | .min | .all | .any => true
  | _ => false
def putK (kvs : List (Key × D)) (k : Key) (v : D) : List (Key × D) :=
  if (getK kvs k).isSome then kvs.map fun kv => if kv.1 = k then (kv.1, v) else kv else kvs ++ [(k, v)]
/-- a method with its arguments -/
def lstM (m : MT) (a : Addr) (xs : List D) (ds : List D) (S : DS) (Q : QD) : Prop := match m, ds with
  | .append, [d] => xs.length < lim ∧ Q .non (S.put a (.lst (xs ++ [d])))
  | .pop, [] => match xs.getLast? with
    | some d => Q d (S.put a (.lst xs.dropLast))
    | none => False
  | _, _ => False
def dkM (m : MT) (a : Addr) (kvs : List (Key × D)) (ds : List D) (S : DS) (Q : QD) : Prop := match m, ds with
  | .setdefault, [k, v] => match keyOf k with
    | some k => kvs.length < lim ∧ match getK kvs k with
      | some d => Q d S
      | none => Q v (S.put a (.dk (kvs ++ [(k, v)])))
    | none => False
  | _, _ => False
def mthW (m : MT) (o : D) (ds : List D) (S : DS) (Q : QD) : Prop := match o with
  | .ref a => match S a with
    | some (.lst xs) => lstM m a xs ds S Q
    | some (.dk kvs) => dkM m a kvs ds S Q
    | _ => False
  | _ => False
/-- the object of a method is of its type -/
def kindW (m : MT) (o : D) (S : DS) : Prop := match o with
  | .ref a => match m, S a with
    | .setdefault, some (.dk _) => True
    | .append, some (.lst _) => True
    | .pop, some (.lst _) => True
    | .extend, some (.lst _) => True
    | _, _ => False
  | _ => False
/-- o.extend(items) -/
def extW (o : D) (ds : List D) (S : DS) (Q : QD) : Prop := match o with
  | .ref a => match S a with
    | some (.lst xs) => xs.length + ds.length ≤ lim ∧ Q .non (S.put a (.lst (xs ++ ds)))
    | _ => False
  | _ => False
/-- o[i] = v -/
def setW (o i v : D) (S : DS) (Q : DS → Prop) : Prop := match o, i with
  | .ref a, .int i => match S a with
    | some (.lst xs) => match ixP xs.length i with
      | some j => Q (S.put a (.lst (xs.set j v)))
      | none => False
    | _ => False
  | _, _ => False

/-! ### the evaluator -/
structure GG where
  gl : List (Str × D)
  call : Nat → List D → DS → QD → QE → Prop
  low : Nat → List D → DS → QD → QE → Prop
  told : List Told
/-- a caught exception told -/
def toldW (ts : List Told) (t : Nat) (x : Exn) (S : DS) (Q : QD) : Prop := match ts[t]? with
  | some h => x.c = h.c ∧ match hvals h.r x.fs with
    | some ds => Q (.tup ds) S
    | none => False
  | none => False

/-- the value in a slot -/
def slotW (env : Env) (i : Nat) (k : D → Prop) : Prop := match env[i]? with
  | some (some d) => k d
  | _ => False
/-- a comprehension's items, one behind another -/
def eachW (f : D → DS → (Option D → DS → Prop) → Prop) : List D → DS → (List D → DS → Prop) → Prop
  | [], S, Q => Q [] S
  | d :: ds, S, Q => f d S fun r S1 => eachW f ds S1 fun xs S2 => Q (match r with | some x => x :: xs | none => xs) S2
/-- the items of a walk, with what must stand as it is while it goes on -/
abbrev Gd := List (Addr × SO)
def Gd.ok (g : Gd) (S : DS) : Prop := ∀ p ∈ g, S p.1 = some p.2
def rangeD (lo hi : Int) : List D := (List.range (hi - lo).toNat).map fun (k : Nat) => D.int (lo + (k : Int))
def enumD : Nat → List D → List D
  | _, [] => []
  | k, d :: ds => .tup [.int k, d] :: enumD (k + 1) ds
def zipD : List D → List D → List D
  | x :: xs, y :: ys => .tup [x, y] :: zipD xs ys
  | _, _ => []
def keyD : Key → D
  | .inl i => .int i
  | .inr x => .str x
mutual
/-- the slots of a target -/
def tgSlots : Tg → List Nat
  | .name i => [i]
  | .tup ts => tgsSlots ts
  | .sub _ _ => []
def tgsSlots : List Tg → List Nat
  | [] => []
  | t :: ts => tgSlots t ++ tgsSlots ts
end
/-- slots forgotten -/
def wipeE (env : Env) : List Nat → Env
  | [] => env
  | i :: is => (wipeE env is).set i none
/-- what a value is walked as -/
def walkW (d : D) (S : DS) (Q : List D → Gd → DS → Prop) : Prop := match d with
  | .tup ds => Q ds [] S
  | .lis ds => Q ds [] S
  | .str x => x.length ≤ lim ∧ Q (x.map fun c => .str [c]) [] S
  | .ref a => match S a with
    | some (.lst ds) => Q ds [(a, .lst ds)] S
    | _ => False
  | _ => False

/-- a list or a tuple -/
def seqW (d : D) (S : DS) (Q : List D → Gd → Prop) : Prop := match d with
  | .tup ds => Q ds []
  | .lis ds => Q ds []
  | .ref a => match S a with
    | some (.lst ds) => Q ds [(a, .lst ds)]
    | _ => False
  | _ => False
/-- two lists or two tuples -/
def zipW (x y : D) (S : DS) (Q : List D → Gd → DS → Prop) : Prop := match x, y with
  | .tup xs, .tup ys => Q (zipD xs ys) [] S
  | .ref a, .ref b => seqW (.ref a) S fun xs g => seqW (.ref b) S fun ys g2 => Q (zipD xs ys) (g ++ g2) S
  | .lis a, .ref b => seqW (.lis a) S fun xs g => seqW (.ref b) S fun ys g2 => Q (zipD xs ys) (g ++ g2) S
  | .ref a, .lis b => seqW (.ref a) S fun xs g => seqW (.lis b) S fun ys g2 => Q (zipD xs ys) (g ++ g2) S
  | .lis a, .lis b => seqW (.lis a) S fun xs g => seqW (.lis b) S fun ys g2 => Q (zipD xs ys) (g ++ g2) S
  | _, _ => False
mutual
/-- a target is given a value -/
def tgW (G : GG) : Tg → D → Env → DS → (Env → DS → Prop) → QE → Prop
  | .name i, d, env, S, Q, _ => Q (env.set i (some d)) S
  | .tup ts, d, env, S, Q, E => match d with
    | .tup ds => ds.length = ts.length ∧ tgsW G ts ds env S Q E
    | _ => False
  | .sub o i, d, env, S, Q, E => evC G o env S (fun x S1 => evC G i env S1 (fun y S2 => setW x y d S2 fun S3 => Q env S3) E) E
termination_by structural t => t
def tgsW (G : GG) : List Tg → List D → Env → DS → (Env → DS → Prop) → QE → Prop
  | [], _, env, S, Q, _ => Q env S
  | t :: ts, ds, env, S, Q, E => match ds with
    | d :: ds => tgW G t d env S (fun env1 S1 => tgsW G ts ds env1 S1 Q E) E
    | [] => False
termination_by structural t => t
/-- an expression -/
def evC (G : GG) : C → Env → DS → QD → QE → Prop
  | .var i, env, S, Q, _ => slotW env i fun d => Q d S
  | .int i, _, S, Q, _ => Q (.int i) S
  | .str x, _, S, Q, _ => Q (.str x) S
  | .bl b, _, S, Q, _ => Q (.bl b) S
  | .non, _, S, Q, _ => Q .non S
  | .gl g, _, S, Q, _ => match G.gl[g]? with
    | some p => Q p.2 S
    | none => False
  | .ty n, _, S, Q, _ => Q (.ty n) S
  | .neg a, env, S, Q, E => evC G a env S (fun x S1 => match x with
    | .int i => Q (.int (-i)) S1
    | _ => False) E
  | .not a, env, S, Q, E => evC G a env S (fun x S1 => truthW x S1 fun b S2 => Q (.bl (!b)) S2) E
  | .bin o a b, env, S, Q, E => evC G a env S (fun x S1 => evC G b env S1 (fun y S2 => binW o x y S2 Q) E) E
  | .and a b, env, S, Q, E => evC G a env S (fun x S1 => truthW x S1 fun t S2 => match t with
    | true => evC G b env S2 Q E
    | false => Q x S2) E
  | .or a b, env, S, Q, E => evC G a env S (fun x S1 => truthW x S1 fun t S2 => match t with
    | true => Q x S2
    | false => evC G b env S2 Q E) E
  | .ite t a b, env, S, Q, E => evT G t env S (fun k S1 => match k with
    | true => evC G a env S1 Q E
    | false => evC G b env S1 Q E) E
  | .cmp o a b, env, S, Q, E => evC G a env S (fun x S1 => evC G b env S1 (fun y S2 => cmpW o x y S2 fun k => Q (.bl k) S2) E) E
  | .chain o p a b c, env, S, Q, E => evC G a env S (fun x S1 => evC G b env S1 (fun y S2 => cmpW o x y S2 fun k => match k with
    | true => evC G c env S2 (fun z S3 => cmpW p y z S3 fun k => Q (.bl k) S3) E
    | false => Q (.bl false) S2) E) E
  | .call f es, env, S, Q, E => evCs G es env S (fun ds S1 => G.call f ds S1 Q E) E
  | .callL f es, env, S, Q, E => evCs G es env S (fun ds S1 => G.low f ds S1 Q E) E
  | .told t b, env, S, Q, _ => evC G b env S Q fun x S1 => toldW G.told t x S1 Q
  | .callv i es, env, S, Q, E => slotW env i fun d => match d with
    | .fn f => evCs G es env S (fun ds S1 => G.call f ds S1 Q E) E
    | _ => False
  | .bi b es, env, S, Q, E => evCs G es env S (fun ds S1 => biW b ds S1 Q) E
  | .biL b l, env, S, Q, E => evL G l env S (fun ds S1 => biL b ds S1 Q) E
  | .mth m o es, env, S, Q, E => evC G o env S (fun x S1 => kindW m x S1 ∧ evCs G es env S1 (fun ds S2 => mthW m x ds S2 Q) E) E
  | .ext o l, env, S, Q, E => evC G o env S (fun x S1 => kindW .extend x S1 ∧ evL G l env S1 (fun ds S2 => extW x ds S2 Q) E) E
  | .ix a i, env, S, Q, E => evC G a env S (fun x S1 => evC G i env S1 (fun y S2 => ixW x y S2 Q) E) E
  | .sl a lo hi, env, S, Q, E => evC G a env S (fun x S1 => evO G lo env S1 (fun l S2 => evO G hi env S2 (fun h S3 => slW x l h S3 Q) E) E) E
  | .tup es, env, S, Q, E => evCs G es env S (fun ds S1 => ds.length ≤ lim ∧ Q (.tup ds) S1) E
  | .mk l, env, S, Q, E => evL G l env S (fun ds S1 => newW (.lst ds) S1 Q) E
  | .dct0, _, S, Q, _ => newW (.dk []) S Q
termination_by structural t => t
/-- expressions, from the left -/
def evCs (G : GG) : List C → Env → DS → (List D → DS → Prop) → QE → Prop
  | [], _, S, Q, _ => Q [] S
  | e :: es, env, S, Q, E => evC G e env S (fun d S1 => evCs G es env S1 (fun ds S2 => Q (d :: ds) S2) E) E
termination_by structural t => t
/-- a part of a slice -/
def evO (G : GG) : Option C → Env → DS → (Option Int → DS → Prop) → QE → Prop
  | none, _, S, Q, _ => Q none S
  | some e, env, S, Q, E => evC G e env S (fun x S1 => match x with
    | .int i => Q (some i) S1
    | _ => False) E
termination_by structural t => t
/-- a clause's test -/
def evTo (G : GG) : Option Te → Env → DS → (Bool → DS → Prop) → QE → Prop
  | none, _, S, Q, _ => Q true S
  | some t, env, S, Q, E => evT G t env S Q E
termination_by structural t => t
/-- a test -/
def evT (G : GG) : Te → Env → DS → (Bool → DS → Prop) → QE → Prop
  | .and a b, env, S, Q, E => evT G a env S (fun k S1 => match k with
    | true => evT G b env S1 Q E
    | false => Q false S1) E
  | .or a b, env, S, Q, E => evT G a env S (fun k S1 => match k with
    | true => Q true S1
    | false => evT G b env S1 Q E) E
  | .not a, env, S, Q, E => evT G a env S (fun k S1 => Q (!k) S1) E
  | .val e, env, S, Q, E => evC G e env S (fun d S1 => truthW d S1 Q) E
termination_by structural t => t
/-- the items of a list that is made for the one who asks -/
def evL (G : GG) : L → Env → DS → (List D → DS → Prop) → QE → Prop
  | .lst es, env, S, Q, E => evCs G es env S (fun ds S1 => ds.length ≤ lim ∧ Q ds S1) E
  | .lc e tg w t, env, S, Q, E => evW G w env S (fun ds g S1 => ds.length ≤ lim ∧ eachW (fun d S2 R => g.ok S2 ∧ tgW G tg d (wipeE env (tgSlots tg)) S2 (fun env1 S3 => evTo G t env1 S3 (fun k S4 => match k with
    | true => evC G e env1 S4 (fun x S5 => R (some x) S5) noE
    | false => R none S4) noE) noE) ds S1 fun xs S2 => g.ok S2 ∧ Q xs S2) E
  | .ex e, env, S, Q, E => evC G e env S (fun d S1 => match S1.lst? d with
    | some ds => Q ds S1
    | none => False) E
  | .exl e, env, S, Q, E => evC G e env S (fun d S1 => match S1.lsl? d with
    | some ds => Q ds S1
    | none => False) E
termination_by structural t => t
/-- what is walked -/
def evW (G : GG) : W → Env → DS → (List D → Gd → DS → Prop) → QE → Prop
  | .ex e, env, S, Q, E => evC G e env S (fun d S1 => walkW d S1 Q) E
  | .fl l, env, S, Q, E => evL G l env S (fun ds S1 => Q ds [] S1) E
  | .range1 a, env, S, Q, E => evC G a env S (fun x S1 => match x with
    | .int i => -(2 ^ 62) < i ∧ i < 2 ^ 62 ∧ Q (rangeD 0 i) [] S1
    | _ => False) E
  | .range2 a b, env, S, Q, E => evC G a env S (fun x S1 => evC G b env S1 (fun y S2 => match x, y with
    | .int i, .int j => -(2 ^ 62) < i ∧ i < 2 ^ 62 ∧ -(2 ^ 62) < j ∧ j < 2 ^ 62 ∧ Q (rangeD i j) [] S2
    | _, _ => False) E) E
  | .enum e, env, S, Q, E => evC G e env S (fun d S1 => seqW d S1 fun ds g => Q (enumD 0 ds) g S1) E
  | .zip a b, env, S, Q, E => evC G a env S (fun x S1 => evC G b env S1 (fun y S2 => zipW x y S2 Q) E) E
termination_by structural t => t
end

/-- what is wanted behind a statement -/
structure En where
  nx : Env → DS → Prop
  rt : QD
  bk : Env → DS → Prop
  ct : Env → DS → Prop
/-- a for's turns -/
def forW (tgf : D → Env → DS → (Env → DS → Prop) → Prop) (bd : Env → DS → En → Prop) (g : Gd) : List D → Env → DS → En → Prop
  | [], env, S, R => g.ok S ∧ R.nx env S
  | d :: ds, env, S, R => g.ok S ∧ tgf d env S fun env1 S1 => bd env1 S1 { nx := fun e S2 => forW tgf bd g ds e S2 R, rt := R.rt, bk := R.nx, ct := fun e S2 => forW tgf bd g ds e S2 R }
/-- a while's turns, at most so many -/
def whileW (tf : Env → DS → (Bool → DS → Prop) → Prop) (bd : Env → DS → En → Prop) : Nat → Env → DS → En → Prop
  | 0, _, _, _ => False
  | n + 1, env, S, R => tf env S fun k S1 => match k with
    | true => bd env S1 { nx := fun e S2 => whileW tf bd n e S2 R, rt := R.rt, bk := R.nx, ct := fun e S2 => whileW tf bd n e S2 R }
    | false => R.nx env S1
mutual
def exT (G : GG) : T → Env → DS → En → QE → Prop
  | .ret e, env, S, R, E => evC G e env S R.rt E
  | .retN, _, S, R, _ => R.rt .non S
  | .expr e, env, S, R, E => evC G e env S (fun _ S1 => R.nx env S1) E
  | .asg t e, env, S, R, E => evC G e env S (fun d S1 => tgW G t d env S1 R.nx E) E
  | .aug i o e, env, S, R, E => slotW env i fun x => evC G e env S (fun y S1 => match x, y with
    | .int a, .int b => binW o (.int a) (.int b) S1 fun z S2 => R.nx (env.set i (some z)) S2
    | _, _ => False) E
  | .ite t a b, env, S, R, E => evT G t env S (fun k S1 => match k with
    | true => exTs G a env S1 R E
    | false => exTs G b env S1 R E) E
  | .while t b, env, S, R, E => ∃ n, whileW (fun env S Q => evT G t env S Q E) (fun env S R => exTs G b env S R E) n env S R
  | .for tg w b, env, S, R, E => evW G w env S (fun ds g S1 => forW (fun d env S Q => tgW G tg d env S Q E) (fun env S R => exTs G b env S R E) g ds env S1 R) E
  | .raise c es, env, S, _, E => evCs G es env S (fun ds S1 => E ⟨c, ds⟩ S1) E
  | .brk, env, S, R, _ => R.bk env S
  | .cont, env, S, R, _ => R.ct env S
  | .pass, env, S, R, _ => R.nx env S
  | .never, _, _, _, _ => False
termination_by structural t => t
def exTs (G : GG) : List T → Env → DS → En → QE → Prop
  | [], env, S, R, _ => R.nx env S
  | t :: ts, env, S, R, E => exT G t env S { R with nx := fun e S1 => exTs G ts e S1 R E } E
termination_by structural t => t
end

/-- less is known -/
def DS.le (S S' : DS) : Prop := ∀ a o, S a = some o → S' a = some o
/-- a function called, so many calls deep; what it does not need to tell of the store it may forget at its end -/
def sem (P : Prog) : Nat → Nat → List D → DS → QD → QE → Prop
  | 0, _, _, _, _, _ => False
  | n + 1, f, ds, S, Q, E => match P.fns[f]? with
    | some F => ds.length = F.ps.length ∧ exTs ⟨P.gl, sem P n, (match n with | m + 2 => sem P m | _ => fun _ _ _ _ _ => False), P.told⟩ F.body (ds.map some ++ List.replicate (F.N.length - F.ps.length) none) S
        { nx := fun _ S' => ∃ S2, DS.le S2 S' ∧ Q .non S2, rt := fun d S' => ∃ S2, DS.le S2 S' ∧ Q d S2, bk := fun _ _ => False, ct := fun _ _ => False } E
    | none => False
termination_by structural n => n
/-- two calls further down -/
def semL (P : Prog) : Nat → Nat → List D → DS → QD → QE → Prop
  | n + 2 => sem P n
  | _ => fun _ _ _ _ _ => False
/-- what a body at this depth calls -/
def Prog.gg (P : Prog) (n : Nat) : GG := ⟨P.gl, sem P n, semL P n, P.told⟩
theorem sem_succ (P : Prog) (n f : Nat) (ds : List D) (S : DS) (Q : QD) (E : QE) : sem P (n + 1) f ds S Q E = match P.fns[f]? with
    | some F => ds.length = F.ps.length ∧ exTs (P.gg n) F.body (ds.map some ++ List.replicate (F.N.length - F.ps.length) none) S
        { nx := fun _ S' => ∃ S2, DS.le S2 S' ∧ Q .non S2, rt := fun d S' => ∃ S2, DS.le S2 S' ∧ Q d S2, bk := fun _ _ => False, ct := fun _ _ => False } E
    | none => False := by
  cases e : P.fns[f]? with
  | none =>
    unfold sem
    rw [e]
  | some F =>
    unfold sem
    rw [e]
    match n with
    | 0 => rfl
    | 1 => rfl
    | n + 2 => rfl
end PD
end
section
set_option Elab.async false
set_option linter.all false
set_option maxRecDepth 100000
/-! PyD, part B: more is told of less: the wants are monotone in the store, in what is wanted. -/
namespace PD
open PySem

theorem DS.le.refl (S : DS) : DS.le S S := fun _ _ h => h
theorem DS.le.trans {S S1 S2 : DS} (a : DS.le S S1) (b : DS.le S1 S2) : DS.le S S2 := fun x o h => b x o (a x o h)
theorem DS.le.put {S S2 : DS} (h : DS.le S S2) (p : Addr) (o : SO) : DS.le (S.put p o) (S2.put p o) := fun a u e => by
  unfold DS.put at e ⊢
  split
  · rename_i h1
    rw [if_pos h1] at e
    exact e
  · rename_i h1
    rw [if_neg h1] at e
    exact h a u e
theorem DS.le.none {S S2 : DS} (h : DS.le S S2) {p : Addr} (e : S2 p = none) : S p = none := by
  cases q : S p with
  | none => rfl
  | some o => rw [h p o q] at e; cases e
theorem DS.put_same {S : DS} {a : Addr} {o : SO} : S.put a o a = some o := by unfold DS.put; rw [if_pos rfl]
theorem DS.put_ne {S : DS} {a b : Addr} {o : SO} (h : b ≠ a) : S.put a o b = S b := by unfold DS.put; rw [if_neg h]
theorem DS.put_put {S : DS} {a : Addr} {o u : SO} : (S.put a o).put a u = S.put a u := by
  funext b; unfold DS.put; split <;> rfl
theorem DS.le_put {S : DS} {a : Addr} {o : SO} (h : S a = none) : DS.le S (S.put a o) := fun b u e => by
  by_cases z : b = a
  · subst z; rw [h] at e; cases e
  · rw [DS.put_ne z]; exact e

/-- what is wanted of a value grows with the store -/
def UpD {α : Type} (Q Q2 : α → DS → Prop) : Prop := ∀ d S S2, DS.le S S2 → Q d S → Q2 d S2

section
variable {S S2 : DS}
mutual
theorem py_mono {r r2 : Addr → Option PyData} (h : ∀ a p, r a = some p → r2 a = some p) : ∀ (d : D) (p : PyData), D.py r d = some p → D.py r2 d = some p
  | .non, _, e => e
  | .bl _, _, e => e
  | .int _, _, e => e
  | .str _, _, e => e
  | .tup ds, p, e => by
    unfold D.py at e ⊢
    cases q : D.pys r ds with
    | none => rw [q] at e; cases e
    | some ps => rw [q] at e; rw [pys_mono h ds ps q]; exact e
  | .lis ds, p, e => by
    unfold D.py at e ⊢
    cases q : D.pys r ds with
    | none => rw [q] at e; cases e
    | some ps => rw [q] at e; rw [pys_mono h ds ps q]; exact e
  | .ref a, p, e => h a p e
  | .fn _, _, e => by cases e
  | .cls _, _, e => by cases e
  | .ty _, _, e => by cases e
theorem pys_mono {r r2 : Addr → Option PyData} (h : ∀ a p, r a = some p → r2 a = some p) : ∀ (ds : List D) (ps : List PyData), D.pys r ds = some ps → D.pys r2 ds = some ps
  | [], _, e => e
  | d :: ds, ps, e => by
    unfold D.pys at e ⊢
    cases q : D.py r d with
    | none => rw [q] at e; cases e
    | some p =>
      rw [q] at e
      rw [py_mono h d p q]
      cases q2 : D.pys r ds with
      | none => rw [q2] at e; cases e
      | some ps2 => rw [q2] at e; rw [pys_mono h ds ps2 q2]; exact e
end
theorem rd_mono (h : DS.le S S2) : ∀ (n : Nat) (a : Addr) (p : PyData), S.rd n a = some p → S2.rd n a = some p
  | 0, _, _, e => by cases e
  | n + 1, a, p, e => by
    unfold DS.rd at e ⊢
    cases q : S a with
    | none => rw [q] at e; cases e
    | some o =>
      rw [q] at e
      rw [h a o q]
      cases o with
      | lst ds =>
        dsimp only at e ⊢
        cases z : D.pys (S.rd n) ds with
        | none => rw [z] at e; cases e
        | some ps => rw [z] at e; rw [pys_mono (rd_mono h n) ds ps z]; exact e
      | dk kvs => cases e
theorem lst_mono (h : DS.le S S2) {d : D} {ds : List D} (e : S.lst? d = some ds) : S2.lst? d = some ds := by
  cases d with
  | ref a =>
    unfold DS.lst? at e ⊢
    dsimp only at e ⊢
    cases q : S a with
    | none => rw [q] at e; cases e
    | some o => rw [q] at e; rw [h a o q]; exact e
  | tup ds2 => exact e
  | lis ds2 => exact e
  | _ => cases e
theorem lsl_mono (h : DS.le S S2) {d : D} {ds : List D} (e : S.lsl? d = some ds) : S2.lsl? d = some ds := by
  cases d with
  | ref a =>
    unfold DS.lsl? at e ⊢
    dsimp only at e ⊢
    cases q : S a with
    | none => rw [q] at e; cases e
    | some o => rw [q] at e; rw [h a o q]; exact e
  | lis ds2 => exact e
  | _ => cases e
theorem truth_mono (h : DS.le S S2) {d : D} {b : Bool} (e : truth d S = some b) : truth d S2 = some b := by
  cases d with
  | ref a =>
    unfold truth at e ⊢
    dsimp only at e ⊢
    cases q : S a with
    | none => rw [q] at e; cases e
    | some o => rw [q] at e; rw [h a o q]; exact e
  | _ => exact e
theorem truthW_mono (h : DS.le S S2) {d : D} {Q Q2 : Bool → DS → Prop} (u : UpD Q Q2) (w : truthW d S Q) : truthW d S2 Q2 := by
  unfold truthW at w ⊢
  cases q : truth d S with
  | none => rw [q] at w; exact w.elim
  | some b => rw [q] at w; rw [truth_mono h q]; exact u _ _ _ h w
theorem newW_mono (h : DS.le S S2) {o : SO} {Q Q2 : QD} (u : UpD Q Q2) (w : newW o S Q) : newW o S2 Q2 := fun p e => u _ _ _ (h.put p o) (w p (h.none e))
theorem catW_mono (h : DS.le S S2) {x y : D} {Q Q2 : QD} (u : UpD Q Q2) (w : catW x y S Q) : catW x y S2 Q2 := by
  unfold catW at w ⊢
  cases q : S.lsl? x with
  | none => rw [q] at w; exact w.elim
  | some xs =>
    cases q2 : S.lsl? y with
    | none => rw [q, q2] at w; exact w.elim
    | some ys =>
      rw [q, q2] at w
      rw [lsl_mono h q, lsl_mono h q2]
      exact ⟨w.1, newW_mono h u w.2⟩
theorem repW_mono (h : DS.le S S2) {x : D} {j : Int} {Q Q2 : QD} (u : UpD Q Q2) (w : repW x j S Q) : repW x j S2 Q2 := by
  unfold repW at w ⊢
  cases q : S.lsl? x with
  | none => rw [q] at w; exact w.elim
  | some xs =>
    rw [q] at w
    rw [lsl_mono h q]
    exact ⟨w.1, w.2.1, w.2.2.1, newW_mono h u w.2.2.2⟩
theorem binW_mono (h : DS.le S S2) {o : Op} {x y : D} {Q Q2 : QD} (u : UpD Q Q2) (w : binW o x y S Q) : binW o x y S2 Q2 := by
  unfold binW at w ⊢
  split at w <;> first
    | exact catW_mono h u w
    | exact repW_mono h u w
    | exact u _ _ _ h w
    | exact ⟨w.1, u _ _ _ h w.2⟩
    | exact ⟨w.1, w.2.1, w.2.2.1, u _ _ _ h w.2.2.2⟩
    | exact w.elim
theorem eqW_mono (h : DS.le S S2) {x y : D} {Q Q2 : Bool → Prop} (u : ∀ b, Q b → Q2 b) (w : eqW x y S Q) : eqW x y S2 Q2 := by
  obtain ⟨n, p, q, a, b, c, d⟩ := w
  exact ⟨n, p, q, py_mono (rd_mono h n) _ _ a, py_mono (rd_mono h n) _ _ b, c, u _ d⟩
theorem inL_mono (h : DS.le S S2) {x : D} {ds : List D} {Q Q2 : Bool → Prop} (u : ∀ b, Q b → Q2 b) (w : inL x ds S Q) : inL x ds S2 Q2 := by
  obtain ⟨n, p, q, a, b, c, d⟩ := w
  exact ⟨n, p, q, py_mono (rd_mono h n) _ _ a, pys_mono (rd_mono h n) _ _ b, c, u _ d⟩
theorem inW_mono (h : DS.le S S2) {x y : D} {Q Q2 : Bool → Prop} (u : ∀ b, Q b → Q2 b) (w : inW x y S Q) : inW x y S2 Q2 := by
  unfold inW at w ⊢
  split at w
  · split at w
    · exact u _ w
    · exact w.elim
  · exact inL_mono h u w
  · exact inL_mono h u w
  · rename_i a
    cases q : S a with
    | none => rw [q] at w; exact w.elim
    | some o =>
      rw [q] at w
      rw [h a o q]
      cases o with
      | lst ds => exact inL_mono h u w
      | dk kvs =>
        dsimp only at w ⊢
        split at w
        · exact u _ w
        · exact w.elim
  · exact w.elim
theorem cmpW_mono (h : DS.le S S2) {o : Cm} {x y : D} {Q Q2 : Bool → Prop} (u : ∀ b, Q b → Q2 b) (w : cmpW o x y S Q) : cmpW o x y S2 Q2 := by
  cases o with
  | eq => exact eqW_mono h u w
  | ne => exact eqW_mono h (fun b => u (!b)) w
  | isin => exact inW_mono h u w
  | notin => exact inW_mono h (fun b => u (!b)) w
  | _ =>
    unfold cmpW at w ⊢
    dsimp only at w ⊢
    split at w <;> first | exact u _ w | exact w.elim
theorem ixL_mono {ds : List D} {i : Int} {Q Q2 : D → Prop} (u : ∀ d, Q d → Q2 d) (w : ixL ds i Q) : ixL ds i Q2 := by
  unfold ixL at w ⊢
  split at w
  · split at w
    · exact u _ w
    · exact w.elim
  · exact w.elim
theorem ixW_mono (h : DS.le S S2) {x y : D} {Q Q2 : QD} (u : UpD Q Q2) (w : ixW x y S Q) : ixW x y S2 Q2 := by
  unfold ixW at w ⊢
  split at w
  · split at w
    · split at w
      · split at w
        · exact u _ _ _ h w
        · exact w.elim
      · exact w.elim
    · exact w.elim
  · split at w
    · exact ixL_mono (fun d => u _ _ _ h) w
    · exact w.elim
  · split at w
    · exact ixL_mono (fun d => u _ _ _ h) w
    · exact w.elim
  · rename_i a
    cases q : S a with
    | none => rw [q] at w; exact w.elim
    | some o =>
      rw [q] at w
      rw [h a o q]
      cases o with
      | dk kvs =>
        dsimp only at w ⊢
        split at w
        · split at w
          · exact u _ _ _ h w
          · exact w.elim
        · exact w.elim
      | _ =>
        dsimp only at w ⊢
        split at w
        · exact ixL_mono (fun d => u _ _ _ h) w
        · exact w.elim
  · exact w.elim
theorem slW_mono (h : DS.le S S2) {x : D} {lo hi : Option Int} {Q Q2 : QD} (u : UpD Q Q2) (w : slW x lo hi S Q) : slW x lo hi S2 Q2 := by
  unfold slW at w ⊢
  split at w
  · exact u _ _ _ h w
  · exact newW_mono h u w
  · split at w
    · rename_i ds e
      rw [lst_mono h e]
      exact newW_mono h u w
    · exact w.elim
  · exact w.elim
theorem isOf_mono (h : DS.le S S2) {d : D} {n : String} {b : Bool} (e : isOf d n S = some b) : isOf d n S2 = some b := by
  cases d with
  | ref a =>
    unfold isOf at e ⊢
    dsimp only at e ⊢
    cases q : S a with
    | none => rw [q] at e; cases e
    | some o => rw [q] at e; rw [h a o q]; exact e
  | _ => exact e
theorem biW_mono (h : DS.le S S2) {b : BI} {ds : List D} {Q Q2 : QD} (u : UpD Q Q2) (w : biW b ds S Q) : biW b ds S2 Q2 := by
  unfold biW at w ⊢
  split at w <;> first
    | exact u _ _ _ h w
    | exact ⟨w.1, u _ _ _ h w.2⟩
    | (rename_i a
       cases q : S a with
       | none => rw [q] at w; exact w.elim
       | some o => rw [q] at w; rw [h a o q]; cases o <;> exact u _ _ _ h w)
    | (split at w
       · rename_i e
         rw [isOf_mono h e]
         exact u _ _ _ h w
       · exact w.elim)
    | exact w.elim
theorem biL_mono (h : DS.le S S2) {b : BI} {ds : List D} {Q Q2 : QD} (u : UpD Q Q2) (w : biL b ds S Q) : biL b ds S2 Q2 := by
  cases b with
  | tuple => exact u _ _ _ h w
  | list => exact newW_mono h u w
  | _ =>
    unfold biL at w ⊢
    first
      | exact w.elim
      | (dsimp only at w ⊢
         split at w <;> first | exact u _ _ _ h w | exact w.elim)
theorem lstM_mono (h : DS.le S S2) {m : MT} {a : Addr} {xs ds : List D} {Q Q2 : QD} (u : UpD Q Q2) (w : lstM m a xs ds S Q) : lstM m a xs ds S2 Q2 := by
  unfold lstM at w ⊢
  split at w
  · exact ⟨w.1, u _ _ _ (h.put _ _) w.2⟩
  · split at w
    · exact u _ _ _ (h.put _ _) w
    · exact w.elim
  · exact w.elim
theorem dkM_mono (h : DS.le S S2) {m : MT} {a : Addr} {kvs : List (Key × D)} {ds : List D} {Q Q2 : QD} (u : UpD Q Q2) (w : dkM m a kvs ds S Q) : dkM m a kvs ds S2 Q2 := by
  unfold dkM at w ⊢
  split at w
  · split at w
    · refine ⟨w.1, ?_⟩
      have w2 := w.2
      split at w2
      · exact u _ _ _ h w2
      · exact u _ _ _ (h.put _ _) w2
    · exact w.elim
  · exact w.elim
theorem mthW_mono (h : DS.le S S2) {m : MT} {o : D} {ds : List D} {Q Q2 : QD} (u : UpD Q Q2) (w : mthW m o ds S Q) : mthW m o ds S2 Q2 := by
  unfold mthW at w ⊢
  split at w
  · rename_i a
    cases q : S a with
    | none => rw [q] at w; exact w.elim
    | some ob =>
      rw [q] at w
      rw [h a ob q]
      cases ob with
      | lst xs => exact lstM_mono h u w
      | dk kvs => exact dkM_mono h u w
  · exact w.elim
theorem kindW_mono (h : DS.le S S2) {m : MT} {o : D} (w : kindW m o S) : kindW m o S2 := by
  unfold kindW at w ⊢
  split at w
  · rename_i a
    cases q : S a with
    | none => rw [q] at w; cases m <;> exact w.elim
    | some ob => rw [q] at w; rw [h a ob q]; exact w
  · exact w.elim
theorem extW_mono (h : DS.le S S2) {o : D} {ds : List D} {Q Q2 : QD} (u : UpD Q Q2) (w : extW o ds S Q) : extW o ds S2 Q2 := by
  unfold extW at w ⊢
  split at w
  · rename_i a
    cases q : S a with
    | none => rw [q] at w; exact w.elim
    | some ob =>
      rw [q] at w
      rw [h a ob q]
      cases ob with
      | lst xs => exact ⟨w.1, u _ _ _ (h.put _ _) w.2⟩
      | _ => exact w.elim
  · exact w.elim
theorem setW_mono (h : DS.le S S2) {o i v : D} {Q Q2 : DS → Prop} (u : ∀ S S2, DS.le S S2 → Q S → Q2 S2) (w : setW o i v S Q) : setW o i v S2 Q2 := by
  unfold setW at w ⊢
  split at w
  · rename_i a k
    cases q : S a with
    | none => rw [q] at w; exact w.elim
    | some ob =>
      rw [q] at w
      rw [h a ob q]
      cases ob with
      | lst xs =>
        dsimp only at w ⊢
        split at w
        · exact u _ _ (h.put _ _) w
        · exact w.elim
      | _ => exact w.elim
  · exact w.elim
theorem slotW_mono {env : Env} {i : Nat} {k k2 : D → Prop} (u : ∀ d, k d → k2 d) (w : slotW env i k) : slotW env i k2 := by
  unfold slotW at w ⊢
  split at w
  · exact u _ w
  · exact w.elim
theorem gd_mono (h : DS.le S S2) {g : Gd} (w : g.ok S) : g.ok S2 := fun p hp => h _ _ (w p hp)
theorem walkW_mono (h : DS.le S S2) {d : D} {Q Q2 : List D → Gd → DS → Prop} (u : ∀ ds g S S2, DS.le S S2 → Q ds g S → Q2 ds g S2) (w : walkW d S Q) : walkW d S2 Q2 := by
  unfold walkW at w ⊢
  split at w
  · exact u _ _ _ _ h w
  · exact u _ _ _ _ h w
  · exact ⟨w.1, u _ _ _ _ h w.2⟩
  · rename_i a
    cases q : S a with
    | none => rw [q] at w; exact w.elim
    | some o => rw [q] at w; rw [h a o q]; cases o <;> first | exact u _ _ _ _ h w | exact w.elim
  · exact w.elim
theorem seqW_mono (h : DS.le S S2) {d : D} {Q Q2 : List D → Gd → Prop} (u : ∀ ds g, Q ds g → Q2 ds g) (w : seqW d S Q) : seqW d S2 Q2 := by
  unfold seqW at w ⊢
  split at w
  · exact u _ _ w
  · exact u _ _ w
  · rename_i a
    cases q : S a with
    | none => rw [q] at w; exact w.elim
    | some o => rw [q] at w; rw [h a o q]; cases o <;> first | exact u _ _ w | exact w.elim
  · exact w.elim
theorem zipW_mono (h : DS.le S S2) {x y : D} {Q Q2 : List D → Gd → DS → Prop} (u : ∀ ds g S S2, DS.le S S2 → Q ds g S → Q2 ds g S2) (w : zipW x y S Q) : zipW x y S2 Q2 := by
  unfold zipW at w ⊢
  split at w
  · exact u _ _ _ _ h w
  · exact seqW_mono h (fun ds g w1 => seqW_mono h (fun ds2 g2 w2 => u _ _ _ _ h w2) w1) w
  · exact seqW_mono h (fun ds g w1 => seqW_mono h (fun ds2 g2 w2 => u _ _ _ _ h w2) w1) w
  · exact seqW_mono h (fun ds g w1 => seqW_mono h (fun ds2 g2 w2 => u _ _ _ _ h w2) w1) w
  · exact seqW_mono h (fun ds g w1 => seqW_mono h (fun ds2 g2 w2 => u _ _ _ _ h w2) w1) w
  · exact w.elim
theorem eachW_mono {f f2 : D → DS → (Option D → DS → Prop) → Prop} (hf : ∀ d S S2 Q Q2, DS.le S S2 → UpD Q Q2 → f d S Q → f2 d S2 Q2) : ∀ (ds : List D) {S S2 : DS} {Q Q2 : List D → DS → Prop}, DS.le S S2 → UpD Q Q2 → eachW f ds S Q → eachW f2 ds S2 Q2
  | [], _, _, _, _, h, u, w => u _ _ _ h w
  | d :: ds, _, _, _, _, h, u, w => hf d _ _ _ _ h (fun r S S2 h1 w1 => eachW_mono hf ds h1 (fun xs S S2 h2 w2 => u _ _ _ h2 w2) w1) w
end
end PD
end
section
set_option Elab.async false
set_option linter.all false
set_option maxRecDepth 100000
/-! PyD, part C: the evaluator is monotone in the store, in what is wanted, in what calls tell. -/
namespace PD
open PySem
theorem noU : UpD noE noE := fun _ _ _ _ w => w
/-- what calls tell by G they tell by G2 -/
structure GLe (G G2 : GG) : Prop where
  gl : G2.gl = G.gl
  call : ∀ f ds S S2 Q Q2 E E2, DS.le S S2 → UpD Q Q2 → UpD E E2 → G.call f ds S Q E → G2.call f ds S2 Q2 E2
  low : ∀ f ds S S2 Q Q2 E E2, DS.le S S2 → UpD Q Q2 → UpD E E2 → G.low f ds S Q E → G2.low f ds S2 Q2 E2
  told : G2.told = G.told
theorem toldW_mono {ts : List Told} {t : Nat} {Q Q2 : QD} (u : UpD Q Q2) : UpD (fun x S => toldW ts t x S Q) fun x S => toldW ts t x S Q2 := fun x A B h w => by
  unfold toldW at w ⊢
  split at w
  · refine ⟨w.1, ?_⟩
    have w2 := w.2
    split at w2
    · exact u _ _ _ h w2
    · exact w2.elim
  · exact w.elim
section
variable {G G2 : GG} (hG : GLe G G2)
include hG
mutual
theorem tgW_mono : ∀ (t : Tg) {E E2 : QE} (hE : UpD E E2) {d : D} {env : Env} {S S2 : DS} {Q Q2 : Env → DS → Prop}, DS.le S S2 → UpD Q Q2 → tgW G t d env S Q E → tgW G2 t d env S2 Q2 E2
  | .name i, E, E2, hE, d, env, S, S2, Q, Q2, h, u, w => u _ _ _ h w
  | .tup ts, E, E2, hE, d, env, S, S2, Q, Q2, h, u, w => by
    unfold tgW at w ⊢
    split at w
    · exact ⟨w.1, tgsW_mono ts hE h u w.2⟩
    · exact w.elim
  | .sub o i, E, E2, hE, d, env, S, S2, Q, Q2, h, u, w => by
    unfold tgW at w ⊢
    exact evC_mono o hE h (fun x A B h1 w1 => evC_mono i hE h1 (fun y A B h2 w2 => setW_mono h2 (fun A B h3 w3 => u _ _ _ h3 w3) w2) w1) w
theorem tgsW_mono : ∀ (ts : List Tg) {E E2 : QE} (hE : UpD E E2) {ds : List D} {env : Env} {S S2 : DS} {Q Q2 : Env → DS → Prop}, DS.le S S2 → UpD Q Q2 → tgsW G ts ds env S Q E → tgsW G2 ts ds env S2 Q2 E2
  | [], E, E2, hE, ds, env, S, S2, Q, Q2, h, u, w => by
    unfold tgsW at w ⊢
    exact u _ _ _ h w
  | t :: ts, E, E2, hE, ds, env, S, S2, Q, Q2, h, u, w => by
    unfold tgsW at w ⊢
    split at w
    · exact tgW_mono t hE h (fun e A B h1 w1 => tgsW_mono ts hE h1 u w1) w
    · exact w.elim
theorem evC_mono : ∀ (c : C) {E E2 : QE} (hE : UpD E E2) {env : Env} {S S2 : DS} {Q Q2 : QD}, DS.le S S2 → UpD Q Q2 → evC G c env S Q E → evC G2 c env S2 Q2 E2
  | .var i, E, E2, hE, env, S, S2, Q, Q2, h, u, w => slotW_mono (fun d w1 => u _ _ _ h w1) w
  | .int i, E, E2, hE, env, S, S2, Q, Q2, h, u, w => u _ _ _ h w
  | .str i, E, E2, hE, env, S, S2, Q, Q2, h, u, w => u _ _ _ h w
  | .bl i, E, E2, hE, env, S, S2, Q, Q2, h, u, w => u _ _ _ h w
  | .non, E, E2, hE, env, S, S2, Q, Q2, h, u, w => u _ _ _ h w
  | .gl g, E, E2, hE, env, S, S2, Q, Q2, h, u, w => by
    unfold evC at w ⊢
    rw [hG.gl]
    split at w
    · exact u _ _ _ h w
    · exact w.elim
  | .ty n, E, E2, hE, env, S, S2, Q, Q2, h, u, w => u _ _ _ h w
  | .neg a, E, E2, hE, env, S, S2, Q, Q2, h, u, w => by
    unfold evC at w ⊢
    refine evC_mono a hE h (fun x A B h1 w1 => ?_) w
    split at w1
    · exact u _ _ _ h1 w1
    · exact w1.elim
  | .not a, E, E2, hE, env, S, S2, Q, Q2, h, u, w => by
    unfold evC at w ⊢
    exact evC_mono a hE h (fun x A B h1 w1 => truthW_mono h1 (fun t A B h2 w2 => u _ _ _ h2 w2) w1) w
  | .bin o a b, E, E2, hE, env, S, S2, Q, Q2, h, u, w => by
    unfold evC at w ⊢
    exact evC_mono a hE h (fun x A B h1 w1 => evC_mono b hE h1 (fun y A B h2 w2 => binW_mono h2 u w2) w1) w
  | .and a b, E, E2, hE, env, S, S2, Q, Q2, h, u, w => by
    unfold evC at w ⊢
    refine evC_mono a hE h (fun x A B h1 w1 => truthW_mono h1 (fun t A B h2 w2 => ?_) w1) w
    cases t with
    | true => exact evC_mono b hE h2 u w2
    | false => exact u _ _ _ h2 w2
  | .or a b, E, E2, hE, env, S, S2, Q, Q2, h, u, w => by
    unfold evC at w ⊢
    refine evC_mono a hE h (fun x A B h1 w1 => truthW_mono h1 (fun t A B h2 w2 => ?_) w1) w
    cases t with
    | false => exact evC_mono b hE h2 u w2
    | true => exact u _ _ _ h2 w2
  | .ite t a b, E, E2, hE, env, S, S2, Q, Q2, h, u, w => by
    unfold evC at w ⊢
    refine evT_mono t hE h (fun k A B h1 w1 => ?_) w
    cases k with
    | true => exact evC_mono a hE h1 u w1
    | false => exact evC_mono b hE h1 u w1
  | .cmp o a b, E, E2, hE, env, S, S2, Q, Q2, h, u, w => by
    unfold evC at w ⊢
    exact evC_mono a hE h (fun x A B h1 w1 => evC_mono b hE h1 (fun y A B h2 w2 => cmpW_mono h2 (fun k w3 => u _ _ _ h2 w3) w2) w1) w
  | .chain o p a b c, E, E2, hE, env, S, S2, Q, Q2, h, u, w => by
    unfold evC at w ⊢
    refine evC_mono a hE h (fun x A B h1 w1 => evC_mono b hE h1 (fun y A B h2 w2 => cmpW_mono h2 (fun k w3 => ?_) w2) w1) w
    cases k with
    | true => exact evC_mono c hE h2 (fun z A B h3 w4 => cmpW_mono h3 (fun k w5 => u _ _ _ h3 w5) w4) w3
    | false => exact u _ _ _ h2 w3
  | .call f es, E, E2, hE, env, S, S2, Q, Q2, h, u, w => by
    unfold evC at w ⊢
    exact evCs_mono es hE h (fun ds A B h1 w1 => hG.call f ds A B Q Q2 E E2 h1 u hE w1) w
  | .callL f es, E, E2, hE, env, S, S2, Q, Q2, h, u, w => by
    unfold evC at w ⊢
    exact evCs_mono es hE h (fun ds A B h1 w1 => hG.low f ds A B Q Q2 E E2 h1 u hE w1) w
  | .told t b, E, E2, hE, env, S, S2, Q, Q2, h, u, w => by
    unfold evC at w ⊢
    rw [hG.told]
    exact evC_mono b (toldW_mono u) h u w
  | .callv i es, E, E2, hE, env, S, S2, Q, Q2, h, u, w => by
    unfold evC at w ⊢
    refine slotW_mono (fun d w1 => ?_) w
    split at w1
    · exact evCs_mono es hE h (fun ds A B h1 w2 => hG.call _ ds A B Q Q2 E E2 h1 u hE w2) w1
    · exact w1.elim
  | .bi b es, E, E2, hE, env, S, S2, Q, Q2, h, u, w => by
    unfold evC at w ⊢
    exact evCs_mono es hE h (fun ds A B h1 w1 => biW_mono h1 u w1) w
  | .biL b l, E, E2, hE, env, S, S2, Q, Q2, h, u, w => by
    unfold evC at w ⊢
    exact evL_mono l hE h (fun ds A B h1 w1 => biL_mono h1 u w1) w
  | .mth m o es, E, E2, hE, env, S, S2, Q, Q2, h, u, w => by
    unfold evC at w ⊢
    exact evC_mono o hE h (fun x A B h1 w1 => ⟨kindW_mono h1 w1.1, evCs_mono es hE h1 (fun ds A B h2 w2 => mthW_mono h2 u w2) w1.2⟩) w
  | .ext o l, E, E2, hE, env, S, S2, Q, Q2, h, u, w => by
    unfold evC at w ⊢
    exact evC_mono o hE h (fun x A B h1 w1 => ⟨kindW_mono h1 w1.1, evL_mono l hE h1 (fun ds A B h2 w2 => extW_mono h2 u w2) w1.2⟩) w
  | .ix a i, E, E2, hE, env, S, S2, Q, Q2, h, u, w => by
    unfold evC at w ⊢
    exact evC_mono a hE h (fun x A B h1 w1 => evC_mono i hE h1 (fun y A B h2 w2 => ixW_mono h2 u w2) w1) w
  | .sl a lo hi, E, E2, hE, env, S, S2, Q, Q2, h, u, w => by
    unfold evC at w ⊢
    exact evC_mono a hE h (fun x A B h1 w1 => evO_mono lo hE h1 (fun l A B h2 w2 => evO_mono hi hE h2 (fun r A B h3 w3 => slW_mono h3 u w3) w2) w1) w
  | .tup es, E, E2, hE, env, S, S2, Q, Q2, h, u, w => by
    unfold evC at w ⊢
    exact evCs_mono es hE h (fun ds A B h1 w1 => ⟨w1.1, u _ _ _ h1 w1.2⟩) w
  | .mk l, E, E2, hE, env, S, S2, Q, Q2, h, u, w => by
    unfold evC at w ⊢
    exact evL_mono l hE h (fun ds A B h1 w1 => newW_mono h1 u w1) w
  | .dct0, E, E2, hE, env, S, S2, Q, Q2, h, u, w => newW_mono h u w
theorem evCs_mono : ∀ (es : List C) {E E2 : QE} (hE : UpD E E2) {env : Env} {S S2 : DS} {Q Q2 : List D → DS → Prop}, DS.le S S2 → UpD Q Q2 → evCs G es env S Q E → evCs G2 es env S2 Q2 E2
  | [], E, E2, hE, env, S, S2, Q, Q2, h, u, w => by
    unfold evCs at w ⊢
    exact u _ _ _ h w
  | e :: es, E, E2, hE, env, S, S2, Q, Q2, h, u, w => by
    unfold evCs at w ⊢
    exact evC_mono e hE h (fun d A B h1 w1 => evCs_mono es hE h1 (fun ds A B h2 w2 => u _ _ _ h2 w2) w1) w
theorem evO_mono : ∀ (o : Option C) {E E2 : QE} (hE : UpD E E2) {env : Env} {S S2 : DS} {Q Q2 : Option Int → DS → Prop}, DS.le S S2 → UpD Q Q2 → evO G o env S Q E → evO G2 o env S2 Q2 E2
  | none, E, E2, hE, env, S, S2, Q, Q2, h, u, w => by
    unfold evO at w ⊢
    exact u _ _ _ h w
  | some e, E, E2, hE, env, S, S2, Q, Q2, h, u, w => by
    unfold evO at w ⊢
    refine evC_mono e hE h (fun x A B h1 w1 => ?_) w
    split at w1
    · exact u _ _ _ h1 w1
    · exact w1.elim
theorem evTo_mono : ∀ (o : Option Te) {E E2 : QE} (hE : UpD E E2) {env : Env} {S S2 : DS} {Q Q2 : Bool → DS → Prop}, DS.le S S2 → UpD Q Q2 → evTo G o env S Q E → evTo G2 o env S2 Q2 E2
  | none, E, E2, hE, env, S, S2, Q, Q2, h, u, w => by
    unfold evTo at w ⊢
    exact u _ _ _ h w
  | some t, E, E2, hE, env, S, S2, Q, Q2, h, u, w => by
    unfold evTo at w ⊢
    exact evT_mono t hE h u w
theorem evT_mono : ∀ (t : Te) {E E2 : QE} (hE : UpD E E2) {env : Env} {S S2 : DS} {Q Q2 : Bool → DS → Prop}, DS.le S S2 → UpD Q Q2 → evT G t env S Q E → evT G2 t env S2 Q2 E2
  | .and a b, E, E2, hE, env, S, S2, Q, Q2, h, u, w => by
    unfold evT at w ⊢
    refine evT_mono a hE h (fun k A B h1 w1 => ?_) w
    cases k with
    | true => exact evT_mono b hE h1 u w1
    | false => exact u _ _ _ h1 w1
  | .or a b, E, E2, hE, env, S, S2, Q, Q2, h, u, w => by
    unfold evT at w ⊢
    refine evT_mono a hE h (fun k A B h1 w1 => ?_) w
    cases k with
    | false => exact evT_mono b hE h1 u w1
    | true => exact u _ _ _ h1 w1
  | .not a, E, E2, hE, env, S, S2, Q, Q2, h, u, w => by
    unfold evT at w ⊢
    exact evT_mono a hE h (fun k A B h1 w1 => u _ _ _ h1 w1) w
  | .val e, E, E2, hE, env, S, S2, Q, Q2, h, u, w => by
    unfold evT at w ⊢
    exact evC_mono e hE h (fun d A B h1 w1 => truthW_mono h1 u w1) w
theorem evL_mono : ∀ (l : L) {E E2 : QE} (hE : UpD E E2) {env : Env} {S S2 : DS} {Q Q2 : List D → DS → Prop}, DS.le S S2 → UpD Q Q2 → evL G l env S Q E → evL G2 l env S2 Q2 E2
  | .ex e, E, E2, hE, env, S, S2, Q, Q2, h, u, w => by
    unfold evL at w ⊢
    refine evC_mono e hE h (fun d A B h1 w1 => ?_) w
    split at w1
    · rename_i q
      rw [lst_mono h1 q]
      exact u _ _ _ h1 w1
    · exact w1.elim
  | .exl e, E, E2, hE, env, S, S2, Q, Q2, h, u, w => by
    unfold evL at w ⊢
    refine evC_mono e hE h (fun d A B h1 w1 => ?_) w
    split at w1
    · rename_i q
      rw [lsl_mono h1 q]
      exact u _ _ _ h1 w1
    · exact w1.elim
  | .lst es, E, E2, hE, env, S, S2, Q, Q2, h, u, w => by
    unfold evL at w ⊢
    exact evCs_mono es hE h (fun ds A B h1 w1 => ⟨w1.1, u _ _ _ h1 w1.2⟩) w
  | .lc e tg wk t, E, E2, hE, env, S, S2, Q, Q2, h, u, w => by
    unfold evL at w ⊢
    refine evW_mono wk hE h (fun ds g A B h1 w1 => ⟨w1.1, eachW_mono (fun d A B R R2 h2 u2 w2 => ⟨gd_mono h2 w2.1, tgW_mono tg noU h2 (fun env1 A B h3 w3 => evTo_mono t noU h3 (fun k A B h4 w4 => ?_) w3) w2.2⟩) ds h1 (fun xs A B h2 w2 => ⟨gd_mono h2 w2.1, u _ _ _ h2 w2.2⟩) w1.2⟩) w
    cases k with
    | true => exact evC_mono e noU h4 (fun x A B h5 w5 => u2 _ _ _ h5 w5) w4
    | false => exact u2 _ _ _ h4 w4
theorem evW_mono : ∀ (wk : W) {E E2 : QE} (hE : UpD E E2) {env : Env} {S S2 : DS} {Q Q2 : List D → Gd → DS → Prop}, DS.le S S2 → (∀ ds g S S2, DS.le S S2 → Q ds g S → Q2 ds g S2) → evW G wk env S Q E → evW G2 wk env S2 Q2 E2
  | .ex e, E, E2, hE, env, S, S2, Q, Q2, h, u, w => by
    unfold evW at w ⊢
    exact evC_mono e hE h (fun d A B h1 w1 => walkW_mono h1 u w1) w
  | .fl l, E, E2, hE, env, S, S2, Q, Q2, h, u, w => by
    unfold evW at w ⊢
    exact evL_mono l hE h (fun ds A B h1 w1 => u _ _ _ _ h1 w1) w
  | .range1 a, E, E2, hE, env, S, S2, Q, Q2, h, u, w => by
    unfold evW at w ⊢
    refine evC_mono a hE h (fun x A B h1 w1 => ?_) w
    split at w1
    · exact ⟨w1.1, w1.2.1, u _ _ _ _ h1 w1.2.2⟩
    · exact w1.elim
  | .range2 a b, E, E2, hE, env, S, S2, Q, Q2, h, u, w => by
    unfold evW at w ⊢
    refine evC_mono a hE h (fun x A B h1 w1 => evC_mono b hE h1 (fun y A B h2 w2 => ?_) w1) w
    split at w2
    · exact ⟨w2.1, w2.2.1, w2.2.2.1, w2.2.2.2.1, u _ _ _ _ h2 w2.2.2.2.2⟩
    · exact w2.elim
  | .enum e, E, E2, hE, env, S, S2, Q, Q2, h, u, w => by
    unfold evW at w ⊢
    exact evC_mono e hE h (fun d A B h1 w1 => seqW_mono h1 (fun ds g w2 => u _ _ _ _ h1 w2) w1) w
  | .zip a b, E, E2, hE, env, S, S2, Q, Q2, h, u, w => by
    unfold evW at w ⊢
    exact evC_mono a hE h (fun x A B h1 w1 => evC_mono b hE h1 (fun y A B h2 w2 => zipW_mono h2 u w2) w1) w
end
end

/-- less is wanted -/
structure En.le (R R2 : En) : Prop where
  nx : UpD R.nx R2.nx
  rt : UpD R.rt R2.rt
  bk : UpD R.bk R2.bk
  ct : UpD R.ct R2.ct
theorem forW_mono {tgf tgf2 : D → Env → DS → (Env → DS → Prop) → Prop} {bd bd2 : Env → DS → En → Prop} {g : Gd}
    (ht : ∀ d env S S2 Q Q2, DS.le S S2 → UpD Q Q2 → tgf d env S Q → tgf2 d env S2 Q2) (hb : ∀ env S S2 R R2, DS.le S S2 → En.le R R2 → bd env S R → bd2 env S2 R2) :
    ∀ (ds : List D) {env : Env} {S S2 : DS} {R R2 : En}, DS.le S S2 → En.le R R2 → forW tgf bd g ds env S R → forW tgf2 bd2 g ds env S2 R2
  | [], env, S, S2, R, R2, h, u, w => ⟨gd_mono h w.1, u.nx _ _ _ h w.2⟩
  | d :: ds, env, S, S2, R, R2, h, u, w => by
    refine ⟨gd_mono h w.1, ht _ _ _ _ _ _ h (fun e A B h1 w1 => ?_) w.2⟩
    refine hb _ _ _ _ _ h1 ?_ w1
    exact ⟨fun e A B h2 w2 => forW_mono ht hb ds h2 u w2, u.rt, u.nx, fun e A B h2 w2 => forW_mono ht hb ds h2 u w2⟩
theorem whileW_mono {tf tf2 : Env → DS → (Bool → DS → Prop) → Prop} {bd bd2 : Env → DS → En → Prop}
    (ht : ∀ env S S2 Q Q2, DS.le S S2 → UpD Q Q2 → tf env S Q → tf2 env S2 Q2) (hb : ∀ env S S2 R R2, DS.le S S2 → En.le R R2 → bd env S R → bd2 env S2 R2) :
    ∀ (n : Nat) {env : Env} {S S2 : DS} {R R2 : En}, DS.le S S2 → En.le R R2 → whileW tf bd n env S R → whileW tf2 bd2 n env S2 R2
  | 0, _, _, _, _, _, _, _, w => w.elim
  | n + 1, env, S, S2, R, R2, h, u, w => by
    unfold whileW at w ⊢
    refine ht _ _ _ _ _ h (fun k A B h1 w1 => ?_) w
    cases k with
    | true =>
      refine hb _ _ _ _ _ h1 ?_ w1
      exact ⟨fun e A B h2 w2 => whileW_mono ht hb n h2 u w2, u.rt, u.nx, fun e A B h2 w2 => whileW_mono ht hb n h2 u w2⟩
    | false => exact u.nx _ _ _ h1 w1
section
variable {G G2 : GG} (hG : GLe G G2) {E E2 : QE} (hE : UpD E E2)
include hG hE
mutual
theorem exT_mono : ∀ (t : T) {env : Env} {S S2 : DS} {R R2 : En}, DS.le S S2 → En.le R R2 → exT G t env S R E → exT G2 t env S2 R2 E2
  | .ret e, env, S, S2, R, R2, h, u, w => by
    unfold exT at w ⊢
    exact evC_mono hG e hE h u.rt w
  | .retN, env, S, S2, R, R2, h, u, w => u.rt _ _ _ h w
  | .expr e, env, S, S2, R, R2, h, u, w => by
    unfold exT at w ⊢
    exact evC_mono hG e hE h (fun d A B h1 w1 => u.nx _ _ _ h1 w1) w
  | .asg t e, env, S, S2, R, R2, h, u, w => by
    unfold exT at w ⊢
    exact evC_mono hG e hE h (fun d A B h1 w1 => tgW_mono hG t hE h1 u.nx w1) w
  | .aug i o e, env, S, S2, R, R2, h, u, w => by
    unfold exT at w ⊢
    refine slotW_mono (fun x w1 => evC_mono hG e hE h (fun y A B h1 w2 => ?_) w1) w
    split at w2
    · exact binW_mono h1 (fun z A B h2 w3 => u.nx _ _ _ h2 w3) w2
    · exact w2.elim
  | .ite t a b, env, S, S2, R, R2, h, u, w => by
    unfold exT at w ⊢
    refine evT_mono hG t hE h (fun k A B h1 w1 => ?_) w
    cases k with
    | true => exact exTs_mono a h1 u w1
    | false => exact exTs_mono b h1 u w1
  | .while t b, env, S, S2, R, R2, h, u, w => by
    unfold exT at w ⊢
    obtain ⟨n, w⟩ := w
    exact ⟨n, whileW_mono (tf := fun env S Q => evT G t env S Q E) (bd := fun env S R => exTs G b env S R E) (fun env A B Q Q2 h1 u1 w1 => evT_mono hG t hE h1 u1 w1) (fun env A B R R2 h1 u1 w1 => exTs_mono b h1 u1 w1) n h u w⟩
  | .for tg wk b, env, S, S2, R, R2, h, u, w => by
    unfold exT at w ⊢
    exact evW_mono hG wk hE h (fun ds g A B h1 w1 => forW_mono (tgf := fun d env S Q => tgW G tg d env S Q E) (bd := fun env S R => exTs G b env S R E) (fun d env A B Q Q2 h2 u2 w2 => tgW_mono hG tg hE h2 u2 w2) (fun env A B R R2 h2 u2 w2 => exTs_mono b h2 u2 w2) ds h1 u w1) w
  | .raise c es, env, S, S2, R, R2, h, u, w => by
    unfold exT at w ⊢
    exact evCs_mono hG es hE h (fun ds A B h1 w1 => hE _ _ _ h1 w1) w
  | .brk, env, S, S2, R, R2, h, u, w => u.bk _ _ _ h w
  | .cont, env, S, S2, R, R2, h, u, w => u.ct _ _ _ h w
  | .pass, env, S, S2, R, R2, h, u, w => u.nx _ _ _ h w
  | .never, env, S, S2, R, R2, h, u, w => w.elim
theorem exTs_mono : ∀ (ts : List T) {env : Env} {S S2 : DS} {R R2 : En}, DS.le S S2 → En.le R R2 → exTs G ts env S R E → exTs G2 ts env S2 R2 E2
  | [], env, S, S2, R, R2, h, u, w => by
    unfold exTs at w ⊢
    exact u.nx _ _ _ h w
  | t :: ts, env, S, S2, R, R2, h, u, w => by
    unfold exTs at w ⊢
    refine exT_mono t h ?_ w
    exact ⟨fun e A B h1 w1 => exTs_mono ts h1 u w1, u.rt, u.bk, u.ct⟩
end
end
def SemUp (P : Prog) (a b : Nat → List D → DS → QD → QE → Prop) : Prop := ∀ f ds S S2 Q Q2 E E2, DS.le S S2 → UpD Q Q2 → UpD E E2 → a f ds S Q E → b f ds S2 Q2 E2
theorem semL_up {P : Prog} {n m : Nat} (h : n ≤ m) (ih : ∀ k, k + 2 ≤ n → ∀ j, k ≤ j → SemUp P (sem P k) (sem P j)) : SemUp P (semL P n) (semL P m) := fun f ds S S2 Q Q2 E E2 h1 h2 h3 w => by
  match n, m, h with
  | 0, _, _ => exact w.elim
  | 1, _, _ => exact w.elim
  | n + 2, 0, h => omega
  | n + 2, 1, h => omega
  | n + 2, m + 2, h => exact ih n (by omega) m (by omega) f ds S S2 Q Q2 E E2 h1 h2 h3 w
theorem sem_mono_lt (P : Prog) : ∀ (N n : Nat), n ≤ N → ∀ m, n ≤ m → SemUp P (sem P n) (sem P m)
  | _, 0, _, _, _, _, _, _, _, _, _, _, _, _, _, _, w => (show False from w).elim
  | 0, n + 1, h, _, _, _, _, _, _, _, _, _, _, _, _, _, _ => by omega
  | N + 1, n + 1, _, 0, h, _, _, _, _, _, _, _, _, _, _, _, _ => by omega
  | N + 1, n + 1, hN, m + 1, h, f, ds, S, S2, Q, Q2, E, E2, hS, u, hE, w => by
    rw [sem_succ] at w ⊢
    split at w
    · rename_i F q
      refine ⟨w.1, exTs_mono (G := P.gg n) (G2 := P.gg m) ⟨rfl, sem_mono_lt P N n (by omega) m (by omega), semL_up (by omega) (fun k hk j hj => sem_mono_lt P N k (by omega) j hj), rfl⟩ hE F.body hS ?_ w.2⟩
      exact ⟨fun _ A B h1 ⟨C, h2, w2⟩ => ⟨C, h2.trans h1, u _ _ _ (DS.le.refl _) w2⟩, fun _ A B h1 ⟨C, h2, w2⟩ => ⟨C, h2.trans h1, u _ _ _ (DS.le.refl _) w2⟩, fun _ _ _ _ w => w, fun _ _ _ _ w => w⟩
    · exact w.elim
theorem sem_mono (P : Prog) (n m : Nat) (h : n ≤ m) : ∀ f ds S S2 Q Q2 E E2, DS.le S S2 → UpD Q Q2 → UpD E E2 → sem P n f ds S Q E → sem P m f ds S2 Q2 E2 := sem_mono_lt P n n (Nat.le_refl _) m h
theorem semL_mono (P : Prog) (n m : Nat) (h : n ≤ m) : ∀ f ds S S2 Q Q2 E E2, DS.le S S2 → UpD Q Q2 → UpD E E2 → semL P n f ds S Q E → semL P m f ds S2 Q2 E2 := semL_up h fun k _ j hj => sem_mono P k j hj
theorem gg_le (P : Prog) (n m : Nat) (h : n ≤ m) : GLe (P.gg n) (P.gg m) := ⟨rfl, sem_mono P n m h, semL_mono P n m h, rfl⟩
end PD
end
section
set_option Elab.async false
set_option linter.all false
set_option maxRecDepth 100000
set_option maxHeartbeats 1000000
/-! PyD, part D: how deep values and the store lie in the abstract heap of the hand layer. -/
namespace PD
open PySem PySem.Spec PyProof.Rows L2

/-- the written part, the program, where its functions and classes stand -/
structure RC where
  K : PySem.W.Frag
  T : List (Addr × Str)
  P : Prog
  fa : Nat → Addr
  ca : Nat → Addr
def kV2 : PD.Key → L2.Key
  | .inl i => .inl i
  | .inr x => .inr ⟨x.toArray⟩
/-- the built-in types that are named -/
def tyNames : List String := ["bool", "int", "str", "tuple", "list", "dict"]
/-- a text that is one -/
def okS (x : List Nat) : Prop := x.length ≤ lim ∧ ∀ c ∈ x, c < 1114112
def okK : PD.Key → Prop
  | .inl _ => True
  | .inr x => okS x
/-- a list that is only read: frozen, or an object of the module -/
def SqF (K : PySem.W.Frag) (H : Hp) (a : Addr) (xs : List V) : Prop :=
  (∃ o, H a = some (.frz o (.lst xs))) ∨
    ∃ (o : Obj) (its : Array Value) (n : Nat), K.lookup a = some o ∧ o.cls = .type "list" ∧ o.dict = none ∧ o.data = .seq its n ∧ its.size ≤ sizeLine ∧ Vals xs its.toList
theorem SqF.l {K : PySem.W.Frag} {H : Hp} {a : Addr} {xs : List V} (h : SqF K H a xs) : SqL K H a xs := h.imp (fun ⟨o, q⟩ => .inr ⟨o, q⟩) id
section
variable (R : RC)
mutual
def RelD (H : Hp) : D → V → Prop
  | .non, v => v = .non
  | .bl b, v => v = .bl b
  | .int i, v => v = .int i
  | .str x, v => v = .str ⟨x.toArray⟩ ∧ okS x
  | .tup ds, v => ∃ a vs, v = .ref a ∧ SqT R.K H a vs ∧ RelDs H ds vs
  | .lis ds, v => ∃ a vs, v = .ref a ∧ SqF R.K H a vs ∧ RelDs H ds vs
  | .ref a, v => v = .ref a
  | .fn f, v => v = .ref (R.fa f)
  | .cls c, v => v = .ref (R.ca c)
  | .ty n, v => v = .ty n ∧ n ∈ tyNames
def RelDs (H : Hp) : List D → List V → Prop
  | [], vs => vs = []
  | d :: ds, vs => ∃ v ws, vs = v :: ws ∧ RelD H d v ∧ RelDs H ds ws
end
def RelKV (H : Hp) : List (PD.Key × D) → List (L2.Key × V) → Prop
  | [], vs => vs = []
  | p :: ps, vs => ∃ v ws, vs = (kV2 p.1, v) :: ws ∧ RelD R H p.2 v ∧ RelKV H ps ws ∧ okK p.1
/-- an object of the store stands at a -/
def RelO2 (H : Hp) (a : Addr) : SO → Prop
  | .lst ds => ∃ vs, H a = some (.lst vs) ∧ RelDs R H ds vs
  | .dk kvs => ∃ ps, H a = some (.dK ps) ∧ RelKV R H kvs ps
structure RelS (H : Hp) (S : DS) : Prop where
  o : ∀ a o, S a = some o → RelO2 R H a o
  t : LamX.Tabs R.T H
end
/-- all that the store does not tell of stays; what is new in the store was nothing -/
structure Step (S : DS) (H : Hp) (S' : DS) (H' : Hp) : Prop where
  fr : ∀ a o, H a = some o → S a = none → (∀ ps, o ≠ .tbl ps) → H' a = some o
  gr : ∀ a o, S' a = some o → (∃ u, S a = some u) ∨ H a = none ∨ ∃ ps, H a = some (.tbl ps)
/-- what may come into the store at a -/
def Fre (S : DS) (H : Hp) (a : Addr) : Prop := (∃ u, S a = some u) ∨ H a = none ∨ ∃ ps, H a = some (.tbl ps)
theorem Step.refl (S : DS) (H : Hp) : Step S H S H := ⟨fun _ _ h _ _ => h, fun a o h => .inl ⟨o, h⟩⟩
theorem Step.nul {S S1 : DS} {H H1 : Hp} (a : Step S H S1 H1) {x : Addr} {o : HO} (h : H x = some o) (n : S x = none) (t : ∀ ps, o ≠ .tbl ps) : S1 x = none := by
  cases q : S1 x with
  | none => rfl
  | some u =>
    rcases a.gr x u q with ⟨w, z⟩ | z | ⟨ps, z⟩
    · rw [n] at z; cases z
    · rw [h] at z; cases z
    · rw [h] at z; exact absurd (Option.some.inj z) (t ps)
/-- what is free, or a table, later was so -/
theorem Step.fre' {S S1 : DS} {H H1 : Hp} (a : Step S H S1 H1) {x : Addr} (h : H1 x = none ∨ ∃ ps, H1 x = some (.tbl ps)) : Fre S H x := by
  cases q : H x with
  | none => exact .inr (.inl q)
  | some o =>
    by_cases ht : ∃ ps, o = .tbl ps
    · obtain ⟨ps, rfl⟩ := ht
      exact .inr (.inr ⟨ps, q⟩)
    · cases q2 : S x with
      | some u => exact .inl ⟨u, q2⟩
      | none =>
        have z := a.fr x o q q2 fun ps e => ht ⟨ps, e⟩
        rcases h with h | ⟨ps, h⟩
        · rw [z] at h; cases h
        · rw [z] at h; exact absurd ⟨ps, Option.some.inj h⟩ ht
theorem Step.fre {S S1 : DS} {H H1 : Hp} (a : Step S H S1 H1) {x : Addr} (h : H1 x = none) : Fre S H x := a.fre' (.inl h)
theorem Step.trans {S S1 S2 : DS} {H H1 H2 : Hp} (a : Step S H S1 H1) (b : Step S1 H1 S2 H2) : Step S H S2 H2 where
  fr := fun x o h n t => b.fr x o (a.fr x o h n t) (a.nul h n t) t
  gr := fun x o h => by
    rcases b.gr x o h with ⟨u, z⟩ | z
    · exact a.gr x u z
    · exact a.fre' z
/-- less of the store at the start, at the end -/
theorem Step.forget {S S1 S2 : DS} {H H1 : Hp} (a : Step S H S1 H1) (h : DS.le S2 S1) : Step S H S2 H1 := ⟨a.fr, fun x o e => a.gr x o (h x o e)⟩
theorem Step.laid {S : DS} {H : Hp} {p : Addr} {o : HO} (n : H p = none) : Step S H S (upd H p o) :=
  ⟨fun a u h _ _ => by rw [upd_ne (ne_of_none h n)]; exact h, fun a u h => .inl ⟨u, h⟩⟩
theorem Step.new {S : DS} {H : Hp} {p : Addr} {o : HO} {u : SO} (n : H p = none) : Step S H (S.put p u) (upd H p o) :=
  ⟨(Step.laid n).fr, fun a w h => by
    by_cases e : a = p
    · subst e; exact .inr (.inl n)
    · rw [DS.put_ne e] at h; exact .inl ⟨w, h⟩⟩
theorem Step.write {S : DS} {H : Hp} {p : Addr} {o : HO} {u w : SO} (n : S p = some w) : Step S H (S.put p u) (upd H p o) :=
  ⟨fun a v h z _ => by
    have e : a ≠ p := fun e => by subst e; rw [n] at z; cases z
    rw [upd_ne e]; exact h, fun a v h => by
    by_cases e : a = p
    · subst e; exact .inl ⟨w, n⟩
    · rw [DS.put_ne e] at h; exact .inl ⟨v, h⟩⟩

/-! ### what stays -/
def TMono (K : PySem.W.Frag) (H H' : Hp) : Prop := (∀ a xs, SqT K H a xs → SqT K H' a xs) ∧ ∀ a xs, SqF K H a xs → SqF K H' a xs
section
variable {R : RC} {H H' : Hp}
theorem RelDs.mono_of (ih : ∀ (d : D) (v : V), RelD R H d v → RelD R H' d v) : ∀ (ds : List D) (vs : List V), RelDs R H ds vs → RelDs R H' ds vs
  | [], vs, h => h
  | d :: ds, vs, h => by
    obtain ⟨v, ws, e, h1, h2⟩ := h
    exact ⟨v, ws, e, ih d v h1, RelDs.mono_of ih ds ws h2⟩
mutual
theorem RelD.mono (t : TMono R.K H H') : ∀ (d : D) (v : V), RelD R H d v → RelD R H' d v
  | .non, v, h => h
  | .bl _, v, h => h
  | .int _, v, h => h
  | .str _, v, h => h
  | .tup ds, v, h => by
    obtain ⟨a, vs, e, h1, h2⟩ := h
    exact ⟨a, vs, e, t.1 a vs h1, RelDs.mono t ds vs h2⟩
  | .lis ds, v, h => by
    obtain ⟨a, vs, e, h1, h2⟩ := h
    exact ⟨a, vs, e, t.2 a vs h1, RelDs.mono t ds vs h2⟩
  | .ref _, v, h => h
  | .fn _, v, h => h
  | .cls _, v, h => h
  | .ty _, v, h => h
theorem RelDs.mono (t : TMono R.K H H') : ∀ (ds : List D) (vs : List V), RelDs R H ds vs → RelDs R H' ds vs
  | [], vs, h => h
  | d :: ds, vs, h => by
    obtain ⟨v, ws, e, h1, h2⟩ := h
    exact ⟨v, ws, e, RelD.mono t d v h1, RelDs.mono t ds ws h2⟩
end
theorem RelKV.mono (t : TMono R.K H H') : ∀ (ps : List (PD.Key × D)) (qs : List (L2.Key × V)), RelKV R H ps qs → RelKV R H' ps qs
  | [], qs, h => h
  | p :: ps, qs, h => by
    obtain ⟨v, ws, e, h1, h2, h3⟩ := h
    exact ⟨v, ws, e, RelD.mono t _ v h1, RelKV.mono t ps ws h2, h3⟩
theorem RelDs.length : ∀ {ds : List D} {vs : List V}, RelDs R H ds vs → vs.length = ds.length
  | [], vs, h => by rw [show vs = [] from h]; rfl
  | d :: ds, vs, h => by
    obtain ⟨v, ws, e, h1, h2⟩ := h
    rw [e, List.length_cons, List.length_cons, RelDs.length h2]
theorem RelDs.get : ∀ {ds : List D} {vs : List V} {i : Nat} {d : D}, RelDs R H ds vs → ds[i]? = some d → ∃ v, vs[i]? = some v ∧ RelD R H d v
  | [], _, _, _, _, e => by simp at e
  | d :: ds, vs, 0, x, h, e => by
    obtain ⟨v, ws, e1, h1, h2⟩ := h
    simp at e
    subst e e1
    exact ⟨v, rfl, h1⟩
  | d :: ds, vs, i + 1, x, h, e => by
    obtain ⟨v, ws, e1, h1, h2⟩ := h
    subst e1
    obtain ⟨u, q1, q2⟩ := RelDs.get (i := i) h2 (by simpa using e)
    exact ⟨u, by simpa using q1, q2⟩
theorem RelDs.append : ∀ {ds es : List D} {vs ws : List V}, RelDs R H ds vs → RelDs R H es ws → RelDs R H (ds ++ es) (vs ++ ws)
  | [], es, vs, ws, h, h2 => by rw [show vs = [] from h]; exact h2
  | d :: ds, es, vs, ws, h, h2 => by
    obtain ⟨v, us, e, q1, q2⟩ := h
    subst e
    exact ⟨v, us ++ ws, rfl, q1, RelDs.append q2 h2⟩
theorem RelDs.take : ∀ {ds : List D} {vs : List V} (n : Nat), RelDs R H ds vs → RelDs R H (ds.take n) (vs.take n)
  | _, _, 0, _ => by simp [RelDs]
  | [], vs, n + 1, h => by rw [show vs = [] from h]; simp [RelDs]
  | d :: ds, vs, n + 1, h => by
    obtain ⟨v, us, e, q1, q2⟩ := h
    subst e
    exact ⟨v, us.take n, rfl, q1, RelDs.take n q2⟩
theorem RelDs.drop : ∀ {ds : List D} {vs : List V} (n : Nat), RelDs R H ds vs → RelDs R H (ds.drop n) (vs.drop n)
  | _, _, 0, h => h
  | [], vs, n + 1, h => by rw [show vs = [] from h]; simp [RelDs]
  | d :: ds, vs, n + 1, h => by
    obtain ⟨v, us, e, q1, q2⟩ := h
    subst e
    exact RelDs.drop n q2
theorem RelDs.set : ∀ {ds : List D} {vs : List V} (i : Nat) {d : D} {v : V}, RelDs R H ds vs → RelD R H d v → RelDs R H (ds.set i d) (vs.set i v)
  | [], vs, i, d, v, h, r => by rw [show vs = [] from h]; simp [RelDs]
  | x :: ds, vs, 0, d, v, h, r => by
    obtain ⟨u, us, e, q1, q2⟩ := h
    subst e
    exact ⟨v, us, rfl, r, q2⟩
  | x :: ds, vs, i + 1, d, v, h, r => by
    obtain ⟨u, us, e, q1, q2⟩ := h
    subst e
    exact ⟨u, us.set i v, rfl, q1, RelDs.set i q2 r⟩
theorem RelDs.rep {ds : List D} {vs : List V} (h : RelDs R H ds vs) : ∀ k : Nat, RelDs R H (List.replicate k ds).flatten (List.replicate k vs).flatten
  | 0 => rfl
  | k + 1 => by
    rw [List.replicate_succ, List.replicate_succ, List.flatten_cons, List.flatten_cons]
    exact h.append (RelDs.rep h k)
theorem RelDs.none_of {ds : List D} {vs : List V} (h : RelDs R H ds vs) (e : ds = []) : vs = [] := by subst e; exact h
theorem RelDs.isEmpty {ds : List D} {vs : List V} (h : RelDs R H ds vs) : vs.isEmpty = ds.isEmpty := by
  cases ds with
  | nil => rw [show vs = [] from h]; rfl
  | cons d ds => obtain ⟨v, ws, e, _, _⟩ := h; subst e; rfl
theorem RelKV.isEmpty {ps : List (PD.Key × D)} {qs : List (L2.Key × V)} (h : RelKV R H ps qs) : qs.isEmpty = ps.isEmpty := by
  cases ps with
  | nil => rw [show qs = [] from h]; rfl
  | cons d ds => obtain ⟨v, ws, e, _, _⟩ := h; subst e; rfl
theorem RelKV.length : ∀ {ps : List (PD.Key × D)} {qs : List (L2.Key × V)}, RelKV R H ps qs → qs.length = ps.length
  | [], qs, h => by rw [show qs = [] from h]; rfl
  | p :: ps, qs, h => by
    obtain ⟨v, ws, e, h1, h2, _⟩ := h
    rw [e, List.length_cons, List.length_cons, RelKV.length h2]
theorem kV2_inj {a b : PD.Key} (e : kV2 a = kV2 b) : a = b := by
  cases a with
  | inl i =>
    cases b with
    | inl j => exact congrArg Sum.inl (Sum.inl.inj e)
    | inr y => cases e
  | inr x =>
    cases b with
    | inl j => cases e
    | inr y =>
      have h := Sum.inr.inj e
      have h2 : x.toArray = y.toArray := congrArg Str.cps h
      have h3 : x = y := by simpa using congrArg Array.toList h2
      rw [h3]
/-! the store -/
theorem RelS.nul {S : DS} (r : RelS R H S) {a : Addr} (e : H a = Option.none) : S a = Option.none := by
  cases q : S a with
  | none => rfl
  | some o =>
    have h := r.o a o q
    cases o with
    | lst ds => obtain ⟨vs, z, _⟩ := h; rw [e] at z; cases z
    | dk ds => obtain ⟨vs, z, _⟩ := h; rw [e] at z; cases z
theorem RelS.notup {S : DS} (r : RelS R H S) {a : Addr} {xs : List V} (e : Rd H a (.tup xs)) : S a = Option.none := by
  cases q : S a with
  | none => rfl
  | some o =>
    have h := r.o a o q
    rcases e with e | ⟨ob, e⟩
    · cases o with
      | lst ds => obtain ⟨vs, z, _⟩ := h; rw [e] at z; cases z
      | dk ds => obtain ⟨vs, z, _⟩ := h; rw [e] at z; cases z
    · cases o with
      | lst ds => obtain ⟨vs, z, _⟩ := h; rw [e] at z; cases z
      | dk ds => obtain ⟨vs, z, _⟩ := h; rw [e] at z; cases z
theorem RelS.nofrz {S : DS} (r : RelS R H S) {a : Addr} {o : Obj} {u : HO} (e : H a = some (.frz o u)) : S a = Option.none := by
  cases q : S a with
  | none => rfl
  | some o =>
    have h := r.o a o q
    cases o with
    | lst ds => obtain ⟨vs, z, _⟩ := h; rw [e] at z; cases z
    | dk ds => obtain ⟨vs, z, _⟩ := h; rw [e] at z; cases z
theorem RelS.forget {S S2 : DS} (r : RelS R H S) (h : DS.le S2 S) : RelS R H S2 := ⟨fun a o e => r.o a o (h a o e), r.t⟩
/-- tuples stay over a step -/
theorem Step.tmono {S S' : DS} (r : RelS R H S) (s : Step S H S' H') : TMono R.K H H' := ⟨fun a xs h => by
  rcases h with h | h
  · refine .inl ?_
    have n := r.notup h
    rcases h with h | ⟨o, h⟩
    · exact .inl (s.fr a _ h n (fun ps e => by cases e))
    · exact .inr ⟨o, s.fr a _ h n (fun ps e => by cases e)⟩
  · exact .inr h, fun a xs h => by
  rcases h with ⟨o, h⟩ | h
  · exact .inl ⟨o, s.fr a _ h (r.nofrz h) (fun ps e => by cases e)⟩
  · exact .inr h⟩
theorem tmono_laid {p : Addr} {o : HO} (n : H p = Option.none) : TMono R.K H (upd H p o) := ⟨fun a xs h => by
  rcases h with h | h
  · rcases h with h | ⟨u, h⟩
    · exact .inl (.inl (by rw [upd_ne (ne_of_none h n)]; exact h))
    · exact .inl (.inr ⟨u, by rw [upd_ne (ne_of_none h n)]; exact h⟩)
  · exact .inr h, fun a xs h => by
  rcases h with ⟨u, h⟩ | h
  · exact .inl ⟨u, by rw [upd_ne (ne_of_none h n)]; exact h⟩
  · exact .inr h⟩
theorem RelO2.mono (t : TMono R.K H H') {a : Addr} {o : SO} (e : ∀ u, H a = some u → H' a = some u) (h : RelO2 R H a o) : RelO2 R H' a o := by
  cases o with
  | lst ds => obtain ⟨vs, z, q⟩ := h; exact ⟨vs, e _ z, RelDs.mono t _ _ q⟩
  | dk ds => obtain ⟨vs, z, q⟩ := h; exact ⟨vs, e _ z, RelKV.mono t _ _ q⟩
theorem RelS.laid {S : DS} (r : RelS R H S) {p : Addr} {o : HO} (n : H p = Option.none) : RelS R (upd H p o) S := ⟨fun a u e =>
  (r.o a u e).mono (tmono_laid n) fun w z => by rw [upd_ne (ne_of_none z n)]; exact z, r.t.ext fun b u z => by rw [upd_ne (ne_of_none z n)]; exact z⟩
/-- a tracked object that is no table and no code changes -/
theorem tabs_upd {T : List (Addr × Str)} {p : Addr} {u o : HO} (t : LamX.Tabs T H) (e : H p = some u) (h1 : ∀ ps, u ≠ .tbl ps) (h2 : ∀ q, u ≠ LamX.CodeO p q) : LamX.Tabs T (upd H p o) := fun q hq => by
  obtain ⟨ps, a1, a2, a3⟩ := t q hq
  have n1 : q.1 ≠ p := fun z => by rw [z, e] at a1; exact h1 ps (Option.some.inj a1)
  refine ⟨ps, by rw [upd_ne n1]; exact a1, a2, fun pos cv hc => ?_⟩
  obtain ⟨c, b1, b2⟩ := a3 pos cv hc
  have n2 : c ≠ p := fun z => by rw [z, e] at b2; exact h2 q.2 (Option.some.inj b2)
  exact ⟨c, b1, by rw [upd_ne n2]; exact b2⟩
theorem lst_code {p : Addr} {vs : List V} (q : Str) : HO.lst vs ≠ LamX.CodeO p q := fun z => by unfold LamX.CodeO at z; cases z
theorem dk_code {p : Addr} {kvs : List (L2.Key × V)} (q : Str) : HO.dK kvs ≠ LamX.CodeO p q := fun z => by unfold LamX.CodeO at z; cases z
theorem RelS.new {S : DS} (r : RelS R H S) {p : Addr} {o : HO} {u : SO} (n : H p = Option.none) (h : RelO2 R (upd H p o) p u) : RelS R (upd H p o) (S.put p u) := ⟨fun a w e => by
  by_cases z : a = p
  · subst z
    rw [DS.put_same] at e
    cases e
    exact h
  · rw [DS.put_ne z] at e
    exact (r.laid n).o a w e, (r.laid n).t⟩
theorem tmono_write {S : DS} (r : RelS R H S) {p : Addr} {o : HO} {w : SO} (n : S p = some w) : TMono R.K H (upd H p o) := ⟨fun a xs h => by
  rcases h with h | h
  · have m := r.notup h
    have e : a ≠ p := fun e => by subst e; rw [n] at m; cases m
    rcases h with h | ⟨u, h⟩
    · exact .inl (.inl (by rw [upd_ne e]; exact h))
    · exact .inl (.inr ⟨u, by rw [upd_ne e]; exact h⟩)
  · exact .inr h, fun a xs h => by
  rcases h with ⟨u, h⟩ | h
  · have m := r.nofrz h
    have e : a ≠ p := fun e => by subst e; rw [n] at m; cases m
    exact .inl ⟨u, by rw [upd_ne e]; exact h⟩
  · exact .inr h⟩
theorem RelS.write {S : DS} (r : RelS R H S) {p : Addr} {o : HO} {u w : SO} (n : S p = some w) (h : RelO2 R (upd H p o) p u) : RelS R (upd H p o) (S.put p u) := ⟨fun a x e => by
  by_cases z : a = p
  · subst z
    rw [DS.put_same] at e
    cases e
    exact h
  · rw [DS.put_ne z] at e
    exact (r.o a x e).mono (tmono_write r n) fun q hq => by rw [upd_ne z]; exact hq, by
  have z := r.o p w n
  cases w with
  | lst ds =>
    obtain ⟨vs, z, _⟩ := z
    exact tabs_upd r.t z (fun _ q => by cases q) lst_code
  | dk ds =>
    obtain ⟨vs, z, _⟩ := z
    exact tabs_upd r.t z (fun _ q => by cases q) dk_code⟩
end
/-- what is wanted of a value, told of the abstract heap -/
def Pv (R : RC) (S : DS) (H : Hp) (Q : VK) : QD := fun d S' => ∀ v H', Step S H S' H' → RelD R H' d v → RelS R H' S' → Q v H'
end PD
end
section
set_option Elab.async false
set_option linter.all false
set_option maxRecDepth 100000
set_option maxHeartbeats 2000000
/-! PyD, part E: operators, by values. -/
namespace PD
open PySem PySem.Spec PyProof.Rows L2

/-! ### a tuple times 1, times 0 -/
theorem tuple_mulSame (l : Addr) (items : Array Value) (n : Nat) (dd : Option Addr) (sl : Array (Option Value)) (x : Int) (u : Tok) (c0 : (decide (x < -(2 ^ 63)) || decide (x ≥ 2 ^ 63)) = false) (c1 : (items.isEmpty || x == 1) = true) :
    Meets (Builtin.«tuple.__mul__» ⟨[.ref l, .int x u], []⟩) (fun _ R s => s.heap.get? l = some { cls := .type "tuple", dict := dd, data := .seq items n, slots := sl } ∧ R (.ok (.ret (Value.ref l))) s) :=
  .of_wp fun prog w A R s h => by
    obtain ⟨hp, g, d, tk, os⟩ := s
    obtain ⟨hl, h⟩ := h
    have f1 := AutoSeq1.idx_int
    wp_walk using wpAny_loadPart' hl
    repeat (first
      | (refine wpAny_ite_false (decide_eq_false (by rw [c0]; exact Bool.false_ne_true)) ?_; wp_walk using wpAny_loadPart' hl)
      | (refine wpAny_ite_true (decide_eq_true (by rw [c1])) ?_; wp_walk using wpAny_loadPart' hl))
    exact ⟨_, rfl, h⟩
theorem tuple_mulNone (l : Addr) (items : Array Value) (n : Nat) (dd : Option Addr) (sl : Array (Option Value)) (x : Int) (u : Tok) (c0 : (decide (x < -(2 ^ 63)) || decide (x ≥ 2 ^ 63)) = false) (c1 : (items.isEmpty || x == 1) = false) (c2 : (decide (x ≤ 0) || items.isEmpty) = true) :
    Meets (Builtin.«tuple.__mul__» ⟨[.ref l, .int x u], []⟩) (fun _ R s => s.heap.get? l = some { cls := .type "tuple", dict := dd, data := .seq items n, slots := sl } ∧
      R (.ok (.ret (Value.ref s.heap.objs.size))) { s with heap := s.heap.push { cls := Value.type "tuple", data := Data.seq #[] }, toks := s.toks }) :=
  .of_wp fun prog w A R s h => by
    obtain ⟨hp, g, d, tk, os⟩ := s
    obtain ⟨hl, h⟩ := h
    have f1 := AutoSeq1.idx_int
    wp_walk using wpAny_loadPart' hl
    repeat (first
      | (refine wpAny_ite_false (decide_eq_false (by rw [c0]; exact Bool.false_ne_true)) ?_; wp_walk using wpAny_loadPart' hl)
      | (refine wpAny_ite_false (decide_eq_false (by rw [c1]; exact Bool.false_ne_true)) ?_; wp_walk using wpAny_loadPart' hl)
      | (refine wpAny_ite_true (decide_eq_true (by rw [c2])) ?_; wp_walk using wpAny_loadPart' hl))
    exact ⟨_, rfl, h⟩
/-- t * k, 0 ≤ k -/
def rRepA (K : PySem.W.Frag) : R2 := fun x y H Q => ∃ l k xs, x = .ref l ∧ y = .int k ∧ SqT K H l xs ∧ 0 ≤ k ∧ k ≤ 1000 ∧ xs.length ≤ 1000 ∧ ((List.replicate k.toNat xs).flatten = xs → Q (.ref l) H) ∧ ∀ p, H p = none → Q (.ref p) (upd H p (.tup (List.replicate k.toNat xs).flatten))
section
variable {X : Cx}
theorem op_repA : OpR X (binaryOp .Mult) (rRepA X.K) := by
  intro pins s σ H x y v u Q I rx ry h
  obtain ⟨l, k, xs, rfl, rfl, hT, h0, h1, hz, qs, q⟩ := h
  by_cases hk : xs ≠ [] ∧ 2 ≤ k
  · exact op_repT pins s σ H _ _ v u Q I rx ry ⟨l, k, xs, rfl, rfl, hT, hk.1, hk.2, h1, hz, q⟩
  cases rx
  obtain ⟨t, rfl⟩ := ry
  obtain ⟨its, r, ⟨⟨cls, dd, data, sl⟩, ho, hc, n, hd⟩, hs⟩ := I.tuple hT
  simp only at hc hd
  subst hc hd
  have c0 : (decide (k < -(2 ^ 63)) || decide (k ≥ 2 ^ 63)) = false := by
    rw [decide_eq_false (by omega), decide_eq_false (by omega)] <;> rfl
  have hie : its.toArray.isEmpty = xs.isEmpty := by
    cases r <;> simp
  by_cases hc1 : (its.toArray.isEmpty || k == 1) = true
  · have hsame : (List.replicate k.toNat xs).flatten = xs := by
      rw [hie] at hc1
      rcases Bool.or_eq_true_iff.mp hc1 with e | e
      · have e2 : xs = [] := List.isEmpty_iff.mp e
        subst e2
        rw [List.flatten_eq_nil_iff]
        intro z hz
        exact (List.mem_replicate.mp hz).2
      · have e2 : k = 1 := by simpa using e
        subst e2
        simp
    refine wpAny_binaryOp_repeat_ref (T := "tuple") (U := "int") (by decide) ⟨_, ho, rfl⟩ (fun s' => typeIs_int s' k t) noFill_tuple_mul F.fills_int_mul F.slot_int_rmul repeat_tuple F.slot_int_index.lookup
      (call_meets F.slot_int_rmul (typeIs_int s k t) F.entry_int_rmul (F.args_int_rmul_2 _ _) (int_rmul_tuple k t l its.toArray n dd sl)
        ⟨ho, rfl, ⟨_, ho, rfl⟩, call_meets F.slot_tuple_mul ⟨_, ho, rfl⟩ F.entry_tuple_mul (F.args_tuple_mul_2 _ _) (tuple_mulSame l its.toArray n dd sl k t c0 hc1) ⟨ho, ?_⟩⟩)
    exact ⟨.ref l, H, I, rfl, qs hsame⟩
  · have hc1 : (its.toArray.isEmpty || k == 1) = false := by simpa using hc1
    have hk0 : k = 0 := by
      rw [hie] at hc1
      obtain ⟨e1, e2⟩ := Bool.or_eq_false_iff.mp hc1
      have e3 : k ≠ 1 := by simpa using e2
      have e4 : xs ≠ [] := fun e => by rw [e] at e1; cases e1
      have : ¬ 2 ≤ k := fun z => hk ⟨e4, z⟩
      omega
    subst hk0
    refine wpAny_binaryOp_repeat_ref (T := "tuple") (U := "int") (by decide) ⟨_, ho, rfl⟩ (fun s' => typeIs_int s' 0 t) noFill_tuple_mul F.fills_int_mul F.slot_int_rmul repeat_tuple F.slot_int_index.lookup
      (call_meets F.slot_int_rmul (typeIs_int s 0 t) F.entry_int_rmul (F.args_int_rmul_2 _ _) (int_rmul_tuple 0 t l its.toArray n dd sl)
        ⟨ho, rfl, ⟨_, ho, rfl⟩, call_meets F.slot_tuple_mul ⟨_, ho, rfl⟩ F.entry_tuple_mul (F.args_tuple_mul_2 _ _) (tuple_mulNone l its.toArray n dd sl 0 t c0 hc1 rfl) ⟨ho, ?_⟩⟩)
    refine ⟨.ref s.heap.objs.size, _, I.laid (t' := s.toks) (o := .tup []) (fun b ob q => Heap.get?_push_of_some _ q) (Nat.le_refl _) ?_, rfl, q _ (I.hok.fresh (Nat.le_refl _))⟩
    exact ⟨Nat.zero_le _, [], .nil, IsTup.new _ _⟩
end

theorem lim_eq : (sizeLine : Nat) = lim := sizeLine_eq
/-- where a value stands -/
structure At (R : RC) (X : Cx) (H : Hp) (S : DS) : Prop where
  K : X.K = R.K
  rs : RelS R H S
section
variable {R : RC} {X : Cx} {H : Hp} {S : DS} {pins : List (Addr × Obj)} {s : Shared} {σ : L2.St} {Q : VK}

/-- an answer that changes nothing -/
theorem Pv.same (a : At R X H S) {d : D} {v : V} (w : Pv R S H Q d S) (r : RelD R H d v) : Q v H := w v H (Step.refl S H) r a.rs
/-- a new tuple -/
theorem Pv.tup (a : At R X H S) {ds : List D} {vs : List V} (r : RelDs R H ds vs) (w : Pv R S H Q (.tup ds) S) {p : Addr} (n : H p = none) : Q (.ref p) (upd H p (.tup vs)) :=
  w _ _ (Step.laid n) ⟨p, vs, rfl, .inl (.inl upd_same), RelDs.mono (tmono_laid n) _ _ r⟩ (a.rs.laid n)
/-- a new list -/
theorem Pv.lst (a : At R X H S) {ds : List D} {vs : List V} (r : RelDs R H ds vs) (w : newW (.lst ds) S (Pv R S H Q)) {p : Addr} (n : H p = none) : Q (.ref p) (upd H p (.lst vs)) :=
  w p (a.rs.nul n) _ _ (Step.new n) rfl (a.rs.new n ⟨vs, upd_same, RelDs.mono (tmono_laid n) _ _ r⟩)

def opA : Op → Operator → Bool
  | .add, .Add | .sub, .Sub | .mul, .Mult | .fdiv, .FloorDiv | .mod, .Mod | .pow, .Pow => true
  | _, _ => false
/-- a list, where it stands -/
theorem lsl_sq (a : At R X H S) {d : D} {x : V} {ds : List D} (rd : RelD R H d x) (e : S.lsl? d = some ds) : ∃ p xs, x = .ref p ∧ SqL X.K H p xs ∧ RelDs R H ds xs := by
  have hK := a.K
  cases d with
  | lis es =>
    cases e
    obtain ⟨p, xs, rfl, h1, h2⟩ := rd
    exact ⟨p, xs, rfl, by rw [hK]; exact h1.l, h2⟩
  | ref p =>
    obtain rfl := rd
    unfold DS.lsl? at e
    dsimp only at e
    cases q : S p with
    | none => rw [q] at e; cases e
    | some o =>
      rw [q] at e
      cases o with
      | lst es =>
        cases e
        obtain ⟨xs, h1, h2⟩ := a.rs.o _ _ q
        exact ⟨p, xs, rfl, .inl (.inl h1), h2⟩
      | dk kvs => cases e
  | _ => cases e
theorem op_catL (I : Inv X pins σ H s) {l b : Addr} {xs zs : List V} (h1 : SqL X.K H l xs) (h2 : SqL X.K H b zs) (hz : xs.length + zs.length ≤ sizeLine) (q : ∀ p, H p = none → Q (.ref p) (upd H p (.lst (xs ++ zs)))) :
    wpAny (model X.prog X.w) X.A (binaryOp .Add (.ref l) (.ref b)) (EP X pins σ Q) X.xe s := by
  obtain ⟨its, r, ⟨⟨cls, dd, data, sl⟩, n, ho, hc, hd, hdat⟩, _⟩ := I.list h1
  obtain ⟨its2, r2, ⟨⟨cls2, dd2, data2, sl2⟩, n2, ho2, hc2, hd2, hdat2⟩, _⟩ := I.list h2
  simp only at hc hd hc2 hd2 hdat hdat2
  subst hc hd hc2 hd2 hdat hdat2
  have hl := r.length
  have hl2 := r2.length
  have ea : its.toArray ++ its2.toArray = (its ++ its2).toArray := by simp
  refine concat_meets ⟨_, ho, rfl⟩ ⟨_, ho2, rfl⟩ noFill_list_add seq_list_add PySem.F.slot_list_add PySem.F.entry_list_add (PySem.F.args_list_add_2 _ _)
    (list_addW l b its.toArray its2.toArray n n2 none none sl sl2 (by rw [List.size_toArray, List.size_toArray]; omega)) ⟨ho, ho2, ?_⟩
  rw [ea]
  exact ⟨.ref _, _, I.lnew (t' := s.toks) (r.append r2) (by rw [List.length_append]; omega), rfl, q _ I.fresh⟩
theorem list_mulW (l : Addr) (items : Array Value) (n : Nat) (sl : Array (Option Value)) (x : Int) (u : Tok) (hc0 : ¬(!Builtin.List.listFitsIndex x) = true) (hc1 : ¬items.size * x.toNat > (2 ^ 63 - 1) / 8) (hc2 : ¬Builtin.List.listTooLong (items.size * x.toNat) = true) :
    Meets (Builtin.«list.__mul__» ⟨[.ref l, .int x u], []⟩) (fun _ R s => s.heap.get? l = some { cls := .type "list", dict := none, data := .seq items n, slots := sl } ∧ R (.ok (.ret (Value.ref s.heap.objs.size))) { s with heap := s.heap.push { cls := Value.type "list", data := Data.seq (List.foldl (fun x1 x2 => x1 ++ x2) #[] (List.replicate (if items.isEmpty = true then 0 else x.toNat) items)) }, toks := s.toks }) :=
  .of_wp fun prog w A R s h => by
    obtain ⟨hp, g, d, tk, os⟩ := s; obtain ⟨hl, h⟩ := h
    have f1 := AutoSeq1.idx_int; have f2 := AutoSeq1.sub_tuple_tuple; have f3 := AutoSeq1.sub_list_list; have f4 := AutoSeq1.sub_tuple_list; have f5 := AutoSeq1.sub_list_tuple
    have hsz := AutoListH.joined_fits hc2
    wp_walk using wpAny_loadPart' hl; refine wpAny_ite_false (decide_eq_false (Nat.not_lt.mpr hsz)) ?_; wp_walk; exact ⟨_, rfl, h⟩
theorem int_rmul_listW (a : Int) (t : Tok) (l : Addr) (items : Array Value) (n : Nat) (sl : Array (Option Value)) :
    Meets (Builtin.«int.__rmul__» ⟨[.int a t, .ref l], []⟩) (fun _ R s => s.heap.get? l = some { cls := .type "list", dict := none, data := .seq items n, slots := sl } ∧ R (.ok (.ret Value.notImplemented)) s) :=
  .of_wp fun prog w A R s h => by obtain ⟨hp, g, d, tk, os⟩ := s; obtain ⟨hl, h⟩ := h; wp_walk; exact ⟨_, rfl, h⟩
theorem op_repL (I : Inv X pins σ H s) {l : Addr} {k : Int} {t : Tok} {xs : List V} (hH : SqL X.K H l xs) (h1 : 0 ≤ k) (h2 : k ≤ 1000) (hz0 : xs.length ≤ 1000) (q : ∀ p, H p = none → Q (.ref p) (upd H p (.lst (List.replicate k.toNat xs).flatten))) :
    wpAny (model X.prog X.w) X.A (binaryOp .Mult (.ref l) (.int k t)) (EP X pins σ Q) X.xe s := by
  obtain ⟨its, r, ⟨⟨cls, dd, data, sl⟩, n, ho, hc, hd, hdat⟩, _⟩ := I.list hH
  simp only at hc hd hdat
  subst hc hd hdat
  have hl := r.length
  have hz : xs.length * k.toNat ≤ sizeLine := Nat.le_trans (Nat.mul_le_mul hz0 (show k.toNat ≤ 1000 by omega)) (by decide)
  have hlen : its.toArray.size * k.toNat ≤ sizeLine := by rw [List.size_toArray, ← hl]; exact hz
  have hcap : ¬ its.toArray.size * k.toNat > (2 ^ 63 - 1) / 8 := by
    have : (sizeLine : Nat) ≤ (2 ^ 63 - 1) / 8 := by decide
    omega
  have hfit : ¬ (!Builtin.List.listFitsIndex k) = true := by
    rw [fitsIndex_both (by omega) (by omega)]
    exact Bool.false_ne_true
  have hlong : ¬ Builtin.List.listTooLong (its.toArray.size * k.toNat) = true := by
    rw [notLongL hlen]
    exact Bool.false_ne_true
  have hnew : List.foldl (fun x1 x2 => x1 ++ x2) #[] (List.replicate (if its.toArray.isEmpty = true then 0 else k.toNat) its.toArray) = (List.replicate k.toNat its).flatten.toArray := by
    have f0 : ∀ m : Nat, List.foldl (fun x1 x2 => x1 ++ x2) #[] (List.replicate m its.toArray) = (List.replicate m its).flatten.toArray := fun m => by
      have := foldl_rep its m []
      rw [List.nil_append] at this
      exact this
    rw [f0]
    cases its with
    | nil => simp
    | cons a r' => rw [if_neg (by simp)]
  refine wpAny_binaryOp_repeat_ref (T := "list") (U := "int") (by decide) ⟨_, ho, rfl⟩ (fun s' => typeIs_int s' k t) noFill_list_mul F.fills_int_mul F.slot_int_rmul repeat_list F.slot_int_index.lookup
    (call_meets F.slot_int_rmul (typeIs_int s k t) F.entry_int_rmul (F.args_int_rmul_2 _ _) (int_rmul_listW k t l its.toArray n sl)
      ⟨ho, rfl, ⟨_, ho, rfl⟩, call_meets F.slot_list_mul ⟨_, ho, rfl⟩ F.entry_list_mul (F.args_list_mul_2 _ _) (list_mulW l its.toArray n sl k t hfit hcap hlong) ⟨ho, ?_⟩⟩)
  rw [hnew]
  exact ⟨.ref _, _, I.lnew (t' := s.toks) (r.rep k.toNat) (by rw [PyProof.Rows.lm_len_rep_flat, Nat.mul_comm]; exact hz), rfl, q _ I.fresh⟩
theorem rep_ok (a : At R X H S) {x y : V} {v u : Value} {d : D} {j : Int} (I : Inv X pins σ H s) (rx : RelV x v) (ry : RelV y u) (rd : RelD R H d x) (re : RelD R H (.int j) y) (w : repW d j S (Pv R S H Q)) :
    wpAny (model X.prog X.w) X.A (binaryOp .Mult v u) (EP X pins σ Q) X.xe s := by
  unfold repW at w
  split at w
  · rename_i xs e1
    obtain ⟨p, vs, rfl, h1, r1⟩ := lsl_sq a rd e1
    obtain rfl := re
    cases rx
    obtain ⟨t, rfl⟩ := ry
    exact op_repL I h1 w.1 w.2.1 (by rw [r1.length]; exact w.2.2.1) fun p n => Pv.lst a (r1.rep _) w.2.2.2 n
  · exact w.elim
theorem cat_ok (a : At R X H S) {x y : V} {v u : Value} {d e : D} (I : Inv X pins σ H s) (rx : RelV x v) (ry : RelV y u) (rd : RelD R H d x) (re : RelD R H e y) (w : catW d e S (Pv R S H Q)) :
    wpAny (model X.prog X.w) X.A (binaryOp .Add v u) (EP X pins σ Q) X.xe s := by
  unfold catW at w
  split at w
  · rename_i xs ys e1 e2
    obtain ⟨p, vs, rfl, h1, r1⟩ := lsl_sq a rd e1
    obtain ⟨q, ws, rfl, h2, r2⟩ := lsl_sq a re e2
    cases rx
    cases ry
    exact op_catL I h1 h2 (by rw [lim_eq, r1.length, r2.length]; exact w.1) fun p n => Pv.lst a (r1.append r2) w.2 n
  · exact w.elim
theorem bin_ok (a : At R X H S) {o : Op} {op : Operator} (ho : opA o op = true) {x y : V} {v u : Value} {d e : D} (I : Inv X pins σ H s) (rx : RelV x v) (ry : RelV y u) (rd : RelD R H d x) (re : RelD R H e y)
    (w : binW o d e S (Pv R S H Q)) : wpAny (model X.prog X.w) X.A (binaryOp op v u) (EP X pins σ Q) X.xe s := by
  have hK := a.K
  unfold binW at w
  split at w
  · -- int + int
    cases op <;> first | cases ho | skip
    obtain rfl := rd
    obtain rfl := re
    exact op_add pins s σ H _ _ v u Q I rx ry ⟨_, _, rfl, rfl, Pv.same a w rfl⟩
  · cases op <;> first | cases ho | skip
    obtain ⟨rfl, oa⟩ := rd
    obtain ⟨rfl, ob⟩ := re
    refine op_add_str pins s σ H _ _ v u Q I rx ry ⟨_, _, rfl, rfl, ?_, ?_⟩
    · rw [lim_eq]
      simpa [Str.length] using w.1
    · refine Pv.same a w.2 ⟨?_, ?_⟩
      · show V.str (Str.append _ _) = _
        unfold Str.append
        simp
      · exact ⟨by rw [List.length_append]; exact w.1, fun c hc => (List.mem_append.mp hc).elim (oa.2 c) (ob.2 c)⟩
  · cases op <;> first | cases ho | skip
    obtain ⟨p, xs, rfl, h1, r1⟩ := rd
    obtain ⟨q, ys, rfl, h2, r2⟩ := re
    refine op_catA pins s σ H _ _ v u Q I rx ry ⟨_, _, xs, ys, rfl, rfl, by rw [hK]; exact h1, by rw [hK]; exact h2, ?_, fun e => ?_, fun _ e => ?_, fun _ _ p n => ?_⟩
    · rw [lim_eq, r1.length, r2.length]; exact w.1
    · subst e
      have e2 := RelDs.length r1
      refine Pv.same a w.2 ⟨q, ys, rfl, h2, ?_⟩
      rename_i A B
      cases A with
      | nil => exact r2
      | cons z zs => simp at e2
    · subst e
      have e2 := RelDs.length r2
      refine Pv.same a w.2 ⟨p, xs, rfl, h1, ?_⟩
      rename_i A B _
      cases B with
      | nil => simpa using r1
      | cons z zs => simp at e2
    · exact Pv.tup a (r1.append r2) w.2 n
  · cases op <;> first | cases ho | skip
    exact cat_ok a I rx ry rd re w
  · cases op <;> first | cases ho | skip
    exact cat_ok a I rx ry rd re w
  · cases op <;> first | cases ho | skip
    exact rep_ok a I rx ry rd re w
  · cases op <;> first | cases ho | skip
    exact rep_ok a I rx ry rd re w
  · cases op <;> first | cases ho | skip
    obtain rfl := rd
    obtain rfl := re
    exact op_sub pins s σ H _ _ v u Q I rx ry ⟨_, _, rfl, rfl, Pv.same a w rfl⟩
  · cases op <;> first | cases ho | skip
    rename_i i j
    obtain rfl := rd
    obtain rfl := re
    rcases w.1 with h | h | h
    · exact op_mul pins s σ H _ _ v u Q I rx ry ⟨_, _, rfl, rfl, .inl h, Pv.same a w.2 rfl⟩
    · exact op_mul pins s σ H _ _ v u Q I rx ry ⟨_, _, rfl, rfl, .inr h, Pv.same a w.2 rfl⟩
    · refine op_mulX pins s σ H _ _ v u Q I rx ry ⟨_, _, rfl, rfl, mulx_ok (a := i.natAbs.log2 + 1) (b := j.natAbs.log2 + 1) Nat.lt_log2_self Nat.lt_log2_self (by omega), Pv.same a w.2 rfl⟩
  · cases op <;> first | cases ho | skip
    rename_i A j
    obtain ⟨p, xs, rfl, h1, r1⟩ := rd
    obtain rfl := re
    refine op_repA pins s σ H _ _ v u Q I rx ry ⟨_, _, xs, rfl, rfl, by rw [hK]; exact h1, w.1, w.2.1, by rw [r1.length]; exact w.2.2.1, fun e => ?_, fun p n => Pv.tup a (r1.rep _) w.2.2.2 n⟩
    refine Pv.same a w.2.2.2 ⟨p, xs, rfl, h1, ?_⟩
    have z := r1.rep j.toNat
    rw [e] at z
    exact z
  · cases op <;> first | cases ho | skip
    rename_i i j
    obtain rfl := rd
    obtain rfl := re
    obtain ⟨t, rfl⟩ := rx
    obtain ⟨t', rfl⟩ := ry
    have e : i.fdiv j = i / j := Int.fdiv_eq_ediv_of_nonneg _ (by have := w.1.1; omega)
    refine floordiv_int (by have := w.1.1; omega) ?_ (.inl w.1.2)
    rw [e]
    exact ⟨.int _, H, I.tok _, ⟨_, rfl⟩, Pv.same a w.2 rfl⟩
  · cases op <;> first | cases ho | skip
    obtain rfl := rd
    obtain rfl := re
    exact op_mod pins s σ H _ _ v u Q I rx ry ⟨_, _, rfl, rfl, w.1, Pv.same a w.2 rfl⟩
  · cases op <;> first | cases ho | skip
    obtain rfl := rd
    obtain rfl := re
    exact op_pow pins s σ H _ _ v u Q I rx ry ⟨_, _, rfl, rfl, w.1, Pv.same a w.2 rfl⟩
  · exact w.elim
end
end PD
end
section
set_option Elab.async false
set_option linter.all false
set_option maxRecDepth 100000
set_option maxHeartbeats 2000000
/-! PyD, part F: comparisons, truth, subscripts, built-ins, methods, by values. -/
namespace PD
open PySem PySem.Spec PyProof.Rows L2

/-! ### pure values as data -/
mutual
def D.toP : D → PyData
  | .non => .none
  | .bl b => .bool b
  | .int i => .int i
  | .str x => .str ⟨x.toArray⟩
  | .tup ds => .tuple (D.toPs ds)
  | _ => .none
def D.toPs : List D → List PyData
  | [] => []
  | d :: ds => d.toP :: D.toPs ds
end
mutual
theorem pure_py (r : Addr → Option PyData) : ∀ d : D, d.pure = true → D.py r d = some d.toP
  | .non, _ => rfl
  | .bl _, _ => rfl
  | .int _, _ => rfl
  | .str _, _ => rfl
  | .tup ds, h => by
    unfold D.py
    rw [pures_pys r ds (by simpa [D.pure] using h)]
    rfl
  | .lis _, h => by cases h
  | .ref _, h => by cases h
  | .fn _, h => by cases h
  | .cls _, h => by cases h
  | .ty _, h => by cases h
theorem pures_pys (r : Addr → Option PyData) : ∀ ds : List D, D.pures ds = true → D.pys r ds = some (D.toPs ds)
  | [], _ => rfl
  | d :: ds, h => by
    have h' : d.pure = true ∧ D.pures ds = true := by simpa [D.pures] using h
    unfold D.pys
    rw [pure_py r d h'.1, pures_pys r ds h'.2]
    rfl
end
mutual
theorem toP_depth : ∀ d : D, d.toP.depth = d.dep
  | .non => rfl
  | .bl _ => rfl
  | .int _ => rfl
  | .str _ => rfl
  | .tup ds => by
    unfold D.toP D.dep PyData.depth
    rw [toPs_depth ds]
  | .lis _ => rfl
  | .ref _ => rfl
  | .fn _ => rfl
  | .cls _ => rfl
  | .ty _ => rfl
theorem toPs_depth : ∀ ds : List D, PyData.depthAll (D.toPs ds) = D.deps ds
  | [] => rfl
  | d :: ds => by
    unfold D.toPs D.deps PyData.depthAll
    rw [toP_depth d, toPs_depth ds]
end
theorem str_beq (x y : List Nat) : ((⟨x.toArray⟩ : Str) == ⟨y.toArray⟩) = (x == y) := by
  by_cases e : x = y
  · subst e; simp
  · rw [beq_eq_false_iff_ne.mpr e]
    refine beq_eq_false_iff_ne.mpr fun h => e ?_
    have h2 : x.toArray = y.toArray := congrArg Str.cps h
    simpa using congrArg Array.toList h2
mutual
theorem toP_eqv : ∀ d e : D, d.pure = true → e.pure = true → PyData.eqv d.toP e.toP = D.eqv d e
  | .non, e, _, h => by cases e <;> first | rfl | cases h
  | .bl _, e, _, h => by cases e <;> first | rfl | cases h
  | .int _, e, _, h => by cases e <;> first | rfl | cases h
  | .str x, e, _, h => by
    cases e <;> first | rfl | (cases h; done) | skip
    rename_i y
    unfold D.toP D.eqv PyData.eqv
    exact str_beq x y
  | .tup xs, e, h1, h => by
    cases e <;> first | rfl | (cases h; done) | skip
    rename_i ys
    unfold D.toP D.eqv PyData.eqv
    exact toPs_eqv xs ys (by simpa [D.pure] using h1) (by simpa [D.pure] using h)
  | .lis _, _, h, _ => by cases h
  | .ref _, _, h, _ => by cases h
  | .fn _, _, h, _ => by cases h
  | .cls _, _, h, _ => by cases h
  | .ty _, _, h, _ => by cases h
theorem toPs_eqv : ∀ ds es : List D, D.pures ds = true → D.pures es = true → PyData.eqvAll (D.toPs ds) (D.toPs es) = D.eqvs ds es
  | [], [], _, _ => rfl
  | [], _ :: _, _, _ => rfl
  | _ :: _, [], _, _ => rfl
  | d :: ds, e :: es, h1, h2 => by
    have h1' : d.pure = true ∧ D.pures ds = true := by simpa [D.pures] using h1
    have h2' : e.pure = true ∧ D.pures es = true := by simpa [D.pures] using h2
    unfold D.toPs D.eqvs PyData.eqvAll
    rw [toP_eqv d e h1'.1 h2'.1, toPs_eqv ds es h1'.2 h2'.2]
end
section
variable {R : RC} {H : Hp} {S : DS}
theorem strOk_of {x : List Nat} (h : okS x) : PyData.strOk ⟨x.toArray⟩ = true := by
  unfold PyData.strOk
  simp only [List.all_toArray, List.all_eq_true, decide_eq_true_eq]
  exact h.2
mutual
theorem py_dp {r : Addr → Option PyData} (hr : ∀ a p, r a = some p → Dp R.K H (.ref a) p ∧ p.canLay0 = true) : ∀ (d : D) (v : V) (p : PyData), RelD R H d v → D.py r d = some p → Dp R.K H v p ∧ p.canLay0 = true
  | .non, v, p, h, e => by cases h; cases e; exact ⟨.non, rfl⟩
  | .bl b, v, p, h, e => by cases h; cases e; exact ⟨.bl b, rfl⟩
  | .int i, v, p, h, e => by cases h; cases e; exact ⟨.int i, rfl⟩
  | .str x, v, p, h, e => by
    obtain ⟨rfl, o⟩ := h
    cases e
    exact ⟨.str _, strOk_of o⟩
  | .tup ds, v, p, h, e => by
    obtain ⟨a, vs, rfl, h1, h2⟩ := h
    unfold D.py at e
    cases q : D.pys r ds with
    | none => rw [q] at e; cases e
    | some ps =>
      rw [q] at e
      cases e
      obtain ⟨z1, z2⟩ := pys_dp hr ds vs ps h2 q
      exact ⟨.tup h1 z1, z2⟩
  | .lis ds, v, p, h, e => by
    obtain ⟨a, vs, rfl, h1, h2⟩ := h
    unfold D.py at e
    cases q : D.pys r ds with
    | none => rw [q] at e; cases e
    | some ps =>
      rw [q] at e
      cases e
      obtain ⟨z1, z2⟩ := pys_dp hr ds vs ps h2 q
      exact ⟨.lst h1.l z1, z2⟩
  | .ref a, v, p, h, e => by cases h; exact hr a p e
  | .fn _, _, _, _, e => by cases e
  | .cls _, _, _, _, e => by cases e
  | .ty _, _, _, _, e => by cases e
theorem pys_dp {r : Addr → Option PyData} (hr : ∀ a p, r a = some p → Dp R.K H (.ref a) p ∧ p.canLay0 = true) : ∀ (ds : List D) (vs : List V) (ps : List PyData), RelDs R H ds vs → D.pys r ds = some ps → DpAll R.K H vs ps ∧ PyData.canLayAll0 ps = true
  | [], vs, ps, h, e => by cases h; cases e; exact ⟨.nil, rfl⟩
  | d :: ds, vs, ps, h, e => by
    obtain ⟨v, ws, rfl, h1, h2⟩ := h
    unfold D.pys at e
    cases q : D.py r d with
    | none => rw [q] at e; cases e
    | some p =>
      rw [q] at e
      cases q2 : D.pys r ds with
      | none => rw [q2] at e; cases e
      | some ps2 =>
        rw [q2] at e
        cases e
        obtain ⟨a1, a2⟩ := py_dp hr d v p h1 q
        obtain ⟨b1, b2⟩ := pys_dp hr ds ws ps2 h2 q2
        exact ⟨.cons a1 b1, by unfold PyData.canLayAll0; rw [a2, b2]; rfl⟩
end
theorem rd_dp (rs : RelS R H S) : ∀ (n : Nat) (a : Addr) (p : PyData), S.rd n a = some p → Dp R.K H (.ref a) p ∧ p.canLay0 = true
  | 0, _, _, e => by cases e
  | n + 1, a, p, e => by
    unfold DS.rd at e
    cases q : S a with
    | none => rw [q] at e; cases e
    | some o =>
      rw [q] at e
      have h := rs.o a o q
      cases o with
      | lst ds =>
        dsimp only at e
        obtain ⟨vs, h1, h2⟩ := h
        cases z : D.pys (S.rd n) ds with
        | none => rw [z] at e; cases e
        | some ps =>
          rw [z] at e
          cases e
          obtain ⟨z1, z2⟩ := pys_dp (rd_dp rs n) ds vs ps h2 z
          exact ⟨.lst (.inl (.inl h1)) z1, z2⟩
      | dk kvs => cases e
/-- pure values -/
theorem pure_dp {d : D} {v : V} (h : RelD R H d v) (p : d.pure = true) : Dp R.K H v d.toP ∧ d.toP.canLay0 = true :=
  py_dp (r := fun _ => none) (fun _ _ e => by cases e) d v d.toP h (pure_py _ d p)
theorem pures_dp {ds : List D} {vs : List V} (h : RelDs R H ds vs) (p : D.pures ds = true) : DpAll R.K H vs (D.toPs ds) ∧ PyData.canLayAll0 (D.toPs ds) = true :=
  pys_dp (r := fun _ => none) (fun _ _ e => by cases e) ds vs (D.toPs ds) h (pures_pys _ ds p)
theorem any_toPs (x : D) (hx : x.pure = true) : ∀ ds : List D, D.pures ds = true → ((D.toPs ds).any fun y => PyData.eqv y x.toP) = ds.any fun d => D.eqv d x
  | [], _ => rfl
  | d :: ds, h => by
    have h' : d.pure = true ∧ D.pures ds = true := by simpa [D.pures] using h
    unfold D.toPs
    rw [List.any_cons, List.any_cons, toP_eqv d x h'.1 hx, any_toPs x hx ds h'.2]
/-- what == of two values asks, as data -/
theorem eq_data (rs : RelS R H S) {d e : D} {x y : V} (rd : RelD R H d x) (re : RelD R H e y) {Q : Bool → Prop} (w : eqW d e S Q) :
    ∃ p q, Dp R.K H x p ∧ Dp R.K H y q ∧ p.canLay0 = true ∧ q.canLay0 = true ∧ min p.depth q.depth ≤ 1000 ∧ Q (PyData.eqv p q) := by
  obtain ⟨n, p, q, h1, h2, h3, h4⟩ := w
  obtain ⟨a1, a2⟩ := py_dp (rd_dp rs n) _ _ _ rd h1
  obtain ⟨b1, b2⟩ := py_dp (rd_dp rs n) _ _ _ re h2
  exact ⟨p, q, a1, b1, a2, b2, h3, h4⟩
end
/-! ### dicts -/
section
variable {R : RC} {H : Hp}
theorem getK_val (k : PD.Key) : ∀ {ps : List (PD.Key × D)} {qs : List (L2.Key × V)}, RelKV R H ps qs → (∀ d, getK ps k = some d → ∃ v, L2.valV qs (kV2 k) = some v ∧ RelD R H d v) ∧ (getK ps k = none → L2.valV qs (kV2 k) = none)
  | [], qs, h => by
    rw [show qs = [] from h]
    exact ⟨fun d e => (nomatch (show (none : Option D) = some d from e)), fun _ => rfl⟩
  | p :: ps, qs, h => by
    obtain ⟨v, ws, rfl, h1, h2, h3⟩ := h
    obtain ⟨i1, i2⟩ := getK_val k h2
    by_cases e : p.1 = k
    · have e2 : getK (p :: ps) k = some p.2 := by unfold getK; rw [List.find?_cons]; simp [e]
      refine ⟨fun d q => ?_, fun q => by rw [e2] at q; cases q⟩
      rw [e2] at q
      cases q
      exact ⟨v, by rw [e]; exact L2.valV_pos rfl, h1⟩
    · have e2 : getK (p :: ps) k = getK ps k := by unfold getK; rw [List.find?_cons]; simp [e]
      have e3 : ¬ kV2 p.1 = kV2 k := fun z => e (kV2_inj z)
      rw [e2, L2.valV_neg e3]
      exact ⟨i1, i2⟩
theorem RelKV.snoc {k : PD.Key} {d : D} {v : V} (hk : okK k) (r : RelD R H d v) : ∀ {ps : List (PD.Key × D)} {qs : List (L2.Key × V)}, RelKV R H ps qs → RelKV R H (ps ++ [(k, d)]) (qs ++ [(kV2 k, v)])
  | [], qs, h => by
    rw [show qs = [] from h]
    exact ⟨v, [], rfl, r, rfl, hk⟩
  | p :: ps, qs, h => by
    obtain ⟨u, ws, rfl, h1, h2, h3⟩ := h
    exact ⟨u, ws ++ [(kV2 k, v)], rfl, h1, RelKV.snoc hk r h2, h3⟩
theorem keyOf_v {d : D} {x : V} {k : PD.Key} (r : RelD R H d x) (e : keyOf d = some k) : x = L2.kV (kV2 k) ∧ okK k := by
  cases d with
  | int i => cases e; cases r; exact ⟨rfl, trivial⟩
  | str y => cases e; obtain ⟨rfl, o⟩ := r; exact ⟨rfl, o⟩
  | _ => cases e
end
section
variable {R : RC} {X : Cx} {H : Hp} {S : DS} {pins : List (Addr × Obj)} {s : Shared} {σ : L2.St} {Q : VK}

def cmA : Cm → CmpOp → Bool
  | .eq, .Eq | .ne, .NotEq | .lt, .Lt | .le, .LtE | .gt, .Gt | .ge, .GtE | .is, .Is | .isnot, .IsNot | .isin, .In | .notin, .NotIn => true
  | _, _ => false
theorem lt_list (a b : List Nat) : decide ((⟨a.toArray⟩ : Str).cps.toList < (⟨b.toArray⟩ : Str).cps.toList) = decide (a < b) := rfl
/-- in, not in: over a list, a tuple -/
theorem inL_ok (hu : X.A.units + 1100 < cLine) (I : L2.Inv X pins σ H s) {x : V} {v : Value} {d : D} (rx : RelV x v) (rd : RelD R H d x) (hK : X.K = R.K) {p : Addr} {ds : List D} {vs : List V} (r : RelDs R H ds vs) {S : DS} (rs : RelS R H S) {QB : Bool → Prop} (w : inL d ds S QB)
    (hs : SqL X.K H p vs ∨ SqT X.K H p vs) : ∃ b, QB b ∧ (∀ Q : Value → Shared → Prop, Q (.bool b) s → wpAny (model X.prog X.w) X.A (compareOp .In v (.ref p)) Q X.xe s) ∧ (∀ Q : Value → Shared → Prop, Q (.bool (!b)) s → wpAny (model X.prog X.w) X.A (compareOp .NotIn v (.ref p)) Q X.xe s) := by
  obtain ⟨n, pd, ps, w1, w2, w3, w4⟩ := w
  obtain ⟨a1, a2⟩ := py_dp (rd_dp rs n) _ _ _ rd w1
  obtain ⟨b1, b2⟩ := pys_dp (rd_dp rs n) _ _ _ r w2
  rw [← hK] at a1 b1
  obtain ⟨as, q1⟩ := Dp.reads I _ _ _ a1 rx
  have hd : X.A.units + 1 + min (PyData.depthAll ps) pd.depth < cLine := by omega
  rcases hs with hs | hs
  · obtain ⟨bs, q2⟩ := Dp.reads I (.list ps) (.ref p) (.ref p) (.lst hs b1) rfl
    refine ⟨_, w4, fun Q h => SeqAt.in_list_reads q2 q1 b2 a2 hd h, fun Q h => SeqAt.notIn_list_reads q2 q1 b2 a2 hd h⟩
  · obtain ⟨bs, q2⟩ := Dp.reads I (.tuple ps) (.ref p) (.ref p) (.tup hs b1) rfl
    refine ⟨_, w4, fun Q h => SeqAt.in_tuple_reads q2 q1 b2 a2 hd h, fun Q h => SeqAt.notIn_tuple_reads q2 q1 b2 a2 hd h⟩
theorem in_ok (a : At R X H S) (hu : X.A.units + 1100 < cLine) {x y : V} {v u : Value} {d e : D} (I : L2.Inv X pins σ H s) (rx : RelV x v) (ry : RelV y u) (rd : RelD R H d x) (re : RelD R H e y) {Q : Bool → Prop} (w : inW d e S Q) :
    (∀ Q2 : Value → Shared → Prop, (∀ b t, Q b → L2.Inv X pins σ H { s with toks := t } → Q2 (.bool b) { s with toks := t }) → wpAny (model X.prog X.w) X.A (compareOp .In v u) Q2 X.xe s) ∧
      (∀ Q2 : Value → Shared → Prop, (∀ b t, Q b → L2.Inv X pins σ H { s with toks := t } → Q2 (.bool (!b)) { s with toks := t }) → wpAny (model X.prog X.w) X.A (compareOp .NotIn v u) Q2 X.xe s) := by
  have hK := a.K
  unfold inW at w
  split at w
  · split at w
    · rename_i b _ c
      obtain ⟨rfl, _⟩ := rd
      obtain ⟨rfl, _⟩ := re
      obtain ⟨t, rfl⟩ := rx
      obtain ⟨t', rfl⟩ := ry
      have e : (b.contains c) = (!(Builtin.Str.occurrences (⟨b.toArray⟩ : Str) ⟨#[c]⟩ 0 (⟨b.toArray⟩ : Str).length 1).isEmpty) := by
        rw [PySem.StrLaws.found_one]
        simp
      rw [e] at w
      exact ⟨fun Q2 h => PyProof.Rows.in_str (h _ s.toks w I), fun Q2 h => PyProof.Rows.notIn_str (h _ s.toks w I)⟩
    · exact w.elim
  · obtain ⟨p, vs, rfl, h1, r1⟩ := re
    cases ry
    obtain ⟨b, q1, q2, q3⟩ := inL_ok hu I rx rd hK r1 a.rs w (.inr (by rw [hK]; exact h1))
    exact ⟨fun Q2 h => q2 Q2 (h _ s.toks q1 I), fun Q2 h => q3 Q2 (h _ s.toks q1 I)⟩
  · obtain ⟨p, vs, rfl, h1, r1⟩ := re
    cases ry
    obtain ⟨b, q1, q2, q3⟩ := inL_ok hu I rx rd hK r1 a.rs w (.inl (by rw [hK]; exact h1.l))
    exact ⟨fun Q2 h => q2 Q2 (h _ s.toks q1 I), fun Q2 h => q3 Q2 (h _ s.toks q1 I)⟩
  · rename_i p
    obtain rfl := re
    cases ry
    cases e1 : S p with
    | none => rw [e1] at w; exact w.elim
    | some o1 =>
      rw [e1] at w
      have ho1 := a.rs.o _ _ e1
      cases o1 with
      | lst ds =>
        obtain ⟨vs, h1, r1⟩ := ho1
        obtain ⟨b, q1, q2, q3⟩ := inL_ok hu I rx rd hK r1 a.rs w (.inl (.inl (.inl h1)))
        exact ⟨fun Q2 h => q2 Q2 (h _ s.toks q1 I), fun Q2 h => q3 Q2 (h _ s.toks q1 I)⟩
      | dk kvs =>
        dsimp only at w
        split at w
        · rename_i k ek
          obtain ⟨qs, h1, r1⟩ := ho1
          obtain ⟨ex, okk⟩ := keyOf_v rd ek
          subst ex
          have e3 : (getK kvs k).isSome = (L2.valV qs (kV2 k)).isSome := by
            obtain ⟨i1, i2⟩ := getK_val k r1
            cases g : getK kvs k with
            | none => rw [i2 g]; rfl
            | some d => obtain ⟨z, e4, _⟩ := i1 d g; rw [e4]; rfl
          rw [e3] at w
          have hq : Rd H p (.dK qs) := .inl h1
          obtain ⟨z, hd, vs, rel, dd⟩ := L2.dk_rd I.hok hq
          refine ⟨fun Q2 h => wpAny_in_of (L2.kV_is rx) hd dd.mapOf ?_, fun Q2 h => wpAny_notIn_of (L2.kV_is rx) hd dd.mapOf ?_⟩
          · rw [← (rel.val (kV2 k)).isSome_eq]
            exact h _ _ w (I.tok _)
          · rw [← (rel.val (kV2 k)).isSome_eq]
            exact h _ _ w (I.tok _)
        · exact w.elim
  · exact w.elim
theorem cmp_ok (a : At R X H S) (hu : X.A.units + 1100 < cLine) {o : Cm} {op : CmpOp} (ho : cmA o op = true) {x y : V} {v u : Value} {d e : D} (I : L2.Inv X pins σ H s) (rx : RelV x v) (ry : RelV y u) (rd : RelD R H d x) (re : RelD R H e y)
    {Q : Bool → Prop} {Q2 : Value → Shared → Prop} (hQ : ∀ b t, Q b → L2.Inv X pins σ H { s with toks := t } → Q2 (.bool b) { s with toks := t }) (w : cmpW o d e S Q) : wpAny (model X.prog X.w) X.A (compareOp op v u) Q2 X.xe s := by
  have hK := a.K
  have hQ' : ∀ b, Q b → Q2 (.bool b) s := fun b q => hQ b s.toks q I
  have hu2 : ∀ p q : PyData, min p.depth q.depth ≤ 1000 → X.A.units + min p.depth q.depth < cLine := fun p q h => by omega
  cases o with
  | eq =>
    cases op <;> first | cases ho | skip
    obtain ⟨p, q, h1, h2, h3, h4, h5, h6⟩ := eq_data a.rs rd re w
    rw [← hK] at h1 h2
    obtain ⟨as, q1⟩ := Dp.reads I _ _ _ h1 rx
    obtain ⟨bs, q2⟩ := Dp.reads I _ _ _ h2 ry
    exact SeqAt.compareEq_reads q1 q2 h3 h4 (hu2 _ _ h5) (hQ' _ h6)
  | ne =>
    cases op <;> first | cases ho | skip
    obtain ⟨p, q, h1, h2, h3, h4, h5, h6⟩ := eq_data a.rs rd re (show eqW d e S (fun b => Q (!b)) from w)
    rw [← hK] at h1 h2
    obtain ⟨as, q1⟩ := Dp.reads I _ _ _ h1 rx
    obtain ⟨bs, q2⟩ := Dp.reads I _ _ _ h2 ry
    exact SeqAt.compareNe_reads q1 q2 h3 h4 (hu2 _ _ h5) (hQ' _ h6)
  | isin =>
    cases op <;> first | cases ho | skip
    exact (in_ok a hu I rx ry rd re (show inW d e S Q from w)).1 Q2 hQ
  | notin =>
    cases op <;> first | cases ho | skip
    exact (in_ok a hu I rx ry rd re (show inW d e S (fun b => Q (!b)) from w)).2 Q2 fun b t q J => hQ _ t q J
  | is =>
    cases op <;> first | cases ho | skip
    cases e <;> first | exact w.elim | skip
    obtain rfl := re
    cases ry
    refine is_none_gen ?_
    have e : (v == Value.none) = isNon d := by
      rw [rx.none_iff]
      cases d with
      | tup ds => obtain ⟨p, vs, rfl, _⟩ := rd; rfl
      | lis ds => obtain ⟨p, vs, rfl, _⟩ := rd; rfl
      | str x => obtain ⟨rfl, _⟩ := rd; rfl
      | ty x => obtain ⟨rfl, _⟩ := rd; rfl
      | _ => cases rd; rfl
    rw [e]
    exact hQ' _ w
  | isnot =>
    cases op <;> first | cases ho | skip
    cases e <;> first | exact w.elim | skip
    obtain rfl := re
    cases ry
    refine isnot_none_gen ?_
    have e : (!(v == Value.none)) = !isNon d := by
      rw [rx.none_iff]
      cases d with
      | tup ds => obtain ⟨p, vs, rfl, _⟩ := rd; rfl
      | lis ds => obtain ⟨p, vs, rfl, _⟩ := rd; rfl
      | str x => obtain ⟨rfl, _⟩ := rd; rfl
      | ty x => obtain ⟨rfl, _⟩ := rd; rfl
      | _ => cases rd; rfl
    rw [e]
    exact hQ' _ w
  | lt =>
    cases op <;> first | cases ho | skip
    unfold cmpW at w
    dsimp only at w
    split at w
    · obtain rfl := rd
      obtain rfl := re
      obtain ⟨t, rfl⟩ := rx
      obtain ⟨t', rfl⟩ := ry
      exact lt_int (hQ' _ w)
    · obtain ⟨rfl, _⟩ := rd
      obtain ⟨rfl, _⟩ := re
      obtain ⟨t, rfl⟩ := rx
      obtain ⟨t', rfl⟩ := ry
      exact PySem.P.lt_str (hQ' _ w)
    · exact w.elim
  | le =>
    cases op <;> first | cases ho | skip
    unfold cmpW at w
    dsimp only at w
    split at w
    · obtain rfl := rd
      obtain rfl := re
      obtain ⟨t, rfl⟩ := rx
      obtain ⟨t', rfl⟩ := ry
      exact le_int (hQ' _ w)
    · exact w.elim
  | gt =>
    cases op <;> first | cases ho | skip
    unfold cmpW at w
    dsimp only at w
    split at w
    · obtain rfl := rd
      obtain rfl := re
      obtain ⟨t, rfl⟩ := rx
      obtain ⟨t', rfl⟩ := ry
      exact gt_int (hQ' _ w)
    · exact w.elim
  | ge =>
    cases op <;> first | cases ho | skip
    unfold cmpW at w
    dsimp only at w
    split at w
    · obtain rfl := rd
      obtain rfl := re
      obtain ⟨t, rfl⟩ := rx
      obtain ⟨t', rfl⟩ := ry
      exact ge_int (hQ' _ w)
    · exact w.elim
/-- truth -/
theorem truth_v (a : At R X H S) {x : V} {d : D} {b : Bool} (rd : RelD R H d x) (e : truth d S = some b) : L2.TruV X.K x H b := by
  have hK := a.K
  cases d with
  | non => cases rd; cases e; rfl
  | bl k => cases rd; cases e; rfl
  | int i => cases rd; cases e; rfl
  | str z =>
    obtain ⟨rfl, o⟩ := rd
    cases e
    refine ⟨by rw [lim_eq]; simpa [Str.length] using o.1, ?_⟩
    cases z with
    | nil => rfl
    | cons c cs =>
      show (!false) = _
      simp [Str.length]
      omega
  | tup ds =>
    obtain ⟨p, vs, rfl, h1, r1⟩ := rd
    cases e
    exact .inr (.inl ⟨vs, by rw [hK]; exact h1, by rw [r1.isEmpty]⟩)
  | lis ds =>
    obtain ⟨p, vs, rfl, h1, r1⟩ := rd
    cases e
    exact .inl ⟨vs, by rw [hK]; exact h1.l, by rw [r1.isEmpty]⟩
  | ref p =>
    cases rd
    unfold truth at e
    dsimp only at e
    cases q : S p with
    | none => rw [q] at e; cases e
    | some o =>
      rw [q] at e
      have ho := a.rs.o _ _ q
      cases o with
      | lst ds =>
        obtain ⟨vs, h1, r1⟩ := ho
        cases e
        exact .inl ⟨vs, .inl (.inl h1), by rw [r1.isEmpty]⟩
      | dk kvs =>
        obtain ⟨qs, h1, r1⟩ := ho
        cases e
        exact .inr (.inr ⟨qs, h1, by rw [r1.isEmpty]⟩)
  | fn _ => cases e
  | cls _ => cases e
  | ty _ => cases e
end
end PD
end
section
set_option Elab.async false
set_option linter.all false
set_option maxRecDepth 100000
set_option maxHeartbeats 2000000
/-! PyD, part G: subscripts, built-ins, methods, by values. -/
namespace PD
open PySem PySem.Spec PyProof.Rows L2
section
variable {R : RC} {X : Cx} {H : Hp} {S : DS} {pins : List (Addr × Obj)} {s : Shared} {σ : L2.St} {Q : VK}

/-- a list of the store -/
theorem At.list (a : At R X H S) {p : Addr} {ds : List D} (e : S p = some (.lst ds)) : ∃ vs, SqL X.K H p vs ∧ RelDs R H ds vs := by
  obtain ⟨vs, h1, r1⟩ := a.rs.o _ _ e
  exact ⟨vs, .inl (.inl h1), r1⟩
theorem atI_of {ds : List D} {vs : List V} (r : RelDs R H ds vs) {i : Int} {j : Nat} {d : D} (h1 : ixP ds.length i = some j) (h2 : ds[j]? = some d) : ∃ v, atI vs i = some v ∧ RelD R H d v := by
  obtain ⟨v, e, q⟩ := r.get h2
  refine ⟨v, ?_, q⟩
  unfold atI
  have h3 : ixN vs.length i = some j := by rw [r.length]; exact h1
  rw [h3]
  exact e
theorem ixL_of {ds : List D} {vs : List V} (r : RelDs R H ds vs) {i : Int} {Q' : D → Prop} (w : ixL ds i Q') : ∃ d v, atI vs i = some v ∧ RelD R H d v ∧ Q' d := by
  unfold ixL at w
  split at w
  · rename_i j e1
    split at w
    · rename_i d e2
      obtain ⟨v, e3, q⟩ := atI_of r e1 e2
      exact ⟨d, v, e3, q, w⟩
    · exact w.elim
  · exact w.elim
/-- o[i] -/
theorem ix_ok (a : At R X H S) {x y : V} {v u : Value} {d e : D} (I : L2.Inv X pins σ H s) (rx : RelV x v) (ry : RelV y u) (rd : RelD R H d x) (re : RelD R H e y) (w : ixW d e S (Pv R S H Q)) {value slice : Expr}
    (hs : subscripted slice false v u = operate [v, u] (getItem v u)) : wpAny (model X.prog X.w) X.A (subscriptTail value slice v u) (EP X pins σ Q) X.xe s := by
  have hK := a.K
  unfold ixW at w
  split at w
  · split at w
    · rename_i b _ i
      split at w
      · rename_i j e1
        split at w
        · rename_i c e2
          obtain ⟨rfl, o⟩ := rd
          obtain rfl := re
          refine ix_str value slice pins s σ H _ _ v u Q I rx ry ⟨_, i, c, rfl, rfl, ?_, ?_, Pv.same a w ⟨rfl, ?_⟩⟩ hs
          · rw [lim_eq]; simpa [Str.length] using o.1
          · unfold atI
            have h3 : ixN (⟨b.toArray⟩ : Str).cps.toList.length i = some j := by
              have e3 : ixN b.length i = some j := e1
              simpa using e3
            rw [h3]
            simpa using e2
          · have hc : c ∈ b := List.mem_of_getElem? e2
            exact ⟨(by decide : 1 ≤ lim), fun z hz => by rw [List.mem_singleton.mp hz]; exact o.2 c hc⟩
        · exact w.elim
      · exact w.elim
    · exact w.elim
  · split at w
    · rename_i ds i
      obtain ⟨p, vs, rfl, h1, r1⟩ := rd
      obtain rfl := re
      obtain ⟨d, z, e1, q1, w1⟩ := ixL_of r1 w
      exact ix_tup value slice pins s σ H _ _ v u Q I rx ry ⟨p, vs, i, z, rfl, rfl, by rw [hK]; exact h1, e1, Pv.same a w1 q1⟩ hs
    · exact w.elim
  · split at w
    · rename_i ds i
      obtain ⟨p, vs, rfl, h1, r1⟩ := rd
      obtain rfl := re
      obtain ⟨d, z, e1, q1, w1⟩ := ixL_of r1 w
      exact ix_list value slice pins s σ H _ _ v u Q I rx ry ⟨p, vs, i, z, rfl, rfl, by rw [hK]; exact h1.l, e1, Pv.same a w1 q1⟩ hs
    · exact w.elim
  · rename_i p
    cases e1 : S p with
    | none => rw [e1] at w; exact w.elim
    | some o =>
      rw [e1] at w
      cases o with
      | lst ds =>
        dsimp only at w
        split at w
        · rename_i i
          obtain rfl := rd
          obtain rfl := re
          obtain ⟨vs, h1, r1⟩ := a.list e1
          obtain ⟨d, z, e2, q1, w1⟩ := ixL_of r1 w
          exact ix_list value slice pins s σ H _ _ v u Q I rx ry ⟨p, vs, i, z, rfl, rfl, h1, e2, Pv.same a w1 q1⟩ hs
        · exact w.elim
      | dk kvs =>
        dsimp only at w
        split at w
        · rename_i k ek
          split at w
          · rename_i d eg
            obtain rfl := rd
            cases rx
            obtain ⟨rfl, okk⟩ := keyOf_v re ek
            obtain ⟨qs, h1, r1⟩ := a.rs.o _ _ e1
            obtain ⟨i1, _⟩ := getK_val k r1
            obtain ⟨z, e4, q4⟩ := i1 d eg
            obtain ⟨_, hd, vs, rel, dd⟩ := L2.dk_rd I.hok (.inl h1)
            obtain ⟨w', hw, rw'⟩ := RelO.some_of (v := z) (o := valueAt vs (kV2 k)) (by rw [← e4]; exact rel.val (kV2 k))
            exact tail_any dd.mapOf.typeIs slot_dict_getitem.lookup (wpAny_getItem_of (L2.kV_is ry) dd.mapOf hw ⟨z, H, I.tok _, rw', Pv.same a w q4⟩) hs
          · exact w.elim
        · exact w.elim
  · exact w.elim
theorem RelDs.cut {ds : List D} {vs : List V} (r : RelDs R H ds vs) (lo hi : Option Int) : RelDs R H (cutD ds lo hi) (cutV vs lo hi) := by
  unfold cutD cutV
  rw [r.length]
  exact (r.drop _).take _
theorem cut_whole {vs : List V} {lo hi : Option Int} (h : HT.sIx vs.length 0 lo = 0 ∧ HT.sIx vs.length vs.length hi = vs.length) : cutV vs lo hi = vs := by
  unfold cutV
  rw [h.1, h.2]
  simp
/-- a slice, by values -/
def rSlD (R : RC) : V → Option Int → Option Int → Hp → VK → Prop := fun x lo hi H Q => ∃ d S, RelD R H d x ∧ RelS R H S ∧ slW d lo hi S (Pv R S H Q)
theorem sl_okD (hK : X.K = R.K) : SlR X (rSlD R) := by
  intro pins s σ H x v vl vu lo hi sl Q I rx hs pl pu h
  obtain ⟨d, S, rd, rs, w⟩ := h
  have a : At R X H S := ⟨hK, rs⟩
  unfold slW at w
  split at w
  · obtain ⟨p, vs, rfl, h1, r1⟩ := rd
    refine sl_tupA pins s σ H _ v vl vu lo hi sl Q I rx hs pl pu ⟨p, vs, rfl, by rw [hK]; exact h1, fun e => ?_, fun _ q n => Pv.tup a (r1.cut lo hi) w n⟩
    refine Pv.same a w ⟨p, vs, rfl, h1, ?_⟩
    have z := r1.cut lo hi
    rw [cut_whole e] at z
    exact z
  · obtain ⟨p, vs, rfl, h1, r1⟩ := rd
    exact sl_list pins s σ H _ v vl vu lo hi sl Q I rx hs pl pu ⟨p, vs, rfl, by rw [hK]; exact h1.l, fun q n => Pv.lst a (r1.cut lo hi) w n⟩
  · rename_i p
    obtain rfl := rd
    split at w
    · rename_i ds e
      have e' : S p = some (.lst ds) := by
        unfold DS.lst? at e
        dsimp only at e
        cases q : S p with
        | none => rw [q] at e; cases e
        | some o => rw [q] at e; cases o <;> cases e <;> rfl
      obtain ⟨vs, h1, r1⟩ := a.list e'
      exact sl_list pins s σ H _ v vl vu lo hi sl Q I rx hs pl pu ⟨p, vs, rfl, h1, fun q n => Pv.lst a (r1.cut lo hi) w n⟩
    · exact w.elim
  · exact w.elim

/-! ### built-ins by values -/
theorem RelDs.one {d : D} {vs : List V} (r : RelDs R H [d] vs) : ∃ v, vs = [v] ∧ RelD R H d v := by
  obtain ⟨v, ws, e, h1, h2⟩ := r
  have h3 : ws = [] := h2
  subst h3
  exact ⟨v, e, h1⟩
theorem RelDs.two {d e : D} {vs : List V} (r : RelDs R H [d, e] vs) : ∃ v w, vs = [v, w] ∧ RelD R H d v ∧ RelD R H e w := by
  obtain ⟨v, ws, q, h1, h2⟩ := r
  obtain ⟨w, h3, h4⟩ := h2.one
  subst h3
  exact ⟨v, w, q, h1, h4⟩
def kitB (K : PySem.W.Frag) (t n : String) : Option Bool := PySem.W.kitOne K (.type t) (.type n)
/-- what the written part must tell of isinstance with a built-in type -/
def kitTys : List String := ["NoneType", "bool", "int", "str", "tuple", "list", "dict"]
def kitAns (t n : String) : Bool := t == n || (t == "bool" && n == "int")
theorem kit_ok (K : PySem.W.Frag) : ∀ t ∈ kitTys, ∀ n ∈ tyNames, PySem.W.kitOne K (.type t) (.type n) = some (kitAns t n) := by
  intro t ht n hn
  simp only [kitTys, tyNames, List.mem_cons, List.not_mem_nil, or_false] at ht hn
  rcases ht with rfl | rfl | rfl | rfl | rfl | rfl | rfl <;> rcases hn with rfl | rfl | rfl | rfl | rfl | rfl <;> (with_unfolding_all rfl)
def biN : BI → Value
  | .len => .builtin "len" | .abs => .builtin "abs" | .int => .type "int" | .isinst => .builtin "isinstance" | .tuple => .type "tuple" | .list => .type "list"
  | .sum => .builtin "sum" | .max => .builtin "max" | .min => .builtin "min" | .all => .builtin "all" | .any => .builtin "any"
theorem tyOf_v (a : At R X H S) {d : D} {v : V} {n : String} {b : Bool} (rd : RelD R H d v) (e : isOf d n S = some b) : ∃ t ∈ kitTys, TyX X.K H v (.type t) ∧ b = kitAns t n := by
  have hK := a.K
  have f : ∀ t : String, (t == "bool" && n == "int") = false → (n == t) = kitAns t n := fun t h => by
    unfold kitAns
    rw [h, Bool.or_false]
    by_cases q : n = t
    · subst q; rfl
    · rw [beq_eq_false_iff_ne.mpr q, beq_eq_false_iff_ne.mpr (Ne.symm q)]
  cases d with
  | non => cases rd; cases e; exact ⟨"NoneType", by decide, .base .non, f _ rfl⟩
  | bl k =>
    cases rd; cases e
    refine ⟨"bool", by decide, .base (.bl k), ?_⟩
    unfold kitAns
    by_cases q : n = "bool"
    · subst q; rfl
    · rw [beq_eq_false_iff_ne.mpr q, beq_eq_false_iff_ne.mpr (Ne.symm q)]
      rfl
  | int i => cases rd; cases e; exact ⟨"int", by decide, .base (.int i), f _ rfl⟩
  | str z => obtain ⟨rfl, _⟩ := rd; cases e; exact ⟨"str", by decide, .base (.str _), f _ rfl⟩
  | tup ds =>
    obtain ⟨p, vs, rfl, h1, r1⟩ := rd
    cases e
    refine ⟨"tuple", by decide, ?_, f _ rfl⟩
    rw [hK]
    rcases h1 with (h1 | ⟨o, h1⟩) | ⟨o, its, n', h1, h2, _⟩
    · exact .base (.tup h1)
    · exact .fTuple h1
    · exact .kTuple h1 h2
  | lis ds =>
    obtain ⟨p, vs, rfl, h1, r1⟩ := rd
    cases e
    refine ⟨"list", by decide, ?_, f _ rfl⟩
    rw [hK]
    rcases h1 with ⟨o, h1⟩ | ⟨o, its, n', h1, h2, _⟩
    · exact .base (.frz h1)
    · exact .kList h1 h2
  | ref p =>
    cases rd
    unfold isOf at e
    dsimp only at e
    cases q : S p with
    | none => rw [q] at e; cases e
    | some o =>
      rw [q] at e
      cases o with
      | lst ds =>
        cases e
        obtain ⟨vs, h1, r1⟩ := a.rs.o _ _ q
        exact ⟨"list", by decide, .base (.lst h1), f _ rfl⟩
      | dk kvs =>
        cases e
        obtain ⟨qs, h1, r1⟩ := a.rs.o _ _ q
        exact ⟨"dict", by decide, .base (.dK h1), f _ rfl⟩
  | fn _ => cases e
  | cls _ => cases e
  | ty _ => cases e
theorem bi_ok (a : At R X H S) (hc : X.calm = true) {b : BI} {ds : List D} {vs : List V} {us : List Value} (I : L2.Inv X pins σ H s) (rv : Vals vs us) (rd : RelDs R H ds vs) (w : biW b ds S (Pv R S H Q)) :
    wpAny (model X.prog X.w) X.A (call (biN b) us) (EP X pins σ Q) X.xe s := by
  have hK := a.K
  unfold biW at w
  split at w
  · obtain ⟨v, rfl, rfl, o⟩ := rd.one
    refine call_len_str pins s σ H _ us Q I rv ⟨_, rfl, by rw [lim_eq]; simpa [Str.length] using w.1, ?_⟩
    refine Pv.same a w.2 ?_
    simp [RelD, Str.length]
  · rename_i p
    obtain ⟨v, rfl, rfl⟩ := rd.one
    cases q : S p with
    | none => rw [q] at w; exact w.elim
    | some o =>
      rw [q] at w
      cases o with
      | lst xs =>
        obtain ⟨ws, h1, r1⟩ := a.list q
        exact call_len_seq pins s σ H _ us Q I rv ⟨p, ws, rfl, .inl h1, Pv.same a w (by rw [r1.length]; rfl)⟩
      | dk kvs =>
        obtain ⟨qs, h1, r1⟩ := a.rs.o _ _ q
        exact call_lenD pins s σ H _ us Q I rv ⟨p, qs, rfl, h1, Pv.same a w (by rw [r1.length]; rfl)⟩
  · obtain ⟨v, rfl, p, ws, rfl, h1, r1⟩ := rd.one
    exact call_len_seq pins s σ H _ us Q I rv ⟨p, ws, rfl, .inr (by rw [hK]; exact h1), Pv.same a w (by rw [r1.length]; rfl)⟩
  · obtain ⟨v, rfl, p, ws, rfl, h1, r1⟩ := rd.one
    exact call_len_seq pins s σ H _ us Q I rv ⟨p, ws, rfl, .inl (by rw [hK]; exact h1.l), Pv.same a w (by rw [r1.length]; rfl)⟩
  · obtain ⟨v, rfl, rfl⟩ := rd.one
    exact call_abs pins s σ H _ us Q I rv ⟨_, rfl, Pv.same a w rfl⟩
  · obtain ⟨v, rfl, rfl⟩ := rd.one
    exact call_int1 pins s σ H _ us Q I rv (.inl ⟨_, rfl, Pv.same a w rfl⟩)
  · split at w
    · rename_i e
      obtain ⟨x, y, rfl, h1, rfl, hn⟩ := rd.two
      obtain ⟨t, ht, ty, rfl⟩ := tyOf_v a h1 e
      exact call_isi pins s σ H _ us Q I rv ⟨x, _, _, _, _, rfl, .ty _, ty, kit_ok X.K t ht _ hn, Pv.same a w rfl⟩
    · exact w.elim
  · obtain ⟨v, z, rfl, rfl, rfl⟩ := rd.two
    exact call_max2 hc pins s σ H _ us Q I rv ⟨_, _, rfl, Pv.same a w rfl⟩
  · obtain ⟨v, z, rfl, rfl, rfl⟩ := rd.two
    exact call_min2 hc pins s σ H _ us Q I rv ⟨_, _, rfl, Pv.same a w rfl⟩
  · exact w.elim
/-! ### built-ins over a list -/
/-- a value that is walked as ds: a list; a list or a tuple -/
def SrcL (R : RC) (H : Hp) (v : V) (ds : List D) : Prop := ∃ p vs, v = .ref p ∧ SqL R.K H p vs ∧ RelDs R H ds vs
def SrcA (R : RC) (H : Hp) (v : V) (ds : List D) : Prop := ∃ p vs, v = .ref p ∧ (SqL R.K H p vs ∨ SqT R.K H p vs) ∧ RelDs R H ds vs
theorem SrcL.a {v : V} {ds : List D} (h : SrcL R H v ds) : SrcA R H v ds := let ⟨p, vs, e, h1, h2⟩ := h; ⟨p, vs, e, .inl h1, h2⟩
theorem ints_v : ∀ {ds : List D} {is : List Int} {vs : List V}, ints? ds = some is → RelDs R H ds vs → vs = is.map V.int
  | [], is, vs, e, r => by cases e; exact r
  | d :: ds, is, vs, e, r => by
    unfold ints? at e
    split at e
    · rename_i heq; cases heq
    · rename_i heq
      cases heq
      split at e
      · rename_i i _ _ _ q
        cases e
        obtain ⟨v, ws, rfl, rfl, h2⟩ := r
        rw [ints_v q h2]
        rfl
      · cases e
    · cases e
theorem bls_v : ∀ {ds : List D} {is : List Bool} {vs : List V}, bls? ds = some is → RelDs R H ds vs → vs = is.map V.bl
  | [], is, vs, e, r => by cases e; exact r
  | d :: ds, is, vs, e, r => by
    unfold bls? at e
    split at e
    · rename_i heq; cases heq
    · rename_i heq
      cases heq
      split at e
      · rename_i i _ _ _ q
        cases e
        obtain ⟨v, ws, rfl, rfl, h2⟩ := r
        rw [bls_v q h2]
        rfl
      · cases e
    · cases e
theorem intMax_ge : ∀ (xs : List Int) (m : Int), m ≤ intMax m xs ∧ (∀ y ∈ xs, y ≤ intMax m xs) ∧ (intMax m xs = m ∨ intMax m xs ∈ xs)
  | [], m => ⟨Int.le_refl m, fun _ h => by simp at h, .inl rfl⟩
  | x :: xs, m => by
    obtain ⟨h1, h2, h3⟩ := intMax_ge xs (if m < x then x else m)
    unfold intMax
    generalize intMax (if m < x then x else m) xs = z at h1 h2 h3 ⊢
    refine ⟨?_, fun y hy => ?_, ?_⟩
    · split at h1 <;> omega
    · rcases List.mem_cons.mp hy with rfl | hy
      · split at h1 <;> omega
      · exact h2 y hy
    · rcases h3 with h3 | h3
      · rw [h3]
        split
        · exact .inr List.mem_cons_self
        · exact .inl rfl
      · exact .inr (List.mem_cons_of_mem _ h3)
theorem intMin_le : ∀ (xs : List Int) (m : Int), intMin m xs ≤ m ∧ (∀ y ∈ xs, intMin m xs ≤ y) ∧ (intMin m xs = m ∨ intMin m xs ∈ xs)
  | [], m => ⟨Int.le_refl m, fun _ h => by simp at h, .inl rfl⟩
  | x :: xs, m => by
    obtain ⟨h1, h2, h3⟩ := intMin_le xs (if x < m then x else m)
    unfold intMin
    generalize intMin (if x < m then x else m) xs = z at h1 h2 h3 ⊢
    refine ⟨?_, fun y hy => ?_, ?_⟩
    · split at h1 <;> omega
    · rcases List.mem_cons.mp hy with rfl | hy
      · split at h1 <;> omega
      · exact h2 y hy
    · rcases h3 with h3 | h3
      · rw [h3]
        split
        · exact .inr List.mem_cons_self
        · exact .inl rfl
      · exact .inr (List.mem_cons_of_mem _ h3)
/-- needs a list -/
def needL : BI → Bool
  | .tuple | .list => false
  | _ => true
theorem biL_ok (a : At R X H S) (hc : X.calm = true) {b : BI} {ds : List D} {v : V} {u : Value} (I : L2.Inv X pins σ H s) (rv : RelV v u) (src : if needL b = true then SrcL R H v ds else SrcA R H v ds) (w : biL b ds S (Pv R S H Q)) :
    wpAny (model X.prog X.w) X.A (call (biN b) [u]) (EP X pins σ Q) X.xe s := by
  have hK := a.K
  cases b with
  | tuple =>
    obtain ⟨p, vs, rfl, h1, r1⟩ := (show SrcA R H v ds from src)
    refine call_tuple_of pins s σ H _ [u] Q I (.cons rv .nil) ⟨p, vs, rfl, ?_⟩
    rcases h1 with h1 | h1
    · exact .inl ⟨by rw [hK]; exact h1, fun q n => Pv.tup a r1 w n⟩
    · exact .inr ⟨by rw [hK]; exact h1, Pv.same a w ⟨p, vs, rfl, h1, r1⟩⟩
  | list =>
    obtain ⟨p, vs, rfl, h1, r1⟩ := (show SrcA R H v ds from src)
    exact call_list_of pins s σ H _ [u] Q I (.cons rv .nil) ⟨p, vs, rfl, by rw [hK]; exact h1, fun q n => Pv.lst a r1 w n⟩
  | sum =>
    obtain ⟨p, vs, rfl, h1, r1⟩ := (show SrcL R H v ds from src)
    unfold biL at w
    dsimp only at w
    split at w
    · rename_i is e
      have ev := ints_v e r1
      subst ev
      exact cr_sum hc pins s σ H _ [u] Q I (.cons rv .nil) ⟨p, is, rfl, by rw [hK]; exact h1, Pv.same a w rfl⟩
    · exact w.elim
  | max =>
    obtain ⟨p, vs, rfl, h1, r1⟩ := (show SrcL R H v ds from src)
    unfold biL at w
    dsimp only at w
    split at w
    · rename_i i is e
      have ev := ints_v e r1
      subst ev
      refine cr_max hc pins s σ H _ [u] Q I (.cons rv .nil) ⟨p, i :: is, rfl, by rw [hK]; exact h1, by simp, fun m h2 h3 => ?_⟩
      obtain ⟨k1, k2, k3⟩ := intMax_ge is i
      have em : m = intMax i is := by
        have l1 : m ≤ intMax i is := by
          rcases List.mem_cons.mp h2 with rfl | h2
          · exact k1
          · exact k2 m h2
        have l2 : intMax i is ≤ m := by
          rcases k3 with k3 | k3
          · rw [k3]; exact h3 i List.mem_cons_self
          · exact h3 _ (List.mem_cons_of_mem _ k3)
        omega
      rw [em]
      exact Pv.same a w rfl
    · exact w.elim
  | min =>
    obtain ⟨p, vs, rfl, h1, r1⟩ := (show SrcL R H v ds from src)
    unfold biL at w
    dsimp only at w
    split at w
    · rename_i i is e
      have ev := ints_v e r1
      subst ev
      refine cr_min hc pins s σ H _ [u] Q I (.cons rv .nil) ⟨p, i :: is, rfl, by rw [hK]; exact h1, by simp, fun m h2 h3 => ?_⟩
      obtain ⟨k1, k2, k3⟩ := intMin_le is i
      have em : m = intMin i is := by
        have l1 : intMin i is ≤ m := by
          rcases List.mem_cons.mp h2 with rfl | h2
          · exact k1
          · exact k2 m h2
        have l2 : m ≤ intMin i is := by
          rcases k3 with k3 | k3
          · rw [k3]; exact h3 i List.mem_cons_self
          · exact h3 _ (List.mem_cons_of_mem _ k3)
        omega
      rw [em]
      exact Pv.same a w rfl
    · exact w.elim
  | all =>
    obtain ⟨p, vs, rfl, h1, r1⟩ := (show SrcL R H v ds from src)
    unfold biL at w
    dsimp only at w
    split at w
    · rename_i is e
      have ev := bls_v e r1
      subst ev
      exact cr_all hc pins s σ H _ [u] Q I (.cons rv .nil) ⟨p, is, rfl, by rw [hK]; exact h1, Pv.same a w rfl⟩
    · exact w.elim
  | any =>
    obtain ⟨p, vs, rfl, h1, r1⟩ := (show SrcL R H v ds from src)
    unfold biL at w
    dsimp only at w
    split at w
    · rename_i is e
      have ev := bls_v e r1
      subst ev
      exact cr_any hc pins s σ H _ [u] Q I (.cons rv .nil) ⟨p, is, rfl, by rw [hK]; exact h1, Pv.same a w rfl⟩
    · exact w.elim
  | _ => exact w.elim
/-! ### methods -/
def mtId : MT → String
  | .append => "list.append" | .pop => "list.pop" | .extend => "list.extend" | .setdefault => "dict.setdefault"
theorem mth_ok (a : At R X H S) {m : MT} {d : D} {ds : List D} {v : V} {vs : List V} {u : Value} {us : List Value} (I : L2.Inv X pins σ H s) (ru : RelV v u) (rv : Vals vs us) (rd : RelD R H d v) (rds : RelDs R H ds vs) (hm : m ≠ .setdefault)
    (w : mthW m d ds S (Pv R S H Q)) : wpAny (model X.prog X.w) X.A (call (.builtin (mtId m)) (u :: us)) (EP X pins σ Q) X.xe s := by
  unfold mthW at w
  split at w
  · rename_i p
    obtain rfl := rd
    cases q : S p with
    | none => rw [q] at w; exact w.elim
    | some o =>
      rw [q] at w
      cases o with
      | lst xs =>
        obtain ⟨ws, h1, r1⟩ := a.rs.o _ _ q
        unfold lstM at w
        dsimp only at w
        split at w
        · obtain ⟨y, rfl, ry⟩ := rds.one
          refine mt_append pins s σ H _ _ u us Q I ru rv ⟨p, ws, y, rfl, rfl, h1, by rw [lim_eq, r1.length]; exact w.1, ?_⟩
          exact w.2 _ _ (Step.write q) rfl (a.rs.write q ⟨_, upd_same, (RelDs.mono (tmono_write a.rs q) _ _ r1).append ⟨y, [], rfl, RelD.mono (tmono_write a.rs q) _ _ ry, rfl⟩⟩)
        · have e0 : vs = [] := rds
          subst e0
          split at w
          · rename_i d0 e2
            have hx : xs[xs.length - 1]? = some d0 := by rw [← List.getLast?_eq_getElem?]; exact e2
            obtain ⟨y, ey, ry⟩ := r1.get hx
            refine mt_pop pins s σ H _ _ u us Q I ru rv ⟨p, ws, y, rfl, rfl, h1, by rw [r1.length]; exact ey, ?_⟩
            refine w _ _ (Step.write q) (RelD.mono (tmono_write a.rs q) _ _ ry) (a.rs.write q ⟨_, upd_same, RelDs.mono (tmono_write a.rs q) _ _ ?_⟩)
            rw [List.dropLast_eq_take, List.dropLast_eq_take, r1.length]
            exact r1.take _
          · exact w.elim
        · exact w.elim
      | dk kvs =>
        unfold dkM at w
        dsimp only at w
        split at w
        · exact absurd rfl hm
        · exact w.elim
  · exact w.elim
theorem list_extend_sl (l : Addr) (items : Array Value) (n : Nat) (b : Addr) (items2 : Array Value) (n2 : Nat) (sl2 : Array (Option Value)) (hc0 : ¬(!items.isEmpty && Builtin.List.listTooLong (items.size + items2.size)) = true) (hc1 : items.size ≤ sizeLine) (hs2 : items.size + items2.size ≤ sizeLine + 1) :
    Meets (Builtin.«list.extend» ⟨[.ref l, .ref b], []⟩) (fun _ R s => s.heap.get? l = some { cls := .type "list", dict := none, data := .seq items n, slots := #[] } ∧ s.heap.get? b = some { cls := .type "list", dict := none, data := .seq items2 n2, slots := sl2 } ∧ R (.ok (.ret Value.none)) { s with heap := s.heap.update l (Obj.mapSeq fun x => x ++ items2), toks := s.toks }) :=
  .of_wp fun prog w A R s h => by
    obtain ⟨hp, g, d, tk, os⟩ := s; obtain ⟨hl, hb, h⟩ := h; have f1 := AutoSeq1.idx_int; have f2 := AutoSeq1.sub_tuple_tuple; have f3 := AutoSeq1.sub_list_list; have f4 := AutoSeq1.sub_tuple_list; have f5 := AutoSeq1.sub_list_tuple;
    have hz' : (items ++ items2).size ≤ sizeLine + 1 := by rw [Array.size_append]; exact hs2
    wp_walk using (wpAny_updateSeq hl rfl (hz := hc1) (_hz' := hz')), wpAny_loadPart' hl, wpAny_loadPart' hb; exact ⟨_, rfl, h⟩
/-- o.extend(..) -/
theorem ext_ok (a : At R X H S) {d : D} {ds : List D} {v y : V} {u z : Value} (I : L2.Inv X pins σ H s) (ru : RelV v u) (rz : RelV y z) (rd : RelD R H d v) (src : SrcL R H y ds)
    (w : extW d ds S (Pv R S H Q)) : wpAny (model X.prog X.w) X.A (call (.builtin "list.extend") [u, z]) (EP X pins σ Q) X.xe s := by
  have hK := a.K
  unfold extW at w
  split at w
  · rename_i p
    obtain rfl := rd
    cases q : S p with
    | none => rw [q] at w; exact w.elim
    | some o =>
      rw [q] at w
      cases o with
      | lst xs =>
        obtain ⟨ws, h1, r1⟩ := a.rs.o _ _ q
        obtain ⟨b, zs, rfl, h2, r2⟩ := src
        cases ru
        cases rz
        obtain ⟨zz, its, n, r, hl, e⟩ := I.lstM h1
        obtain ⟨its2, rv2, ⟨o2, n2, ho2, hc2, hd2, hdat⟩, hz2⟩ := I.list (by rw [hK]; exact h2)
        have hlen2 := rv2.length
        have hle : ws.length + zs.length ≤ sizeLine := by rw [lim_eq, r1.length, r2.length]; exact w.1
        have hsz : its.toArray.size + its2.toArray.size ≤ sizeLine := by rw [List.size_toArray, List.size_toArray]; omega
        have hlong : ¬ (!its.toArray.isEmpty && Builtin.List.listTooLong (its.toArray.size + its2.toArray.size)) = true := by
          rw [notLongL hsz, Bool.and_false]
          exact Bool.false_ne_true
        obtain ⟨c2, d2, dat2, sl2⟩ := o2
        dsimp only at hc2 hd2 hdat
        subst hc2 hd2 hdat
        refine call_meets F.slot_list_extend ⟨_, e, rfl⟩ F.entry_list_extend (F.args_list_extend_2 _ _)
          (list_extend_sl p its.toArray n b its2.toArray n2 sl2 hlong (by rw [List.size_toArray]; omega) (by omega)) ⟨e, ho2, ?_⟩
        refine ⟨.non, _, I.lset (its' := its ++ its2) h1 e (by simp) (r.append rv2) (by rw [List.length_append]; exact hle), rfl, ?_⟩
        exact w.2 _ _ (Step.write q) rfl (a.rs.write q ⟨_, upd_same, (RelDs.mono (tmono_write a.rs q) _ _ r1).append (RelDs.mono (tmono_write a.rs q) _ _ r2)⟩)
      | _ => exact w.elim
  · exact w.elim
/-- o[i] = v -/
theorem set_ok (a : At R X H S) {d e f : D} {x y z : V} {u1 u2 u3 : Value} {QH : Hp → Prop} (I : L2.Inv X pins σ H s) (r1 : RelV x u1) (r2 : RelV y u2) (r3 : RelV z u3) (rd : RelD R H d x) (re : RelD R H e y) (rf : RelD R H f z)
    (w : setW d e f S fun S' => ∀ H', Step S H S' H' → RelS R H' S' → QH H') : wpAny (model X.prog X.w) X.A (setItem u1 u2 u3) (fun _ s' => ∃ H', L2.Inv X pins σ H' s' ∧ QH H') X.xe s := by
  unfold setW at w
  split at w
  · rename_i p k
    obtain rfl := rd
    obtain rfl := re
    cases q : S p with
    | none => rw [q] at w; exact w.elim
    | some o =>
      rw [q] at w
      cases o with
      | lst xs =>
        obtain ⟨ws, h1, rs⟩ := a.rs.o _ _ q
        dsimp only at w
        split at w
        · rename_i j ej
          refine set_list pins s σ H _ _ _ u1 u2 u3 QH I r1 r2 r3 ⟨p, ws, k, j, rfl, rfl, h1, by rw [rs.length]; exact ej, ?_⟩
          exact w _ (Step.write q) (a.rs.write q ⟨_, upd_same, (RelDs.mono (tmono_write a.rs q) _ _ rs).set j (RelD.mono (tmono_write a.rs q) _ _ rf)⟩)
        · exact w.elim
      | _ => exact w.elim
  · exact w.elim
end
end PD
end
section
set_option Elab.async false
set_option linter.all false
set_option maxRecDepth 100000
set_option maxHeartbeats 2000000
/-! PyD, part W: what is walked: enumerate over a tuple; a walk told by its items. -/
namespace PD
open PySem PySem.Spec PyProof.Rows L2

theorem meets_enumerate_newT (l : Addr) (items : Array Value) (o : Obj) (hc : o.cls = .type "tuple") (n : Nat) (hd : o.data = .seq items n) :
    Meets (Builtin.«enumerate.__new__» ⟨[.type "enumerate", .ref l], []⟩) (fun _ R s => s.heap.get? l = some o ∧
      R (.ok (.ret (.ref (s.heap.push { cls := .type "tuple_iterator", data := .fields #[.ref l, .int 0 0] }).objs.size)))
        { s with heap := (s.heap.push { cls := .type "tuple_iterator", data := .fields #[.ref l, .int 0 0] }).push { cls := .type "enumerate", data := .fields #[.none, .bool false, .ref s.heap.objs.size, rawInt 0, .none, .none] } }) :=
  .of_wp fun prog w A R s h => by
    obtain ⟨hp, g, d, tk, os⟩ := s; obtain ⟨hl, h⟩ := h
    have hsub := sub_enumerate
    have hL : Heap.IsTuple (Shared.heap ⟨hp, g, d, tk, os⟩) l items := ⟨o, hl, hc, n, hd⟩
    wp_walk using AutoSeq1.wpAny_loadPart' hl
    refine wpAny_stack_any fun st => wpAny_pure ?_
    split
    · rename_i c _ _ _ _ _
      cases (c == Value.type "enumerate")
      · wp_walk using AutoSeq1.wpAny_loadPart' hl, wpAny_pyIter_tuple hL
        exact ⟨_, rfl, h⟩
      · wp_walk using AutoSeq1.wpAny_loadPart' hl, wpAny_pyIter_tuple hL
        exact ⟨_, rfl, h⟩
    · wp_walk using AutoSeq1.wpAny_loadPart' hl, wpAny_pyIter_tuple hL
      exact ⟨_, rfl, h⟩
section
variable {prog : Program} {w : World} {A : Around} {E : Value → Shared → Prop} {s : Shared}
theorem call_enumerate_tuple {l : Addr} {items : Array Value} {Q : Value → Shared → Prop} (hL : IsTup s.heap l items)
    (h : ∀ h', IsEnum h' (s.heap.objs.size + 1) s.heap.objs.size 0 .none → h'.IsTupleIter s.heap.objs.size l 0 → h'.objs.size = s.heap.objs.size + 2 →
      (∀ b o, s.heap.get? b = some o → h'.get? b = some o) → Q (.ref (s.heap.objs.size + 1)) { s with heap := h' }) :
    wpAny (model prog w) A (call (.type "enumerate") [.ref l]) Q E s := by
  obtain ⟨o, hl, hc, n, hd⟩ := hL
  refine callType_new F.called_enumerate (by decide) (F.typeCall_enumerate_1 _) (F.newCall_enumerate_1 _) (fun obj => F.args_object_init_2 obj _) F.entry_enumerate_new
    (meets_enumerate_newT l items o hc n hd) ⟨hl, ?_⟩
  have hz : (s.heap.push { cls := .type "tuple_iterator", data := .fields #[.ref l, .int 0 0] }).objs.size = s.heap.objs.size + 1 := Heap.size_push ..
  show _ ∧ _
  rw [hz]
  have he : IsEnum ((s.heap.push { cls := .type "tuple_iterator", data := .fields #[.ref l, .int 0 0] }).push
      { cls := .type "enumerate", data := .fields #[.none, .bool false, .ref s.heap.objs.size, rawInt 0, .none, .none] }) (s.heap.objs.size + 1) s.heap.objs.size 0 .none := by
    have := Heap.get?_push_size (s.heap.push { cls := .type "tuple_iterator", data := .fields #[.ref l, .int 0 0] })
      (o := { cls := .type "enumerate", data := .fields #[.none, .bool false, .ref s.heap.objs.size, rawInt 0, .none, .none] }) rfl
    rw [hz] at this; exact this
  refine ⟨⟨_, he, rfl⟩, h _ he ⟨_, Heap.get?_push_of_some _ (Heap.get?_push_size _ rfl), rfl, rfl⟩ (by rw [Heap.size_push, hz]) fun b o x => Heap.get?_push_of_some _ (Heap.get?_push_of_some _ x)⟩
end
/-- the tuple at a, each item in a new pair -/
def IteT (K : PySem.W.Frag) (a : Addr) : It :=
  ⟨fun i H => ∃ (xs : List V) (x : V), SqT K H a xs ∧ xs[i]? = some x, fun i H v H' => ∃ T x, v = .ref T ∧ H T = none ∧ H' = upd H T (.tup [.int (i : Nat), x]) ∧ ∀ xs, SqT K H a xs → xs[i]? = some x, fun i H => ∃ xs : List V, SqT K H a xs ∧ xs.length = i⟩
theorem turn_enumT {P : Program} {w : World} {K : PySem.W.Frag} {elts : List Expr} {kk : Nat} {tpos : Pos} (a e it : Addr) :
    Turn P w K (.Tuple elts kk tpos) (IteT K a) [e, it] e (fun i h => (∃ old, IsEnum h e it ((i : Nat) : Int) old) ∧ h.IsTupleIter it a i ∧ e ≠ it) where
  mem := by simp
  obj := fun i h st b hb => by
    obtain ⟨⟨old, he⟩, ⟨o, ho, hc, hd⟩, _⟩ := st
    have e' : b = e ∨ b = it := by simpa using hb
    rcases e' with z | z
    · rw [z]; exact ⟨_, he, fun v q => nomatch q⟩
    · rw [z]; exact ⟨o, ho, fun v q => by rw [hd] at q; cases q⟩
  keep := fun i h h' st k => let ⟨⟨old, he⟩, hi, hne⟩ := st; ⟨⟨old, k e (by simp) _ he⟩, hi.at fun o q => k it (by simp) o q, hne⟩
  item := by
    intro X hP hw hK hc i pins s σ H E I hf st hg
    subst hP hw hK
    obtain ⟨⟨old, he⟩, hit, hne⟩ := st
    obtain ⟨xs, x, hq, hx⟩ := hg
    obtain ⟨its, rv, p, hz⟩ := I.tuple hq
    obtain ⟨u, hu, ru⟩ := rv.get hx
    have hel : e < s.heap.objs.size := Heap.lt_size he
    have hil : it < s.heap.objs.size := by obtain ⟨_, q, _⟩ := hit; exact Heap.lt_size q
    have hp' : s.heap.IsTuple a its.toArray := p
    have nae : e ≠ a := fun z => by
      obtain ⟨o, ho, hc', n, hd⟩ := p
      rw [← z, he] at ho
      cases ho
      cases hd
    have nai : a ≠ it := fun z => by
      obtain ⟨o, ho, hc', n, hd⟩ := p
      obtain ⟨o2, ho2, _, hd2⟩ := id hit
      rw [z, ho2] at ho
      cases ho
      rw [hd2] at hd
      cases hd
    have hi : i < its.toArray.size := by
      have := (List.getElem?_eq_some_iff.mp hu).1
      simpa using this
    refine wpAny_pyNext_enum_itemD (Draws.tuple (A := X.A.in1) (I.ok.hd hc) it a nai its.toArray) he ⟨hit, hp'⟩ hi hne (by simp [hne, nae]) fun x' h' tk hx' ho hit' hT hsz hk => ?_
    have ex : x' = u := by
      have h1 : its.toArray[i]? = some x' := hx'
      have h2 : its.toArray[i]? = some u := by simpa using hu
      rw [h2] at h1
      exact (Option.some.inj h1).symm
    subst ex
    refine ⟨_, rfl, wpAny_letOwnedTupleGo_enum (s := { s with heap := h', toks := tk + 1 }) ho fun h'' he' sb => ?_⟩
    have hT2 : h''.get? s.heap.objs.size = some { cls := .type "tuple", data := .seq #[.int i tk, x'] } := (sb.2 _ (Nat.ne_of_gt hel)).trans hT
    have new : ObjOk X.prog X.w (upd H s.heap.objs.size (.tup [.int (i : Nat), x])) h'' s.heap.objs.size (.tup [.int (i : Nat), x]) :=
      ⟨by show 2 ≤ sizeLine; decide, [.int i tk, x'], .cons ⟨_, rfl⟩ (.cons ru .nil), ⟨_, hT2, rfl, _, rfl⟩⟩
    have I1 : L2.Inv X pins σ (upd H s.heap.objs.size (.tup [.int (i : Nat), x])) { s with heap := h'', toks := tk + 1 } :=
      I.turnedNew (ch := [e, it]) (fun b ob hb q => (sb.2 b (fun z => hb (by simp [z]))).trans (hk b ob (fun z => hb (by simp [z])) (fun z => hb (by simp [z])) q)) hf (Nat.le_refl _) new
    refine ⟨.ref s.heap.objs.size, _, I1, rfl, ⟨_, x, rfl, I.hok.fresh (Nat.le_refl _), rfl, fun ys hy => by rw [I.tuple_inj hy hq]; exact hx⟩, ⟨⟨x', ?_⟩, hit'.1.at fun o q => (sb.2 it (Ne.symm hne)).trans q, hne⟩, fun b hb => ?_⟩
    · have e1 : ((i + 1 : Nat) : Int) = (i : Int) + 1 := by omega
      rw [e1]; exact he'
    · have hb' : b < s.heap.objs.size := by
        have e' : b = e ∨ b = it := by simpa using hb
        rcases e' with z | z
        · rw [z]; exact hel
        · rw [z]; exact hil
      rw [upd_ne (Nat.ne_of_lt hb')]
      exact (hf b hb).1
  done := by
    intro X hP hw hK hc i pins s σ H E I hf st hg
    subst hP hw hK
    obtain ⟨⟨old, he⟩, hit, hne⟩ := st
    obtain ⟨xs, hq, hx⟩ := hg
    obtain ⟨its, rv, p, hz⟩ := I.tuple hq
    obtain ⟨f0, f1, f2, f3, f4, f5⟩ := hf it (by simp)
    have hl := rv.length
    have nai : a ≠ it := fun z => by
      obtain ⟨o, ho, hc', n, hd⟩ := p
      obtain ⟨o2, ho2, _, hd2⟩ := id hit
      rw [z, ho2] at ho
      cases ho
      rw [hd2] at hd
      cases hd
    have hi : i = its.toArray.size := by rw [List.size_toArray, ← hl, hx]
    subst hi
    exact wpAny_pyNext_enum_endD (Draws.tuple (A := X.A.in1) (I.ok.hd hc) it a nai its.toArray) he ⟨hit, p⟩ fun h' eb => ⟨rfl, I.turned (t' := s.toks) (fun b o hb q => eb b o hb q) f0 f1 f3 f4 f5⟩
  self := fun A i s Q E st h => let ⟨⟨_, he⟩, _⟩ := st; wpAny_pyIter_enum he h
/-! ### a walk told by its items -/
/-- from (S, H) on J yields the items ds one by one while g stands -/
def Walks (R : RC) (S : DS) (H : Hp) (J : It) (ds : List D) (g : Gd) : Prop :=
  ∀ S' H', Step S H S' H' → RelS R H' S' → g.ok S' →
    (∀ i d, ds[i]? = some d → J.go i H' ∧ ∀ x H2, J.yld i H' x H2 → Step S' H' S' H2 ∧ RelS R H2 S' ∧ RelD R H2 d x) ∧ J.stop ds.length H'
section
variable {R : RC} {X : Cx} {H : Hp} {S : DS}
theorem SqL.inj_of {K : PySem.W.Frag} {H : Hp} {a : Addr} {xs ys : List V} (n : Rd H a (.lst xs)) (h : SqL K H a ys) (hk : ∀ o, K.lookup a = some o → H a = none) : xs = ys := by
  rcases h with h | ⟨o, its, k, hl, _⟩
  · rcases n with n | ⟨u, n⟩
    · rcases h with h | ⟨u', h⟩
      · rw [n] at h; cases h; rfl
      · rw [n] at h; cases h
    · rcases h with h | ⟨u', h⟩
      · rw [n] at h; cases h
      · rw [n] at h; cases h; rfl
  · have := hk o hl
    rcases n with n | ⟨u, n⟩
    · rw [n] at this; cases this
    · rw [n] at this; cases this
end
end PD
end
section
set_option Elab.async false
set_option linter.all false
set_option maxRecDepth 100000
set_option maxHeartbeats 1000000
/-! PyD, part H: what a text is checked against; the readings of the core terms. -/
namespace PD
open PySem PySem.Spec PyProof.Rows L2

/-! ### the check's context -/
structure Ck where
  N : List Str
  sc : Scope
  fn : Str → Bool
  P : Prog
  /-- a lambda's body; a def that makes lambdas -/
  low : Bool
  lam : Bool

/-- where the code runs: what is known of functions; the store and the heap at the entry; the wanted exceptions -/
structure LC where
  R : RC
  G : GG
  S0 : DS
  H0 : Hp
  Ex : QE
def RelE (R : RC) (H : Hp) (env : Env) (σ : L2.St) : Prop := σ.length = env.length ∧ ∀ (i : Nat) (d : D), env[i]? = some (some d) → ∃ v : V, σ[i]? = some (some v) ∧ RelD R H d v
structure Stt (L : LC) (env : Env) (S : DS) (σ : L2.St) (H : Hp) : Prop where
  re : RelE L.R H env σ
  rs : RelS L.R H S
  st : Step L.S0 L.H0 S H
def nmB (x : Str) : Bool := !(x == ("__debug__" : Str)) && !(x == ("__classdict__" : Str)) && !decide (x = ("__name__" : Str))
/-- the items of the told tuple -/
def toldI (fs : List Str) (e : Str) : HR → List Expr → Bool
  | [], es => es.isEmpty
  | .inl x :: r, es => match es with
    | .Constant (.str y) _ _ :: es => decide (x = y.cps.toList) && decide (x.length ≤ lim) && (x.all fun c => decide (c < 1114112)) && toldI fs e r es
    | _ => false
  | .inr i :: r, es => match es with
    | .Attribute (.Name n _) f _ :: es => decide (n = e) && decide (fs[i]? = some f) && toldI fs e r es
    | _ => false
/-- try: return a() / except cn as e: return (..) -/
def toldS (fs : Option (List Str)) (a e cn : Str) (r : HR) : List Stmt → Bool
  | [.Try [.Return (some (.Call (.Name a' _) [] [] _)) _] [.ExceptHandler (some (.Name cn' _)) (some e') [.Return (some (.Tuple es _ _)) _] _] [] [] _] =>
    decide (a' = a) && decide (cn' = cn) && decide (e' = e) && decide (r.length ≤ 1000) && (match fs with | some fs => toldI fs e r es | none => false)
  | _ => false
/-- the fields of an exception as they lie: none (it may have no dict), or in the dict d -/
def XRel (R : RC) (x : Exn) (cls : Value) (d : Option Addr) (H : Hp) : Prop := cls = .ref (R.ca x.c) ∧ (x.fs = [] ∨ ∃ (dd : Addr) (fs : List (Str × V)) (C : Cl), d = some dd ∧ H dd = some (.xd fs) ∧ R.P.cls[x.c]? = some C ∧ C.fs.length = x.fs.length ∧
  ∀ (i : Nat) (f : Str) (e : D), C.fs[i]? = some f → x.fs[i]? = some e → ∃ v, fs.lookup f = some v ∧ RelD R H e v)
/-- a def that calls what it gets and tells a caught exception, as it stands behind the top -/
structure TelOk (R : RC) (mg : Str → Option Value) (h : Told) : Prop where
  ex : ∃ (g : Addr) (pg : Arguments) (bg : List Stmt) (sg : Scope) (dV kV doc pm cdv ct oc : Value) (an od : Option Addr) (osl : Array (Option Value)) (a e cn : Str),
    mg h.name = some (.ref g) ∧ PySem.W.keepIn R.K (.ref g) = true ∧ R.K.lookup g = some ⟨oc, od, .func (PySem.W.fnOf h.name h.name pg bg sg dV kV doc pm an cdv ct), osl⟩ ∧ PySem.W.codeIn R.K cdv h.name = true ∧
    L2.Binds R.K (PySem.W.fnOf h.name h.name pg bg sg dV kV doc pm an cdv ct) [a] [] ∧ FnScope [a, e] [a] sg ∧ sg.names.lookup a = some .local ∧ sg.names.lookup e = some .local ∧ sg.names.lookup cn = some .globalImplicit ∧
    nmB a = true ∧ nmB e = true ∧ nmB cn = true ∧ toldS (R.P.cls[h.c]?.map (·.fs)) a e cn h.r bg = true ∧ mg cn = some (.ref (R.ca h.c)) ∧ PySem.W.exmOne R.K (.ref (R.ca h.c)) (.ref (R.ca h.c)) = some true ∧ XfC R.K (R.ca h.c) ∧
    (∀ fs, R.P.cls[h.c]?.map (·.fs) = some fs → ∀ f ∈ fs, PySem.W.findIn R.K (.ref (R.ca h.c)) f = some none)
/-- what is wanted of an exception, told of the abstract heap -/
def xk (L : LC) : XK := fun cls d H' => ∃ x S', Step L.S0 L.H0 S' H' ∧ RelS L.R H' S' ∧ XRel L.R x cls d H' ∧ L.Ex x S'
/-- a want of a call as a promise -/
def liftSp (R : RC) (t : List D → DS → QD → QE → Prop) : Sp := fun vs H Q E => ∃ ds S, RelDs R H ds vs ∧ RelS R H S ∧ t ds S (Pv R S H Q) fun x S' => ∀ cls d H', Step S H S' H' → RelS R H' S' → XRel R x cls d H' → E cls d H'
def bltNames : List String := ["len", "abs", "int", "isinstance", "tuple", "list", "sum", "max", "min", "all", "any", "range", "enumerate", "zip", "bool", "str", "dict"]
/-- what holds where an expression runs -/
structure GoodX (X : Cx) (Γ : Ck) (L : LC) : Prop where
  K : X.K = L.R.K
  N : X.N = Γ.N
  nd : X.N.Nodup
  sc : X.env.scope = Γ.sc
  fn : X.fn = Γ.fn
  P : L.R.P = Γ.P
  calm : X.calm = true
  un : X.A.units + 1100 < cLine
  gle : GLe L.G L.G
  upE : UpD L.Ex L.Ex
  glG : L.G.gl = Γ.P.gl
  gl : ∀ (g : Nat) (p : Str × D), Γ.P.gl[g]? = some p → ∃ u v, X.mg p.1 = some u ∧ RelV v u ∧ ∀ H, RelD L.R H p.2 v
  blt : ∀ n ∈ bltNames, X.mg (n : Str) = none
  calls : Γ.low = false → ∀ (f : Nat) (F : Fn), Γ.P.fns[f]? = some F → X.mg F.name = some (.ref (L.R.fa f)) ∧ PySem.W.keepIn X.K (.ref (L.R.fa f)) = true ∧
    ∃ fd k, FnOk X.prog X.w X.K X.mg X.base (L2.CX X.prog X.w) k (L.R.fa f) fd F.ps (liftSp L.R (L.G.call f)) ∧ Room k X.A ∧ Binds X.K fd F.ps []
  lows : ∃ k, 60 ≤ k ∧ Room (if Γ.low = true then k else k + 2) X.A ∧ ∀ (f : Nat) (F : Fn), Γ.P.fns[f]? = some F → X.mg F.name = some (.ref (L.R.fa f)) ∧ PySem.W.keepIn X.K (.ref (L.R.fa f)) = true ∧
    ∃ fd, FnOk X.prog X.w X.K X.mg X.base (L2.CX X.prog X.w) k (L.R.fa f) fd F.ps (liftSp L.R (L.G.low f)) ∧ Binds X.K fd F.ps []
  toldG : L.G.told = Γ.P.told
  tel : Γ.lam = true → ∃ c P, X.env.code = .ref c ∧ LamX.TabB X.base X.mg c P ∧ (P, X.env.qual ++ "<lambda>") ∈ L.R.T ∧ ∀ p ∈ L.R.T, p.1 = P → p.2 = X.env.qual ++ "<lambda>"
  tolds : ∀ (t : Nat) (h : Told), Γ.P.told[t]? = some h → TelOk L.R X.mg h
  pas : Passes (L2.CX X.prog X.w) X (xk L)

section
variable {L : LC} {X : Cx} {Γ : Ck} {H H' : Hp} {S S' S2 : DS} {env : Env} {σ : L2.St} {pins : List (Addr × Obj)} {s : Shared} {Q : VK}

theorem RelE.mono {R : RC} (t : TMono R.K H H') (h : RelE R H env σ) : RelE R H' env σ := ⟨h.1, fun i d e => let ⟨v, e1, r⟩ := h.2 i d e; ⟨v, e1, RelD.mono t _ _ r⟩⟩
theorem Stt.step (a : Stt L env S σ H) (rs : RelS L.R H' S') (st : Step S H S' H') : Stt L env S' σ H' := ⟨a.re.mono (st.tmono a.rs), rs, a.st.trans st⟩
theorem Stt.at_ (g : GoodX X Γ L) (a : Stt L env S σ H) : At L.R X H S := ⟨g.K, a.rs⟩
theorem pv_up {R : RC} {Q : VK} {H2 : Hp} (st : Step S H S2 H2) : UpD (Pv R S H Q) (Pv R S2 H2 Q) := fun d A B h w v H' st' rd rs => w v H' ((st.trans st').forget h) rd (rs.forget h)

def liftC (L : LC) (c : C) : TE := fun σ H Q => ∃ env S, Stt L env S σ H ∧ evC L.G c env S (Pv L.R S H Q) L.Ex
def PvT (R : RC) (S : DS) (H : Hp) (Q : Bool → Hp → Prop) : Bool → DS → Prop := fun b S' => ∀ H', Step S H S' H' → RelS R H' S' → Q b H'
def liftB (L : LC) (t : Te) : TT := fun σ H Q => ∃ env S, Stt L env S σ H ∧ evT L.G t env S (PvT L.R S H Q) L.Ex
def PvA (R : RC) (S : DS) (H : Hp) (Q : List V → Hp → Prop) : List D → DS → Prop := fun ds S' => ∀ vs H', Step S H S' H' → RelDs R H' ds vs → RelS R H' S' → Q vs H'
def liftA (L : LC) (es : List C) : TA := fun σ H Q => ∃ env S, Stt L env S σ H ∧ evCs L.G es env S (PvA L.R S H Q) L.Ex
def PvO (R : RC) (S : DS) (H : Hp) (Q : Option Int → Hp → Prop) : Option Int → DS → Prop := fun o S' => ∀ H', Step S H S' H' → RelS R H' S' → Q o H'
def liftO (L : LC) (o : Option C) : TO := fun σ H Q => ∃ env S, Stt L env S σ H ∧ evO L.G o env S (PvO L.R S H Q) L.Ex
/-- a new list that the store does not tell of -/
def SrcF (R : RC) (S : DS) (H : Hp) (S' : DS) (H' : Hp) (v : V) (ds : List D) : Prop := ∃ p vs, v = .ref p ∧ Fre S H p ∧ S' p = none ∧ H' p = some (.lst vs) ∧ RelDs R H' ds vs
def srcOf (R : RC) (l : PD.L) (S : DS) (H : Hp) (S' : DS) (H' : Hp) (v : V) (ds : List D) : Prop := match l with
  | .ex _ => SrcA R H' v ds
  | .exl _ => SrcL R H' v ds
  | .lst _ => SrcF R S H S' H' v ds
  | .lc _ _ _ _ => SrcF R S H S' H' v ds
def PvL (R : RC) (l : PD.L) (S : DS) (H : Hp) (Q : VK) : List D → DS → Prop := fun ds S' => ∀ v H', Step S H S' H' → RelS R H' S' → srcOf R l S H S' H' v ds → Q v H'
def liftL (L : LC) (l : PD.L) : TE := fun σ H Q => ∃ env S, Stt L env S σ H ∧ evL L.G l env S (PvL L.R l S H Q) L.Ex
def liftW (L : LC) (w : PD.W) : TI := fun σ H Q => ∃ env S, Stt L env S σ H ∧ evW L.G w env S (fun ds g S' => ∀ J H', Step S H S' H' → RelS L.R H' S' → Walks L.R S' H' J ds g → Q J H') L.Ex
/-- slots vs alone may differ -/
def SameBut (σ σ' : L2.St) (vs : List Nat) : Prop := σ.length = σ'.length ∧ ∀ j, j ∉ vs → σ[j]? = σ'[j]?
def PvG (R : RC) (S : DS) (H : Hp) (σ : L2.St) (vs : List Nat) (Q : L2.St → Hp → Prop) : Env → DS → Prop := fun env' S' => ∀ σ' H', Step S H S' H' → RelS R H' S' → RelE R H' env' σ' → SameBut σ σ' vs → Q σ' H'
def liftG (L : LC) (tg : Tg) : TG := fun v σ H Q => ∃ env S d, Stt L env S σ H ∧ RelD L.R H d v ∧ tgW L.G tg d env S (PvG L.R S H σ (tgSlots tg) Q) L.Ex
def liftGs (L : LC) (ts : List Tg) : TGs := fun vs σ H Q => ∃ env S ds, Stt L env S σ H ∧ RelDs L.R H ds vs ∧ ds.length = ts.length ∧ tgsW L.G ts ds env S (PvG L.R S H σ (tgsSlots ts) Q) L.Ex

/-! ### running what is lifted -/
theorem _root_.L2.PE.go (g : GoodX X Γ L) {e : Expr} {c : C} (h : PE X e (liftC L c)) (I : Inv X pins σ H s) (a : Stt L env S σ H) {K : QD} (w : evC L.G c env S K L.Ex) {Q2 : Value → Shared → Prop}
    (k : ∀ u s' v H' d S', Inv X pins σ H' s' → RelV v u → Stt L env S' σ H' → Step S H S' H' → RelD L.R H' d v → K d S' → Q2 u s') : wpAny (model X.prog X.w) X.A (eval e X.env) Q2 X.xe s := by
  refine thn (h.run pins s σ H (fun v H' => ∃ d S', Step S H S' H' ∧ RelD L.R H' d v ∧ RelS L.R H' S' ∧ K d S') I ⟨env, S, a, ?_⟩) ?_
  · exact evC_mono g.gle c g.upE (DS.le.refl S) (fun d A B hle k v H' st rd rs => ⟨d, A, st.forget hle, rd, rs.forget hle, k⟩) w
  · rintro u s' ⟨v, H', I', rv, d, S', st, rd, rs, k'⟩
    exact k u s' v H' d S' I' rv (a.step rs st) st rd k'
theorem _root_.L2.PT.go (g : GoodX X Γ L) {e : Expr} {c : Te} (h : PT X e (liftB L c)) (I : Inv X pins σ H s) (a : Stt L env S σ H) {K : Bool → DS → Prop} (w : evT L.G c env S K L.Ex) {Q2 : Bool → Shared → Prop}
    (k : ∀ b s' H' S', Inv X pins σ H' s' → Stt L env S' σ H' → Step S H S' H' → K b S' → Q2 b s') : wpAny (model X.prog X.w) X.A (isTrue e X.env (eval e X.env)) Q2 X.xe s := by
  refine thn (h.run pins s σ H (fun b H' => ∃ S', Step S H S' H' ∧ RelS L.R H' S' ∧ K b S') I ⟨env, S, a, ?_⟩) ?_
  · exact evT_mono g.gle c g.upE (DS.le.refl S) (fun d A B hle k H' st rs => ⟨A, st.forget hle, rs.forget hle, k⟩) w
  · rintro u s' ⟨H', I', S', st, rs, k'⟩
    exact k u s' H' S' I' (a.step rs st) st k'
theorem _root_.L2.PA.go (g : GoodX X Γ L) {es : List Expr} {cs : List C} (h : PA X es (liftA L cs)) (I : Inv X pins σ H s) (a : Stt L env S σ H) {K : List D → DS → Prop} (w : evCs L.G cs env S K L.Ex) {Q2 : List Value → Shared → Prop} (pos : Pos)
    (k : ∀ us s' vs H' ds S', Inv X pins σ H' s' → Vals vs us → Stt L env S' σ H' → Step S H S' H' → RelDs L.R H' ds vs → K ds S' → Q2 us s') : wpAny (model X.prog X.w) X.A (spliced (backTo pos (starEach es X.env))) Q2 X.xe s := by
  refine thn (h.run pos pins s σ H (fun vs H' => ∃ ds S', Step S H S' H' ∧ RelDs L.R H' ds vs ∧ RelS L.R H' S' ∧ K ds S') I ⟨env, S, a, ?_⟩) ?_
  · exact evCs_mono g.gle cs g.upE (DS.le.refl S) (fun d A B hle k v H' st rd rs => ⟨d, A, st.forget hle, rd, rs.forget hle, k⟩) w
  · rintro u s' ⟨v, H', I', rv, d, S', st, rd, rs, k'⟩
    exact k u s' v H' d S' I' rv (a.step rs st) st rd k'
theorem srcOf.forget {R : RC} {l : PD.L} {v : V} {ds : List D} (h : DS.le S2 S') (x : srcOf R l S H S' H' v ds) : srcOf R l S H S2 H' v ds := by
  cases l with
  | ex _ => exact x
  | exl _ => exact x
  | lst _ =>
    obtain ⟨p, vs, e, h1, h2, h3, h4⟩ := x
    refine ⟨p, vs, e, h1, ?_, h3, h4⟩
    cases q : S2 p with
    | none => rfl
    | some o => rw [h p o q] at h2; cases h2
  | lc _ _ _ _ =>
    obtain ⟨p, vs, e, h1, h2, h3, h4⟩ := x
    refine ⟨p, vs, e, h1, ?_, h3, h4⟩
    cases q : S2 p with
    | none => rfl
    | some o => rw [h p o q] at h2; cases h2
theorem _root_.L2.PE.goL (g : GoodX X Γ L) {e : Expr} {c : PD.L} (h : PE X e (liftL L c)) (I : Inv X pins σ H s) (a : Stt L env S σ H) {K : List D → DS → Prop} (w : evL L.G c env S K L.Ex) {Q2 : Value → Shared → Prop}
    (k : ∀ u s' v H' ds S', Inv X pins σ H' s' → RelV v u → Stt L env S' σ H' → Step S H S' H' → srcOf L.R c S H S' H' v ds → K ds S' → Q2 u s') : wpAny (model X.prog X.w) X.A (eval e X.env) Q2 X.xe s := by
  refine thn (h.run pins s σ H (fun v H' => ∃ ds S', Step S H S' H' ∧ srcOf L.R c S H S' H' v ds ∧ RelS L.R H' S' ∧ K ds S') I ⟨env, S, a, ?_⟩) ?_
  · exact evL_mono g.gle c g.upE (DS.le.refl S) (fun d A B hle k v H' st rs rd => ⟨d, A, st.forget hle, rd.forget hle, rs.forget hle, k⟩) w
  · rintro u s' ⟨v, H', I', rv, d, S', st, rd, rs, k'⟩
    exact k u s' v H' d S' I' rv (a.step rs st) st rd k'
end

/-! ### the check -/
def visB (Γ : Ck) (x : Str) : Bool := match Γ.sc.names.lookup x with
  | some .local | some .cell | some .free => true
  | _ => false
/-- the name may be given a value -/
def locB (Γ : Ck) (x : Str) : Bool := match Γ.sc.names.lookup x with
  | some .local => true
  | some .cell => Γ.fn x
  | _ => false
def glB (Γ : Ck) (x : Str) : Bool := match Γ.sc.names.lookup x with
  | some .globalImplicit => true
  | _ => false
def noStar : Expr → Bool
  | .Starred _ _ => false
  | _ => true
def plainI : Expr → Bool
  | .Slice _ _ _ _ => false
  | .Constant _ _ _ | .Name _ _ | .BinOp _ _ _ _ | .UnaryOp _ _ _ | .Subscript _ _ _ | .Call _ _ _ _ | .Tuple _ _ _ | .Attribute _ _ _ | .IfExp _ _ _ _ => true
  | _ => false
def plainT : Expr → Bool
  | .Constant _ _ _ | .Name _ _ | .BinOp _ _ _ _ | .Subscript _ _ _ | .Call _ _ _ _ | .Attribute _ _ _ | .List _ _ | .Tuple _ _ _ => true
  | _ => false
def noSet : Expr → Bool
  | .Set _ _ _ => false
  | _ => true
def attrB : Expr → Bool
  | .Name _ _ | .Subscript _ _ _ | .Attribute _ _ _ => true
  | _ => false
def biName : BI → String
  | .len => "len" | .abs => "abs" | .int => "int" | .isinst => "isinstance" | .tuple => "tuple" | .list => "list" | .sum => "sum" | .max => "max" | .min => "min" | .all => "all" | .any => "any"
def mtName : MT → String
  | .append => "append" | .pop => "pop" | .extend => "extend" | .setdefault => "setdefault"
def isExL : PD.L → Bool
  | .ex _ => true
  | _ => false
def freshL : PD.L → Bool
  | .lst _ => true
  | .lc _ _ _ _ => true
  | _ => false
/-- a call by name: the name, the arguments -/
def callN : Expr → Option (Str × List Expr)
  | .Call (.Name x _) es [] _ => some (x, es)
  | _ => none
def ownOf (Γ : Ck) (l : List Nat) : List (Str × Nat) := l.filterMap fun i => match Γ.N[i]? with
  | some x => some (x, i)
  | none => none
def blkCk (Γ : Ck) (sc : Scope) : Ck := { Γ with sc := relS sc Γ.sc, fn := fun x => sc.names.lookup x == some .cell, lam := false }
def lamCk (Γ : Ck) (sc : Scope) : Ck := { Γ with sc := sc, fn := fun _ => false, low := true, lam := false }
def noArgs (p : Arguments) : Bool := p.posonlyargs.isEmpty && p.args.isEmpty && p.vararg.isNone && p.kwonlyargs.isEmpty && p.kw_defaults.isEmpty && p.kwarg.isNone && p.defaults.isEmpty
mutual
def chkC (Γ : Ck) : C → Expr → Bool
  | .var i, e => match e with
    | .Name x _ => decide (Γ.N[i]? = some x) && visB Γ x && nmB x
    | _ => false
  | .int i, e => match e with
    | .Constant (.int j) _ _ => decide (i = j)
    | _ => false
  | .str x, e => match e with
    | .Constant (.str y) _ _ => decide (x = y.cps.toList) && decide (x.length ≤ lim) && x.all fun c => decide (c < 1114112)
    | _ => false
  | .bl b, e => match e with
    | .Constant (.bool c) _ _ => decide (b = c)
    | _ => false
  | .non, e => match e with
    | .Constant .none _ _ => true
    | _ => false
  | .gl g, e => match e with
    | .Name x _ => (match Γ.P.gl[g]? with | some p => decide (p.1 = x) | none => false) && glB Γ x && nmB x
    | _ => false
  | .ty n, e => match e with
    | .Name x _ => decide ((n : Str) = x) && glB Γ x && decide (n ∈ tyNames) && decide (n ∈ bltNames)
    | _ => false
  | .neg a, e => match e with
    | .UnaryOp .USub x _ => chkC Γ a x
    | _ => false
  | .not a, e => match e with
    | .UnaryOp .Not x _ => chkC Γ a x
    | _ => false
  | .bin o a b, e => match e with
    | .BinOp x op y _ => opA o op && chkC Γ a x && chkC Γ b y
    | _ => false
  | .and a b, e => match e with
    | .BoolOp .And (x :: y :: ys) p => chkC Γ a x && (match ys with | [] => chkC Γ b y | _ => chkC Γ b (.BoolOp .And (y :: ys) p))
    | _ => false
  | .or a b, e => match e with
    | .BoolOp .Or (x :: y :: ys) p => chkC Γ a x && (match ys with | [] => chkC Γ b y | _ => chkC Γ b (.BoolOp .Or (y :: ys) p))
    | _ => false
  | .ite t a b, e => match e with
    | .IfExp x y z _ => chkT Γ t x && chkC Γ a y && chkC Γ b z
    | _ => false
  | .cmp o a b, e => match e with
    | .Compare x [op] [y] _ => cmA o op && chkC Γ a x && chkC Γ b y && !behindInMarks op y
    | _ => false
  | .chain o p a b c, e => match e with
    | .Compare x [op, op'] [y, z] _ => cmA o op && cmA p op' && chkC Γ a x && chkC Γ b y && chkC Γ c z && !lastMarks [op, op'] [y, z]
    | _ => false
  | .call f es, e => match callN e, Γ.P.fns[f]? with
    | some (x, ys), some F => !Γ.low && decide (F.name = x) && glB Γ x && nmB x && chkCs Γ es ys
    | _, _ => false
  | .callL f es, e => match callN e, Γ.P.fns[f]? with
    | some (x, ys), some F => Γ.low && decide (F.name = x) && glB Γ x && nmB x && chkCs Γ es ys
    | _, _ => false
  | .told t b, e => match e, Γ.P.told[t]? with
    | .Call (.Name x _) [.Lambda params body scope _] [] _, some h => Γ.lam && !Γ.low && decide (h.name = x) && glB Γ x && nmB x && noArgs params && LamX.lamSB Γ.sc scope && chkC (lamCk Γ scope) b body
    | _, _ => false
  | .callv _ _, _ => false
  | .bi b es, e => match callN e with
    | some (x, ys) => decide ((biName b : Str) = x) && glB Γ x && !ys.isEmpty && chkCs Γ es ys
    | none => false
  | .biL b l, e => match callN e with
    | some (x, [y]) => decide ((biName b : Str) = x) && glB Γ x && noStar y && (!needL b || !isExL l) && chkL Γ l y
    | _ => false
  | .mth m o es, e => match e with
    | .Call (.Attribute x a ap) ys [] p => decide ((mtName m : Str) = a) && attrB x && (ap.endLine == p.line) && decide (ys.length < 3) && (decide (m ≠ .setdefault) || decide (ys.length = 2)) && chkC Γ o x && chkCs Γ es ys
    | _ => false
  | .ext o l, e => match e with
    | .Call (.Attribute x a ap) [y] [] p => decide (("extend" : Str) = a) && attrB x && (ap.endLine == p.line) && noStar y && !isExL l && chkC Γ o x && chkL Γ l y
    | _ => false
  | .ix a i, e => match e with
    | .Subscript x y _ => chkC Γ a x && chkC Γ i y && plainI y
    | _ => false
  | .sl a lo hi, e => match e with
    | .Subscript x (.Slice l h none _) _ => chkC Γ a x && chkO Γ lo l && chkO Γ hi h
    | _ => false
  | .tup es, e => match e with
    | .Tuple ys _ _ => chkCs Γ es ys
    | _ => false
  | .mk l, e => freshL l && chkL Γ l e
  | .dct0, e => match e with
    | .Dict [] [] _ => true
    | _ => false
termination_by structural t => t
def chkCs (Γ : Ck) : List C → List Expr → Bool
  | [], ys => ys.isEmpty
  | e :: es, ys => match ys with
    | y :: ys => noStar y && chkC Γ e y && chkCs Γ es ys
    | [] => false
termination_by structural t => t
def chkO (Γ : Ck) : Option C → Option Expr → Bool
  | none, e => e.isNone
  | some c, e => match e with
    | some y => chkC Γ c y
    | none => false
termination_by structural t => t
def chkTo (Γ : Ck) : Option Te → List Expr → Bool
  | none, ys => ys.isEmpty
  | some t, ys => match ys with
    | [y] => chkT Γ t y
    | _ => false
termination_by structural t => t
def chkT (Γ : Ck) : Te → Expr → Bool
  | .and a b, e => match e with
    | .BoolOp .And (x :: y :: ys) p => chkT Γ a x && (match ys with | [] => chkT Γ b y | _ => chkT Γ b (.BoolOp .And (y :: ys) p))
    | _ => false
  | .or a b, e => match e with
    | .BoolOp .Or (x :: y :: ys) p => chkT Γ a x && (match ys with | [] => chkT Γ b y | _ => chkT Γ b (.BoolOp .Or (y :: ys) p))
    | _ => false
  | .not a, e => match e with
    | .UnaryOp .Not x _ => chkT Γ a x
    | _ => false
  | .val c, e => match e with
    | .Compare _ _ _ _ => (match c with | .cmp _ _ _ => chkC Γ c e | .chain _ _ _ _ _ => chkC Γ c e | _ => false)
    | e => plainT e && chkC Γ c e
termination_by structural t => t
def chkL (Γ : Ck) : PD.L → Expr → Bool
  | .ex c, e => chkC Γ c e
  | .exl c, e => chkC Γ c e
  | .lst es, e => match e with
    | .List ys _ => chkCs Γ es ys
    | _ => false
  | .lc c tg w t, e => match e with
    | .ListComp y [⟨tgt, it, ifs, 0⟩] sc _ => noSet it && chkW Γ w tgt it && blkC Γ.N Γ.sc sc (ownOf Γ (tgSlots tg)) && decide ((ownOf Γ (tgSlots tg)).map (·.2) = tgSlots tg) && chkG (blkCk Γ sc) tg tgt && chkTo (blkCk Γ sc) t ifs && chkC (blkCk Γ sc) c y
    | _ => false
termination_by structural t => t
def chkW (Γ : Ck) : PD.W → Expr → Expr → Bool
  | .ex c, _, e => plainT e && chkC Γ c e
  | .fl l, _, e => freshL l && chkL Γ l e
  | .range1 a, _, e => match callN e with
    | some (x, [y]) => decide (("range" : Str) = x) && glB Γ x && noStar y && chkC Γ a y
    | _ => false
  | .range2 a b, _, e => match callN e with
    | some (x, [y, z]) => decide (("range" : Str) = x) && glB Γ x && noStar y && noStar z && chkC Γ a y && chkC Γ b z
    | _ => false
  | .enum c, t, e => match t, callN e with
    | .Tuple _ _ _, some (x, [y]) => decide (("enumerate" : Str) = x) && glB Γ x && noStar y && chkC Γ c y
    | _, _ => false
  | .zip a b, t, e => match t, callN e with
    | .Tuple _ _ _, some (x, [y, z]) => decide (("zip" : Str) = x) && glB Γ x && noStar y && noStar z && chkC Γ a y && chkC Γ b z
    | _, _ => false
termination_by structural t => t
def chkG (Γ : Ck) : Tg → Expr → Bool
  | .name i, e => match e with
    | .Name x _ => decide (Γ.N[i]? = some x) && locB Γ x
    | _ => false
  | .tup ts, e => match e with
    | .Tuple ys _ _ => chkGs Γ ts ys
    | _ => false
  | .sub o i, e => match e with
    | .Subscript x y _ => chkC Γ o x && chkC Γ i y && plainI y
    | _ => false
termination_by structural t => t
def chkGs (Γ : Ck) : List Tg → List Expr → Bool
  | [], ys => ys.isEmpty
  | t :: ts, ys => match ys with
    | y :: ys => noStar y && chkG Γ t y && chkGs Γ ts ys
    | [] => false
termination_by structural t => t
end
end PD
end
section
set_option Elab.async false
set_option linter.all false
set_option maxRecDepth 100000
set_option maxHeartbeats 1000000
/-! PyD, part I: what is lifted, expression by expression. -/
namespace PD
open PySem PySem.Spec PyProof.Rows L2

section
variable {L : LC} {X : Cx} {Γ : Ck} {H H' : Hp} {S S' S2 : DS} {env : Env} {σ : L2.St} {pins : List (Addr × Obj)} {s : Shared} {Q : VK}

/-! ### by values -/
theorem lift_of (g : GoodX X Γ L) {c : C} (a : Stt L env S σ H) {K : QD} (w : evC L.G c env S K L.Ex) (k : ∀ d v H' S', Stt L env S' σ H' → Step S H S' H' → RelD L.R H' d v → K d S' → Q v H') : liftC L c σ H Q :=
  ⟨env, S, a, evC_mono g.gle c g.upE (DS.le.refl S) (fun d A B hle k' v H' st rd rs => k d v H' A (a.step (rs.forget hle) (st.forget hle)) (st.forget hle) rd k') w⟩
theorem liftB_of (g : GoodX X Γ L) {c : Te} (a : Stt L env S σ H) {K : Bool → DS → Prop} (w : evT L.G c env S K L.Ex) {Q : Bool → Hp → Prop} (k : ∀ b H' S', Stt L env S' σ H' → Step S H S' H' → K b S' → Q b H') : liftB L c σ H Q :=
  ⟨env, S, a, evT_mono g.gle c g.upE (DS.le.refl S) (fun d A B hle k' H' st rs => k d H' A (a.step (rs.forget hle) (st.forget hle)) (st.forget hle) k') w⟩
theorem liftA_of (g : GoodX X Γ L) {cs : List C} (a : Stt L env S σ H) {K : List D → DS → Prop} (w : evCs L.G cs env S K L.Ex) {Q : List V → Hp → Prop} (k : ∀ ds vs H' S', Stt L env S' σ H' → Step S H S' H' → RelDs L.R H' ds vs → K ds S' → Q vs H') : liftA L cs σ H Q :=
  ⟨env, S, a, evCs_mono g.gle cs g.upE (DS.le.refl S) (fun d A B hle k' v H' st rd rs => k d v H' A (a.step (rs.forget hle) (st.forget hle)) (st.forget hle) rd k') w⟩
theorem liftO_of (g : GoodX X Γ L) {c : Option C} (a : Stt L env S σ H) {K : Option Int → DS → Prop} (w : evO L.G c env S K L.Ex) {Q : Option Int → Hp → Prop} (k : ∀ o H' S', Stt L env S' σ H' → Step S H S' H' → K o S' → Q o H') : liftO L c σ H Q :=
  ⟨env, S, a, evO_mono g.gle c g.upE (DS.le.refl S) (fun d A B hle k' H' st rs => k d H' A (a.step (rs.forget hle) (st.forget hle)) (st.forget hle) k') w⟩
theorem liftL_of (g : GoodX X Γ L) {c : PD.L} (a : Stt L env S σ H) {K : List D → DS → Prop} (w : evL L.G c env S K L.Ex) (k : ∀ ds v H' S', Stt L env S' σ H' → Step S H S' H' → srcOf L.R c S H S' H' v ds → K ds S' → Q v H') : liftL L c σ H Q :=
  ⟨env, S, a, evL_mono g.gle c g.upE (DS.le.refl S) (fun d A B hle k' v H' st rs rd => k d v H' A (a.step (rs.forget hle) (st.forget hle)) (st.forget hle) (rd.forget hle) k') w⟩
theorem _root_.L2.PE.to {e : Expr} {t : TE} {c : C} (h : PE X e t) (k : ∀ σ H Q env S, Stt L env S σ H → evC L.G c env S (Pv L.R S H Q) L.Ex → t σ H Q) : PE X e (liftC L c) :=
  ⟨fun pins s σ H Q I ⟨env, S, a, w⟩ => h.run pins s σ H Q I (k σ H Q env S a w)⟩
theorem _root_.L2.PT.to {e : Expr} {t : TT} {c : Te} (h : PT X e t) (k : ∀ σ H Q env S, Stt L env S σ H → evT L.G c env S (PvT L.R S H Q) L.Ex → t σ H Q) : PT X e (liftB L c) :=
  ⟨fun pins s σ H Q I ⟨env, S, a, w⟩ => h.run pins s σ H Q I (k σ H Q env S a w)⟩
/-- the end of a reading -/
theorem Stt.fin (a : Stt L env S' σ H') (st : Step S H S' H') {d : D} {v : V} (w : Pv L.R S H Q d S') (r : RelD L.R H' d v) : Q v H' := w v H' st r a.rs

/-! ### names -/
theorem nm_of {x : Str} (h : nmB x = true) : (x == ("__debug__" : Str)) = false ∧ (x == ("__classdict__" : Str)) = false ∧ x ≠ "__name__" := by
  unfold nmB at h
  simp only [Bool.and_eq_true, Bool.not_eq_true', decide_eq_false_iff_not] at h
  exact ⟨h.1.1, h.1.2, h.2⟩
theorem vis_of (g : GoodX X Γ L) {x : Str} (h : visB Γ x = true) : Vis X.env.scope x := by
  rw [g.sc]
  unfold visB at h
  unfold Vis
  split at h
  · exact .inl (by assumption)
  · exact .inr (.inl (by assumption))
  · exact .inr (.inr (by assumption))
  · cases h
theorem loc_of (g : GoodX X Γ L) {x : Str} (h : locB Γ x = true) : L2.Loc X.env.scope x ∧ (X.fn x = true ∨ X.env.scope.names.lookup x = some .local) := by
  rw [g.sc, g.fn]
  unfold locB at h
  unfold L2.Loc
  split at h
  · exact ⟨.inl (by assumption), .inr (by assumption)⟩
  · exact ⟨.inr (by assumption), .inl h⟩
  · cases h
theorem gl_of (g : GoodX X Γ L) {x : Str} (h : glB Γ x = true) : Gl X x := by
  show X.env.scope.names.lookup x = _
  rw [g.sc]
  unfold glB at h
  split at h
  · assumption
  · cases h
theorem star_of {e : Expr} (h : noStar e = true) (es : List Expr) (env : PySem.Env) : starEach (e :: es) env = (false, eval e env) :: starEach es env := by
  cases e <;> first | rfl | cases h
theorem noStars : ∀ {es : List Expr}, es.all noStar = true → ∀ (pos : Pos) (env : PySem.Env), (backTo pos (starEach es env)).any (·.1) = false ∧ (backTo pos (starEach es env)).all (fun x => !x.1) = true
  | [], _, _, _ => ⟨rfl, rfl⟩
  | e :: es, h, pos, env => by
    rw [List.all_cons, Bool.and_eq_true] at h
    obtain ⟨h1, h2⟩ := noStars h.2 pos env
    rw [star_of h.1]
    exact ⟨h1, h2⟩
theorem chkCs_star : ∀ {cs : List C} {es : List Expr}, chkCs Γ cs es = true → es.all noStar = true ∧ es.length = cs.length
  | [], es, h => by
    unfold chkCs at h
    rw [List.isEmpty_iff.mp h]
    exact ⟨rfl, rfl⟩
  | c :: cs, es, h => by
    unfold chkCs at h
    cases es with
    | nil => cases h
    | cons e es =>
      simp only [Bool.and_eq_true] at h
      obtain ⟨h1, h2⟩ := chkCs_star h.2
      exact ⟨by rw [List.all_cons, h.1.1, h1]; rfl, by rw [List.length_cons, List.length_cons, h2]⟩
theorem blt_of (g : GoodX X Γ L) {n : String} (h : n ∈ bltNames) : X.mg (n : Str) = none := g.blt n h

/-! ### atoms -/
theorem c_var (g : GoodX X Γ L) {i : Nat} {x : Str} {pos : Pos} (h1 : Γ.N[i]? = some x) (h2 : visB Γ x = true) (h3 : nmB x = true) : PE X (.Name x pos) (liftC L (.var i)) :=
  (pe_var (by rw [g.N]; exact h1) (vis_of g h2) (nm_of h3).1 (nm_of h3).2.1).to fun σ H Q env S a w => by
    unfold evC slotW at w
    split at w
    · rename_i d e
      obtain ⟨v, e2, r⟩ := a.re.2 i d e
      exact ⟨v, e2, a.fin (Step.refl _ _) w r⟩
    · exact w.elim
theorem c_int {i : Int} {j pos} : PE X (.Constant (.int i) j pos) (liftC L (.int i)) := pe_int.to fun σ H Q env S a w => a.fin (Step.refl _ _) w rfl
theorem c_bl {i : Bool} {j pos} : PE X (.Constant (.bool i) j pos) (liftC L (.bl i)) := pe_bl.to fun σ H Q env S a w => a.fin (Step.refl _ _) w rfl
theorem c_non {j pos} : PE X (.Constant .none j pos) (liftC L .non) := pe_non.to fun σ H Q env S a w => a.fin (Step.refl _ _) w rfl
theorem c_str {y : Str} {j pos} (h1 : y.cps.toList.length ≤ lim) (h2 : ∀ c ∈ y.cps.toList, c < 1114112) : PE X (.Constant (.str y) j pos) (liftC L (.str y.cps.toList)) :=
  pe_str.to fun σ H Q env S a w => a.fin (Step.refl _ _) w ⟨by show V.str y = V.str ⟨y.cps.toList.toArray⟩; simp, h1, h2⟩
theorem c_gl (g : GoodX X Γ L) {i : Nat} {p : Str × D} {pos : Pos} (h1 : Γ.P.gl[i]? = some p) (h2 : glB Γ p.1 = true) (h3 : nmB p.1 = true) : PE X (.Name p.1 pos) (liftC L (.gl i)) := by
  obtain ⟨u, v, hm, r, hr⟩ := g.gl i p h1
  refine (pe_glob (gl_of g h2) hm r (nm_of h3).1).to fun σ H Q env S a w => ?_
  unfold evC at w
  rw [g.glG, h1] at w
  exact a.fin (Step.refl _ _) w (hr H)
theorem boot_ty {n : String} (h : n ∈ tyNames) : bootBuiltins (n : Str) = some (.type n) ∧ ((n : Str) ≠ "__name__") ∧ ((n : Str) == ("__debug__" : Str)) = false := by
  have h' : n = "bool" ∨ n = "int" ∨ n = "str" ∨ n = "tuple" ∨ n = "list" ∨ n = "dict" := by simpa [tyNames] using h
  rcases h' with e | e | e | e | e | e <;> (subst e; exact ⟨rfl, by decide, by decide⟩)
theorem c_ty (g : GoodX X Γ L) {n : String} {pos : Pos} (h1 : glB Γ (n : Str) = true) (h2 : n ∈ tyNames) (h3 : n ∈ bltNames) : PE X (.Name (n : Str) pos) (liftC L (.ty n)) :=
  (pe_bltn (v := .ty n) (gl_of g h1) (blt_of g h3) (boot_ty h2).1 rfl (boot_ty h2).2.1 (boot_ty h2).2.2).to fun σ H Q env S a w => a.fin (Step.refl _ _) w ⟨rfl, h2⟩

/-! ### operators -/
variable {ea eb ec : Expr} {ca cb cc : C} {pos : Pos}
theorem c_neg (g : GoodX X Γ L) (ha : PE X ea (liftC L ca)) : PE X (.UnaryOp .USub ea pos) (liftC L (.neg ca)) :=
  (pe_un un_neg ha).to fun σ H Q env S a w => by
    unfold evC at w
    refine lift_of g a w fun d v H' S' a' st rd w' => ?_
    split at w'
    · obtain rfl := rd
      exact ⟨_, rfl, a'.fin st w' rfl⟩
    · exact w'.elim
theorem c_not (g : GoodX X Γ L) (ha : PE X ea (liftC L ca)) : PE X (.UnaryOp .Not ea pos) (liftC L (.not ca)) :=
  (pe_notT ha).to fun σ H Q env S a w => by
    unfold evC at w
    refine lift_of g a w fun d v H' S' a' st rd w' => ?_
    unfold truthW at w'
    split at w'
    · rename_i b e
      exact ⟨b, truth_v (a'.at_ g) rd e, a'.fin st w' rfl⟩
    · exact w'.elim
def rBin (R : RC) (o : Op) : R2 := fun x y H Q => ∃ d e S, RelD R H d x ∧ RelD R H e y ∧ RelS R H S ∧ binW o d e S (Pv R S H Q)
theorem op_bin (g : GoodX X Γ L) {o : Op} {op : Operator} (ho : opA o op = true) : OpR X (binaryOp op) (rBin L.R o) := by
  intro pins s σ H x y v u Q I rx ry h
  obtain ⟨d, e, S, rd, re, rs, w⟩ := h
  exact bin_ok ⟨g.K, rs⟩ ho I rx ry rd re w
theorem c_bin (g : GoodX X Γ L) {o : Op} {op : Operator} (ho : opA o op = true) (ha : PE X ea (liftC L ca)) (hb : PE X eb (liftC L cb)) : PE X (.BinOp ea op eb pos) (liftC L (.bin o ca cb)) :=
  (pe_op (op_bin g ho) ha hb).to fun σ H Q env S a w => by
    unfold evC at w
    refine lift_of g a w fun d v H1 S1 a1 st1 rd w1 => lift_of g a1 w1 fun e u H2 S2 a2 st2 re w2 => ?_
    exact ⟨d, e, S2, RelD.mono (st2.tmono a1.rs) _ _ rd, re, a2.rs, binW_mono (DS.le.refl _) (pv_up (st1.trans st2)) w2⟩
theorem c_and (g : GoodX X Γ L) {rest : List Expr} (ha : PE X ea (liftC L ca)) (hb : PE X (.BoolOp .And (eb :: rest) pos) (liftC L cb)) : PE X (.BoolOp .And (ea :: eb :: rest) pos) (liftC L (.and ca cb)) :=
  (pe_andT ha hb).to fun σ H Q env S a w => by
    unfold evC at w
    refine lift_of g a w fun d v H1 S1 a1 st1 rd w1 => ?_
    unfold truthW at w1
    split at w1
    · rename_i b e
      refine ⟨b, truth_v (a1.at_ g) rd e, ?_⟩
      cases b with
      | true =>
        rw [if_pos rfl]
        exact lift_of g a1 w1 fun e u H2 S2 a2 st2 re w2 => a2.fin (st1.trans st2) w2 re
      | false =>
        rw [if_neg Bool.false_ne_true]
        exact a1.fin st1 w1 rd
    · exact w1.elim
theorem c_or (g : GoodX X Γ L) {rest : List Expr} (ha : PE X ea (liftC L ca)) (hb : PE X (.BoolOp .Or (eb :: rest) pos) (liftC L cb)) : PE X (.BoolOp .Or (ea :: eb :: rest) pos) (liftC L (.or ca cb)) :=
  (pe_orT ha hb).to fun σ H Q env S a w => by
    unfold evC at w
    refine lift_of g a w fun d v H1 S1 a1 st1 rd w1 => ?_
    unfold truthW at w1
    split at w1
    · rename_i b e
      refine ⟨b, truth_v (a1.at_ g) rd e, ?_⟩
      cases b with
      | false =>
        rw [if_neg Bool.false_ne_true]
        exact lift_of g a1 w1 fun e u H2 S2 a2 st2 re w2 => a2.fin (st1.trans st2) w2 re
      | true =>
        rw [if_pos rfl]
        exact a1.fin st1 w1 rd
    · exact w1.elim
theorem c_ite (g : GoodX X Γ L) {t : Te} {et : Expr} (ht : PT X et (liftB L t)) (ha : PE X ea (liftC L ca)) (hb : PE X eb (liftC L cb)) : PE X (.IfExp et ea eb pos) (liftC L (.ite t ca cb)) :=
  (pe_ifExp ht ha hb).to fun σ H Q env S a w => by
    unfold evC at w
    refine liftB_of g a w fun b H1 S1 a1 st1 w1 => ?_
    cases b with
    | true =>
      rw [if_pos rfl]
      exact lift_of g a1 w1 fun e u H2 S2 a2 st2 re w2 => a2.fin (st1.trans st2) w2 re
    | false =>
      rw [if_neg Bool.false_ne_true]
      exact lift_of g a1 w1 fun e u H2 S2 a2 st2 re w2 => a2.fin (st1.trans st2) w2 re
def rCmp (R : RC) (o : Cm) : R2 := fun x y H Q => ∃ d e S, RelD R H d x ∧ RelD R H e y ∧ RelS R H S ∧ cmpW o d e S fun k => Q (.bl k) H
theorem op_cmp (g : GoodX X Γ L) {o : Cm} {op : CmpOp} (ho : cmA o op = true) : OpR X (compareOp op) (rCmp L.R o) := by
  intro pins s σ H x y v u Q I rx ry h
  obtain ⟨d, e, S, rd, re, rs, w⟩ := h
  exact cmp_ok ⟨g.K, rs⟩ g.un ho I rx ry rd re (fun b t q I' => ⟨.bl b, H, I', rfl, q⟩) w
theorem c_cmp (g : GoodX X Γ L) {o : Cm} {op : CmpOp} (ho : cmA o op = true) (ha : PE X ea (liftC L ca)) (hb : PE X eb (liftC L cb)) (hm : behindInMarks op eb = false) : PE X (.Compare ea [op] [eb] pos) (liftC L (.cmp o ca cb)) :=
  (pe_cmpR (op_cmp g ho) ha hb hm).to fun σ H Q env S a w => by
    unfold evC at w
    refine lift_of g a w fun d v H1 S1 a1 st1 rd w1 => lift_of g a1 w1 fun e u H2 S2 a2 st2 re w2 => ?_
    exact ⟨d, e, S2, RelD.mono (st2.tmono a1.rs) _ _ rd, re, a2.rs, cmpW_mono (DS.le.refl _) (fun k q => a2.fin (st1.trans st2) (d := .bl k) q rfl) w2⟩
theorem t_cmp (g : GoodX X Γ L) {o : Cm} {op : CmpOp} (ho : cmA o op = true) (ha : PE X ea (liftC L ca)) (hb : PE X eb (liftC L cb)) (hm : behindInMarks op eb = false) : PT X (.Compare ea [op] [eb] pos) (liftB L (.val (.cmp o ca cb))) :=
  (pt_cmpR (op_cmp g ho) ha hb hm).to fun σ H Q env S a w => by
    unfold evT evC at w
    refine lift_of g a w fun d v H1 S1 a1 st1 rd w1 => lift_of g a1 w1 fun e u H2 S2 a2 st2 re w2 => ?_
    exact ⟨d, e, S2, RelD.mono (st2.tmono a1.rs) _ _ rd, re, a2.rs, cmpW_mono (DS.le.refl _) (fun k q => ⟨k, rfl, q H2 (st1.trans st2) a2.rs⟩) w2⟩
theorem c_chain (g : GoodX X Γ L) {o p : Cm} {op op' : CmpOp} (ho : cmA o op = true) (ho' : cmA p op' = true) (ha : PE X ea (liftC L ca)) (hb : PE X eb (liftC L cb)) (hc : PE X ec (liftC L cc)) (hm : lastMarks [op, op'] [eb, ec] = false) :
    PE X (.Compare ea [op, op'] [eb, ec] pos) (liftC L (.chain o p ca cb cc)) :=
  (pe_chain (op_cmp g ho) (op_cmp g ho') ha hb hc hm).to fun σ H Q env S a w => by
    unfold evC at w
    refine lift_of g a w fun d v H1 S1 a1 st1 rd w1 => lift_of g a1 w1 fun e u H2 S2 a2 st2 re w2 => ?_
    refine ⟨d, e, S2, RelD.mono (st2.tmono a1.rs) _ _ rd, re, a2.rs, cmpW_mono (DS.le.refl _) (fun k q => ⟨k, rfl, ?_⟩) w2⟩
    cases k with
    | true =>
      rw [if_pos rfl]
      refine lift_of g a2 q fun f z H3 S3 a3 st3 rf w3 => ?_
      exact ⟨e, f, S3, RelD.mono (st3.tmono a2.rs) _ _ re, rf, a3.rs, cmpW_mono (DS.le.refl _) (fun k q => a3.fin ((st1.trans st2).trans st3) (d := .bl k) q rfl) w3⟩
    | false =>
      rw [if_neg Bool.false_ne_true]
      exact a2.fin (st1.trans st2) q rfl
theorem t_chain (g : GoodX X Γ L) {o p : Cm} {op op' : CmpOp} (ho : cmA o op = true) (ho' : cmA p op' = true) (ha : PE X ea (liftC L ca)) (hb : PE X eb (liftC L cb)) (hc : PE X ec (liftC L cc)) (hm : lastMarks [op, op'] [eb, ec] = false) :
    PT X (.Compare ea [op, op'] [eb, ec] pos) (liftB L (.val (.chain o p ca cb cc))) :=
  (pt_chain (op_cmp g ho) (op_cmp g ho') ha hb hc hm).to fun σ H Q env S a w => by
    unfold evT evC at w
    refine lift_of g a w fun d v H1 S1 a1 st1 rd w1 => lift_of g a1 w1 fun e u H2 S2 a2 st2 re w2 => ?_
    refine ⟨d, e, S2, RelD.mono (st2.tmono a1.rs) _ _ rd, re, a2.rs, cmpW_mono (DS.le.refl _) (fun k q => ⟨k, rfl, ?_⟩) w2⟩
    cases k with
    | true =>
      rw [if_pos rfl]
      refine lift_of g a2 q fun f z H3 S3 a3 st3 rf w3 => ?_
      exact ⟨e, f, S3, RelD.mono (st3.tmono a2.rs) _ _ re, rf, a3.rs, cmpW_mono (DS.le.refl _) (fun k q => ⟨k, rfl, q H3 ((st1.trans st2).trans st3) a3.rs⟩) w3⟩
    | false =>
      rw [if_neg Bool.false_ne_true]
      exact ⟨false, rfl, q H2 (st1.trans st2) a2.rs⟩

/-! ### tests -/
theorem plain_of {e : Expr} (h : plainT e = true) (env : PySem.Env) : ∀ whole, isTrue e env whole = (do let v ← whole; standAt e.pos; holding [v] (truthy v)) := by
  cases e <;> first | (intro _; rfl) | cases h
theorem t_val (g : GoodX X Γ L) (h : plainT ea = true) (ha : PE X ea (liftC L ca)) : PT X ea (liftB L (.val ca)) :=
  (pt_truth ha (plain_of h X.env)).to fun σ H Q env S a w => by
    unfold evT at w
    refine lift_of g a w fun d v H' S' a' st rd w' => ?_
    unfold truthW at w'
    split at w'
    · rename_i b e
      exact ⟨b, truth_v (a'.at_ g) rd e, w' H' st a'.rs⟩
    · exact w'.elim
theorem t_not (g : GoodX X Γ L) {t : Te} (ha : PT X ea (liftB L t)) : PT X (.UnaryOp .Not ea pos) (liftB L (.not t)) :=
  (pt_not ha).to fun σ H Q env S a w => by
    unfold evT at w
    exact liftB_of g a w fun b H1 S1 a1 st1 w1 => w1 H1 st1 a1.rs
theorem w_and (g : GoodX X Γ L) {t u : Te} {rest : List Expr} (ha : PT X ea (liftB L t)) (hb : PW X (.BoolOp .And (eb :: rest) pos) (liftB L u)) : PW X (.BoolOp .And (ea :: eb :: rest) pos) (liftB L (.and t u)) :=
  ⟨fun wh pins s σ H Q I ⟨env, S, a, w⟩ => (pw_and ha hb).run wh pins s σ H Q I (by
    unfold evT at w
    refine liftB_of g a w fun b H1 S1 a1 st1 w1 => ?_
    cases b with
    | true =>
      rw [if_pos rfl]
      exact liftB_of g a1 w1 fun b H2 S2 a2 st2 w2 => w2 H2 (st1.trans st2) a2.rs
    | false =>
      rw [if_neg Bool.false_ne_true]
      exact w1 H1 st1 a1.rs)⟩
theorem w_or (g : GoodX X Γ L) {t u : Te} {rest : List Expr} (ha : PT X ea (liftB L t)) (hb : PW X (.BoolOp .Or (eb :: rest) pos) (liftB L u)) : PW X (.BoolOp .Or (ea :: eb :: rest) pos) (liftB L (.or t u)) :=
  ⟨fun wh pins s σ H Q I ⟨env, S, a, w⟩ => (pw_or ha hb).run wh pins s σ H Q I (by
    unfold evT at w
    refine liftB_of g a w fun b H1 S1 a1 st1 w1 => ?_
    cases b with
    | false =>
      rw [if_neg Bool.false_ne_true]
      exact liftB_of g a1 w1 fun b H2 S2 a2 st2 w2 => w2 H2 (st1.trans st2) a2.rs
    | true =>
      rw [if_pos rfl]
      exact w1 H1 st1 a1.rs)⟩

/-! ### lists of expressions -/
theorem a_nil : PA X [] (liftA L []) := ⟨fun pos pins s σ H Q I ⟨env, S, a, w⟩ => pa_nil.run pos pins s σ H Q I (by
    unfold evCs at w
    exact w [] H (Step.refl _ _) rfl a.rs)⟩
theorem a_cons (g : GoodX X Γ L) {es : List Expr} {cs : List C} (hs : noStar ea = true) (ha : PE X ea (liftC L ca)) (hr : PA X es (liftA L cs)) : PA X (ea :: es) (liftA L (ca :: cs)) :=
  ⟨fun pos pins s σ H Q I ⟨env, S, a, w⟩ => (pa_cons ha hr (star_of hs es X.env)).run pos pins s σ H Q I (by
    unfold evCs at w
    refine lift_of g a w fun d v H1 S1 a1 st1 rd w1 => liftA_of g a1 w1 fun ds vs H2 S2 a2 st2 rds w2 => ?_
    exact w2 _ H2 (st1.trans st2) ⟨v, vs, rfl, RelD.mono (st2.tmono a1.rs) _ _ rd, rds⟩ a2.rs)⟩
theorem o_none : PO X none (liftO L none) := ⟨fun pins s σ H Q I ⟨env, S, a, w⟩ => po_none.run pins s σ H Q I (w H (Step.refl _ _) a.rs)⟩
theorem o_some (g : GoodX X Γ L) (ha : PE X ea (liftC L ca)) : PO X (some ea) (liftO L (some ca)) := ⟨fun pins s σ H Q I ⟨env, S, a, w⟩ => (po_some ha).run pins s σ H Q I (by
    unfold evO at w
    refine lift_of g a w fun d v H1 S1 a1 st1 rd w1 => ?_
    split at w1
    · obtain rfl := rd
      exact ⟨_, rfl, w1 H1 st1 a1.rs⟩
    · exact w1.elim)⟩
theorem c_tup (g : GoodX X Γ L) {es : List Expr} {cs : List C} {k : Nat} (h : PA X es (liftA L cs)) : PE X (.Tuple es k pos) (liftC L (.tup cs)) :=
  (pe_tup h).to fun σ H Q env S a w => by
    unfold evC at w
    refine liftA_of g a w fun ds vs H1 S1 a1 st1 rds w1 => ⟨by rw [lim_eq, rds.length]; exact w1.1, fun p n => ?_⟩
    exact Pv.tup (a1.at_ g) rds (pv_up st1 _ _ _ (DS.le.refl _) w1.2) n
theorem l_lst (g : GoodX X Γ L) {es : List Expr} {cs : List C} (h : PA X es (liftA L cs)) : PE X (.List es pos) (liftL L (.lst cs)) :=
  ⟨fun pins s σ H Q I ⟨env, S, a, w⟩ => (pe_lst h).run pins s σ H Q I (by
    unfold evL at w
    refine liftA_of g a w fun ds vs H1 S1 a1 st1 rds w1 => ⟨by rw [lim_eq, rds.length]; exact w1.1, fun p n => ?_⟩
    have n0 : Fre S H p := st1.fre n
    refine w1.2 _ _ (st1.trans (Step.laid n)) (a1.rs.laid n) ⟨p, vs, rfl, n0, a1.rs.nul n, upd_same, RelDs.mono (tmono_laid n) _ _ rds⟩)⟩
end
end PD
end
section
set_option Elab.async false
set_option linter.all false
set_option maxRecDepth 100000
set_option maxHeartbeats 1000000
/-! PyD, part J: calls, subscripts, methods, new lists, what is walked, targets. -/
namespace PD
open PySem PySem.Spec PyProof.Rows L2

section
variable {L : LC} {X : Cx} {Γ : Ck} {H H' : Hp} {S S' S2 : DS} {env : Env} {σ : L2.St} {pins : List (Addr × Obj)} {s : Shared} {Q : VK}
variable {ea eb ec : Expr} {ca cb cc : C} {pos p : Pos} {es : List Expr} {cs : List C}

/-! ### calls -/
theorem run_call (g : GoodX X Γ L) (hlow : Γ.low = false) {f : Nat} {F : Fn} (hF : Γ.P.fns[f]? = some F) {vs : List V} {us : List Value} {ds : List D} (I : Inv X pins σ H' s) (r : Vals vs us) (rds : RelDs L.R H' ds vs) (a : Stt L env S' σ H') (st : Step S H S' H')
    (w : L.G.call f ds S' (Pv L.R S H Q) L.Ex) : wpAny (model X.prog X.w) X.A (PySem.call (.ref (L.R.fa f)) us) (EP X pins σ Q) X.xe s := by
  obtain ⟨hm, hk, fd, k, F1, hr, hb⟩ := g.calls hlow f F hF
  refine run_fn (dvs := []) (ds := []) F1 hr hb .nil g.pas I r ⟨ds, S', by rw [List.append_nil]; exact rds, a.rs, ?_⟩
  exact g.gle.call f ds _ _ _ _ _ _ (DS.le.refl _) (pv_up st) (fun x A B hle ex cls d H'' st' rs xr => ⟨x, A, (a.st.trans st').forget hle, rs.forget hle, xr, ex⟩) w
theorem c_call (g : GoodX X Γ L) (hlow : Γ.low = false) {f : Nat} {F : Fn} (hF : Γ.P.fns[f]? = some F) (h1 : glB Γ F.name = true) (h2 : nmB F.name = true) (h3 : chkCs Γ cs es = true) (ha : PA X es (liftA L cs)) : PE X (.Call (.Name F.name p) es [] pos) (liftC L (.call f cs)) := by
  refine ⟨fun pins s σ H Q I ⟨env, S, a, w⟩ => ?_⟩
  unfold evC at w
  obtain ⟨hm, hk, _⟩ := g.calls hlow f F hF
  obtain ⟨q1, q2⟩ := chkCs_star h3
  refine wpAny_Call_Name_kw (ld_glob I (gl_of g h1) hm ?_ (nm_of h2).1)
  cases es with
  | nil =>
    cases cs with
    | nil =>
      unfold evCs at w
      exact PySem.W.callWith_K0 I.kIn hk (run_call (us := []) (vs := []) (ds := []) g hlow hF I .nil rfl a (Step.refl _ _) w)
    | cons c cs => simp at q2
  | cons e es =>
    rw [List.all_cons, Bool.and_eq_true] at q1
    refine PySem.W.callWith_K (h₀ := X.base) I.ok.mod.kin hk (ha.go g I a w pos fun us s1 vs H1 ds S1 I1 rv a1 st1 rds k => ⟨I1.kIn, ?_⟩) (star_of q1.1 es X.env) (noStars q1.2 pos X.env).1
    exact run_call g hlow hF I1 rv rds a1 st1 k
theorem run_callL (g : GoodX X Γ L) (hlow : Γ.low = true) {f : Nat} {F : Fn} (hF : Γ.P.fns[f]? = some F) {vs : List V} {us : List Value} {ds : List D} (I : Inv X pins σ H' s) (r : Vals vs us) (rds : RelDs L.R H' ds vs) (a : Stt L env S' σ H') (st : Step S H S' H')
    (w : L.G.low f ds S' (Pv L.R S H Q) L.Ex) : wpAny (model X.prog X.w) X.A (PySem.call (.ref (L.R.fa f)) us) (EP X pins σ Q) X.xe s := by
  obtain ⟨k, _, hr, ql⟩ := g.lows
  obtain ⟨hm, hk, fd, F1, hb⟩ := ql f F hF
  rw [if_pos hlow] at hr
  refine run_fn (dvs := []) (ds := []) F1 hr hb .nil g.pas I r ⟨ds, S', by rw [List.append_nil]; exact rds, a.rs, ?_⟩
  exact g.gle.low f ds _ _ _ _ _ _ (DS.le.refl _) (pv_up st) (fun x A B hle ex cls d H'' st' rs xr => ⟨x, A, (a.st.trans st').forget hle, rs.forget hle, xr, ex⟩) w
theorem c_callL (g : GoodX X Γ L) (hlow : Γ.low = true) {f : Nat} {F : Fn} (hF : Γ.P.fns[f]? = some F) (h1 : glB Γ F.name = true) (h2 : nmB F.name = true) (h3 : chkCs Γ cs es = true) (ha : PA X es (liftA L cs)) : PE X (.Call (.Name F.name p) es [] pos) (liftC L (.callL f cs)) := by
  refine ⟨fun pins s σ H Q I ⟨env, S, a, w⟩ => ?_⟩
  unfold evC at w
  obtain ⟨_, _, _, ql⟩ := g.lows
  obtain ⟨hm, hk, _⟩ := ql f F hF
  obtain ⟨q1, q2⟩ := chkCs_star h3
  refine wpAny_Call_Name_kw (ld_glob I (gl_of g h1) hm ?_ (nm_of h2).1)
  cases es with
  | nil =>
    cases cs with
    | nil =>
      unfold evCs at w
      exact PySem.W.callWith_K0 I.kIn hk (run_callL (us := []) (vs := []) (ds := []) g hlow hF I .nil rfl a (Step.refl _ _) w)
    | cons c cs => simp at q2
  | cons e es =>
    rw [List.all_cons, Bool.and_eq_true] at q1
    refine PySem.W.callWith_K (h₀ := X.base) I.ok.mod.kin hk (ha.go g I a w pos fun us s1 vs H1 ds S1 I1 rv a1 st1 rds k => ⟨I1.kIn, ?_⟩) (star_of q1.1 es X.env) (noStars q1.2 pos X.env).1
    exact run_callL g hlow hF I1 rv rds a1 st1 k
/-- a built-in's call -/
theorem blt_call (g : GoodX X Γ L) {b : BI} {e : Expr} {Q2 : Value → Shared → Prop} (I : Inv X pins σ H s) (h1 : glB Γ (biName b : Str) = true) (hs : (e :: es).all noStar = true)
    (h : wpAny (model X.prog X.w) X.A (spliced (backTo pos (starEach (e :: es) X.env))) (fun us s1 => wpAny (model X.prog X.w) X.A (PySem.call (biN b) us) Q2 X.xe s1) X.xe s) :
    wpAny (model X.prog X.w) X.A (eval (.Call (.Name (biName b : Str) p) (e :: es) [] pos) X.env) Q2 X.xe s := by
  rw [List.all_cons, Bool.and_eq_true] at hs
  have q1 := star_of hs.1 es X.env
  have q2 := (noStars hs.2 pos X.env).1
  have hm : X.mg (biName b : Str) = none := by cases b <;> exact blt_of g (by decide)
  refine wpAny_Call_Name_kw ?_
  cases b with
  | len => exact ld_blt I (gl_of g h1) hm (u := .builtin "len") rfl (PyProof.Rows.callWith_builtin1 h q1 q2)
  | abs => exact ld_blt I (gl_of g h1) hm (u := .builtin "abs") rfl (PyProof.Rows.callWith_builtin1 h q1 q2)
  | int => exact ld_blt I (gl_of g h1) hm (u := .type "int") rfl (PyProof.Rows.callWith_type1 h q1 q2)
  | isinst => exact ld_blt I (gl_of g h1) hm (u := .builtin "isinstance") rfl (PyProof.Rows.callWith_builtin1 h q1 q2)
  | tuple => exact ld_blt I (gl_of g h1) hm (u := .type "tuple") rfl (PyProof.Rows.callWith_type1 h q1 q2)
  | list => exact ld_blt I (gl_of g h1) hm (u := .type "list") rfl (PyProof.Rows.callWith_type1 h q1 q2)
  | sum => exact ld_blt I (gl_of g h1) hm (u := .builtin "sum") rfl (PyProof.Rows.callWith_builtin1 h q1 q2)
  | max => exact ld_blt I (gl_of g h1) hm (u := .builtin "max") rfl (PyProof.Rows.callWith_builtin1 h q1 q2)
  | min => exact ld_blt I (gl_of g h1) hm (u := .builtin "min") rfl (PyProof.Rows.callWith_builtin1 h q1 q2)
  | all => exact ld_blt I (gl_of g h1) hm (u := .builtin "all") rfl (PyProof.Rows.callWith_builtin1 h q1 q2)
  | any => exact ld_blt I (gl_of g h1) hm (u := .builtin "any") rfl (PyProof.Rows.callWith_builtin1 h q1 q2)
theorem c_bi (g : GoodX X Γ L) {b : BI} (h1 : glB Γ (biName b : Str) = true) (h2 : es.isEmpty = false) (h3 : chkCs Γ cs es = true) (ha : PA X es (liftA L cs)) : PE X (.Call (.Name (biName b : Str) p) es [] pos) (liftC L (.bi b cs)) := by
  refine ⟨fun pins s σ H Q I ⟨env, S, a, w⟩ => ?_⟩
  unfold evC at w
  obtain ⟨q1, q2⟩ := chkCs_star h3
  cases es with
  | nil => cases h2
  | cons e es => exact blt_call g I h1 q1 (ha.go g I a w pos fun us s1 vs H1 ds S1 I1 rv a1 st1 rds k => bi_ok (a1.at_ g) g.calm I1 rv rds (biW_mono (DS.le.refl _) (pv_up st1) k))
theorem src_need {R : RC} {l : PD.L} {v : V} {ds : List D} {b : BI} (h : (!needL b || !isExL l) = true) (x : srcOf R l S H S' H' v ds) : if needL b = true then SrcL R H' v ds else SrcA R H' v ds := by
  have f : SrcF R S H S' H' v ds → SrcL R H' v ds := fun ⟨p, vs, e, _, _, h3, h4⟩ => ⟨p, vs, e, SqL.of h3, h4⟩
  cases l with
  | ex c =>
    have e : needL b = false := by
      cases q : needL b with
      | false => rfl
      | true => rw [q] at h; exact absurd h Bool.false_ne_true
    rw [e, if_neg Bool.false_ne_true]
    exact x
  | exl c => split; exact x; exact SrcL.a x
  | lst c => split; exact f x; exact (f x).a
  | lc c tg w t => split; exact f x; exact (f x).a
theorem c_biL (g : GoodX X Γ L) {b : BI} {l : PD.L} (h1 : glB Γ (biName b : Str) = true) (h2 : noStar ea = true) (h3 : (!needL b || !isExL l) = true) (ha : PE X ea (liftL L l)) : PE X (.Call (.Name (biName b : Str) p) [ea] [] pos) (liftC L (.biL b l)) := by
  refine ⟨fun pins s σ H Q I ⟨env, S, a, w⟩ => ?_⟩
  unfold evC at w
  refine blt_call g I h1 (by rw [List.all_cons, h2]; rfl) ?_
  rw [star_of h2]
  refine Calls.spliced_cons (ha.goL g I a w fun u s1 v H1 ds S1 I1 rv a1 st1 src k => Calls.spliced_nil ?_)
  exact biL_ok (a1.at_ g) g.calm I1 rv (src_need h3 src) (biL_mono (DS.le.refl _) (pv_up st1) k)

/-! ### subscripts -/
theorem plainI_of {e : Expr} (h : plainI e = true) : PlainIx e := by
  cases e <;> first | (intro o i; rfl) | cases h
def rIx (R : RC) : R2 := fun x y H Q => ∃ d e S, RelD R H d x ∧ RelD R H e y ∧ RelS R H S ∧ ixW d e S (Pv R S H Q)
theorem ix_r (g : GoodX X Γ L) : IxR X (rIx L.R) := by
  intro value slice pins s σ H x y v u Q I rx ry h hs
  obtain ⟨d, e, S, rd, re, rs, w⟩ := h
  exact ix_ok ⟨g.K, rs⟩ I rx ry rd re w hs
theorem c_ix (g : GoodX X Γ L) (ha : PE X ea (liftC L ca)) (hb : PE X eb (liftC L cb)) (hp : plainI eb = true) : PE X (.Subscript ea eb pos) (liftC L (.ix ca cb)) :=
  (pe_ix (ix_r g) ha hb (plainI_of hp)).to fun σ H Q env S a w => by
    unfold evC at w
    refine lift_of g a w fun d v H1 S1 a1 st1 rd w1 => lift_of g a1 w1 fun e u H2 S2 a2 st2 re w2 => ?_
    exact ⟨d, e, S2, RelD.mono (st2.tmono a1.rs) _ _ rd, re, a2.rs, ixW_mono (DS.le.refl _) (pv_up (st1.trans st2)) w2⟩
theorem c_sl (g : GoodX X Γ L) {lo hi : Option Expr} {cl ch : Option C} (ha : PE X ea (liftC L ca)) (hl : PO X lo (liftO L cl)) (hh : PO X hi (liftO L ch)) : PE X (.Subscript ea (.Slice lo hi none p) pos) (liftC L (.sl ca cl ch)) :=
  (pe_slice (sl_okD g.K) ha hl hh).to fun σ H Q env S a w => by
    unfold evC at w
    refine lift_of g a w fun d v H1 S1 a1 st1 rd w1 => liftO_of g a1 w1 fun o1 H2 S2 a2 st2 w2 => liftO_of g a2 w2 fun o2 H3 S3 a3 st3 w3 => ?_
    exact ⟨d, S3, RelD.mono ((st2.trans st3).tmono a1.rs) _ _ rd, a3.rs, slW_mono (DS.le.refl _) (pv_up ((st1.trans st2).trans st3)) w3⟩

/-! ### methods -/
theorem attr_of' {e : Expr} (h : attrB e = true) (f : Str) (env : PySem.Env) : attributeBase e f env (eval e env) = eval e env := by
  cases e <;> first | rfl | cases h
def rMt (R : RC) (m : MT) : V → List V → Hp → VK → Prop := fun x xs H Q => ∃ d ds S, RelD R H d x ∧ RelDs R H ds xs ∧ RelS R H S ∧ mthW m d ds S (Pv R S H Q)
theorem mt_r (g : GoodX X Γ L) {m : MT} (hm : m ≠ .setdefault) : MtR X (mtId m) (rMt L.R m) := by
  intro pins s σ H x xs v us Q I rx rs h
  obtain ⟨d, ds, S, rd, rds, rS, w⟩ := h
  exact mth_ok ⟨g.K, rS⟩ I rx rs rd rds hm w
theorem kind_ty (a : At L.R X H S) {m : MT} (hm : m ≠ .setdefault) {d : D} {v : V} (rd : RelD L.R H d v) (k : kindW m d S) : tyV X.K "list" v H := by
  unfold kindW at k
  cases d with
  | ref b =>
    obtain rfl := rd
    dsimp only at k
    have f : ∀ xs, S b = some (.lst xs) → tyV X.K "list" (.ref b) H := fun xs e => by
      obtain ⟨vs, h, _⟩ := a.rs.o _ _ e
      exact .inl ⟨rfl, vs, SqL.of h⟩
    split at k <;> first | exact absurd rfl hm | exact f _ (by assumption) | exact k.elim
  | _ => exact k.elim
theorem few_of : ∀ {es : List Expr}, es.all noStar = true → es.length < 3 → ∀ (pos : Pos) (env : PySem.Env),
    ((backTo pos (starEach es env)).all (fun x => !x.1) && (backToKw pos (keywordEach [] env)).all (fun x => x.1.isSome) && decide (es.length + ([] : List Keyword).length + (if ([] : List Keyword).isEmpty then 0 else 1) < 30)) = true := by
  intro es h hl pos env
  rw [(noStars h pos env).2]
  show (true && true && decide (es.length + 0 + 0 < 30)) = true
  rw [decide_eq_true (by omega)]
  rfl
theorem c_mth (g : GoodX X Γ L) {m : MT} {a : Str} {ap : Pos} (h1 : (mtName m : Str) = a) (h2 : attrB ea = true) (hm : m ≠ .setdefault) (hl : (ap.endLine == pos.line) = true) (hn : es.length < 3) (h3 : chkCs Γ cs es = true) (ho : PE X ea (liftC L ca)) (ha : PA X es (liftA L cs)) :
    PE X (.Call (.Attribute ea a ap) es [] pos) (liftC L (.mth m ca cs)) := by
  subst h1
  obtain ⟨q1, q2⟩ := chkCs_star h3
  have sl : Slot "list" (mtName m : Str) (mtId m) ∧ typeOf (.builtin (mtId m)) = pure (.type "method_descriptor") := by
    cases m with
    | append => exact ⟨F.slot_list_append, F.type_list_append⟩
    | pop => exact ⟨F.slot_list_pop, F.type_list_pop⟩
    | extend => exact ⟨F.slot_list_extend, F.type_list_extend⟩
    | setdefault => exact absurd rfl hm
  cases es with
  | nil =>
    cases cs with
    | cons c cs => simp at q2
    | nil =>
      refine (pe_bm0 F.plainAttrs_list sl.1 sl.2 (mt_r g hm) ho (attr_of' h2 _ _) hl).to fun σ H Q env S a w => ?_
      unfold evC at w
      refine lift_of g a w fun d v H1 S1 a1 st1 rd w1 => ⟨kind_ty (a1.at_ g) hm rd w1.1, d, [], S1, rd, rfl, a1.rs, ?_⟩
      have w2 := w1.2
      unfold evCs at w2
      exact mthW_mono (DS.le.refl _) (pv_up st1) w2
  | cons e es =>
    have q := q1
    rw [List.all_cons, Bool.and_eq_true] at q
    refine (pe_bm F.plainAttrs_list sl.1 sl.2 (mt_r g hm) ho ha (attr_of' h2 _ _) (few_of q1 hn _ _) hl (star_of q.1 es _) (noStars q.2 _ _).1).to fun σ H Q env S a w => ?_
    unfold evC at w
    refine lift_of g a w fun d v H1 S1 a1 st1 rd w1 => ⟨kind_ty (a1.at_ g) hm rd w1.1, liftA_of g a1 w1.2 fun ds vs H2 S2 a2 st2 rds w2 => ?_⟩
    exact ⟨d, ds, S2, RelD.mono (st2.tmono a1.rs) _ _ rd, rds, a2.rs, mthW_mono (DS.le.refl _) (pv_up (st1.trans st2)) w2⟩
/-- d.setdefault(k, v) -/
theorem c_setd (g : GoodX X Γ L) {ap : Pos} (h2 : attrB ea = true) (hl : (ap.endLine == pos.line) = true) (hn : es.length = 2) (h3 : chkCs Γ cs es = true) (ho : PE X ea (liftC L ca)) (ha : PA X es (liftA L cs)) :
    PE X (.Call (.Attribute ea "setdefault" ap) es [] pos) (liftC L (.mth .setdefault ca cs)) := by
  obtain ⟨q1, q2⟩ := chkCs_star h3
  refine ⟨fun pins s σ H Q I ⟨env, S, a, w⟩ => ?_⟩
  unfold evC at w
  refine wpAny_Call_method (attr_of' h2 _ _) (few_of q1 (by omega) _ _) hl PySem.F.plainAttrs_dict PySem.F.slot_dict_setdefault PySem.F.type_dict_setdefault (ho.go g I a w fun u s1 x H1 d S1 I1 rx a1 st1 rd k => ?_)
  obtain ⟨kd, k⟩ := k
  obtain ⟨p, kvs, rfl, hp⟩ : ∃ p kvs, d = .ref p ∧ S1 p = some (.dk kvs) := by
    unfold kindW at kd
    cases d with
    | ref p =>
      dsimp only at kd
      cases q : S1 p with
      | none => rw [q] at kd; exact kd.elim
      | some o =>
        cases o with
        | dk kvs => exact ⟨p, kvs, rfl, q⟩
        | lst ds => rw [q] at kd; exact kd.elim
    | _ => exact kd.elim
  obtain rfl := rd
  cases rx
  obtain ⟨qs, hH, _⟩ := a1.rs.o _ _ hp
  obtain ⟨t1, t2, _⟩ := isD_at I1 (.inl ⟨qs, .inl hH⟩)
  refine ⟨t1, t2, ?_⟩
  have plain := (noStars q1 pos X.env).1
  suffices hA : wpAny (model X.prog X.w) X.A (spliced (backTo pos (starEach es X.env))) (fun us s2 => wpAny (model X.prog X.w) X.A (PySem.call (.builtin "dict.setdefault") (.ref p :: us)) (EP X pins σ Q) X.xe s2) X.xe s1 by
    cases es with
    | nil => simp at hn
    | cons e es' =>
      rw [List.all_cons, Bool.and_eq_true] at q1
      rw [star_of q1.1] at hA plain ⊢
      exact Calls.callWith_builtin plain (Calls.evalArgs_plain hA)
  refine ha.go g I1 a1 k pos fun us s2 vs H2 ds S2 I2 rv a2 st2 rds k2 => ?_
  unfold mthW at k2
  dsimp only at k2
  cases q : S2 p with
  | none => rw [q] at k2; exact k2.elim
  | some o =>
    rw [q] at k2
    cases o with
    | lst xs =>
      unfold lstM at k2
      exact k2.elim
    | dk kvs2 =>
      unfold dkM at k2
      dsimp only at k2
      split at k2
      · rename_i kd vd _ _
        obtain ⟨kv, vv, rfl, rk, rvv⟩ := rds.two
        split at k2
        · rename_i key ek
          obtain ⟨rfl, okk⟩ := keyOf_v rk ek
          obtain ⟨qs2, h2', r2⟩ := a2.rs.o _ _ q
          obtain ⟨i1, i2⟩ := getK_val key r2
          cases rv with
          | cons r1 rr =>
            cases rr with
            | cons r3 rr =>
              cases rr
              refine d_setd I2 h2' r1 r3 (by rw [r2.length, lim_eq]; exact k2.1) (fun v hv w' s' I' rw' => ?_) (fun hv w' s' I' rw' => ?_)
              · have k3 := k2.2
                split at k3
                · rename_i dd ed
                  obtain ⟨z, e4, q4⟩ := i1 dd ed
                  rw [hv] at e4
                  cases e4
                  exact ⟨_, _, I', rw', a2.fin (st1.trans st2) k3 q4⟩
                · rename_i ed
                  rw [i2 ed] at hv
                  cases hv
              · have k3 := k2.2
                split at k3
                · rename_i dd ed
                  obtain ⟨z, e4, q4⟩ := i1 dd ed
                  rw [hv] at e4
                  cases e4
                · rw [L2.putK_new vv hv] at I'
                  refine ⟨_, _, I', rw', k3 _ _ ((st1.trans st2).trans (Step.write q)) (RelD.mono (tmono_write a2.rs q) _ _ rvv) (a2.rs.write q ⟨_, upd_same, RelKV.snoc okk (RelD.mono (tmono_write a2.rs q) _ _ rvv) (RelKV.mono (tmono_write a2.rs q) _ _ r2)⟩)⟩
        · exact k2.elim
      · exact k2.elim
def rExt (R : RC) : V → List V → Hp → VK → Prop := fun x xs H Q => ∃ d y ds S, xs = [y] ∧ RelD R H d x ∧ SrcL R H y ds ∧ RelS R H S ∧ extW d ds S (Pv R S H Q)
theorem ext_r (g : GoodX X Γ L) : MtR X "list.extend" (rExt L.R) := by
  intro pins s σ H x xs v us Q I rx rs h
  obtain ⟨d, y, ds, S, rfl, rd, src, rS, w⟩ := h
  obtain ⟨u, rfl, ry⟩ := vals1 rs
  exact ext_ok ⟨g.K, rS⟩ I rx ry rd src w
theorem src_l {R : RC} {l : PD.L} {v : V} {ds : List D} (h : isExL l = false) (x : srcOf R l S H S' H' v ds) : SrcL R H' v ds := by
  have z := src_need (b := .sum) (by rw [h]; rfl) x
  exact z
theorem c_ext (g : GoodX X Γ L) {l : PD.L} {ap : Pos} (h2 : attrB ea = true) (hl : (ap.endLine == pos.line) = true) (hs : noStar eb = true) (hx : isExL l = false) (ho : PE X ea (liftC L ca)) (ha : PE X eb (liftL L l)) :
    PE X (.Call (.Attribute ea "extend" ap) [eb] [] pos) (liftC L (.ext ca l)) := by
  have pa : PA X [eb] (tCons (liftL L l) tNil) := pa_cons ha pa_nil (star_of hs [] _)
  refine (pe_bm F.plainAttrs_list F.slot_list_extend F.type_list_extend (ext_r g) ho pa (attr_of' h2 _ _) (few_of (by rw [List.all_cons, hs]; rfl) (by show 1 < 3; decide) _ _) hl (star_of hs [] _) rfl).to fun σ H Q env S a w => ?_
  unfold evC at w
  refine lift_of g a w fun d v H1 S1 a1 st1 rd w1 => ⟨kind_ty (m := .extend) (a1.at_ g) (by decide) rd w1.1, liftL_of g a1 w1.2 fun ds y H2 S2 a2 st2 src w2 => ?_⟩
  exact ⟨d, y, ds, S2, rfl, RelD.mono (st2.tmono a1.rs) _ _ rd, src_l hx src, a2.rs, extW_mono (DS.le.refl _) (pv_up (st1.trans st2)) w2⟩

/-! ### new objects; lists that are read -/
theorem c_dct0 (g : GoodX X Γ L) : PE X (.Dict [] [] pos) (liftC L .dct0) :=
  pe_dnewK.to fun σ H Q env S a w p n => by
    unfold evC at w
    exact w p (a.rs.nul n) _ _ (Step.new n) rfl (a.rs.new n ⟨[], upd_same, rfl⟩)
theorem RelS.put {R : RC} (rs : RelS R H S) {p : Addr} {ds : List D} {vs : List V} (e : H p = some (.lst vs)) (r : RelDs R H ds vs) : RelS R H (S.put p (.lst ds)) := ⟨fun a o q => by
  by_cases z : a = p
  · subst z
    rw [DS.put_same] at q
    cases q
    exact ⟨vs, e, r⟩
  · rw [DS.put_ne z] at q
    exact rs.o a o q, rs.t⟩
theorem Step.put {p : Addr} {o : SO} (st : Step S H S' H') (n : Fre S H p) : Step S H (S'.put p o) H' := ⟨st.fr, fun a u q => by
  by_cases z : a = p
  · subst z; exact n
  · rw [DS.put_ne z] at q; exact st.gr a u q⟩
theorem src_f {R : RC} {l : PD.L} {v : V} {ds : List D} (h : freshL l = true) (x : srcOf R l S H S' H' v ds) : SrcF R S H S' H' v ds := by
  cases l with
  | ex _ => cases h
  | exl _ => cases h
  | lst _ => exact x
  | lc _ _ _ _ => exact x
theorem c_mk (g : GoodX X Γ L) {l : PD.L} (h : freshL l = true) (ha : PE X ea (liftL L l)) : PE X ea (liftC L (.mk l)) :=
  ha.to fun σ H Q env S a w => by
    unfold evC at w
    refine liftL_of g a w fun ds v H1 S1 a1 st1 src k => ?_
    obtain ⟨p, vs, rfl, n0, n1, e, r⟩ := src_f h src
    exact k p n1 _ _ (st1.put n0) rfl (a1.rs.put e r)
theorem l_ex (g : GoodX X Γ L) (ha : PE X ea (liftC L ca)) : PE X ea (liftL L (.ex ca)) :=
  ⟨fun pins s σ H Q I ⟨env, S, a, w⟩ => ha.run pins s σ H Q I (by
    unfold evL at w
    refine lift_of g a w fun d v H1 S1 a1 st1 rd k => ?_
    split at k
    · rename_i ds e
      refine k v H1 st1 a1.rs ?_
      show SrcA L.R H1 v ds
      cases d with
      | tup xs =>
        cases e
        obtain ⟨q, vs, rfl, h1, h2⟩ := rd
        exact ⟨q, vs, rfl, .inr h1, h2⟩
      | lis xs =>
        cases e
        obtain ⟨q, vs, rfl, h1, h2⟩ := rd
        exact ⟨q, vs, rfl, .inl h1.l, h2⟩
      | ref q =>
        obtain rfl := rd
        unfold DS.lst? at e
        dsimp only at e
        have e' : S1 q = some (.lst ds) := by
          cases z : S1 q with
          | none => rw [z] at e; cases e
          | some o => rw [z] at e; cases o <;> cases e <;> rfl
        obtain ⟨vs, h1, h2⟩ := (a1.at_ g).list e'
        exact ⟨q, vs, rfl, .inl (by rw [← g.K]; exact h1), h2⟩
      | _ => cases e
    · exact k.elim)⟩
theorem l_exl (g : GoodX X Γ L) (ha : PE X ea (liftC L ca)) : PE X ea (liftL L (.exl ca)) :=
  ⟨fun pins s σ H Q I ⟨env, S, a, w⟩ => ha.run pins s σ H Q I (by
    unfold evL at w
    refine lift_of g a w fun d v H1 S1 a1 st1 rd k => ?_
    split at k
    · rename_i ds e
      refine k v H1 st1 a1.rs ?_
      show SrcL L.R H1 v ds
      cases d with
      | lis xs =>
        cases e
        obtain ⟨q, vs, rfl, h1, h2⟩ := rd
        exact ⟨q, vs, rfl, h1.l, h2⟩
      | ref q =>
        obtain rfl := rd
        unfold DS.lsl? at e
        dsimp only at e
        have e' : S1 q = some (.lst ds) := by
          cases z : S1 q with
          | none => rw [z] at e; cases e
          | some o => rw [z] at e; cases o <;> cases e <;> rfl
        obtain ⟨vs, h1, h2⟩ := (a1.at_ g).list e'
        exact ⟨q, vs, rfl, (by rw [← g.K]; exact h1), h2⟩
      | _ => cases e
    · exact k.elim)⟩
end
end PD
end
section
set_option Elab.async false
set_option linter.all false
set_option maxRecDepth 100000
set_option maxHeartbeats 1000000
/-! PyD, part K: targets; what is walked. -/
namespace PD
open PySem PySem.Spec PyProof.Rows L2

section
variable {L : LC} {X : Cx} {Γ : Ck} {H H' : Hp} {S S' S2 : DS} {env : Env} {σ σ' σ2 : L2.St} {pins : List (Addr × Obj)} {s : Shared} {Q : VK}
variable {ea eb ec : Expr} {ca cb cc : C} {pos p : Pos} {es : List Expr} {cs : List C}

/-! ### targets -/
theorem SameBut.refl {vs : List Nat} : SameBut σ σ vs := ⟨rfl, fun _ _ => rfl⟩
theorem SameBut.trans {vs ws : List Nat} (a : SameBut σ σ' vs) (b : SameBut σ' σ2 ws) : SameBut σ σ2 (vs ++ ws) := ⟨a.1.trans b.1, fun j h => by
  rw [List.mem_append, not_or] at h
  exact (a.2 j h.1).trans (b.2 j h.2)⟩
theorem SameBut.set (i : Nat) (v : Option V) : SameBut σ (σ.set i v) [i] := ⟨by rw [List.length_set], fun j h => by
  have : i ≠ j := fun e => h (by rw [e]; exact List.mem_singleton.mpr rfl)
  rw [List.getElem?_set_ne this]⟩
theorem wipe_get : ∀ (vs : List Nat) (σ : L2.St) (j : Nat), (wipe σ vs)[j]? = if j ∈ vs ∧ j < σ.length then some none else σ[j]?
  | [], σ, j => by
    rw [if_neg (by simp)]
    rfl
  | v :: vs, σ, j => by
    show ((wipe σ vs).set v none)[j]? = _
    by_cases e : v = j
    · subst e
      by_cases hl : v < σ.length
      · rw [if_pos ⟨List.mem_cons_self .., hl⟩, List.getElem?_set_self (by rw [wipe_length]; exact hl)]
      · rw [if_neg (fun h => hl h.2), List.getElem?_eq_none (by rw [List.length_set, wipe_length]; omega), List.getElem?_eq_none (by omega)]
    · rw [List.getElem?_set_ne e, wipe_get vs σ j]
      have : (j ∈ v :: vs ∧ j < σ.length) ↔ (j ∈ vs ∧ j < σ.length) := by
        constructor
        · rintro ⟨h1, h2⟩
          rcases List.mem_cons.mp h1 with h | h
          · exact absurd h.symm e
          · exact ⟨h, h2⟩
        · rintro ⟨h1, h2⟩
          exact ⟨List.mem_cons_of_mem _ h1, h2⟩
      by_cases q : j ∈ vs ∧ j < σ.length
      · rw [if_pos q, if_pos (this.mpr q)]
      · rw [if_neg q, if_neg (fun z => q (this.mp z))]
theorem SameBut.wipe {vs : List Nat} (h : SameBut σ σ' vs) : wipe σ' vs = wipe σ vs := by
  refine List.ext_getElem? fun j => ?_
  rw [wipe_get, wipe_get, ← h.1]
  by_cases q : j ∈ vs
  · by_cases l : j < σ.length
    · rw [if_pos ⟨q, l⟩, if_pos ⟨q, l⟩]
    · rw [if_neg (fun z => l z.2), if_neg (fun z => l z.2), List.getElem?_eq_none (by have := h.1; omega), List.getElem?_eq_none (by omega)]
  · rw [if_neg (fun z => q z.1), if_neg (fun z => q z.1), h.2 j q]
theorem wipeE_get : ∀ (vs : List Nat) (env : Env) (j : Nat) (d : D), (wipeE env vs)[j]? = some (some d) → env[j]? = some (some d) ∧ j ∉ vs
  | [], env, j, d, h => ⟨h, by simp⟩
  | v :: vs, env, j, d, h => by
    have h : ((wipeE env vs).set v none)[j]? = some (some d) := h
    by_cases e : v = j
    · subst e
      by_cases hl : v < (wipeE env vs).length
      · rw [List.getElem?_set_self hl] at h; cases h
      · rw [List.getElem?_eq_none (by rw [List.length_set]; omega)] at h; cases h
    · rw [List.getElem?_set_ne e] at h
      obtain ⟨h1, h2⟩ := wipeE_get vs env j d h
      exact ⟨h1, by simp only [List.mem_cons, not_or]; exact ⟨fun z => e z.symm, h2⟩⟩
theorem wipeE_length : ∀ (vs : List Nat) (env : Env), (wipeE env vs).length = env.length
  | [], _ => rfl
  | v :: vs, env => by
    show ((wipeE env vs).set v none).length = _
    rw [List.length_set, wipeE_length vs env]
theorem RelE.wipe {R : RC} (h : RelE R H env σ) (vs : List Nat) : RelE R H (wipeE env vs) (wipe σ vs) := ⟨by rw [wipe_length, wipeE_length]; exact h.1, fun j d e => by
  obtain ⟨h1, h2⟩ := wipeE_get vs env j d e
  obtain ⟨v, q, r⟩ := h.2 j d h1
  exact ⟨v, by rw [wipe_get, if_neg (fun z => h2 z.1)]; exact q, r⟩⟩
theorem RelE.set {R : RC} (h : RelE R H env σ) {d : D} {v : V} (r : RelD R H d v) (i : Nat) : RelE R H (env.set i (some d)) (σ.set i (some v)) := ⟨by rw [List.length_set, List.length_set]; exact h.1, fun j d' e => by
  by_cases q : i = j
  · subst q
    by_cases hl : i < env.length
    · rw [List.getElem?_set_self hl] at e
      cases e
      exact ⟨v, by rw [List.getElem?_set_self (by have := h.1; omega)], r⟩
    · rw [List.getElem?_eq_none (by rw [List.length_set]; omega)] at e; cases e
  · rw [List.getElem?_set_ne q] at e
    obtain ⟨w, q1, q2⟩ := h.2 j d' e
    exact ⟨w, by rw [List.getElem?_set_ne q]; exact q1, q2⟩⟩
theorem _root_.L2.PG.to {e : Expr} {t : TG} {tg : Tg} (h : PG X e t) (k : ∀ v σ H Q, liftG L tg v σ H Q → t v σ H Q) : PG X e (liftG L tg) :=
  ⟨fun pins s σ H v u Q I r hw => h.run pins s σ H v u Q I r (k v σ H Q hw)⟩
theorem g_name (g : GoodX X Γ L) {i : Nat} {x : Str} (h1 : Γ.N[i]? = some x) (h2 : locB Γ x = true) : PG X (.Name x pos) (liftG L (.name i)) :=
  (pg_name g.nd (by rw [g.N]; exact h1) (loc_of g h2).1 (loc_of g h2).2).to fun v σ H Q ⟨env, S, d, a, rd, w⟩ =>
    w _ H (Step.refl _ _) a.rs (a.re.set rd i) (SameBut.set i _)
theorem chkGs_star : ∀ {ts : List Tg} {es : List Expr}, chkGs Γ ts es = true → es.all noStar = true ∧ es.length = ts.length
  | [], es, h => by
    unfold chkGs at h
    rw [List.isEmpty_iff.mp h]
    exact ⟨rfl, rfl⟩
  | t :: ts, es, h => by
    unfold chkGs at h
    cases es with
    | nil => cases h
    | cons e es =>
      simp only [Bool.and_eq_true] at h
      obtain ⟨h1, h2⟩ := chkGs_star h.2
      exact ⟨by rw [List.all_cons, h.1.1, h1]; rfl, by rw [List.length_cons, List.length_cons, h2]⟩
theorem starG {e : Expr} (h : noStar e = true) (es : List Expr) (env : PySem.Env) : assignEach (e :: es) env = (false, assign e env) :: assignEach es env := by
  cases e <;> first | rfl | cases h
theorem starGs : ∀ {es : List Expr}, es.all noStar = true → ∀ (env : PySem.Env), (assignEach es env).length = es.length ∧ (assignEach es env).findIdx? (·.1) = none
  | [], _, _ => ⟨rfl, rfl⟩
  | e :: es, h, env => by
    rw [List.all_cons, Bool.and_eq_true] at h
    obtain ⟨h1, h2⟩ := starGs h.2 env
    rw [starG h.1]
    exact ⟨by rw [List.length_cons, h1, List.length_cons], by rw [List.findIdx?_cons, h2]; rfl⟩
theorem gs_nil (g : GoodX X Γ L) : PGs X [] (liftGs L []) := ⟨fun pins s σ H vs us Q I r ⟨env, S, ds, a, rd, hl, w⟩ => pgs_nil.run pins s σ H vs us Q I r (by
  cases ds with
  | cons d ds => simp at hl
  | nil =>
    unfold tgsW at w
    exact ⟨rd, w σ H (Step.refl _ _) a.rs a.re SameBut.refl⟩)⟩
theorem gs_cons (g : GoodX X Γ L) {t : Tg} {ts : List Tg} (hs : noStar ea = true) (h1 : PG X ea (liftG L t)) (h2 : PGs X es (liftGs L ts)) : PGs X (ea :: es) (liftGs L (t :: ts)) :=
  ⟨fun pins s σ H vs us Q I r ⟨env, S, ds, a, rd, hl, w⟩ => (pgs_cons h1 h2 (by rw [starG hs]; rfl)).run pins s σ H vs us Q I r (by
    cases ds with
    | nil => simp at hl
    | cons d ds =>
      obtain ⟨v, ws, rfl, r1, r2⟩ := rd
      unfold tgsW at w
      refine ⟨v, ws, rfl, env, S, d, a, r1, tgW_mono g.gle t g.upE (DS.le.refl _) (fun env1 A B hle k σ1 H1 st rs re sb => ?_) w⟩
      have st' := st.forget hle
      refine ⟨env1, A, ds, ⟨re, rs.forget hle, a.st.trans st'⟩, RelDs.mono (st'.tmono a.rs) _ _ r2, by simpa using hl, tgsW_mono g.gle ts g.upE (DS.le.refl _) (fun env2 C D hle2 k2 σ2 H2 st2 rs2 re2 sb2 => ?_) k⟩
      exact k2 σ2 H2 ((st'.trans st2).forget hle2) (rs2.forget hle2) re2 (sb.trans sb2))⟩
theorem g_tup (g : GoodX X Γ L) {ts : List Tg} {k : Nat} (h1 : chkGs Γ ts es = true) (h2 : PGs X es (liftGs L ts)) : PG X (.Tuple es k pos) (liftG L (.tup ts)) := by
  obtain ⟨q1, q2⟩ := chkGs_star h1
  refine (pg_tup g.calm h2 (starGs q1 X.env).1 (starGs q1 X.env).2).to fun v σ H Q ⟨env, S, d, a, rd, w⟩ => ?_
  unfold tgW at w
  split at w
  · rename_i ds
    obtain ⟨b, vs, rfl, h3, h4⟩ := rd
    exact ⟨b, vs, rfl, by rw [g.K]; exact h3, by rw [h4.length, w.1, q2], env, S, ds, a, h4, w.1, w.2⟩
  · exact w.elim
def rSet (R : RC) : TSet := fun x y z H Q => ∃ d e f S, RelD R H d x ∧ RelD R H e y ∧ RelD R H f z ∧ RelS R H S ∧ setW d e f S fun S' => ∀ H', Step S H S' H' → RelS R H' S' → Q H'
theorem set_r (g : GoodX X Γ L) : PSet X (rSet L.R) := by
  intro pins s σ H o i v ov iv u Q I r1 r2 r3 h
  obtain ⟨d, e, f, S, rd, re, rf, rs, w⟩ := h
  exact set_ok ⟨g.K, rs⟩ I r1 r2 r3 rd re rf w
theorem g_sub (g : GoodX X Γ L) (ha : PE X ea (liftC L ca)) (hb : PE X eb (liftC L cb)) (hp : plainI eb = true) : PG X (.Subscript ea eb pos) (liftG L (.sub ca cb)) := by
  refine (pg_sub ha hb (set_r g) (by intro v; cases eb <;> first | rfl | cases hp)).to fun v σ H Q ⟨env, S, d, a, rd, w⟩ => ?_
  unfold tgW at w
  refine lift_of g a w fun x xv H1 S1 a1 st1 rx w1 => lift_of g a1 w1 fun y yv H2 S2 a2 st2 ry w2 => ?_
  refine ⟨x, y, d, S2, RelD.mono (st2.tmono a1.rs) _ _ rx, ry, RelD.mono ((st1.trans st2).tmono a.rs) _ _ rd, a2.rs, setW_mono (DS.le.refl _) (fun A B hle k H3 st3 rs3 => ?_) w2⟩
  have st := (((st1.trans st2).trans st3).forget hle)
  exact k σ H3 st (rs3.forget hle) (a.re.mono (st.tmono a.rs)) SameBut.refl

/-! ### walks -/
variable {tg : Expr} {Rr : It → Hp → Prop}
theorem it_list {a : Addr} {xs : List V} (I : Inv X pins σ H s) (hq : SqL X.K H a xs) (q : Rr (Itl X.K a) H) : wpAny (model X.prog X.w) X.A (pyIter (.ref a)) (PIE X pins σ tg Rr) X.xe s := by
  obtain ⟨its, rv, p, hz⟩ := I.list hq
  exact wpAny_pyIter_list p.isList (pi_one (tk := s.toks) I _ (turn_list a _) ⟨_, Heap.get?_push_size _ rfl, rfl, rfl⟩ q)
theorem it_tup {a : Addr} {xs : List V} (I : Inv X pins σ H s) (hq : SqT X.K H a xs) (q : Rr (Itt X.K a) H) : wpAny (model X.prog X.w) X.A (pyIter (.ref a)) (PIE X pins σ tg Rr) X.xe s := by
  obtain ⟨its, rv, p, hz⟩ := I.tuple hq
  exact wpAny_pyIter_tuple (show s.heap.IsTuple a its.toArray from p) (pi_one (tk := s.toks) I _ (turn_tuple a _) ⟨_, Heap.get?_push_size _ rfl, rfl, rfl⟩ q)
theorem it_str {x : Str} {u : Value} (I : Inv X pins σ H s) (r : RelV (.str x) u) (q : Rr (Its x) H) : wpAny (model X.prog X.w) X.A (pyIter u) (PIE X pins σ tg Rr) X.xe s := by
  obtain ⟨t, rfl⟩ := r
  cases ha : x.cps.all (· < 128)
  · exact wpAny_pyIter_wide ha (pi_one (tk := s.toks) I _ (turn_str _ x t "str_iterator" (.inr rfl)) ⟨_, Heap.get?_push_size _ rfl, rfl, rfl⟩ q)
  · exact wpAny_pyIter_ascii ha (pi_one (tk := s.toks) I _ (turn_str _ x t "str_ascii_iterator" (.inl rfl)) ⟨_, Heap.get?_push_size _ rfl, rfl, rfl⟩ q)
variable {R : RC} {ds : List D} {gd : Gd}
theorem RelDs.get' {vs : List V} {i : Nat} {d : D} (h : RelDs R H ds vs) (e : ds[i]? = some d) : ∃ v, vs[i]? = some v ∧ RelD R H d v := h.get e
/-- over a list that the store tells of -/
theorem walks_list {a : Addr} (h : ∀ S' H', Step S H S' H' → RelS R H' S' → gd.ok S' → ∃ vs, SqL R.K H' a vs ∧ RelDs R H' ds vs) : Walks R S H (Itl R.K a) ds gd := fun S' H' st rs ok => by
  obtain ⟨vs, hq, hr⟩ := h S' H' st rs ok
  refine ⟨fun i d e => ?_, vs, hq, Nat.le_of_eq hr.length⟩
  obtain ⟨v, hv, rv⟩ := hr.get e
  refine ⟨⟨vs, v, hq, hv⟩, fun x H2 y => ?_⟩
  obtain ⟨rfl, y⟩ := y
  have := y vs hq
  rw [hv] at this
  cases this
  exact ⟨Step.refl _ _, rs, rv⟩
theorem walks_tup {a : Addr} {vs : List V} (rs0 : RelS R H S) (hq : SqT R.K H a vs) (hr : RelDs R H ds vs) : Walks R S H (Itt R.K a) ds [] := fun S' H' st rs ok => by
  have hq := (st.tmono rs0).1 _ _ hq
  have hr := RelDs.mono (st.tmono rs0) _ _ hr
  refine ⟨fun i d e => ?_, vs, hq, Nat.le_of_eq hr.length⟩
  obtain ⟨v, hv, rv⟩ := hr.get e
  refine ⟨⟨vs, v, hq, hv⟩, fun x H2 y => ?_⟩
  obtain ⟨rfl, y⟩ := y
  have := y vs hq
  rw [hv] at this
  cases this
  exact ⟨Step.refl _ _, rs, rv⟩
theorem walks_str {x : List Nat} (o : okS x) : Walks R S H (Its ⟨x.toArray⟩) (x.map fun c => .str [c]) [] := fun S' H' st rs ok => by
  refine ⟨fun i d e => ?_, by show x.toArray.size ≤ _; simp⟩
  rw [List.getElem?_map] at e
  cases q : x[i]? with
  | none => rw [q] at e; cases e
  | some c =>
    rw [q] at e
    cases e
    have hi := (List.getElem?_eq_some_iff.mp q).1
    refine ⟨by show i < x.toArray.size; simpa using hi, fun v H2 y => ?_⟩
    obtain ⟨rfl, c', hc, rfl⟩ := y
    have hc : x[i]? = some c' := by simpa using hc
    rw [q] at hc
    cases hc
    refine ⟨Step.refl _ _, rs, rfl, by show 1 ≤ lim; decide, fun z hz => ?_⟩
    rw [List.mem_singleton.mp hz]
    exact o.2 c (List.mem_of_getElem? q)
theorem walks_range {lo hi : Int} : Walks R S H (Itr lo (hi - lo).toNat) (rangeD lo hi) [] := fun S' H' st rs ok => by
  have hl : (rangeD lo hi).length = (hi - lo).toNat := by unfold rangeD; simp
  refine ⟨fun i d e => ?_, by show _ ≤ _; rw [hl]; exact Nat.le_refl _⟩
  have hi' := (List.getElem?_eq_some_iff.mp e).1
  rw [hl] at hi'
  refine ⟨hi', fun v H2 y => ?_⟩
  obtain ⟨rfl, rfl⟩ := y
  unfold rangeD at e
  rw [List.getElem?_map, List.getElem?_range hi'] at e
  cases e
  exact ⟨Step.refl _ _, rs, rfl⟩
theorem enumD_get : ∀ {k : Nat} {ds : List D} {i : Nat} {d : D}, (enumD k ds)[i]? = some d → ∃ x, ds[i]? = some x ∧ d = .tup [.int ((k + i : Nat) : Int), x]
  | k, [], i, d, e => by simp [enumD] at e
  | k, x :: ds, 0, d, e => by
    simp [enumD] at e
    exact ⟨x, rfl, by rw [← e]; simp⟩
  | k, x :: ds, i + 1, d, e => by
    have e : (enumD (k + 1) ds)[i]? = some d := by simpa [enumD] using e
    obtain ⟨y, h1, h2⟩ := enumD_get e
    refine ⟨y, by simpa using h1, ?_⟩
    rw [h2]
    have : k + 1 + i = k + (i + 1) := by omega
    rw [this]
theorem enumD_length : ∀ {k : Nat} {ds : List D}, (enumD k ds).length = ds.length
  | _, [] => rfl
  | k, _ :: ds => by
    show (enumD (k + 1) ds).length + 1 = ds.length + 1
    rw [enumD_length]
theorem pair_new {T : Addr} {d e : D} {v u : V} (rs : RelS R H S) (n : H T = none) (r1 : RelD R H d v) (r2 : RelD R H e u) : Step S H S (upd H T (.tup [v, u])) ∧ RelS R (upd H T (.tup [v, u])) S ∧ RelD R (upd H T (.tup [v, u])) (.tup [d, e]) (.ref T) :=
  ⟨Step.laid n, rs.laid n, T, [v, u], rfl, .inl (.inl upd_same), v, [u], rfl, RelD.mono (tmono_laid n) _ _ r1, u, [], rfl, RelD.mono (tmono_laid n) _ _ r2, rfl⟩
theorem walks_enum {a : Addr} (h : ∀ S' H', Step S H S' H' → RelS R H' S' → gd.ok S' → ∃ vs, SqL R.K H' a vs ∧ RelDs R H' ds vs) : Walks R S H (Ite R.K a) (enumD 0 ds) gd := fun S' H' st rs ok => by
  obtain ⟨vs, hq, hr⟩ := h S' H' st rs ok
  refine ⟨fun i d e => ?_, vs, hq, by rw [enumD_length]; exact Nat.le_of_eq hr.length⟩
  obtain ⟨y, e1, rfl⟩ := enumD_get e
  obtain ⟨v, hv, rv⟩ := hr.get e1
  refine ⟨⟨vs, v, hq, hv⟩, fun x H2 q => ?_⟩
  obtain ⟨T, z, rfl, n, rfl, q⟩ := q
  have := q vs hq
  rw [hv] at this
  cases this
  rw [Nat.zero_add]
  exact pair_new rs n rfl rv
theorem walks_enumT {a : Addr} {vs : List V} (rs0 : RelS R H S) (hq : SqT R.K H a vs) (hr : RelDs R H ds vs) : Walks R S H (IteT R.K a) (enumD 0 ds) [] := fun S' H' st rs ok => by
  have hq := (st.tmono rs0).1 _ _ hq
  have hr := RelDs.mono (st.tmono rs0) _ _ hr
  refine ⟨fun i d e => ?_, vs, hq, by rw [enumD_length]; exact hr.length⟩
  obtain ⟨y, e1, rfl⟩ := enumD_get e
  obtain ⟨v, hv, rv⟩ := hr.get e1
  refine ⟨⟨vs, v, hq, hv⟩, fun x H2 q => ?_⟩
  obtain ⟨T, z, rfl, n, rfl, q⟩ := q
  have := q vs hq
  rw [hv] at this
  cases this
  rw [Nat.zero_add]
  exact pair_new rs n rfl rv
theorem zipD_get : ∀ {xs ys : List D} {i : Nat} {d : D}, (zipD xs ys)[i]? = some d → ∃ x y, xs[i]? = some x ∧ ys[i]? = some y ∧ d = .tup [x, y]
  | [], ys, i, d, e => by simp [zipD] at e
  | x :: xs, [], i, d, e => by simp [zipD] at e
  | x :: xs, y :: ys, 0, d, e => by
    simp [zipD] at e
    exact ⟨x, y, rfl, rfl, e.symm⟩
  | x :: xs, y :: ys, i + 1, d, e => by
    have e : (zipD xs ys)[i]? = some d := by simpa [zipD] using e
    obtain ⟨a, b, h1, h2, h3⟩ := zipD_get e
    exact ⟨a, b, by simpa using h1, by simpa using h2, h3⟩
theorem zipD_length : ∀ {xs ys : List D}, (zipD xs ys).length = min xs.length ys.length
  | [], ys => by simp [zipD]
  | x :: xs, [] => by simp [zipD]
  | x :: xs, y :: ys => by
    show (zipD xs ys).length + 1 = _
    rw [zipD_length, List.length_cons, List.length_cons]
    omega
theorem walks_zip {a b : Addr} {xs ys : List D} (h : ∀ S' H', Step S H S' H' → RelS R H' S' → gd.ok S' → ∃ vs ws, SqL R.K H' a vs ∧ RelDs R H' xs vs ∧ SqL R.K H' b ws ∧ RelDs R H' ys ws) : Walks R S H (Itz R.K a b) (zipD xs ys) gd := fun S' H' st rs ok => by
  obtain ⟨vs, ws, hq, hr, hq2, hr2⟩ := h S' H' st rs ok
  refine ⟨fun i d e => ?_, vs, ws, hq, hq2, ?_⟩
  · obtain ⟨x, y, e1, e2, rfl⟩ := zipD_get e
    obtain ⟨v, hv, rv⟩ := hr.get e1
    obtain ⟨u, hu, ru⟩ := hr2.get e2
    refine ⟨⟨vs, ws, v, u, hq, hq2, hv, hu⟩, fun x H2 q => ?_⟩
    obtain ⟨T, z, z2, rfl, n, rfl, q, q2⟩ := q
    have := q vs hq
    rw [hv] at this
    cases this
    have := q2 ws hq2
    rw [hu] at this
    cases this
    exact pair_new rs n rv ru
  · rw [zipD_length, hr.length, hr2.length]
    omega
theorem walks_zipT {a b : Addr} {xs ys : List D} {vs ws : List V} (rs0 : RelS R H S) (hq : SqT R.K H a vs) (hr : RelDs R H xs vs) (hq2 : SqT R.K H b ws) (hr2 : RelDs R H ys ws) : Walks R S H (RZ.ItzT R.K a b) (zipD xs ys) [] := fun S' H' st rs ok => by
  have hq := (st.tmono rs0).1 _ _ hq
  have hr := RelDs.mono (st.tmono rs0) _ _ hr
  have hq2 := (st.tmono rs0).1 _ _ hq2
  have hr2 := RelDs.mono (st.tmono rs0) _ _ hr2
  refine ⟨fun i d e => ?_, vs, ws, hq, hq2, ?_⟩
  · obtain ⟨x, y, e1, e2, rfl⟩ := zipD_get e
    obtain ⟨v, hv, rv⟩ := hr.get e1
    obtain ⟨u, hu, ru⟩ := hr2.get e2
    refine ⟨⟨vs, ws, v, u, hq, hq2, hv, hu⟩, fun x H2 q => ?_⟩
    obtain ⟨T, z, z2, rfl, n, rfl, q, q2⟩ := q
    have := q vs hq
    rw [hv] at this
    cases this
    have := q2 ws hq2
    rw [hu] at this
    cases this
    exact pair_new rs n rv ru
  · rw [zipD_length, hr.length, hr2.length]
    omega
/-- a list of the store, with its guard -/
theorem lst_guard {a : Addr} {o : SO} (ho : o = .lst ds) (gh : ∀ S', gd.ok S' → S' a = some o) : ∀ S' H', Step S H S' H' → RelS R H' S' → gd.ok S' → ∃ vs, SqL R.K H' a vs ∧ RelDs R H' ds vs := fun S' H' st rs ok => by
  have z := rs.o a o (gh S' ok)
  subst ho
  obtain ⟨vs, h1, h2⟩ := z
  exact ⟨vs, SqL.of h1, h2⟩
/-- a list that is only read, with no guard -/
theorem lis_guard {a : Addr} {vs : List V} (rs0 : RelS R H S) (hq : SqF R.K H a vs) (hr : RelDs R H ds vs) : ∀ S' H', Step S H S' H' → RelS R H' S' → Gd.ok [] S' → ∃ vs, SqL R.K H' a vs ∧ RelDs R H' ds vs := fun S' H' st rs ok =>
  ⟨vs, ((st.tmono rs0).2 _ _ hq).l, RelDs.mono (st.tmono rs0) _ _ hr⟩
theorem gd_one {a : Addr} {o : SO} : ∀ S', Gd.ok [(a, o)] S' → S' a = some o := fun S' h => h (a, o) (List.mem_singleton.mpr rfl)

theorem w_ex (g : GoodX X Γ L) (ha : PE X ea (liftC L ca)) : PI X tg ea (liftW L (.ex ca)) := by
  refine ⟨fun pins s σ H Rr I ⟨env, S, a, w⟩ => ?_⟩
  unfold evW at w
  refine ha.go g I a w fun u s1 v H1 d S1 I1 rv a1 st1 rd k => ?_
  unfold walkW at k
  split at k
  · obtain ⟨q, vs, rfl, h1, h2⟩ := rd
    cases rv
    exact it_tup I1 (by rw [g.K]; exact h1) (k _ H1 st1 a1.rs (by rw [g.K]; exact walks_tup a1.rs h1 h2))
  · obtain ⟨q, vs, rfl, h1, h2⟩ := rd
    cases rv
    exact it_list I1 (by rw [g.K]; exact h1.l) (k _ H1 st1 a1.rs (by rw [g.K]; exact walks_list (lis_guard a1.rs h1 h2)))
  · obtain ⟨rfl, o⟩ := rd
    exact it_str I1 rv (k.2 _ H1 st1 a1.rs (walks_str o))
  · rename_i q
    obtain rfl := rd
    cases rv
    cases e : S1 q with
    | none => rw [e] at k; exact k.elim
    | some o =>
      rw [e] at k
      cases o with
      | lst ds =>
        have z := lst_guard (R := L.R) (S := S1) (H := H1) rfl (gd_one (a := q) (o := .lst ds))
        obtain ⟨vs, h1, h2⟩ := z S1 H1 (Step.refl _ _) a1.rs (fun p hp => by rw [List.mem_singleton.mp hp]; exact e)
        exact it_list I1 (by rw [g.K]; exact h1) (k _ H1 st1 a1.rs (by rw [g.K]; exact walks_list z))
      | dk kvs => exact k.elim
  · exact k.elim
theorem w_fl (g : GoodX X Γ L) {l : PD.L} (h : freshL l = true) (ha : PE X ea (liftL L l)) : PI X tg ea (liftW L (.fl l)) := by
  refine ⟨fun pins s σ H Rr I ⟨env, S, a, w⟩ => ?_⟩
  unfold evW at w
  refine ha.goL g I a w fun u s1 v H1 ds S1 I1 rv a1 st1 src k => ?_
  obtain ⟨p, vs, rfl, n0, n1, e, r⟩ := src_f h src
  cases rv
  refine it_list I1 (SqL.of e) (k _ H1 st1 a1.rs ?_)
  rw [g.K]
  exact walks_list fun S' H' st rs ok => ⟨vs, SqL.of (st.fr p _ e n1 (fun ps z => by cases z)), RelDs.mono (st.tmono a1.rs) _ _ r⟩
theorem w_range1 (g : GoodX X Γ L) (h1 : glB Γ ("range" : Str) = true) (hs : noStar ea = true) (ha : PE X ea (liftC L ca)) : PI X tg (.Call (.Name "range" p) [ea] [] pos) (liftW L (.range1 ca)) := by
  have pa : PA X [ea] (tCons (liftC L ca) tNil) := pa_cons ha pa_nil (star_of hs [] _)
  refine ⟨fun pins s σ H Rr I ⟨env, S, a, w⟩ => (pi_range1 (gl_of g h1) (blt_of g (n := "range") (by decide)) pa (star_of hs [] _)).run pins s σ H Rr I ?_⟩
  unfold evW at w
  refine lift_of g a w fun d v H1 S1 a1 st1 rd k => ?_
  split at k
  · rename_i i
    obtain rfl := rd
    refine ⟨i, rfl, by have := k.1; omega, k.2.1, k.2.2 _ H1 st1 a1.rs ?_⟩
    have z := walks_range (R := L.R) (S := S1) (H := H1) (lo := 0) (hi := i)
    rw [Int.sub_zero] at z
    exact z
  · exact k.elim
theorem w_range2 (g : GoodX X Γ L) (h1 : glB Γ ("range" : Str) = true) (hs : noStar ea = true) (hs2 : noStar eb = true) (ha : PE X ea (liftC L ca)) (hb : PE X eb (liftC L cb)) : PI X tg (.Call (.Name "range" p) [ea, eb] [] pos) (liftW L (.range2 ca cb)) := by
  have pa : PA X [ea, eb] (tCons (liftC L ca) (tCons (liftC L cb) tNil)) := pa_cons ha (pa_cons hb pa_nil (star_of hs2 [] _)) (star_of hs [eb] _)
  refine ⟨fun pins s σ H Rr I ⟨env, S, a, w⟩ => (pi_range2 (gl_of g h1) (blt_of g (n := "range") (by decide)) pa (by rw [star_of hs, star_of hs2]; rfl) (by rw [star_of hs2]; rfl)).run pins s σ H Rr I ?_⟩
  unfold evW at w
  refine lift_of g a w fun d v H1 S1 a1 st1 rd w1 => lift_of g a1 w1 fun e u H2 S2 a2 st2 re k => ?_
  split at k
  · rename_i i j
    obtain rfl := rd
    obtain rfl := re
    exact ⟨i, j, rfl, ⟨by have := k.1; omega, k.2.1, by have := k.2.2.1; omega, k.2.2.2.1⟩, k.2.2.2.2 _ H2 (st1.trans st2) a2.rs walks_range⟩
  · exact k.elim
theorem w_enum (g : GoodX X Γ L) {elts : List Expr} {kk : Nat} {tpos : Pos} (h1 : glB Γ ("enumerate" : Str) = true) (hs : noStar ea = true) (ha : PE X ea (liftC L ca)) : PI X (.Tuple elts kk tpos) (.Call (.Name "enumerate" p) [ea] [] pos) (liftW L (.enum ca)) := by
  refine ⟨fun pins s σ H Rr I ⟨env, S, a, w⟩ => ?_⟩
  unfold evW at w
  refine Call_ (ld_blt I (gl_of g h1) (blt_of g (n := "enumerate") (by decide)) boot_enumerate (PyProof.Rows.callWith_type1 ?_ (star_of hs [] _) rfl))
  rw [star_of hs]
  refine Calls.spliced_cons (ha.go g I a w fun u s1 v H1 d S1 I1 rv a1 st1 rd k => Calls.spliced_nil ?_)
  have fp : ∀ b ∈ [s1.heap.objs.size + 1, s1.heap.objs.size], FpOk X pins H1 b := fun b hb => by
    have e' : b = s1.heap.objs.size + 1 ∨ b = s1.heap.objs.size := by simpa using hb
    have hle : s1.heap.objs.size ≤ b := by
      rcases e' with z | z
      · rw [z]; exact Nat.le_add_right _ _
      · rw [z]; exact Nat.le_refl _
    exact I1.fpOk hle (I1.hok.fresh hle)
  have goL : ∀ {q : Addr} {vs : List V}, v = .ref q → SqL X.K H1 q vs → Rr (Ite X.K q) H1 → wpAny (model X.prog X.w) X.A (PySem.call (.type "enumerate") [u]) (fun v s2 => wpAny (model X.prog X.w) X.A (pyIter v) (PIE X pins σ (.Tuple elts kk tpos) Rr) X.xe s2) X.xe s1 := fun {q vs} e hq hR => by
    subst e
    cases rv
    obtain ⟨its, _, p', hz⟩ := I1.list hq
    refine call_enumerate_list p'.isList fun h' he hit hsz hk => wpAny_pyIter_enum he ?_
    exact ⟨s1.heap.objs.size + 1, [s1.heap.objs.size + 1, s1.heap.objs.size], _, _, H1, rfl, I1.kept (t' := s1.toks) hk, turn_enum q (s1.heap.objs.size + 1) s1.heap.objs.size, ⟨⟨.none, he⟩, hit, Nat.succ_ne_self _⟩, fp, hR⟩
  unfold seqW at k
  split at k
  · obtain ⟨q, vs, rfl, h2, h3⟩ := rd
    cases rv
    have h2' : SqT X.K H1 q vs := by rw [g.K]; exact h2
    obtain ⟨its, _, p', hz⟩ := I1.tuple h2'
    refine call_enumerate_tuple p' fun h' he hit hsz hk => wpAny_pyIter_enum he ?_
    exact ⟨s1.heap.objs.size + 1, [s1.heap.objs.size + 1, s1.heap.objs.size], _, _, H1, rfl, I1.kept (t' := s1.toks) hk, turn_enumT q (s1.heap.objs.size + 1) s1.heap.objs.size, ⟨⟨.none, he⟩, hit, Nat.succ_ne_self _⟩, fp,
      k _ H1 st1 a1.rs (by rw [g.K]; exact walks_enumT a1.rs h2 h3)⟩
  · obtain ⟨q, vs, rfl, h2, h3⟩ := rd
    exact goL rfl (by rw [g.K]; exact h2.l) (k _ H1 st1 a1.rs (by rw [g.K]; exact walks_enum (lis_guard a1.rs h2 h3)))
  · rename_i q
    obtain rfl := rd
    cases e : S1 q with
    | none => rw [e] at k; exact k.elim
    | some o =>
      rw [e] at k
      cases o with
      | lst ds =>
        have z := lst_guard (R := L.R) (S := S1) (H := H1) rfl (gd_one (a := q) (o := .lst ds))
        obtain ⟨vs, h2, h3⟩ := z S1 H1 (Step.refl _ _) a1.rs (fun p hp => by rw [List.mem_singleton.mp hp]; exact e)
        exact goL rfl (by rw [g.K]; exact h2) (k _ H1 st1 a1.rs (by rw [g.K]; exact walks_enum z))
      | dk kvs => exact k.elim
  · exact k.elim
/-- a list or a tuple as zip takes it -/
theorem seq_ref {q : Addr} {K : List D → Gd → Prop} (k : seqW (.ref q) S K) : ∃ ds o, o = .lst ds ∧ S q = some o ∧ K ds [(q, o)] := by
  unfold seqW at k
  dsimp only at k
  cases e : S q with
  | none => rw [e] at k; exact k.elim
  | some o =>
    rw [e] at k
    cases o with
    | lst ds => exact ⟨ds, _, rfl, rfl, k⟩
    | dk kvs => exact k.elim
def isLs : D → Prop
  | .lis _ => True
  | .ref _ => True
  | _ => False
theorem seqL_guard {d : D} {v : V} {K : List D → Gd → Prop} (hd : isLs d) (rs : RelS R H S) (rd : RelD R H d v) (k : seqW d S K) :
    ∃ ds g q, K ds g ∧ v = .ref q ∧ g.ok S ∧ ∀ S' H', Step S H S' H' → RelS R H' S' → g.ok S' → ∃ vs, SqL R.K H' q vs ∧ RelDs R H' ds vs := by
  cases d with
  | lis ds =>
    obtain ⟨q, vs, rfl, h2, h3⟩ := rd
    exact ⟨ds, [], q, k, rfl, (fun _ h => nomatch h), fun S' H' st rs' ok => lis_guard rs h2 h3 S' H' st rs' ok⟩
  | ref q =>
    obtain rfl := rd
    obtain ⟨ds, o, ho, e, k⟩ := seq_ref k
    exact ⟨ds, [(q, o)], q, k, rfl, (fun p hp => by rw [List.mem_singleton.mp hp]; exact e), fun S' H' st rs' ok => lst_guard ho gd_one S' H' st rs' ok⟩
  | _ => exact hd.elim
theorem w_zipL (hK : X.K = L.R.K) {Hb : Hp} {Sb : DS} (st : Step Sb Hb S H) (rs : RelS L.R H S) {d e : D} {v u : V} (rd : RelD L.R H d v) (re : RelD L.R H e u) (hd : isLs d) (he : isLs e) {Rr : It → Hp → Prop}
    (k : seqW d S fun xs g => seqW e S fun ys g2 => ∀ J H', Step Sb Hb S H' → RelS L.R H' S → Walks L.R S H' J (zipD xs ys) (g ++ g2) → Rr J H') :
    ∃ a b xs ys, [v, u] = [V.ref a, V.ref b] ∧ ((SqL X.K H a xs ∧ SqL X.K H b ys ∧ Rr (Itz X.K a b) H) ∨ (SqT X.K H a xs ∧ SqT X.K H b ys ∧ Rr (RZ.ItzT X.K a b) H)) := by
  obtain ⟨xs, gx, q, k, rfl, gk, z1⟩ := seqL_guard hd rs rd k
  obtain ⟨ys, gy, q', k, rfl, gk2, z2⟩ := seqL_guard he rs re k
  have ok : Gd.ok (gx ++ gy) S := fun p hp => (List.mem_append.mp hp).elim (gk p) (gk2 p)
  have okl : ∀ S', Gd.ok (gx ++ gy) S' → Gd.ok gx S' ∧ Gd.ok gy S' := fun S' h => ⟨fun p hp => h p (List.mem_append_left _ hp), fun p hp => h p (List.mem_append_right _ hp)⟩
  obtain ⟨vs, h2, h3⟩ := z1 S H (Step.refl _ _) rs gk
  obtain ⟨ws, h4, h5⟩ := z2 S H (Step.refl _ _) rs gk2
  refine ⟨q, q', vs, ws, rfl, .inl ⟨by rw [hK]; exact h2, by rw [hK]; exact h4, k _ H st rs ?_⟩⟩
  rw [hK]
  refine walks_zip fun S' H' st' rs' ok' => ?_
  obtain ⟨vs, h2, h3⟩ := z1 S' H' st' rs' (okl S' ok').1
  obtain ⟨ws, h4, h5⟩ := z2 S' H' st' rs' (okl S' ok').2
  exact ⟨vs, ws, h2, h3, h4, h5⟩
theorem w_zip (g : GoodX X Γ L) {elts : List Expr} {kk : Nat} {tpos : Pos} (h1 : glB Γ ("zip" : Str) = true) (hs : noStar ea = true) (hs2 : noStar eb = true) (ha : PE X ea (liftC L ca)) (hb : PE X eb (liftC L cb)) :
    PI X (.Tuple elts kk tpos) (.Call (.Name "zip" p) [ea, eb] [] pos) (liftW L (.zip ca cb)) := by
  have pa : PA X [ea, eb] (tCons (liftC L ca) (tCons (liftC L cb) tNil)) := pa_cons ha (pa_cons hb pa_nil (star_of hs2 [] _)) (star_of hs [eb] _)
  refine ⟨fun pins s σ H Rr I ⟨env, S, a, w⟩ => (RZ.pi_zipA (gl_of g h1) (blt_of g (n := "zip") (by decide)) pa (star_of hs [eb] _) (by rw [star_of hs2]; rfl)).run pins s σ H Rr I ?_⟩
  unfold evW at w
  refine lift_of g a w fun d v H1 S1 a1 st1 rd w1 => lift_of g a1 w1 fun e u H2 S2 a2 st2 re k => ?_
  have rd2 := RelD.mono (st2.tmono a1.rs) _ _ rd
  clear rd
  have st := st1.trans st2
  unfold zipW at k
  split at k
  · obtain ⟨q, vs, rfl, h2, h3⟩ := rd2
    obtain ⟨q', ws, rfl, h4, h5⟩ := re
    refine ⟨q, q', vs, ws, rfl, .inr ⟨by rw [g.K]; exact h2, by rw [g.K]; exact h4, k _ H2 st a2.rs ?_⟩⟩
    rw [g.K]
    exact walks_zipT a2.rs h2 h3 h4 h5
  · exact w_zipL g.K st a2.rs rd2 re trivial trivial k
  · exact w_zipL g.K st a2.rs rd2 re trivial trivial k
  · exact w_zipL g.K st a2.rs rd2 re trivial trivial k
  · exact w_zipL g.K st a2.rs rd2 re trivial trivial k
  · exact k.elim
end
end PD
end
section
set_option Elab.async false
set_option linter.all false
set_option maxRecDepth 100000
set_option maxHeartbeats 1000000
/-! PyD, part T: t(lambda: e), where t calls what it gets and tells a caught exception. -/
namespace PD
open PySem PySem.Spec PyProof.Rows L2 LamX

/-- the told items, by values -/
def HandV (fs : List Str) (d : Option Addr) (H : Hp) : HR → List V → Prop
  | [], vs => vs = []
  | .inl x :: r, vs => ∃ ws, vs = .str ⟨x.toArray⟩ :: ws ∧ HandV fs d H r ws
  | .inr i :: r, vs => ∃ dd fsV f v ws, vs = v :: ws ∧ d = some dd ∧ H dd = some (.xd fsV) ∧ fs[i]? = some f ∧ fsV.lookup f = some v ∧ HandV fs d H r ws
theorem told_items {X : Cx} {a C : Addr} {oe : Obj} {cls : Value} {d : Option Addr} {pn : List (Addr × Obj)} {fs : List Str} {e : Str} (T : XfC X.K C) (hno : ∀ f ∈ fs, PySem.W.findIn X.K (.ref C) f = some none) (hz : Zc cls d oe) (hf : ∃ vs, oe.data = .fields vs)
    (he : ∀ p, PE (X.suite a ((a, oe) :: pn)) (.Name e p) (tVar 1)) : ∀ (r : HR) (es : List Expr), toldI fs e r es = true →
    PA (X.suite a ((a, oe) :: pn)) es (fun σ H Q => σ[1]? = some (some (V.ref a)) ∧ cls = .ref C ∧ ∃ vs, HandV fs d H r vs ∧ Q vs H)
  | [], es, h => by
    unfold toldI at h
    rw [List.isEmpty_iff.mp h]
    exact ⟨fun pos pins s σ H Q I ⟨_, _, vs, hv, q⟩ => pa_nil.run pos pins s σ H Q I (by rw [show vs = [] from hv] at q; exact q)⟩
  | .inl x :: r, es, h => by
    unfold toldI at h
    split at h
    · rename_i y j p es'
      simp only [Bool.and_eq_true, decide_eq_true_eq] at h
      obtain ⟨⟨⟨h1, _⟩, _⟩, h4⟩ := h
      subst h1
      have ih := told_items T hno hz hf he r es' h4
      refine ⟨fun pos pins s σ H Q I ⟨q1, q2, vs, hv, q⟩ => (pa_cons (pe_str (x := y)) ih).run pos pins s σ H Q I ?_⟩
      obtain ⟨ws, rfl, hw⟩ := hv
      have ey : (⟨y.cps.toList.toArray⟩ : Str) = y := by simp
      rw [ey] at q
      exact ⟨q1, q2, ws, hw, q⟩
    · cases h
  | .inr i :: r, es, h => by
    unfold toldI at h
    split at h
    · rename_i n p f p2 es'
      simp only [Bool.and_eq_true, decide_eq_true_eq] at h
      obtain ⟨⟨h1, h2⟩, h4⟩ := h
      subst h1
      have ih := told_items T hno hz hf he r es' h4
      refine ⟨fun pos pins s σ H Q I ⟨q1, q2, vs, hv, q⟩ => (pa_cons (pe_xf (cls := cls) (d := d) T (hno f (List.mem_of_getElem? h2)) hz hf (he p)) ih).run pos pins s σ H Q I ?_⟩
      obtain ⟨dd, fsV, f', v, ws, rfl, hd, hH, hf', hl, hw⟩ := hv
      rw [h2] at hf'
      cases hf'
      exact ⟨_, q1, rfl, q2, dd, fsV, v, hd, hH, hl, q1, q2, ws, hw, q⟩
    · cases h

/-- what t makes of the lambda's reading -/
def TTold (CS : Addr) (fs : List Str) (r : HR) : (XK → Hp → VK → Prop) → Hp → VK → Prop := fun tl H Q =>
  tl (fun cls d H' => cls = .ref CS ∧ ∃ vs, HandV fs d H' r vs ∧ vs.length ≤ sizeLine ∧ ∀ p, H' p = none → Q (.ref p) (upd H' p (.tup vs))) H Q
theorem told_gives {X : Cx} {x a e cn q : Str} {sg : Scope} {g CS : Addr} {cdg : Value} {bg : List Stmt} {fs : List Str} {r : HR} (S : FnScope [a, e] [a] sg) (hae : sg.names.lookup e = some .local) (hge : sg.names.lookup cn = some .globalImplicit) (hme : X.mg cn = some (.ref CS)) (n1 : nmB e = true) (n2 : nmB cn = true)
    (hb : toldS (some fs) a e cn r bg = true) (hx : PySem.W.exmOne X.K (.ref CS) (.ref CS) = some true) (T : XfC X.K CS) (hno : ∀ f ∈ fs, PySem.W.findIn X.K (.ref CS) f = some none) :
    GivesTo X [a, e] x sg g cdg bg a q (TTold CS fs r) := by
  intro f c' s H Q tl act hc h
  unfold toldS at hb
  split at hb
  · rename_i a' p1 p2 p3 cn' p4 e' es j p5 p6 p7 p8
    simp only [Bool.and_eq_true, decide_eq_true_eq] at hb
    obtain ⟨⟨⟨⟨b1, b2⟩, b3⟩, b4⟩, b5⟩ := hb
    subst b1 b2 b3
    let Z : Cx := (cxOf C8.CX0 X.prog X.w X.K X.mg X.base [a', e'] x sg g cdg X.A X.stack s H C8.E0).nox
    have hgl : Gl Z cn' := hge
    have hnames : Names Z cn' (.ref CS) := ⟨hgl, (nm_of n2).1, .inl hme⟩
    refine ⟨_, pss_one (ps_try_as (X := Z) (n := e') (i := 1) (c := .ref CS) (Wout := fun _ _ _ _ => False)
      (tb := fun W D σ H => ∃ Ech : XK, (∀ cls d σ' H', Ech cls d H' → W cls d σ' H') ∧ σ[0]? = some (some (.ref f)) ∧ H c' = some (CodeO c' q) ∧ tl Ech H D.rt)
      (ts := fun a cls d D σ H => (σ.length = 2 → σ[1]? = some (some (V.ref a))) ∧ cls = .ref CS ∧ ∃ vs, HandV fs d H r vs ∧ vs.length ≤ sizeLine ∧ ∀ p, H p = none → D.rt (.ref p) (upd H p (.tup vs)))
      rfl rfl S.nd rfl hae hnames LamX.takes0 (fun W pn xe tk _ => ?_) (fun a oe cls d pn hz hf => ?_)), ?_⟩
    · refine ⟨fun pins s' σ H' D I h' => ?_⟩
      obtain ⟨Ech, hW, h1, h2, h3⟩ := h'
      exact (pss_one (ps_ret (act W pn xe Ech p1 p2 tk hW))).run pins s' σ H' D I ⟨h1, h2, h3⟩
    · have he : ∀ p, PE (Z.suite a ((a, oe) :: pn)) (.Name e' p) (tVar 1) := fun p => pe_var rfl (.inl hae) (nm_of n1).1 (nm_of n1).2.1
      have pa := told_items (X := Z) (cls := cls) (d := d) (oe := oe) (pn := pn) T hno hz hf he r es b5
      refine ⟨fun pins s' σ H' D I h' => (pss_one (ps_ret (pe_tup pa))).run pins s' σ H' D I ?_⟩
      obtain ⟨h1, h2, vs, h3, h4, h5⟩ := h'
      exact ⟨h1 I.len, h2, vs, h3, h4, h5⟩
    · refine ⟨_, fun cls d σ' H' hE => ?_, rfl, hc, h⟩
      obtain ⟨rfl, vs, h3, h4, h5⟩ := hE
      refine ⟨true, hx, fun _ a na => ⟨fun hl => ?_, rfl, vs, h3, h4, h5⟩, fun z => by cases z⟩
      have hl' : 1 < σ'.length := by
        rw [List.length_set] at hl
        omega
      rw [List.getElem?_set_self hl']
  · cases hb

/-! ### the lambda's context -/
def ExOf (R : RC) (S : DS) (H : Hp) (E : XK) : QE := fun x S' => ∀ cls d H', Step S H S' H' → RelS R H' S' → XRel R x cls d H' → E cls d H'
theorem ExOf.up {R : RC} {S : DS} {H : Hp} {E : XK} : UpD (ExOf R S H E) (ExOf R S H E) := fun x A B hle ex cls d H' st rs xr => ex cls d H' (st.forget hle) (rs.forget hle) xr
abbrev LC.lam_ (L : LC) (S : DS) (H : Hp) (E : XK) : LC := { L with S0 := S, H0 := H, Ex := ExOf L.R S H E }
section
variable {L : LC} {X : Cx} {Γ : Ck}
theorem GoodX.lam_ (g : GoodX X Γ L) (hlow : Γ.low = false) {A : Around} {outer : List PySem.Env} {s : Shared} {H HS : Hp} {E : XK} {scope : Scope} {f c' : Addr} {S : DS} {k : Nat} (hk : 60 ≤ k) (hr : Room k (A.deeper (lamEnv X scope s.heap.objs.size f c')))
    (ql : ∀ (f : Nat) (F : Fn), Γ.P.fns[f]? = some F → X.mg F.name = some (.ref (L.R.fa f)) ∧ PySem.W.keepIn X.K (.ref (L.R.fa f)) = true ∧ ∃ fd, FnOk X.prog X.w X.K X.mg X.base (L2.CX X.prog X.w) k (L.R.fa f) fd F.ps (liftSp L.R (L.G.low f)) ∧ Binds X.K fd F.ps []) :
    GoodX (lamCx X A outer s H E scope f c') (lamCk Γ scope) (L.lam_ S HS E) where
  K := g.K
  N := g.N
  nd := g.nd
  sc := rfl
  fn := rfl
  P := g.P
  calm := rfl
  un := by
    have := hr.un
    show (A.deeper _).units + 1100 < cLine
    omega
  gle := g.gle
  upE := ExOf.up
  glG := g.glG
  gl := g.gl
  blt := g.blt
  calls := fun h => by cases h
  lows := ⟨k, hk, hr, ql⟩
  toldG := g.toldG
  tel := fun h => by cases h
  tolds := g.tolds
  pas := by
    have tk : Takes (lamCx X A outer s H E scope f c') fun cls d _ H => xk (L.lam_ S HS E) cls d H :=
      (takes_of (X := lamCx X A outer s H E scope f c') (E := E) rfl rfl rfl rfl).imp fun cls d σ H' ⟨x, S', st, rs', xr, ex⟩ => ex cls d H' st rs' xr
    exact passes_call tk fun cls d σ H h => h
theorem hand_rel {R : RC} {h : Told} {x : Exn} {cls : Value} {d : Option Addr} {H : Hp} {fs : List Str} (hc : x.c = h.c) (hfs : R.P.cls[h.c]?.map (·.fs) = some fs) (xr : XRel R x cls d H) : ∀ (r : HR) (ds : List D), (∀ z, .inl z ∈ r → okS z) → hvals r x.fs = some ds → ∃ vs, HandV fs d H r vs ∧ RelDs R H ds vs
  | [], ds, _, e => by
    cases e
    exact ⟨[], rfl, rfl⟩
  | .inl z :: r, ds, ok, e => by
    unfold hvals at e
    split at e
    · rename_i es e2
      cases e
      obtain ⟨vs, h1, h2⟩ := hand_rel hc hfs xr r es (fun z hz => ok z (List.mem_cons_of_mem _ hz)) e2
      exact ⟨.str ⟨z.toArray⟩ :: vs, ⟨vs, rfl, h1⟩, .str ⟨z.toArray⟩, vs, rfl, ⟨rfl, ok z (List.mem_cons_self ..)⟩, h2⟩
    · cases e
  | .inr i :: r, ds, ok, e => by
    unfold hvals at e
    split at e
    · rename_i dv es e1 e2
      cases e
      obtain ⟨vs, h1, h2⟩ := hand_rel hc hfs xr r es (fun z hz => ok z (List.mem_cons_of_mem _ hz)) e2
      rcases xr.2 with hn | ⟨dd, fsV, C, hd, hH, hC, hlen, hget⟩
      · rw [hn] at e1
        simp at e1
      · rw [hc] at hC
        rw [hC] at hfs
        cases hfs
        have hi : i < C.fs.length := by
          rw [hlen]
          exact (List.getElem?_eq_some_iff.mp e1).1
        have e3 : C.fs[i]? = some C.fs[i] := List.getElem?_eq_getElem hi
        obtain ⟨v, hv, rv⟩ := hget i _ dv e3 e1
        exact ⟨v :: vs, ⟨dd, fsV, _, v, vs, rfl, hd, hH, e3, hv, h1⟩, v, vs, rfl, rv, h2⟩
    · cases e
theorem hvals_len : ∀ {r : HR} {fs ds : List D}, hvals r fs = some ds → ds.length = r.length
  | [], fs, ds, e => by cases e; rfl
  | .inl z :: r, fs, ds, e => by
    unfold hvals at e
    split at e
    · rename_i es e2
      cases e
      rw [List.length_cons, List.length_cons, hvals_len e2]
    · cases e
  | .inr i :: r, fs, ds, e => by
    unfold hvals at e
    split at e
    · rename_i dv es e1 e2
      cases e
      rw [List.length_cons, List.length_cons, hvals_len e2]
    · cases e
theorem toldI_ok {fs : List Str} {e : Str} : ∀ {r : HR} {es : List Expr}, toldI fs e r es = true → ∀ z, .inl z ∈ r → okS z
  | [], es, h, z, hz => by cases hz
  | .inl x :: r, es, h, z, hz => by
    unfold toldI at h
    split at h
    · simp only [Bool.and_eq_true, decide_eq_true_eq, List.all_eq_true] at h
      obtain ⟨⟨⟨h1, h2⟩, h3⟩, h4⟩ := h
      rcases List.mem_cons.mp hz with q | q
      · cases q
        exact ⟨h2, h3⟩
      · exact toldI_ok h4 z q
    · cases h
  | .inr i :: r, es, h, z, hz => by
    unfold toldI at h
    split at h
    · simp only [Bool.and_eq_true, decide_eq_true_eq] at h
      rcases List.mem_cons.mp hz with q | q
      · cases q
      · exact toldI_ok h.2 z q
    · cases h
theorem noArgs_of {p : Arguments} (h : noArgs p = true) : p = ⟨[], [], none, [], [], none, []⟩ := by
  obtain ⟨a, b, c, d, e, f, g⟩ := p
  unfold noArgs at h
  simp only [Bool.and_eq_true, List.isEmpty_iff, Option.isNone_iff_eq_none] at h
  obtain ⟨⟨⟨⟨⟨⟨rfl, rfl⟩, rfl⟩, rfl⟩, rfl⟩, rfl⟩, rfl⟩ := h
  rfl
theorem c_told (g : GoodX X Γ L) {t : Nat} {h : Told} {b : C} {params : Arguments} {body : Expr} {scope : Scope} {p lpos pos : Pos} (hlam : Γ.lam = true) (hlow : Γ.low = false) (ht : Γ.P.told[t]? = some h) (h1 : glB Γ h.name = true) (h2 : nmB h.name = true) (h3 : noArgs params = true) (h4 : lamSB Γ.sc scope = true)
    (hb : ∀ {X' : Cx} {L' : LC}, GoodX X' (lamCk Γ scope) L' → PE X' body (liftC L' b)) : PE X (.Call (.Name h.name p) [.Lambda params body scope lpos] [] pos) (liftC L (.told t b)) := by
  obtain ⟨⟨g0, pg, bg, sg, dV, kV, doc, pm, cdv, ct, oc, an, od, osl, a, e, cn, q1, q2, q3, q4, q5, q6, q7, q8, q9, q10, q11, q12, q13, q14, q15, q16, q17⟩⟩ := g.tolds t h ht
  obtain ⟨c, P, t1, t2, t3, t4⟩ := g.tel hlam
  obtain ⟨k, hk, hr, ql⟩ := g.lows
  rw [if_neg (by rw [hlow]; exact Bool.false_ne_true)] at hr
  have ep := noArgs_of h3
  subst ep
  have LS : LamS X.env.scope scope := by
    rw [g.sc]
    exact lamS_by h4
  obtain ⟨fs, hfs⟩ : ∃ fs, L.R.P.cls[h.c]?.map (·.fs) = some fs := by
    cases z : L.R.P.cls[h.c]?.map (·.fs) with
    | some fs => exact ⟨fs, rfl⟩
    | none =>
      rw [z] at q13
      unfold toldS at q13
      split at q13
      · simp at q13
      · cases q13
  rw [hfs] at q13
  have gives : GivesTo X [a, e] h.name sg g0 cdv bg a (X.env.qual ++ "<lambda>") (TTold (L.R.ca h.c) fs h.r) :=
    told_gives q6 q8 q9 q14 q11 q12 q13 (by rw [g.K]; exact q15) (by rw [g.K]; exact q16) (by rw [g.K]; exact q17 fs hfs)
  refine (pe_lamcall (T := L.R.T) (TT := TTold (L.R.ca h.c) fs h.r) (Ng := [a, e]) (t := fun E σ H' Q' => ∃ env S, RelE L.R H' env σ ∧ RelS L.R H' S ∧ evC L.G b env S (Pv L.R S H' Q') (ExOf L.R S H' E))
    (gl_of g h1) q1 (by rw [g.K]; exact q2) (by rw [g.K]; exact q3) (by rw [g.K]; exact q4) (by rw [g.K]; exact q5) q6 rfl (.inl q7) gives t2 t1 t3 t4 hr LS rfl (fun _ _ _ _ _ => rfl) (fun A outer s H E f c' hr2 => ?_) (nm_of h2).1 (nm_of q10).1 (nm_of q10).2.1).to fun σ H Q env S st w => ?_
  · refine ⟨fun pins s' σ H' Q' I ⟨env, S, re, rs, w⟩ => ?_⟩
    exact (hb (g.lam_ hlow (S := S) (HS := H') (E := E) hk hr2 ql)).run pins s' σ H' Q' I ⟨env, S, ⟨re, rs, Step.refl _ _⟩, w⟩
  · unfold evC at w
    rw [g.toldG] at w
    refine ⟨st.rs.t, fun H1 eN T1 => ?_⟩
    have s1 : Step S H S H1 := ⟨fun a o e _ n => eN a o e n, fun a o e => .inl ⟨o, e⟩⟩
    have rs1 : RelS L.R H1 S := ⟨fun a o e => by
      have z := st.rs.o a o e
      have tm := s1.tmono st.rs
      cases o with
      | lst ds =>
        obtain ⟨vs, e1, r1⟩ := z
        exact ⟨vs, eN _ _ e1 (fun ps q => by cases q), RelDs.mono tm _ _ r1⟩
      | dk kvs =>
        obtain ⟨vs, e1, r1⟩ := z
        exact ⟨vs, eN _ _ e1 (fun ps q => by cases q), RelKV.mono tm _ _ r1⟩, T1⟩
    refine ⟨env, S, st.re.mono (s1.tmono st.rs), rs1, evC_mono g.gle b (E := fun x S1 => toldW Γ.P.told t x S1 (Pv L.R S H Q)) ?_ (DS.le.refl _) (pv_up s1) w⟩
    intro x A B hle tw cls d H' st2 rs2 xr
    unfold toldW at tw
    rw [ht] at tw
    obtain ⟨ec, tw⟩ := tw
    split at tw
    · rename_i ds ev
      have st2' := st2.forget hle
      have ok : ∀ z, .inl z ∈ h.r → okS z := by
        unfold toldS at q13
        split at q13
        · simp only [Bool.and_eq_true] at q13
          exact toldI_ok q13.2
        · cases q13
      have hl : h.r.length ≤ 1000 := by
        unfold toldS at q13
        split at q13
        · simp only [Bool.and_eq_true, decide_eq_true_eq] at q13
          exact q13.1.2
        · cases q13
      obtain ⟨vs, hv, rv⟩ := hand_rel ec hfs xr h.r ds ok ev
      refine ⟨by rw [xr.1, ec], vs, hv, ?_, fun p n => ?_⟩
      · rw [rv.length, hvals_len ev, lim_eq]
        have : (1000 : Nat) ≤ lim := by decide
        omega
      · exact Pv.tup (X := X) ⟨g.K, rs2.forget hle⟩ rv (pv_up (s1.trans st2') _ _ _ (DS.le.refl _) tw) n
    · exact tw.elim
end
end PD
end
section
set_option Elab.async false
set_option linter.all false
set_option maxRecDepth 100000
set_option maxHeartbeats 1000000
/-! PyD, part L: list comprehensions; what is checked is read rightly. -/
namespace PD
open PySem PySem.Spec PyProof.Rows L2

section
variable {L : LC} {X : Cx} {Γ : Ck} {H H' : Hp} {S S' S2 : DS} {env : Env} {σ σ' σ2 : L2.St} {pins : List (Addr × Obj)} {s : Shared} {Q : VK}

theorem Step.more {A B : DS} (st : Step A H S' H') (h : DS.le A B) : Step B H S' H' := ⟨fun a o e n => st.fr a o e (by
  cases q : A a with
  | none => rfl
  | some u => rw [h a u q] at n; cases n), fun a o e => (st.gr a o e).imp (fun ⟨u, q⟩ => ⟨u, h a u q⟩) id⟩
theorem liftW_of (g : GoodX X Γ L) {c : PD.W} (a : Stt L env S σ H) {K : List D → Gd → DS → Prop} (w : evW L.G c env S K L.Ex) {Rr : It → Hp → Prop}
    (k : ∀ ds gd J H' S', Stt L env S' σ H' → Step S H S' H' → Walks L.R S' H' J ds gd → K ds gd S' → Rr J H') : liftW L c σ H Rr :=
  ⟨env, S, a, evW_mono g.gle c g.upE (DS.le.refl S) (fun ds gd A B hle k' J H' st rs wk => k ds gd J H' A (a.step (rs.forget hle) (st.forget hle)) (st.forget hle) (fun S' H'' st' => wk S' H'' (st'.more hle)) k') w⟩
/-- a list that the store does not tell of is changed -/
theorem Step.redo {p : Addr} {o : HO} (st : Step S H S' H') (n : H p = none) : Step S H S' (upd H' p o) := ⟨fun a u e z t => by
  have q : a ≠ p := ne_of_none e n
  rw [upd_ne q]
  exact st.fr a u e z t, st.gr⟩
theorem tmono_lst {K : PySem.W.Frag} {p : Addr} {o : HO} {vs : List V} (e : H p = some (.lst vs)) : TMono K H (upd H p o) := ⟨fun a xs h => by
  rcases h with h | h
  · have q : a ≠ p := fun z => by
      subst z
      rcases h with h | ⟨u, h⟩ <;> (rw [e] at h; cases h)
    rcases h with h | ⟨u, h⟩
    · exact .inl (.inl (by rw [upd_ne q]; exact h))
    · exact .inl (.inr ⟨u, by rw [upd_ne q]; exact h⟩)
  · exact .inr h, fun a xs h => by
  rcases h with ⟨u, h⟩ | h
  · have q : a ≠ p := fun z => by
      subst z
      rw [e] at h; cases h
    exact .inl ⟨u, by rw [upd_ne q]; exact h⟩
  · exact .inr h⟩
theorem RelS.redo {R : RC} {p : Addr} {o : HO} {vs : List V} (rs : RelS R H S) (e : H p = some (.lst vs)) (n : S p = none) : RelS R (upd H p o) S := ⟨fun a u h =>
  (rs.o a u h).mono (tmono_lst e) fun w z => by
    have q : a ≠ p := fun y => by subst y; rw [n] at h; cases h
    rw [upd_ne q]
    exact z, tabs_upd rs.t e (fun _ q => by cases q) lst_code⟩

/-! ### a comprehension's block -/
abbrev LC.in_ (L : LC) : LC := { L with Ex := noE }
theorem Stt.in_ (a : Stt L env S σ H) : Stt L.in_ env S σ H := ⟨a.re, a.rs, a.st⟩
theorem GoodX.blk (g : GoodX X Γ L) (s : Shared) (H : Hp) (scope : Scope) (C : Addr) (cl : List (Str × Addr)) (fp : List Addr) : GoodX (X.blk s H scope (compEnvC scope cl C X.env) fp) (blkCk Γ scope) L.in_ where
  K := g.K
  N := g.N
  nd := g.nd
  sc := by
    show relS scope X.env.scope = relS scope Γ.sc
    rw [g.sc]
  fn := rfl
  P := g.P
  calm := g.calm
  un := g.un
  gle := g.gle
  upE := noU
  glG := g.glG
  gl := g.gl
  blt := g.blt
  calls := g.calls
  lows := g.lows
  toldG := g.toldG
  tel := fun h => by cases h
  tolds := g.tolds
  pas := fun pins σ H s e s' I c => by
    obtain ⟨_, _, _, _, _, _, _, _, _, _, _, _, x, _, _, _, _, h⟩ := c
    exact h
def liftTo (L : LC) (t : Option Te) : TT := fun σ H Q => ∃ env S, Stt L env S σ H ∧ evTo L.G t env S (PvT L.R S H Q) L.Ex
theorem liftTo_of (g : GoodX X Γ L) {c : Option Te} (a : Stt L env S σ H) {K : Bool → DS → Prop} (w : evTo L.G c env S K L.Ex) {Q : Bool → Hp → Prop} (k : ∀ b H' S', Stt L env S' σ H' → Step S H S' H' → K b S' → Q b H') : liftTo L c σ H Q :=
  ⟨env, S, a, evTo_mono g.gle c g.upE (DS.le.refl S) (fun d A B hle k' H' st rs => k d H' A (a.step (rs.forget hle) (st.forget hle)) (st.forget hle) k') w⟩
theorem ts_none : PTs X [] (liftTo L none) := ⟨fun pins s σ H Q I ⟨env, S, a, w⟩ => pts_nil.run pins s σ H Q I (w H (Step.refl _ _) a.rs)⟩
theorem ts_some {e : Expr} {t : Te} (h : PT X e (liftB L t)) : PTs X [e] (liftTo L (some t)) := ⟨fun pins s σ H Q I ⟨env, S, a, w⟩ => (pts_one h).run pins s σ H Q I ⟨env, S, a, w⟩⟩
theorem wipe_wipe (σ : L2.St) (vs : List Nat) : wipe (wipe σ vs) vs = wipe σ vs := by
  refine List.ext_getElem? fun j => ?_
  rw [wipe_get, wipe_get, wipe_length]
  by_cases q : j ∈ vs ∧ j < σ.length
  · rw [if_pos q, if_pos q]
  · rw [if_neg q]
theorem lc_lift (g : GoodX X Γ L) (gi : GLe L.G L.G) {c : C} {tg : Tg} {w : PD.W} {t : Option Te} (h : liftL L (.lc c tg w t) σ H Q) : tLc (liftW L w) (liftG L.in_ tg) (liftTo L.in_ t) (liftC L.in_ c) (tgSlots tg) σ H Q := by
  obtain ⟨env, S, a, h⟩ := h
  unfold evL at h
  refine liftW_of g a h fun ds gd J H1 S1 a1 st1 wk k => ?_
  intro Dl hD
  obtain ⟨hlen, k⟩ := k
  have nS : S1 Dl = none := a1.rs.nul hD
  generalize hF : (fun d S2 R => gd.ok S2 ∧ tgW L.G tg d (wipeE env (tgSlots tg)) S2 (fun env1 S3 => evTo L.G t env1 S3 (fun k S4 => match k with
    | true => evC L.G c env1 S4 (fun x S5 => R (some x) S5) noE
    | false => R none S4) noE) noE : D → DS → (Option D → DS → Prop) → Prop) = F at k
  let QF : List D → DS → Prop := fun xs S2 => gd.ok S2 ∧ PvL L.R (.lc c tg w t) S H Q xs S2
  let Iv : List D → Nat → Hp → Prop := fun rest n Hc => ∃ Sc acc vacc, RelS L.R Hc Sc ∧ Step S1 H1 Sc Hc ∧ Sc Dl = none ∧ Hc Dl = some (.lst vacc) ∧ RelDs L.R Hc acc vacc ∧ acc.length ≤ n ∧ eachW F rest Sc fun xs S2 => QF (acc ++ xs) S2
  refine ⟨fun i m Hc => m = ds.length - i ∧ i ≤ ds.length ∧ Iv (ds.drop i) i Hc, ⟨ds.length, by simp, Nat.zero_le _, S1, [], [], a1.rs.laid hD, Step.laid hD, nS, upd_same, rfl, Nat.le_refl _, k⟩, ?_⟩
  rintro i m Hc ⟨rfl, hi, Sc, acc, vacc, rs, st, nD, eD, racc, hacc, hk⟩
  by_cases hlt : i < ds.length
  · obtain ⟨d, hd⟩ : ∃ d, ds[i]? = some d := ⟨_, List.getElem?_eq_getElem hlt⟩
    have hdrop : ds.drop i = d :: ds.drop (i + 1) := by
      rw [List.drop_eq_getElem_cons hlt]
      have := List.getElem?_eq_getElem hlt
      rw [hd] at this
      cases this
      rfl
    rw [hdrop] at hk
    unfold eachW at hk
    rw [← hF] at hk
    obtain ⟨ok, hk⟩ := hk
    obtain ⟨go, yl⟩ := (wk Sc Hc st rs ok).1 i d hd
    refine .inr ⟨go, Iv (ds.drop (i + 1)) (i + 1), fun H' n => ⟨ds.length - (i + 1), by omega, rfl, hlt, n⟩, fun x H2 y => ?_⟩
    obtain ⟨st2, rs2, rd2⟩ := yl x H2 y
    have stS := (st1.trans st).trans st2
    have aw : Stt L.in_ (wipeE env (tgSlots tg)) Sc (wipe σ (tgSlots tg)) H2 := ⟨(a.re.mono (stS.tmono a.rs)).wipe _, rs2, a.st.trans stS⟩
    refine ⟨wipeE env (tgSlots tg), Sc, d, aw, rd2, tgW_mono gi tg noU (DS.le.refl _) (fun env1 A B hle k1 σ3 H3 st3 rs3 re3 sb => ⟨(by rw [sb.wipe, wipe_wipe]), ?_⟩) hk⟩
    have st3' := st3.forget hle
    have a3 : Stt L.in_ env1 A σ3 H3 := ⟨re3, rs3.forget hle, aw.st.trans st3'⟩
    have e2 : H2 Dl = some (.lst vacc) := st2.fr Dl _ eD nD (fun ps z => by cases z)
    refine liftTo_of (X := X.blk X.s_0 H ⟨.function, [], false, false, []⟩ (compEnvC ⟨.function, [], false, false, []⟩ [] 0 X.env) []) (g.blk X.s_0 H _ 0 [] []) a3 k1 fun b H4 S4 a4 st4 k4 => ?_
    have e4 : ∀ {Sz : DS} {Hz : Hp}, Step Sc H2 Sz Hz → Hz Dl = some (.lst vacc) ∧ Sz Dl = none := fun z => ⟨z.fr Dl _ e2 nD (fun ps z => by cases z), z.nul e2 nD (fun ps z => by cases z)⟩
    cases b with
    | true =>
      rw [if_pos rfl]
      refine lift_of (X := X.blk X.s_0 H ⟨.function, [], false, false, []⟩ (compEnvC ⟨.function, [], false, false, []⟩ [] 0 X.env) []) (g.blk X.s_0 H _ 0 [] []) a4 k4 fun dy yv H5 S5 a5 st5 rdy k5 => ?_
      have stE := (st3'.trans st4).trans st5
      obtain ⟨q1, q2⟩ := e4 stE
      have racc5 : RelDs L.R H5 acc vacc := RelDs.mono ((st2.trans stE).tmono rs) _ _ racc
      have tm := tmono_lst (K := L.R.K) (o := .lst (vacc ++ [yv])) q1
      refine ⟨vacc, q1, by rw [lim_eq, racc.length]; omega, S5, acc ++ [dy], vacc ++ [yv], a5.rs.redo q1 q2, ((st.trans st2).trans stE).redo hD, q2, upd_same, ?_, by rw [List.length_append]; simp; omega, ?_⟩
      · exact RelDs.append (RelDs.mono tm _ _ racc5) ⟨yv, [], rfl, RelD.mono tm _ _ rdy, rfl⟩
      · have e : (fun xs S2 => QF ((acc ++ [dy]) ++ xs) S2) = fun xs S2 => QF (acc ++ dy :: xs) S2 := by
          funext xs S2
          rw [List.append_assoc]
          rfl
        rw [e]
        rw [← hF]
        exact k5
    | false =>
      rw [if_neg Bool.false_ne_true]
      have stE := st3'.trans st4
      obtain ⟨q1, q2⟩ := e4 stE
      refine ⟨S4, acc, vacc, a4.rs, (st.trans st2).trans stE, q2, q1, RelDs.mono ((st2.trans stE).tmono rs) _ _ racc, by omega, ?_⟩
      rw [← hF]
      exact k4
  · have e : i = ds.length := by omega
    subst e
    rw [List.drop_length] at hk
    unfold eachW at hk
    rw [List.append_nil] at hk
    refine .inl ⟨(wk Sc Hc st rs hk.1).2, ?_⟩
    exact hk.2 _ Hc (st1.trans st) rs ⟨Dl, vacc, rfl, st1.fre hD, nD, eD, racc⟩

theorem blk_own {l : List Nat} {scope : Scope} (h1 : blkC Γ.N Γ.sc scope (ownOf Γ l) = true) (g : GoodX X Γ L) : BlkOk X.N X.env.scope scope (ownOf Γ l) := by
  rw [g.N, g.sc]
  exact blkOk_by h1
theorem l_lc (g : GoodX X Γ L) {c : C} {tg : Tg} {w : PD.W} {t : Option Te} {y tgt it : Expr} {ifs : List Expr} {scope : Scope} {pos : Pos} (h0 : noSet it = true) (h1 : blkC Γ.N Γ.sc scope (ownOf Γ (tgSlots tg)) = true) (h2 : (ownOf Γ (tgSlots tg)).map (·.2) = tgSlots tg)
    (hw : PI X tgt it (liftW L w)) (hg : ∀ {X' : Cx}, GoodX X' (blkCk Γ scope) L.in_ → PG X' tgt (liftG L.in_ tg)) (ht : ∀ {X' : Cx}, GoodX X' (blkCk Γ scope) L.in_ → PTs X' ifs (liftTo L.in_ t)) (he : ∀ {X' : Cx}, GoodX X' (blkCk Γ scope) L.in_ → PE X' y (liftC L.in_ c)) :
    PE X (.ListComp y [⟨tgt, it, ifs, 0⟩] scope pos) (liftL L (.lc c tg w t)) := by
  have hs : ∀ x, foldedSetIterable it X.env x = pure x := by
    intro x
    cases it <;> first | rfl | cases h0
  have p := pe_lc (pos := pos) g.calm g.nd hw (blk_own h1 g) (fun s H C cl fp => hg (g.blk s H scope C cl fp)) (fun s H C cl fp => ht (g.blk s H scope C cl fp)) (fun s H C cl fp => he (g.blk s H scope C cl fp)) hs
  rw [h2] at p
  exact ⟨fun pins s σ H Q I h => p.run pins s σ H Q I (lc_lift g g.gle h)⟩
end

/-! ### what is checked is read rightly -/
def isBool : Expr → Bool
  | .BoolOp _ _ _ => true
  | _ => false
theorem callN_of {e : Expr} {x : Str} {es : List Expr} (h : callN e = some (x, es)) : ∃ p pos, e = .Call (.Name x p) es [] pos := by
  unfold callN at h
  split at h
  · cases h
    exact ⟨_, _, rfl⟩
  · cases h
theorem chk_cmp {Γ : Ck} {o : Cm} {a b : C} {e : Expr} (h : chkC Γ (.cmp o a b) e = true) : ∃ x op y pos, e = .Compare x [op] [y] pos ∧ cmA o op = true ∧ chkC Γ a x = true ∧ chkC Γ b y = true ∧ behindInMarks op y = false := by
  unfold chkC at h
  split at h
  · simp only [Bool.and_eq_true, Bool.not_eq_true'] at h
    exact ⟨_, _, _, _, rfl, h.1.1.1, h.1.1.2, h.1.2, h.2⟩
  · cases h
theorem chk_chain {Γ : Ck} {o p : Cm} {a b c : C} {e : Expr} (h : chkC Γ (.chain o p a b c) e = true) : ∃ x op op' y z pos, e = .Compare x [op, op'] [y, z] pos ∧ cmA o op = true ∧ cmA p op' = true ∧ chkC Γ a x = true ∧ chkC Γ b y = true ∧ chkC Γ c z = true ∧ lastMarks [op, op'] [y, z] = false := by
  unfold chkC at h
  split at h
  · simp only [Bool.and_eq_true, Bool.not_eq_true'] at h
    exact ⟨_, _, _, _, _, _, rfl, h.1.1.1.1.1, h.1.1.1.1.2, h.1.1.1.2, h.1.1.2, h.1.2, h.2⟩
  · cases h
mutual
theorem C.ok : ∀ (c : C) {X : Cx} {Γ : Ck} {L : LC} {e : Expr}, GoodX X Γ L → chkC Γ c e = true → PE X e (liftC L c)
  | .var i, X, Γ, L, e, g, h => by
    unfold chkC at h
    split at h
    · simp only [Bool.and_eq_true, decide_eq_true_eq] at h
      exact c_var g h.1.1 h.1.2 h.2
    · cases h
  | .int i, X, Γ, L, e, g, h => by
    unfold chkC at h
    split at h
    · rw [of_decide_eq_true h]
      exact c_int
    · cases h
  | .str x, X, Γ, L, e, g, h => by
    unfold chkC at h
    split at h
    · simp only [Bool.and_eq_true, decide_eq_true_eq, List.all_eq_true] at h
      obtain ⟨⟨h1, h2⟩, h3⟩ := h
      subst h1
      exact c_str h2 h3
    · cases h
  | .bl b, X, Γ, L, e, g, h => by
    unfold chkC at h
    split at h
    · rw [of_decide_eq_true h]
      exact c_bl
    · cases h
  | .non, X, Γ, L, e, g, h => by
    unfold chkC at h
    split at h
    · exact c_non
    · cases h
  | .gl i, X, Γ, L, e, g, h => by
    unfold chkC at h
    split at h
    · simp only [Bool.and_eq_true] at h
      obtain ⟨⟨h1, h2⟩, h3⟩ := h
      split at h1
      · rename_i p hp
        have := of_decide_eq_true h1
        subst this
        exact c_gl g hp h2 h3
      · cases h1
    · cases h
  | .ty n, X, Γ, L, e, g, h => by
    unfold chkC at h
    split at h
    · simp only [Bool.and_eq_true, decide_eq_true_eq] at h
      obtain ⟨⟨⟨h1, h2⟩, h3⟩, h4⟩ := h
      subst h1
      exact c_ty g h2 h3 h4
    · cases h
  | .neg a, X, Γ, L, e, g, h => by
    unfold chkC at h
    split at h
    · exact c_neg g (C.ok a g h)
    · cases h
  | .not a, X, Γ, L, e, g, h => by
    unfold chkC at h
    split at h
    · exact c_not g (C.ok a g h)
    · cases h
  | .bin o a b, X, Γ, L, e, g, h => by
    unfold chkC at h
    split at h
    · simp only [Bool.and_eq_true] at h
      exact c_bin g h.1.1 (C.ok a g h.1.2) (C.ok b g h.2)
    · cases h
  | .and a b, X, Γ, L, e, g, h => by
    unfold chkC at h
    split at h
    · simp only [Bool.and_eq_true] at h
      refine c_and g (C.ok a g h.1) ?_
      have h2 := h.2
      split at h2
      · exact pe_one (C.ok b g h2)
      · exact C.ok b g h2
    · cases h
  | .or a b, X, Γ, L, e, g, h => by
    unfold chkC at h
    split at h
    · simp only [Bool.and_eq_true] at h
      refine c_or g (C.ok a g h.1) ?_
      have h2 := h.2
      split at h2
      · exact pe_one (C.ok b g h2)
      · exact C.ok b g h2
    · cases h
  | .ite t a b, X, Γ, L, e, g, h => by
    unfold chkC at h
    split at h
    · simp only [Bool.and_eq_true] at h
      exact c_ite g (Te.ok t g h.1.1).1 (C.ok a g h.1.2) (C.ok b g h.2)
    · cases h
  | .cmp o a b, X, Γ, L, e, g, h => by
    unfold chkC at h
    split at h
    · simp only [Bool.and_eq_true, Bool.not_eq_true'] at h
      exact c_cmp g h.1.1.1 (C.ok a g h.1.1.2) (C.ok b g h.1.2) h.2
    · cases h
  | .chain o p a b c, X, Γ, L, e, g, h => by
    unfold chkC at h
    split at h
    · simp only [Bool.and_eq_true, Bool.not_eq_true'] at h
      exact c_chain g h.1.1.1.1.1 h.1.1.1.1.2 (C.ok a g h.1.1.1.2) (C.ok b g h.1.1.2) (C.ok c g h.1.2) h.2
    · cases h
  | .call f es, X, Γ, L, e, g, h => by
    unfold chkC at h
    split at h
    · rename_i x ys F h1 h2
      simp only [Bool.and_eq_true, decide_eq_true_eq, Bool.not_eq_true'] at h
      obtain ⟨p, pos, rfl⟩ := callN_of h1
      obtain ⟨⟨⟨⟨h0, h3⟩, h4⟩, h5⟩, h6⟩ := h
      subst h3
      exact c_call g h0 h2 h4 h5 h6 (Cs.ok es g h6)
    · cases h
  | .callL f es, X, Γ, L, e, g, h => by
    unfold chkC at h
    split at h
    · rename_i x ys F h1 h2
      simp only [Bool.and_eq_true, decide_eq_true_eq] at h
      obtain ⟨p, pos, rfl⟩ := callN_of h1
      obtain ⟨⟨⟨⟨h0, h3⟩, h4⟩, h5⟩, h6⟩ := h
      subst h3
      exact c_callL g h0 h2 h4 h5 h6 (Cs.ok es g h6)
    · cases h
  | .told t b, X, Γ, L, e, g, h => by
    unfold chkC at h
    split at h
    · rename_i x p params body scope lp pos hh ht
      simp only [Bool.and_eq_true, decide_eq_true_eq, Bool.not_eq_true'] at h
      obtain ⟨⟨⟨⟨⟨⟨⟨h0, h1⟩, h2⟩, h3⟩, h4⟩, h5⟩, h6⟩, h7⟩ := h
      subst h2
      exact c_told g h0 h1 ht h3 h4 h5 h6 (fun g' => C.ok b g' h7)
    · cases h
  | .callv i es, X, Γ, L, e, g, h => by
    unfold chkC at h
    cases h
  | .bi b es, X, Γ, L, e, g, h => by
    unfold chkC at h
    split at h
    · rename_i x ys h1
      simp only [Bool.and_eq_true, decide_eq_true_eq, Bool.not_eq_true'] at h
      obtain ⟨p, pos, rfl⟩ := callN_of h1
      obtain ⟨⟨⟨h3, h4⟩, h5⟩, h6⟩ := h
      subst h3
      exact c_bi g h4 h5 h6 (Cs.ok es g h6)
    · cases h
  | .biL b l, X, Γ, L, e, g, h => by
    unfold chkC at h
    split at h
    · rename_i x y h1
      simp only [Bool.and_eq_true, decide_eq_true_eq] at h
      obtain ⟨p, pos, rfl⟩ := callN_of h1
      obtain ⟨⟨⟨⟨h3, h4⟩, h5⟩, h6⟩, h7⟩ := h
      subst h3
      exact c_biL g h4 h5 h6 (L.ok l g h7)
    · cases h
  | .mth m o es, X, Γ, L, e, g, h => by
    unfold chkC at h
    split at h
    · simp only [Bool.and_eq_true, decide_eq_true_eq] at h
      obtain ⟨⟨⟨⟨⟨⟨h1, h2⟩, h4⟩, h5⟩, h3⟩, h6⟩, h7⟩ := h
      by_cases hm : m = .setdefault
      · subst hm
        subst h1
        refine c_setd g h2 h4 ?_ h7 (C.ok o g h6) (Cs.ok es g h7)
        simpa using h3
      · exact c_mth g h1 h2 hm h4 h5 h7 (C.ok o g h6) (Cs.ok es g h7)
    · cases h
  | .ext o l, X, Γ, L, e, g, h => by
    unfold chkC at h
    split at h
    · simp only [Bool.and_eq_true, decide_eq_true_eq, Bool.not_eq_true'] at h
      obtain ⟨⟨⟨⟨⟨⟨h1, h2⟩, h3⟩, h4⟩, h5⟩, h6⟩, h7⟩ := h
      subst h1
      exact c_ext g h2 h3 h4 h5 (C.ok o g h6) (L.ok l g h7)
    · cases h
  | .ix a i, X, Γ, L, e, g, h => by
    unfold chkC at h
    split at h
    · simp only [Bool.and_eq_true] at h
      exact c_ix g (C.ok a g h.1.1) (C.ok i g h.1.2) h.2
    · cases h
  | .sl a lo hi, X, Γ, L, e, g, h => by
    unfold chkC at h
    split at h
    · simp only [Bool.and_eq_true] at h
      exact c_sl g (C.ok a g h.1.1) (O.ok lo g h.1.2) (O.ok hi g h.2)
    · cases h
  | .tup es, X, Γ, L, e, g, h => by
    unfold chkC at h
    split at h
    · exact c_tup g (Cs.ok es g h)
    · cases h
  | .mk l, X, Γ, L, e, g, h => by
    unfold chkC at h
    simp only [Bool.and_eq_true] at h
    exact c_mk g h.1 (L.ok l g h.2)
  | .dct0, X, Γ, L, e, g, h => by
    unfold chkC at h
    split at h
    · exact c_dct0 g
    · cases h
theorem Cs.ok : ∀ (cs : List C) {X : Cx} {Γ : Ck} {L : LC} {es : List Expr}, GoodX X Γ L → chkCs Γ cs es = true → PA X es (liftA L cs)
  | [], X, Γ, L, es, g, h => by
    unfold chkCs at h
    rw [List.isEmpty_iff.mp h]
    exact a_nil
  | c :: cs, X, Γ, L, es, g, h => by
    unfold chkCs at h
    split at h
    · simp only [Bool.and_eq_true] at h
      exact a_cons g h.1.1 (C.ok c g h.1.2) (Cs.ok cs g h.2)
    · cases h
theorem O.ok : ∀ (o : Option C) {X : Cx} {Γ : Ck} {L : LC} {e : Option Expr}, GoodX X Γ L → chkO Γ o e = true → PO X e (liftO L o)
  | none, X, Γ, L, e, g, h => by
    unfold chkO at h
    cases e with
    | none => exact o_none
    | some _ => cases h
  | some c, X, Γ, L, e, g, h => by
    unfold chkO at h
    split at h
    · exact o_some g (C.ok c g h)
    · cases h
theorem To.ok : ∀ (o : Option Te) {X : Cx} {Γ : Ck} {L : LC} {es : List Expr}, GoodX X Γ L → chkTo Γ o es = true → PTs X es (liftTo L o)
  | none, X, Γ, L, e, g, h => by
    unfold chkTo at h
    rw [List.isEmpty_iff.mp h]
    exact ts_none
  | some c, X, Γ, L, e, g, h => by
    unfold chkTo at h
    split at h
    · exact ts_some (Te.ok c g h).1
    · cases h
theorem Te.ok : ∀ (t : Te) {X : Cx} {Γ : Ck} {L : LC} {e : Expr}, GoodX X Γ L → chkT Γ t e = true → PT X e (liftB L t) ∧ (isBool e = true → PW X e (liftB L t))
  | .and a b, X, Γ, L, e, g, h => by
    unfold chkT at h
    split at h
    · rename_i x y ys p
      simp only [Bool.and_eq_true] at h
      have hb : PW X (.BoolOp .And (y :: ys) p) (liftB L b) := by
        have h2 := h.2
        cases ys with
        | nil => exact pw_and1 (Te.ok b g h2).1
        | cons z zs => exact (Te.ok b g h2).2 rfl
      have q := w_and g (Te.ok a g h.1).1 hb
      exact ⟨q.pt, fun _ => q⟩
    · cases h
  | .or a b, X, Γ, L, e, g, h => by
    unfold chkT at h
    split at h
    · rename_i x y ys p
      simp only [Bool.and_eq_true] at h
      have hb : PW X (.BoolOp .Or (y :: ys) p) (liftB L b) := by
        have h2 := h.2
        cases ys with
        | nil => exact pw_or1 (Te.ok b g h2).1
        | cons z zs => exact (Te.ok b g h2).2 rfl
      have q := w_or g (Te.ok a g h.1).1 hb
      exact ⟨q.pt, fun _ => q⟩
    · cases h
  | .not a, X, Γ, L, e, g, h => by
    unfold chkT at h
    split at h
    · exact ⟨t_not g (Te.ok a g h).1, fun z => by cases z⟩
    · cases h
  | .val c, X, Γ, L, e, g, h => by
    unfold chkT at h
    split at h
    · refine ⟨?_, fun z => by cases z⟩
      split at h
      · rename_i o a b
        obtain ⟨x, op, y, pos, e, h1, h2, h3, h4⟩ := chk_cmp h
        rw [e]
        exact t_cmp g h1 (C.ok a g h2) (C.ok b g h3) h4
      · rename_i o p a b c
        obtain ⟨x, op, op', y, z, pos, e, h1, h2, h3, h4, h5, h6⟩ := chk_chain h
        rw [e]
        exact t_chain g h1 h2 (C.ok a g h3) (C.ok b g h4) (C.ok c g h5) h6
      · cases h
    · simp only [Bool.and_eq_true] at h
      refine ⟨t_val g h.1 (C.ok c g h.2), fun z => ?_⟩
      have h1 := h.1
      cases e <;> first | exact nomatch (show false = true from z) | exact nomatch (show false = true from h1)
theorem L.ok : ∀ (l : PD.L) {X : Cx} {Γ : Ck} {L : LC} {e : Expr}, GoodX X Γ L → chkL Γ l e = true → PE X e (liftL L l)
  | .ex c, X, Γ, L, e, g, h => by
    unfold chkL at h
    exact l_ex g (C.ok c g h)
  | .exl c, X, Γ, L, e, g, h => by
    unfold chkL at h
    exact l_exl g (C.ok c g h)
  | .lst es, X, Γ, L, e, g, h => by
    unfold chkL at h
    split at h
    · exact l_lst g (Cs.ok es g h)
    · cases h
  | .lc c tg w t, X, Γ, L, e, g, h => by
    unfold chkL at h
    split at h
    · simp only [Bool.and_eq_true, decide_eq_true_eq] at h
      obtain ⟨⟨⟨⟨⟨⟨h1, h2⟩, h3⟩, h4⟩, h5⟩, h6⟩, h7⟩ := h
      exact l_lc g h1 h3 h4 (W.ok w g h2) (fun g' => Tg.ok tg g' h5) (fun g' => To.ok t g' h6) (fun g' => C.ok c g' h7)
    · cases h
theorem W.ok : ∀ (w : PD.W) {X : Cx} {Γ : Ck} {L : LC} {tg e : Expr}, GoodX X Γ L → chkW Γ w tg e = true → PI X tg e (liftW L w)
  | .ex c, X, Γ, L, tg, e, g, h => by
    unfold chkW at h
    simp only [Bool.and_eq_true] at h
    exact w_ex g (C.ok c g h.2)
  | .fl l, X, Γ, L, tg, e, g, h => by
    unfold chkW at h
    simp only [Bool.and_eq_true] at h
    exact w_fl g h.1 (L.ok l g h.2)
  | .range1 a, X, Γ, L, tg, e, g, h => by
    unfold chkW at h
    split at h
    · rename_i x y h1
      simp only [Bool.and_eq_true, decide_eq_true_eq] at h
      obtain ⟨p, pos, rfl⟩ := callN_of h1
      obtain ⟨⟨⟨h3, h4⟩, h5⟩, h6⟩ := h
      subst h3
      exact w_range1 g h4 h5 (C.ok a g h6)
    · cases h
  | .range2 a b, X, Γ, L, tg, e, g, h => by
    unfold chkW at h
    split at h
    · rename_i x y z h1
      simp only [Bool.and_eq_true, decide_eq_true_eq] at h
      obtain ⟨p, pos, rfl⟩ := callN_of h1
      obtain ⟨⟨⟨⟨⟨h3, h4⟩, h5⟩, h6⟩, h7⟩, h8⟩ := h
      subst h3
      exact w_range2 g h4 h5 h6 (C.ok a g h7) (C.ok b g h8)
    · cases h
  | .enum c, X, Γ, L, tg, e, g, h => by
    unfold chkW at h
    split at h
    · rename_i x y h1
      simp only [Bool.and_eq_true, decide_eq_true_eq] at h
      obtain ⟨p, pos, rfl⟩ := callN_of h1
      obtain ⟨⟨⟨h3, h4⟩, h5⟩, h6⟩ := h
      subst h3
      exact w_enum g h4 h5 (C.ok c g h6)
    · cases h
  | .zip a b, X, Γ, L, tg, e, g, h => by
    unfold chkW at h
    split at h
    · rename_i x y z h1
      simp only [Bool.and_eq_true, decide_eq_true_eq] at h
      obtain ⟨p, pos, rfl⟩ := callN_of h1
      obtain ⟨⟨⟨⟨⟨h3, h4⟩, h5⟩, h6⟩, h7⟩, h8⟩ := h
      subst h3
      exact w_zip g h4 h5 h6 (C.ok a g h7) (C.ok b g h8)
    · cases h
theorem Tg.ok : ∀ (t : Tg) {X : Cx} {Γ : Ck} {L : LC} {e : Expr}, GoodX X Γ L → chkG Γ t e = true → PG X e (liftG L t)
  | .name i, X, Γ, L, e, g, h => by
    unfold chkG at h
    split at h
    · simp only [Bool.and_eq_true, decide_eq_true_eq] at h
      exact g_name g h.1 h.2
    · cases h
  | .tup ts, X, Γ, L, e, g, h => by
    unfold chkG at h
    split at h
    · exact g_tup g h (Tgs.ok ts g h)
    · cases h
  | .sub o i, X, Γ, L, e, g, h => by
    unfold chkG at h
    split at h
    · simp only [Bool.and_eq_true] at h
      exact g_sub g (C.ok o g h.1.1) (C.ok i g h.1.2) h.2
    · cases h
theorem Tgs.ok : ∀ (ts : List Tg) {X : Cx} {Γ : Ck} {L : LC} {es : List Expr}, GoodX X Γ L → chkGs Γ ts es = true → PGs X es (liftGs L ts)
  | [], X, Γ, L, es, g, h => by
    unfold chkGs at h
    rw [List.isEmpty_iff.mp h]
    exact gs_nil g
  | t :: ts, X, Γ, L, es, g, h => by
    unfold chkGs at h
    split at h
    · simp only [Bool.and_eq_true] at h
      exact gs_cons g h.1.1 (Tg.ok t g h.1.2) (Tgs.ok ts g h.2)
    · cases h
end
end PD
end
section
set_option Elab.async false
set_option linter.all false
set_option maxRecDepth 100000
set_option maxHeartbeats 2000000
/-! PyD, part X: own exception classes over Exception: without __init__; with one that stores its parameters. -/
namespace PD
open PySem PySem.Spec PyProof.Rows L2

def exB : List Value := [.type "Exception", .type "BaseException", .type "object"]
/-- what the written part says of such a class -/
structure OexE (K : PySem.W.Frag) (C : Addr) : Prop where
  q : PySem.W.excInitIn K C exB "Exception.__new__" = true
  ov : PySem.W.excOver K C exB = true
  hd : PySem.W.hasDictIn K C = true
  sa : PySem.W.findIn K (.ref C) "__setattr__" = some (some (.builtin "object.__setattr__"))
  exC : PySem.W.subIn K (.ref C) (.type "BaseException") = some true
  tyC : PySem.W.typeIn K (.ref C) = some (.type "type")
  kC : PySem.W.keepIn K (.ref C) = true

section
open PySem.W PySem.Calls PySem.HandSPX Builtin Builtin.ObjectAttr
variable {prog : Program} {w : World} {A : Around} {E : Value → Shared → Prop} {R : Result → Shared → Prop} {hp : Heap} {g : Array GenState} {d : Drawn} {t : Nat} {os : OsState}
theorem exc_osaE {K : PySem.W.Frag} {name : Str} {tk : Tok} {v : Value} {x C t1 : Addr} (X : K.In hp) (T : OexE K C) (hx : hp.get? x = some (PySem.W.excObj C t1 none .none)) (ha : PySem.W.takerIn K C name = some none)
    (hq : ∀ h' tk' dx, (∀ b o, b ≠ x → hp.get? b = some o → h'.get? b = some o) → hp.objs.size ≤ dx → dx ≠ x → h'.get? x = some (PySem.W.excObj C t1 (some dx) .none) →
      h'.Ns1 dx (fun y => if y = name then some v else none) → R (.ok (.ret .none)) ⟨h', g, d, tk', os⟩) :
    codeAny (model prog w) A (.call (.builtin "object.__setattr__") ⟨[.ref x, .str name tk, v], []⟩) R ⟨hp, g, d, t, os⟩ := by
  have hxs : x ≠ hp.objs.size := Nat.ne_of_lt (Heap.lt_size hx)
  refine PySem.W.osa_openX (s := ⟨hp, g, d, t, os⟩) (od := none) PySem.F.store_Exception X ⟨hx, rfl, rfl, trivial⟩ T.ov ha fun b => ?_
  obtain ⟨cd, hc, hd'⟩ := PySem.W.any_some T.hd
  refine wpAny_bind (wpAny_pure (wpAny_bind (PySem.W.instanceDict_exc (s := ⟨hp, g, d, t, os⟩) hx (PySem.W.looks_clsIn X hc) hd' ?_)))
  show wpAny _ _ (storeInDict hp.objs.size (.str name tk) name v) _ _ _
  refine store_in_new ?_ ?_
  · exact ⟨_, #[], _, (Heap.get?_update_ne _ _ _ _ hxs.symm).trans (Heap.get?_push_at rfl rfl), rfl, fun e he => absurd he (by simp), fun _ => rfl⟩
  · intro h' tk' hn' hs
    have hx₁ : (hp.push (dictOf [] 0)).get? x = some (PySem.W.excObj C t1 none .none) := Heap.get?_push_of_some _ hx
    refine hq h' tk' hp.objs.size (fun b o hb ho => ?_) (Nat.le_refl _) hxs.symm ?_ hn'
    · exact (hs.2 b (Nat.ne_of_lt (Heap.lt_size ho))).trans ((Heap.get?_update_ne _ _ _ _ hb).trans (Heap.get?_push_of_some _ ho))
    · exact (hs.2 x hxs).trans (Heap.get?_update_self _ hx₁ rfl)
end
section
variable {X : Cx} {pins : List (Addr × Obj)} {σ : L2.St} {H : Hp} {s : Shared} {a C dx : Addr} {f : Str} {y : V} {u : Value} {fs : List (Str × V)} {E : Value → Shared → Prop} {A : Around}
/-- self.f = y, the first one -/
theorem ost_newE {Q : Unit → Shared → Prop} (T : OexE X.K C) (I : Inv X pins σ H s) (e : H a = some (exo a C none)) (hno : PySem.W.takerIn X.K C f = some none) (ry : RelV y u)
    (h : ∀ dx s', H dx = none → dx ≠ a → Inv X pins σ (upd (upd H dx (exd dx [(f, y)])) a (exo a C (some dx))) s' → Q () s') : wpAny (model X.prog X.w) A (setAttr (.ref a) f u) Q E s := by
  obtain ⟨t1, ho⟩ := exo_at I.hok e
  obtain ⟨hp, g, d, t, os⟩ := s
  refine PySem.W.set_plain I.kIn (ox := { cls := .ref C, dict := none, data := .fields #[.ref t1, .none, .none, .none, .bool false, .none] }) (od := none) ⟨ho, rfl, rfl, trivial⟩ T.sa ?_
  refine exc_osaE I.kIn T ho hno (fun h' tk' dx k dn dne hx hn => ?_)
  have hnd : H dx = none := I.hok.fresh dn
  have nd : ∀ {b : Addr} {o : Obj}, hp.get? b = some o → b ≠ dx := fun {b o} q => Nat.ne_of_lt (Nat.lt_of_lt_of_le (Heap.lt_size q) dn)
  have na : ∀ {b : Addr}, H b = none → b ≠ a := fun {b} n z => by
    rw [z, e] at n
    cases n
  have Un1 : Un X.fs [] H (upd (upd H dx (exd dx [(f, y)])) a (exo a C (some dx))) hp h' := {
    keep := fun b o q n _ _ => k b o (na n) q
    slot := fun b o q n _ _ => ⟨o.slots, k b o (na n) q⟩
    free := fun b o q n _ => by rw [upd_ne (na n), upd_ne (nd q)]; exact n
    there := fun b o q _ => by
      by_cases hb : b = a
      · exact ⟨_, by rw [hb]; exact hx⟩
      · exact ⟨o, k b o hb q⟩
    tups := fun b xs q => by rw [upd_ne (at_ne e q exo_tup), upd_ne (ne_of_none q hnd)]; exact q
    frzs := fun b o v q => by rw [upd_ne (at_ne e q exo_frz), upd_ne (ne_of_none q hnd)]; exact q
    tbls := fun b ps q => ⟨#[], by rw [upd_ne (at_ne e q exo_tbl), upd_ne (ne_of_none q hnd), q]; simp⟩ }
  refine h dx _ hnd dne (I.un (t' := tk') Un1 fun b o q => ?_)
  by_cases hb : b = a
  · subst hb
    rw [upd_same] at q
    cases q
    exact exo_ok hx
  · rw [upd_ne hb] at q
    by_cases hd : b = dx
    · subst hd
      rw [upd_same] at q
      cases q
      exact exd_ok hn (relO_put (fs := []) ry fun g => True.intro)
    · rw [upd_ne hd] at q
      exact (I.hok b o q).stay (fun c v hc z => k c v (by
          rcases hc with hc | hc
          · rw [hc]
            exact hb
          · exact at_ne e hc exo_own) z)
        (fun c hc => by rw [upd_ne (at_ne e hc exo_own), upd_ne (ne_of_none hc hnd)]; exact hc) (fun c xs hc => by rw [upd_ne (at_ne e hc exo_tup), upd_ne (ne_of_none hc hnd)]; exact hc)
/-- self.f = e -/
def tOstE (K : PySem.W.Frag) (f : Str) (to te : TE) : TS := fun D σ H => te σ H fun y H1 => to σ H1 fun x H2 => ∃ a C : Addr, x = .ref a ∧ OexE K C ∧ PySem.W.takerIn K C f = some none ∧
  H2 a = some (exo a C none) ∧ ∀ dx, H2 dx = none → dx ≠ a → D.nx σ (upd (upd H2 dx (exd dx [(f, y)])) a (exo a C (some dx)))
theorem ps_ostE {o e : Expr} {to te : TE} {p' pos : Pos} (ho : PE X o to) (he : PE X e te) (hs : swapsWith e (some (.Attribute o f p')) pos.line X.env = pure false := by rfl) : PS X (.Assign [.Attribute o f p'] e pos) (tOstE X.K f to te) := by
  refine ⟨fun pins s σ H D I h => ?_⟩
  refine plainObj_wpAny_Assign_Attribute (thn (he.run pins s σ H _ I h) fun v s1 ⟨y, H1, I1, r1, q1⟩ => thn (ho.run pins s1 σ H1 _ I1 q1) fun u s2 ⟨x, H2, I2, r2, a, C, ex, T, hno, ea, q⟩ => ?_) hs
  subst ex
  obtain rfl : u = Value.ref a := r2
  exact ost_newE T I2 ea hno r1 fun dx s' n ne J => ⟨σ, _, J, q dx n ne⟩
/-- C(e, ..), C's own __init__ keeping sp -/
theorem pmk_oexE {CX : CXT} {x : Str} {C fI : Addr} {k : Nat} {fd : FuncData} {ps : List Str} {sp : Sp} {ds : List Value} {dvs : List V} {e : Expr} {es : List Expr} {ta : TA} {p pos : Pos} (T : OexE X.K C) (iC : PySem.W.findIn X.K (.ref C) "__init__" = some (some (.ref fI))) (tI : PySem.W.typeIn X.K (.ref fI) = some (.type "function"))
    (F1 : FnOk X.prog X.w X.K X.mg X.base CX k fI fd ps sp) (hr : Room (k + 1) X.A) (hb : Binds X.K fd ps ds) (hd : Vals dvs ds) (hx : Passes CX X (fun _ _ _ => False)) (hg : Gl X x) (hm : X.mg x = some (.ref C)) (ha : PA X (e :: es) ta)
    (hdb : (x == ("__debug__" : Str)) = false) (he : starEach (e :: es) X.env = (false, eval e X.env) :: starEach es X.env) (hpl : (backTo pos (starEach es X.env)).any (·.1) = false) :
    PMk X (.Call (.Name x p) (e :: es) [] pos) (tMkO C sp dvs ta) := by
  intro pins s σ H Q I h
  refine wpAny_Call_Name_kw (ld_glob I hg hm ?_ hdb)
  refine PySem.W.callWith_K (h₀ := X.base) I.ok.mod.kin T.kC (thn (ha.run pos pins s σ H _ I h) fun us s1 ⟨vs, H1, I1, r1, hz, q1⟩ => ⟨I1.kIn, ?_⟩) he hpl
  show wpAny _ _ (PySem.call (.ref C) us) _ _ _
  obtain ⟨nm, N', qn, bs, bm, hdct, sn, sub, ab, col, dd, k0, k1, k2, k3, k5, hC, hT⟩ := PySem.W.excInit_of I1.kIn T.q
  obtain ⟨hp, g, dr, tk, os⟩ := s1
  have hsz : hp.objs.size ≤ hp.objs.size + 1 := Nat.le_succ _
  have hn : H1 (hp.objs.size + 1) = none := I1.hok.fresh hsz
  have hq := q1 (hp.objs.size + 1) hn
  have kk : ∀ b o, hp.get? b = some o → ((hp.push (PySem.W.kdv_tup us)).push (PySem.HandSPX.excO C hp.objs.size)).get? b = some o := fun b o e => Heap.get?_push_of_some _ (Heap.get?_push_of_some _ e)
  have hget : ((hp.push (PySem.W.kdv_tup us)).push (PySem.HandSPX.excO C hp.objs.size)).get? (hp.objs.size + 1) = some (PySem.HandSPX.excO C hp.objs.size) := by heap_get
  have I2 : Inv X pins σ (upd H1 (hp.objs.size + 1) (exo (hp.objs.size + 1) C none)) ⟨(hp.push (PySem.W.kdv_tup us)).push (PySem.HandSPX.excO C hp.objs.size), g, dr, tk, os⟩ :=
    I1.laid (t' := tk) (a := hp.objs.size + 1) (o := exo (hp.objs.size + 1) C none) (h' := (hp.push (PySem.W.kdv_tup us)).push (PySem.HandSPX.excO C hp.objs.size)) kk hsz (exo_ok hget)
  have r2 : Vals (V.ref (hp.objs.size + 1) :: (vs ++ dvs)) (Value.ref (hp.objs.size + 1) :: (us ++ ds)) := .cons rfl (r1.append hd)
  have hl : (Value.ref (hp.objs.size + 1) :: us ++ ds).length = ps.length := by
    have e := r2.length
    rw [F1.len _ _ _ _ hq] at e
    exact e.symm
  have hus : us.length ≤ sizeLine := by
    rw [← Paired.length r1, sizeLine_eq]
    omega
  refine wpAny_call (PySem.HandSPX.call_own F.excBase_Exception hT hC (PySem.W.looks_findIn I1.kIn iC) (fun self => PySem.W.bind_fn I1.kIn self tI) hus
    (codeAny_mono (F1.run _ X.stack _ _ ⟨Value.ref (hp.objs.size + 1) :: us, []⟩ (Value.ref (hp.objs.size + 1) :: (us ++ ds)) _ _ (fun _ _ _ => False) (hr.make C us []) (I2.env0.make C us []) (hb _ (Value.ref (hp.objs.size + 1) :: us) I2.kIn hl) r2 hq) fun r s' hq' => ?_))
  cases r with
  | error er => exact hx pins σ _ _ er s' I2 hq'
  | ok fl =>
    cases fl with
    | ret u =>
      obtain ⟨v, H2, os2, bare2, un2, hok2, rv, ev, d, fs, ea, ed, hd1, q2⟩ := hq'
      subst ev
      obtain ⟨h2, g2, d2, t2, os'⟩ := s'
      exact ⟨rv, mk_end (raises_own T.exC T.tyC) I1 hsz kk un2 hok2 os2 bare2 ea ed hd1 q2⟩
    | next => exact False.elim hq'
    | brk => exact False.elim hq'
    | cont => exact False.elim hq'
/-- C() of a class without own __init__ -/
theorem pmk_own0 {x : Str} {C : Addr} {p pos : Pos} (q : PySem.W.excIn X.K C exB "Exception.__new__" = true) (gC : X.mg x = some (.ref C)) (kC : PySem.W.keepIn X.K (.ref C) = true) (r : Raises X (.ref C)) (hg : Gl X x)
    (hdb : (x == ("__debug__" : Str)) = false) : PMk X (.Call (.Name x p) [] [] pos) (fun _ H Q => Q (.ref C) none H) := by
  intro pins s σ H Q I h
  refine wpAny_Call_Name_kw (ld_glob I hg gC ?_ hdb)
  refine PySem.W.callWith_K0 I.kIn kC ?_
  show wpAny _ _ (PySem.call (.ref C) []) _ _ _
  obtain ⟨bm, N, nm, qn, bs, hdct, sn, sub, ab, col, dd, k0, k1, k2, k3, k5, mN, hC, hN, hni, T⟩ := exc_obj I.kIn q
  refine wpAny_call_exc_subT F.excBase_Exception T hC hN hni (fun h' e hm => ?_) (by show 0 ≤ sizeLine; exact Nat.zero_le _)
  exact mk_of I hm r h (I.hok.gone hm.new)
end

/-! ### what holds of the program's exception classes -/
/-- self.f = y -/
def initB (s y f : Str) : List Stmt → Bool
  | [.Assign [.Attribute (.Name s' _) f' _] (.Name y' _) _] => decide (s' = s) && decide (y' = y) && decide (f' = f)
  | _ => false
def InitOk (K : PySem.W.Frag) (C : Addr) (f : Str) : Prop :=
  ∃ (fI : Addr) (fd : FuncData) (q : Str) (params : Arguments) (body : List Stmt) (scope : Scope) (s y : Str), PySem.W.findIn K (.ref C) "__init__" = some (some (.ref fI)) ∧ PySem.W.typeIn K (.ref fI) = some (.type "function") ∧ PySem.W.takerIn K C f = some none ∧
    FunD K "__init__" q params body scope [] [] fI fd ∧ FnScope [s, y] [s, y] scope ∧ Binds K fd [s, y] [] ∧ initB s y f body = true ∧ nmB s = true ∧ nmB y = true
def ClsOk (R : RC) (mg : Str → Option Value) (c : Nat) (C : Cl) : Prop :=
  mg C.name = some (.ref (R.ca c)) ∧ PySem.W.keepIn R.K (.ref (R.ca c)) = true ∧ PySem.W.subIn R.K (.ref (R.ca c)) (.type "BaseException") = some true ∧ PySem.W.typeIn R.K (.ref (R.ca c)) = some (.type "type") ∧ match C.fs with
    | [] => PySem.W.excIn R.K (R.ca c) exB "Exception.__new__" = true
    | [f] => OexE R.K (R.ca c) ∧ InitOk R.K (R.ca c) f
    | _ => False
def spInit (K : PySem.W.Frag) (f : Str) : Sp := fun vs H Q _ => ∃ (a : Addr) (y : V) (C : Addr), vs = [.ref a, y] ∧ OexE K C ∧ PySem.W.takerIn K C f = some none ∧ H a = some (exo a C none) ∧
  ∀ dx, H dx = none → dx ≠ a → Q .non (upd (upd H dx (exd dx [(f, y)])) a (exo a C (some dx)))
theorem init_ok {P : Program} {w : World} {K : PySem.W.Frag} {mg : Str → Option Value} {base : Heap} {CX : CXT} {fI : Addr} {fd : FuncData} {q s y f : Str} {params : Arguments} {body : List Stmt} {scope : Scope} (F : FunD K "__init__" q params body scope [] [] fI fd) (S : FnScope [s, y] [s, y] scope)
    (hb : initB s y f body = true) (n1 : nmB s = true) (n2 : nmB y = true) : FnOk P w K mg base CX 1 fI fd [s, y] (spInit K f) := by
  unfold initB at hb
  split at hb
  · rename_i s' p1 f' p2 y' p3 p4
    simp only [Bool.and_eq_true, decide_eq_true_eq] at hb
    obtain ⟨⟨h1, h2⟩, h3⟩ := hb
    subst h1 h2 h3
    have v1 : Vis scope s' := (S.par s' (by simp)).elim .inl fun z => .inr (.inl z)
    have v2 : Vis scope y' := (S.par y' (by simp)).elim .inl fun z => .inr (.inl z)
    refine F.ok S (fun vs H Q E h => ?_) fun cdv A outer s H vs Q E hr h => ⟨tOstE K f' (tVar 0) (tVar 1), pss_one (ps_ostE (pe_var rfl v1 (nm_of n1).1 (nm_of n1).2.1) (pe_var rfl v2 (nm_of n2).1 (nm_of n2).2.1)), ?_⟩
    · obtain ⟨a, y, C, rfl, _⟩ := h
      rfl
    · obtain ⟨a, y, C, rfl, T, ht, ha, q⟩ := h
      exact ⟨y, rfl, .ref a, rfl, a, C, rfl, T, ht, ha, q⟩
  · cases hb
section
variable {L : LC} {X : Cx} {Γ : Ck} {H : Hp} {S : DS} {env : Env} {σ : L2.St}
theorem passF {X : Cx} : Passes (L2.CX X.prog X.w) X (fun _ _ _ => False) := fun pins σ H s e s' I c => by
  obtain ⟨_, _, _, _, _, _, _, _, _, _, _, _, z⟩ := c
  exact z.elim
/-- C() -/
theorem mk_raise0 (g : GoodX X Γ L) {c : Nat} {C : Cl} (ok : ClsOk L.R X.mg c C) (hf : C.fs = []) {p pos : Pos} (h1 : glB Γ C.name = true) (h2 : nmB C.name = true) : PMk X (.Call (.Name C.name p) [] [] pos) (fun _ H Q => Q (.ref (L.R.ca c)) none H) := by
  obtain ⟨m, k, b, t, q⟩ := ok
  rw [hf] at q
  exact pmk_own0 (by rw [g.K]; exact q) m (by rw [g.K]; exact k) (raises_own (by rw [g.K]; exact b) (by rw [g.K]; exact t)) (gl_of g h1) (nm_of h2).1
theorem raise0_k {c : Nat} (a : Stt L env S σ H) (w : L.Ex ⟨c, []⟩ S) : xk L (.ref (L.R.ca c)) none H := ⟨⟨c, []⟩, S, a.st, a.rs, ⟨rfl, .inl rfl⟩, w⟩
/-- C(e) -/
theorem mk_raise1 (g : GoodX X Γ L) {c : Nat} {C : Cl} {f : Str} (ok : ClsOk L.R X.mg c C) (hf : C.fs = [f]) {e : Expr} {ce : PD.C} {p pos : Pos} (h1 : glB Γ C.name = true) (h2 : nmB C.name = true) (hs : noStar e = true) (ha : PA X [e] (liftA L [ce])) :
    PMk X (.Call (.Name C.name p) [e] [] pos) (tMkO (L.R.ca c) (spInit X.K f) [] (liftA L [ce])) := by
  obtain ⟨m, k, b, t, q⟩ := ok
  rw [hf] at q
  obtain ⟨T, fI, fd, qn, params, body, scope, s, y, i1, i2, i3, i4, i5, i6, i7, i8, i9⟩ := q
  rw [← g.K] at T i1 i2 i3 i4 i6
  obtain ⟨kk, hk, hr, _⟩ := g.lows
  have hr2 : Room 2 X.A := hr.mono (by split <;> omega)
  exact pmk_oexE (CX := L2.CX X.prog X.w) T i1 i2 (init_ok i4 i5 i7 i8 i9) hr2 i6 .nil passF (gl_of g h1) m ha (nm_of h2).1 (star_of hs [] _) rfl
theorem raise1_k (g : GoodX X Γ L) {c : Nat} {C : Cl} {f : Str} {ce : PD.C} (hP : Γ.P.cls[c]? = some C) (ok : ClsOk L.R X.mg c C) (hf : C.fs = [f]) (a : Stt L env S σ H) (w : evCs L.G [ce] env S (fun ds S1 => L.Ex ⟨c, ds⟩ S1) L.Ex) :
    tMkO (L.R.ca c) (spInit X.K f) [] (liftA L [ce]) σ H fun cls d H' => xk L cls d H' := by
  obtain ⟨m, k, b, t, q⟩ := ok
  rw [hf] at q
  obtain ⟨T, fI, fd, qn, params, body, scope, s, y, i1, i2, i3, i4, i5, i6, i7, i8, i9⟩ := q
  rw [← g.K] at T i3
  unfold evCs at w
  have lf : liftA L [ce] σ H fun vs H1 => vs.length ≤ 1000 ∧ ∀ a, H1 a = none → spInit X.K f (.ref a :: (vs ++ [])) (upd H1 a (exo a (L.R.ca c) none))
      (fun v H2 => v = .non ∧ ∃ (d : Addr) (fs : List (Str × V)), H2 a = some (exo a (L.R.ca c) (some d)) ∧ H2 d = some (exd d fs) ∧ H1 d = none ∧ xk L (.ref (L.R.ca c)) (some d) (upd (del H2 a) d (.xd fs))) (fun _ _ _ => False) := by
    refine ⟨env, S, a, ?_⟩
    unfold evCs
    refine evC_mono g.gle ce g.upE (DS.le.refl S) (fun d0 A0 B0 h0 w0 => ?_) w
    unfold evCs at w0 ⊢
    intro vs H1 st rds rs
    obtain ⟨v, rfl, rv⟩ := rds.one
    have st' := st.forget h0
    have rs' := rs.forget h0
    refine ⟨by show 1 ≤ 1000; omega, fun ax na => ⟨ax, v, _, rfl, T, i3, upd_same, fun dx nd ne => ⟨rfl, dx, _, upd_same, by rw [upd_ne ne, upd_same], ?_, ?_⟩⟩⟩
    · rw [upd_ne ne] at nd
      exact nd
    · have n1 : H1 dx = none := by rw [upd_ne ne] at nd; exact nd
      have e : upd (del (upd (upd (upd H1 ax (exo ax (L.R.ca c) none)) dx (exd dx [(f, v)])) ax (exo ax (L.R.ca c) (some dx))) ax) dx (.xd [(f, v)]) = upd H1 dx (.xd [(f, v)]) := by
        funext b
        by_cases hb : b = dx
        · subst hb
          rw [upd_same, upd_same]
        · rw [upd_ne hb, upd_ne hb]
          by_cases hba : b = ax
          · subst hba
            rw [del_same, na]
          · rw [del_ne hba, upd_ne hba, upd_ne hb, upd_ne hba]
      rw [e]
      have stx := (a.st.trans st').trans (Step.laid (o := .xd [(f, v)]) n1)
      refine ⟨⟨c, [d0]⟩, A0, stx, rs'.laid n1, ⟨rfl, .inr ⟨dx, [(f, v)], C, rfl, upd_same, by rw [g.P]; exact hP, by rw [hf]; rfl, fun i f' e' h1 h2 => ?_⟩⟩, w0⟩
      rw [hf] at h1
      cases i with
      | zero =>
        simp at h1 h2
        subst h1 h2
        exact ⟨v, by simp, RelD.mono (tmono_laid n1) _ _ rv⟩
      | succ i => simp at h1
  exact lf
end
end PD
end
section
set_option Elab.async false
set_option linter.all false
set_option maxRecDepth 100000
set_option maxHeartbeats 1000000
/-! PyD, part M: statements. -/
namespace PD
open PySem PySem.Spec PyProof.Rows L2

/-! ### the check -/
def noComp : Expr → Bool
  | .ListComp _ _ _ _ | .SetComp _ _ _ _ | .DictComp _ _ _ _ _ => false
  | _ => true
def swapN (sc : Scope) (ts : List Expr) : List Str :=
  ts.filterMap fun
    | .Name id pos => if sc.names.lookup id == some .local && pos.line == (ts.head?.map (·.pos.line)).getD 0 then some id else none
    | _ => none
/-- what swappedStores answers (none: it refuses) -/
def swapR (sc : Scope) (ts vs : List Expr) : Option (Option (List Str)) :=
  if (!(ts.length == 2 || ts.length == 3) || vs.length != ts.length) = true then some none
  else if (vs.any fun | .Starred .. => true | _ => false) = true then some none
  else if ((swapN sc ts).length != ts.length || (swapN sc ts).eraseDups.length != (swapN sc ts).length) = true then some none
  else if vs.all (foldedForSure 8) = true then some none
  else if vs.all (constantsAlone 8) = true then none
  else some (some (swapN sc ts))
theorem swapR_ok {env : PySem.Env} {ts vs : List Expr} {k k2 : Nat} {p p2 : Pos} {r : Option (List Str)} (hk : env.scope.kind = .function) (h : swapR env.scope ts vs = some r) : swappedStores [.Tuple ts k p] (.Tuple vs k2 p2) env = pure r := by
  have hb : env.blockKind = .function := by
    unfold Env.blockKind
    rw [hk]
    rfl
  have hb2 : (env.blockKind != ScopeKind.function) = false := by rw [hb]; rfl
  have hn : (ts.filterMap fun
    | .Name id pos => if env.kindOf id == some .local && pos.line == (ts.head?.map (·.pos.line)).getD 0 then some id else none
    | _ => none) = swapN env.scope ts := rfl
  unfold swappedStores
  simp only [hb2, Bool.or_false]
  unfold swapR at h
  split at h
  · rename_i c
    cases h
    exact if_pos c
  · rename_i c
    refine (if_neg c).trans ?_
    split at h
    · rename_i c2
      cases h
      exact if_pos c2
    · rename_i c2
      refine (if_neg c2).trans ?_
      split at h
      · rename_i c3
        cases h
        exact if_pos c3
      · rename_i c3
        refine (if_neg c3).trans ?_
        split at h
        · rename_i c4
          cases h
          exact if_pos c4
        · rename_i c4
          refine (if_neg c4).trans ?_
          split at h
          · cases h
          · rename_i c5
            cases h
            exact if_neg c5
def noSwap (Γ : Ck) (tg e : Expr) : Bool := match tg with
  | .Tuple ts _ _ => (match e with
    | .Tuple vs _ _ => decide (Γ.sc.kind = .function) && (match swapR Γ.sc ts vs with | some none => true | _ => false)
    | _ => true)
  | .List _ _ => false
  | _ => true
/-- the plain form -/
def asgA (Γ : Ck) (t : Tg) (c : C) (tg e : Expr) : Bool := noComp e && noSwap Γ tg e && noStar tg && chkG Γ t tg && chkC Γ c e
/-- name = [..] -/
def asgL (Γ : Ck) (t : Tg) (c : C) (tg e : Expr) : Bool := match t, c, tg, e with
  | .name i, .mk l, .Name y py, .ListComp elt gs scope pos =>
    decide (Γ.N[i]? = some y) && chkL Γ l (.ListComp elt gs scope pos) && freshL l && decide (Γ.sc.kind = .function) && locB Γ y && decide (Γ.sc.names.lookup y = some .local) && (py.line == pos.line) && !(scope.names.any fun (n, k) => n == y && (k == .local || k == .cell))
  | _, _, _, _ => false
/-- .. where the value is not looked at by the store's peephole -/
def asgM (Γ : Ck) (t : Tg) (c : C) (tg e : Expr) : Bool := match t, tg, e with
  | .name i, .Name y py, .ListComp elt gs scope pos =>
    decide (Γ.N[i]? = some y) && locB Γ y && chkC Γ c (.ListComp elt gs scope pos) && decide (Γ.sc.kind = .function) && (!decide (Γ.sc.names.lookup y = some .local) || !(py.line == pos.line))
  | _, _, _ => false
def asgP (Γ : Ck) (t : Tg) (c : C) (tg e : Expr) : Bool := match t, c, tg, e with
  | .tup [.name i, .name j], .tup [ca, cb], .Tuple [.Name x px, .Name y py] kt pt, .Tuple [ea, eb] k2 pt2 =>
    decide (Γ.N[i]? = some x) && decide (Γ.N[j]? = some y) && decide (i ≠ j) && decide (Γ.sc.names.lookup x = some .local) && decide (Γ.sc.names.lookup y = some .local) && decide (Γ.sc.kind = .function) &&
      decide (swapR Γ.sc [.Name x px, .Name y py] [ea, eb] = some (some [x, y])) && chkCs Γ [ca, cb] [ea, eb]
  | _, _, _, _ => false
def asgQ (Γ : Ck) (t : Tg) (c : C) (tg e : Expr) : Bool := match t, c, tg, e with
  | .tup [.name i, .name j, .name l], .tup [ca, cb, cc], .Tuple [.Name x px, .Name y py, .Name z pz] kt pt, .Tuple [ea, eb, ec] k2 pt2 =>
    decide (Γ.N[i]? = some x) && decide (Γ.N[j]? = some y) && decide (Γ.N[l]? = some z) && decide (i ≠ j) && decide (i ≠ l) && decide (j ≠ l) && decide (Γ.sc.names.lookup x = some .local) && decide (Γ.sc.names.lookup y = some .local) && decide (Γ.sc.names.lookup z = some .local) && decide (Γ.sc.kind = .function) &&
      decide (swapR Γ.sc [.Name x px, .Name y py, .Name z pz] [ea, eb, ec] = some (some [x, y, z])) && chkCs Γ [ca, cb, cc] [ea, eb, ec]
  | _, _, _, _ => false
def raiseB (Γ : Ck) : List Str → List C → List Expr → Bool
  | [], [], [] => true
  | [_], [ce], [y] => noStar y && chkCs Γ [ce] [y]
  | _, _, _ => false
mutual
def chkS (Γ : Ck) : T → Stmt → Bool
  | .ret e, s => match s with
    | .Return (some x) _ => chkC Γ e x
    | _ => false
  | .retN, s => match s with
    | .Return none _ => true
    | _ => false
  | .expr e, s => match s with
    | .Expr x _ => noComp x && chkC Γ e x
    | _ => false
  | .asg t c, s => match s with
    | .Assign [tg] e _ => asgA Γ t c tg e || asgL Γ t c tg e || asgM Γ t c tg e || asgP Γ t c tg e || asgQ Γ t c tg e
    | _ => false
  | .aug i o c, s => match s with
    | .AugAssign (.Name x _) op e _ => decide (Γ.N[i]? = some x) && locB Γ x && opA o op && chkC Γ c e
    | _ => false
  | .ite t a b, s => match s with
    | .If x ys zs _ => chkT Γ t x && chkSs Γ a ys && chkSs Γ b zs
    | _ => false
  | .while t b, s => match s with
    | .While x ys [] _ => chkT Γ t x && chkSs Γ b ys
    | _ => false
  | .for tg w b, s => match s with
    | .For tgt it ys [] _ => noSet it && chkW Γ w tgt it && chkG Γ tg tgt && chkSs Γ b ys
    | _ => false
  | .raise c es, s => match s with
    | .Raise (some x) none _ => match callN x, Γ.P.cls[c]? with
      | some (n, ys), some C => decide (C.name = n) && glB Γ n && nmB n && raiseB Γ C.fs es ys
      | _, _ => false
    | _ => false
  | .brk, s => match s with
    | .Break _ => true
    | _ => false
  | .cont, s => match s with
    | .Continue _ => true
    | _ => false
  | .pass, s => match s with
    | .Pass _ => true
    | .Expr (.Constant (.str _) _ _) _ => true
    | _ => false
  | .never, _ => true
termination_by structural t => t
def chkSs (Γ : Ck) : List T → List Stmt → Bool
  | [], ss => ss.isEmpty
  | t :: ts, ss => match ss with
    | s :: ss => chkS Γ t s && chkSs Γ ts ss
    | [] => false
termination_by structural t => t
end

/-- where statements run -/
structure GoodS (X : Cx) (Γ : Ck) (L : LC) : Prop where
  g : GoodX X Γ L
  own : PassesOwn (model X.prog X.w) X.A X.env X.xe
  tk : Takes X fun cls d _ H => xk L cls d H
  cls : ∀ (c : Nat) (C : Cl), Γ.P.cls[c]? = some C → ClsOk L.R X.mg c C
/-- what is wanted behind a statement, told of the abstract heap -/
def PnE (R : RC) (S : DS) (H : Hp) (D : Ends) : En where
  nx := fun env S' => ∀ σ' H', Step S H S' H' → RelS R H' S' → RelE R H' env σ' → D.nx σ' H'
  rt := Pv R S H D.rt
  bk := fun env S' => ∀ σ' H', Step S H S' H' → RelS R H' S' → RelE R H' env σ' → D.bk σ' H'
  ct := fun env S' => ∀ σ' H', Step S H S' H' → RelS R H' S' → RelE R H' env σ' → D.ct σ' H'
def liftS (L : LC) (t : T) : TS := fun D σ H => ∃ env S, Stt L env S σ H ∧ exT L.G t env S (PnE L.R S H D) L.Ex
def liftSs (L : LC) (ts : List T) : TS := fun D σ H => ∃ env S, Stt L env S σ H ∧ exTs L.G ts env S (PnE L.R S H D) L.Ex

section
variable {L : LC} {X : Cx} {Γ : Ck} {H H' : Hp} {S S' S2 : DS} {env : Env} {σ : L2.St} {pins : List (Addr × Obj)} {s : Shared} {D : Ends} {pos : Pos} {ea : Expr} {ca : C}

theorem st_up {R : RC} {H2 : Hp} {f : L2.St → Hp → Prop} (st : Step S H S2 H2) : UpD (fun (e : Env) S' => ∀ σ' H', Step S H S' H' → RelS R H' S' → RelE R H' e σ' → f σ' H') (fun (e : Env) S' => ∀ σ' H', Step S2 H2 S' H' → RelS R H' S' → RelE R H' e σ' → f σ' H') :=
  fun e A B h w σ' H' st' rs re => w σ' H' ((st.trans st').forget h) (rs.forget h) re
theorem pn_up {R : RC} {H2 : Hp} (st : Step S H S2 H2) : En.le (PnE R S H D) (PnE R S2 H2 D) := ⟨st_up st, pv_up st, st_up st, st_up st⟩
theorem _root_.L2.PS.to {st : Stmt} {u : TS} {t : T} (h : PS X st u) (k : ∀ D σ H env S, Stt L env S σ H → exT L.G t env S (PnE L.R S H D) L.Ex → u D σ H) : PS X st (liftS L t) :=
  ⟨fun pins s σ H D I ⟨env, S, a, w⟩ => h.run pins s σ H D I (k D σ H env S a w)⟩
theorem s_ret (ha : PE X ea (liftC L ca)) : PS X (.Return (some ea) pos) (liftS L (.ret ca)) :=
  (ps_ret ha).to fun D σ H env S a w => by
    unfold exT at w
    exact ⟨env, S, a, w⟩
theorem s_retN : PS X (.Return none pos) (liftS L .retN) := ps_retN.to fun D σ H env S a w => w .non H (Step.refl _ _) rfl a.rs
theorem s_expr (g : GoodX X Γ L) (hc : noComp ea = true) (ha : PE X ea (liftC L ca)) : PS X (.Expr ea pos) (liftS L (.expr ca)) :=
  (ps_expr ha (by cases ea <;> first | rfl | cases hc)).to fun D σ H env S a w => by
    unfold exT at w
    exact lift_of g a w fun d v H1 S1 a1 st1 rd k => k σ H1 st1 a1.rs a1.re
theorem asg_k (g : GoodX X Γ L) {t : Tg} {D : Ends} (a : Stt L env S σ H) (w : exT L.G (.asg t ca) env S (PnE L.R S H D) L.Ex) : tAsg (liftC L ca) (liftG L t) D σ H := by
  unfold exT at w
  refine lift_of g a w fun d v H1 S1 a1 st1 rd k => ?_
  exact ⟨env, S1, d, a1, rd, tgW_mono g.gle t g.upE (DS.le.refl _) (fun e A B h k2 σ2 H2 st2 rs2 re2 _ => k2 σ2 H2 (st1.trans (st2.forget h)) (rs2.forget h) re2) k⟩
theorem s_asgA (g : GoodX X Γ L) {t : Tg} {tg : Expr} (h1 : noComp ea = true) (h2 : noSwap Γ tg ea = true) (h3 : noStar tg = true) (hg : PG X tg (liftG L t)) (ha : PE X ea (liftC L ca)) : PS X (.Assign [tg] ea pos) (liftS L (.asg t ca)) := by
  refine (ps_asg ha hg (by cases ea <;> first | rfl | cases h1) ?_ (by rw [starG h3]; rfl)).to fun D σ H env S a w => asg_k g a w
  cases tg with
  | Tuple ts k p =>
    cases ea with
    | Tuple vs k2 p2 =>
      unfold noSwap at h2
      simp only [Bool.and_eq_true, decide_eq_true_eq] at h2
      obtain ⟨hk, h2⟩ := h2
      split at h2
      · rename_i e
        rw [← g.sc] at e hk
        exact swapR_ok hk e
      · cases h2
    | _ => rfl
  | List _ _ => cases h2
  | _ => rfl
theorem s_asgL (g : GoodX X Γ L) {i : Nat} {l : PD.L} {y : Str} {py p : Pos} {elt : Expr} {gs : List Comprehension} {scope : Scope} (h1 : Γ.N[i]? = some y) (hf : freshL l = true) (hl : chkL Γ l (.ListComp elt gs scope p) = true) (hk : Γ.sc.kind = .function) (h2 : locB Γ y = true) (h3 : Γ.sc.names.lookup y = some .local)
    (h4 : (py.line == p.line) = true) (h5 : (scope.names.any fun (n, k) => n == y && (k == .local || k == .cell)) = false) : PS X (.Assign [.Name y py] (.ListComp elt gs scope p) pos) (liftS L (.asg (.name i) (.mk l))) := by
  have hk' : X.env.scope.kind = .function := by rw [g.sc]; exact hk
  have h3' : X.env.scope.names.lookup y = some .local := by rw [g.sc]; exact h3
  cases l with
  | ex c => cases hf
  | exl c => cases hf
  | lst es =>
    unfold chkL at hl
    cases hl
  | lc c tg w t =>
    unfold chkL at hl
    split at hl
    · rename_i y' tgt it ifs sc' pos' e
      cases e
      simp only [Bool.and_eq_true, decide_eq_true_eq] at hl
      obtain ⟨⟨⟨⟨⟨⟨q1, q2⟩, q3⟩, q4⟩, q5⟩, q6⟩, q7⟩ := hl
      have hs : ∀ x, foldedSetIterable it X.env x = pure x := by
        intro x
        cases it <;> first | rfl | cases q1
      have p := ps_setLc (spos := pos) g.calm g.nd (by rw [g.N]; exact h1) h3' (sw_true hk' h3' h4 h5) (W.ok w g q2) (blk_own q3 g) (fun s H C cl fp => Tg.ok tg (g.blk s H scope C cl fp) q5) (fun s H C cl fp => To.ok t (g.blk s H scope C cl fp) q6) (fun s H C cl fp => PD.C.ok c (g.blk s H scope C cl fp) q7) hs
      rw [q4] at p
      refine p.to fun D σ H env S a w => ?_
      unfold exT evC at w
      refine lc_lift g g.gle ?_
      refine liftL_of g a w fun ds v H1 S1 a1 st1 src k => ?_
      obtain ⟨q, vs, rfl, n0, n1, e, r⟩ := src
      have k := k q n1
      unfold tgW at k
      exact k _ H1 (st1.put n0) (a1.rs.put e r) (a1.re.set (d := .ref q) (v := .ref q) rfl i)
    · cases hl
theorem s_asgM (g : GoodX X Γ L) {i : Nat} {y : Str} {py p : Pos} {elt : Expr} {gs : List Comprehension} {scope : Scope} (h1 : Γ.N[i]? = some y) (h2 : locB Γ y = true) (ha : PE X (.ListComp elt gs scope p) (liftC L ca)) (hk : Γ.sc.kind = .function)
    (h3 : (!decide (Γ.sc.names.lookup y = some .local) || !(py.line == p.line)) = true) : PS X (.Assign [.Name y py] (.ListComp elt gs scope p) pos) (liftS L (.asg (.name i) ca)) := by
  have hk' : X.env.scope.kind = .function := by rw [g.sc]; exact hk
  have hb : X.env.blockKind = .function := by
    unfold Env.blockKind
    rw [hk']
    rfl
  refine (ps_set g.nd (by rw [g.N]; exact h1) (loc_of g h2).1 ha ?_ (loc_of g h2).2).to fun D σ H env S a w => ?_
  · unfold swapsWith
    simp only [hb]
    have hkind : X.env.kindOf y = Γ.sc.names.lookup y := by
      show X.env.scope.names.lookup y = _
      rw [g.sc]
    rw [hkind]
    have e : ((ScopeKind.function == ScopeKind.function) && (Γ.sc.names.lookup y == some NameKind.local) && (py.line == (Expr.ListComp elt gs scope p).pos.line) && !(scope.names.any fun (n, k) => n == y && (k == .local || k == .cell))) = false := by
      rcases Bool.or_eq_true_iff.mp h3 with h | h
      · have : (Γ.sc.names.lookup y == some NameKind.local) = false := by simpa using h
        rw [this]
        simp
      · have : (py.line == (Expr.ListComp elt gs scope p).pos.line) = false := by simpa [Expr.pos] using h
        rw [this]
        simp
    show (pure _ : Sem Bool) = pure false
    exact congrArg pure e
  · have z := asg_k g a w
    exact z.elim fun env1 z => z.elim fun S1 z => ⟨env1, S1, z.1, evC_mono g.gle _ g.upE (DS.le.refl _) (fun d A B h k v H1 st rd rs => by
      obtain ⟨env2, S2, d2, a2, rd2, w2⟩ := k v H1 (st.forget h) rd (rs.forget h)
      unfold tgW at w2
      exact w2 _ H1 (Step.refl _ _) a2.rs (a2.re.set rd2 i) (SameBut.set i _)) z.2⟩
theorem rels1 {R : RC} {d : PD.D} {ds : List PD.D} {vs : List V} (h : RelDs R H (d :: ds) vs) : ∃ v ws, vs = v :: ws ∧ RelD R H d v ∧ RelDs R H ds ws := h
theorem s_asgP (g : GoodX X Γ L) {i j : Nat} {x y : Str} {px py pt p2 : Pos} {kt k2 : Nat} {a b : Expr} {ca cb : C} (h1 : Γ.N[i]? = some x) (h2 : Γ.N[j]? = some y) (hij : i ≠ j) (h3 : Γ.sc.names.lookup x = some .local) (h4 : Γ.sc.names.lookup y = some .local) (hk : Γ.sc.kind = .function)
    (h5 : swapR Γ.sc [.Name x px, .Name y py] [a, b] = some (some [x, y])) (ha : PA X [a, b] (liftA L [ca, cb])) : PS X (.Assign [.Tuple [.Name x px, .Name y py] kt pt] (.Tuple [a, b] k2 p2) pos) (liftS L (.asg (.tup [.name i, .name j]) (.tup [ca, cb]))) := by
  refine (ps_par g.calm g.nd (by rw [g.N]; exact h1) (by rw [g.N]; exact h2) hij (by rw [g.sc]; exact h3) (by rw [g.sc]; exact h4) ha (swapR_ok (by rw [g.sc]; exact hk) (by rw [g.sc]; exact h5))).to fun D σ H env S a w => ?_
  unfold exT evC at w
  refine liftA_of g a w fun ds vs H1 S1 a1 st1 rds k => ?_
  have k := k.2
  unfold tgW at k
  obtain ⟨hl, k⟩ := k
  obtain ⟨d, e, rfl⟩ : ∃ d e, ds = [d, e] := by
    match ds, hl with
    | [d, e], _ => exact ⟨d, e, rfl⟩
  obtain ⟨v, u, rfl, rd, re⟩ := rds.two
  unfold tgsW tgW tgsW tgW tgsW at k
  exact ⟨v, u, rfl, k _ H1 st1 a1.rs ((a1.re.set rd i).set re j)⟩
theorem s_asgQ (g : GoodX X Γ L) {i j l : Nat} {x y z : Str} {px py pz pt p2 : Pos} {kt k2 : Nat} {a b c : Expr} {ca cb cc : C} (h1 : Γ.N[i]? = some x) (h2 : Γ.N[j]? = some y) (h2' : Γ.N[l]? = some z) (hij : i ≠ j) (hil : i ≠ l) (hjl : j ≠ l)
    (h3 : Γ.sc.names.lookup x = some .local) (h4 : Γ.sc.names.lookup y = some .local) (h4' : Γ.sc.names.lookup z = some .local) (hk : Γ.sc.kind = .function)
    (h5 : swapR Γ.sc [.Name x px, .Name y py, .Name z pz] [a, b, c] = some (some [x, y, z])) (ha : PA X [a, b, c] (liftA L [ca, cb, cc])) :
    PS X (.Assign [.Tuple [.Name x px, .Name y py, .Name z pz] kt pt] (.Tuple [a, b, c] k2 p2) pos) (liftS L (.asg (.tup [.name i, .name j, .name l]) (.tup [ca, cb, cc]))) := by
  refine (ps_par3 g.calm g.nd (by rw [g.N]; exact h1) (by rw [g.N]; exact h2) (by rw [g.N]; exact h2') hij hil hjl (by rw [g.sc]; exact h3) (by rw [g.sc]; exact h4) (by rw [g.sc]; exact h4') ha (swapR_ok (by rw [g.sc]; exact hk) (by rw [g.sc]; exact h5))).to fun D σ H env S a w => ?_
  unfold exT evC at w
  refine liftA_of g a w fun ds vs H1 S1 a1 st1 rds k => ?_
  have k := k.2
  unfold tgW at k
  obtain ⟨hl, k⟩ := k
  obtain ⟨d, e, f, rfl⟩ : ∃ d e f, ds = [d, e, f] := by
    match ds, hl with
    | [d, e, f], _ => exact ⟨d, e, f, rfl⟩
  obtain ⟨v, ws, rfl, rd, rds⟩ := rels1 rds
  obtain ⟨u, w, rfl, re, rf⟩ := rds.two
  unfold tgsW tgW tgsW tgW tgsW tgW tgsW at k
  exact ⟨v, u, w, rfl, k _ H1 st1 a1.rs (((a1.re.set rd i).set re j).set rf l)⟩

/-! ### name op= e -/
def rAug (R : RC) (o : Op) : TIp := fun x y H Q => ∃ (i j : Int) (S : DS), x = .int i ∧ y = .int j ∧ RelS R H S ∧ binW o (.int i) (.int j) S (Pv R S H Q)
theorem ip_ok (g : GoodX X Γ L) {o : Op} {op : Operator} (ho : opA o op = true) : PIp X op (rAug L.R o) := by
  intro pins s σ H x y v u Q I rx ry h
  obtain ⟨i, j, S, rfl, rfl, rs, w⟩ := h
  have a : At L.R X H S := ⟨g.K, rs⟩
  cases o with
  | add =>
    cases op <;> first | cases ho | skip
    exact iop_add pins s σ H _ _ v u Q I rx ry ⟨_, _, rfl, rfl, Pv.same a w rfl⟩
  | sub =>
    cases op <;> first | cases ho | skip
    exact iop_sub pins s σ H _ _ v u Q I rx ry ⟨_, _, rfl, rfl, Pv.same a w rfl⟩
  | mul =>
    cases op <;> first | cases ho | skip
    obtain ⟨t, rfl⟩ := rx
    obtain ⟨t', rfl⟩ := ry
    have fin : EP X pins σ Q (.int (i * j) s.toks) { s with toks := s.toks + 1 } := ⟨.int (i * j), H, I.tok _, ⟨_, rfl⟩, Pv.same a w.2 rfl⟩
    rcases w.1 with h | h | h
    · exact imul_int fin (CMul.ok (.inl h))
    · exact imul_int fin (CMul.ok (.inr h))
    · exact imul_int fin (CMulX.ok (mulx_ok (a := i.natAbs.log2 + 1) (b := j.natAbs.log2 + 1) Nat.lt_log2_self Nat.lt_log2_self (by omega)))
  | fdiv =>
    cases op <;> first | cases ho | skip
    obtain ⟨t, rfl⟩ := rx
    obtain ⟨t', rfl⟩ := ry
    have e : i.fdiv j = i / j := Int.fdiv_eq_ediv_of_nonneg _ (by have := w.1.1; omega)
    refine ifloordiv_int (by have := w.1.1; omega) ?_ (.inl w.1.2)
    rw [e]
    exact ⟨.int _, H, I.tok _, ⟨_, rfl⟩, Pv.same a w.2 rfl⟩
  | mod =>
    cases op <;> first | cases ho | skip
    exact iop_mod pins s σ H _ _ v u Q I rx ry ⟨_, _, rfl, rfl, w.1, Pv.same a w.2 rfl⟩
  | pow =>
    cases op <;> first | cases ho | skip
    obtain ⟨t, rfl⟩ := rx
    obtain ⟨t', rfl⟩ := ry
    exact ipow_int_small w.1.1 w.1.2.1 w.1.2.2 ⟨.int _, H, I.tok _, ⟨_, rfl⟩, Pv.same a w.2 rfl⟩
theorem s_aug (g : GoodX X Γ L) {i : Nat} {x : Str} {o : Op} {op : Operator} {p : Pos} (h1 : Γ.N[i]? = some x) (h2 : locB Γ x = true) (ho : opA o op = true) (ha : PE X ea (liftC L ca)) : PS X (.AugAssign (.Name x p) op ea pos) (liftS L (.aug i o ca)) :=
  (ps_aug g.nd (by rw [g.N]; exact h1) (loc_of g h2).1 ha (ip_ok g ho) (loc_of g h2).2).to fun D σ H env S a w => by
    unfold exT slotW at w
    split at w
    · rename_i d e
      obtain ⟨xv, e2, r⟩ := a.re.2 i d e
      refine ⟨xv, e2, lift_of g a w fun d2 v H1 S1 a1 st1 rd k => ?_⟩
      split at k
      · rename_i m n
        obtain rfl := r
        obtain rfl := rd
        refine ⟨m, n, S1, rfl, rfl, a1.rs, binW_mono (DS.le.refl _) (fun z A B h k2 zv H2 st2 rz rs2 => ?_) k⟩
        have st2' := st2.forget h
        exact k2 _ H2 (st1.trans st2') (rs2.forget h) ((a1.re.mono (st2'.tmono a1.rs)).set rz i)
      · exact k.elim
    · exact w.elim

/-! ### blocks, branches, loops -/
variable {ts us : List T} {st : Stmt} {sts sus : List Stmt} {t : T}
theorem ss_nil : PSs X [] (liftSs L []) := ⟨fun pins s σ H D I ⟨env, S, a, w⟩ => pss_nil.run pins s σ H D I (by
  unfold exTs at w
  exact w σ H (Step.refl _ _) a.rs a.re)⟩
theorem ss_cons (g : GoodX X Γ L) (h1 : PS X st (liftS L t)) (h2 : PSs X sts (liftSs L ts)) : PSs X (st :: sts) (liftSs L (t :: ts)) :=
  ⟨fun pins s σ H D I ⟨env, S, a, w⟩ => (pss_cons h1 h2).run pins s σ H D I (by
    unfold exTs at w
    refine ⟨env, S, a, exT_mono g.gle g.upE t (DS.le.refl _) ⟨fun e A B h k σ' H' st rs re => ?_, pv_up (Step.refl _ _), st_up (Step.refl _ _), st_up (Step.refl _ _)⟩ w⟩
    have st' := st.forget h
    exact ⟨e, A, ⟨re, rs.forget h, a.st.trans st'⟩, exTs_mono g.gle g.upE ts (DS.le.refl _) (pn_up st') k⟩)⟩
theorem liftSs_of (g : GoodX X Γ L) (a : Stt L env S σ H) {R2 : En} (w : exTs L.G ts env S R2 L.Ex) (h : En.le R2 (PnE L.R S H D)) : liftSs L ts D σ H := ⟨env, S, a, exTs_mono g.gle g.upE ts (DS.le.refl _) h w⟩
theorem s_ite (g : GoodX X Γ L) {c : Te} (hc : PT X ea (liftB L c)) (ha : PSs X sts (liftSs L ts)) (hb : PSs X sus (liftSs L us)) : PS X (.If ea sts sus pos) (liftS L (.ite c ts us)) :=
  (ps_if hc ha hb).to fun D σ H env S a w => by
    unfold exT at w
    refine liftB_of g a w fun b H1 S1 a1 st1 k => ?_
    cases b with
    | true =>
      rw [if_pos rfl]
      exact liftSs_of g a1 k (pn_up st1)
    | false =>
      rw [if_neg Bool.false_ne_true]
      exact liftSs_of g a1 k (pn_up st1)
theorem s_while (g : GoodS X Γ L) {c : Te} (hc : PT X ea (liftB L c)) (hb : PSs X sts (liftSs L ts)) : PS X (.While ea sts [] pos) (liftS L (.while c ts)) :=
  (ps_while g.own hc hb).to fun D σ H env S a w => by
    unfold exT at w
    obtain ⟨n, w⟩ := w
    refine ⟨fun m σ' H' => ∃ env' S', Stt L env' S' σ' H' ∧ Step S H S' H' ∧ whileW (fun env S Q => evT L.G c env S Q L.Ex) (fun env S R => exTs L.G ts env S R L.Ex) m env' S' (PnE L.R S H D), ⟨n, env, S, a, Step.refl _ _, w⟩, ?_⟩
    rintro m σ' H' ⟨env', S', a', st', w'⟩
    cases m with
    | zero => exact w'.elim
    | succ m =>
      unfold whileW at w'
      refine liftB_of g.g a' w' fun b H1 S1 a1 st1 k => ?_
      have st2 := st'.trans st1
      cases b with
      | true =>
        rw [if_pos rfl]
        refine ⟨fun σ' H' => ∃ env' S', Stt L env' S' σ' H' ∧ Step S H S' H' ∧ whileW (fun env S Q => evT L.G c env S Q L.Ex) (fun env S R => exTs L.G ts env S R L.Ex) m env' S' (PnE L.R S H D), fun σ' H' n => ⟨m, Nat.lt_succ_self _, n⟩, ?_⟩
        have up : ∀ (e : Env) (A B : DS), DS.le A B → whileW (fun env S Q => evT L.G c env S Q L.Ex) (fun env S R => exTs L.G ts env S R L.Ex) m e A (PnE L.R S H D) → ∀ σ3 H3, Step S1 H1 B H3 → RelS L.R H3 B → RelE L.R H3 e σ3 →
            ∃ env' S', Stt L env' S' σ3 H3 ∧ Step S H S' H3 ∧ whileW (fun env S Q => evT L.G c env S Q L.Ex) (fun env S R => exTs L.G ts env S R L.Ex) m env' S' (PnE L.R S H D) := fun e A B h k σ3 H3 st3 rs re =>
          have st3' := st3.forget h
          ⟨e, A, ⟨re, rs.forget h, a1.st.trans st3'⟩, st2.trans st3', k⟩
        exact liftSs_of g.g a1 k ⟨up, pv_up st2, st_up st2, up⟩
      | false =>
        rw [if_neg Bool.false_ne_true]
        exact k σ' H1 st2 a1.rs a1.re
theorem s_for (g : GoodS X Γ L) {tg : Tg} {w : PD.W} {tgt it : Expr} (h0 : noSet it = true) (hw : PI X tgt it (liftW L w)) (hg : PG X tgt (liftG L tg)) (hb : PSs X sts (liftSs L ts)) : PS X (.For tgt it sts [] pos) (liftS L (.for tg w ts)) := by
  have hs : ∀ x, foldedSetIterable it X.env x = pure x := by
    intro x
    cases it <;> first | rfl | cases h0
  refine (ps_for g.own g.g.calm hw hg hb hs).to fun D σ H env S a wE => ?_
  unfold exT at wE
  refine liftW_of g.g a wE fun ds gd J H1 S1 a1 st1 wk k => ?_
  let F : List PD.D → Env → DS → Prop := fun rest e A => forW (fun d env S Q => tgW L.G tg d env S Q L.Ex) (fun env S R => exTs L.G ts env S R L.Ex) gd rest e A (PnE L.R S H D)
  let Iv : List PD.D → L2.St → Hp → Prop := fun rest σ' H' => ∃ env' S', Stt L env' S' σ' H' ∧ Step S1 H1 S' H' ∧ F rest env' S'
  refine ⟨fun i m σ' H' => m = ds.length - i ∧ i ≤ ds.length ∧ Iv (ds.drop i) σ' H', ⟨ds.length, by simp, Nat.zero_le _, env, S1, a1, Step.refl _ _, k⟩, ?_⟩
  rintro i m σ' H' ⟨rfl, hi, env', S', a', st', w'⟩
  by_cases hlt : i < ds.length
  · obtain ⟨d, hd⟩ : ∃ d, ds[i]? = some d := ⟨_, List.getElem?_eq_getElem hlt⟩
    have hdrop : ds.drop i = d :: ds.drop (i + 1) := by
      rw [List.drop_eq_getElem_cons hlt]
      have := List.getElem?_eq_getElem hlt
      rw [hd] at this
      cases this
      rfl
    rw [hdrop] at w'
    have w' : gd.ok S' ∧ tgW L.G tg d env' S' (fun env1 S1 => exTs L.G ts env1 S1 { nx := fun e S2 => F (ds.drop (i + 1)) e S2, rt := (PnE L.R S H D).rt, bk := (PnE L.R S H D).nx, ct := fun e S2 => F (ds.drop (i + 1)) e S2 } L.Ex) L.Ex := w'
    obtain ⟨ok, w'⟩ := w'
    obtain ⟨go, yl⟩ := (wk S' H' st' a'.rs ok).1 i d hd
    refine .inr ⟨go, Iv (ds.drop (i + 1)), fun σ2 H2 n => ⟨ds.length - (i + 1), by omega, rfl, hlt, n⟩, fun x H2 y => ?_⟩
    obtain ⟨st2, rs2, rd2⟩ := yl x H2 y
    have a2 := a'.step rs2 st2
    refine ⟨env', S', d, a2, rd2, tgW_mono g.g.gle tg g.g.upE (DS.le.refl _) (fun env1 A B hle k1 σ3 H3 st3 rs3 re3 sb => ?_) w'⟩
    have st3' := st3.forget hle
    have a3 : Stt L env1 A σ3 H3 := ⟨re3, rs3.forget hle, a2.st.trans st3'⟩
    have stT := (st'.trans st2).trans st3'
    have up : ∀ (e : Env) (A2 B2 : DS), DS.le A2 B2 → F (ds.drop (i + 1)) e A2 → ∀ σ4 H4, Step A H3 B2 H4 → RelS L.R H4 B2 → RelE L.R H4 e σ4 → Iv (ds.drop (i + 1)) σ4 H4 := fun e A2 B2 h k σ4 H4 st4 rs re =>
      have st4' := st4.forget h
      ⟨e, A2, ⟨re, rs.forget h, a3.st.trans st4'⟩, stT.trans st4', k⟩
    exact liftSs_of g.g a3 k1 ⟨up, pv_up (st1.trans stT), st_up (st1.trans stT), up⟩
  · have e : i = ds.length := by omega
    subst e
    rw [List.drop_length] at w'
    have w' : gd.ok S' ∧ (PnE L.R S H D).nx env' S' := w'
    exact .inl ⟨(wk S' H' st' a'.rs w'.1).2, w'.2 σ' H' (st1.trans st') a'.rs a'.re⟩
theorem s_raise0 (g : GoodS X Γ L) {c : Nat} {C : Cl} (hC : Γ.P.cls[c]? = some C) (hf : C.fs = []) {p p2 : Pos} (h1 : glB Γ C.name = true) (h2 : nmB C.name = true) : PS X (.Raise (some (.Call (.Name C.name p) [] [] p2)) none pos) (liftS L (.raise c [])) :=
  (ps_raise g.g.calm g.tk (mk_raise0 g.g (g.cls c C hC) hf h1 h2)).to fun D σ H env S a w => by
    unfold exT evCs at w
    exact raise0_k a w
theorem s_raise1 (g : GoodS X Γ L) {c : Nat} {C : Cl} {f : Str} (hC : Γ.P.cls[c]? = some C) (hf : C.fs = [f]) {p p2 : Pos} (h1 : glB Γ C.name = true) (h2 : nmB C.name = true) (hs : noStar ea = true) (ha : PA X [ea] (liftA L [ca])) : PS X (.Raise (some (.Call (.Name C.name p) [ea] [] p2)) none pos) (liftS L (.raise c [ca])) :=
  (ps_raise g.g.calm g.tk (mk_raise1 g.g (g.cls c C hC) hf h1 h2 hs ha)).to fun D σ H env S a w => by
    unfold exT at w
    exact raise1_k g.g hC (g.cls c C hC) hf a w
theorem s_brk : PS X (.Break pos) (liftS L .brk) := ps_break.to fun D σ H env S a w => w σ H (Step.refl _ _) a.rs a.re
theorem s_cont : PS X (.Continue pos) (liftS L .cont) := ps_continue.to fun D σ H env S a w => w σ H (Step.refl _ _) a.rs a.re
theorem s_pass : PS X (.Pass pos) (liftS L .pass) := ps_pass.to fun D σ H env S a w => w σ H (Step.refl _ _) a.rs a.re
theorem s_doc {x j p} : PS X (.Expr (.Constant (.str x) j p) pos) (liftS L .pass) := ps_doc.to fun D σ H env S a w => w σ H (Step.refl _ _) a.rs a.re
theorem s_never : PS X st (liftS L .never) := ps_never.to fun D σ H env S a w => w
end
mutual
theorem T.ok : ∀ (t : T) {X : Cx} {Γ : Ck} {L : LC} {s : Stmt}, GoodS X Γ L → chkS Γ t s = true → PS X s (liftS L t)
  | .ret e, X, Γ, L, s, g, h => by
    unfold chkS at h
    split at h
    · exact s_ret (C.ok e g.g h)
    · cases h
  | .retN, X, Γ, L, s, g, h => by
    unfold chkS at h
    split at h
    · exact s_retN
    · cases h
  | .expr e, X, Γ, L, s, g, h => by
    unfold chkS at h
    split at h
    · simp only [Bool.and_eq_true] at h
      exact s_expr g.g h.1 (C.ok e g.g h.2)
    · cases h
  | .asg t c, X, Γ, L, s, g, h => by
    unfold chkS at h
    split at h
    · simp only [Bool.or_eq_true] at h
      rcases h with (((h | h) | h) | h) | h
      · unfold asgA at h
        simp only [Bool.and_eq_true] at h
        exact s_asgA g.g h.1.1.1.1 h.1.1.1.2 h.1.1.2 (Tg.ok t g.g h.1.2) (C.ok c g.g h.2)
      · unfold asgL at h
        split at h
        · simp only [Bool.and_eq_true, decide_eq_true_eq, Bool.not_eq_true'] at h
          obtain ⟨⟨⟨⟨⟨⟨⟨h1, h2⟩, h3⟩, h4⟩, h5⟩, h6⟩, h7⟩, h8⟩ := h
          exact s_asgL g.g h1 h3 h2 h4 h5 h6 h7 h8
        · cases h
      · unfold asgM at h
        split at h
        · simp only [Bool.and_eq_true, decide_eq_true_eq] at h
          obtain ⟨⟨⟨⟨h1, h2⟩, h3⟩, h4⟩, h5⟩ := h
          exact s_asgM g.g h1 h2 (C.ok c g.g h3) h4 h5
        · cases h
      · unfold asgP at h
        split at h
        · simp only [Bool.and_eq_true, decide_eq_true_eq] at h
          obtain ⟨⟨⟨⟨⟨⟨⟨h1, h2⟩, h3⟩, h4⟩, h5⟩, h6⟩, h7⟩, h8⟩ := h
          exact s_asgP g.g h1 h2 h3 h4 h5 h6 h7 (Cs.ok _ g.g h8)
        · cases h
      · unfold asgQ at h
        split at h
        · simp only [Bool.and_eq_true, decide_eq_true_eq] at h
          obtain ⟨⟨⟨⟨⟨⟨⟨⟨⟨⟨⟨h1, h2⟩, h3⟩, h4⟩, h5⟩, h6⟩, h7⟩, h8⟩, h9⟩, h10⟩, h11⟩, h12⟩ := h
          exact s_asgQ g.g h1 h2 h3 h4 h5 h6 h7 h8 h9 h10 h11 (Cs.ok _ g.g h12)
        · cases h
    · cases h
  | .aug i o c, X, Γ, L, s, g, h => by
    unfold chkS at h
    split at h
    · simp only [Bool.and_eq_true, decide_eq_true_eq] at h
      exact s_aug g.g h.1.1.1 h.1.1.2 h.1.2 (C.ok c g.g h.2)
    · cases h
  | .ite t a b, X, Γ, L, s, g, h => by
    unfold chkS at h
    split at h
    · simp only [Bool.and_eq_true] at h
      exact s_ite g.g (Te.ok t g.g h.1.1).1 (Ts.ok a g h.1.2) (Ts.ok b g h.2)
    · cases h
  | .while t b, X, Γ, L, s, g, h => by
    unfold chkS at h
    split at h
    · simp only [Bool.and_eq_true] at h
      exact s_while g (Te.ok t g.g h.1).1 (Ts.ok b g h.2)
    · cases h
  | .for tg w b, X, Γ, L, s, g, h => by
    unfold chkS at h
    split at h
    · simp only [Bool.and_eq_true] at h
      exact s_for g h.1.1.1 (W.ok w g.g h.1.1.2) (Tg.ok tg g.g h.1.2) (Ts.ok b g h.2)
    · cases h
  | .raise c es, X, Γ, L, s, g, h => by
    unfold chkS at h
    split at h
    · split at h
      · rename_i n ys C h1 h2
        simp only [Bool.and_eq_true, decide_eq_true_eq] at h
        obtain ⟨⟨⟨h3, h4⟩, h5⟩, h6⟩ := h
        obtain ⟨p, p2, rfl⟩ := callN_of h1
        subst h3
        unfold raiseB at h6
        split at h6
        · rename_i e
          exact s_raise0 g h2 e h4 h5
        · rename_i f ce y e
          rw [Bool.and_eq_true] at h6
          exact s_raise1 g h2 e h4 h5 h6.1 (Cs.ok [ce] g.g h6.2)
        · cases h6
      · cases h
    · cases h
  | .brk, X, Γ, L, s, g, h => by
    unfold chkS at h
    split at h
    · exact s_brk
    · cases h
  | .cont, X, Γ, L, s, g, h => by
    unfold chkS at h
    split at h
    · exact s_cont
    · cases h
  | .pass, X, Γ, L, s, g, h => by
    unfold chkS at h
    split at h
    · exact s_pass
    · exact s_doc
    · cases h
  | .never, X, Γ, L, s, g, h => s_never
theorem Ts.ok : ∀ (ts : List T) {X : Cx} {Γ : Ck} {L : LC} {ss : List Stmt}, GoodS X Γ L → chkSs Γ ts ss = true → PSs X ss (liftSs L ts)
  | [], X, Γ, L, ss, g, h => by
    unfold chkSs at h
    rw [List.isEmpty_iff.mp h]
    exact ss_nil
  | t :: ts, X, Γ, L, ss, g, h => by
    unfold chkSs at h
    split at h
    · simp only [Bool.and_eq_true] at h
      exact ss_cons g.g (T.ok t g h.1) (Ts.ok ts g h.2)
    · cases h
end
end PD
end
section
set_option Elab.async false
set_option linter.all false
set_option maxRecDepth 100000
set_option maxHeartbeats 1000000
/-! PyD, part N: defs. -/
namespace PD
open PySem PySem.Spec PyProof.Rows L2

/-! ### binding -/
theorem lookup_zip : ∀ {ns : List Str} {us : List Value} {n : Str}, n ∉ ns → (ns.zip us).lookup n = none
  | [], us, n, h => by simp
  | m :: ns, [], n, h => by simp
  | m :: ns, u :: us, n, h => by
    rw [List.mem_cons, not_or] at h
    rw [List.zip_cons_cons, List.lookup_cons]
    have : (n == m) = false := by simpa using h.1
    rw [this]
    exact lookup_zip h.2
theorem bind_zip : ∀ {ns : List Str} {us : List Value} (slots : List (Str × Value)), ns.Nodup → us.length = ns.length → (∀ n u, (n, u) ∈ ns.zip us → slots.lookup n = some u) → (ns.filterMap fun n => (slots.lookup n).map fun v => (n, v)) = ns.zip us
  | [], us, slots, _, _, _ => by simp
  | m :: ns, [], slots, _, h, _ => by simp at h
  | m :: ns, u :: us, slots, nd, hl, h => by
    rw [List.zip_cons_cons, List.filterMap_cons, h m u (by rw [List.zip_cons_cons]; exact List.mem_cons_self ..)]
    show (m, u) :: _ = _
    congr 1
    exact bind_zip slots (List.nodup_cons.mp nd).2 (by simpa using hl) fun n v hm => h n v (by rw [List.zip_cons_cons]; exact List.mem_cons_of_mem _ hm)
theorem zip_look : ∀ {ns : List Str} {us : List Value}, ns.Nodup → ∀ n u, (n, u) ∈ ns.zip us → (ns.zip us).lookup n = some u
  | [], us, _, n, u, h => by simp at h
  | m :: ns, [], _, n, u, h => by simp at h
  | m :: ns, v :: us, nd, n, u, h => by
    rw [List.zip_cons_cons] at h ⊢
    rw [List.lookup_cons]
    rcases List.mem_cons.mp h with e | h
    · cases e
      simp
    · have hn : n ∈ ns := (List.of_mem_zip h).1
      have : (n == m) = false := by
        have : n ≠ m := fun e => (List.nodup_cons.mp nd).1 (e ▸ hn)
        simpa using this
      rw [this]
      exact zip_look (List.nodup_cons.mp nd).2 n u h
def plainArgs (p : Arguments) : Bool := p.posonlyargs.isEmpty && p.vararg.isNone && p.kwonlyargs.isEmpty && p.kwarg.isNone
theorem bind_plain {p : Arguments} (hp : plainArgs p = true) (nd : (p.args.map (·.arg)).Nodup) {x qual : Str} {body : List Stmt} {scope : Scope} {kV doc pm cdv ct : Value} {an : Option Addr} {us : List Value} (hl : us.length = (p.args.map (·.arg)).length) :
    bindArgs (PySem.W.fnOf x qual p body scope .none kV doc pm an cdv ct) ⟨us, []⟩ = pure ((p.args.map (·.arg)).zip us) := by
  obtain ⟨po, ar, va, ko, kd, kw, df⟩ := p
  unfold plainArgs at hp
  simp only [Bool.and_eq_true, List.isEmpty_iff, Option.isNone_iff_eq_none] at hp
  obtain ⟨⟨⟨rfl, rfl⟩, rfl⟩, rfl⟩ := hp
  have hl' : us.length = ar.length := by simpa using hl
  have hz : (ar.map (·.arg)).filter (fun n => (((ar.map (·.arg)).zip us).lookup n).isNone) = [] := by
    rw [List.filter_eq_nil_iff]
    intro n hn
    obtain ⟨i, hi, e⟩ := List.getElem_of_mem hn
    have hm : (n, us[i]'(by rw [hl']; simpa using hi)) ∈ (ar.map (·.arg)).zip us := by
      rw [List.mem_iff_getElem]
      exact ⟨i, by rw [List.length_zip]; simp at hi ⊢; omega, by simp [← e]⟩
    rw [zip_look nd _ _ hm]
    simp
  have hb := bind_zip _ nd hl (zip_look nd)
  have ht : List.take ar.length (ar.map (·.arg)) = ar.map (·.arg) := List.take_of_length_le (by simp)
  unfold bindArgs PySem.W.fnOf
  simp [seqItems?, notAStandIn, hl', -List.filterMap_map, ht, hz, hb]

/-! ### all defs keep their promises -/
/-- the core text fits the program's -/
def FnFact (R : RC) (cs : List (Addr × Addr)) (mg : Str → Option Value) (f : Nat) (F : Fn) (fd : FuncData) : Prop :=
  ∃ qual params body scope, FunD R.K F.name qual params body scope [] [] (R.fa f) fd ∧ FnScope F.N F.ps scope ∧ plainArgs params = true ∧ params.args.map (·.arg) = F.ps ∧
    chkSs ⟨F.N, scope, fun _ => true, R.P, false, F.lam⟩ F.body body = true ∧ mg F.name = some (.ref (R.fa f)) ∧
    (F.lam = true → ∃ c P, fd.code = .ref c ∧ (c, P) ∈ cs ∧ (P, qual ++ ".<locals>." ++ "<lambda>") ∈ R.T ∧ ∀ p ∈ R.T, p.1 = P → p.2 = qual ++ ".<locals>." ++ "<lambda>")
structure Fits (R : RC) (cs : List (Addr × Addr)) (mg : Str → Option Value) : Prop where
  fn : ∀ (f : Nat) (F : Fn), R.P.fns[f]? = some F → ∃ fd, FnFact R cs mg f F fd
  gl : ∀ (g : Nat) (p : Str × D), R.P.gl[g]? = some p → ∃ u v, mg p.1 = some u ∧ RelV v u ∧ ∀ H, RelD R H p.2 v
  blt : ∀ n ∈ bltNames, mg (n : Str) = none
  cls : ∀ (c : Nat) (C : Cl), R.P.cls[c]? = some C → ClsOk R mg c C
  told : ∀ (t : Nat) (h : Told), R.P.told[t]? = some h → TelOk R mg h
theorem start_rel {R : RC} {H : Hp} {ds : List D} {vs : List V} {N : List Str} {k : Nat} (h : RelDs R H ds vs) (hk : vs.length = k) : RelE R H (ds.map some ++ List.replicate (N.length - k) none) (L2.start N vs) := by
  subst hk
  unfold L2.start
  refine ⟨by rw [List.length_append, List.length_append, List.length_map, List.length_map, h.length, List.length_replicate, List.length_replicate], fun i d e => ?_⟩
  by_cases hi : i < ds.length
  · rw [List.getElem?_append_left (by simpa using hi), List.getElem?_map] at e
    rw [List.getElem?_append_left (by rw [List.length_map, h.length]; exact hi), List.getElem?_map]
    cases q : ds[i]? with
    | none => rw [q] at e; cases e
    | some d' =>
      rw [q] at e
      cases e
      obtain ⟨v, hv, r⟩ := h.get q
      exact ⟨v, by rw [hv]; rfl, r⟩
  · rw [List.getElem?_append_right (by simpa using hi), List.getElem?_replicate] at e
    split at e <;> cases e
theorem En.mk' {R : RC} {S : DS} {H : Hp} {nx : Env → DS → Prop} {rt : QD} {D : Ends} (h1 : UpD nx (PnE R S H D).nx) (h2 : UpD rt (PnE R S H D).rt) : En.le { nx := nx, rt := rt, bk := fun _ _ => False, ct := fun _ _ => False } (PnE R S H D) :=
  ⟨h1, h2, fun _ _ _ _ z => z.elim, fun _ _ _ _ z => z.elim⟩
section
variable {prog : Program} {w : World} {R : RC} {cs : List (Addr × Addr)} {mg : Str → Option Value} {base : Heap}
theorem fits_kp (FT : Fits R cs mg) {f : Nat} {F : Fn} (h : R.P.fns[f]? = some F) : PySem.W.keepIn R.K (.ref (R.fa f)) = true := by
  obtain ⟨_, _, _, _, _, q, _⟩ := FT.fn f F h
  exact q.kp
theorem fact_binds {f : Nat} {F : Fn} {fd : FuncData} (h : FnFact R cs mg f F fd) (s : Shared) (us : List Value) (hl : us.length = F.ps.length) : BindsTo s fd ⟨us, []⟩ (F.ps.zip us) := by
  obtain ⟨qual, params, body, scope, q, sc, pa, pe, ck, hm, _⟩ := h
  have nd : (params.args.map (·.arg)).Nodup := by
    rw [pe, ← sc.pre]
    exact sc.nd.sublist (List.take_sublist _ _)
  exact q.bindsA (fun kV doc pm an cdv ct us hl => by
    rw [← pe] at hl ⊢
    exact bind_plain pa nd hl) s us hl
theorem fact_bindsK {f : Nat} {F : Fn} {fd : FuncData} (h : FnFact R cs mg f F fd) : Binds R.K fd F.ps [] := fun s us _ hl => by
  rw [List.append_nil] at hl ⊢
  exact fact_binds h s us hl
theorem fn_none {R : RC} {k f : Nat} {ps : List Str} {fd : FuncData} {t : List D → DS → QD → QE → Prop} (h : ∀ ds S Q E, ¬ t ds S Q E) : FnOk prog w R.K mg base (L2.CX prog w) k (R.fa f) fd ps (liftSp R t) := by
  refine ⟨fun vs H Q E h' => ?_, fun A outer s H args us vs Q E _ _ _ _ h' => ?_⟩
  · obtain ⟨_, _, _, _, h'⟩ := h'
    exact (h _ _ _ _ h').elim
  · obtain ⟨_, _, _, _, h'⟩ := h'
    exact (h _ _ _ _ h').elim
theorem fn_okN (FT : Fits R cs mg) (hTB : ∀ p ∈ cs, LamX.TabB base mg p.1 p.2) : ∀ (N n : Nat), n ≤ N → ∀ (f : Nat) (F : Fn) (fd : FuncData), R.P.fns[f]? = some F → FnFact R cs mg f F fd → FnOk prog w R.K mg base (L2.CX prog w) (n + 62) (R.fa f) fd F.ps (liftSp R (sem R.P n f))
  | _, 0, _, f, F, fd, hf, ff => fn_none fun _ _ _ _ h => h
  | 0, n + 1, hN, f, F, fd, hf, ff => by omega
  | N + 1, n + 1, hN, f, F, fd, hf, ff => by
    obtain ⟨qual, params, body, scope, q, sc, pa, pe, ck, hm, hlam⟩ := ff
    have e60 : n + 1 + 62 = (n + 62) + 1 := by omega
    rw [e60]
    obtain ⟨oc, od, dV, kV, doc, pm, an, cdv, ct, osl, rfl, lk, hcd, _, _⟩ := q.ex
    refine fn_of lk hcd sc (fun vs H Q E h => ?_) fun A outer s H vs Q E hr h => ?_
    · obtain ⟨ds, S, rds, _, h⟩ := h
      rw [sem_succ, hf] at h
      rw [rds.length, h.1]
    · obtain ⟨ds, S, rds, rs, h⟩ := h
      rw [sem_succ, hf] at h
      obtain ⟨hlen, h⟩ := h
      let L : LC := ⟨R, R.P.gg n, S, H, ExOf R S H E⟩
      have tk : Takes (cxOf (L2.CX prog w) prog w R.K mg base F.N qual scope (R.fa f) cdv A outer s H E) fun cls d _ H => xk L cls d H :=
        (takes_of (X := cxOf (L2.CX prog w) prog w R.K mg base F.N qual scope (R.fa f) cdv A outer s H E) (E := E) rfl rfl rfl rfl).imp fun cls d σ H' ⟨x, S', st, rs', xr, ex⟩ => ex cls d H' st rs' xr
      have low : ∀ (f' : Nat) (F' : Fn), R.P.fns[f']? = some F' → mg F'.name = some (.ref (R.fa f')) ∧ PySem.W.keepIn R.K (.ref (R.fa f')) = true ∧ ∃ fd, FnOk prog w R.K mg base (L2.CX prog w) (n + 60) (R.fa f') fd F'.ps (liftSp R (semL R.P n f')) ∧ Binds R.K fd F'.ps [] := fun f' F' hf' => by
        obtain ⟨fd', ff'⟩ := FT.fn f' F' hf'
        have h2 := fact_bindsK ff'
        have h1 : FnOk prog w R.K mg base (L2.CX prog w) (n + 60) (R.fa f') fd' F'.ps (liftSp R (semL R.P n f')) := by
          match n, hN with
          | 0, _ => exact fn_none fun _ _ _ _ h => h
          | 1, _ => exact fn_none fun _ _ _ _ h => h
          | n + 2, hN => exact fn_okN FT hTB N n (by omega) f' F' fd' hf' ff'
        obtain ⟨_, _, _, _, q', _, _, _, _, hm', _⟩ := ff'
        exact ⟨hm', q'.kp, fd', h1, h2⟩
      have tel0 : F.lam = true → ∃ c P, cdv = .ref c ∧ LamX.TabB base mg c P ∧ (P, qual ++ ".<locals>." ++ "<lambda>") ∈ R.T ∧ ∀ p ∈ R.T, p.1 = P → p.2 = qual ++ ".<locals>." ++ "<lambda>" := fun hl =>
        let ⟨c, P, t1, t2, t3, t4⟩ := hlam hl
        ⟨c, P, t1, hTB _ t2, t3, t4⟩
      have gs : GoodS (cxOf (L2.CX prog w) prog w R.K mg base F.N qual scope (R.fa f) cdv A outer s H E) ⟨F.N, scope, fun _ => true, R.P, false, F.lam⟩ L := {
        g := {
          K := rfl
          N := rfl
          nd := sc.nd
          sc := rfl
          fn := rfl
          P := rfl
          calm := rfl
          un := by
            have := hr.un
            show (A.deeper _).units + 1100 < cLine
            omega
          gle := gg_le R.P n n (Nat.le_refl _)
          upE := ExOf.up
          glG := rfl
          gl := FT.gl
          blt := FT.blt
          calls := fun _ f' F' hf' => by
            obtain ⟨fd', ff'⟩ := FT.fn f' F' hf'
            have h1 := fn_okN FT hTB N n (by omega) f' F' fd' hf' ff'
            have h2 := fact_bindsK ff'
            obtain ⟨_, _, _, _, q', _, _, _, _, hm', _⟩ := ff'
            exact ⟨hm', q'.kp, fd', n + 62, h1, hr, h2⟩
          lows := ⟨n + 60, by omega, by rw [if_neg Bool.false_ne_true]; exact hr, low⟩
          toldG := rfl
          tel := tel0
          tolds := FT.told
          pas := passes_call tk fun cls d σ H h => h }
        own := passes_of rfl
        tk := tk
        cls := FT.cls }
      refine ⟨liftSs L F.body, Ts.ok F.body gs ck, ds.map some ++ List.replicate (F.N.length - F.ps.length) none, S, ⟨start_rel rds (by rw [rds.length, hlen]), rs, Step.refl _ _⟩, ?_⟩
      refine exTs_mono gs.g.gle ExOf.up F.body (DS.le.refl _) (En.mk' ?_ ?_) h
      · intro e A B hle k σ' H' st rs' re
        obtain ⟨S2, h2, k⟩ := k
        exact k .non H' (st.forget (h2.trans hle)) rfl (rs'.forget (h2.trans hle))
      · intro d A B hle k v H' st rd rs'
        obtain ⟨S2, h2, k⟩ := k
        exact k v H' (st.forget (h2.trans hle)) rd (rs'.forget (h2.trans hle))
theorem fn_ok (FT : Fits R cs mg) (hTB : ∀ p ∈ cs, LamX.TabB base mg p.1 p.2) (n f : Nat) (F : Fn) (fd : FuncData) (hf : R.P.fns[f]? = some F) (ff : FnFact R cs mg f F fd) : FnOk prog w R.K mg base (L2.CX prog w) (n + 62) (R.fa f) fd F.ps (liftSp R (sem R.P n f)) :=
  fn_okN FT hTB n n (Nat.le_refl _) f F fd hf ff
end
end PD
end
section
set_option Elab.async false
set_option linter.all false
set_option maxRecDepth 100000
set_option maxHeartbeats 1000000
/-! PyD, part O: the head: the module's facts from a check of the written part. -/
namespace PD
open PySem PySem.Spec PyProof.Rows L2

/-- a law's program: its defs as they stand in the row, the core program, the classes' __init__, the telling defs with their names (parameter, exception, class) -/
structure Lay where
  fns : List He.DefD
  P : Prog
  inits : List (Option He.DefD)
  tds : List (He.DefD × Str × Str × Str)
def lamL : List He.DefD → List Fn → List He.DefD
  | d :: ds, F :: Fs => if F.lam = true then d :: lamL ds Fs else lamL ds Fs
  | _, _ => []
/-- the defs that make lambdas -/
def Lay.lams (l : Lay) : List He.DefD := lamL l.fns l.P.fns
def Lay.tf (l : Lay) : List He.Defn := l.lams.map (·.at_)
def Lay.all (l : Lay) : List He.DefD := l.fns ++ (l.inits.filterMap id ++ l.tds.map (·.1))
def Lay.rc (l : Lay) (K : PySem.W.Frag) : RC :=
  { K := K, T := l.lams.map fun d => ((He.cT K d.at_).2, d.qual ++ ".<locals>." ++ "<lambda>"), P := l.P, fa := fun f => match l.fns[f]? with
      | some d => He.fAd K d.at_
      | none => 0, ca := fun c => match l.P.cls[c]? with
      | some C => He.ga K C.name
      | none => 0 }

/-! ### what is checked of the text -/
def scB (N P : List Str) (sc : Scope) : Bool :=
  decide (sc.kind = .function) && !sc.isCoroutine && !sc.isGenerator && decide N.Nodup && decide (N.take P.length = P) &&
    (P.all fun x => decide (sc.names.lookup x = some .local) || decide (sc.names.lookup x = some .cell)) && sc.names.all fun y => !decide (y.2 = .free)
theorem scB_ok {N P : List Str} {sc : Scope} (h : scB N P sc = true) : FnScope N P sc := by
  unfold scB at h
  simp only [Bool.and_eq_true, Bool.not_eq_true', decide_eq_true_eq, List.all_eq_true, Bool.or_eq_true, decide_eq_false_iff_not] at h
  obtain ⟨⟨⟨⟨⟨⟨h1, h2⟩, h3⟩, h4⟩, h5⟩, h6⟩, h7⟩ := h
  exact ⟨h1, h2, h3, h4, h5, h6, h7⟩
def fnB (P : Prog) (d : He.DefD) (F : Fn) : Bool :=
  decide (d.name = F.name) && decide (d.at_ = (F.name, none)) && d.dfl.isEmpty && d.kwd.isEmpty && plainArgs d.params && decide (d.params.args.map (·.arg) = F.ps) && scB F.N F.ps d.scope && chkSs ⟨F.N, d.scope, fun _ => true, P, false, F.lam⟩ F.body d.body
def fitB2 (P : Prog) : List He.DefD → List Fn → Bool
  | [], [] => true
  | d :: ds, F :: Fs => fnB P d F && fitB2 P ds Fs
  | _, _ => false
def fitB (l : Lay) : Bool := fitB2 l.P l.fns l.P.fns
theorem fitB2_at {P : Prog} : ∀ {ds : List He.DefD} {Fs : List Fn} {i : Nat} {F : Fn}, fitB2 P ds Fs = true → Fs[i]? = some F → ∃ d, ds[i]? = some d ∧ fnB P d F = true
  | [], [], i, F, _, e => by simp at e
  | [], _ :: _, i, F, h, e => by cases h
  | _ :: _, [], i, F, h, e => by cases h
  | d :: ds, G :: Fs, 0, F, h, e => by
    simp at e
    subst e
    unfold fitB2 at h
    rw [Bool.and_eq_true] at h
    exact ⟨d, rfl, h.1⟩
  | d :: ds, G :: Fs, i + 1, F, h, e => by
    unfold fitB2 at h
    rw [Bool.and_eq_true] at h
    obtain ⟨d', e', h'⟩ := fitB2_at (i := i) h.2 (by simpa using e)
    exact ⟨d', by simpa using e', h'⟩

/-! ### what is checked of the written part -/
def okB (x : List Nat) : Bool := decide (x.length ≤ lim) && x.all fun c => decide (c < 1114112)
theorem okB_ok {x : List Nat} (h : okB x = true) : okS x := by
  unfold okB at h
  simp only [Bool.and_eq_true, decide_eq_true_eq, List.all_eq_true] at h
  exact h
mutual
def dB (K : PySem.W.Frag) : D → Value → Bool
  | .non, u => match u with
    | .none => true
    | _ => false
  | .bl b, u => match u with
    | .bool c => decide (b = c)
    | _ => false
  | .int i, u => match u with
    | .int j _ => decide (i = j)
    | _ => false
  | .str x, u => match u with
    | .str y _ => decide (x = y.cps.toList) && okB x
    | _ => false
  | .tup ds, u => match u with
    | .ref a => match K.lookup a with
      | some ⟨.type c, _, .seq its _, _⟩ => decide (c = "tuple") && decide (its.size ≤ sizeLine) && dBs K ds its.toList
      | _ => false
    | _ => false
  | .lis ds, u => match u with
    | .ref a => match K.lookup a with
      | some ⟨.type c, none, .seq its _, _⟩ => decide (c = "list") && decide (its.size ≤ sizeLine) && dBs K ds its.toList
      | _ => false
    | _ => false
  | .ty n, u => match u with
    | .type m => decide (n = m) && decide (n ∈ tyNames)
    | _ => false
  | _, _ => false
termination_by structural t => t
def dBs (K : PySem.W.Frag) : List D → List Value → Bool
  | [], us => us.isEmpty
  | d :: ds, us => match us with
    | u :: us => dB K d u && dBs K ds us
    | [] => false
termination_by structural t => t
end
mutual
theorem dB_ok {R : RC} : ∀ (d : D) (u : Value), dB R.K d u = true → ∃ v, RelV v u ∧ ∀ H, RelD R H d v
  | .non, u, h => by
    unfold dB at h
    split at h
    · exact ⟨.non, rfl, fun _ => rfl⟩
    · cases h
  | .bl b, u, h => by
    unfold dB at h
    split at h
    · have := of_decide_eq_true h
      subst this
      exact ⟨.bl b, rfl, fun _ => rfl⟩
    · cases h
  | .int i, u, h => by
    unfold dB at h
    split at h
    · have := of_decide_eq_true h
      subst this
      exact ⟨.int i, ⟨_, rfl⟩, fun _ => rfl⟩
    · cases h
  | .str x, u, h => by
    unfold dB at h
    split at h
    · rename_i y t
      rw [Bool.and_eq_true] at h
      have := of_decide_eq_true h.1
      subst this
      exact ⟨.str y, ⟨_, rfl⟩, fun _ => ⟨by simp, okB_ok h.2⟩⟩
    · cases h
  | .tup ds, u, h => by
    unfold dB at h
    split at h
    · rename_i a
      split at h
      · rename_i c od its n sl q
        simp only [Bool.and_eq_true, decide_eq_true_eq] at h
        obtain ⟨vs, r, hr⟩ := dBs_ok ds its.toList h.2
        exact ⟨.ref a, rfl, fun H => ⟨a, vs, rfl, .inr ⟨_, its, n, q, congrArg Value.type h.1.1, rfl, h.1.2, r⟩, hr H⟩⟩
      · cases h
    · cases h
  | .lis ds, u, h => by
    unfold dB at h
    split at h
    · rename_i a
      split at h
      · rename_i c its n sl q
        simp only [Bool.and_eq_true, decide_eq_true_eq] at h
        obtain ⟨vs, r, hr⟩ := dBs_ok ds its.toList h.2
        exact ⟨.ref a, rfl, fun H => ⟨a, vs, rfl, .inr ⟨_, its, n, q, congrArg Value.type h.1.1, rfl, rfl, h.1.2, r⟩, hr H⟩⟩
      · cases h
    · cases h
  | .ref _, u, h => by cases h
  | .fn _, u, h => by cases h
  | .cls _, u, h => by cases h
  | .ty n, u, h => by
    unfold dB at h
    split at h
    · rw [Bool.and_eq_true] at h
      have := of_decide_eq_true h.1
      subst this
      exact ⟨.ty n, rfl, fun _ => ⟨rfl, of_decide_eq_true h.2⟩⟩
    · cases h
theorem dBs_ok {R : RC} : ∀ (ds : List D) (us : List Value), dBs R.K ds us = true → ∃ vs, Vals vs us ∧ ∀ H, RelDs R H ds vs
  | [], us, h => by
    unfold dBs at h
    rw [List.isEmpty_iff.mp h]
    exact ⟨[], .nil, fun _ => rfl⟩
  | d :: ds, us, h => by
    unfold dBs at h
    split at h
    · rw [Bool.and_eq_true] at h
      obtain ⟨v, r, hr⟩ := dB_ok d _ h.1
      obtain ⟨vs, rs, hrs⟩ := dBs_ok ds _ h.2
      exact ⟨v :: vs, .cons r rs, fun H => ⟨v, vs, rfl, hr H, hrs H⟩⟩
    · cases h
end
def nmDB (K : PySem.W.Frag) (x : Str) (a : Addr) : Bool := He.eqO (PySem.W.nsIn K mainGlobals x) (some (some (.ref a)))
def glDB (K : PySem.W.Frag) (p : Str × D) : Bool := match PySem.W.nsIn K mainGlobals p.1 with
  | some (some u) => dB K p.2 u
  | _ => false
/-- a def of the parameters ps that has no defaults -/
def plainD (d : He.DefD) (ps : List Str) : Bool := d.dfl.isEmpty && d.kwd.isEmpty && plainArgs d.params && decide (d.params.args.map (·.arg) = ps)
def initDB (K : PySem.W.Frag) (C : Cl) (f : Str) (d : He.DefD) : Bool := match d.params.args.map (·.arg) with
  | [s, y] => plainD d [s, y] && decide (d.name = "__init__") && decide (PySem.W.findIn K (.ref (He.ga K C.name)) "__init__" = some (some (.ref (He.fAd K d.at_)))) && decide (PySem.W.typeIn K (.ref (He.fAd K d.at_)) = some (.type "function")) &&
      decide (PySem.W.takerIn K (He.ga K C.name) f = some none) && scB [s, y] [s, y] d.scope && initB s y f d.body && nmB s && nmB y
  | _ => false
def clsB (K : PySem.W.Frag) (C : Cl) (i : Option He.DefD) : Bool :=
  nmDB K C.name (He.ga K C.name) && PySem.W.keepIn K (.ref (He.ga K C.name)) && decide (PySem.W.subIn K (.ref (He.ga K C.name)) (.type "BaseException") = some true) && decide (PySem.W.typeIn K (.ref (He.ga K C.name)) = some (.type "type")) && match C.fs, i with
    | [], _ => PySem.W.excIn K (He.ga K C.name) exB "Exception.__new__"
    | [f], some d => PySem.W.excInitIn K (He.ga K C.name) exB "Exception.__new__" && PySem.W.excOver K (He.ga K C.name) exB && PySem.W.hasDictIn K (He.ga K C.name) &&
        decide (PySem.W.findIn K (.ref (He.ga K C.name)) "__setattr__" = some (some (.builtin "object.__setattr__"))) && initDB K C f d
    | _, _ => false
def clsBs (K : PySem.W.Frag) : List Cl → List (Option He.DefD) → Bool
  | [], [] => true
  | C :: Cs, i :: is => clsB K C i && clsBs K Cs is
  | _, _ => false
def telB (l : Lay) (K : PySem.W.Frag) (h : Told) (q : He.DefD × Str × Str × Str) : Bool := match q with
  | (d, a, e, cn) => match l.P.cls[h.c]? with
    | some C => decide (d.name = h.name) && decide (d.qual = h.name) && nmDB K h.name (He.fAd K d.at_) && plainD d [a] && scB [a, e] [a] d.scope && decide (d.scope.names.lookup a = some .local) && decide (d.scope.names.lookup e = some .local) &&
        decide (d.scope.names.lookup cn = some .globalImplicit) && nmB a && nmB e && nmB cn && toldS (some C.fs) a e cn h.r d.body && nmDB K cn (He.ga K C.name) && decide (PySem.W.exmOne K (.ref (He.ga K C.name)) (.ref (He.ga K C.name)) = some true) &&
        xfB K (He.ga K C.name) && C.fs.all fun f => decide (PySem.W.findIn K (.ref (He.ga K C.name)) f = some none)
    | none => false
def telBs (l : Lay) (K : PySem.W.Frag) : List Told → List (He.DefD × Str × Str × Str) → Bool
  | [], [] => true
  | h :: hs, q :: qs => telB l K h q && telBs l K hs qs
  | _, _ => false
def heapB (l : Lay) (K : PySem.W.Frag) : Bool := (l.fns.all fun d => nmDB K d.name (He.fAd K d.at_)) && ((bltNames.all fun n => He.eqO (PySem.W.nsIn K mainGlobals (n : Str)) (some none)) && ((l.P.gl.all fun p => glDB K p) &&
  (clsBs K l.P.cls l.inits && (telBs l K l.P.told l.tds && decide ((l.lams.map fun d => (He.cT K d.at_).2).Nodup)))))

/-! ### the hook -/
abbrev hookP (n : Nat) (l : Lay) : PySem.W.Hook := He.hookX n [] l.all [] l.tf (heapB l)
theorem clsBs_at {K : PySem.W.Frag} : ∀ {Cs : List Cl} {is : List (Option He.DefD)} {c : Nat} {C : Cl}, clsBs K Cs is = true → Cs[c]? = some C → ∃ i, is[c]? = some i ∧ clsB K C i = true
  | [], _, c, C, _, e => by simp at e
  | _ :: _, [], c, C, h, e => by cases h
  | C :: Cs, i :: is, 0, D, h, e => by
    simp at e
    subst e
    unfold clsBs at h
    rw [Bool.and_eq_true] at h
    exact ⟨i, rfl, h.1⟩
  | C :: Cs, i :: is, c + 1, D, h, e => by
    unfold clsBs at h
    rw [Bool.and_eq_true] at h
    obtain ⟨j, h1, h2⟩ := clsBs_at (c := c) h.2 (by simpa using e)
    exact ⟨j, by simpa using h1, h2⟩
theorem telBs_at {l : Lay} {K : PySem.W.Frag} : ∀ {hs : List Told} {qs : List (He.DefD × Str × Str × Str)} {t : Nat} {h : Told}, telBs l K hs qs = true → hs[t]? = some h → ∃ q, q ∈ qs ∧ telB l K h q = true
  | [], _, c, C, _, e => by simp at e
  | _ :: _, [], c, C, h, e => by cases h
  | C :: Cs, i :: is, 0, D, h, e => by
    simp at e
    subst e
    unfold telBs at h
    rw [Bool.and_eq_true] at h
    exact ⟨i, List.mem_cons_self .., h.1⟩
  | C :: Cs, i :: is, c + 1, D, h, e => by
    unfold telBs at h
    rw [Bool.and_eq_true] at h
    obtain ⟨j, h1, h2⟩ := telBs_at (t := c) h.2 (by simpa using e)
    exact ⟨j, List.mem_cons_of_mem _ h1, h2⟩
theorem lamL_mem : ∀ {ds : List He.DefD} {Fs : List Fn} {i : Nat} {d : He.DefD} {F : Fn}, ds[i]? = some d → Fs[i]? = some F → F.lam = true → d ∈ lamL ds Fs
  | [], _, i, d, F, e, _, _ => by simp at e
  | _ :: _, [], i, d, F, _, e, _ => by simp at e
  | d :: ds, G :: Fs, 0, d', F, e1, e2, h => by
    simp at e1 e2
    subst e1 e2
    unfold lamL
    rw [if_pos h]
    exact List.mem_cons_self ..
  | d :: ds, G :: Fs, i + 1, d', F, e1, e2, h => by
    have z := lamL_mem (i := i) (ds := ds) (Fs := Fs) (by simpa using e1) (by simpa using e2) h
    unfold lamL
    split
    · exact List.mem_cons_of_mem _ z
    · exact z
theorem plainD_funD {K : PySem.W.Frag} {d : He.DefD} {ps : List Str} {fd : FuncData} {f : Addr} (h : plainD d ps = true) (F : FunD K d.name d.qual d.params d.body d.scope (d.dvs K) (d.kws K) f fd) : FunD K d.name d.qual d.params d.body d.scope [] [] f fd := by
  unfold plainD at h
  simp only [Bool.and_eq_true, List.isEmpty_iff, decide_eq_true_eq] at h
  unfold He.DefD.dvs He.DefD.kws at F
  rw [h.1.1.1, h.1.1.2] at F
  exact F
theorem plainD_binds {K : PySem.W.Frag} {d : He.DefD} {N ps : List Str} {x : Str} {fd : FuncData} {f : Addr} (h : plainD d ps = true) (S : FnScope N ps d.scope) (F : FunD K x d.qual d.params d.body d.scope [] [] f fd) : Binds K fd ps [] := by
  unfold plainD at h
  simp only [Bool.and_eq_true, List.isEmpty_iff, decide_eq_true_eq] at h
  have nd : (d.params.args.map (·.arg)).Nodup := by
    rw [h.2, ← S.pre]
    exact S.nd.sublist (List.take_sublist _ _)
  exact F.bindsN fun kV doc pm an cdv ct us hl => by
    rw [← h.2] at hl ⊢
    exact bind_plain h.1.2 nd hl
theorem nodup_fst {α β : Type} : ∀ {l : List (α × β)}, (l.map (·.1)).Nodup → ∀ {p q : α × β}, p ∈ l → q ∈ l → p.1 = q.1 → p = q
  | [], _, p, q, h, _, _ => by cases h
  | x :: l, nd, p, q, hp, hq, e => by
    rw [List.map_cons, List.nodup_cons] at nd
    rcases List.mem_cons.mp hp with h1 | hp'
    · rcases List.mem_cons.mp hq with h2 | hq'
      · rw [h1, h2]
      · exact absurd (List.mem_map.mpr ⟨q, hq', by rw [← e, h1]⟩) nd.1
    · rcases List.mem_cons.mp hq with h2 | hq'
      · exact absurd (List.mem_map.mpr ⟨p, hp', by rw [e, h2]⟩) nd.1
      · exact nodup_fst nd.2 hp' hq' e
theorem fits_of {l : Lay} {w : World} {K : PySem.W.Frag} {h : Heap} {mg : Str → Option Value} (X : K.In h) (G : h.Ns mainGlobals mg) (c : He.SaysX [] l.all [] l.tf (heapB l) w h K) (t : fitB l = true) : Fits (l.rc K) (l.tf.map (He.cT K)) mg := by
  have c1 : heapB l K = true := c.more
  have fd : ∀ d ∈ l.all, ∃ fd, FunD K d.name d.qual d.params d.body d.scope (d.dvs K) (d.kws K) (He.fAd K d.at_) fd := fun d hd => c.t.d.defs hd
  unfold heapB at c1
  simp only [Bool.and_eq_true, List.all_eq_true, decide_eq_true_eq] at c1
  obtain ⟨h1, h2, h3, h4, h5, h6⟩ := c1
  have hT : ((l.rc K).T.map (·.1)).Nodup := by
    unfold Lay.rc
    dsimp only
    rw [List.map_map]
    exact h6
  have hca : ∀ {c : Nat} {C : Cl}, l.P.cls[c]? = some C → (l.rc K).ca c = He.ga K C.name := fun {c C} e => by
    show (match l.P.cls[c]? with | some C => He.ga K C.name | none => 0) = _
    rw [e]
  refine ⟨fun f F hF => ?_, fun g p hp => ?_, fun n hn => PySem.W.mg_none_of X G (He.eqO_ok (h2 n hn)), fun c C hC => ?_, fun tt th hth => ?_⟩
  · obtain ⟨d, hd, hb⟩ := fitB2_at t hF
    unfold fnB at hb
    simp only [Bool.and_eq_true, decide_eq_true_eq, List.isEmpty_iff] at hb
    obtain ⟨⟨⟨⟨⟨⟨⟨b1, b2⟩, b3⟩, b4⟩, b5⟩, b6⟩, b7⟩, b8⟩ := hb
    have hm := List.mem_of_getElem? hd
    obtain ⟨fd, FD⟩ := fd d (List.mem_append_left _ hm)
    have efa : (l.rc K).fa f = He.fAd K d.at_ := by
      show (match l.fns[f]? with | some d => He.fAd K d.at_ | none => 0) = _
      rw [hd]
    have FD' := FD
    unfold He.DefD.dvs He.DefD.kws at FD
    rw [b3, b4, b1] at FD
    refine ⟨fd, d.qual, d.params, d.body, d.scope, by rw [efa]; exact FD, scB_ok b7, b5, b6, b8, ?_, fun hl => ?_⟩
    · rw [efa, ← b1]
      exact PySem.W.mg_of X G (He.eqO_ok (h1 d hm))
    · have hlm := lamL_mem hd hF hl
      have htf : d.at_ ∈ l.tf := List.mem_map.mpr ⟨d, hlm, rfl⟩
      have hcode := c.hd _ htf
      have hmT : ((He.cT K d.at_).2, d.qual ++ ".<locals>." ++ "<lambda>") ∈ (l.rc K).T := List.mem_map.mpr ⟨d, hlm, rfl⟩
      refine ⟨(He.cT K d.at_).1, (He.cT K d.at_).2, ?_, List.mem_map.mpr ⟨d.at_, htf, rfl⟩, hmT, fun p hp e => congrArg (·.2) (nodup_fst hT hp hmT e)⟩
      obtain ⟨oc, od, dV, kV, doc, pm, an, cdv, ct, osl, rfl, lk, hcd, _, _⟩ := FD.ex
      show cdv = .ref (He.codeOf K d.at_)
      obtain ⟨cc, hcc⟩ : ∃ cc, cdv = .ref cc := by
        unfold PySem.W.codeIn at hcd
        split at hcd
        · exact ⟨_, rfl⟩
        · cases hcd
      rw [hcc]
      exact congrArg Value.ref (He.codeOf_eq lk hcc).symm
  · have q := h3 p (List.mem_of_getElem? hp)
    unfold glDB at q
    split at q
    · rename_i u e
      obtain ⟨v, r, hr⟩ := dB_ok (R := l.rc K) p.2 u q
      exact ⟨u, v, PySem.W.mg_of X G e, r, hr⟩
    · cases q
  · obtain ⟨i, hi, hb⟩ := clsBs_at h4 hC
    unfold clsB at hb
    simp only [Bool.and_eq_true, decide_eq_true_eq] at hb
    obtain ⟨⟨⟨⟨b1, b2⟩, b3⟩, b4⟩, b5⟩ := hb
    unfold ClsOk
    rw [hca hC]
    refine ⟨PySem.W.mg_of X G (He.eqO_ok b1), b2, b3, b4, ?_⟩
    split at b5
    · rename_i e
      rw [e]
      exact b5
    · rename_i f d e
      rw [e]
      simp only [Bool.and_eq_true, decide_eq_true_eq] at b5
      obtain ⟨⟨⟨⟨d1, d2⟩, d3⟩, d4⟩, d5⟩ := b5
      refine ⟨⟨d1, d2, d3, d4, b3, b4, b2⟩, ?_⟩
      unfold initDB at d5
      split at d5
      · rename_i s y es
        simp only [Bool.and_eq_true, decide_eq_true_eq] at d5
        obtain ⟨⟨⟨⟨⟨⟨⟨⟨e1, e2⟩, e3⟩, e4⟩, e5⟩, e6⟩, e7⟩, e8⟩, e9⟩ := d5
        obtain ⟨fd, FD⟩ := fd d (List.mem_append_right _ (List.mem_append_left _ (List.mem_filterMap.mpr ⟨some d, List.mem_of_getElem? hi, rfl⟩)))
        have FD2 := plainD_funD e1 FD
        rw [e2] at FD2
        exact ⟨_, fd, d.qual, d.params, d.body, d.scope, s, y, e3, e4, e5, FD2, scB_ok e6, plainD_binds e1 (scB_ok e6) FD2, e7, e8, e9⟩
      · cases d5
    · cases b5
  · obtain ⟨⟨d, a, e, cn⟩, hq, hb⟩ := telBs_at h5 hth
    unfold telB at hb
    dsimp only at hb
    split at hb
    · rename_i C hC
      simp only [Bool.and_eq_true, decide_eq_true_eq, List.all_eq_true] at hb
      obtain ⟨⟨⟨⟨⟨⟨⟨⟨⟨⟨⟨⟨⟨⟨⟨b1, b2⟩, b3⟩, b4⟩, b5⟩, b6⟩, b7⟩, b8⟩, b9⟩, b10⟩, b11⟩, b12⟩, b13⟩, b14⟩, b15⟩, b16⟩ := hb
      obtain ⟨fd, FD⟩ := fd d (List.mem_append_right _ (List.mem_append_right _ (List.mem_map.mpr ⟨_, hq, rfl⟩)))
      have FD2 := plainD_funD b4 FD
      have bi := plainD_binds b4 (scB_ok b5) FD2
      have kp := FD2.kp
      rw [b1, b2] at FD2
      obtain ⟨oc, od, dV, kV, doc, pm, an, cdv, ct, osl, rfl, lk, hcd, _, _⟩ := FD2.ex
      refine ⟨⟨He.fAd K d.at_, d.params, d.body, d.scope, dV, kV, doc, pm, cdv, ct, oc, an, od, osl, a, e, cn, PySem.W.mg_of X G (He.eqO_ok b3), kp, lk, hcd, bi, scB_ok b5, b6, b7, b8, b9, b10, b11, ?_, ?_, ?_, ?_, ?_⟩⟩
      · show toldS (l.P.cls[th.c]?.map (·.fs)) a e cn th.r d.body = true
        rw [hC]
        exact b12
      · rw [hca hC]
        exact PySem.W.mg_of X G (He.eqO_ok b13)
      · rw [hca hC]
        exact b14
      · rw [hca hC]
        exact xfB_ok b15
      · intro fs hfs f hf
        have hfs : l.P.cls[th.c]?.map (·.fs) = some fs := hfs
        rw [hC] at hfs
        cases hfs
        rw [hca hC]
        exact b16 f hf
    · cases hb

/-! ### the law -/
theorem ints_lis {R : RC} {H : Hp} : ∀ ns : List Int, RelDs R H (ns.map D.int) (ns.map V.int)
  | [] => rfl
  | n :: ns => ⟨.int n, ns.map V.int, rfl, rfl, ints_lis ns⟩
theorem no_upd {Q : QE} : UpD noE Q := fun _ _ _ _ z => z.elim
/-- the script as it lies: a list that is only read, or the one list of the store -/
def Script (ns : List Int) (d : D) (S : DS) : Prop := (d = .lis (ns.map D.int) ∧ ∀ b, S b = none) ∨ ∃ a, d = .ref a ∧ S a = some (.lst (ns.map D.int)) ∧ ∀ b, b ≠ a → S b = none
/-- a law whose core text answers true at all scripts keeps its promise -/
theorem law_at {r : PySem.W.OpenLaw} {l : Lay} {w : World} {K : PySem.W.Frag} {h : Heap} {mg : Str → Option Value} {fa : Addr} (X : K.In h) (G : h.Ns mainGlobals mg) (c : He.SaysX [] l.all [] l.tf (heapB l) w h K) (t : fitB l = true)
    {N fl : Nat} {F : Fn} (hF : l.P.fns[fl]? = some F) {x : Str} (hps : F.ps = [x]) (hfa : mg F.name = some (.ref fa))
    (hlaw : ∀ (ns : List Int) (d : D) (S : DS), ns.length ≤ 63 → Script ns d S → sem l.P N fl [d] S (fun d _ => d = .bl true) noE) :
    LamX.LawAtS r w K (L2.CX r.prog w) (N + 62) 63 x mg fa h := by
  have FT := fits_of X G c t
  obtain ⟨fd, ff⟩ := FT.fn fl F hF
  have efa : (l.rc K).fa fl = fa := by
    obtain ⟨_, _, _, _, _, _, _, _, _, hm, _⟩ := ff
    rw [hfa] at hm
    cases hm
    rfl
  refine ⟨fd, l.tf.map (He.cT K), liftSp (l.rc K) (sem l.P N fl), fun p hp => ?_, fun p hp => ?_, fun p hp => ?_, fun s u => ?_, fun H a ns hl _ hT hS => ?_, fun base _ _ hTB => ?_⟩
  · obtain ⟨q, hq, rfl⟩ := List.mem_map.mp hp
    exact c.empty q hq
  · obtain ⟨q, hq, rfl⟩ := List.mem_map.mp hp
    exact c.out q hq
  · obtain ⟨q, hq, rfl⟩ := List.mem_map.mp hp
    exact PySem.W.codeHd_of_K X (c.hd q hq)
  · have z := fact_binds ff s [u] (by rw [hps]; rfl)
    rw [hps] at z
    exact z
  · have tabs : LamX.Tabs (l.rc K).T H := fun p hp => by
      obtain ⟨d, hd, rfl⟩ := List.mem_map.mp hp
      exact LamX.TabS.nil (hT (He.cT K d.at_) (List.mem_map.mpr ⟨d.at_, List.mem_map.mpr ⟨d, hd, rfl⟩, rfl⟩))
    have fin : ∀ (d : D) (S : DS), Script ns d S → RelD (l.rc K) H d (.ref a) → RelS (l.rc K) H S → liftSp (l.rc K) (sem l.P N fl) [.ref a] H (fun v _ => v = .bl true) fun _ _ _ => False := fun d S hs rd rs => by
      refine ⟨[d], S, ⟨.ref a, [], rfl, rd, rfl⟩, rs, ?_⟩
      refine sem_mono l.P N N (Nat.le_refl _) fl _ _ _ _ _ _ _ (DS.le.refl _) ?_ no_upd (hlaw ns d S hl hs)
      intro d A B _ e v H' _ rd _
      subst e
      exact rd
    rcases hS with (hx | ⟨o, hx⟩) | hx
    · refine fin (.ref a) (fun b => if b = a then some (.lst (ns.map D.int)) else none) (.inr ⟨a, rfl, if_pos rfl, fun b hb => if_neg hb⟩) rfl ⟨fun b o e => ?_, tabs⟩
      by_cases hb : b = a
      · subst hb
        rw [if_pos rfl] at e
        cases e
        exact ⟨_, hx, ints_lis ns⟩
      · rw [if_neg hb] at e
        cases e
    · exact fin (.lis (ns.map D.int)) (fun _ => none) (.inl ⟨rfl, fun _ => rfl⟩) ⟨a, _, rfl, .inl ⟨o, hx⟩, ints_lis ns⟩ ⟨fun b o e => (by cases e), tabs⟩
    · exact fin (.lis (ns.map D.int)) (fun _ => none) (.inl ⟨rfl, fun _ => rfl⟩) ⟨a, _, rfl, .inr hx, ints_lis ns⟩ ⟨fun b o e => (by cases e), tabs⟩
  · have z := fn_ok (prog := r.prog) (w := w) (base := base) FT hTB N fl F fd hF ff
    rw [hps, efa] at z
    exact z
end PD
end
section
set_option Elab.async false
set_option linter.all false
set_option maxRecDepth 100000
/-! PyV, part A: the core program run by plain functions: lists and dicts are values, a slot may own one that changes. -/
namespace PV
open PySem PD

inductive V where
  | non | bl (b : Bool) | int (i : Int) | str (x : List Nat) | tup (vs : List V)
  | lst (vs : List V) | dct (ks : List Key) (vs : List V)
  | fn (f : Nat) | cls (c : Nat) | ty (n : String)
  deriving Inhabited
/-- what may change -/
inductive VO where
  | lst (vs : List V) | dk (ks : List Key) (vs : List V)
def VO.v : VO → V
  | .lst vs => .lst vs
  | .dk ks vs => .dct ks vs
/-- a slot: empty, a value, an object of its own (b: the caller's) -/
inductive Sl where
  | none | val (v : V) | own (b : Bool) (o : VO)
  deriving Inhabited
abbrev VEnv := List Sl
/-- what an expression gives: a value, a new object, the object of a slot -/
inductive Rv where
  | v (v : V) | own (o : VO) | sl (i : Nat)
inductive Res (α : Type) where
  | ok (a : α) (env : VEnv) | exc (c : Nat) (fs : List V) (env : VEnv) | bad
def Res.bind {α β : Type} : Res α → (α → VEnv → Res β) → Res β
  | .ok a env, f => f a env
  | .exc c fs env, _ => .exc c fs env
  | .bad, _ => .bad
/-- what a call gives, with what stands in the caller's objects -/
inductive CR where
  | ok (r : Rv) (outs : List VO) | exc (c : Nat) (fs : List V) (outs : List VO) | bad
/-- what a statement comes to -/
inductive SR where
  | nx (env : VEnv) | rt (r : Rv) (env : VEnv) | bk (env : VEnv) | ct (env : VEnv) | exc (c : Nat) (fs : List V) (env : VEnv) | bad
def SR.bind : SR → (VEnv → SR) → SR
  | .nx env, f => f env
  | .rt r env, _ => .rt r env
  | .bk env, _ => .bk env
  | .ct env, _ => .ct env
  | .exc c fs env, _ => .exc c fs env
  | .bad, _ => .bad
def Res.bindS {α : Type} : Res α → (α → VEnv → SR) → SR
  | .ok a env, f => f a env
  | .exc c fs env, _ => .exc c fs env
  | .bad, _ => .bad
/-- a value that is there -/
def optR {α β : Type} (o : Option α) (k : α → Res β) : Res β := match o with
  | some a => k a
  | none => .bad
def optS {α : Type} (o : Option α) (k : α → SR) : SR := match o with
  | some a => k a
  | none => .bad

/-- it is no new object -/
def noO {β : Type} (r : Rv) (k : Rv → Res β) : Res β := match r with
  | .own _ => .bad
  | r => k r

/-! ### values -/
mutual
def V.dep : V → Nat
  | .tup vs => V.deps vs + 1
  | .lst vs => V.deps vs + 1
  | _ => 0
def V.deps : List V → Nat
  | [] => 0
  | v :: vs => max v.dep (V.deps vs)
end
mutual
/-- data alone: nothing but none, bools, ints, texts, tuples, lists -/
def V.data : V → Bool
  | .non | .bl _ | .int _ | .str _ => true
  | .tup vs => V.datas vs
  | .lst vs => V.datas vs
  | _ => false
def V.datas : List V → Bool
  | [] => true
  | v :: vs => v.data && V.datas vs
end
mutual
def V.eqv : V → V → Bool
  | .non, .non => true
  | .bl a, .bl b => a == b
  | .bl a, .int j => (if a then 1 else 0) == j
  | .int i, .bl b => i == (if b then 1 else 0)
  | .int i, .int j => i == j
  | .str x, .str y => x == y
  | .tup xs, .tup ys => V.eqvs xs ys
  | .lst xs, .lst ys => V.eqvs xs ys
  | _, _ => false
def V.eqvs : List V → List V → Bool
  | [], [] => true
  | x :: xs, y :: ys => V.eqv x y && V.eqvs xs ys
  | _, _ => false
end
def eqV (x y : V) : Option Bool := if x.data = true ∧ y.data = true ∧ min x.dep y.dep ≤ 1000 then some (V.eqv x y) else none
def truthV : V → Option Bool
  | .non => some false
  | .bl b => some b
  | .int i => some (i != 0)
  | .str x => some (!x.isEmpty)
  | .tup vs => some (!vs.isEmpty)
  | .lst vs => some (!vs.isEmpty)
  | .dct ks _ => some (!ks.isEmpty)
  | _ => none
instance (i j : Int) : Decidable (mulOk i j) := by unfold mulOk; infer_instance
instance (i j : Int) : Decidable (divOk i j) := by unfold divOk; infer_instance
instance (i j : Int) : Decidable (powOk i j) := by unfold powOk; infer_instance
def binV (o : Op) (x y : V) : Option Rv := match o, x, y with
  | .add, .int i, .int j => some (.v (.int (i + j)))
  | .add, .str a, .str b => if a.length + b.length ≤ lim then some (.v (.str (a ++ b))) else none
  | .add, .tup a, .tup b => if a.length + b.length ≤ lim then some (.v (.tup (a ++ b))) else none
  | .add, .lst a, .lst b => if a.length + b.length ≤ lim then some (.own (.lst (a ++ b))) else none
  | .sub, .int i, .int j => some (.v (.int (i - j)))
  | .mul, .int i, .int j => if mulOk i j then some (.v (.int (i * j))) else none
  | .mul, .tup a, .int j => if 0 ≤ j ∧ j ≤ 1000 ∧ a.length ≤ 1000 then some (.v (.tup (List.replicate j.toNat a).flatten)) else none
  | .fdiv, .int i, .int j => if divOk i j then some (.v (.int (i / j))) else none
  | .mod, .int i, .int j => if 0 < j then some (.v (.int (i % j))) else none
  | .pow, .int i, .int j => if powOk i j then some (.v (.int (i ^ j.toNat))) else none
  | _, _, _ => none
def keyV : V → Option Key
  | .int i => some (.inl i)
  | .str x => some (.inr x)
  | _ => none
/-- what a dict holds for a key -/
def getV : List Key → List V → Key → Option V
  | k :: ks, v :: vs, q => if k = q then some v else getV ks vs q
  | _, _, _ => none
def inV (x y : V) : Option Bool := match y with
  | .str b => match x with
    | .str [c] => some (b.contains c)
    | _ => none
  | .tup vs => if x.data = true ∧ V.datas vs = true ∧ min (V.deps vs) x.dep ≤ 1000 then some (vs.any fun v => V.eqv v x) else none
  | .lst vs => if x.data = true ∧ V.datas vs = true ∧ min (V.deps vs) x.dep ≤ 1000 then some (vs.any fun v => V.eqv v x) else none
  | .dct ks _ => match keyV x with
    | some k => some (ks.any fun q => decide (q = k))
    | none => none
  | _ => none
def isNonV : V → Bool
  | .non => true
  | _ => false
def cmpV (o : Cm) (x y : V) : Option Bool := match o with
  | .eq => eqV x y
  | .ne => (eqV x y).map (!·)
  | .isin => inV x y
  | .notin => (inV x y).map (!·)
  | .lt => match x, y with
    | .int i, .int j => some (decide (i < j))
    | .str a, .str b => some (decide (a < b))
    | _, _ => none
  | .le => match x, y with
    | .int i, .int j => some (decide (i ≤ j))
    | _, _ => none
  | .gt => match x, y with
    | .int i, .int j => some (decide (j < i))
    | _, _ => none
  | .ge => match x, y with
    | .int i, .int j => some (decide (j ≤ i))
    | _, _ => none
  | .is => match y with
    | .non => some (isNonV x)
    | _ => none
  | .isnot => match y with
    | .non => some (!isNonV x)
    | _ => none
def ixLV (vs : List V) (i : Int) : Option V := match ixP vs.length i with
  | some j => vs[j]?
  | none => none
def ixV (x i : V) : Option V := match x with
  | .str b => match i with
    | .int i => match ixP b.length i with
      | some j => match b[j]? with
        | some c => some (.str [c])
        | none => none
      | none => none
    | _ => none
  | .tup vs => match i with
    | .int i => ixLV vs i
    | _ => none
  | .lst vs => match i with
    | .int i => ixLV vs i
    | _ => none
  | .dct ks vs => match keyV i with
    | some k => getV ks vs k
    | none => none
  | _ => none
def slV (x : V) (lo hi : Option Int) : Option Rv := match x with
  | .tup vs => some (.v (.tup (cutD vs lo hi)))
  | .lst vs => some (.own (.lst (cutD vs lo hi)))
  | _ => none
def intsV? : List V → Option (List Int)
  | [] => some []
  | .int i :: vs => match intsV? vs with
    | some is => some (i :: is)
    | none => none
  | _ => none
def blsV? : List V → Option (List Bool)
  | [] => some []
  | .bl b :: vs => match blsV? vs with
    | some bs => some (b :: bs)
    | none => none
  | _ => none
def isOfV (v : V) (n : String) : Option Bool := match v with
  | .non => some (n == "NoneType")
  | .bl _ => some (n == "bool" || n == "int")
  | .int _ => some (n == "int")
  | .str _ => some (n == "str")
  | .tup _ => some (n == "tuple")
  | .lst _ => some (n == "list")
  | .dct _ _ => some (n == "dict")
  | _ => none
def biV (b : BI) (vs : List V) : Option V := match b, vs with
  | .len, [.str x] => if x.length ≤ lim then some (.int x.length) else none
  | .len, [.tup xs] => some (.int xs.length)
  | .len, [.lst xs] => some (.int xs.length)
  | .len, [.dct ks _] => some (.int ks.length)
  | .abs, [.int i] => some (.int (if i < 0 then -i else i))
  | .int, [.int i] => some (.int i)
  | .isinst, [v, .ty n] => (isOfV v n).map .bl
  | .max, [.int i, .int j] => some (.int (if j > i then j else i))
  | .min, [.int i, .int j] => some (.int (if j < i then j else i))
  | _, _ => none
def biLV (b : BI) (vs : List V) : Option Rv := match b with
  | .tuple => some (.v (.tup vs))
  | .list => some (.own (.lst vs))
  | .sum => (intsV? vs).map fun is => .v (.int is.sum)
  | .max => match intsV? vs with
    | some (i :: is) => some (.v (.int (intMax i is)))
    | _ => none
  | .min => match intsV? vs with
    | some (i :: is) => some (.v (.int (intMin i is)))
    | _ => none
  | .all => (blsV? vs).map fun bs => .v (.bl (bs.all id))
  | .any => (blsV? vs).map fun bs => .v (.bl (bs.any id))
  | _ => none
def kindV (m : MT) (o : VO) : Bool := match m, o with
  | .setdefault, .dk _ _ => true
  | .append, .lst _ => true
  | .pop, .lst _ => true
  | .extend, .lst _ => true
  | _, _ => false
def mthV (m : MT) (o : VO) (vs : List V) : Option (V × VO) := match m, o, vs with
  | .append, .lst xs, [v] => if xs.length < lim then some (.non, .lst (xs ++ [v])) else none
  | .pop, .lst xs, [] => match xs.getLast? with
    | some v => some (v, .lst xs.dropLast)
    | none => none
  | .setdefault, .dk ks xs, [k, v] => match keyV k with
    | some k => if ks.length < lim then match getV ks xs k with
      | some d => some (d, .dk ks xs)
      | none => some (v, .dk (ks ++ [k]) (xs ++ [v]))
      else none
    | none => none
  | _, _, _ => none
def extV (o : VO) (vs : List V) : Option VO := match o with
  | .lst xs => if xs.length + vs.length ≤ lim then some (.lst (xs ++ vs)) else none
  | _ => none
/-- o[i] = v -/
def setIV (o : VO) (i v : V) : Option VO := match o, i with
  | .lst xs, .int i => match ixP xs.length i with
    | some j => some (.lst (xs.set j v))
    | none => none
  | _, _ => none
/-- what is walked -/
def walkV : V → Option (List V)
  | .tup vs => some vs
  | .lst vs => some vs
  | .str x => if x.length ≤ lim then some (x.map fun c => .str [c]) else none
  | _ => none
def seqV : V → Option (List V)
  | .tup vs => some vs
  | .lst vs => some vs
  | _ => none
def lslV : V → Option (List V)
  | .lst vs => some vs
  | _ => none
def rangeV (lo hi : Int) : List V := (List.range (hi - lo).toNat).map fun (k : Nat) => V.int (lo + (k : Int))
def enumV : Nat → List V → List V
  | _, [] => []
  | k, v :: vs => .tup [.int k, v] :: enumV (k + 1) vs
def zipV : List V → List V → List V
  | x :: xs, y :: ys => .tup [x, y] :: zipV xs ys
  | _, _ => []
def zipVV : V → V → Option (List V)
  | .tup xs, .tup ys => some (zipV xs ys)
  | .lst xs, .lst ys => some (zipV xs ys)
  | _, _ => none
def hvalsV : HR → List V → Option (List V)
  | [], _ => some []
  | .inl x :: r, fs => match hvalsV r fs with
    | some vs => some (.str x :: vs)
    | none => none
  | .inr i :: r, fs => match fs[i]?, hvalsV r fs with
    | some v, some vs => some (v :: vs)
    | _, _ => none

/-! ### slots -/
inductive Md where
  | pk | fz | as | mv
def Md.keep : Md → Bool
  | .as | .mv => true
  | _ => false
/-- a new object as it is wanted -/
def ownR (m : Md) (r : Rv) : Rv := match r with
  | .own o => if m.keep = true then .own o else .v o.v
  | r => r
@[simp] def varR (m : Md) (i : Nat) (env : VEnv) : Res Rv := match env.getD i .none with
  | .val v => .ok (.v v) env
  | .own b o => match m with
    | .pk => .ok (.sl i) env
    | .mv => if b = true then .bad else .ok (.own o) (env.set i .none)
    | _ => if b = true then .bad else .ok (.v o.v) (env.set i (.val o.v))
  | .none => .bad
/-- what stands behind it -/
def deref (env : VEnv) : Rv → Option V
  | .v v => some v
  | .own _ => none
  | .sl i => match env.getD i .none with
    | .own _ o => some o.v
    | _ => none
/-- a value, nothing else -/
def valR : Rv → Option V
  | .v v => some v
  | _ => none
def derefs (env : VEnv) : List Rv → Option (List V)
  | [] => some []
  | r :: rs => match deref env r, derefs env rs with
    | some v, some vs => some (v :: vs)
    | _, _ => none
@[simp] def setS (env : VEnv) (i : Nat) (s : Sl) : Option VEnv := match env.getD i .none with
  | .own true _ => none
  | _ => some (env.set i s)
/-- a call's arguments -/
def mkArgs (env : VEnv) : List Rv → Option (List Sl)
  | [] => some []
  | .v v :: rs => (mkArgs env rs).map (.val v :: ·)
  | .sl i :: rs => match env.getD i .none with
    | .own _ o => (mkArgs env rs).map (.own true o :: ·)
    | _ => none
  | .own _ :: _ => none
def slsOf : List Rv → List Nat
  | [] => []
  | .sl i :: rs => i :: slsOf rs
  | _ :: rs => slsOf rs
@[simp] def putOuts : VEnv → List Nat → List VO → VEnv
  | env, i :: is, o :: os => putOuts (match env.getD i .none with
    | .own b _ => env.set i (.own b o)
    | _ => env) is os
  | env, _, _ => env
/-- the places of the caller's objects -/
@[simp] def ownPos : Nat → List Sl → List Nat
  | _, [] => []
  | k, .own _ _ :: r => k :: ownPos (k + 1) r
  | k, _ :: r => ownPos (k + 1) r
@[simp] def outsAt (env : VEnv) : List Nat → Option (List VO)
  | [] => some []
  | j :: js => match env.getD j .none with
    | .own true o => (outsAt env js).map (o :: ·)
    | _ => none
/-- slots emptied; they own nothing -/
@[simp] def wipeV (env : VEnv) : List Nat → Option VEnv
  | [] => some env
  | i :: is => match wipeV env is with
    | some e => match e.getD i .none with
      | .own _ _ => none
      | _ => some (e.set i .none)
    | none => none
/-- slots as they were in e0 -/
@[simp] def backV (e0 env : VEnv) : List Nat → VEnv
  | [] => env
  | i :: is => (backV e0 env is).set i (e0.getD i .none)
structure GV where
  gl : Nat → Option V
  call : Nat → List Sl → CR
  low : Nat → List Sl → CR
  told : List Told
  /-- the parameters that are the caller's objects -/
  sg : Nat → List Nat
  wf : Nat
def toldV (ts : List Told) (t : Nat) (c : Nat) (fs : List V) (env : VEnv) : Res Rv := match ts[t]? with
  | some h => if c = h.c then match hvalsV h.r fs with
    | some vs => .ok (.v (.tup vs)) env
    | none => .bad
    else .bad
  | none => .bad
/-- a call's end -/
def callR (m : Md) (os : List Rv) (env : VEnv) (cr : CR) : Res Rv := match cr with
  | .ok r outs => match r with
    | .sl _ => .bad
    | r => .ok (ownR m r) (putOuts env (slsOf os) outs)
  | .exc c fs outs => .exc c fs (putOuts env (slsOf os) outs)
  | .bad => .bad
def callA (m : Md) (call : List Sl → CR) (os : List Rv) (env : VEnv) : Res Rv :=
  if (slsOf os).Nodup then match mkArgs env os with
    | some args => callR m os env (call args)
    | none => .bad
  else .bad
def consO : Option V → List V → List V
  | some x, xs => x :: xs
  | none, xs => xs
def eachV (f : V → VEnv → Res (Option V)) : List V → VEnv → Res (List V)
  | [], env => .ok [] env
  | v :: vs, env => (f v env).bind fun r env1 => (eachV f vs env1).bind fun xs env2 => .ok (consO r xs) env2
/-- no exception leaves -/
def Res.noX {α : Type} : Res α → Res α
  | .exc _ _ _ => .bad
  | r => r
/-- a comprehension's turn; its slots are empty at its start and at its end -/
def lcV (sl : List Nat) (tg : Rv → VEnv → Res Unit) (t : VEnv → Res Bool) (e : VEnv → Res Rv) (v : V) (env : VEnv) : Res (Option V) :=
  ((tg (.v v) env).bind fun _ env1 => (t env1).bind fun k env2 => if k = true then (e env2).bind fun x env3 => optR (valR x) fun x => optR (wipeV env3 sl) fun env4 => .ok (some x) env4 else optR (wipeV env2 sl) fun env4 => .ok none env4).noX
mutual
/-- a target is given a value -/
def tgV (G : GV) : Tg → Rv → VEnv → Res Unit
  | .name i, r, env => match r with
    | .v v => optR (setS env i (.val v)) fun e => .ok () e
    | .own o => optR (setS env i (.own false o)) fun e => .ok () e
    | .sl _ => .bad
  | .tup ts, r, env => match r with
    | .v (.tup vs) => if vs.length = ts.length then tgsV G ts (vs.map .v) env else .bad
    | _ => .bad
  | .sub o i, r, env => match r with
    | .v v => (ev G .pk o env).bind fun x env1 => (ev G .pk i env1).bind fun y env2 => match x with
      | .sl k => match env2.getD k .none with
        | .own b vo => optR (deref env2 y) fun y => optR (setIV vo y v) fun vo2 => .ok () (env2.set k (.own b vo2))
        | _ => .bad
      | _ => .bad
    | _ => .bad
termination_by structural t => t
def tgsV (G : GV) : List Tg → List Rv → VEnv → Res Unit
  | [], _, env => .ok () env
  | t :: ts, rs, env => match rs with
    | r :: rs => (tgV G t r env).bind fun _ env1 => tgsV G ts rs env1
    | [] => .bad
termination_by structural t => t
/-- an expression -/
def ev (G : GV) : Md → C → VEnv → Res Rv
  | m, .var i, env => varR m i env
  | m, .int i, env => .ok (.v (.int i)) env
  | m, .str x, env => .ok (.v (.str x)) env
  | m, .bl b, env => .ok (.v (.bl b)) env
  | m, .non, env => .ok (.v .non) env
  | m, .gl g, env => optR (G.gl g) fun v => .ok (.v v) env
  | m, .ty n, env => .ok (.v (.ty n)) env
  | m, .neg a, env => (ev G .pk a env).bind fun x env1 => optR (deref env1 x) fun x => match x with
    | .int i => .ok (.v (.int (-i))) env1
    | _ => .bad
  | m, .not a, env => (ev G .pk a env).bind fun x env1 => optR (deref env1 x) fun x => optR (truthV x) fun b => .ok (.v (.bl (!b))) env1
  | m, .bin o a b, env => (ev G .pk a env).bind fun x env1 => (ev G .pk b env1).bind fun y env2 => optR (deref env2 x) fun x => optR (deref env2 y) fun y => optR (binV o x y) fun r => .ok (ownR m r) env2
  | m, .and a b, env => (ev G .fz a env).bind fun x env1 => optR (valR x) fun x => optR (truthV x) fun k => if k = true then ev G m b env1 else .ok (.v x) env1
  | m, .or a b, env => (ev G .fz a env).bind fun x env1 => optR (valR x) fun x => optR (truthV x) fun k => if k = true then .ok (.v x) env1 else ev G m b env1
  | m, .ite t a b, env => (vT G t env).bind fun k env1 => if k = true then ev G m a env1 else ev G m b env1
  | m, .cmp o a b, env => (ev G .pk a env).bind fun x env1 => (ev G .pk b env1).bind fun y env2 => optR (deref env2 x) fun x => optR (deref env2 y) fun y => optR (cmpV o x y) fun k => .ok (.v (.bl k)) env2
  | m, .chain o p a b c, env => (ev G .pk a env).bind fun x env1 => (ev G .pk b env1).bind fun y env2 => optR (deref env2 x) fun x => optR (deref env2 y) fun y1 => optR (cmpV o x y1) fun k => if k = true then
      (ev G .pk c env2).bind fun z env3 => optR (deref env3 y) fun y => optR (deref env3 z) fun z => optR (cmpV p y z) fun k => .ok (.v (.bl k)) env3
    else .ok (.v (.bl false)) env2
  | m, .call f es, env => (vAs G (G.sg f) 0 es env).bind fun os env1 => callA m (G.call f) os env1
  | m, .callL f es, env => (vAs G (G.sg f) 0 es env).bind fun os env1 => callA m (G.low f) os env1
  | m, .told t b, env => match ev G .fz b env with
    | .exc c fs env1 => toldV G.told t c fs env1
    | r => r
  | m, .callv i es, env => match env.getD i .none with
    | .val (.fn f) => (vAs G (G.sg f) 0 es env).bind fun os env1 => callA m (G.call f) os env1
    | _ => .bad
  | m, .bi b es, env => (vPs G es env).bind fun os env1 => optR (derefs env1 os) fun vs => optR (biV b vs) fun v => .ok (.v v) env1
  | m, .biL b l, env => (vL G l env).bind fun vs env1 => optR (biLV b vs) fun r => .ok (ownR m r) env1
  | m, .mth mm o es, env => (ev G .pk o env).bind fun x env1 => match x with
    | .sl k => match env1.getD k .none with
      | .own _ vo1 => if kindV mm vo1 = true then (vCs G es env1).bind fun vs env2 => match env2.getD k .none with
          | .own b vo => optR (mthV mm vo vs) fun p => .ok (.v p.1) (env2.set k (.own b p.2))
          | _ => .bad
        else .bad
      | _ => .bad
    | _ => .bad
  | m, .ext o l, env => (ev G .pk o env).bind fun x env1 => match x with
    | .sl k => match env1.getD k .none with
      | .own _ vo1 => if kindV .extend vo1 = true then (vL G l env1).bind fun vs env2 => match env2.getD k .none with
          | .own b vo => optR (extV vo vs) fun vo2 => .ok (.v .non) (env2.set k (.own b vo2))
          | _ => .bad
        else .bad
      | _ => .bad
    | _ => .bad
  | m, .ix a i, env => (ev G .pk a env).bind fun x env1 => (ev G .pk i env1).bind fun y env2 => optR (deref env2 x) fun x => optR (deref env2 y) fun y => optR (ixV x y) fun v => .ok (.v v) env2
  | m, .sl a lo hi, env => (ev G .pk a env).bind fun x env1 => (vO G lo env1).bind fun l env2 => (vO G hi env2).bind fun h env3 => optR (deref env3 x) fun x => optR (slV x l h) fun r => .ok (ownR m r) env3
  | m, .tup es, env => (vCs G es env).bind fun vs env1 => if vs.length ≤ lim then .ok (.v (.tup vs)) env1 else .bad
  | m, .mk l, env => (vL G l env).bind fun vs env1 => .ok (ownR m (.own (.lst vs))) env1
  | m, .dct0, env => .ok (ownR m (.own (.dk [] []))) env
termination_by structural _ t => t
/-- expressions, from the left -/
def vCs (G : GV) : List C → VEnv → Res (List V)
  | [], env => .ok [] env
  | e :: es, env => (ev G .fz e env).bind fun r env1 => optR (valR r) fun v => (vCs G es env1).bind fun vs env2 => .ok (v :: vs) env2
termination_by structural t => t
/-- .. looked at -/
def vPs (G : GV) : List C → VEnv → Res (List Rv)
  | [], env => .ok [] env
  | e :: es, env => (ev G .pk e env).bind fun r env1 => noO r fun r => (vPs G es env1).bind fun rs env2 => .ok (r :: rs) env2
termination_by structural t => t
/-- .. as arguments -/
def vAs (G : GV) (sg : List Nat) : Nat → List C → VEnv → Res (List Rv)
  | _, [], env => .ok [] env
  | j, e :: es, env => (ev G (if sg.contains j = true then .pk else .fz) e env).bind fun r env1 => noO r fun r => (vAs G sg (j + 1) es env1).bind fun rs env2 => .ok (r :: rs) env2
termination_by structural _ t => t
/-- .. to be given to targets -/
def vRs (G : GV) : List C → VEnv → Res (List Rv)
  | [], env => .ok [] env
  | e :: es, env => (ev G .as e env).bind fun r env1 => (vRs G es env1).bind fun rs env2 => .ok (r :: rs) env2
termination_by structural t => t
/-- a part of a slice -/
def vO (G : GV) : Option C → VEnv → Res (Option Int)
  | none, env => .ok none env
  | some e, env => (ev G .pk e env).bind fun x env1 => optR (deref env1 x) fun x => match x with
    | .int i => .ok (some i) env1
    | _ => .bad
termination_by structural t => t
/-- a clause's test -/
def vTo (G : GV) : Option Te → VEnv → Res Bool
  | none, env => .ok true env
  | some t, env => vT G t env
termination_by structural t => t
/-- a test -/
def vT (G : GV) : Te → VEnv → Res Bool
  | .and a b, env => (vT G a env).bind fun k env1 => if k = true then vT G b env1 else .ok false env1
  | .or a b, env => (vT G a env).bind fun k env1 => if k = true then .ok true env1 else vT G b env1
  | .not a, env => (vT G a env).bind fun k env1 => .ok (!k) env1
  | .val e, env => (ev G .pk e env).bind fun x env1 => optR (deref env1 x) fun x => optR (truthV x) fun k => .ok k env1
termination_by structural t => t
/-- the items of a list that is made for the one who asks -/
def vL (G : GV) : L → VEnv → Res (List V)
  | .lst es, env => (vCs G es env).bind fun vs env1 => if vs.length ≤ lim then .ok vs env1 else .bad
  | .lc e tg w t, env => (vW G w env).bind fun vs env1 => if vs.length ≤ lim then optR (wipeV env1 (tgSlots tg)) fun env0 =>
      (eachV (lcV (tgSlots tg) (tgV G tg) (vTo G t) (ev G .fz e)) vs env0).bind fun xs env2 => .ok xs (backV env1 env2 (tgSlots tg))
    else .bad
  | .ex e, env => (ev G .pk e env).bind fun x env1 => optR (deref env1 x) fun x => optR (seqV x) fun vs => .ok vs env1
  | .exl e, env => (ev G .pk e env).bind fun x env1 => optR (deref env1 x) fun x => optR (lslV x) fun vs => .ok vs env1
termination_by structural t => t
/-- what is walked -/
def vW (G : GV) : W → VEnv → Res (List V)
  | .ex e, env => (ev G .fz e env).bind fun x env1 => optR (valR x) fun x => optR (walkV x) fun vs => .ok vs env1
  | .fl l, env => vL G l env
  | .range1 a, env => (ev G .pk a env).bind fun x env1 => optR (deref env1 x) fun x => match x with
    | .int i => if -(2 ^ 62) < i ∧ i < 2 ^ 62 then .ok (rangeV 0 i) env1 else .bad
    | _ => .bad
  | .range2 a b, env => (ev G .pk a env).bind fun x env1 => (ev G .pk b env1).bind fun y env2 => optR (deref env2 x) fun x => optR (deref env2 y) fun y => match x, y with
    | .int i, .int j => if -(2 ^ 62) < i ∧ i < 2 ^ 62 ∧ -(2 ^ 62) < j ∧ j < 2 ^ 62 then .ok (rangeV i j) env2 else .bad
    | _, _ => .bad
  | .enum e, env => (ev G .fz e env).bind fun x env1 => optR (valR x) fun x => optR (seqV x) fun vs => .ok (enumV 0 vs) env1
  | .zip a b, env => (ev G .fz a env).bind fun x env1 => (ev G .fz b env1).bind fun y env2 => optR (valR x) fun x => optR (valR y) fun y => optR (zipVV x y) fun vs => .ok vs env2
termination_by structural t => t
end

/-! ### statements -/
def forV (tgf : Rv → VEnv → Res Unit) (bd : VEnv → SR) : List V → VEnv → SR
  | [], env => .nx env
  | v :: vs, env => (tgf (.v v) env).bindS fun _ env1 => match bd env1 with
    | .nx e => forV tgf bd vs e
    | .ct e => forV tgf bd vs e
    | .bk e => .nx e
    | r => r
def whileV (tf : VEnv → Res Bool) (bd : VEnv → SR) : Nat → VEnv → SR
  | 0, _ => .bad
  | n + 1, env => (tf env).bindS fun k env1 => if k = true then match bd env1 with
      | .nx e => whileV tf bd n e
      | .ct e => whileV tf bd n e
      | .bk e => .nx e
      | r => r
    else .nx env1
@[simp] def namesB : List Tg → Bool
  | [] => true
  | .name _ :: ts => namesB ts
  | _ => false
/-- names are given what is told -/
@[simp] def asgNs : List Tg → List Rv → VEnv → Option VEnv
  | .name i :: ts, .v v :: rs, env => match setS env i (.val v) with
    | some env1 => asgNs ts rs env1
    | none => none
  | .name i :: ts, .own o :: rs, env => match setS env i (.own false o) with
    | some env1 => asgNs ts rs env1
    | none => none
  | [], [], env => some env
  | _, _, _ => none
def tgMd : Tg → Md
  | .name _ => .as
  | _ => .fz
/-- t = e; a, b, .. = e, f, .. -/
def asgV (G : GV) (t : Tg) (e : C) (env : VEnv) : SR := match t, e with
  | .tup ts, .tup es => if namesB ts = true then
      (vRs G es env).bindS fun rs env1 => if rs.length ≤ lim then optS (asgNs ts rs env1) fun env2 => .nx env2 else .bad
    else (ev G .fz (.tup es) env).bindS fun r env1 => (tgV G (.tup ts) r env1).bindS fun _ env2 => .nx env2
  | t, e => (ev G (tgMd t) e env).bindS fun r env1 => (tgV G t r env1).bindS fun _ env2 => .nx env2
mutual
def xT (G : GV) : T → VEnv → SR
  | .ret e, env => (ev G .mv e env).bindS fun r env1 => .rt r env1
  | .retN, env => .rt (.v .non) env
  | .expr e, env => (ev G .pk e env).bindS fun _ env1 => .nx env1
  | .asg t e, env => asgV G t e env
  | .aug i o e, env => match env.getD i .none with
    | .val (.int a) => (ev G .pk e env).bindS fun y env1 => optS (deref env1 y) fun y => match y with
      | .int b => optS (binV o (.int a) (.int b)) fun z => match z with
        | .v z => optS (setS env1 i (.val z)) fun env2 => .nx env2
        | _ => .bad
      | _ => .bad
    | _ => .bad
  | .ite t a b, env => (vT G t env).bindS fun k env1 => if k = true then xTs G a env1 else xTs G b env1
  | .while t b, env => whileV (vT G t) (xTs G b) G.wf env
  | .for tg w b, env => (vW G w env).bindS fun vs env1 => forV (tgV G tg) (xTs G b) vs env1
  | .raise c es, env => (vCs G es env).bindS fun vs env1 => .exc c vs env1
  | .brk, env => .bk env
  | .cont, env => .ct env
  | .pass, env => .nx env
  | .never, env => .bad
termination_by structural t => t
def xTs (G : GV) : List T → VEnv → SR
  | [], env => .nx env
  | t :: ts, env => (xT G t env).bind fun env1 => xTs G ts env1
termination_by structural t => t
end
mutual
/-- a value of the module -/
def toV : D → Option V
  | .non => some .non
  | .bl b => some (.bl b)
  | .int i => some (.int i)
  | .str x => some (.str x)
  | .tup ds => (toVs ds).map .tup
  | .lis ds => (toVs ds).map .lst
  | .fn f => some (.fn f)
  | .cls c => some (.cls c)
  | .ty n => some (.ty n)
  | .ref _ => none
def toVs : List D → Option (List V)
  | [] => some []
  | d :: ds => match toV d, toVs ds with
    | some v, some vs => some (v :: vs)
    | _, _ => none
end
def glV (P : Prog) (g : Nat) : Option V := match P.gl[g]? with
  | some p => toV p.2
  | none => none
/-- a call's end -/
@[simp] def finV (js : List Nat) : SR → CR
  | .nx env => match outsAt env js with
    | some os => .ok (.v .non) os
    | none => .bad
  | .rt r env => match r with
    | .sl _ => .bad
    | r => match outsAt env js with
      | some os => .ok r os
      | none => .bad
  | .exc c fs env => match outsAt env js with
    | some os => .exc c fs os
    | none => .bad
  | _ => .bad
/-- a function called, so many calls deep -/
def run (P : Prog) (sg : Nat → List Nat) (wf : Nat) : Nat → Nat → List Sl → CR
  | 0, _, _ => .bad
  | n + 1, f, args => match P.fns[f]? with
    | some F => if args.length = F.ps.length then
        finV (ownPos 0 args) (xTs ⟨glV P, run P sg wf n, (match n with | m + 2 => run P sg wf m | _ => fun _ _ => .bad), P.told, sg, wf⟩ F.body (args ++ List.replicate (F.N.length - F.ps.length) .none))
      else .bad
    | none => .bad
termination_by structural n => n
def runL (P : Prog) (sg : Nat → List Nat) (wf : Nat) : Nat → Nat → List Sl → CR
  | n + 2 => run P sg wf n
  | _ => fun _ _ => .bad
def gv (P : Prog) (sg : Nat → List Nat) (wf n : Nat) : GV := ⟨glV P, run P sg wf n, runL P sg wf n, P.told, sg, wf⟩
theorem run_succ (P : Prog) (sg : Nat → List Nat) (wf n f : Nat) (args : List Sl) : run P sg wf (n + 1) f args = match P.fns[f]? with
    | some F => if args.length = F.ps.length then
        finV (ownPos 0 args) (xTs (gv P sg wf n) F.body (args ++ List.replicate (F.N.length - F.ps.length) .none))
      else .bad
    | none => .bad := by
  cases e : P.fns[f]? with
  | none =>
    unfold run
    rw [e]
  | some F =>
    unfold run
    rw [e]
    match n with
    | 0 => rfl
    | 1 => rfl
    | n + 2 => rfl
end PV
end
section
set_option Elab.async false
set_option linter.all false
set_option maxRecDepth 100000
set_option maxHeartbeats 1000000
/-! PyV, part B: how values lie in the store; what is done with values. -/
namespace PV
open PySem PD

mutual
/-- a value as it lies; F: what does not change any more -/
def VRel (F : DS) : V → D → Prop
  | .non, d => d = .non
  | .bl b, d => d = .bl b
  | .int i, d => d = .int i
  | .str x, d => d = .str x
  | .tup vs, d => ∃ ds, d = .tup ds ∧ VRels F vs ds
  | .lst vs, d => ∃ ds, (d = .lis ds ∨ ∃ a, d = .ref a ∧ F a = some (.lst ds)) ∧ VRels F vs ds
  | .dct ks vs, d => ∃ a kvs, d = .ref a ∧ F a = some (.dk kvs) ∧ kvs.map (·.1) = ks ∧ VRels F vs (kvs.map (·.2))
  | .fn f, d => d = .fn f
  | .cls c, d => d = .cls c
  | .ty n, d => d = .ty n
def VRels (F : DS) : List V → List D → Prop
  | [], ds => ds = []
  | v :: vs, ds => ∃ d es, ds = d :: es ∧ VRel F v d ∧ VRels F vs es
end
def VOR (F : DS) : VO → SO → Prop
  | .lst vs, o => ∃ ds, o = .lst ds ∧ VRels F vs ds
  | .dk ks vs, o => ∃ kvs, o = .dk kvs ∧ kvs.map (·.1) = ks ∧ VRels F vs (kvs.map (·.2))
/-- .. or what a slot owns, looked at -/
def PRel (F S : DS) (v : V) (d : D) : Prop := VRel F v d ∨ ∃ a o so, d = .ref a ∧ S a = some so ∧ VOR F o so ∧ v = o.v
def PRels (F S : DS) : List V → List D → Prop
  | [], ds => ds = []
  | v :: vs, ds => ∃ d es, ds = d :: es ∧ PRel F S v d ∧ PRels F S vs es
section
variable {F F' S : DS}
mutual
theorem VRel.mono (h : DS.le F F') : ∀ (v : V) (d : D), VRel F v d → VRel F' v d
  | .non, d, r => r
  | .bl _, d, r => r
  | .int _, d, r => r
  | .str _, d, r => r
  | .tup vs, d, r => by
    obtain ⟨ds, e, r⟩ := r
    exact ⟨ds, e, VRels.mono h vs ds r⟩
  | .lst vs, d, r => by
    obtain ⟨ds, e, r⟩ := r
    exact ⟨ds, e.imp id fun ⟨a, e1, e2⟩ => ⟨a, e1, h _ _ e2⟩, VRels.mono h vs ds r⟩
  | .dct ks vs, d, r => by
    obtain ⟨a, kvs, e1, e2, e3, r⟩ := r
    exact ⟨a, kvs, e1, h _ _ e2, e3, VRels.mono h vs _ r⟩
  | .fn _, d, r => r
  | .cls _, d, r => r
  | .ty _, d, r => r
theorem VRels.mono (h : DS.le F F') : ∀ (vs : List V) (ds : List D), VRels F vs ds → VRels F' vs ds
  | [], ds, r => r
  | v :: vs, ds, r => by
    obtain ⟨d, es, e, r1, r2⟩ := r
    exact ⟨d, es, e, VRel.mono h v d r1, VRels.mono h vs es r2⟩
end
theorem VOR.mono (h : DS.le F F') {o : VO} {so : SO} (r : VOR F o so) : VOR F' o so := by
  cases o with
  | lst vs =>
    obtain ⟨ds, e, r⟩ := r
    exact ⟨ds, e, VRels.mono h _ _ r⟩
  | dk ks vs =>
    obtain ⟨kvs, e, e2, r⟩ := r
    exact ⟨kvs, e, e2, VRels.mono h _ _ r⟩
theorem VRels.length : ∀ {vs : List V} {ds : List D}, VRels F vs ds → ds.length = vs.length
  | [], ds, r => by rw [show ds = [] from r]; rfl
  | v :: vs, ds, r => by
    obtain ⟨d, es, rfl, _, r⟩ := r
    rw [List.length_cons, List.length_cons, VRels.length r]
theorem VRels.get : ∀ {vs : List V} {ds : List D} {i : Nat} {v : V}, VRels F vs ds → vs[i]? = some v → ∃ d, ds[i]? = some d ∧ VRel F v d
  | [], _, _, _, _, e => by simp at e
  | v :: vs, ds, 0, x, r, e => by
    obtain ⟨d, es, rfl, h, _⟩ := r
    simp at e
    subst e
    exact ⟨d, rfl, h⟩
  | v :: vs, ds, i + 1, x, r, e => by
    obtain ⟨d, es, rfl, _, r⟩ := r
    obtain ⟨y, q1, q2⟩ := VRels.get (i := i) r (by simpa using e)
    exact ⟨y, by simpa using q1, q2⟩
theorem VRels.append : ∀ {vs ws : List V} {ds es : List D}, VRels F vs ds → VRels F ws es → VRels F (vs ++ ws) (ds ++ es)
  | [], ws, ds, es, r, r2 => by rw [show ds = [] from r]; exact r2
  | v :: vs, ws, ds, es, r, r2 => by
    obtain ⟨d, fs, rfl, h, r⟩ := r
    exact ⟨d, fs ++ es, rfl, h, VRels.append r r2⟩
theorem VRels.snoc {vs : List V} {ds : List D} {v : V} {d : D} (r : VRels F vs ds) (h : VRel F v d) : VRels F (vs ++ [v]) (ds ++ [d]) := r.append ⟨d, [], rfl, h, rfl⟩
theorem VRels.take : ∀ {vs : List V} {ds : List D} (n : Nat), VRels F vs ds → VRels F (vs.take n) (ds.take n)
  | _, _, 0, _ => by simp [VRels]
  | [], ds, n + 1, r => by rw [show ds = [] from r]; simp [VRels]
  | v :: vs, ds, n + 1, r => by
    obtain ⟨d, es, rfl, h, r⟩ := r
    exact ⟨d, es.take n, rfl, h, VRels.take n r⟩
theorem VRels.drop : ∀ {vs : List V} {ds : List D} (n : Nat), VRels F vs ds → VRels F (vs.drop n) (ds.drop n)
  | _, _, 0, r => r
  | [], ds, n + 1, r => by rw [show ds = [] from r]; simp [VRels]
  | v :: vs, ds, n + 1, r => by
    obtain ⟨d, es, rfl, h, r⟩ := r
    exact VRels.drop n r
theorem VRels.set : ∀ {vs : List V} {ds : List D} (i : Nat) {v : V} {d : D}, VRels F vs ds → VRel F v d → VRels F (vs.set i v) (ds.set i d)
  | [], ds, i, v, d, r, h => by rw [show ds = [] from r]; simp [VRels]
  | x :: vs, ds, 0, v, d, r, h => by
    obtain ⟨y, es, rfl, _, r⟩ := r
    exact ⟨d, es, rfl, h, r⟩
  | x :: vs, ds, i + 1, v, d, r, h => by
    obtain ⟨y, es, rfl, q, r⟩ := r
    exact ⟨y, es.set i d, rfl, q, VRels.set i r h⟩
theorem VRels.rep {vs : List V} {ds : List D} (r : VRels F vs ds) : ∀ k : Nat, VRels F (List.replicate k vs).flatten (List.replicate k ds).flatten
  | 0 => rfl
  | k + 1 => by
    rw [List.replicate_succ, List.replicate_succ, List.flatten_cons, List.flatten_cons]
    exact r.append (VRels.rep r k)
theorem VRels.isEmpty {vs : List V} {ds : List D} (r : VRels F vs ds) : ds.isEmpty = vs.isEmpty := by
  cases vs with
  | nil => rw [show ds = [] from r]; rfl
  | cons v vs => obtain ⟨d, es, rfl, _, _⟩ := r; rfl
theorem VRels.getLast {vs : List V} {ds : List D} {v : V} (r : VRels F vs ds) (e : vs.getLast? = some v) : ∃ d, ds.getLast? = some d ∧ VRel F v d := by
  rw [List.getLast?_eq_getElem?] at e ⊢
  rw [r.length]
  exact r.get e
theorem VRels.dropLast {vs : List V} {ds : List D} (r : VRels F vs ds) : VRels F vs.dropLast ds.dropLast := by
  rw [List.dropLast_eq_take, List.dropLast_eq_take, r.length]
  exact r.take _
theorem VRels.cut {vs : List V} {ds : List D} (r : VRels F vs ds) (lo hi : Option Int) : VRels F (cutD vs lo hi) (cutD ds lo hi) := by
  unfold cutD
  rw [r.length]
  exact (r.drop _).take _

theorem VO.rel {o : VO} {so : SO} {a : Addr} (e : F a = some so) (r : VOR F o so) : VRel F o.v (.ref a) := by
  cases o with
  | lst vs =>
    obtain ⟨ds, rfl, r⟩ := r
    exact ⟨ds, .inr ⟨a, rfl, e⟩, r⟩
  | dk ks vs =>
    obtain ⟨kvs, rfl, e2, r⟩ := r
    exact ⟨a, kvs, rfl, e, e2, r⟩
/-- what a looked-at value is -/
theorem PRel.lst (hF : DS.le F S) {vs : List V} {d : D} (r : PRel F S (.lst vs) d) : ∃ ds, S.lsl? d = some ds ∧ S.lst? d = some ds ∧ VRels F vs ds ∧ (d = .lis ds ∨ ∃ a, d = .ref a ∧ S a = some (.lst ds)) := by
  rcases r with r | ⟨a, o, so, rfl, e, r, h⟩
  · obtain ⟨ds, rfl | ⟨a, rfl, e⟩, r⟩ := r
    · exact ⟨ds, rfl, rfl, r, .inl rfl⟩
    · have e := hF _ _ e
      exact ⟨ds, by simp [DS.lsl?, e], by simp [DS.lst?, e], r, .inr ⟨a, rfl, e⟩⟩
  · cases o with
    | lst ws =>
      cases h
      obtain ⟨ds, rfl, r⟩ := r
      exact ⟨ds, by simp [DS.lsl?, e], by simp [DS.lst?, e], r, .inr ⟨a, rfl, e⟩⟩
    | dk ks ws => cases h
theorem PRel.dct (hF : DS.le F S) {ks : List Key} {vs : List V} {d : D} (r : PRel F S (.dct ks vs) d) : ∃ a kvs, d = .ref a ∧ S a = some (.dk kvs) ∧ kvs.map (·.1) = ks ∧ VRels F vs (kvs.map (·.2)) := by
  rcases r with r | ⟨a, o, so, rfl, e, r, h⟩
  · obtain ⟨a, kvs, rfl, e, e2, r⟩ := r
    exact ⟨a, kvs, rfl, hF _ _ e, e2, r⟩
  · cases o with
    | lst ws => cases h
    | dk ks ws =>
      cases h
      obtain ⟨kvs, rfl, e2, r⟩ := r
      exact ⟨a, kvs, rfl, e, e2, r⟩
/-- .. any other value -/
theorem PRel.val {v : V} {d : D} (r : PRel F S v d) (h : ∀ o : VO, v ≠ o.v) : VRel F v d := by
  rcases r with r | ⟨a, o, so, rfl, e, r, z⟩
  · exact r
  · exact absurd z (h o)
theorem PRel.tup {vs : List V} {d : D} (r : PRel F S (.tup vs) d) : ∃ ds, d = .tup ds ∧ VRels F vs ds := r.val fun o h => by cases o <;> cases h
theorem PRel.int {i : Int} {d : D} (r : PRel F S (.int i) d) : d = .int i := r.val fun o h => by cases o <;> cases h
theorem PRel.bl {i : Bool} {d : D} (r : PRel F S (.bl i) d) : d = .bl i := r.val fun o h => by cases o <;> cases h
theorem PRel.str {i : List Nat} {d : D} (r : PRel F S (.str i) d) : d = .str i := r.val fun o h => by cases o <;> cases h
theorem PRel.non {d : D} (r : PRel F S .non d) : d = .non := r.val fun o h => by cases o <;> cases h
theorem PRel.fn {f : Nat} {d : D} (r : PRel F S (.fn f) d) : d = .fn f := r.val fun o h => by cases o <;> cases h
theorem PRel.cls {f : Nat} {d : D} (r : PRel F S (.cls f) d) : d = .cls f := r.val fun o h => by cases o <;> cases h
theorem PRel.ty {n : String} {d : D} (r : PRel F S (.ty n) d) : d = .ty n := r.val fun o h => by cases o <;> cases h
theorem PRels.length : ∀ {vs : List V} {ds : List D}, PRels F S vs ds → ds.length = vs.length
  | [], ds, r => by rw [show ds = [] from r]; rfl
  | v :: vs, ds, r => by
    obtain ⟨d, es, rfl, _, r⟩ := r
    rw [List.length_cons, List.length_cons, PRels.length r]

/-! ### data -/
mutual
def V.toP : V → PyData
  | .non => .none
  | .bl b => .bool b
  | .int i => .int i
  | .str x => .str ⟨x.toArray⟩
  | .tup vs => .tuple (V.toPs vs)
  | .lst vs => .list (V.toPs vs)
  | _ => .none
def V.toPs : List V → List PyData
  | [] => []
  | v :: vs => v.toP :: V.toPs vs
end
mutual
theorem toP_dep : ∀ v : V, v.toP.depth = v.dep
  | .non => rfl
  | .bl _ => rfl
  | .int _ => rfl
  | .str _ => rfl
  | .tup vs => by
    unfold V.toP V.dep PyData.depth
    rw [toPs_dep vs]
  | .lst vs => by
    unfold V.toP V.dep PyData.depth
    rw [toPs_dep vs]
  | .dct _ _ => rfl
  | .fn _ => rfl
  | .cls _ => rfl
  | .ty _ => rfl
theorem toPs_dep : ∀ vs : List V, PyData.depthAll (V.toPs vs) = V.deps vs
  | [] => rfl
  | v :: vs => by
    unfold V.toPs V.deps PyData.depthAll
    rw [toP_dep v, toPs_dep vs]
end
mutual
theorem toP_eq : ∀ v w : V, v.data = true → w.data = true → PyData.eqv v.toP w.toP = V.eqv v w
  | .non, e, _, h => by cases e <;> first | rfl | cases h
  | .bl _, e, _, h => by cases e <;> first | rfl | cases h
  | .int _, e, _, h => by cases e <;> first | rfl | cases h
  | .str x, e, _, h => by
    cases e <;> first | rfl | (cases h; done) | skip
    rename_i y
    unfold V.toP V.eqv PyData.eqv
    exact str_beq x y
  | .tup xs, e, h1, h => by
    cases e <;> first | rfl | (cases h; done) | skip
    rename_i ys
    unfold V.toP V.eqv PyData.eqv
    exact toPs_eq xs ys (by simpa [V.data] using h1) (by simpa [V.data] using h)
  | .lst xs, e, h1, h => by
    cases e <;> first | rfl | (cases h; done) | skip
    rename_i ys
    unfold V.toP V.eqv PyData.eqv
    exact toPs_eq xs ys (by simpa [V.data] using h1) (by simpa [V.data] using h)
  | .dct _ _, _, h, _ => by cases h
  | .fn _, _, h, _ => by cases h
  | .cls _, _, h, _ => by cases h
  | .ty _, _, h, _ => by cases h
theorem toPs_eq : ∀ vs ws : List V, V.datas vs = true → V.datas ws = true → PyData.eqvAll (V.toPs vs) (V.toPs ws) = V.eqvs vs ws
  | [], [], _, _ => rfl
  | [], _ :: _, _, _ => rfl
  | _ :: _, [], _, _ => rfl
  | d :: ds, e :: es, h1, h2 => by
    have h1' : d.data = true ∧ V.datas ds = true := by simpa [V.datas] using h1
    have h2' : e.data = true ∧ V.datas es = true := by simpa [V.datas] using h2
    unfold V.toPs V.eqvs PyData.eqvAll
    rw [toP_eq d e h1'.1 h2'.1, toPs_eq ds es h1'.2 h2'.2]
end
mutual
theorem rel_py (hF : DS.le F S) : ∀ (v : V) (d : D) (n : Nat), v.data = true → v.dep ≤ n → VRel F v d → D.py (S.rd n) d = some v.toP
  | .non, d, n, _, _, r => by rw [show d = .non from r]; rfl
  | .bl b, d, n, _, _, r => by rw [show d = .bl b from r]; rfl
  | .int i, d, n, _, _, r => by rw [show d = .int i from r]; rfl
  | .str x, d, n, _, _, r => by rw [show d = .str x from r]; rfl
  | .tup vs, d, n, h, hd, r => by
    obtain ⟨ds, rfl, r⟩ := r
    unfold V.dep at hd
    unfold D.py
    rw [rels_py hF vs ds n (by simpa [V.data] using h) (by omega) r]
    rfl
  | .lst vs, d, n, h, hd, r => by
    obtain ⟨ds, rfl | ⟨a, rfl, e⟩, r⟩ := r
    · unfold V.dep at hd
      unfold D.py
      rw [rels_py hF vs ds n (by simpa [V.data] using h) (by omega) r]
      rfl
    · unfold V.dep at hd
      cases n with
      | zero => omega
      | succ n =>
        show S.rd (n + 1) a = _
        unfold DS.rd
        rw [hF _ _ e]
        dsimp only
        rw [rels_py hF vs ds n (by simpa [V.data] using h) (by omega) r]
        rfl
  | .dct _ _, _, _, h, _, _ => by cases h
  | .fn _, _, _, h, _, _ => by cases h
  | .cls _, _, _, h, _, _ => by cases h
  | .ty _, _, _, h, _, _ => by cases h
theorem rels_py (hF : DS.le F S) : ∀ (vs : List V) (ds : List D) (n : Nat), V.datas vs = true → V.deps vs ≤ n → VRels F vs ds → D.pys (S.rd n) ds = some (V.toPs vs)
  | [], ds, n, _, _, r => by rw [show ds = [] from r]; rfl
  | v :: vs, ds, n, h, hd, r => by
    obtain ⟨d, es, rfl, r1, r2⟩ := r
    have h' : v.data = true ∧ V.datas vs = true := by simpa [V.datas] using h
    unfold V.deps at hd
    unfold D.pys
    rw [rel_py hF v d n h'.1 (by omega) r1, rels_py hF vs es n h'.2 (by omega) r2]
    rfl
end
theorem prel_py (hF : DS.le F S) {v : V} {d : D} {n : Nat} (h : v.data = true) (hn : v.dep ≤ n) (r : PRel F S v d) : D.py (S.rd n) d = some v.toP := by
  rcases r with r | ⟨a, o, so, rfl, e, r, rfl⟩
  · exact rel_py hF v d n h hn r
  · cases o with
    | lst vs =>
      obtain ⟨ds, rfl, r⟩ := r
      change (V.lst vs).data = true at h
      change (V.lst vs).dep ≤ n at hn
      unfold V.dep at hn
      cases n with
      | zero => omega
      | succ n =>
        show S.rd (n + 1) a = _
        unfold DS.rd
        rw [e]
        dsimp only
        rw [rels_py hF vs ds n (by simpa [V.data] using h) (by omega) r]
        rfl
    | dk ks vs => cases h
theorem eq_ok (hF : DS.le F S) {x y : V} {d e : D} {b : Bool} {Q : Bool → Prop} (h : eqV x y = some b) (rx : PRel F S x d) (ry : PRel F S y e) (q : Q b) : eqW d e S Q := by
  unfold eqV at h
  split at h
  · rename_i c
    cases h
    refine ⟨max x.dep y.dep, x.toP, y.toP, prel_py hF c.1 (Nat.le_max_left ..) rx, prel_py hF c.2.1 (Nat.le_max_right ..) ry, by rw [toP_dep, toP_dep]; exact c.2.2, ?_⟩
    rw [toP_eq _ _ c.1 c.2.1]
    exact q
  · cases h
theorem any_toP (x : V) (hx : x.data = true) : ∀ vs : List V, V.datas vs = true → ((V.toPs vs).any fun y => PyData.eqv y x.toP) = vs.any fun v => V.eqv v x
  | [], _ => rfl
  | v :: vs, h => by
    have h' : v.data = true ∧ V.datas vs = true := by simpa [V.datas] using h
    unfold V.toPs
    rw [List.any_cons, List.any_cons, toP_eq v x h'.1 hx, any_toP x hx vs h'.2]
theorem key_ok {v : V} {d : D} {k : Key} (h : keyV v = some k) (r : PRel F S v d) : keyOf d = some k := by
  cases v with
  | int i => rw [r.int]; exact h
  | str x => rw [r.str]; exact h
  | _ => cases h
theorem get_ok {k : Key} : ∀ {kvs : List (Key × D)} {vs : List V}, VRels F vs (kvs.map (·.2)) →
    (∀ v, getV (kvs.map (·.1)) vs k = some v → ∃ d, getK kvs k = some d ∧ VRel F v d) ∧ (getV (kvs.map (·.1)) vs k = none → getK kvs k = none)
  | [], vs, r => by
    constructor
    · intro v h
      simp [getV] at h
    · intro h
      rfl
  | p :: kvs, [], r => by
    obtain r : (p :: kvs).map (·.2) = [] := r
    cases r
  | p :: kvs, v :: vs, r => by
    obtain ⟨d, es, e, r1, r2⟩ := r
    rw [List.map_cons] at e
    cases e
    obtain ⟨i1, i2⟩ := get_ok (k := k) r2
    by_cases hk : p.1 = k
    · have e2 : getK (p :: kvs) k = some p.2 := by unfold getK; rw [List.find?_cons]; simp [hk]
      constructor
      · intro w h
        rw [List.map_cons, getV, if_pos hk] at h
        cases h
        exact ⟨_, e2, r1⟩
      · intro h
        rw [List.map_cons, getV, if_pos hk] at h
        cases h
    · have e2 : getK (p :: kvs) k = getK kvs k := by unfold getK; rw [List.find?_cons]; simp [hk]
      rw [List.map_cons, getV, if_neg hk, e2]
      exact ⟨i1, i2⟩
theorem getK_some {k : Key} : ∀ kvs : List (Key × D), (getK kvs k).isSome = (kvs.map (·.1)).any fun q => decide (q = k)
  | [] => rfl
  | p :: kvs => by
    by_cases hk : p.1 = k
    · have e2 : getK (p :: kvs) k = some p.2 := by unfold getK; rw [List.find?_cons]; simp [hk]
      rw [e2]
      simp [hk]
    · have e2 : getK (p :: kvs) k = getK kvs k := by unfold getK; rw [List.find?_cons]; simp [hk]
      rw [e2, getK_some kvs]
      simp [hk]
theorem in_ok (hF : DS.le F S) {x y : V} {d e : D} {b : Bool} {Q : Bool → Prop} (h : inV x y = some b) (rx : PRel F S x d) (ry : PRel F S y e) (q : Q b) : inW d e S Q := by
  have seq : ∀ {vs : List V} {ds : List D}, (if x.data = true ∧ V.datas vs = true ∧ min (V.deps vs) x.dep ≤ 1000 then some (vs.any fun v => V.eqv v x) else none) = some b → VRels F vs ds → inL d ds S Q := fun {vs ds} h r => by
    split at h
    · rename_i c
      cases h
      refine ⟨max x.dep (V.deps vs), x.toP, V.toPs vs, prel_py hF c.1 (Nat.le_max_left ..) rx, rels_py hF vs ds _ c.2.1 (Nat.le_max_right ..) r, by rw [toPs_dep, toP_dep]; exact c.2.2, ?_⟩
      rw [any_toP _ c.1 _ c.2.1]
      exact q
    · cases h
  cases y with
  | str t =>
    rw [ry.str]
    unfold inV at h
    dsimp only at h
    split at h
    · rw [rx.str]
      cases h
      exact q
    · cases h
  | tup vs =>
    obtain ⟨ds, rfl, r⟩ := ry.tup
    exact seq h r
  | lst vs =>
    obtain ⟨ds, _, _, r, e | ⟨a, e, e2⟩⟩ := ry.lst hF
    · subst e
      exact seq h r
    · subst e
      unfold inW
      dsimp only
      rw [e2]
      exact seq h r
  | dct ks vs =>
    obtain ⟨a, kvs, rfl, e, e2, r⟩ := ry.dct hF
    unfold inV at h
    dsimp only at h
    unfold inW
    dsimp only
    rw [e]
    dsimp only
    split at h
    · rename_i k ek
      rw [key_ok ek rx]
      dsimp only
      rw [getK_some, e2]
      cases h
      exact q
    · cases h
  | _ => cases h
theorem isNon_ok {x : V} {d : D} (r : PRel F S x d) : isNon d = isNonV x := by
  rcases r with r | ⟨a, o, so, rfl, e, r, rfl⟩
  · cases x with
    | non => rw [show d = .non from r]; rfl
    | bl b => rw [show d = .bl b from r]; rfl
    | int b => rw [show d = .int b from r]; rfl
    | str b => rw [show d = .str b from r]; rfl
    | tup vs => obtain ⟨ds, rfl, _⟩ := r; rfl
    | lst vs => obtain ⟨ds, rfl | ⟨a, rfl, _⟩, _⟩ := r <;> rfl
    | dct ks vs => obtain ⟨a, kvs, rfl, _⟩ := r; rfl
    | fn b => rw [show d = .fn b from r]; rfl
    | cls b => rw [show d = .cls b from r]; rfl
    | ty b => rw [show d = .ty b from r]; rfl
  · cases o <;> rfl
theorem cmpV_ok (hF : DS.le F S) {o : Cm} {x y : V} {d e : D} {b : Bool} {Q : Bool → Prop} (h : cmpV o x y = some b) (rx : PRel F S x d) (ry : PRel F S y e) (q : Q b) : cmpW o d e S Q := by
  cases o with
  | eq => exact eq_ok hF h rx ry q
  | ne =>
    unfold cmpV at h
    dsimp only at h
    cases e1 : eqV x y with
    | none => rw [e1] at h; cases h
    | some c => rw [e1] at h; cases h; exact eq_ok (Q := fun b => Q (!b)) hF e1 rx ry q
  | isin => exact in_ok hF h rx ry q
  | notin =>
    unfold cmpV at h
    dsimp only at h
    cases e1 : inV x y with
    | none => rw [e1] at h; cases h
    | some c => rw [e1] at h; cases h; exact in_ok (Q := fun b => Q (!b)) hF e1 rx ry q
  | lt =>
    unfold cmpV at h
    dsimp only at h
    split at h
    · rw [rx.int, ry.int]; cases h; exact q
    · rw [rx.str, ry.str]; cases h; exact q
    · cases h
  | le =>
    unfold cmpV at h
    dsimp only at h
    split at h
    · rw [rx.int, ry.int]; cases h; exact q
    · cases h
  | gt =>
    unfold cmpV at h
    dsimp only at h
    split at h
    · rw [rx.int, ry.int]; cases h; exact q
    · cases h
  | ge =>
    unfold cmpV at h
    dsimp only at h
    split at h
    · rw [rx.int, ry.int]; cases h; exact q
    · cases h
  | is =>
    unfold cmpV at h
    dsimp only at h
    split at h
    · rw [ry.non]
      unfold cmpW
      dsimp only
      rw [isNon_ok rx]
      cases h
      exact q
    · cases h
  | isnot =>
    unfold cmpV at h
    dsimp only at h
    split at h
    · rw [ry.non]
      unfold cmpW
      dsimp only
      rw [isNon_ok rx]
      cases h
      exact q
    · cases h
theorem truth_ok (hF : DS.le F S) {x : V} {d : D} {b : Bool} {Q : Bool → DS → Prop} (h : truthV x = some b) (r : PRel F S x d) (q : Q b S) : truthW d S Q := by
  have e : truth d S = some b := by
    cases x with
    | non => rw [r.non]; exact h
    | bl b => rw [r.bl]; exact h
    | int b => rw [r.int]; exact h
    | str b => rw [r.str]; exact h
    | tup vs =>
      obtain ⟨ds, rfl, r2⟩ := r.tup
      unfold truth
      dsimp only
      rw [r2.isEmpty]
      exact h
    | lst vs =>
      obtain ⟨ds, _, _, r2, e | ⟨a, e, e2⟩⟩ := r.lst hF
      · subst e
        unfold truth
        dsimp only
        rw [r2.isEmpty]
        exact h
      · subst e
        unfold truth
        dsimp only
        rw [e2]
        dsimp only
        rw [r2.isEmpty]
        exact h
    | dct ks vs =>
      obtain ⟨a, kvs, rfl, e, e2, r⟩ := r.dct hF
      unfold truth
      dsimp only
      rw [e]
      dsimp only
      have z : kvs.isEmpty = ks.isEmpty := by
        rw [← e2]
        cases kvs <;> rfl
      rw [z]
      exact h
    | _ => cases h
  unfold truthW
  rw [e]
  exact q
/-- what an operator's answer wants -/
def OutW (F S : DS) (r : Rv) (Q : QD) : Prop := match r with
  | .v v => ∀ d, VRel F v d → Q d S
  | .own o => ∀ so, VOR F o so → newW so S Q
  | .sl _ => False
theorem binV_ok (hF : DS.le F S) {o : Op} {x y : V} {d e : D} {r : Rv} {Q : QD} (h : binV o x y = some r) (rx : PRel F S x d) (ry : PRel F S y e) (q : OutW F S r Q) : binW o d e S Q := by
  unfold binV at h
  split at h
  · rw [rx.int, ry.int]; cases h; exact q _ rfl
  · rw [rx.str, ry.str]
    split at h
    · rename_i c; cases h; exact ⟨c, q _ rfl⟩
    · cases h
  · obtain ⟨ds, rfl, r1⟩ := rx.tup
    obtain ⟨es, rfl, r2⟩ := ry.tup
    split at h
    · rename_i c
      cases h
      exact ⟨by rw [r1.length, r2.length]; exact c, q _ ⟨_, rfl, r1.append r2⟩⟩
    · cases h
  · obtain ⟨ds, l1, _, r1, e1⟩ := rx.lst hF
    obtain ⟨es, l2, _, r2, e2⟩ := ry.lst hF
    split at h
    · rename_i c
      cases h
      have w : catW d e S Q := by
        unfold catW
        rw [l1, l2]
        exact ⟨by rw [r1.length, r2.length]; exact c, q _ ⟨_, rfl, r1.append r2⟩⟩
      rcases e1 with rfl | ⟨a, rfl, _⟩
      · exact w
      · exact w
    · cases h
  · rw [rx.int, ry.int]; cases h; exact q _ rfl
  · rw [rx.int, ry.int]
    split at h
    · rename_i c; cases h; exact ⟨c, q _ rfl⟩
    · cases h
  · obtain ⟨ds, rfl, r1⟩ := rx.tup
    rw [ry.int]
    split at h
    · rename_i c
      cases h
      exact ⟨c.1, c.2.1, by rw [r1.length]; exact c.2.2, q _ ⟨_, rfl, r1.rep _⟩⟩
    · cases h
  · rw [rx.int, ry.int]
    split at h
    · rename_i c; cases h; exact ⟨c, q _ rfl⟩
    · cases h
  · rw [rx.int, ry.int]
    split at h
    · rename_i c; cases h; exact ⟨c, q _ rfl⟩
    · cases h
  · rw [rx.int, ry.int]
    split at h
    · rename_i c; cases h; exact ⟨c, q _ rfl⟩
    · cases h
  · cases h
theorem ixL_ok {vs : List V} {ds : List D} {i : Int} {v : V} {Q : D → Prop} (h : ixLV vs i = some v) (r : VRels F vs ds) (q : ∀ d, VRel F v d → Q d) : ixL ds i Q := by
  unfold ixLV at h
  unfold ixL
  rw [r.length]
  split at h
  · rename_i j e
    try rw [e]
    try dsimp only
    obtain ⟨d, e1, r1⟩ := r.get h
    rw [e1]
    exact q d r1
  · cases h
theorem ixV_ok (hF : DS.le F S) {x y : V} {d e : D} {v : V} {Q : QD} (h : ixV x y = some v) (rx : PRel F S x d) (ry : PRel F S y e) (q : ∀ d, VRel F v d → Q d S) : ixW d e S Q := by
  cases x with
  | str b =>
    rw [rx.str]
    unfold ixV at h
    dsimp only at h
    split at h
    · rename_i i
      rw [ry.int]
      unfold ixW
      dsimp only
      split at h
      · rename_i j e
        try rw [e]
        try dsimp only
        split at h
        · rename_i c e2
          try rw [e2]
          cases h
          exact q _ rfl
        · cases h
      · cases h
    · cases h
  | tup vs =>
    obtain ⟨ds, rfl, r1⟩ := rx.tup
    unfold ixV at h
    dsimp only at h
    split at h
    · rw [ry.int]
      exact ixL_ok h r1 q
    · cases h
  | lst vs =>
    unfold ixV at h
    dsimp only at h
    split at h
    · rw [ry.int]
      obtain ⟨ds, _, _, r, e | ⟨a, e, e2⟩⟩ := rx.lst hF
      · subst e
        exact ixL_ok h r q
      · subst e
        unfold ixW
        dsimp only
        rw [e2]
        exact ixL_ok h r q
    · cases h
  | dct ks vs =>
    obtain ⟨a, kvs, rfl, e, e2, r⟩ := rx.dct hF
    unfold ixV at h
    dsimp only at h
    unfold ixW
    dsimp only
    rw [e]
    dsimp only
    split at h
    · rename_i k ek
      rw [key_ok ek ry]
      dsimp only
      rw [← e2] at h
      obtain ⟨d, e3, r3⟩ := (get_ok r).1 v h
      rw [e3]
      exact q d r3
    · cases h
  | _ => cases h
theorem slV_ok (hF : DS.le F S) {x : V} {d : D} {lo hi : Option Int} {r : Rv} {Q : QD} (h : slV x lo hi = some r) (rx : PRel F S x d) (q : OutW F S r Q) : slW d lo hi S Q := by
  cases x with
  | tup vs =>
    obtain ⟨ds, rfl, r1⟩ := rx.tup
    cases h
    exact q _ ⟨_, rfl, r1.cut lo hi⟩
  | lst vs =>
    obtain ⟨ds, _, l2, r, e | ⟨a, e, e2⟩⟩ := rx.lst hF
    · subst e
      cases h
      exact q _ ⟨_, rfl, r.cut lo hi⟩
    · subst e
      cases h
      unfold slW
      dsimp only
      rw [l2]
      exact q _ ⟨_, rfl, r.cut lo hi⟩
  | _ => cases h
theorem isOf_ok (hF : DS.le F S) {x : V} {d : D} {n : String} {b : Bool} (h : isOfV x n = some b) (r : PRel F S x d) : isOf d n S = some b := by
  cases x with
  | non => rw [r.non]; exact h
  | bl b => rw [r.bl]; exact h
  | int b => rw [r.int]; exact h
  | str b => rw [r.str]; exact h
  | tup vs => obtain ⟨ds, rfl, r⟩ := r.tup; exact h
  | lst vs =>
    obtain ⟨ds, _, _, r, e | ⟨a, e, e2⟩⟩ := r.lst hF
    · subst e; exact h
    · subst e
      unfold isOf
      dsimp only
      rw [e2]
      exact h
  | dct ks vs =>
    obtain ⟨a, kvs, rfl, e, e2, r⟩ := r.dct hF
    unfold isOf
    dsimp only
    rw [e]
    exact h
  | _ => cases h
theorem biV_ok (hF : DS.le F S) {b : BI} {vs : List V} {ds : List D} {v : V} {Q : QD} (h : biV b vs = some v) (r : PRels F S vs ds) (q : ∀ d, VRel F v d → Q d S) : biW b ds S Q := by
  unfold biV at h
  split at h
  · obtain ⟨d, es, rfl, r1, rfl⟩ := r
    rw [r1.str]
    split at h
    · rename_i c; cases h; exact ⟨c, q _ rfl⟩
    · cases h
  · obtain ⟨d, es, rfl, r1, rfl⟩ := r
    obtain ⟨xs, rfl, r2⟩ := r1.tup
    cases h
    refine q _ ?_
    show D.int _ = _
    rw [r2.length]
  · obtain ⟨d, es, rfl, r1, rfl⟩ := r
    cases h
    obtain ⟨xs, _, _, r2, e | ⟨a, e, e2⟩⟩ := r1.lst hF
    · subst e
      refine q _ ?_
      show D.int _ = _
      rw [r2.length]
    · subst e
      unfold biW
      dsimp only
      rw [e2]
      refine q _ ?_
      show D.int _ = _
      rw [r2.length]
  · obtain ⟨d, es, rfl, r1, rfl⟩ := r
    cases h
    obtain ⟨a, kvs, rfl, e, e2, _⟩ := r1.dct hF
    unfold biW
    dsimp only
    rw [e]
    refine q _ ?_
    show D.int _ = _
    rw [← e2, List.length_map]
  · obtain ⟨d, es, rfl, r1, rfl⟩ := r
    rw [r1.int]
    cases h
    exact q _ rfl
  · obtain ⟨d, es, rfl, r1, rfl⟩ := r
    rw [r1.int]
    cases h
    exact q _ rfl
  · obtain ⟨d, es, rfl, r1, d2, es2, rfl, r2, rfl⟩ := r
    rename_i x n
    rw [r2.ty]
    cases e : isOfV x n with
    | none => rw [e] at h; cases h
    | some c =>
      rw [e] at h
      cases h
      show match isOf d n S with
        | some b => Q (.bl b) S
        | none => False
      rw [isOf_ok hF e r1]
      exact q _ rfl
  · obtain ⟨d, es, rfl, r1, d2, es2, rfl, r2, rfl⟩ := r
    rw [r1.int, r2.int]
    cases h
    exact q _ rfl
  · obtain ⟨d, es, rfl, r1, d2, es2, rfl, r2, rfl⟩ := r
    rw [r1.int, r2.int]
    cases h
    exact q _ rfl
  · cases h
theorem ints_ok : ∀ {vs : List V} {ds : List D} {is : List Int}, intsV? vs = some is → VRels F vs ds → ints? ds = some is
  | [], ds, is, h, r => by
    rw [show ds = [] from r]
    exact h
  | v :: vs, ds, is, h, r => by
    obtain ⟨d, es, rfl, r1, r2⟩ := r
    cases v with
    | int i =>
      rw [show d = .int i from r1]
      unfold intsV? at h
      unfold ints?
      cases e : intsV? vs with
      | none => rw [e] at h; cases h
      | some js => rw [e] at h; rw [ints_ok e r2]; exact h
    | _ => cases h
theorem bls_ok : ∀ {vs : List V} {ds : List D} {is : List Bool}, blsV? vs = some is → VRels F vs ds → bls? ds = some is
  | [], ds, is, h, r => by
    rw [show ds = [] from r]
    exact h
  | v :: vs, ds, is, h, r => by
    obtain ⟨d, es, rfl, r1, r2⟩ := r
    cases v with
    | bl i =>
      rw [show d = .bl i from r1]
      unfold blsV? at h
      unfold bls?
      cases e : blsV? vs with
      | none => rw [e] at h; cases h
      | some js => rw [e] at h; rw [bls_ok e r2]; exact h
    | _ => cases h
theorem biLV_ok {b : BI} {vs : List V} {ds : List D} {r : Rv} {Q : QD} (h : biLV b vs = some r) (rs : VRels F vs ds) (q : OutW F S r Q) : biL b ds S Q := by
  cases b with
  | tuple => cases h; exact q _ ⟨_, rfl, rs⟩
  | list => cases h; exact q _ ⟨_, rfl, rs⟩
  | sum =>
    unfold biLV at h
    dsimp only at h
    cases e : intsV? vs with
    | none => rw [e] at h; cases h
    | some is =>
      rw [e] at h
      cases h
      unfold biL
      dsimp only
      rw [ints_ok e rs]
      exact q _ rfl
  | max =>
    unfold biLV at h
    dsimp only at h
    split at h
    · rename_i i is e
      cases h
      unfold biL
      dsimp only
      rw [ints_ok e rs]
      exact q _ rfl
    · cases h
  | min =>
    unfold biLV at h
    dsimp only at h
    split at h
    · rename_i i is e
      cases h
      unfold biL
      dsimp only
      rw [ints_ok e rs]
      exact q _ rfl
    · cases h
  | all =>
    unfold biLV at h
    dsimp only at h
    cases e : blsV? vs with
    | none => rw [e] at h; cases h
    | some is =>
      rw [e] at h
      cases h
      unfold biL
      dsimp only
      rw [bls_ok e rs]
      exact q _ rfl
  | any =>
    unfold biLV at h
    dsimp only at h
    cases e : blsV? vs with
    | none => rw [e] at h; cases h
    | some is =>
      rw [e] at h
      cases h
      unfold biL
      dsimp only
      rw [bls_ok e rs]
      exact q _ rfl
  | _ => cases h
theorem kind_ok {m : MT} {o : VO} {so : SO} {a : Addr} (h : kindV m o = true) (r : VOR F o so) (e : S a = some so) : kindW m (.ref a) S := by
  unfold kindW
  dsimp only
  rw [e]
  cases o with
  | lst vs =>
    obtain ⟨ds, rfl, _⟩ := r
    cases m <;> first | trivial | cases h
  | dk ks vs =>
    obtain ⟨ds, rfl, _⟩ := r
    cases m <;> first | trivial | cases h
theorem mth_ok {m : MT} {o : VO} {vs : List V} {so : SO} {ds : List D} {a : Addr} {p : V × VO} {Q : QD} (h : mthV m o vs = some p) (r : VOR F o so) (e : S a = some so) (rs : VRels F vs ds)
    (q : ∀ d so2, VRel F p.1 d → VOR F p.2 so2 → (S.put a so2) a = some so2 → Q d (S.put a so2)) (q0 : p.2 = o → ∀ d, VRel F p.1 d → Q d S) : mthW m (.ref a) ds S Q := by
  unfold mthV at h
  unfold mthW
  dsimp only
  rw [e]
  split at h
  · obtain ⟨es, rfl, r1⟩ := r
    obtain ⟨d, fs, rfl, r2, rfl⟩ := rs
    split at h
    · rename_i c
      cases h
      exact ⟨by rw [r1.length]; exact c, q _ _ rfl ⟨_, rfl, r1.snoc r2⟩ DS.put_same⟩
    · cases h
  · obtain ⟨es, rfl, r1⟩ := r
    obtain rfl := rs
    split at h
    · rename_i v ev
      cases h
      obtain ⟨d, e1, r2⟩ := r1.getLast ev
      show match es.getLast? with
        | some d => Q d (S.put a (.lst es.dropLast))
        | none => False
      rw [e1]
      exact q _ _ r2 ⟨_, rfl, r1.dropLast⟩ DS.put_same
    · cases h
  · obtain ⟨kvs, rfl, e2, r1⟩ := r
    obtain ⟨d1, fs, rfl, r2, d2, gs, rfl, r3, rfl⟩ := rs
    split at h
    · rename_i k ek
      split at h
      · rename_i c
        unfold dkM
        dsimp only
        rw [key_ok (S := S) ek (.inl r2)]
        refine ⟨by rw [← e2, List.length_map] at c; exact c, ?_⟩
        obtain ⟨i1, i2⟩ := get_ok (k := k) r1
        rw [e2] at i1 i2
        split at h
        · rename_i w ew
          cases h
          obtain ⟨d, e3, r4⟩ := i1 w ew
          rw [e3]
          exact q0 rfl _ r4
        · rename_i ew
          cases h
          rw [i2 ew]
          refine q _ _ r3 ⟨_, rfl, ?_, ?_⟩ DS.put_same
          · rw [List.map_append, e2]
            rfl
          · rw [List.map_append]
            exact r1.snoc r3
      · cases h
    · cases h
  · cases h
theorem ext_ok {o o2 : VO} {vs : List V} {so : SO} {ds : List D} {a : Addr} {Q : QD} (h : extV o vs = some o2) (r : VOR F o so) (e : S a = some so) (rs : VRels F vs ds)
    (q : ∀ so2, VOR F o2 so2 → Q .non (S.put a so2)) : extW (.ref a) ds S Q := by
  unfold extV at h
  unfold extW
  dsimp only
  rw [e]
  split at h
  · obtain ⟨es, rfl, r1⟩ := r
    split at h
    · rename_i c
      cases h
      exact ⟨by rw [r1.length, rs.length]; exact c, q _ ⟨_, rfl, r1.append rs⟩⟩
    · cases h
  · cases h
theorem setI_ok {o o2 : VO} {i v : V} {so : SO} {di dv : D} {a : Addr} {Q : DS → Prop} (h : setIV o i v = some o2) (r : VOR F o so) (e : S a = some so) (ri : PRel F S i di) (rv : VRel F v dv)
    (q : ∀ so2, VOR F o2 so2 → Q (S.put a so2)) : setW (.ref a) di dv S Q := by
  unfold setIV at h
  split at h
  · obtain ⟨es, rfl, r1⟩ := r
    rw [ri.int]
    unfold setW
    dsimp only
    rw [e]
    dsimp only
    rw [r1.length]
    split at h
    · rename_i j ej
      try rw [ej]
      cases h
      exact q _ ⟨_, rfl, r1.set j rv⟩
    · cases h
  · cases h
theorem chars_ok : ∀ x : List Nat, VRels F (x.map fun c => V.str [c]) (x.map fun c => D.str [c])
  | [] => rfl
  | c :: x => ⟨_, _, rfl, rfl, chars_ok x⟩
theorem gd_nilV {S : DS} : Gd.ok [] S := fun _ h => nomatch h
/-- a walk's guard stands as long as what does not change -/
def GdF (g : Gd) (F : DS) : Prop := ∀ p ∈ g, F p.1 = some p.2
theorem GdF.ok {g : Gd} (h : GdF g F) (hF : DS.le F S) : g.ok S := fun p hp => hF _ _ (h p hp)
theorem GdF.mono {g : Gd} (h : GdF g F) (hF : DS.le F F') : GdF g F' := fun p hp => hF _ _ (h p hp)
theorem GdF.nil : GdF [] F := fun _ h => nomatch h
theorem GdF.one {a : Addr} {o : SO} (e : F a = some o) : GdF [(a, o)] F := fun p hp => by rw [List.mem_singleton.mp hp]; exact e
theorem GdF.app {g g2 : Gd} (h : GdF g F) (h2 : GdF g2 F) : GdF (g ++ g2) F := fun p hp => (List.mem_append.mp hp).elim (h p) (h2 p)
theorem walkV_ok (hF : DS.le F S) {x : V} {d : D} {vs : List V} {Q : List D → Gd → DS → Prop} (h : walkV x = some vs) (r : VRel F x d) (q : ∀ ds g, VRels F vs ds → GdF g F → Q ds g S) : walkW d S Q := by
  cases x with
  | tup ws => obtain ⟨ds, rfl, r⟩ := r; cases h; exact q _ _ r GdF.nil
  | lst ws =>
    cases h
    obtain ⟨ds, rfl | ⟨a, rfl, e⟩, r⟩ := r
    · exact q _ _ r GdF.nil
    · unfold walkW
      dsimp only
      rw [hF _ _ e]
      exact q _ _ r (GdF.one e)
  | str x =>
    rw [show d = .str x from r]
    unfold walkV at h
    dsimp only at h
    split at h
    · rename_i c
      cases h
      exact ⟨c, q _ _ (chars_ok x) GdF.nil⟩
    · cases h
  | _ => cases h
theorem seqV_ok (hF : DS.le F S) {x : V} {d : D} {vs : List V} {Q : List D → Gd → Prop} (h : seqV x = some vs) (r : VRel F x d) (q : ∀ ds g, VRels F vs ds → GdF g F → Q ds g) : seqW d S Q := by
  cases x with
  | tup ws => obtain ⟨ds, rfl, r⟩ := r; cases h; exact q _ _ r GdF.nil
  | lst ws =>
    cases h
    obtain ⟨ds, rfl | ⟨a, rfl, e⟩, r⟩ := r
    · exact q _ _ r GdF.nil
    · unfold seqW
      dsimp only
      rw [hF _ _ e]
      exact q _ _ r (GdF.one e)
  | _ => cases h
theorem zip_rels : ∀ {vs ws : List V} {ds es : List D}, VRels F vs ds → VRels F ws es → VRels F (zipV vs ws) (zipD ds es)
  | [], ws, ds, es, r, r2 => by rw [show ds = [] from r]; simp [zipV, zipD, VRels]
  | v :: vs, [], ds, es, r, r2 => by
    obtain ⟨d, fs, rfl, _, _⟩ := r
    rw [show es = [] from r2]
    simp [zipV, zipD, VRels]
  | v :: vs, w :: ws, ds, es, r, r2 => by
    obtain ⟨d, fs, rfl, h, r⟩ := r
    obtain ⟨e, gs, rfl, h2, r2⟩ := r2
    exact ⟨_, _, rfl, ⟨_, rfl, _, _, rfl, h, _, _, rfl, h2, rfl⟩, zip_rels r r2⟩
theorem zipVV_ok (hF : DS.le F S) {x y : V} {d e : D} {vs : List V} {Q : List D → Gd → DS → Prop} (h : zipVV x y = some vs) (r : VRel F x d) (r2 : VRel F y e) (q : ∀ ds g, VRels F vs ds → GdF g F → Q ds g S) : zipW d e S Q := by
  unfold zipVV at h
  split at h
  · obtain ⟨ds, rfl, r⟩ := r
    obtain ⟨es, rfl, r2⟩ := r2
    cases h
    exact q _ _ (zip_rels r r2) GdF.nil
  · cases h
    have w : seqW d S fun xs g => seqW e S fun ys g2 => Q (zipD xs ys) (g ++ g2) S := seqV_ok hF rfl r fun ds g h1 h2 => seqV_ok hF rfl r2 fun es g2 h3 h4 => q _ _ (zip_rels h1 h3) (h2.app h4)
    obtain ⟨ds, rfl | ⟨a, rfl, e1⟩, r⟩ := r <;> obtain ⟨es, rfl | ⟨b, rfl, e2⟩, r2⟩ := r2 <;> exact w
  · cases h
theorem enum_rels : ∀ {vs : List V} {ds : List D} (k : Nat), VRels F vs ds → VRels F (enumV k vs) (enumD k ds)
  | [], ds, k, r => by rw [show ds = [] from r]; simp [enumV, enumD, VRels]
  | v :: vs, ds, k, r => by
    obtain ⟨d, fs, rfl, h, r⟩ := r
    exact ⟨_, _, rfl, ⟨_, rfl, _, _, rfl, rfl, _, _, rfl, h, rfl⟩, enum_rels (k + 1) r⟩
theorem rels_map {α : Type} {f : α → V} {g : α → D} (h : ∀ a, VRel F (f a) (g a)) : ∀ l : List α, VRels F (l.map f) (l.map g)
  | [] => rfl
  | a :: l => ⟨_, _, rfl, h a, rels_map h l⟩
theorem range_rels (lo hi : Int) : VRels F (rangeV lo hi) (rangeD lo hi) := rels_map (f := fun k : Nat => V.int (lo + (k : Int))) (g := fun k : Nat => D.int (lo + (k : Int))) (fun _ => rfl) _
theorem hvals_ok : ∀ {r : HR} {fs vs : List V} {ds : List D}, hvalsV r fs = some vs → VRels F fs ds → ∃ es, hvals r ds = some es ∧ VRels F vs es
  | [], fs, vs, ds, h, r => by cases h; exact ⟨[], rfl, rfl⟩
  | .inl x :: q, fs, vs, ds, h, r => by
    unfold hvalsV at h
    split at h
    · rename_i ws e
      cases h
      obtain ⟨es, e1, r1⟩ := hvals_ok e r
      exact ⟨.str x :: es, by unfold hvals; rw [e1], _, _, rfl, rfl, r1⟩
    · cases h
  | .inr i :: q, fs, vs, ds, h, r => by
    unfold hvalsV at h
    split at h
    · rename_i w ws e1 e
      cases h
      obtain ⟨es, e2, r1⟩ := hvals_ok e r
      obtain ⟨d, e3, r3⟩ := r.get e1
      exact ⟨d :: es, by unfold hvals; rw [e2, e3], _, _, rfl, r3, r1⟩
    · cases h
mutual
theorem toV_ok : ∀ (d : D) (v : V), toV d = some v → VRel F v d
  | .non, v, h => by cases h; rfl
  | .bl b, v, h => by cases h; rfl
  | .int i, v, h => by cases h; rfl
  | .str x, v, h => by cases h; rfl
  | .tup ds, v, h => by
    unfold toV at h
    cases e : toVs ds with
    | none => rw [e] at h; cases h
    | some vs => rw [e] at h; cases h; exact ⟨ds, rfl, toVs_ok ds vs e⟩
  | .lis ds, v, h => by
    unfold toV at h
    cases e : toVs ds with
    | none => rw [e] at h; cases h
    | some vs => rw [e] at h; cases h; exact ⟨ds, .inl rfl, toVs_ok ds vs e⟩
  | .fn f, v, h => by cases h; rfl
  | .cls c, v, h => by cases h; rfl
  | .ty n, v, h => by cases h; rfl
  | .ref a, v, h => by cases h
theorem toVs_ok : ∀ (ds : List D) (vs : List V), toVs ds = some vs → VRels F vs ds
  | [], vs, h => by cases h; rfl
  | d :: ds, vs, h => by
    unfold toVs at h
    split at h
    · rename_i v ws e1 e2
      cases h
      exact ⟨d, ds, rfl, toV_ok d v e1, toVs_ok ds ws e2⟩
    · cases h
end
end
end PV
end
section
set_option Elab.async false
set_option linter.all false
set_option maxRecDepth 100000
set_option maxHeartbeats 1000000
/-! PyV, part C: slots as they lie; what a step leaves. -/
namespace PV
abbrev DEnv := PD.Env
open PySem PD

/-- slots as they lie -/
structure EnvR (F S : DS) (env : VEnv) (denv : DEnv) : Prop where
  len : env.length = denv.length
  val : ∀ i v, env.getD i .none = .val v → ∃ d, denv[i]? = some (some d) ∧ VRel F v d
  own : ∀ i b o, env.getD i .none = .own b o → ∃ a so, denv[i]? = some (some (.ref a)) ∧ S a = some so ∧ VOR F o so ∧ F a = none
  inj : ∀ i j a b b' o o', env.getD i .none = .own b o → env.getD j .none = .own b' o' → denv[i]? = some (some (.ref a)) → denv[j]? = some (some (.ref a)) → i = j
/-- a is owned by a slot -/
def OwnA (env : VEnv) (denv : DEnv) (a : Addr) : Prop := ∃ i b o, env.getD i .none = .own b o ∧ denv[i]? = some (some (.ref a))
structure St (F S : DS) (env : VEnv) (denv : DEnv) : Prop where
  le : DS.le F S
  r : EnvR F S env denv
/-- what may be touched -/
def Av (S : DS) (env : VEnv) (denv : DEnv) (a : Addr) : Prop := OwnA env denv a ∨ S a = none
/-- what a step leaves -/
structure Go (N : Addr → Prop) (F S : DS) (env : VEnv) (denv : DEnv) (F' S' : DS) (env' : VEnv) (denv' : DEnv) : Prop where
  st : St F' S' env' denv'
  le : DS.le F F'
  nw : ∀ a, OwnA env' denv' a ∨ F' a ≠ none → N a ∨ F a ≠ none
  fr : ∀ a o, S a = some o → ¬ N a → S' a = some o
  bo : ∀ i o', env'.getD i .none = .own true o' → (∃ o, env.getD i .none = .own true o) ∧ denv'[i]? = denv[i]?
  len : env'.length = env.length
section
variable {N N' : Addr → Prop} {F S F1 S1 F2 S2 : DS} {env env1 env2 : VEnv} {denv denv1 denv2 : DEnv}
theorem Go.refl (h : St F S env denv) (hN : ∀ a, OwnA env denv a → N a) : Go N F S env denv F S env denv :=
  ⟨h, DS.le.refl F, fun a q => q.imp (hN a) id, fun a o e _ => e, fun i o e => ⟨⟨o, e⟩, rfl⟩, rfl⟩
theorem Go.trans (g : Go N F S env denv F1 S1 env1 denv1) (g2 : Go N F1 S1 env1 denv1 F2 S2 env2 denv2) : Go N F S env denv F2 S2 env2 denv2 where
  st := g2.st
  le := g.le.trans g2.le
  nw := fun a q => (g2.nw a q).elim .inl fun z => g.nw a (.inr z)
  fr := fun a o e n => g2.fr a o (g.fr a o e n) n
  bo := fun i o e => by
    obtain ⟨⟨o1, e1⟩, h1⟩ := g2.bo i o e
    obtain ⟨e2, h2⟩ := g.bo i o1 e1
    exact ⟨e2, h1.trans h2⟩
  len := g2.len.trans g.len
theorem Go.up (hN : ∀ a, N' a → N a) (g : Go N' F S env denv F1 S1 env1 denv1) : Go N F S env denv F1 S1 env1 denv1 :=
  ⟨g.st, g.le, fun a q => (g.nw a q).imp (hN a) id, fun a o e n => g.fr a o e fun z => n (hN a z), g.bo, g.len⟩
/-- what may be touched grows less -/
theorem Go.av (hN : ∀ a, Av S env denv a → N a) (g : Go N F S env denv F1 S1 env1 denv1) : ∀ a, Av S1 env1 denv1 a → N a := fun a h => by
  rcases h with h | h
  · rcases g.nw a (.inl h) with z | z
    · exact z
    · obtain ⟨i, b, o, e1, e2⟩ := h
      obtain ⟨a', so, e3, _, _, e4⟩ := g.st.r.own i b o e1
      rw [e2] at e3
      cases e3
      cases q : F a with
      | none => exact absurd q z
      | some u => rw [g.le a u q] at e4; cases e4
  · cases q : S a with
    | none => exact hN a (.inr q)
    | some u =>
      by_cases z : N a
      · exact z
      · rw [g.fr a u q z] at h; cases h
theorem OwnA.some {a : Addr} (h : St F S env denv) (o : OwnA env denv a) : ∃ so, S a = some so ∧ F a = none := by
  obtain ⟨i, b, o, e1, e2⟩ := o
  obtain ⟨a', so, e3, h1, _, h2⟩ := h.r.own i b o e1
  rw [e2] at e3
  cases e3
  exact ⟨so, h1, h2⟩

/-- an rvalue as it lies -/
def RR (N : Addr → Prop) (F S : DS) (env : VEnv) (denv : DEnv) : Rv → D → Prop
  | .v v, d => VRel F v d
  | .own o, d => ∃ a so, d = .ref a ∧ S a = some so ∧ VOR F o so ∧ F a = none ∧ ¬ OwnA env denv a ∧ N a
  | .sl i, d => denv[i]? = some (some d)
theorem RR.up (hN : ∀ a, N' a → N a) {r : Rv} {d : D} (h : RR N' F S env denv r d) : RR N F S env denv r d := by
  cases r with
  | v v => exact h
  | own o =>
    obtain ⟨a, so, h1, h2, h3, h4, h5, h6⟩ := h
    exact ⟨a, so, h1, h2, h3, h4, h5, hN a h6⟩
  | sl i => exact h
theorem RR.go {r : Rv} {d : D} (h : RR N F S env denv r d) (g : Go (Av S env denv) F S env denv F1 S1 env1 denv) : RR N F1 S1 env1 denv r d := by
  cases r with
  | v v => exact VRel.mono g.le _ _ h
  | own o =>
    obtain ⟨a, so, rfl, h2, h3, h4, h5, h6⟩ := h
    have nA : ¬ Av S env denv a := fun z => z.elim h5 fun z => by rw [h2] at z; cases z
    refine ⟨a, so, rfl, g.fr a so h2 nA, VOR.mono g.le h3, ?_, fun z => ?_, h6⟩
    · cases q : F1 a with
      | none => rfl
      | some u =>
        rcases g.nw a (.inr (by rw [q]; exact fun z => nomatch z)) with z | z
        · exact absurd z nA
        · exact absurd h4 z
    · rcases g.nw a (.inl z) with z | z
      · exact absurd z nA
      · exact absurd h4 z
  | sl i => exact h
theorem RR.deref (h : St F S env denv) {r : Rv} {d : D} {v : V} (rr : RR N F S env denv r d) (e : deref env r = some v) : PRel F S v d := by
  cases r with
  | v w => cases e; exact .inl rr
  | own o => cases e
  | sl i =>
    unfold PV.deref at e
    dsimp only at e
    split at e
    · rename_i b o eo
      cases e
      obtain ⟨a, so, e3, h1, h2, _⟩ := h.r.own i b o eo
      have rr : denv[i]? = _ := rr
      rw [e3] at rr
      cases rr
      exact .inr ⟨a, o, so, rfl, h1, h2, rfl⟩
    · cases e

/-! ### what is wanted -/
def Post {α β : Type} (N : Addr → Prop) (Rel : (Addr → Prop) → DS → DS → VEnv → α → β → Prop) (F S : DS) (env : VEnv) (denv : DEnv) (r : Res α) (Q : β → DS → Prop) (E : QE) : Prop := match r with
  | .ok a env' => ∀ F' S' b, Go N F S env denv F' S' env' denv → Rel N F' S' env' a b → Q b S'
  | .exc c fs env' => ∀ F' S' ds, Go N F S env denv F' S' env' denv → VRels F' fs ds → E ⟨c, ds⟩ S'
  | .bad => False
/-- what may be touched, told of more -/
def UpN {α β : Type} (Rel : (Addr → Prop) → DS → DS → VEnv → α → β → Prop) : Prop := ∀ {N N' : Addr → Prop} {F S : DS} {env : VEnv} {a : α} {b : β}, (∀ x, N' x → N x) → Rel N' F S env a b → Rel N F S env a b
theorem Post.mono {α β : Type} {Rel : (Addr → Prop) → DS → DS → VEnv → α → β → Prop} {r : Res α} {Q Q2 : β → DS → Prop} {E : QE} (h : Post N Rel F S env denv r Q E) (u : ∀ b S', Q b S' → Q2 b S') : Post N Rel F S env denv r Q2 E := by
  cases r with
  | ok a env' => exact fun F' S' b g rel => u b S' (h F' S' b g rel)
  | exc c fs env' => exact h
  | bad => exact h
theorem Post.bind {α β γ δ : Type} {Rel1 : (Addr → Prop) → DS → DS → VEnv → α → β → Prop} {Rel2 : (Addr → Prop) → DS → DS → VEnv → γ → δ → Prop} {r : Res α} {f : α → VEnv → Res γ} {Q : δ → DS → Prop} {E : QE}
    (hN : ∀ a, Av S env denv a → N a) (h : Post N Rel2 F S env denv (r.bind f) Q E) :
    Post (Av S env denv) Rel1 F S env denv r (fun b S1 => ∃ F1 env1 a, Go (Av S env denv) F S env denv F1 S1 env1 denv ∧ Rel1 (Av S env denv) F1 S1 env1 a b ∧ (∀ a, Av S1 env1 denv a → N a) ∧ Post N Rel2 F1 S1 env1 denv (f a env1) Q E) E := by
  cases r with
  | ok a env' =>
    intro F1 S1 b g rel
    refine ⟨F1, env', a, g, rel, fun x hx => hN x (g.av (fun _ z => z) x hx), ?_⟩
    have h : Post N Rel2 F S env denv (f a env') Q E := h
    cases e : f a env' with
    | ok c env2 =>
      rw [e] at h
      exact fun F2 S2 d g2 rel2 => h F2 S2 d ((g.up hN).trans g2) rel2
    | exc c fs env2 =>
      rw [e] at h
      exact fun F2 S2 d g2 rel2 => h F2 S2 d ((g.up hN).trans g2) rel2
    | bad =>
      rw [e] at h
      exact h
  | exc c fs env' => exact fun F1 S1 ds g rel => h F1 S1 ds (g.up hN) rel
  | bad => exact h
theorem Post.opt {α γ δ : Type} {Rel2 : (Addr → Prop) → DS → DS → VEnv → γ → δ → Prop} {o : Option α} {k : α → Res γ} {Q : δ → DS → Prop} {E : QE} (h : Post N Rel2 F S env denv (optR o k) Q E) : ∃ a, o = some a ∧ Post N Rel2 F S env denv (k a) Q E := by
  cases o with
  | none => exact h.elim
  | some a => exact ⟨a, rfl, h⟩
theorem Post.ite {γ δ : Type} {Rel2 : (Addr → Prop) → DS → DS → VEnv → γ → δ → Prop} {c : Prop} [Decidable c] {r : Res γ} {Q : δ → DS → Prop} {E : QE} (h : Post N Rel2 F S env denv (if c then r else .bad) Q E) : c ∧ Post N Rel2 F S env denv r Q E := by
  by_cases z : c
  · rw [if_pos z] at h; exact ⟨z, h⟩
  · rw [if_neg z] at h; exact h.elim
def RRel (denv : DEnv) : (Addr → Prop) → DS → DS → VEnv → Rv → D → Prop := fun N F S env r d => RR N F S env denv r d
def VRl : (Addr → Prop) → DS → DS → VEnv → List V → List D → Prop := fun _ F _ _ vs ds => VRels F vs ds
def BRl : (Addr → Prop) → DS → DS → VEnv → Bool → Bool → Prop := fun _ _ _ _ a b => a = b
def IRl : (Addr → Prop) → DS → DS → VEnv → Option Int → Option Int → Prop := fun _ _ _ _ a b => a = b
theorem Post.now {γ δ : Type} {Rel2 : (Addr → Prop) → DS → DS → VEnv → γ → δ → Prop} {a : γ} {Q : δ → DS → Prop} {E : QE} (h : St F S env denv) (hN : ∀ a, Av S env denv a → N a) (p : Post N Rel2 F S env denv (.ok a env) Q E) : ∀ b, Rel2 N F S env a b → Q b S :=
  fun b rel => p F S b (Go.refl h fun a z => hN a (.inl z)) rel
theorem Post.shrink {α β : Type} {Rel : (Addr → Prop) → DS → DS → VEnv → α → β → Prop} (u : UpN Rel) {r : Res α} {Q : β → DS → Prop} {E : QE} (hN : ∀ a, N' a → N a) (h : Post N Rel F S env denv r Q E) : Post N' Rel F S env denv r Q E := by
  cases r with
  | ok a env' => exact fun F' S' b g rel => h F' S' b (g.up hN) (u hN rel)
  | exc c fs env' => exact fun F' S' ds g rel => h F' S' ds (g.up hN) rel
  | bad => exact h
theorem upR : UpN (RRel denv) := fun h r => RR.up h r
theorem upV : UpN VRl := fun _ r => r
theorem upB : UpN BRl := fun _ r => r
theorem upI : UpN IRl := fun _ r => r

/-! ### the store grows -/
theorem EnvR.mono (h : EnvR F S env denv) (hF : DS.le F F1) (hS : ∀ a so, OwnA env denv a → S a = some so → S1 a = some so) (hn : ∀ a, OwnA env denv a → F1 a = none) : EnvR F1 S1 env denv where
  len := h.len
  val := fun i v e => by
    obtain ⟨d, h1, h2⟩ := h.val i v e
    exact ⟨d, h1, VRel.mono hF _ _ h2⟩
  own := fun i b o e => by
    obtain ⟨a, so, h1, h2, h3, h4⟩ := h.own i b o e
    exact ⟨a, so, h1, hS a so ⟨i, b, o, e, h1⟩ h2, VOR.mono hF h3, hn a ⟨i, b, o, e, h1⟩⟩
  inj := h.inj
/-- a new object that is nobody's yet -/
theorem go_new (h : St F S env denv) (hN : ∀ a, Av S env denv a → N a) {p : Addr} {so : SO} (n : S p = none) : Go N F S env denv F (S.put p so) env denv := by
  have ne : ∀ a, OwnA env denv a → a ≠ p := fun a z e => by
    obtain ⟨so, h1, _⟩ := z.some h
    rw [e, n] at h1
    cases h1
  refine ⟨⟨fun a o e => ?_, h.r.mono (DS.le.refl F) (fun a so z e => ?_) fun a z => ?_⟩, DS.le.refl F, fun a z => z.imp (fun z => hN a (.inl z)) id, fun a o e z => ?_, fun i o e => ⟨⟨o, e⟩, rfl⟩, rfl⟩
  · have e1 := h.le a o e
    have : a ≠ p := fun z => by rw [z, n] at e1; cases e1
    rw [DS.put_ne this]
    exact e1
  · rw [DS.put_ne (ne a z)]
    exact e
  · obtain ⟨_, _, h2⟩ := z.some h
    exact h2
  · have : a ≠ p := fun z => by rw [z, n] at e; cases e
    rw [DS.put_ne this]
    exact e
/-- .. that does not change any more -/
theorem go_frz (h : St F S env denv) (hN : ∀ a, Av S env denv a → N a) {p : Addr} {so : SO} (n : S p = none) : Go N F S env denv (F.put p so) (S.put p so) env denv := by
  have g := go_new (so := so) h hN n
  have nF : F p = none := by
    cases q : F p with
    | none => rfl
    | some u => rw [h.le p u q] at n; cases n
  have ne : ∀ a, OwnA env denv a → a ≠ p := fun a z e => by
    obtain ⟨so, h1, _⟩ := z.some h
    rw [e, n] at h1
    cases h1
  refine ⟨⟨h.le.put p so, g.st.r.mono (DS.le_put nF) (fun a so z e => e) fun a z => ?_⟩, DS.le_put nF, fun a z => ?_, g.fr, g.bo, rfl⟩
  · rw [DS.put_ne (ne a z)]
    obtain ⟨_, _, h2⟩ := z.some h
    exact h2
  · rcases z with z | z
    · exact .inl (hN a (.inl z))
    · by_cases e : a = p
      · subst e
        exact .inl (hN a (.inr n))
      · rw [DS.put_ne e] at z
        exact .inr z
/-- an answer, as it is wanted -/
theorem out_ok {m : Md} {r : Rv} {Q : QD} {E : QE} (h : St F S env denv) (hN : ∀ a, Av S env denv a → N a) (hr : ∀ i, r ≠ .sl i) (p : Post N (RRel denv) F S env denv (.ok (ownR m r) env) Q E) : OutW F S r Q := by
  cases r with
  | v v => exact fun d rel => p.now h hN d rel
  | own o =>
    intro so ro q hq
    unfold ownR at p
    dsimp only at p
    split at p
    · refine p F (S.put q so) (.ref q) (go_new h hN hq) ⟨q, so, rfl, DS.put_same, ro, ?_, fun z => ?_, hN q (.inr hq)⟩
      · cases e : F q with
        | none => rfl
        | some u => rw [h.le q u e] at hq; cases hq
      · obtain ⟨so, h1, _⟩ := z.some h
        rw [hq] at h1
        cases h1
    · have nF : F q = none := by
        cases e : F q with
        | none => rfl
        | some u => rw [h.le q u e] at hq; cases hq
      exact p (F.put q so) (S.put q so) (.ref q) (go_frz h hN hq) (VO.rel (F := F.put q so) DS.put_same (VOR.mono (DS.le_put nF) ro))
  | sl i => exact absurd rfl (hr i)
end
end PV
end
section
set_option Elab.async false
set_option linter.all false
set_option maxRecDepth 100000
set_option maxHeartbeats 1000000
/-! PyV, part D: slots that change, calls, targets of a walk. -/
namespace PV
open PySem PD
theorem getD_set {env : VEnv} {i j : Nat} {s : Sl} : (env.set i s).getD j .none = if i = j ∧ i < env.length then s else env.getD j .none := by
  rw [List.getD_eq_getElem?_getD, List.getD_eq_getElem?_getD, List.getElem?_set]
  by_cases h : i = j
  · subst h
    by_cases h2 : i < env.length
    · simp [h2]
    · rw [if_pos rfl, if_neg h2, if_neg (fun z => h2 z.2), List.getElem?_eq_none (by omega)]
  · simp [h]
theorem getD_ne {env : VEnv} {i : Nat} {s : Sl} (h : env.getD i .none = s) (n : s ≠ .none) : i < env.length := by
  rcases Nat.lt_or_ge i env.length with z | z
  · exact z
  · rw [List.getD_eq_getElem?_getD, List.getElem?_eq_none z] at h
    exact absurd h.symm n
section
variable {N N' : Addr → Prop} {F S F1 S1 F2 S2 : DS} {env env1 env2 : VEnv} {denv denv1 denv2 : DEnv}
/-- a slot is given a value -/
theorem go_val (h : St F S env denv) (hN : ∀ a, Av S env denv a → N a) {i : Nat} {v : V} {d : D} (r : VRel F v d) (e : setS env i (.val v) = some env1) : Go N F S env denv F S env1 (denv.set i (some d)) := by
  have hl := h.r.len
  unfold setS at e
  split at e
  · cases e
  rename_i nb
  cases e
  have ow : ∀ j b o, (env.set i (.val v)).getD j .none = .own b o → env.getD j .none = .own b o ∧ (denv.set i (some d))[j]? = denv[j]? := fun j b o q => by
    rw [getD_set] at q
    split at q
    · cases q
    · rename_i z
      refine ⟨q, ?_⟩
      have hj := getD_ne q (by intro z; cases z)
      rw [List.getElem?_set]
      split
      · rename_i z2
        subst z2
        exact absurd ⟨rfl, hj⟩ z
      · rfl
  refine ⟨⟨h.le, ⟨by rw [List.length_set, List.length_set]; exact hl, fun j w q => ?_, fun j b o q => ?_, fun j k a b b' o o' q1 q2 q3 q4 => ?_⟩⟩, DS.le.refl F, fun a z => ?_, fun a o e _ => e, fun j o q => ?_, by rw [List.length_set]⟩
  · rw [getD_set] at q
    split at q
    · rename_i z
      obtain ⟨rfl, hi⟩ := z
      cases q
      exact ⟨d, by rw [List.getElem?_set_self (by rw [← hl]; exact hi)], r⟩
    · rename_i z
      obtain ⟨d2, q1, q2⟩ := h.r.val j w q
      have hj := getD_ne q (by intro z; cases z)
      refine ⟨d2, ?_, q2⟩
      rw [List.getElem?_set]
      split
      · rename_i z2
        subst z2
        exact absurd ⟨rfl, hj⟩ z
      · exact q1
  · obtain ⟨q1, q2⟩ := ow j b o q
    rw [q2]
    exact h.r.own j b o q1
  · obtain ⟨a1, a2⟩ := ow j b o q1
    obtain ⟨b1, b2⟩ := ow k b' o' q2
    rw [a2] at q3
    rw [b2] at q4
    exact h.r.inj j k a b b' o o' a1 b1 q3 q4
  · rcases z with ⟨j, b, o, q1, q2⟩ | z
    · obtain ⟨a1, a2⟩ := ow j b o q1
      rw [a2] at q2
      exact .inl (hN a (.inl ⟨j, b, o, a1, q2⟩))
    · exact .inr z
  · obtain ⟨a1, a2⟩ := ow j true o q
    exact ⟨⟨o, a1⟩, a2⟩
/-- .. an object of its own -/
theorem go_own (h : St F S env denv) (hN : ∀ a, Av S env denv a → N a) {i : Nat} {o : VO} {a : Addr} {so : SO} (ea : S a = some so) (ro : VOR F o so) (nF : F a = none) (nO : ¬ OwnA env denv a) (na : N a) (e : setS env i (.own false o) = some env1) : Go N F S env denv F S env1 (denv.set i (some (.ref a))) := by
  have hl := h.r.len
  unfold setS at e
  split at e
  · cases e
  rename_i nb
  cases e
  have ow : ∀ j b o2, (env.set i (.own false o)).getD j .none = .own b o2 → (j = i ∧ b = false ∧ o2 = o ∧ (denv.set i (some (.ref a)))[j]? = some (some (.ref a))) ∨ (env.getD j .none = .own b o2 ∧ (denv.set i (some (.ref a)))[j]? = denv[j]?) := fun j b o2 q => by
    rw [getD_set] at q
    split at q
    · rename_i z
      obtain ⟨rfl, hi⟩ := z
      cases q
      exact .inl ⟨rfl, rfl, rfl, by rw [List.getElem?_set_self (by rw [← hl]; exact hi)]⟩
    · rename_i z
      refine .inr ⟨q, ?_⟩
      have hj := getD_ne q (by intro z; cases z)
      rw [List.getElem?_set]
      split
      · rename_i z2
        subst z2
        exact absurd ⟨rfl, hj⟩ z
      · rfl
  refine ⟨⟨h.le, ⟨by rw [List.length_set, List.length_set]; exact hl, fun j w q => ?_, fun j b o2 q => ?_, fun j k x b b' o1 o2 q1 q2 q3 q4 => ?_⟩⟩, DS.le.refl F, fun x z => ?_, fun a o e _ => e, fun j o2 q => ?_, by rw [List.length_set]⟩
  · rw [getD_set] at q
    split at q
    · cases q
    · rename_i z
      obtain ⟨d2, q1, q2⟩ := h.r.val j w q
      have hj := getD_ne q (by intro z; cases z)
      refine ⟨d2, ?_, q2⟩
      rw [List.getElem?_set]
      split
      · rename_i z2
        subst z2
        exact absurd ⟨rfl, hj⟩ z
      · exact q1
  · rcases ow j b o2 q with ⟨_, _, rfl, q2⟩ | ⟨q1, q2⟩
    · exact ⟨a, so, q2, ea, ro, nF⟩
    · rw [q2]
      exact h.r.own j b o2 q1
  · rcases ow j b o1 q1 with ⟨rfl, _, _, z1⟩ | ⟨a1, a2⟩
    · rcases ow k b' o2 q2 with ⟨rfl, _, _, z2⟩ | ⟨b1, b2⟩
      · rfl
      · rw [b2] at q4
        rw [z1] at q3
        cases q3
        exact absurd ⟨k, b', o2, b1, q4⟩ nO
    · rcases ow k b' o2 q2 with ⟨rfl, _, _, z2⟩ | ⟨b1, b2⟩
      · rw [a2] at q3
        rw [z2] at q4
        cases q4
        exact absurd ⟨j, b, o1, a1, q3⟩ nO
      · rw [a2] at q3
        rw [b2] at q4
        exact h.r.inj j k x b b' o1 o2 a1 b1 q3 q4
  · rcases z with ⟨j, b, o2, q1, q2⟩ | z
    · rcases ow j b o2 q1 with ⟨_, _, _, z1⟩ | ⟨a1, a2⟩
      · rw [z1] at q2
        cases q2
        exact .inl na
      · rw [a2] at q2
        exact .inl (hN x (.inl ⟨j, b, o2, a1, q2⟩))
    · exact .inr z
  · rcases ow j true o2 q with ⟨_, z, _⟩ | ⟨a1, a2⟩
    · cases z
    · exact ⟨⟨o2, a1⟩, a2⟩
/-- the object of a slot changes -/
theorem go_upd (h : St F S env denv) (hN : ∀ a, Av S env denv a → N a) {i : Nat} {b : Bool} {o o2 : VO} {a : Addr} {so2 : SO} (ei : env.getD i .none = .own b o) (ed : denv[i]? = some (some (.ref a))) (ro : VOR F o2 so2) :
    Go N F S env denv F (S.put a so2) (env.set i (.own b o2)) denv := by
  have hi := getD_ne ei (by intro z; cases z)
  obtain ⟨a', so, e3, ea, ro1, nF⟩ := h.r.own i b o ei
  rw [ed] at e3
  cases e3
  have ow : ∀ j c o3, (env.set i (.own b o2)).getD j .none = .own c o3 → (j = i ∧ c = b ∧ o3 = o2) ∨ (j ≠ i ∧ env.getD j .none = .own c o3) := fun j c o3 q => by
    rw [getD_set] at q
    split at q
    · rename_i z
      obtain ⟨rfl, _⟩ := z
      cases q
      exact .inl ⟨rfl, rfl, rfl⟩
    · rename_i z
      exact .inr ⟨fun z2 => z ⟨z2.symm, hi⟩, q⟩
  refine ⟨⟨fun x o e => ?_, ⟨by rw [List.length_set]; exact h.r.len, fun j w q => ?_, fun j c o3 q => ?_, fun j k x c c' o1 o3 q1 q2 q3 q4 => ?_⟩⟩, DS.le.refl F, fun x z => ?_, fun x o e z => ?_, fun j o3 q => ?_, by rw [List.length_set]⟩
  · have : x ≠ a := fun z => by rw [z, nF] at e; cases e
    rw [DS.put_ne this]
    exact h.le x o e
  · rw [getD_set] at q
    split at q
    · cases q
    · exact h.r.val j w q
  · rcases ow j c o3 q with ⟨rfl, rfl, rfl⟩ | ⟨nj, q⟩
    · exact ⟨a, so2, ed, DS.put_same, ro, nF⟩
    · obtain ⟨x, sx, h1, h2, h3, h4⟩ := h.r.own j c o3 q
      have : x ≠ a := fun z => by
        rw [z] at h1
        exact nj (h.r.inj j i a c b o3 o q ei h1 ed)
      exact ⟨x, sx, h1, by rw [DS.put_ne this]; exact h2, h3, h4⟩
  · have t : ∀ j c o3, (env.set i (.own b o2)).getD j .none = .own c o3 → ∃ o4, env.getD j .none = .own c o4 := fun j c o3 q => by
      rcases ow j c o3 q with ⟨rfl, rfl, rfl⟩ | ⟨_, q⟩
      · exact ⟨o, ei⟩
      · exact ⟨_, q⟩
    obtain ⟨_, t1⟩ := t j c o1 q1
    obtain ⟨_, t2⟩ := t k c' o3 q2
    exact h.r.inj j k x c c' _ _ t1 t2 q3 q4
  · rcases z with ⟨j, c, o3, q1, q2⟩ | z
    · rcases ow j c o3 q1 with ⟨rfl, rfl, rfl⟩ | ⟨_, q⟩
      · exact .inl (hN x (.inl ⟨j, c, o, ei, q2⟩))
      · exact .inl (hN x (.inl ⟨j, c, o3, q, q2⟩))
    · exact .inr z
  · have : x ≠ a := fun e => z (hN x (.inl ⟨i, b, _, ei, by rw [e]; exact ed⟩))
    rw [DS.put_ne this]
    exact e
  · rcases ow j true o3 q with ⟨rfl, z, rfl⟩ | ⟨_, q⟩
    · exact ⟨⟨o, by rw [ei, ← z]⟩, rfl⟩
    · exact ⟨⟨o3, q⟩, rfl⟩
/-- .. and is as it was -/
theorem set_self {i : Nat} {s : Sl} (e : env.getD i .none = s) : env.set i s = env := by
  refine List.ext_getElem? fun j => ?_
  rw [List.getElem?_set]
  split
  · rename_i h
    subst h
    rw [List.getD_eq_getElem?_getD] at e
    rcases Nat.lt_or_ge i env.length with z | z
    · rw [if_pos z, ← e, List.getElem?_eq_getElem z]
      rfl
    · rw [if_neg (by omega), List.getElem?_eq_none z]
  · rfl
/-- the object of a slot changes no more -/
theorem go_fix (h : St F S env denv) (hN : ∀ a, Av S env denv a → N a) {i : Nat} {b : Bool} {o : VO} {a : Addr} {so : SO} (ei : env.getD i .none = .own b o) (ed : denv[i]? = some (some (.ref a))) (ea : S a = some so) (s : Sl) (hs : s = .none ∨ s = .val o.v) :
    Go N F S env denv (F.put a so) S (env.set i s) denv ∧ VRel (F.put a so) o.v (.ref a) := by
  have hi := getD_ne ei (by intro z; cases z)
  obtain ⟨a', so', e3, ea', ro1, nF⟩ := h.r.own i b o ei
  rw [ed] at e3
  cases e3
  rw [ea] at ea'
  cases ea'
  have hle : DS.le F (F.put a so) := DS.le_put nF
  have rv : VRel (F.put a so) o.v (.ref a) := VO.rel (F := F.put a so) DS.put_same (VOR.mono hle ro1)
  have ow : ∀ j c o3, (env.set i s).getD j .none = .own c o3 → j ≠ i ∧ env.getD j .none = .own c o3 := fun j c o3 q => by
    rw [getD_set] at q
    split at q
    · rcases hs with z | z
      · rw [z] at q; cases q
      · rw [z] at q; cases q
    · rename_i z
      exact ⟨fun z2 => z ⟨z2.symm, hi⟩, q⟩
  refine ⟨⟨⟨fun x o e => ?_, ⟨by rw [List.length_set]; exact h.r.len, fun j w q => ?_, fun j c o3 q => ?_, fun j k x c c' o1 o3 q1 q2 q3 q4 => h.r.inj j k x c c' o1 o3 (ow j c o1 q1).2 (ow k c' o3 q2).2 q3 q4⟩⟩, hle, fun x z => ?_, fun x o e z => e, fun j o3 q => ⟨⟨o3, (ow j true o3 q).2⟩, rfl⟩, by rw [List.length_set]⟩, rv⟩
  · by_cases z : x = a
    · subst z
      rw [DS.put_same] at e
      cases e
      exact ea
    · rw [DS.put_ne z] at e
      exact h.le x o e
  · rw [getD_set] at q
    split at q
    · rename_i z
      obtain ⟨rfl, _⟩ := z
      rcases hs with z | z
      · rw [z] at q; cases q
      · rw [z] at q
        cases q
        exact ⟨.ref a, ed, rv⟩
    · obtain ⟨d, q1, q2⟩ := h.r.val j w q
      exact ⟨d, q1, VRel.mono hle _ _ q2⟩
  · obtain ⟨nj, q⟩ := ow j c o3 q
    obtain ⟨x, sx, h1, h2, h3, h4⟩ := h.r.own j c o3 q
    have : x ≠ a := fun z => by
      rw [z] at h1
      exact nj (h.r.inj j i a c b o3 o q ei h1 ed)
    exact ⟨x, sx, h1, h2, VOR.mono hle h3, by rw [DS.put_ne this]; exact h4⟩
  · rcases z with ⟨j, c, o3, q1, q2⟩ | z
    · exact .inl (hN x (.inl ⟨j, c, o3, (ow j c o3 q1).2, q2⟩))
    · by_cases e : x = a
      · subst e
        exact .inl (hN x (.inl ⟨i, b, o, ei, ed⟩))
      · rw [DS.put_ne e] at z
        exact .inr z
/-- a new object of nobody's changes no more -/
theorem go_pend (h : St F S env denv) (hN : ∀ a, Av S env denv a → N a) {a : Addr} {so : SO} (ea : S a = some so) (nF : F a = none) (nO : ¬ OwnA env denv a) (na : N a) : Go N F S env denv (F.put a so) S env denv := by
  have hle : DS.le F (F.put a so) := DS.le_put nF
  refine ⟨⟨fun x o e => ?_, h.r.mono hle (fun x sx z e => e) fun x z => ?_⟩, hle, fun x z => ?_, fun x o e z => e, fun j o3 q => ⟨⟨o3, q⟩, rfl⟩, rfl⟩
  · by_cases z : x = a
    · subst z
      rw [DS.put_same] at e
      cases e
      exact ea
    · rw [DS.put_ne z] at e
      exact h.le x o e
  · have : x ≠ a := fun e => nO (e ▸ z)
    rw [DS.put_ne this]
    exact (z.some h).elim fun _ q => q.2
  · rcases z with z | z
    · exact .inl (hN x (.inl z))
    · by_cases e : x = a
      · subst e
        exact .inl na
      · rw [DS.put_ne e] at z
        exact .inr z
/-- an answer that is there, as it is wanted -/
theorem pend_ok {m : Md} {r : Rv} {d : D} {Q : QD} {E : QE} (h : St F S env denv) (hN : ∀ a, Av S env denv a → N a) (hr : ∀ i, r ≠ .sl i) (rr : RR N F S env denv r d) (p : Post N (RRel denv) F S env denv (.ok (ownR m r) env) Q E) : Q d S := by
  cases r with
  | v v => exact p.now h hN d rr
  | own o =>
    unfold ownR at p
    dsimp only at p
    split at p
    · exact p.now h hN d rr
    · obtain ⟨a, so, rfl, h2, h3, h4, h5, h6⟩ := rr
      exact p (F.put a so) S (.ref a) (go_pend h hN h2 h4 h5 h6) (VO.rel (F := F.put a so) DS.put_same (VOR.mono (DS.le_put h4) h3))
  | sl i => exact absurd rfl (hr i)
/-- a variable -/
theorem var_ok {m : Md} {i : Nat} {Q : QD} {E : QE} (h : St F S env denv) (hN : ∀ a, Av S env denv a → N a) (p : Post N (RRel denv) F S env denv (varR m i env) Q E) : slotW denv i fun d => Q d S := by
  unfold varR at p
  split at p
  · rename_i v e
    obtain ⟨d, h1, h2⟩ := h.r.val i v e
    unfold slotW
    rw [h1]
    exact p.now h hN d h2
  · rename_i b o e
    obtain ⟨a, so, h1, h2, h3, h4⟩ := h.r.own i b o e
    unfold slotW
    rw [h1]
    have nO : ¬ OwnA (env.set i .none) denv a := fun z => by
      obtain ⟨j, c, o3, q1, q2⟩ := z
      rw [getD_set] at q1
      split at q1
      · cases q1
      · rename_i z
        have := h.r.inj j i a c b o3 o q1 e q2 h1
        exact z ⟨this.symm, getD_ne e (by intro z; cases z)⟩
    have na : N a := hN a (.inl ⟨i, b, o, e, h1⟩)
    have fix : b ≠ true → Post N (RRel denv) F S env denv (.ok (.v o.v) (env.set i (.val o.v))) Q E → Q (.ref a) S := fun _ p => by
      obtain ⟨g, r⟩ := go_fix h hN e h1 h2 (.val o.v) (.inr rfl)
      exact p _ _ _ g r
    cases m with
    | pk => exact p.now h hN (.ref a) h1
    | mv =>
      dsimp only at p
      split at p
      · exact p.elim
      · refine p F S (.ref a) ⟨⟨h.le, ⟨by rw [List.length_set]; exact h.r.len, fun j w q => ?_, fun j c o3 q => ?_, fun j k x c c' o1 o3 q1 q2 q3 q4 => ?_⟩⟩, DS.le.refl F, fun x z => ?_, fun x o e z => e, fun j o3 q => ?_, by rw [List.length_set]⟩ ⟨a, so, rfl, h2, h3, h4, nO, na⟩
        · rw [getD_set] at q
          split at q
          · cases q
          · exact h.r.val j w q
        · rw [getD_set] at q
          split at q
          · cases q
          · exact h.r.own j c o3 q
        · rw [getD_set] at q1 q2
          split at q1
          · cases q1
          · split at q2
            · cases q2
            · exact h.r.inj j k x c c' o1 o3 q1 q2 q3 q4
        · rcases z with ⟨j, c, o3, q1, q2⟩ | z
          · rw [getD_set] at q1
            split at q1
            · cases q1
            · exact .inl (hN x (.inl ⟨j, c, o3, q1, q2⟩))
          · exact .inr z
        · rw [getD_set] at q
          split at q
          · cases q
          · exact ⟨⟨o3, q⟩, rfl⟩
    | fz =>
      dsimp only at p
      split at p
      · exact p.elim
      · rename_i hb
        exact fix hb p
    | as =>
      dsimp only at p
      split at p
      · exact p.elim
      · rename_i hb
        exact fix hb p
  · exact p.elim

/-! ### calls -/
/-- arguments as they lie -/
def AR (F : DS) (denv : DEnv) : Rv → D → Prop
  | .v v, d => VRel F v d
  | .own _, _ => False
  | .sl i, d => denv[i]? = some (some d)
def ARs (F : DS) (denv : DEnv) : List Rv → List D → Prop
  | [], ds => ds = []
  | r :: rs, ds => ∃ d es, ds = d :: es ∧ AR F denv r d ∧ ARs F denv rs es
theorem AR.mono (h : DS.le F F1) {r : Rv} {d : D} (a : AR F denv r d) : AR F1 denv r d := by
  cases r with
  | v v => exact VRel.mono h _ _ a
  | own o => exact a
  | sl i => exact a
theorem ARs.mono (h : DS.le F F1) : ∀ {rs : List Rv} {ds : List D}, ARs F denv rs ds → ARs F1 denv rs ds
  | [], ds, a => a
  | r :: rs, ds, a => by
    obtain ⟨d, es, e, a1, a2⟩ := a
    exact ⟨d, es, e, a1.mono h, ARs.mono h a2⟩
theorem derefs_ok (h : St F S env denv) : ∀ {rs : List Rv} {ds : List D} {vs : List V}, ARs F denv rs ds → derefs env rs = some vs → PRels F S vs ds
  | [], ds, vs, a, e => by
    cases e
    exact a
  | r :: rs, ds, vs, a, e => by
    obtain ⟨d, es, rfl, a1, a2⟩ := a
    unfold derefs at e
    split at e
    · rename_i v ws e1 e2
      cases e
      have rr : RR (fun _ => True) F S env denv r d := by
        cases r with
        | v v => exact a1
        | own o => exact a1.elim
        | sl i => exact a1
      exact ⟨d, es, rfl, rr.deref h e1, derefs_ok h a2 e2⟩
    · cases e
def setOuts : List Sl → List VO → List Sl
  | .own b _ :: r, o :: os => .own b o :: setOuts r os
  | s :: r, os => s :: setOuts r os
  | [], _ => []
/-- what a call is known to do -/
def PostC (F S : DS) (args : List Sl) (ds : List D) (cr : CR) (Q : QD) (E : QE) : Prop := match cr with
  | .ok r outs => ∀ F' S' d, Go (Av S args (ds.map some)) F S args (ds.map some) F' S' (setOuts args outs) (ds.map some) → RR (Av S args (ds.map some)) F' S' (setOuts args outs) (ds.map some) r d → (∀ i, r ≠ .sl i) → Q d S'
  | .exc c fs outs => ∀ F' S' es, Go (Av S args (ds.map some)) F S args (ds.map some) F' S' (setOuts args outs) (ds.map some) → VRels F' fs es → E ⟨c, es⟩ S'
  | .bad => False
def CallOk (call : Nat → List Sl → CR) (callD : Nat → List D → DS → QD → QE → Prop) : Prop :=
  ∀ f args ds F S Q E, St F S args (ds.map some) → (∀ i b o, args.getD i .none = .own b o → b = true) → PostC F S args ds (call f args) Q E → callD f ds S Q E
theorem getD_cons {s : Sl} {i : Nat} : (s :: env).getD (i + 1) .none = env.getD i .none := by simp [List.getD_eq_getElem?_getD]
theorem st_consV (h : St F S env denv) {v : V} {d : D} (r : VRel F v d) : St F S (.val v :: env) (some d :: denv) := by
  refine ⟨h.le, ⟨by rw [List.length_cons, List.length_cons, h.r.len], fun i w e => ?_, fun i b o e => ?_, fun i j a b b' o o' e1 e2 e3 e4 => ?_⟩⟩
  · cases i with
    | zero => cases e; exact ⟨d, rfl, r⟩
    | succ i => rw [getD_cons] at e; simpa using h.r.val i w e
  · cases i with
    | zero => cases e
    | succ i => rw [getD_cons] at e; simpa using h.r.own i b o e
  · cases i with
    | zero => cases e1
    | succ i =>
      cases j with
      | zero => cases e2
      | succ j =>
        rw [getD_cons] at e1 e2
        rw [h.r.inj i j a b b' o o' e1 e2 (by simpa using e3) (by simpa using e4)]
theorem st_consO (h : St F S env denv) {b : Bool} {o : VO} {a : Addr} {so : SO} (ea : S a = some so) (ro : VOR F o so) (nF : F a = none) (nO : ¬ OwnA env denv a) : St F S (.own b o :: env) (some (.ref a) :: denv) := by
  refine ⟨h.le, ⟨by rw [List.length_cons, List.length_cons, h.r.len], fun i w e => ?_, fun i b o e => ?_, fun i j x b b' o o' e1 e2 e3 e4 => ?_⟩⟩
  · cases i with
    | zero => cases e
    | succ i => rw [getD_cons] at e; simpa using h.r.val i w e
  · cases i with
    | zero => cases e; exact ⟨a, so, rfl, ea, ro, nF⟩
    | succ i => rw [getD_cons] at e; simpa using h.r.own i b o e
  · cases i with
    | zero =>
      cases j with
      | zero => rfl
      | succ j =>
        rw [getD_cons] at e2
        cases e3
        exact absurd ⟨j, b', o', e2, by simpa using e4⟩ nO
    | succ i =>
      cases j with
      | zero =>
        rw [getD_cons] at e1
        cases e4
        exact absurd ⟨i, b, o, e1, by simpa using e3⟩ nO
      | succ j =>
        rw [getD_cons] at e1 e2
        rw [h.r.inj i j x b b' o o' e1 e2 (by simpa using e3) (by simpa using e4)]
theorem ownA_cons {s : Sl} {d : Option D} {a : Addr} : OwnA (s :: env) (d :: denv) a ↔ (∃ b o, s = .own b o ∧ d = some (.ref a)) ∨ OwnA env denv a := by
  constructor
  · rintro ⟨i, b, o, e1, e2⟩
    cases i with
    | zero => exact .inl ⟨b, o, e1, by simpa using e2⟩
    | succ i => exact .inr ⟨i, b, o, by rw [getD_cons] at e1; exact e1, by simpa using e2⟩
  · rintro (⟨b, o, rfl, rfl⟩ | ⟨i, b, o, e1, e2⟩)
    · exact ⟨0, b, o, rfl, rfl⟩
    · exact ⟨i + 1, b, o, by rw [getD_cons]; exact e1, by simpa using e2⟩
/-- the arguments of a call, as its slots -/
theorem args_ok (h : St F S env denv) : ∀ {rs : List Rv} {ds : List D} {args : List Sl}, ARs F denv rs ds → (slsOf rs).Nodup → mkArgs env rs = some args →
    St F S args (ds.map some) ∧ (∀ i b o, args.getD i .none = .own b o → b = true) ∧ ∀ a, OwnA args (ds.map some) a → ∃ i ∈ slsOf rs, ∃ b o, env.getD i .none = .own b o ∧ denv[i]? = some (some (.ref a))
  | [], ds, args, a, nd, e => by
    cases e
    rw [show ds = [] from a]
    exact ⟨⟨h.le, ⟨rfl, fun i v e => by simp at e, fun i b o e => by simp at e, fun i j a b b' o o' e => by simp at e⟩⟩, fun i b o e => by simp at e, fun a ⟨i, b, o, e, _⟩ => by simp at e⟩
  | .v v :: rs, ds, args, a, nd, e => by
    obtain ⟨d, es, rfl, a1, a2⟩ := a
    unfold mkArgs at e
    cases e1 : mkArgs env rs with
    | none => rw [e1] at e; cases e
    | some args2 =>
      rw [e1] at e
      cases e
      obtain ⟨i1, i2, i3⟩ := args_ok h a2 nd e1
      refine ⟨st_consV i1 a1, fun i b o e => ?_, fun x z => ?_⟩
      · cases i with
        | zero => cases e
        | succ i => rw [getD_cons] at e; exact i2 i b o e
      · rcases ownA_cons.mp z with ⟨b, o, z, _⟩ | z
        · cases z
        · exact i3 x z
  | .sl k :: rs, ds, args, a, nd, e => by
    obtain ⟨d, es, rfl, a1, a2⟩ := a
    unfold mkArgs at e
    split at e
    · rename_i b o eo
      cases e1 : mkArgs env rs with
      | none => rw [e1] at e; cases e
      | some args2 =>
        rw [e1] at e
        cases e
        have nd2 : k ∉ slsOf rs ∧ (slsOf rs).Nodup := List.nodup_cons.mp nd
        obtain ⟨i1, i2, i3⟩ := args_ok h a2 nd2.2 e1
        obtain ⟨x, so, h1, h2, h3, h4⟩ := h.r.own k b o eo
        have a1 : denv[k]? = _ := a1
        rw [h1] at a1
        cases a1
        have nO : ¬ OwnA args2 (es.map some) x := fun z => by
          obtain ⟨i, hi, b', o', q1, q2⟩ := i3 x z
          exact nd2.1 (h.r.inj i k x b' b o' o q1 eo q2 h1 ▸ hi)
        refine ⟨st_consO i1 h2 h3 h4 nO, fun i b o e => ?_, fun y z => ?_⟩
        · cases i with
          | zero => cases e; rfl
          | succ i => rw [getD_cons] at e; exact i2 i b o e
        · rcases ownA_cons.mp z with ⟨_, _, _, z⟩ | z
          · cases z
            exact ⟨k, List.mem_cons_self .., b, o, eo, h1⟩
          · obtain ⟨i, hi, q⟩ := i3 y z
            exact ⟨i, List.mem_cons_of_mem _ hi, q⟩
    · cases e
  | .own o :: rs, ds, args, a, nd, e => by
    cases e
/-- the caller's slots behind a call -/
theorem putOuts_get : ∀ {is : List Nat} {os : List VO} {env : VEnv} {k : Nat}, (∀ v, (putOuts env is os).getD k .none = .val v ↔ env.getD k .none = .val v) ∧ (∀ b o, (putOuts env is os).getD k .none = .own b o → ∃ o0, env.getD k .none = .own b o0 ∧ (k ∉ is → o = o0)) ∧ (putOuts env is os).length = env.length
  | [], os, env, k => by
    unfold putOuts
    exact ⟨fun v => Iff.rfl, fun b o e => ⟨o, e, fun _ => rfl⟩, rfl⟩
  | i :: is, [], env, k => by
    unfold putOuts
    exact ⟨fun v => Iff.rfl, fun b o e => ⟨o, e, fun _ => rfl⟩, rfl⟩
  | i :: is, o :: os, env, k => by
    unfold putOuts
    split
    · rename_i b o0 e0
      have hi := getD_ne e0 (by intro z; cases z)
      obtain ⟨i1, i2, i3⟩ := putOuts_get (is := is) (os := os) (env := env.set i (.own b o)) (k := k)
      refine ⟨fun v => ?_, fun c o1 e => ?_, by rw [i3, List.length_set]⟩
      · rw [i1 v, getD_set]
        split
        · rename_i z
          rw [← z.1, e0]
          constructor <;> intro z <;> cases z
        · exact Iff.rfl
      · obtain ⟨o2, e2, h2⟩ := i2 c o1 e
        rw [getD_set] at e2
        split at e2
        · rename_i z
          cases e2
          exact ⟨o0, by rw [← z.1]; exact e0, fun n => absurd (List.mem_cons.mpr (.inl z.1.symm)) n⟩
        · exact ⟨o2, e2, fun n => h2 fun z => n (List.mem_cons_of_mem _ z)⟩
    · obtain ⟨i1, i2, i3⟩ := putOuts_get (is := is) (os := os) (env := env) (k := k)
      exact ⟨i1, fun c o1 e => by
        obtain ⟨o2, e2, h2⟩ := i2 c o1 e
        exact ⟨o2, e2, fun n => h2 fun z => n (List.mem_cons_of_mem _ z)⟩, i3⟩
theorem putOuts_own : ∀ {is : List Nat} {os : List VO} {env : VEnv} {k : Nat} {b : Bool} {o : VO}, env.getD k .none = .own b o → ∃ o1, (putOuts env is os).getD k .none = .own b o1
  | [], os, env, k, b, o, e => by
    unfold putOuts
    exact ⟨o, e⟩
  | i :: is, [], env, k, b, o, e => by
    unfold putOuts
    exact ⟨o, e⟩
  | i :: is, o2 :: os, env, k, b, o, e => by
    unfold putOuts
    split
    · rename_i b0 o0 e0
      by_cases z : i = k
      · subst z
        rw [e] at e0
        cases e0
        exact putOuts_own (o := o2) (by rw [getD_set, if_pos ⟨rfl, getD_ne e (by intro z; cases z)⟩])
      · exact putOuts_own (o := o) (by rw [getD_set, if_neg (fun z2 => z z2.1)]; exact e)
    · exact putOuts_own e
theorem mkArgs_set {k : Nat} {s : Sl} : ∀ {rs : List Rv}, k ∉ slsOf rs → mkArgs (env.set k s) rs = mkArgs env rs
  | [], _ => rfl
  | .v v :: rs, h => by
    unfold mkArgs
    rw [mkArgs_set (rs := rs) h]
  | .sl i :: rs, h => by
    have h2 : k ≠ i ∧ k ∉ slsOf rs := ⟨fun z => h (z ▸ List.mem_cons_self ..), fun z => h (List.mem_cons_of_mem _ z)⟩
    unfold mkArgs
    rw [getD_set, if_neg (fun z => h2.1 z.1), mkArgs_set h2.2]
  | .own o :: rs, h => rfl
theorem setOuts_val {v : V} {r : List Sl} {os : List VO} : setOuts (.val v :: r) os = .val v :: setOuts r os := by cases os <;> rfl
theorem setOuts_nil : ∀ args : List Sl, setOuts args [] = args
  | [] => rfl
  | .none :: r => by unfold setOuts; rw [setOuts_nil r]
  | .val v :: r => by unfold setOuts; rw [setOuts_nil r]
  | .own b o :: r => by unfold setOuts; rw [setOuts_nil r]
theorem outs_at : ∀ {rs : List Rv} {ds : List D} {args : List Sl} {outs : List VO} {env : VEnv} {k : Nat} {b : Bool} {o : VO}, ARs F denv rs ds → (slsOf rs).Nodup → mkArgs env rs = some args → k ∈ slsOf rs → (putOuts env (slsOf rs) outs).getD k .none = .own b o →
    ∃ p, (setOuts args outs).getD p .none = .own true o ∧ (ds.map some)[p]? = denv[k]?
  | [], ds, args, outs, env, k, b, o, a, nd, e, hk, eo => by cases hk
  | .v v :: rs, ds, args, outs, env, k, b, o, a, nd, e, hk, eo => by
    obtain ⟨d, es, rfl, a1, a2⟩ := a
    unfold mkArgs at e
    cases e1 : mkArgs env rs with
    | none => rw [e1] at e; cases e
    | some args2 =>
      rw [e1] at e
      cases e
      obtain ⟨p, p1, p2⟩ := outs_at a2 nd e1 hk eo
      exact ⟨p + 1, by rw [setOuts_val, getD_cons]; exact p1, by simpa using p2⟩
  | .sl i :: rs, ds, args, [], env, k, b, o, a, nd, e, hk, eo => by
    obtain ⟨d, es, rfl, a1, a2⟩ := a
    rw [setOuts_nil]
    replace eo : env.getD k .none = .own b o := eo
    unfold mkArgs at e
    split at e
    · rename_i b0 o0 e0
      cases e1 : mkArgs env rs with
      | none => rw [e1] at e; cases e
      | some args2 =>
        rw [e1] at e
        cases e
        have nd2 : i ∉ slsOf rs ∧ (slsOf rs).Nodup := List.nodup_cons.mp nd
        rcases List.mem_cons.mp hk with z | z
        · subst z
          rw [eo] at e0
          cases e0
          exact ⟨0, rfl, a1.symm⟩
        · obtain ⟨p, p1, p2⟩ := outs_at (outs := []) a2 nd2.2 e1 z (by
            rw [show putOuts env (slsOf rs) [] = env by cases h : slsOf rs <;> (unfold putOuts; rfl)]
            exact eo)
          rw [setOuts_nil] at p1
          exact ⟨p + 1, by rw [getD_cons]; exact p1, by simpa using p2⟩
    · cases e
  | .sl i :: rs, ds, args, o1 :: outs, env, k, b, o, a, nd, e, hk, eo => by
    obtain ⟨d, es, rfl, a1, a2⟩ := a
    unfold mkArgs at e
    split at e
    · rename_i b0 o0 e0
      cases e1 : mkArgs env rs with
      | none => rw [e1] at e; cases e
      | some args2 =>
        rw [e1] at e
        cases e
        have nd2 : i ∉ slsOf rs ∧ (slsOf rs).Nodup := List.nodup_cons.mp nd
        have es0 : setOuts (.own true o0 :: args2) (o1 :: outs) = .own true o1 :: setOuts args2 outs := rfl
        have eo : (putOuts (env.set i (.own b0 o1)) (slsOf rs) outs).getD k .none = .own b o := by
          have z : putOuts env (slsOf (.sl i :: rs)) (o1 :: outs) = putOuts (env.set i (.own b0 o1)) (slsOf rs) outs := by
            show putOuts env (i :: slsOf rs) (o1 :: outs) = _
            unfold putOuts
            rw [e0]
            cases outs <;> cases slsOf rs <;> rfl
          rw [z] at eo
          exact eo
        rw [es0]
        rcases List.mem_cons.mp hk with z | z
        · subst z
          obtain ⟨o2, q1, q2⟩ := (putOuts_get (k := k)).2.1 b o eo
          rw [getD_set, if_pos ⟨rfl, getD_ne e0 (by intro z; cases z)⟩] at q1
          cases q1
          have q3 := q2 nd2.1
          subst q3
          exact ⟨0, rfl, a1.symm⟩
        · obtain ⟨p, p1, p2⟩ := outs_at (env := env.set i (.own b0 o1)) a2 nd2.2 (by rw [mkArgs_set nd2.1]; exact e1) z eo
          exact ⟨p + 1, by rw [getD_cons]; exact p1, by simpa using p2⟩
    · cases e
  | .own o :: rs, ds, args, outs, env, k, b, _, a, nd, e, hk, eo => by cases e
theorem setOuts_own : ∀ {args : List Sl} {outs : List VO} {p : Nat} {b : Bool} {o : VO}, args.getD p .none = .own b o → ∃ o1, (setOuts args outs).getD p .none = .own b o1
  | [], outs, p, b, o, e => by simp at e
  | s :: args, outs, 0, b, o, e => by
    cases e
    cases outs with
    | nil => exact ⟨o, by rw [setOuts_nil]; rfl⟩
    | cons o1 outs => exact ⟨o1, rfl⟩
  | s :: args, outs, p + 1, b, o, e => by
    rw [getD_cons] at e
    have z : ∀ outs2 s2, (∃ o1, (s2 :: setOuts args outs2).getD (p + 1) .none = .own b o1) := fun outs2 s2 => by
      obtain ⟨o1, e1⟩ := setOuts_own (outs := outs2) e
      exact ⟨o1, by rw [getD_cons]; exact e1⟩
    cases s with
    | none => exact (by unfold setOuts; exact z _ _)
    | val v => exact (by unfold setOuts; exact z _ _)
    | own c o2 =>
      cases outs with
      | nil => exact (by unfold setOuts; exact z _ _)
      | cons o1 outs => exact (by unfold setOuts; exact z _ _)
/-- behind a call -/
theorem go_call (h : St F S env denv) (hN : ∀ a, Av S env denv a → N a) {rs : List Rv} {ds : List D} {args : List Sl} {outs : List VO} (ha : ARs F denv rs ds) (nd : (slsOf rs).Nodup) (e : mkArgs env rs = some args)
    (g : Go (Av S args (ds.map some)) F S args (ds.map some) F1 S1 (setOuts args outs) (ds.map some)) : Go N F S env denv F1 S1 (putOuts env (slsOf rs) outs) denv ∧
      ∀ r d, RR (Av S args (ds.map some)) F1 S1 (setOuts args outs) (ds.map some) r d → (∀ i, r ≠ .sl i) → RR N F1 S1 (putOuts env (slsOf rs) outs) denv r d := by
  obtain ⟨i1, i2, i3⟩ := args_ok h ha nd e
  have oa : ∀ a, OwnA args (ds.map some) a → OwnA env denv a := fun a z => by
    obtain ⟨i, _, b, o, q1, q2⟩ := i3 a z
    exact ⟨i, b, o, q1, q2⟩
  have av : ∀ a, Av S args (ds.map some) a → N a := fun a z => hN a (z.imp (oa a) id)
  have pg : ∀ k, _ := fun k => putOuts_get (is := slsOf rs) (os := outs) (env := env) (k := k)
  have ob : ∀ a, OwnA (putOuts env (slsOf rs) outs) denv a → OwnA env denv a := fun a ⟨k, b, o, q1, q2⟩ => by
    obtain ⟨o0, e0, _⟩ := (pg k).2.1 b o q1
    exact ⟨k, b, o0, e0, q2⟩
  refine ⟨⟨⟨g.st.le, ⟨by rw [(pg 0).2.2]; exact h.r.len, fun i v q => ?_, fun i b o q => ?_, fun i j a b b' o o' q1 q2 q3 q4 => ?_⟩⟩, g.le, fun a z => ?_, fun a o q z => g.fr a o q fun z2 => z (av a z2), fun i o q => ?_, (pg 0).2.2⟩, fun r d rr hr => ?_⟩
  · obtain ⟨d, q1, q2⟩ := h.r.val i v (((pg i).1 v).mp q)
    exact ⟨d, q1, VRel.mono g.le _ _ q2⟩
  · obtain ⟨o0, e0, h0⟩ := (pg i).2.1 b o q
    obtain ⟨a, so, h1, h2, h3, h4⟩ := h.r.own i b o0 e0
    by_cases hk : i ∈ slsOf rs
    · obtain ⟨p, p1, p2⟩ := outs_at ha nd e hk q
      obtain ⟨a', so', h1', h2', h3', h4'⟩ := g.st.r.own p true o p1
      rw [p2, h1] at h1'
      cases h1'
      exact ⟨a, so', h1, h2', h3', h4'⟩
    · have ho := h0 hk
      subst ho
      have nA : ¬ Av S args (ds.map some) a := fun z => by
        rcases z with z | z
        · obtain ⟨j, hj, b', o', q1, q2⟩ := i3 a z
          exact hk (h.r.inj j i a b' b o' o q1 e0 q2 h1 ▸ hj)
        · rw [h2] at z; cases z
      refine ⟨a, so, h1, g.fr a so h2 nA, VOR.mono g.le h3, ?_⟩
      cases q2 : F1 a with
      | none => rfl
      | some u =>
        rcases g.nw a (.inr (by rw [q2]; exact fun z => nomatch z)) with z | z
        · exact absurd z nA
        · exact absurd h4 z
  · obtain ⟨o0, e0, _⟩ := (pg i).2.1 b o q1
    obtain ⟨o1, e1, _⟩ := (pg j).2.1 b' o' q2
    exact h.r.inj i j a b b' o0 o1 e0 e1 q3 q4
  · rcases z with z | z
    · exact .inl (hN a (.inl (ob a z)))
    · exact (g.nw a (.inr z)).imp (av a) id
  · obtain ⟨o0, e0, _⟩ := (pg i).2.1 true o q
    exact ⟨⟨o0, e0⟩, rfl⟩
  · cases r with
    | v v => exact rr
    | sl i => exact absurd rfl (hr i)
    | own o =>
      obtain ⟨a, so, rfl, h2, h3, h4, h5, h6⟩ := rr
      refine ⟨a, so, rfl, h2, h3, h4, fun z => ?_, av a h6⟩
      obtain ⟨su, h7, _⟩ := (ob a z).some h
      rcases h6 with ⟨p, b, o2, q1, q2⟩ | h6
      · obtain ⟨o1, e1⟩ := setOuts_own (outs := outs) q1
        exact h5 ⟨p, b, o1, e1, q2⟩
      · rw [h7] at h6
        cases h6
/-- a call -/
theorem call_ok {m : Md} {f : Nat} {call : Nat → List Sl → CR} {callD : Nat → List D → DS → QD → QE → Prop} {rs : List Rv} {ds : List D} {Q : QD} {E : QE} (hc : CallOk call callD) (h : St F S env denv) (hN : ∀ a, Av S env denv a → N a) (ha : ARs F denv rs ds)
    (p : Post N (RRel denv) F S env denv (callA m (call f) rs env) Q E) : callD f ds S Q E := by
  unfold callA at p
  split at p
  · rename_i nd
    split at p
    · rename_i args e
      obtain ⟨i1, i2, i3⟩ := args_ok h ha nd e
      refine hc f args ds F S Q E i1 i2 ?_
      unfold callR at p
      cases ec : call f args with
      | ok r outs =>
        rw [ec] at p
        intro F1 S1 d g rr hr
        obtain ⟨g1, r1⟩ := go_call h hN ha nd e g
        have p : Post N (RRel denv) F S env denv (.ok (ownR m r) (putOuts env (slsOf rs) outs)) Q E := by
          cases r with
          | sl i => exact absurd rfl (hr i)
          | v v => exact p
          | own o => exact p
        refine pend_ok (m := m) (E := E) g1.st (g1.av hN) hr (r1 r d rr hr) ?_
        intro F2 S2 d2 g2 rr2
        exact p F2 S2 d2 (g1.trans g2) rr2
      | exc c fs outs =>
        rw [ec] at p
        intro F1 S1 es g rr
        exact p F1 S1 es (go_call h hN ha nd e g).1 rr
      | bad =>
        rw [ec] at p
        exact p.elim
    · exact p.elim
  · exact p.elim
end
end PV
end
section
set_option Elab.async false
set_option linter.all false
set_option maxRecDepth 100000
set_option maxHeartbeats 2000000
/-! PyV, part E: what the functions tell of an expression the core language's wants say too. -/
namespace PV
open PySem PD
/-- what is known of what a body calls -/
structure GOk (G : GV) (GD : GG) : Prop where
  gl : ∀ g v, G.gl g = some v → ∃ p, GD.gl[g]? = some p ∧ ∀ F, VRel F v p.2
  call : CallOk G.call GD.call
  low : CallOk G.low GD.low
  told : G.told = GD.told
/-- the same but for some slots -/
def Agr (sl : List Nat) (denv denv' : DEnv) : Prop := ∀ i, i ∉ sl → denv'[i]? = denv[i]?
theorem Agr.refl {sl : List Nat} {denv : DEnv} : Agr sl denv denv := fun _ _ => rfl
theorem Agr.trans {sl : List Nat} {d1 d2 d3 : DEnv} (a : Agr sl d1 d2) (b : Agr sl d2 d3) : Agr sl d1 d3 := fun i h => (b i h).trans (a i h)
theorem Agr.up {sl sl2 : List Nat} {d1 d2 : DEnv} (a : Agr sl d1 d2) (h : ∀ i, i ∈ sl → i ∈ sl2) : Agr sl2 d1 d2 := fun i n => a i fun z => n (h i z)
def PostT (N : Addr → Prop) (sl : List Nat) (F S : DS) (env : VEnv) (denv : DEnv) (r : Res Unit) (Q : DEnv → DS → Prop) (E : QE) : Prop := match r with
  | .ok _ env' => ∀ F' S' denv', Go N F S env denv F' S' env' denv' → Agr sl denv denv' → Q denv' S'
  | .exc c fs env' => ∀ F' S' denv' ds, Go N F S env denv F' S' env' denv' → VRels F' fs ds → E ⟨c, ds⟩ S'
  | .bad => False
section
variable {N N' : Addr → Prop} {Fg F S F1 S1 F2 S2 : DS} {env env1 env2 : VEnv} {denv denv1 denv2 : DEnv}
theorem asz {r : Rv} {d : D} (h : ∀ o, r ≠ .own o) (rr : RR N F S env denv r d) : AR F denv r d := by
  cases r with
  | v v => exact rr
  | own o => exact absurd rfl (h o)
  | sl i => exact rr
theorem int_of {x : D} {v : V} {i : Int} (r : PRel F S v x) (e : v = .int i) : x = .int i := by subst e; exact r.int

def ARl (denv : DEnv) : (Addr → Prop) → DS → DS → VEnv → List Rv → List D → Prop := fun _ F _ _ rs ds => ARs F denv rs ds
def WRl : (Addr → Prop) → DS → DS → VEnv → List V → List D × Gd → Prop := fun _ F _ _ vs p => VRels F vs p.1 ∧ GdF p.2 F
/-- rvalues as they lie, the new ones apart -/
def RRs (N : Addr → Prop) (F S : DS) (env : VEnv) (denv : DEnv) : List Rv → List D → Prop
  | [], ds => ds = []
  | r :: rs, ds => ∃ d es, ds = d :: es ∧ RR N F S env denv r d ∧ RRs N F S env denv rs es ∧ ∀ (o : VO) (a : Addr), r = Rv.own o → d = D.ref a → ∀ (i : Nat) (o' : VO), rs[i]? = some (Rv.own o') → es[i]? ≠ some (D.ref a)
def RRl (denv : DEnv) : (Addr → Prop) → DS → DS → VEnv → List Rv → List D → Prop := fun N F S env rs ds => RRs N F S env denv rs ds
theorem RRs.up (hN : ∀ a, N' a → N a) : ∀ {rs : List Rv} {ds : List D}, RRs N' F S env denv rs ds → RRs N F S env denv rs ds
  | [], ds, h => h
  | r :: rs, ds, h => by
    obtain ⟨d, es, e, h1, h2, h3⟩ := h
    exact ⟨d, es, e, h1.up hN, RRs.up hN h2, h3⟩
theorem RRs.get {rs : List Rv} {ds : List D} : RRs N F S env denv rs ds → ∀ {i : Nat} {r : Rv}, rs[i]? = some r → ∃ d, ds[i]? = some d ∧ RR N F S env denv r d := by
  induction rs generalizing ds with
  | nil => intro _ i r e; simp at e
  | cons r rs ih =>
    rintro ⟨d, es, rfl, h1, h2, _⟩ i q e
    cases i with
    | zero => cases e; exact ⟨d, rfl, h1⟩
    | succ i => simpa using ih h2 (by simpa using e)
theorem PostT.bind {sl : List Nat} {α β : Type} {Rel1 : (Addr → Prop) → DS → DS → VEnv → α → β → Prop} {r : Res α} {f : α → VEnv → Res Unit} {Q : DEnv → DS → Prop} {E : QE} (hN : ∀ a, Av S env denv a → N a) (h : PostT N sl F S env denv (r.bind f) Q E) :
    Post (Av S env denv) Rel1 F S env denv r (fun b S1 => ∃ F1 env1 a, Go (Av S env denv) F S env denv F1 S1 env1 denv ∧ Rel1 (Av S env denv) F1 S1 env1 a b ∧ (∀ a, Av S1 env1 denv a → N a) ∧ PostT N sl F1 S1 env1 denv (f a env1) Q E) E := by
  cases r with
  | ok a env' =>
    intro F1 S1 b g rel
    refine ⟨F1, env', a, g, rel, fun x hx => hN x (g.av (fun _ z => z) x hx), ?_⟩
    have h : PostT N sl F S env denv (f a env') Q E := h
    cases e : f a env' with
    | ok c env2 =>
      rw [e] at h
      exact fun F2 S2 d2 g2 a2 => h F2 S2 d2 ((g.up hN).trans g2) a2
    | exc c fs env2 =>
      rw [e] at h
      exact fun F2 S2 d2 ds g2 rel2 => h F2 S2 d2 ds ((g.up hN).trans g2) rel2
    | bad =>
      rw [e] at h
      exact h
  | exc c fs env' => exact fun F1 S1 ds g rel => h F1 S1 denv ds (g.up hN) rel
  | bad => exact h
theorem PostT.opt {sl : List Nat} {α : Type} {o : Option α} {k : α → Res Unit} {Q : DEnv → DS → Prop} {E : QE} (h : PostT N sl F S env denv (optR o k) Q E) : ∃ a, o = some a ∧ PostT N sl F S env denv (k a) Q E := by
  cases o with
  | none => exact h.elim
  | some a => exact ⟨a, rfl, h⟩
theorem PostT.shrink {sl : List Nat} {r : Res Unit} {Q : DEnv → DS → Prop} {E : QE} (hN : ∀ a, N' a → N a) (h : PostT N sl F S env denv r Q E) : PostT N' sl F S env denv r Q E := by
  cases r with
  | ok a env' => exact fun F' S' b g rel => h F' S' b (g.up hN) rel
  | exc c fs env' => exact fun F' S' d2 ds g rel => h F' S' d2 ds (g.up hN) rel
  | bad => exact h
theorem noO_ok {γ δ : Type} {Rel2 : (Addr → Prop) → DS → DS → VEnv → γ → δ → Prop} {r : Rv} {k : Rv → Res γ} {Q : δ → DS → Prop} {E : QE} (h : Post N Rel2 F S env denv (noO r k) Q E) : (∀ o, r ≠ .own o) ∧ Post N Rel2 F S env denv (k r) Q E := by
  cases r with
  | own o => exact h.elim
  | v v => exact ⟨fun o z => (nomatch z), h⟩
  | sl i => exact ⟨fun o z => (nomatch z), h⟩
theorem binV_sl {o : Op} {x y : V} {r : Rv} (h : binV o x y = some r) : ∀ i, r ≠ .sl i := by
  intro i z
  subst z
  unfold binV at h
  split at h <;> first | cases h | (split at h <;> cases h)
theorem slV_sl {x : V} {lo hi : Option Int} {r : Rv} (h : slV x lo hi = some r) : ∀ i, r ≠ .sl i := by
  intro i z
  subst z
  unfold slV at h
  split at h <;> cases h
theorem biLV_sl {b : BI} {vs : List V} {r : Rv} (h : biLV b vs = some r) : ∀ i, r ≠ .sl i := by
  intro i z
  subst z
  unfold biLV at h
  split at h
  · cases h
  · cases h
  · cases e : intsV? vs with
    | none => rw [e] at h; cases h
    | some is => rw [e] at h; cases h
  · split at h <;> cases h
  · split at h <;> cases h
  · cases e : blsV? vs with
    | none => rw [e] at h; cases h
    | some is => rw [e] at h; cases h
  · cases e : blsV? vs with
    | none => rw [e] at h; cases h
    | some is => rw [e] at h; cases h
  · cases h
/-! ### a comprehension's slots -/
theorem wipeE_len : ∀ {sl : List Nat} {denv : DEnv}, (wipeE denv sl).length = denv.length
  | [], _ => rfl
  | i :: sl, denv => by
    unfold wipeE
    rw [List.length_set, wipeE_len]
theorem wipeE_get : ∀ {sl : List Nat} {denv : DEnv} {i : Nat}, i ∉ sl → (wipeE denv sl)[i]? = denv[i]?
  | [], _, _, _ => rfl
  | k :: sl, denv, i, h => by
    unfold wipeE
    rw [List.getElem?_set_ne (fun z => h (List.mem_cons.mpr (.inl z.symm))), wipeE_get fun z => h (List.mem_cons_of_mem _ z)]
theorem wipeV_get : ∀ {sl : List Nat} {env env' : VEnv}, wipeV env sl = some env' → env'.length = env.length ∧ (∀ i, i ∉ sl → env'.getD i .none = env.getD i .none) ∧ ∀ i, i ∈ sl → env'.getD i .none = .none ∧ ∀ b o, env.getD i .none ≠ .own b o
  | [], env, env', h => by
    cases h
    exact ⟨rfl, fun _ _ => rfl, fun i z => nomatch z⟩
  | k :: sl, env, env', h => by
    unfold wipeV at h
    split at h
    · rename_i e he
      obtain ⟨h1, h2, h3⟩ := wipeV_get he
      have key : e.set k .none = env' ∧ ∀ b o, e.getD k .none ≠ .own b o := by
        split at h
        · cases h
        · rename_i n
          cases h
          exact ⟨rfl, fun b o z => n b o z⟩
      obtain ⟨rfl, n⟩ := key
      refine ⟨by rw [List.length_set]; exact h1, fun i hi => ?_, fun i hi => ?_⟩
      · rw [getD_set, if_neg (fun z => hi (List.mem_cons.mpr (.inl z.1.symm)))]
        exact h2 i fun z => hi (List.mem_cons_of_mem _ z)
      · by_cases z : i = k
        · subst z
          refine ⟨?_, fun b o q => ?_⟩
          · rw [getD_set]
            split
            · rfl
            · rename_i nl
              rcases Nat.lt_or_ge i e.length with w | w
              · exact absurd ⟨rfl, w⟩ nl
              · rw [List.getD_eq_getElem?_getD, List.getElem?_eq_none w]
                rfl
          · by_cases z2 : i ∈ sl
            · exact (h3 i z2).2 b o q
            · exact n b o (by rw [h2 i z2]; exact q)
        · have hi : i ∈ sl := (List.mem_cons.mp hi).resolve_left z
          obtain ⟨a1, a2⟩ := h3 i hi
          refine ⟨?_, a2⟩
          rw [getD_set]
          split
          · rfl
          · exact a1
    · cases h
theorem backV_get : ∀ {sl : List Nat} {e0 env : VEnv} {i : Nat}, e0.length = env.length → (backV e0 env sl).length = env.length ∧ (backV e0 env sl).getD i .none = if i ∈ sl then e0.getD i .none else env.getD i .none
  | [], e0, env, i, h => by
    unfold backV
    exact ⟨rfl, by rw [if_neg (by simp)]⟩
  | k :: sl, e0, env, i, h => by
    obtain ⟨h1, h2⟩ := backV_get (sl := sl) (i := i) h
    unfold backV
    refine ⟨by rw [List.length_set]; exact h1, ?_⟩
    rw [getD_set, h1]
    by_cases z : k = i
    · subst z
      rw [if_pos (List.mem_cons_self ..)]
      split
      · rfl
      · rename_i nl
        have w : env.length ≤ k := by
          rcases Nat.lt_or_ge k env.length with w | w
          · exact absurd ⟨rfl, w⟩ nl
          · exact w
        rw [h2]
        split
        · rfl
        · rw [List.getD_eq_getElem?_getD, List.getD_eq_getElem?_getD, List.getElem?_eq_none w, List.getElem?_eq_none (by omega)]
    · rw [if_neg (fun q => z q.1), h2]
      by_cases y : i ∈ sl
      · rw [if_pos y, if_pos (List.mem_cons_of_mem _ y)]
      · rw [if_neg y, if_neg fun q => (List.mem_cons.mp q).elim (fun q => z q.symm) y]
theorem wipe_go {sl : List Nat} {denv0 : DEnv} (h : St F S env denv) (hN : ∀ a, Av S env denv a → N a) (ag : Agr sl denv0 denv) (hl : denv0.length = denv.length) (e : wipeV env sl = some env1) :
    Go N F S env denv F S env1 (wipeE denv0 sl) := by
  obtain ⟨w1, w2, w3⟩ := wipeV_get e
  have ow : ∀ j b o, env1.getD j .none = .own b o → env.getD j .none = .own b o ∧ (wipeE denv0 sl)[j]? = denv[j]? := fun j b o q => by
    by_cases z : j ∈ sl
    · rw [(w3 j z).1] at q; cases q
    · exact ⟨by rw [← w2 j z]; exact q, by rw [wipeE_get z]; exact (ag j z).symm⟩
  refine ⟨⟨h.le, ⟨by rw [w1, wipeE_len, hl]; exact h.r.len, fun i v q => ?_, fun i b o q => ?_, fun i j a b b' o o' q1 q2 q3 q4 => ?_⟩⟩, DS.le.refl F, fun a z => ?_, fun a o q z => q, fun i o q => ?_, w1⟩
  · by_cases z : i ∈ sl
    · rw [(w3 i z).1] at q; cases q
    · rw [w2 i z] at q
      rw [wipeE_get z, ← ag i z]
      exact h.r.val i v q
  · obtain ⟨a1, a2⟩ := ow i b o q
    rw [a2]
    exact h.r.own i b o a1
  · obtain ⟨a1, a2⟩ := ow i b o q1
    obtain ⟨b1, b2⟩ := ow j b' o' q2
    rw [a2] at q3
    rw [b2] at q4
    exact h.r.inj i j a b b' o o' a1 b1 q3 q4
  · rcases z with ⟨j, b, o, q1, q2⟩ | z
    · obtain ⟨a1, a2⟩ := ow j b o q1
      rw [a2] at q2
      exact .inl (hN a (.inl ⟨j, b, o, a1, q2⟩))
    · exact .inr z
  · obtain ⟨a1, a2⟩ := ow i true o q
    exact ⟨⟨o, a1⟩, a2⟩
theorem back_go {sl : List Nat} (h : St F S env denv) (hN : ∀ a, Av S env denv a → N a) (g : Go N F S env denv F1 S1 env1 denv1) (ag : Agr sl denv denv1) (e : (wipeV env sl).isSome = true) : Go N F S env denv F1 S1 (backV env env1 sl) denv := by
  obtain ⟨e2, he2⟩ := Option.isSome_iff_exists.mp e
  obtain ⟨w1, w2, w3⟩ := wipeV_get he2
  have bg : ∀ i, _ := fun i => backV_get (sl := sl) (e0 := env) (env := env1) (i := i) g.len.symm
  have ow : ∀ j b o, (backV env env1 sl).getD j .none = .own b o → env1.getD j .none = .own b o ∧ denv1[j]? = denv[j]? := fun j b o q => by
    rw [(bg j).2] at q
    split at q
    · rename_i z
      exact absurd q ((w3 j z).2 b o)
    · rename_i z
      exact ⟨q, ag j z⟩
  refine ⟨⟨g.st.le, ⟨by rw [(bg 0).1, g.len]; exact h.r.len, fun i v q => ?_, fun i b o q => ?_, fun i j a b b' o o' q1 q2 q3 q4 => ?_⟩⟩, g.le, fun a z => ?_, g.fr, fun i o q => ?_, by rw [(bg 0).1, g.len]⟩
  · rw [(bg i).2] at q
    split at q
    · obtain ⟨d, q1, q2⟩ := h.r.val i v q
      exact ⟨d, q1, VRel.mono g.le _ _ q2⟩
    · rename_i z
      obtain ⟨d, q1, q2⟩ := g.st.r.val i v q
      exact ⟨d, by rw [← ag i z]; exact q1, q2⟩
  · obtain ⟨a1, a2⟩ := ow i b o q
    rw [← a2]
    exact g.st.r.own i b o a1
  · obtain ⟨a1, a2⟩ := ow i b o q1
    obtain ⟨b1, b2⟩ := ow j b' o' q2
    rw [← a2] at q3
    rw [← b2] at q4
    exact g.st.r.inj i j a b b' o o' a1 b1 q3 q4
  · rcases z with ⟨j, b, o, q1, q2⟩ | z
    · obtain ⟨a1, a2⟩ := ow j b o q1
      rw [← a2] at q2
      exact g.nw a (.inl ⟨j, b, o, a1, q2⟩)
    · exact g.nw a (.inr z)
  · obtain ⟨a1, a2⟩ := ow i true o q
    exact ⟨(g.bo i o a1).1, rfl⟩
/-! ### a comprehension's items -/
def ORel (F : DS) : Option V → Option D → Prop
  | none, y => y = none
  | some v, y => ∃ d, y = some d ∧ VRel F v d
theorem each_ok {fV : V → VEnv → Res (Option V)} {fD : D → DS → (Option D → DS → Prop) → Prop} {denv : DEnv}
    (step : ∀ (v : V) (d : D) (F S : DS) (env : VEnv), DS.le Fg F → St F S env denv → (∀ a, Av S env denv a → N a) → VRel F v d → ∀ (x : Option V) (env' : VEnv), fV v env = .ok x env' →
      ∀ R : Option D → DS → Prop, (∀ F' S' y, Go N F S env denv F' S' env' denv → ORel F' x y → R y S') → fD d S R) :
    ∀ (vs : List V) (ds : List D) (F S : DS) (env : VEnv), DS.le Fg F → St F S env denv → (∀ a, Av S env denv a → N a) → VRels F vs ds → ∀ (xs : List V) (env' : VEnv), eachV fV vs env = .ok xs env' →
      ∀ Q : List D → DS → Prop, (∀ F' S' ys, Go N F S env denv F' S' env' denv → VRels F' xs ys → Q ys S') → eachW fD ds S Q
  | [], ds, F, S, env, hg, h, hN, r, xs, env', e, Q, q => by
    rw [show ds = [] from r]
    cases e
    exact q F S [] (Go.refl h fun a z => hN a (.inl z)) rfl
  | v :: vs, ds, F, S, env, hg, h, hN, r, xs, env', e, Q, q => by
    obtain ⟨d, es, rfl, r1, r2⟩ := r
    unfold eachV at e
    cases e1 : fV v env with
    | exc c fs env1 => rw [e1] at e; cases e
    | bad => rw [e1] at e; cases e
    | ok x env1 =>
      rw [e1] at e
      have e : (eachV fV vs env1).bind (fun xs env2 => .ok (consO x xs) env2) = .ok xs env' := e
      cases e2 : eachV fV vs env1 with
      | exc c fs env1 => rw [e2] at e; cases e
      | bad => rw [e2] at e; cases e
      | ok ys env2 =>
        rw [e2] at e
        cases e
        unfold eachW
        refine step v d F S env hg h hN r1 x env1 e1 _ fun F1 S1 y g1 o1 => ?_
        refine each_ok step vs es F1 S1 env1 (hg.trans g1.le) g1.st (g1.av hN) (VRels.mono g1.le _ _ r2) ys _ e2 _ fun F2 S2 zs g2 r3 => ?_
        refine q F2 S2 _ (g1.trans g2) ?_
        cases x with
        | none =>
          obtain rfl := o1
          exact r3
        | some x =>
          obtain ⟨d', rfl, o1⟩ := o1
          exact ⟨d', zs, rfl, VRel.mono g2.le _ _ o1, r3⟩
theorem noX_eq {α : Type} {r : Res α} {a : α} {e : VEnv} (h : r.noX = .ok a e) : r = .ok a e := by
  cases r with
  | ok b e2 => exact h
  | exc c fs e2 => cases h
  | bad => cases h
theorem noX_exc {α : Type} {r : Res α} {c : Nat} {fs : List V} {e : VEnv} (h : r.noX = .exc c fs e) : False := by
  cases r <;> cases h
theorem lcV_exc {sl : List Nat} {tg : Rv → VEnv → Res Unit} {t : VEnv → Res Bool} {e : VEnv → Res Rv} {v : V} {c : Nat} {fs : List V} {env' : VEnv} (h : lcV sl tg t e v env = .exc c fs env') : False := by
  unfold lcV at h
  exact noX_exc h
theorem each_exc {f : V → VEnv → Res (Option V)} (hf : ∀ v env c fs env', f v env = .exc c fs env' → False) : ∀ (vs : List V) (env : VEnv) (c : Nat) (fs : List V) (env' : VEnv), eachV f vs env = .exc c fs env' → False
  | [], env, c, fs, env', h => by cases h
  | v :: vs, env, c, fs, env', h => by
    unfold eachV at h
    cases e1 : f v env with
    | exc c fs env1 => exact hf _ _ _ _ _ e1
    | bad => rw [e1] at h; cases h
    | ok x env1 =>
      rw [e1] at h
      have h : (eachV f vs env1).bind (fun xs env2 => .ok (consO x xs) env2) = .exc c fs env' := h
      cases e2 : eachV f vs env1 with
      | exc c fs env1 => exact each_exc hf _ _ _ _ _ e2
      | bad => rw [e2] at h; cases h
      | ok ys env2 => rw [e2] at h; cases h
end
end PV
end
section
set_option Elab.async false
set_option linter.all false
set_option maxRecDepth 100000
set_option maxHeartbeats 4000000
/-! PyV, part F: what the functions tell of an expression the core language's wants say too. -/
namespace PV
open PySem PD
theorem told_ok {G : GV} {GD : GG} (hG : GOk G GD) {N : Addr → Prop} {F S : DS} {env : VEnv} {denv : DEnv} {t : Nat} {r : Res Rv} {Q : QD} {E : QE}
    (h : Post N (RRel denv) F S env denv (match r with | .exc c fs env1 => toldV G.told t c fs env1 | r => r) Q E) : Post N (RRel denv) F S env denv r Q (fun x S1 => toldW GD.told t x S1 Q) := by
  cases r with
  | ok a env' => exact h
  | bad => exact h.elim
  | exc c fs env1 =>
    intro F1 S1 ds g rel
    have h : Post N (RRel denv) F S env denv (toldV G.told t c fs env1) Q E := h
    rw [hG.told] at h
    unfold toldV at h
    unfold toldW
    split at h
    · rename_i hd eh
      try rw [eh]
      split at h
      · rename_i hc
        refine ⟨hc, ?_⟩
        split at h
        · rename_i vs ev
          obtain ⟨es, e1, r1⟩ := hvals_ok ev rel
          rw [show hvals hd.r (Exn.fs ⟨c, ds⟩) = some es from e1]
          exact h F1 S1 (.tup es) g ⟨es, rfl, r1⟩
        · exact h.elim
      · exact h.elim
    · exact h.elim
section
variable {G : GV} {GD : GG} (hG : GOk G GD)
include hG
mutual
theorem tgV_ok : ∀ (t : Tg) {r : Rv} {d : D} {N : Addr → Prop} {F S : DS} {env : VEnv} {denv : DEnv} {Q : DEnv → DS → Prop} {E : QE}, St F S env denv → (∀ a, Av S env denv a → N a) → RR N F S env denv r d →
    PostT N (tgSlots t) F S env denv (tgV G t r env) Q E → tgW GD t d denv S Q E
  | .name i, r, d, N, F, S, env, denv, Q, E, h, hN, rr, p => by
    unfold tgV at p
    unfold tgW
    have ag : ∀ x, Agr (tgSlots (.name i)) denv (denv.set i x) := fun x j hj => by
      rw [List.getElem?_set_ne fun z => hj (by rw [z]; simp [tgSlots])]
    cases r with
    | v v =>
      obtain ⟨env1, e1, p⟩ := PostT.opt p
      exact p F S _ (go_val h hN rr e1) (ag _)
    | own o =>
      obtain ⟨env1, e1, p⟩ := PostT.opt p
      obtain ⟨a, so, rfl, h2, h3, h4, h5, h6⟩ := rr
      exact p F S _ (go_own h hN h2 h3 h4 h5 h6 e1) (ag _)
    | sl k => exact p.elim
  | .tup ts, r, d, N, F, S, env, denv, Q, E, h, hN, rr, p => by
    unfold tgV at p
    unfold tgW
    split at p
    · split at p
      · rename_i vs hl
        obtain ⟨ds, rfl, r1⟩ := rr
        exact ⟨by rw [r1.length]; exact hl, tgsV_ok ts h hN r1 p⟩
      · exact p.elim
    · exact p.elim
  | .sub o i, r, d, N, F, S, env, denv, Q, E, h, hN, rr, p => by
    unfold tgV at p
    unfold tgW
    cases r with
    | own _ => exact p.elim
    | sl _ => exact p.elim
    | v v =>
      refine ev_ok o h (fun _ z => z) ((PostT.bind (Rel1 := RRel denv) hN p).mono fun x S1 ⟨F1, env1, vx, g1, rx, n1, p⟩ => ?_)
      refine ev_ok i g1.st (fun _ z => z) ((PostT.bind (Rel1 := RRel denv) n1 p).mono fun y S2 ⟨F2, env2, vy, g2, ry, n2, p⟩ => ?_)
      cases vx with
      | v _ => exact p.elim
      | own _ => exact p.elim
      | sl k =>
        dsimp only at p
        split at p
        · rename_i b vo ek
          obtain ⟨y1, e1, p⟩ := PostT.opt p
          obtain ⟨vo2, e2, p⟩ := PostT.opt p
          obtain ⟨a, so, h1, h2, h3, h4⟩ := g2.st.r.own k b vo ek
          have rx : denv[k]? = some (some x) := rx
          rw [h1] at rx
          cases rx
          refine setI_ok e2 h3 h2 (RR.deref g2.st ry e1) (VRel.mono (g1.le.trans g2.le) _ _ rr) fun so2 r2 => ?_
          exact p F2 _ denv (go_upd g2.st n2 ek h1 r2) Agr.refl
        · exact p.elim
theorem tgsV_ok : ∀ (ts : List Tg) {vs : List V} {ds : List D} {N : Addr → Prop} {F S : DS} {env : VEnv} {denv : DEnv} {Q : DEnv → DS → Prop} {E : QE}, St F S env denv → (∀ a, Av S env denv a → N a) → VRels F vs ds →
    PostT N (tgsSlots ts) F S env denv (tgsV G ts (vs.map .v) env) Q E → tgsW GD ts ds denv S Q E
  | [], vs, ds, N, F, S, env, denv, Q, E, h, hN, rr, p => by
    unfold tgsV at p
    unfold tgsW
    exact p F S denv (Go.refl h fun a z => hN a (.inl z)) Agr.refl
  | t :: ts, vs, ds, N, F, S, env, denv, Q, E, h, hN, rr, p => by
    unfold tgsV at p
    unfold tgsW
    cases vs with
    | nil => exact p.elim
    | cons v vs =>
      obtain ⟨d, es, rfl, r1, r2⟩ := rr
      dsimp only
      have p : PostT N (tgsSlots (t :: ts)) F S env denv ((tgV G t (.v v) env).bind fun _ env1 => tgsV G ts (vs.map .v) env1) Q E := p
      refine tgV_ok t h (fun _ z => z) (r := .v v) r1 ?_
      cases e : tgV G t (.v v) env with
      | bad => rw [e] at p; exact p
      | exc c fs env1 =>
        rw [e] at p
        exact fun F1 S1 d2 ds g rel => p F1 S1 d2 ds (g.up hN) rel
      | ok u env1 =>
        rw [e] at p
        have p : PostT N (tgsSlots (t :: ts)) F S env denv (tgsV G ts (vs.map .v) env1) Q E := p
        intro F1 S1 denv1 g ag
        refine tgsV_ok ts g.st (fun a z => (g.up hN).av hN a z) (VRels.mono g.le _ _ r2) ?_
        have up1 : ∀ i, i ∈ tgSlots t → i ∈ tgsSlots (t :: ts) := fun i hi => by unfold tgsSlots; exact List.mem_append_left _ hi
        have up2 : ∀ i, i ∈ tgsSlots ts → i ∈ tgsSlots (t :: ts) := fun i hi => by
          show i ∈ tgSlots t ++ tgsSlots ts
          exact List.mem_append_right _ hi
        cases e2 : tgsV G ts (vs.map .v) env1 with
        | bad => rw [e2] at p; exact p
        | exc c fs env2 =>
          rw [e2] at p
          exact fun F2 S2 d2 ds g2 rel => p F2 S2 d2 ds ((g.up hN).trans g2) rel
        | ok u2 env2 =>
          rw [e2] at p
          exact fun F2 S2 denv2 g2 ag2 => p F2 S2 denv2 ((g.up hN).trans g2) ((ag.up up1).trans (ag2.up up2))
theorem ev_ok : ∀ (e : C) {m : Md} {N : Addr → Prop} {F S : DS} {env : VEnv} {denv : DEnv} {Q : QD} {E : QE}, St F S env denv → (∀ a, Av S env denv a → N a) →
    Post N (RRel denv) F S env denv (ev G m e env) Q E → evC GD e denv S Q E
  | .var i, m, N, F, S, env, denv, Q, E, h, hN, p => by
    unfold ev at p
    unfold evC
    exact var_ok h hN p
  | .int i, m, N, F, S, env, denv, Q, E, h, hN, p => by
    unfold ev at p
    unfold evC
    exact p.now h hN _ rfl
  | .str i, m, N, F, S, env, denv, Q, E, h, hN, p => by
    unfold ev at p
    unfold evC
    exact p.now h hN _ rfl
  | .bl i, m, N, F, S, env, denv, Q, E, h, hN, p => by
    unfold ev at p
    unfold evC
    exact p.now h hN _ rfl
  | .non, m, N, F, S, env, denv, Q, E, h, hN, p => by
    unfold ev at p
    unfold evC
    exact p.now h hN _ rfl
  | .gl g, m, N, F, S, env, denv, Q, E, h, hN, p => by
    unfold ev at p
    unfold evC
    obtain ⟨v, e1, p⟩ := p.opt
    obtain ⟨q, e2, r⟩ := hG.gl g v e1
    rw [e2]
    exact p.now h hN _ (r F)
  | .ty n, m, N, F, S, env, denv, Q, E, h, hN, p => by
    unfold ev at p
    unfold evC
    exact p.now h hN _ rfl
  | .neg a, m, N, F, S, env, denv, Q, E, h, hN, p => by
    unfold ev at p
    unfold evC
    refine ev_ok a h (fun _ z => z) ((Post.bind (Rel1 := RRel denv) hN p).mono fun x S1 ⟨F1, env1, vx, g1, rx, n1, p⟩ => ?_)
    obtain ⟨v, e1, p⟩ := p.opt
    have r := RR.deref g1.st rx e1
    cases v with
    | int i =>
      rw [r.int]
      exact p.now g1.st n1 _ rfl
    | _ => exact p.elim
  | .not a, m, N, F, S, env, denv, Q, E, h, hN, p => by
    unfold ev at p
    unfold evC
    refine ev_ok a h (fun _ z => z) ((Post.bind (Rel1 := RRel denv) hN p).mono fun x S1 ⟨F1, env1, vx, g1, rx, n1, p⟩ => ?_)
    obtain ⟨v, e1, p⟩ := p.opt
    obtain ⟨b, e2, p⟩ := p.opt
    exact truth_ok g1.st.le e2 (RR.deref g1.st rx e1) (p.now g1.st n1 _ rfl)
  | .bin o a b, m, N, F, S, env, denv, Q, E, h, hN, p => by
    unfold ev at p
    unfold evC
    refine ev_ok a h (fun _ z => z) ((Post.bind (Rel1 := RRel denv) hN p).mono fun x S1 ⟨F1, env1, vx, g1, rx, n1, p⟩ => ?_)
    refine ev_ok b g1.st (fun _ z => z) ((Post.bind (Rel1 := RRel denv) n1 p).mono fun y S2 ⟨F2, env2, vy, g2, ry, n2, p⟩ => ?_)
    obtain ⟨u, e1, p⟩ := p.opt
    obtain ⟨v, e2, p⟩ := p.opt
    obtain ⟨r, e3, p⟩ := p.opt
    exact binV_ok g2.st.le e3 (RR.deref g2.st (RR.go rx g2) e1) (RR.deref g2.st ry e2) (out_ok g2.st n2 (binV_sl e3) p)
  | .and a b, m, N, F, S, env, denv, Q, E, h, hN, p => by
    unfold ev at p
    unfold evC
    refine ev_ok a h (fun _ z => z) ((Post.bind (Rel1 := RRel denv) hN p).mono fun x S1 ⟨F1, env1, vx, g1, rx, n1, p⟩ => ?_)
    obtain ⟨v, e1, p⟩ := p.opt
    obtain ⟨k, e2, p⟩ := p.opt
    cases vx with
    | own o => cases e1
    | sl i => cases e1
    | v w =>
      cases e1
      refine truth_ok g1.st.le e2 (.inl rx) ?_
      cases k with
      | true => exact ev_ok b g1.st n1 p
      | false => exact p.now g1.st n1 _ rx
  | .or a b, m, N, F, S, env, denv, Q, E, h, hN, p => by
    unfold ev at p
    unfold evC
    refine ev_ok a h (fun _ z => z) ((Post.bind (Rel1 := RRel denv) hN p).mono fun x S1 ⟨F1, env1, vx, g1, rx, n1, p⟩ => ?_)
    obtain ⟨v, e1, p⟩ := p.opt
    obtain ⟨k, e2, p⟩ := p.opt
    cases vx with
    | own o => cases e1
    | sl i => cases e1
    | v w =>
      cases e1
      refine truth_ok g1.st.le e2 (.inl rx) ?_
      cases k with
      | true => exact p.now g1.st n1 _ rx
      | false => exact ev_ok b g1.st n1 p
  | .ite t a b, m, N, F, S, env, denv, Q, E, h, hN, p => by
    unfold ev at p
    unfold evC
    refine vT_ok t h (fun _ z => z) ((Post.bind (Rel1 := BRl) hN p).mono fun x S1 ⟨F1, env1, vx, g1, rx, n1, p⟩ => ?_)
    obtain rfl : vx = x := rx
    cases vx with
    | true => exact ev_ok a g1.st n1 p
    | false => exact ev_ok b g1.st n1 p
  | .cmp o a b, m, N, F, S, env, denv, Q, E, h, hN, p => by
    unfold ev at p
    unfold evC
    refine ev_ok a h (fun _ z => z) ((Post.bind (Rel1 := RRel denv) hN p).mono fun x S1 ⟨F1, env1, vx, g1, rx, n1, p⟩ => ?_)
    refine ev_ok b g1.st (fun _ z => z) ((Post.bind (Rel1 := RRel denv) n1 p).mono fun y S2 ⟨F2, env2, vy, g2, ry, n2, p⟩ => ?_)
    obtain ⟨u, e1, p⟩ := p.opt
    obtain ⟨v, e2, p⟩ := p.opt
    obtain ⟨k, e3, p⟩ := p.opt
    exact cmpV_ok g2.st.le e3 (RR.deref g2.st (RR.go rx g2) e1) (RR.deref g2.st ry e2) (p.now g2.st n2 _ rfl)
  | .chain o o2 a b c, m, N, F, S, env, denv, Q, E, h, hN, p => by
    unfold ev at p
    unfold evC
    refine ev_ok a h (fun _ z => z) ((Post.bind (Rel1 := RRel denv) hN p).mono fun x S1 ⟨F1, env1, vx, g1, rx, n1, p⟩ => ?_)
    refine ev_ok b g1.st (fun _ z => z) ((Post.bind (Rel1 := RRel denv) n1 p).mono fun y S2 ⟨F2, env2, vy, g2, ry, n2, p⟩ => ?_)
    obtain ⟨u, e1, p⟩ := p.opt
    obtain ⟨v, e2, p⟩ := p.opt
    obtain ⟨k, e3, p⟩ := p.opt
    refine cmpV_ok g2.st.le e3 (RR.deref g2.st (RR.go rx g2) e1) (RR.deref g2.st ry e2) ?_
    cases k with
    | true =>
      rw [if_pos rfl] at p
      refine ev_ok c g2.st (fun _ z => z) ((Post.bind (Rel1 := RRel denv) n2 p).mono fun z S3 ⟨F3, env3, vz, g3, rz, n3, p⟩ => ?_)
      obtain ⟨v2, e4, p⟩ := p.opt
      obtain ⟨w, e5, p⟩ := p.opt
      obtain ⟨k2, e6, p⟩ := p.opt
      exact cmpV_ok g3.st.le e6 (RR.deref g3.st (RR.go ry g3) e4) (RR.deref g3.st rz e5) (p.now g3.st n3 _ rfl)
    | false => exact p.now g2.st n2 _ rfl
  | .call f es, m, N, F, S, env, denv, Q, E, h, hN, p => by
    unfold ev at p
    unfold evC
    refine vAs_ok es h (fun _ z => z) ((Post.bind (Rel1 := ARl denv) hN p).mono fun ds S1 ⟨F1, env1, rs, g1, ra, n1, p⟩ => ?_)
    exact call_ok hG.call g1.st n1 ra p
  | .callL f es, m, N, F, S, env, denv, Q, E, h, hN, p => by
    unfold ev at p
    unfold evC
    refine vAs_ok es h (fun _ z => z) ((Post.bind (Rel1 := ARl denv) hN p).mono fun ds S1 ⟨F1, env1, rs, g1, ra, n1, p⟩ => ?_)
    exact call_ok hG.low g1.st n1 ra p
  | .told t b, m, N, F, S, env, denv, Q, E, h, hN, p => by
    unfold ev at p
    unfold evC
    exact ev_ok b h hN (told_ok hG p)
  | .callv i es, m, N, F, S, env, denv, Q, E, h, hN, p => by
    unfold ev at p
    unfold evC
    split at p
    · rename_i f e
      obtain ⟨d, h1, h2⟩ := h.r.val i _ e
      unfold slotW
      rw [h1]
      rw [show d = .fn f from h2]
      refine vAs_ok es h (fun _ z => z) ((Post.bind (Rel1 := ARl denv) hN p).mono fun ds S1 ⟨F1, env1, rs, g1, ra, n1, p⟩ => ?_)
      exact call_ok hG.call g1.st n1 ra p
    · exact p.elim
  | .bi b es, m, N, F, S, env, denv, Q, E, h, hN, p => by
    unfold ev at p
    unfold evC
    refine vPs_ok es h (fun _ z => z) ((Post.bind (Rel1 := ARl denv) hN p).mono fun ds S1 ⟨F1, env1, rs, g1, ra, n1, p⟩ => ?_)
    obtain ⟨vs, e1, p⟩ := p.opt
    obtain ⟨v, e2, p⟩ := p.opt
    exact biV_ok g1.st.le e2 (derefs_ok g1.st ra e1) (p.now g1.st n1)
  | .biL b l, m, N, F, S, env, denv, Q, E, h, hN, p => by
    unfold ev at p
    unfold evC
    refine vL_ok l h (fun _ z => z) ((Post.bind (Rel1 := VRl) hN p).mono fun ds S1 ⟨F1, env1, vs, g1, ra, n1, p⟩ => ?_)
    obtain ⟨r, e2, p⟩ := p.opt
    exact biLV_ok e2 ra (out_ok g1.st n1 (biLV_sl e2) p)
  | .mth mt o es, m, N, F, S, env, denv, Q, E, h, hN, p => by
    unfold ev at p
    unfold evC
    refine ev_ok o h (fun _ z => z) ((Post.bind (Rel1 := RRel denv) hN p).mono fun x S1 ⟨F1, env1, vx, g1, rx, n1, p⟩ => ?_)
    cases vx with
    | v _ => exact p.elim
    | own _ => exact p.elim
    | sl k =>
      dsimp only at p
      split at p
      · rename_i b1 vo1 ek1
        obtain ⟨a, so1, h1, h2, h3, h4⟩ := g1.st.r.own k b1 vo1 ek1
        have rx : denv[k]? = some (some x) := rx
        rw [h1] at rx
        cases rx
        obtain ⟨hk, p⟩ := p.ite
        refine ⟨kind_ok hk h3 h2, ?_⟩
        refine vCs_ok es g1.st (fun _ z => z) ((Post.bind (Rel1 := VRl) n1 p).mono fun ds S2 ⟨F2, env2, vs, g2, rs, n2, p⟩ => ?_)
        split at p
        · rename_i b vo ek
          obtain ⟨q, e1, p⟩ := p.opt
          obtain ⟨a', so, q1, q2, q3, q4⟩ := g2.st.r.own k b vo ek
          rw [h1] at q1
          cases q1
          refine mth_ok e1 q3 q2 rs (fun d so2 r1 r2 _ => ?_) fun hq d r1 => ?_
          · exact p F2 _ d (go_upd g2.st n2 ek h1 r2) r1
          · rw [hq, set_self ek] at p
            exact p.now g2.st n2 d r1
        · exact p.elim
      · exact p.elim
  | .ext o l, m, N, F, S, env, denv, Q, E, h, hN, p => by
    unfold ev at p
    unfold evC
    refine ev_ok o h (fun _ z => z) ((Post.bind (Rel1 := RRel denv) hN p).mono fun x S1 ⟨F1, env1, vx, g1, rx, n1, p⟩ => ?_)
    cases vx with
    | v _ => exact p.elim
    | own _ => exact p.elim
    | sl k =>
      dsimp only at p
      split at p
      · rename_i b1 vo1 ek1
        obtain ⟨a, so1, h1, h2, h3, h4⟩ := g1.st.r.own k b1 vo1 ek1
        have rx : denv[k]? = some (some x) := rx
        rw [h1] at rx
        cases rx
        obtain ⟨hk, p⟩ := p.ite
        refine ⟨kind_ok hk h3 h2, ?_⟩
        refine vL_ok l g1.st (fun _ z => z) ((Post.bind (Rel1 := VRl) n1 p).mono fun ds S2 ⟨F2, env2, vs, g2, rs, n2, p⟩ => ?_)
        split at p
        · rename_i b vo ek
          obtain ⟨vo2, e1, p⟩ := p.opt
          obtain ⟨a', so, q1, q2, q3, q4⟩ := g2.st.r.own k b vo ek
          rw [h1] at q1
          cases q1
          exact ext_ok e1 q3 q2 rs fun so2 r2 => p F2 _ .non (go_upd g2.st n2 ek h1 r2) rfl
        · exact p.elim
      · exact p.elim
  | .ix a i, m, N, F, S, env, denv, Q, E, h, hN, p => by
    unfold ev at p
    unfold evC
    refine ev_ok a h (fun _ z => z) ((Post.bind (Rel1 := RRel denv) hN p).mono fun x S1 ⟨F1, env1, vx, g1, rx, n1, p⟩ => ?_)
    refine ev_ok i g1.st (fun _ z => z) ((Post.bind (Rel1 := RRel denv) n1 p).mono fun y S2 ⟨F2, env2, vy, g2, ry, n2, p⟩ => ?_)
    obtain ⟨u, e1, p⟩ := p.opt
    obtain ⟨v, e2, p⟩ := p.opt
    obtain ⟨w, e3, p⟩ := p.opt
    exact ixV_ok g2.st.le e3 (RR.deref g2.st (RR.go rx g2) e1) (RR.deref g2.st ry e2) (p.now g2.st n2)
  | .sl a lo hi, m, N, F, S, env, denv, Q, E, h, hN, p => by
    unfold ev at p
    unfold evC
    refine ev_ok a h (fun _ z => z) ((Post.bind (Rel1 := RRel denv) hN p).mono fun x S1 ⟨F1, env1, vx, g1, rx, n1, p⟩ => ?_)
    refine vO_ok lo g1.st (fun _ z => z) ((Post.bind (Rel1 := IRl) n1 p).mono fun l1 S2 ⟨F2, env2, l2, g2, rl, n2, p⟩ => ?_)
    obtain rfl : l2 = l1 := rl
    refine vO_ok hi g2.st (fun _ z => z) ((Post.bind (Rel1 := IRl) n2 p).mono fun h1 S3 ⟨F3, env3, h2, g3, rh, n3, p⟩ => ?_)
    obtain rfl : h2 = h1 := rh
    obtain ⟨u, e1, p⟩ := p.opt
    obtain ⟨r, e2, p⟩ := p.opt
    exact slV_ok g3.st.le e2 (RR.deref g3.st (RR.go (RR.go rx g2) g3) e1) (out_ok g3.st n3 (slV_sl e2) p)
  | .tup es, m, N, F, S, env, denv, Q, E, h, hN, p => by
    unfold ev at p
    unfold evC
    refine vCs_ok es h (fun _ z => z) ((Post.bind (Rel1 := VRl) hN p).mono fun ds S1 ⟨F1, env1, vs, g1, rs, n1, p⟩ => ?_)
    obtain ⟨hl, p⟩ := p.ite
    exact ⟨by rw [VRels.length rs]; exact hl, p.now g1.st n1 _ ⟨ds, rfl, rs⟩⟩
  | .mk l, m, N, F, S, env, denv, Q, E, h, hN, p => by
    unfold ev at p
    unfold evC
    refine vL_ok l h (fun _ z => z) ((Post.bind (Rel1 := VRl) hN p).mono fun ds S1 ⟨F1, env1, vs, g1, ra, n1, p⟩ => ?_)
    exact (out_ok g1.st n1 (by intro i z; cases z) p) _ ⟨ds, rfl, ra⟩
  | .dct0, m, N, F, S, env, denv, Q, E, h, hN, p => by
    unfold ev at p
    unfold evC
    exact (out_ok h hN (by intro i z; cases z) p) _ ⟨[], rfl, rfl, rfl⟩
theorem vCs_ok : ∀ (es : List C) {N : Addr → Prop} {F S : DS} {env : VEnv} {denv : DEnv} {Q : List D → DS → Prop} {E : QE}, St F S env denv → (∀ a, Av S env denv a → N a) →
    Post N VRl F S env denv (vCs G es env) Q E → evCs GD es denv S Q E
  | [], N, F, S, env, denv, Q, E, h, hN, p => by
    unfold vCs at p
    unfold evCs
    exact p.now h hN _ rfl
  | e :: es, N, F, S, env, denv, Q, E, h, hN, p => by
    unfold vCs at p
    unfold evCs
    refine ev_ok e h (fun _ z => z) ((Post.bind (Rel1 := RRel denv) hN p).mono fun x S1 ⟨F1, env1, vx, g1, rx, n1, p⟩ => ?_)
    obtain ⟨v, e1, p⟩ := p.opt
    cases vx with
    | own o => cases e1
    | sl i => cases e1
    | v w =>
      cases e1
      refine vCs_ok es g1.st (fun _ z => z) ((Post.bind (Rel1 := VRl) n1 p).mono fun ds S2 ⟨F2, env2, vs, g2, rs, n2, p⟩ => ?_)
      exact p.now g2.st n2 _ ⟨x, ds, rfl, VRel.mono g2.le _ _ rx, rs⟩
theorem vPs_ok : ∀ (es : List C) {N : Addr → Prop} {F S : DS} {env : VEnv} {denv : DEnv} {Q : List D → DS → Prop} {E : QE}, St F S env denv → (∀ a, Av S env denv a → N a) →
    Post N (ARl denv) F S env denv (vPs G es env) Q E → evCs GD es denv S Q E
  | [], N, F, S, env, denv, Q, E, h, hN, p => by
    unfold vPs at p
    unfold evCs
    exact p.now h hN _ rfl
  | e :: es, N, F, S, env, denv, Q, E, h, hN, p => by
    unfold vPs at p
    unfold evCs
    refine ev_ok e h (fun _ z => z) ((Post.bind (Rel1 := RRel denv) hN p).mono fun x S1 ⟨F1, env1, vx, g1, rx, n1, p⟩ => ?_)
    obtain ⟨no, p⟩ := noO_ok p
    refine vPs_ok es g1.st (fun _ z => z) ((Post.bind (Rel1 := ARl denv) n1 p).mono fun ds S2 ⟨F2, env2, rs, g2, ra, n2, p⟩ => ?_)
    exact p.now g2.st n2 _ ⟨x, ds, rfl, (asz no rx).mono g2.le, ra⟩
theorem vAs_ok : ∀ (es : List C) {sg : List Nat} {j : Nat} {N : Addr → Prop} {F S : DS} {env : VEnv} {denv : DEnv} {Q : List D → DS → Prop} {E : QE}, St F S env denv → (∀ a, Av S env denv a → N a) →
    Post N (ARl denv) F S env denv (vAs G sg j es env) Q E → evCs GD es denv S Q E
  | [], sg, j, N, F, S, env, denv, Q, E, h, hN, p => by
    unfold vAs at p
    unfold evCs
    exact p.now h hN _ rfl
  | e :: es, sg, j, N, F, S, env, denv, Q, E, h, hN, p => by
    unfold vAs at p
    unfold evCs
    refine ev_ok e h (fun _ z => z) ((Post.bind (Rel1 := RRel denv) hN p).mono fun x S1 ⟨F1, env1, vx, g1, rx, n1, p⟩ => ?_)
    obtain ⟨no, p⟩ := noO_ok p
    refine vAs_ok es g1.st (fun _ z => z) ((Post.bind (Rel1 := ARl denv) n1 p).mono fun ds S2 ⟨F2, env2, rs, g2, ra, n2, p⟩ => ?_)
    exact p.now g2.st n2 _ ⟨x, ds, rfl, (asz no rx).mono g2.le, ra⟩
theorem vRs_ok : ∀ (es : List C) {N : Addr → Prop} {F S : DS} {env : VEnv} {denv : DEnv} {Q : List D → DS → Prop} {E : QE}, St F S env denv → (∀ a, Av S env denv a → N a) →
    Post N (RRl denv) F S env denv (vRs G es env) Q E → evCs GD es denv S Q E
  | [], N, F, S, env, denv, Q, E, h, hN, p => by
    unfold vRs at p
    unfold evCs
    exact p.now h hN _ rfl
  | e :: es, N, F, S, env, denv, Q, E, h, hN, p => by
    unfold vRs at p
    unfold evCs
    refine ev_ok e h (fun _ z => z) ((Post.bind (Rel1 := RRel denv) hN p).mono fun x S1 ⟨F1, env1, vx, g1, rx, n1, p⟩ => ?_)
    refine vRs_ok es g1.st (fun _ z => z) ((Post.bind (Rel1 := RRl denv) n1 p).mono fun ds S2 ⟨F2, env2, rs, g2, ra, n2, p⟩ => ?_)
    refine p.now g2.st n2 (x :: ds) ⟨x, ds, rfl, (RR.go rx g2).up hN, RRs.up n1 ra, fun o a ho hx i o' hi hd => ?_⟩
    subst ho
    obtain ⟨a1, so, q1, q2, q3, q4, q5, q6⟩ := rx
    rw [hx] at q1
    cases q1
    obtain ⟨d, e1, r1⟩ := ra.get hi
    rw [hd] at e1
    cases e1
    obtain ⟨a2, so2, w1, w2, w3, w4, w5, w6⟩ := r1
    cases w1
    rcases w6 with z | z
    · exact q5 z
    · rw [q2] at z
      cases z
theorem vO_ok : ∀ (o : Option C) {N : Addr → Prop} {F S : DS} {env : VEnv} {denv : DEnv} {Q : Option Int → DS → Prop} {E : QE}, St F S env denv → (∀ a, Av S env denv a → N a) →
    Post N IRl F S env denv (vO G o env) Q E → evO GD o denv S Q E
  | none, N, F, S, env, denv, Q, E, h, hN, p => by
    unfold vO at p
    unfold evO
    exact p.now h hN _ rfl
  | some e, N, F, S, env, denv, Q, E, h, hN, p => by
    unfold vO at p
    unfold evO
    refine ev_ok e h (fun _ z => z) ((Post.bind (Rel1 := RRel denv) hN p).mono fun x S1 ⟨F1, env1, vx, g1, rx, n1, p⟩ => ?_)
    obtain ⟨v, e1, p⟩ := p.opt
    have r := RR.deref g1.st rx e1
    cases v with
    | int i =>
      rw [r.int]
      exact p.now g1.st n1 _ rfl
    | _ => exact p.elim
theorem vTo_ok : ∀ (o : Option Te) {N : Addr → Prop} {F S : DS} {env : VEnv} {denv : DEnv} {Q : Bool → DS → Prop} {E : QE}, St F S env denv → (∀ a, Av S env denv a → N a) →
    Post N BRl F S env denv (vTo G o env) Q E → evTo GD o denv S Q E
  | none, N, F, S, env, denv, Q, E, h, hN, p => by
    unfold vTo at p
    unfold evTo
    exact p.now h hN _ rfl
  | some t, N, F, S, env, denv, Q, E, h, hN, p => by
    unfold vTo at p
    unfold evTo
    exact vT_ok t h hN p
theorem vT_ok : ∀ (t : Te) {N : Addr → Prop} {F S : DS} {env : VEnv} {denv : DEnv} {Q : Bool → DS → Prop} {E : QE}, St F S env denv → (∀ a, Av S env denv a → N a) →
    Post N BRl F S env denv (vT G t env) Q E → evT GD t denv S Q E
  | .and a b, N, F, S, env, denv, Q, E, h, hN, p => by
    unfold vT at p
    unfold evT
    refine vT_ok a h (fun _ z => z) ((Post.bind (Rel1 := BRl) hN p).mono fun x S1 ⟨F1, env1, vx, g1, rx, n1, p⟩ => ?_)
    obtain rfl : vx = x := rx
    cases vx with
    | true => exact vT_ok b g1.st n1 p
    | false => exact p.now g1.st n1 _ rfl
  | .or a b, N, F, S, env, denv, Q, E, h, hN, p => by
    unfold vT at p
    unfold evT
    refine vT_ok a h (fun _ z => z) ((Post.bind (Rel1 := BRl) hN p).mono fun x S1 ⟨F1, env1, vx, g1, rx, n1, p⟩ => ?_)
    obtain rfl : vx = x := rx
    cases vx with
    | true => exact p.now g1.st n1 _ rfl
    | false => exact vT_ok b g1.st n1 p
  | .not a, N, F, S, env, denv, Q, E, h, hN, p => by
    unfold vT at p
    unfold evT
    refine vT_ok a h (fun _ z => z) ((Post.bind (Rel1 := BRl) hN p).mono fun x S1 ⟨F1, env1, vx, g1, rx, n1, p⟩ => ?_)
    obtain rfl : vx = x := rx
    exact p.now g1.st n1 _ rfl
  | .val e, N, F, S, env, denv, Q, E, h, hN, p => by
    unfold vT at p
    unfold evT
    refine ev_ok e h (fun _ z => z) ((Post.bind (Rel1 := RRel denv) hN p).mono fun x S1 ⟨F1, env1, vx, g1, rx, n1, p⟩ => ?_)
    obtain ⟨v, e1, p⟩ := p.opt
    obtain ⟨b, e2, p⟩ := p.opt
    exact truth_ok g1.st.le e2 (RR.deref g1.st rx e1) (p.now g1.st n1 _ rfl)
theorem vL_ok : ∀ (l : L) {N : Addr → Prop} {F S : DS} {env : VEnv} {denv : DEnv} {Q : List D → DS → Prop} {E : QE}, St F S env denv → (∀ a, Av S env denv a → N a) →
    Post N VRl F S env denv (vL G l env) Q E → evL GD l denv S Q E
  | .lst es, N, F, S, env, denv, Q, E, h, hN, p => by
    unfold vL at p
    unfold evL
    refine vCs_ok es h (fun _ z => z) ((Post.bind (Rel1 := VRl) hN p).mono fun ds S1 ⟨F1, env1, vs, g1, rs, n1, p⟩ => ?_)
    obtain ⟨hl, p⟩ := p.ite
    exact ⟨by rw [VRels.length rs]; exact hl, p.now g1.st n1 _ rs⟩
  | .lc e tg w t, N, F, S, env, denv, Q, E, h, hN, p => by
    unfold vL at p
    unfold evL
    refine vW_ok w h (fun _ z => z) ((Post.bind (Rel1 := WRl) (Q := Q) hN p).mono fun q S1 ⟨F1, env1, vs, g1, rs, n1, p⟩ => ?_)
    obtain ⟨ds, g⟩ := q
    obtain ⟨rs, hg⟩ := rs
    obtain ⟨hl, p⟩ := p.ite
    obtain ⟨env0, ew, p⟩ := p.opt
    refine ⟨by rw [VRels.length rs]; exact hl, ?_⟩
    have agw : Agr (tgSlots tg) denv (wipeE denv (tgSlots tg)) := fun i hi => wipeE_get hi
    have gw := wipe_go g1.st n1 Agr.refl rfl ew
    cases e2 : eachV (lcV (tgSlots tg) (tgV G tg) (vTo G t) (ev G .fz e)) vs env0 with
    | bad => rw [e2] at p; exact p.elim
    | exc c fs env2 => exact (each_exc (fun v env c fs env' h => lcV_exc h) _ _ _ _ _ e2).elim
    | ok xs env2 =>
      rw [e2] at p
      have p : Post N VRl F1 S1 env1 denv (.ok xs (backV env1 env2 (tgSlots tg))) Q E := p
      refine each_ok (Fg := F1) (N := N) (denv := wipeE denv (tgSlots tg)) ?_ vs ds F1 S1 env0 (DS.le.refl _) gw.st (gw.av n1) rs xs env2 e2 _ fun F2 S2 ys g2 r2 => ?_
      · intro v d F S env hF h hN rv x env' ex R hR
        refine ⟨(hg.mono hF).ok h.le, ?_⟩
        unfold lcV at ex
        have ex := noX_eq ex
        have endw : ∀ {F4 S4 : DS} {env4 env5 : VEnv} {denv4 : DEnv}, Go N F S env (wipeE denv (tgSlots tg)) F4 S4 env4 denv4 → Agr (tgSlots tg) denv denv4 → wipeV env4 (tgSlots tg) = some env5 → Go N F S env (wipeE denv (tgSlots tg)) F4 S4 env5 (wipeE denv (tgSlots tg)) := fun {F4 S4 env4 env5 denv4} g4 ag e => by
          refine g4.trans (wipe_go g4.st (g4.av hN) ag ?_ e)
          have h1 := h.r.len
          have h2 := g4.st.r.len
          rw [wipeE_len] at h1
          rw [← h1, ← h2, g4.len]
        refine tgV_ok tg h hN (r := .v v) rv ?_
        cases e3 : tgV G tg (.v v) env with
        | bad => rw [e3] at ex; cases ex
        | exc c fs env3 => rw [e3] at ex; cases ex
        | ok u env3 =>
          rw [e3] at ex
          intro F3 S3 denv3 g3 ag3
          refine vTo_ok t g3.st (g3.av hN) ?_
          have ex : ((vTo G t env3).bind fun k env2 => if k = true then (ev G .fz e env2).bind fun x env3 => optR (valR x) fun x => optR (wipeV env3 (tgSlots tg)) fun env4 => .ok (some x) env4 else optR (wipeV env2 (tgSlots tg)) fun env4 => .ok none env4) = .ok x env' := ex
          cases e4 : vTo G t env3 with
          | bad => rw [e4] at ex; cases ex
          | exc c fs env3 => rw [e4] at ex; cases ex
          | ok k env4 =>
            rw [e4] at ex
            intro F4 S4 b g4 rb
            obtain rfl : k = b := rb
            have gb := g3.trans g4
            have agb : Agr (tgSlots tg) denv denv3 := agw.trans ag3
            cases k with
            | false =>
              have ex : optR (wipeV env4 (tgSlots tg)) (fun env4 => (.ok none env4 : Res (Option V))) = .ok x env' := ex
              cases e7 : wipeV env4 (tgSlots tg) with
              | none => rw [e7] at ex; cases ex
              | some env5 =>
                rw [e7] at ex
                cases ex
                exact hR F4 S4 none (endw gb agb e7) rfl
            | true =>
              have ex : ((ev G .fz e env4).bind fun x env3 => optR (valR x) fun x => optR (wipeV env3 (tgSlots tg)) fun env4 => .ok (some x) env4) = .ok x env' := ex
              refine ev_ok e gb.st (gb.av hN) (m := .fz) ?_
              cases e5 : ev G .fz e env4 with
              | bad => rw [e5] at ex; cases ex
              | exc c fs env3 => rw [e5] at ex; cases ex
              | ok r env5 =>
                rw [e5] at ex
                intro F5 S5 y g5 ry
                have ex : optR (valR r) (fun x => optR (wipeV env5 (tgSlots tg)) fun env4 => .ok (some x) env4) = .ok x env' := ex
                cases e6 : valR r with
                | none => rw [e6] at ex; cases ex
                | some w =>
                  rw [e6] at ex
                  have ex : optR (wipeV env5 (tgSlots tg)) (fun env4 => .ok (some w) env4) = .ok x env' := ex
                  cases e7 : wipeV env5 (tgSlots tg) with
                  | none => rw [e7] at ex; cases ex
                  | some env6 =>
                    rw [e7] at ex
                    cases ex
                    cases r with
                    | own o => cases e6
                    | sl i => cases e6
                    | v w2 =>
                      cases e6
                      exact hR F5 S5 (some y) (endw (gb.trans g5) agb e7) ⟨y, rfl, ry⟩
      · have gb := back_go g1.st n1 (gw.trans g2) agw (by rw [ew]; rfl)
        exact ⟨(hg.mono g2.le).ok g2.st.le, p F2 S2 ys gb r2⟩
  | .ex e, N, F, S, env, denv, Q, E, h, hN, p => by
    unfold vL at p
    unfold evL
    refine ev_ok e h (fun _ z => z) ((Post.bind (Rel1 := RRel denv) hN p).mono fun x S1 ⟨F1, env1, vx, g1, rx, n1, p⟩ => ?_)
    obtain ⟨v, e1, p⟩ := p.opt
    obtain ⟨vs, e2, p⟩ := p.opt
    have r := RR.deref g1.st rx e1
    cases v with
    | tup ws =>
      cases e2
      obtain ⟨ds, rfl, r3⟩ := r.tup
      exact p.now g1.st n1 _ r3
    | lst ws =>
      cases e2
      obtain ⟨ds, q1, q2, r3, _⟩ := r.lst g1.st.le
      rw [q2]
      exact p.now g1.st n1 _ r3
    | _ => cases e2
  | .exl e, N, F, S, env, denv, Q, E, h, hN, p => by
    unfold vL at p
    unfold evL
    refine ev_ok e h (fun _ z => z) ((Post.bind (Rel1 := RRel denv) hN p).mono fun x S1 ⟨F1, env1, vx, g1, rx, n1, p⟩ => ?_)
    obtain ⟨v, e1, p⟩ := p.opt
    obtain ⟨vs, e2, p⟩ := p.opt
    have r := RR.deref g1.st rx e1
    cases v with
    | lst ws =>
      cases e2
      obtain ⟨ds, q1, q2, r3, _⟩ := r.lst g1.st.le
      rw [q1]
      exact p.now g1.st n1 _ r3
    | _ => cases e2
theorem vW_ok : ∀ (w : W) {N : Addr → Prop} {F S : DS} {env : VEnv} {denv : DEnv} {Q : List D → Gd → DS → Prop} {E : QE}, St F S env denv → (∀ a, Av S env denv a → N a) →
    Post N WRl F S env denv (vW G w env) (fun q S => Q q.1 q.2 S) E → evW GD w denv S Q E
  | .ex e, N, F, S, env, denv, Q, E, h, hN, p => by
    unfold vW at p
    unfold evW
    refine ev_ok e h (fun _ z => z) ((Post.bind (Rel1 := RRel denv) hN p).mono fun x S1 ⟨F1, env1, vx, g1, rx, n1, p⟩ => ?_)
    obtain ⟨v, e1, p1⟩ := p.opt
    obtain ⟨vs, e2, p2⟩ := p1.opt
    cases vx with
    | own o => cases e1
    | sl i => cases e1
    | v w =>
      cases e1
      exact walkV_ok g1.st.le e2 rx fun ds g r hg => p2.now g1.st n1 (ds, g) ⟨r, hg⟩
  | .fl l, N, F, S, env, denv, Q, E, h, hN, p => by
    unfold vW at p
    unfold evW
    refine vL_ok l h hN ?_
    cases e1 : vL G l env with
    | bad => rw [e1] at p; exact p
    | exc c fs env1 => rw [e1] at p; exact p
    | ok vs env1 =>
      rw [e1] at p
      exact fun F1 S1 ds g r => p F1 S1 (ds, []) g ⟨r, GdF.nil⟩
  | .range1 a, N, F, S, env, denv, Q, E, h, hN, p => by
    unfold vW at p
    unfold evW
    refine ev_ok a h (fun _ z => z) ((Post.bind (Rel1 := RRel denv) hN p).mono fun x S1 ⟨F1, env1, vx, g1, rx, n1, p⟩ => ?_)
    obtain ⟨v, e1, p⟩ := p.opt
    have r := RR.deref g1.st rx e1
    cases v with
    | int i =>
      rw [r.int]
      obtain ⟨hi, p⟩ := p.ite
      exact ⟨hi.1, hi.2, p.now g1.st n1 (_, []) ⟨range_rels _ _, GdF.nil⟩⟩
    | _ => exact p.elim
  | .range2 a b, N, F, S, env, denv, Q, E, h, hN, p => by
    unfold vW at p
    unfold evW
    refine ev_ok a h (fun _ z => z) ((Post.bind (Rel1 := RRel denv) hN p).mono fun x S1 ⟨F1, env1, vx, g1, rx, n1, p⟩ => ?_)
    refine ev_ok b g1.st (fun _ z => z) ((Post.bind (Rel1 := RRel denv) n1 p).mono fun y S2 ⟨F2, env2, vy, g2, ry, n2, p⟩ => ?_)
    obtain ⟨u, e1, p⟩ := p.opt
    obtain ⟨v, e2, p⟩ := p.opt
    have r1 := RR.deref g2.st (RR.go rx g2) e1
    have r2 := RR.deref g2.st ry e2
    split at p
    · rw [r1.int, r2.int]
      obtain ⟨hi, p⟩ := p.ite
      exact ⟨hi.1, hi.2.1, hi.2.2.1, hi.2.2.2, p.now g2.st n2 (_, []) ⟨range_rels _ _, GdF.nil⟩⟩
    · exact p.elim
  | .enum e, N, F, S, env, denv, Q, E, h, hN, p => by
    unfold vW at p
    unfold evW
    refine ev_ok e h (fun _ z => z) ((Post.bind (Rel1 := RRel denv) hN p).mono fun x S1 ⟨F1, env1, vx, g1, rx, n1, p⟩ => ?_)
    obtain ⟨v, e1, p1⟩ := p.opt
    obtain ⟨vs, e2, p2⟩ := p1.opt
    cases vx with
    | own o => cases e1
    | sl i => cases e1
    | v w =>
      cases e1
      exact seqV_ok g1.st.le e2 rx fun ds g r hg => p2.now g1.st n1 (_, g) ⟨enum_rels 0 r, hg⟩
  | .zip a b, N, F, S, env, denv, Q, E, h, hN, p => by
    unfold vW at p
    unfold evW
    refine ev_ok a h (fun _ z => z) ((Post.bind (Rel1 := RRel denv) hN p).mono fun x S1 ⟨F1, env1, vx, g1, rx, n1, p⟩ => ?_)
    refine ev_ok b g1.st (fun _ z => z) ((Post.bind (Rel1 := RRel denv) n1 p).mono fun y S2 ⟨F2, env2, vy, g2, ry, n2, p⟩ => ?_)
    obtain ⟨u, e1, p1⟩ := p.opt
    obtain ⟨v, e2, p2⟩ := p1.opt
    obtain ⟨vs, e3, p3⟩ := p2.opt
    cases vx with
    | own o => cases e1
    | sl i => cases e1
    | v w =>
      cases e1
      cases vy with
      | own o => cases e2
      | sl i => cases e2
      | v w2 =>
        cases e2
        exact zipVV_ok g2.st.le e3 (VRel.mono g2.le _ _ rx) ry fun ds g r hg => p3.now g2.st n2 (ds, g) ⟨r, hg⟩
end
end
end PV
end
section
set_option Elab.async false
set_option linter.all false
set_option maxRecDepth 100000
set_option maxHeartbeats 4000000
/-! PyV, part G: statements, functions: what the functions tell of a law the core program's wants say too. -/
namespace PV
open PySem PD
def PostS (N : Addr → Prop) (F S : DS) (env : VEnv) (denv : DEnv) (r : SR) (R : En) (E : QE) : Prop := match r with
  | .nx env' => ∀ F' S' denv', Go N F S env denv F' S' env' denv' → R.nx denv' S'
  | .rt r env' => ∀ F' S' denv' d, Go N F S env denv F' S' env' denv' → RR N F' S' env' denv' r d → R.rt d S'
  | .bk env' => ∀ F' S' denv', Go N F S env denv F' S' env' denv' → R.bk denv' S'
  | .ct env' => ∀ F' S' denv', Go N F S env denv F' S' env' denv' → R.ct denv' S'
  | .exc c fs env' => ∀ F' S' denv' ds, Go N F S env denv F' S' env' denv' → VRels F' fs ds → E ⟨c, ds⟩ S'
  | .bad => False
section
variable {N N' : Addr → Prop} {F S F1 S1 F2 S2 : DS} {env env1 env2 : VEnv} {denv denv1 denv2 : DEnv}
theorem PostS.go {r : SR} {R : En} {E : QE} (g : Go N F S env denv F1 S1 env1 denv1) (p : PostS N F S env denv r R E) : PostS N F1 S1 env1 denv1 r R E := by
  cases r with
  | nx e => exact fun F2 S2 d2 g2 => p F2 S2 d2 (g.trans g2)
  | rt v e => exact fun F2 S2 d2 d g2 rr => p F2 S2 d2 d (g.trans g2) rr
  | bk e => exact fun F2 S2 d2 g2 => p F2 S2 d2 (g.trans g2)
  | ct e => exact fun F2 S2 d2 g2 => p F2 S2 d2 (g.trans g2)
  | exc c fs e => exact fun F2 S2 d2 ds g2 rr => p F2 S2 d2 ds (g.trans g2) rr
  | bad => exact p
theorem PostS.bindS {α β : Type} {Rel1 : (Addr → Prop) → DS → DS → VEnv → α → β → Prop} {r : Res α} {f : α → VEnv → SR} {R : En} {E : QE} (hN : ∀ a, Av S env denv a → N a) (h : PostS N F S env denv (r.bindS f) R E) :
    Post (Av S env denv) Rel1 F S env denv r (fun b S1 => ∃ F1 env1 a, Go (Av S env denv) F S env denv F1 S1 env1 denv ∧ Rel1 (Av S env denv) F1 S1 env1 a b ∧ (∀ a, Av S1 env1 denv a → N a) ∧ PostS N F1 S1 env1 denv (f a env1) R E) E := by
  cases r with
  | ok a env' =>
    intro F1 S1 b g rel
    exact ⟨F1, env', a, g, rel, fun x hx => hN x (g.av (fun _ z => z) x hx), PostS.go (g.up hN) h⟩
  | exc c fs env' => exact fun F1 S1 ds g rel => h F1 S1 denv ds (g.up hN) rel
  | bad => exact h
theorem PostS.bind {r : SR} {f : VEnv → SR} {R : En} {E : QE} (hN : ∀ a, Av S env denv a → N a) (h : PostS N F S env denv (r.bind f) R E) :
    PostS N F S env denv r { R with nx := fun e S1 => ∃ F1 env1, Go N F S env denv F1 S1 env1 e ∧ (∀ a, Av S1 env1 e a → N a) ∧ PostS N F1 S1 env1 e (f env1) R E } E := by
  cases r with
  | nx env' =>
    intro F1 S1 d1 g
    exact ⟨F1, env', g, g.av hN, PostS.go g h⟩
  | rt v e => exact h
  | bk e => exact h
  | ct e => exact h
  | exc c fs e => exact h
  | bad => exact h
theorem PostS.mono {r : SR} {R R2 : En} {E : QE} (h : PostS N F S env denv r R E) (u1 : ∀ e S', R.nx e S' → R2.nx e S') (u2 : ∀ d S', R.rt d S' → R2.rt d S') (u3 : ∀ e S', R.bk e S' → R2.bk e S') (u4 : ∀ e S', R.ct e S' → R2.ct e S') : PostS N F S env denv r R2 E := by
  cases r with
  | nx e => exact fun F2 S2 d2 g2 => u1 _ _ (h F2 S2 d2 g2)
  | rt v e => exact fun F2 S2 d2 d g2 rr => u2 _ _ (h F2 S2 d2 d g2 rr)
  | bk e => exact fun F2 S2 d2 g2 => u3 _ _ (h F2 S2 d2 g2)
  | ct e => exact fun F2 S2 d2 g2 => u4 _ _ (h F2 S2 d2 g2)
  | exc c fs e => exact h
  | bad => exact h
theorem PostS.ite {c : Prop} [Decidable c] {r : SR} {R : En} {E : QE} (h : PostS N F S env denv (if c then r else .bad) R E) : c ∧ PostS N F S env denv r R E := by
  by_cases z : c
  · rw [if_pos z] at h; exact ⟨z, h⟩
  · rw [if_neg z] at h; exact h.elim
theorem PostS.opt {α : Type} {o : Option α} {k : α → SR} {R : En} {E : QE} (h : PostS N F S env denv (optS o k) R E) : ∃ a, o = some a ∧ PostS N F S env denv (k a) R E := by
  cases o with
  | none => exact h.elim
  | some a => exact ⟨a, rfl, h⟩
theorem PostS.tg {sl : List Nat} {r : Res Unit} {R : En} {E : QE} (h : PostS N F S env denv (r.bindS fun _ env2 => .nx env2) R E) : PostT N sl F S env denv r R.nx E := by
  cases r with
  | ok u e => exact fun F' S' d' g _ => h F' S' d' g
  | exc c fs e => exact h
  | bad => exact h
theorem RRs.step : ∀ {rs : List Rv} {ds : List D}, (∀ k, Rv.sl k ∉ rs) → (∀ (a : Addr) (i : Nat) (o : VO), rs[i]? = some (.own o) → ds[i]? = some (.ref a) → OwnA env1 denv1 a → OwnA env denv a) → RRs N F S env denv rs ds → RRs N F S env1 denv1 rs ds
  | [], ds, hs, ow, h => h
  | r :: rs, ds, hs, ow, h => by
    obtain ⟨d, es, rfl, h1, h2, h3⟩ := h
    refine ⟨d, es, rfl, ?_, RRs.step (fun k z => hs k (List.mem_cons_of_mem _ z)) (fun a i o e1 e2 z => ow a (i + 1) o (by simpa using e1) (by simpa using e2) z) h2, h3⟩
    cases r with
    | v v => exact h1
    | sl k => exact absurd (List.mem_cons_self ..) (hs k)
    | own o =>
      obtain ⟨a, so, rfl, q2, q3, q4, q5, q6⟩ := h1
      exact ⟨a, so, rfl, q2, q3, q4, fun z => q5 (ow a 0 o rfl rfl z), q6⟩
theorem asgNs_sl : ∀ {ts : List Tg} {rs : List Rv} {env env' : VEnv}, asgNs ts rs env = some env' → ∀ k, Rv.sl k ∉ rs
  | [], [], env, env', e, k => by simp
  | .name i :: ts, .v v :: rs, env, env', e, k => by
    unfold asgNs at e
    split at e
    · intro z
      rcases List.mem_cons.mp z with z | z
      · cases z
      · exact asgNs_sl e k z
    · cases e
  | .name i :: ts, .own o :: rs, env, env', e, k => by
    unfold asgNs at e
    split at e
    · intro z
      rcases List.mem_cons.mp z with z | z
      · cases z
      · exact asgNs_sl e k z
    · cases e
  | .name i :: ts, .sl j :: rs, env, env', e, k => by cases e
  | .name i :: ts, [], env, env', e, k => by cases e
  | [], _ :: _, env, env', e, k => by cases e
  | .tup _ :: _, rs, env, env', e, k => by unfold asgNs at e; cases e
  | .sub _ _ :: _, rs, env, env', e, k => by unfold asgNs at e; cases e
theorem setS_own {i : Nat} {s : Sl} {d : Option D} (hl : env.length = denv.length) (e : setS env i s = some env1) : ∀ a, OwnA env1 (denv.set i d) a → OwnA env denv a ∨ (∃ b o, s = .own b o) ∧ d = some (.ref a) := fun a ⟨j, b, o, q1, q2⟩ => by
  unfold setS at e
  split at e
  · cases e
  cases e
  rw [getD_set] at q1
  split at q1
  · rename_i z
    obtain ⟨rfl, z2⟩ := z
    rw [List.getElem?_set_self (by omega)] at q2
    exact .inr ⟨⟨b, o, q1⟩, Option.some.inj q2⟩
  · rename_i z
    refine .inl ⟨j, b, o, q1, ?_⟩
    rw [List.getElem?_set] at q2
    split at q2
    · rename_i z2
      subst z2
      exact absurd ⟨rfl, getD_ne q1 (by intro z; cases z)⟩ z
    · exact q2
/-- names are given new objects -/
theorem asgNs_ok {G : GG} {Q : DEnv → DS → Prop} {E : QE} : ∀ {ts : List Tg} {rs : List Rv} {ds : List D} {F S : DS} {env env' : VEnv} {denv : DEnv}, St F S env denv → (∀ a, Av S env denv a → N a) → RRs N F S env denv rs ds → asgNs ts rs env = some env' →
    (∀ denv', Go N F S env denv F S env' denv' → Q denv' S) → ds.length = ts.length ∧ tgsW G ts ds denv S Q E
  | [], [], ds, F, S, env, env', denv, h, hN, rr, e, q => by
    cases e
    rw [show ds = [] from rr]
    refine ⟨rfl, ?_⟩
    unfold tgsW
    exact q denv (Go.refl h fun a z => hN a (.inl z))
  | .name i :: ts, .v v :: rs, ds, F, S, env, env', denv, h, hN, rr, e, q => by
    obtain ⟨d, es, rfl, r1, r2, r3⟩ := rr
    unfold asgNs at e
    split at e
    · rename_i env1 e1
      have g := go_val h hN r1 e1
      have r2' : RRs N F S env1 (denv.set i (some d)) rs es := r2.step (asgNs_sl e) fun a _ _ _ _ z => (setS_own h.r.len e1 a z).resolve_right fun z => by obtain ⟨⟨b, o, z⟩, _⟩ := z; cases z
      obtain ⟨l, w⟩ := asgNs_ok (G := G) (Q := Q) (E := E) g.st (g.av hN) r2' e fun denv' g2 => q denv' (g.trans g2)
      refine ⟨by rw [List.length_cons, List.length_cons, l], ?_⟩
      unfold tgsW tgW
      exact w
    · cases e
  | .name i :: ts, .own o :: rs, ds, F, S, env, env', denv, h, hN, rr, e, q => by
    obtain ⟨d, es, rfl, r1, r2, r3⟩ := rr
    unfold asgNs at e
    split at e
    · rename_i env1 e1
      obtain ⟨a, so, rfl, q2, q3, q4, q5, q6⟩ := r1
      have g := go_own h hN q2 q3 q4 q5 q6 e1
      have r2' : RRs N F S env1 (denv.set i (some (.ref a))) rs es := r2.step (asgNs_sl e) fun x k o' hk hx z => (setS_own h.r.len e1 x z).resolve_right fun z => by
        have z := z.2
        cases z
        exact r3 o a rfl rfl k o' hk hx
      obtain ⟨l, w⟩ := asgNs_ok (G := G) (Q := Q) (E := E) g.st (g.av hN) r2' e fun denv' g2 => q denv' (g.trans g2)
      refine ⟨by rw [List.length_cons, List.length_cons, l], ?_⟩
      unfold tgsW tgW
      exact w
    · cases e
  | .name i :: ts, .sl k :: rs, ds, F, S, env, env', denv, h, hN, rr, e, q => by cases e
  | .name i :: ts, [], ds, F, S, env, env', denv, h, hN, rr, e, q => by cases e
  | [], _ :: _, ds, F, S, env, env', denv, h, hN, rr, e, q => by cases e
  | .tup _ :: _, rs, ds, F, S, env, env', denv, h, hN, rr, e, q => by unfold asgNs at e; cases e
  | .sub _ _ :: _, rs, ds, F, S, env, env', denv, h, hN, rr, e, q => by unfold asgNs at e; cases e
theorem RRs.length : ∀ {rs : List Rv} {ds : List D}, RRs N F S env denv rs ds → ds.length = rs.length
  | [], ds, r => by rw [show ds = [] from r]; rfl
  | r :: rs, ds, h => by
    obtain ⟨d, es, rfl, _, h2, _⟩ := h
    rw [List.length_cons, List.length_cons, RRs.length h2]
end
section
variable {G : GV} {GD : GG} (hG : GOk G GD)
include hG
theorem asg_ok {t : Tg} {e : C} {N : Addr → Prop} {F S : DS} {env : VEnv} {denv : DEnv} {R : En} {E : QE} (h : St F S env denv) (hN : ∀ a, Av S env denv a → N a) (p : PostS N F S env denv (asgV G t e env) R E) :
    evC GD e denv S (fun d S1 => tgW GD t d denv S1 R.nx E) E := by
  have gen : ∀ m, PostS N F S env denv ((ev G m e env).bindS fun r env1 => (tgV G t r env1).bindS fun _ env2 => .nx env2) R E → evC GD e denv S (fun d S1 => tgW GD t d denv S1 R.nx E) E := fun m p => by
    refine ev_ok hG e h (fun _ z => z) ((PostS.bindS (Rel1 := RRel denv) hN p).mono fun x S1 ⟨F1, env1, vx, g1, rx, n1, p⟩ => ?_)
    exact tgV_ok hG t g1.st n1 (RR.up hN rx) (PostS.tg p)
  unfold asgV at p
  split at p
  · rename_i ts es
    split at p
    · unfold evC
      refine vRs_ok hG es h (fun _ z => z) ((PostS.bindS (Rel1 := RRl denv) hN p).mono fun ds S1 ⟨F1, env1, rs, g1, ra, n1, p⟩ => ?_)
      obtain ⟨hl, p⟩ := p.ite
      obtain ⟨env2, e2, p⟩ := p.opt
      refine ⟨by rw [RRs.length ra]; exact hl, ?_⟩
      unfold tgW
      exact asgNs_ok g1.st n1 (RRs.up hN ra) e2 fun d2 g2 => p F1 S1 d2 g2
    · exact gen _ p
  · exact gen _ p
theorem for_ok {tg : Tg} {b : List T} (hb : ∀ {N : Addr → Prop} {F S : DS} {env : VEnv} {denv : DEnv} {R : En} {E : QE}, St F S env denv → (∀ a, Av S env denv a → N a) → PostS N F S env denv (xTs G b env) R E → PD.exTs GD b denv S R E) :
    ∀ (vs : List V) (ds : List D) {g : Gd} {N : Addr → Prop} {F S : DS} {env : VEnv} {denv : DEnv} {R : En} {E : QE}, St F S env denv → (∀ a, Av S env denv a → N a) → VRels F vs ds → GdF g F → PostS N F S env denv (forV (tgV G tg) (xTs G b) vs env) R E →
      forW (fun d env S Q => tgW GD tg d env S Q E) (fun env S R => PD.exTs GD b env S R E) g ds denv S R
  | [], ds, g, N, F, S, env, denv, R, E, h, hN, r, hg, p => by
    rw [show ds = [] from r]
    exact ⟨hg.ok h.le, p F S denv (Go.refl h fun a z => hN a (.inl z))⟩
  | v :: vs, ds, g, N, F, S, env, denv, R, E, h, hN, r, hg, p => by
    obtain ⟨d, es, rfl, r1, r2⟩ := r
    refine ⟨hg.ok h.le, ?_⟩
    unfold forV at p
    refine tgV_ok hG tg h hN (r := .v v) r1 ?_
    cases e1 : tgV G tg (.v v) env with
    | bad => rw [e1] at p; exact p
    | exc c fs env1 => rw [e1] at p; exact p
    | ok u env1 =>
      rw [e1] at p
      intro F1 S1 denv1 g1 _
      have p : PostS N F S env denv (match xTs G b env1 with
        | .nx e => forV (tgV G tg) (xTs G b) vs e
        | .ct e => forV (tgV G tg) (xTs G b) vs e
        | .bk e => .nx e
        | r => r) R E := p
      refine hb g1.st (g1.av hN) ?_
      cases e2 : xTs G b env1 with
      | bad => rw [e2] at p; exact p
      | exc c fs env2 => rw [e2] at p; exact PostS.go g1 p
      | rt r env2 => rw [e2] at p; exact PostS.go g1 p
      | bk env2 => rw [e2] at p; exact fun F2 S2 d2 g2 => p F2 S2 d2 (g1.trans g2)
      | nx env2 =>
        rw [e2] at p
        intro F2 S2 d2 g2
        have ga := g1.trans g2
        exact for_ok hb vs es ga.st (ga.av hN) (VRels.mono ga.le _ _ r2) (hg.mono ga.le) (PostS.go ga p)
      | ct env2 =>
        rw [e2] at p
        intro F2 S2 d2 g2
        have ga := g1.trans g2
        exact for_ok hb vs es ga.st (ga.av hN) (VRels.mono ga.le _ _ r2) (hg.mono ga.le) (PostS.go ga p)
theorem while_ok {t : Te} {b : List T} (hb : ∀ {N : Addr → Prop} {F S : DS} {env : VEnv} {denv : DEnv} {R : En} {E : QE}, St F S env denv → (∀ a, Av S env denv a → N a) → PostS N F S env denv (xTs G b env) R E → PD.exTs GD b denv S R E) :
    ∀ (n : Nat) {N : Addr → Prop} {F S : DS} {env : VEnv} {denv : DEnv} {R : En} {E : QE}, St F S env denv → (∀ a, Av S env denv a → N a) → PostS N F S env denv (whileV (vT G t) (xTs G b) n env) R E →
      whileW (fun env S Q => PD.evT GD t env S Q E) (fun env S R => PD.exTs GD b env S R E) n denv S R
  | 0, N, F, S, env, denv, R, E, h, hN, p => p.elim
  | n + 1, N, F, S, env, denv, R, E, h, hN, p => by
    unfold whileV at p
    unfold whileW
    refine vT_ok hG t h (fun _ z => z) ((PostS.bindS (Rel1 := BRl) hN p).mono fun x S1 ⟨F1, env1, vx, g1, rx, n1, p⟩ => ?_)
    obtain rfl : vx = x := rx
    cases vx with
    | false => exact p F1 S1 denv (Go.refl g1.st fun a z => n1 a (.inl z))
    | true =>
      rw [if_pos rfl] at p
      refine hb g1.st n1 ?_
      cases e2 : xTs G b env1 with
      | bad => rw [e2] at p; exact p
      | exc c fs env2 => rw [e2] at p; exact p
      | rt r env2 => rw [e2] at p; exact p
      | bk env2 => rw [e2] at p; exact p
      | nx env2 =>
        rw [e2] at p
        intro F2 S2 d2 g2
        exact while_ok hb n g2.st (g2.av n1) (PostS.go g2 p)
      | ct env2 =>
        rw [e2] at p
        intro F2 S2 d2 g2
        exact while_ok hb n g2.st (g2.av n1) (PostS.go g2 p)
mutual
theorem xT_ok : ∀ (t : T) {N : Addr → Prop} {F S : DS} {env : VEnv} {denv : DEnv} {R : En} {E : QE}, St F S env denv → (∀ a, Av S env denv a → N a) → PostS N F S env denv (xT G t env) R E → PD.exT GD t denv S R E
  | .ret e, N, F, S, env, denv, R, E, h, hN, p => by
    unfold xT at p
    unfold PD.exT
    refine ev_ok hG e h (fun _ z => z) ((PostS.bindS (Rel1 := RRel denv) hN p).mono fun x S1 ⟨F1, env1, vx, g1, rx, n1, p⟩ => ?_)
    exact p F1 S1 denv x (Go.refl g1.st fun a z => n1 a (.inl z)) (RR.up hN rx)
  | .retN, N, F, S, env, denv, R, E, h, hN, p => by
    unfold xT at p
    unfold PD.exT
    exact p F S denv .non (Go.refl h fun a z => hN a (.inl z)) rfl
  | .expr e, N, F, S, env, denv, R, E, h, hN, p => by
    unfold xT at p
    unfold PD.exT
    refine ev_ok hG e h (fun _ z => z) ((PostS.bindS (Rel1 := RRel denv) hN p).mono fun x S1 ⟨F1, env1, vx, g1, rx, n1, p⟩ => ?_)
    exact p F1 S1 denv (Go.refl g1.st fun a z => n1 a (.inl z))
  | .asg t e, N, F, S, env, denv, R, E, h, hN, p => by
    unfold xT at p
    unfold PD.exT
    exact asg_ok hG h hN p
  | .aug i o e, N, F, S, env, denv, R, E, h, hN, p => by
    unfold xT at p
    unfold PD.exT
    split at p
    · rename_i a ea
      obtain ⟨d, q1, q2⟩ := h.r.val i _ ea
      unfold slotW
      rw [q1]
      obtain rfl : d = .int a := q2
      refine ev_ok hG e h (fun _ z => z) ((PostS.bindS (Rel1 := RRel denv) hN p).mono fun y S1 ⟨F1, env1, vy, g1, ry, n1, p⟩ => ?_)
      obtain ⟨v, e1, p⟩ := p.opt
      have r := RR.deref g1.st ry e1
      cases v with
      | int b =>
        rw [r.int]
        obtain ⟨z, e3, p⟩ := p.opt
        refine binV_ok (F := F1) g1.st.le e3 (.inl rfl) (.inl rfl) ?_
        cases z with
        | own o => exact p.elim
        | sl k => exact p.elim
        | v z =>
          intro d rd
          obtain ⟨env2, e4, p⟩ := p.opt
          exact p F1 S1 _ (go_val g1.st n1 rd e4)
      | _ => exact p.elim
    · exact p.elim
  | .ite t a b, N, F, S, env, denv, R, E, h, hN, p => by
    unfold xT at p
    unfold PD.exT
    refine vT_ok hG t h (fun _ z => z) ((PostS.bindS (Rel1 := BRl) hN p).mono fun x S1 ⟨F1, env1, vx, g1, rx, n1, p⟩ => ?_)
    obtain rfl : vx = x := rx
    cases vx with
    | true => exact xTs_ok a g1.st n1 p
    | false => exact xTs_ok b g1.st n1 p
  | .while t b, N, F, S, env, denv, R, E, h, hN, p => by
    unfold xT at p
    unfold PD.exT
    exact ⟨G.wf, while_ok hG (fun h hN p => xTs_ok b h hN p) G.wf h hN p⟩
  | .for tg w b, N, F, S, env, denv, R, E, h, hN, p => by
    unfold xT at p
    unfold PD.exT
    refine vW_ok hG w h (fun _ z => z) ((PostS.bindS (Rel1 := WRl) hN p).mono fun q S1 ⟨F1, env1, vs, g1, rs, n1, p⟩ => ?_)
    exact for_ok hG (fun h hN p => xTs_ok b h hN p) vs q.1 g1.st n1 rs.1 rs.2 p
  | .raise c es, N, F, S, env, denv, R, E, h, hN, p => by
    unfold xT at p
    unfold PD.exT
    refine vCs_ok hG es h (fun _ z => z) ((PostS.bindS (Rel1 := VRl) hN p).mono fun ds S1 ⟨F1, env1, vs, g1, rs, n1, p⟩ => ?_)
    exact p F1 S1 denv ds (Go.refl g1.st fun a z => n1 a (.inl z)) rs
  | .brk, N, F, S, env, denv, R, E, h, hN, p => by
    unfold xT at p
    unfold PD.exT
    exact p F S denv (Go.refl h fun a z => hN a (.inl z))
  | .cont, N, F, S, env, denv, R, E, h, hN, p => by
    unfold xT at p
    unfold PD.exT
    exact p F S denv (Go.refl h fun a z => hN a (.inl z))
  | .pass, N, F, S, env, denv, R, E, h, hN, p => by
    unfold xT at p
    unfold PD.exT
    exact p F S denv (Go.refl h fun a z => hN a (.inl z))
  | .never, N, F, S, env, denv, R, E, h, hN, p => by
    unfold xT at p
    exact p.elim
theorem xTs_ok : ∀ (ts : List T) {N : Addr → Prop} {F S : DS} {env : VEnv} {denv : DEnv} {R : En} {E : QE}, St F S env denv → (∀ a, Av S env denv a → N a) → PostS N F S env denv (xTs G ts env) R E → PD.exTs GD ts denv S R E
  | [], N, F, S, env, denv, R, E, h, hN, p => by
    unfold xTs at p
    unfold PD.exTs
    exact p F S denv (Go.refl h fun a z => hN a (.inl z))
  | t :: ts, N, F, S, env, denv, R, E, h, hN, p => by
    unfold xTs at p
    unfold PD.exTs
    refine xT_ok t h hN ((PostS.bind hN p).mono (fun e S1 ⟨F1, env1, g1, n1, p⟩ => ?_) (fun _ _ z => z) (fun _ _ z => z) fun _ _ z => z)
    exact xTs_ok ts g1.st n1 p
end
end
/-! ### functions -/
theorem getD_app {env : VEnv} {k i : Nat} : (env ++ List.replicate k Sl.none).getD i .none = env.getD i .none := by
  rw [List.getD_eq_getElem?_getD, List.getD_eq_getElem?_getD]
  rcases Nat.lt_or_ge i env.length with z | z
  · rw [List.getElem?_append_left z]
  · rw [List.getElem?_append_right z, List.getElem?_eq_none z, List.getElem?_replicate]
    split <;> rfl
section
variable {N : Addr → Prop} {F S F1 S1 : DS} {env env1 : VEnv} {denv denv1 : DEnv} {args : List Sl}
theorem st_app (h : St F S env denv) (k : Nat) : St F S (env ++ List.replicate k .none) (denv ++ List.replicate k none) := by
  refine ⟨h.le, ⟨by simp [h.r.len], fun i v e => ?_, fun i b o e => ?_, fun i j a b b' o o' e1 e2 e3 e4 => ?_⟩⟩
  · rw [getD_app] at e
    obtain ⟨d, q1, q2⟩ := h.r.val i v e
    exact ⟨d, by rw [List.getElem?_append_left (by rw [← h.r.len]; exact getD_ne e (by intro z; cases z))]; exact q1, q2⟩
  · rw [getD_app] at e
    obtain ⟨a, so, q1, q2⟩ := h.r.own i b o e
    exact ⟨a, so, by rw [List.getElem?_append_left (by rw [← h.r.len]; exact getD_ne e (by intro z; cases z))]; exact q1, q2⟩
  · rw [getD_app] at e1 e2
    rw [List.getElem?_append_left (by rw [← h.r.len]; exact getD_ne e1 (by intro z; cases z))] at e3
    rw [List.getElem?_append_left (by rw [← h.r.len]; exact getD_ne e2 (by intro z; cases z))] at e4
    exact h.r.inj i j a b b' o o' e1 e2 e3 e4
theorem own_app (hl : env.length = denv.length) {k : Nat} {a : Addr} : OwnA (env ++ List.replicate k .none) (denv ++ List.replicate k none) a → OwnA env denv a := fun ⟨i, b, o, q1, q2⟩ => by
  rw [getD_app] at q1
  rw [List.getElem?_append_left (by rw [← hl]; exact getD_ne q1 (by intro z; cases z))] at q2
  exact ⟨i, b, o, q1, q2⟩
theorem outs_get : ∀ {args : List Sl} {k : Nat} {os : List VO}, outsAt env1 (ownPos k args) = some os → ∀ i b o, (setOuts args os).getD i .none = .own b o → (∃ o0, args.getD i .none = .own b o0) ∧ env1.getD (k + i) .none = .own true o
  | [], k, os, e, i, b, o, q => by
    unfold setOuts at q
    simp at q
  | .none :: args, k, os, e, i, b, o, q => by
    have z : setOuts (.none :: args) os = .none :: setOuts args os := by cases os <;> rfl
    rw [z] at q
    cases i with
    | zero => cases q
    | succ i =>
      rw [getD_cons] at q
      have := outs_get (args := args) (k := k + 1) e i b o q
      rw [getD_cons]
      exact ⟨this.1, by rw [show k + (i + 1) = k + 1 + i by omega]; exact this.2⟩
  | .val v :: args, k, os, e, i, b, o, q => by
    rw [setOuts_val] at q
    cases i with
    | zero => cases q
    | succ i =>
      rw [getD_cons] at q
      have := outs_get (args := args) (k := k + 1) e i b o q
      rw [getD_cons]
      exact ⟨this.1, by rw [show k + (i + 1) = k + 1 + i by omega]; exact this.2⟩
  | .own c o1 :: args, k, os, e, i, b, o, q => by
    have e : outsAt env1 (k :: ownPos (k + 1) args) = some os := e
    unfold outsAt at e
    split at e
    · rename_i o2 e2
      cases e3 : outsAt env1 (ownPos (k + 1) args) with
      | none => rw [e3] at e; cases e
      | some os2 =>
        rw [e3] at e
        cases e
        have q : (Sl.own c o2 :: setOuts args os2).getD i .none = .own b o := q
        cases i with
        | zero => cases q; exact ⟨⟨o1, rfl⟩, e2⟩
        | succ i =>
          rw [getD_cons] at q
          have := outs_get (args := args) (k := k + 1) e3 i b o q
          rw [getD_cons]
          exact ⟨this.1, by rw [show k + (i + 1) = k + 1 + i by omega]; exact this.2⟩
    · cases e
theorem setOuts_gv : ∀ {args : List Sl} {os : List VO} {i : Nat} {v : V}, (setOuts args os).getD i .none = .val v → args.getD i .none = .val v
  | [], os, i, v, q => by
    unfold setOuts at q
    exact q
  | .none :: args, os, i, v, q => by
    have z : setOuts (.none :: args) os = .none :: setOuts args os := by cases os <;> rfl
    rw [z] at q
    cases i with
    | zero => exact q
    | succ i => rw [getD_cons] at q ⊢; exact setOuts_gv q
  | .val w :: args, os, i, v, q => by
    rw [setOuts_val] at q
    cases i with
    | zero => exact q
    | succ i => rw [getD_cons] at q ⊢; exact setOuts_gv q
  | .own c o :: args, [], i, v, q => by
    rw [setOuts_nil] at q
    exact q
  | .own c o :: args, o1 :: os, i, v, q => by
    have q : (Sl.own c o1 :: setOuts args os).getD i .none = .val v := q
    cases i with
    | zero => cases q
    | succ i => rw [getD_cons] at q ⊢; exact setOuts_gv q
theorem setOuts_len : ∀ {args : List Sl} {os : List VO}, (setOuts args os).length = args.length
  | [], os => rfl
  | .none :: args, os => by
    have z : setOuts (.none :: args) os = .none :: setOuts args os := by cases os <;> rfl
    rw [z, List.length_cons, List.length_cons, setOuts_len]
  | .val w :: args, os => by rw [setOuts_val, List.length_cons, List.length_cons, setOuts_len]
  | .own c o :: args, [] => by rw [setOuts_nil]
  | .own c o :: args, o1 :: os => by
    show (Sl.own c o1 :: setOuts args os).length = _
    rw [List.length_cons, List.length_cons, setOuts_len]
/-- a body's end, as the caller sees it -/
theorem fin_go {ds : List D} {k : Nat} {os : List VO} (h : St F S args (ds.map some)) (hN : ∀ a, Av S args (ds.map some) a → N a)
    (g : Go N F S (args ++ List.replicate k .none) (ds.map some ++ List.replicate k none) F1 S1 env1 denv1) (e : outsAt env1 (ownPos 0 args) = some os) :
    Go N F S args (ds.map some) F1 S1 (setOuts args os) (ds.map some) ∧ ∀ a, OwnA (setOuts args os) (ds.map some) a → OwnA env1 denv1 a := by
  have ow : ∀ i b o, (setOuts args os).getD i .none = .own b o → (∃ o0, args.getD i .none = .own b o0) ∧ env1.getD i .none = .own true o ∧ denv1[i]? = (ds.map some)[i]? := fun i b o q => by
    obtain ⟨⟨o0, e0⟩, q2⟩ := outs_get e i b o q
    rw [Nat.zero_add] at q2
    obtain ⟨_, q3⟩ := g.bo i o q2
    rw [List.getElem?_append_left (by rw [← h.r.len]; exact getD_ne e0 (by intro z; cases z))] at q3
    exact ⟨⟨o0, e0⟩, q2, q3⟩
  refine ⟨⟨⟨g.st.le, ⟨by rw [setOuts_len]; exact h.r.len, fun i v q => ?_, fun i b o q => ?_, fun i j a b b' o o' q1 q2 q3 q4 => ?_⟩⟩, g.le, fun a z => ?_, g.fr, fun i o q => ⟨(ow i true o q).1, rfl⟩, setOuts_len⟩, fun a ⟨i, b, o, q1, q2⟩ => ?_⟩
  · obtain ⟨d, q1, q2⟩ := h.r.val i v (setOuts_gv q)
    exact ⟨d, q1, VRel.mono g.le _ _ q2⟩
  · obtain ⟨_, q2, q3⟩ := ow i b o q
    rw [← q3]
    exact g.st.r.own i true o q2
  · obtain ⟨_, a2, a3⟩ := ow i b o q1
    obtain ⟨_, b2, b3⟩ := ow j b' o' q2
    rw [← a3] at q3
    rw [← b3] at q4
    exact g.st.r.inj i j a true true o o' a2 b2 q3 q4
  · rcases z with ⟨i, b, o, q1, q2⟩ | z
    · obtain ⟨⟨o0, e0⟩, _, _⟩ := ow i b o q1
      exact .inl (hN a (.inl ⟨i, b, o0, e0, q2⟩))
    · exact g.nw a (.inr z)
  · obtain ⟨_, a2, a3⟩ := ow i b o q1
    exact ⟨i, true, o, a2, by rw [a3]; exact q2⟩
theorem RR.fin {ds : List D} {os : List VO} {r : Rv} {d : D} (ow : ∀ a, OwnA (setOuts args os) (ds.map some) a → OwnA env1 denv1 a) (hr : ∀ i, r ≠ .sl i) (h : RR N F1 S1 env1 denv1 r d) : RR N F1 S1 (setOuts args os) (ds.map some) r d := by
  cases r with
  | v v => exact h
  | sl i => exact absurd rfl (hr i)
  | own o =>
    obtain ⟨a, so, q1, q2, q3, q4, q5, q6⟩ := h
    exact ⟨a, so, q1, q2, q3, q4, fun z => q5 (ow a z), q6⟩
end
theorem gl_okV {P : Prog} {g : Nat} {v : V} (h : glV P g = some v) : ∃ p, P.gl[g]? = some p ∧ ∀ F, VRel F v p.2 := by
  unfold glV at h
  split at h
  · rename_i p e
    exact ⟨p, e, fun F => toV_ok p.2 v h⟩
  · cases h
theorem run_ok (P : Prog) (sg : Nat → List Nat) (wf : Nat) : ∀ n : Nat, CallOk (run P sg wf n) (sem P n) := by
  intro n
  induction n using Nat.strongRecOn with
  | _ n ih =>
    cases n with
    | zero =>
      intro f args ds F S Q E h hb p
      exact p.elim
    | succ n =>
      have hG : GOk (gv P sg wf n) (P.gg n) := by
        refine ⟨fun g v e => gl_okV e, ih n (by omega), ?_, rfl⟩
        show CallOk (runL P sg wf n) (semL P n)
        match n with
        | 0 => exact fun f args ds F S Q E h hb p => p.elim
        | 1 => exact fun f args ds F S Q E h hb p => p.elim
        | n + 2 => exact ih n (by omega)
      intro f args ds F S Q E h hb p
      rw [run_succ] at p
      rw [sem_succ]
      cases hF : P.fns[f]? with
      | none => rw [hF] at p; exact p.elim
      | some Fn =>
        rw [hF] at p
        have p : PostC F S args ds (if args.length = Fn.ps.length then finV (ownPos 0 args) (xTs (gv P sg wf n) Fn.body (args ++ List.replicate (Fn.N.length - Fn.ps.length) .none)) else .bad) Q E := p
        split at p
        · rename_i hl
          have hl2 : ds.length = Fn.ps.length := by
            have := h.r.len
            rw [List.length_map] at this
            omega
          refine ⟨hl2, ?_⟩
          have h2 := st_app h (Fn.N.length - Fn.ps.length)
          have hN : ∀ a, Av S (args ++ List.replicate (Fn.N.length - Fn.ps.length) .none) (ds.map some ++ List.replicate (Fn.N.length - Fn.ps.length) none) a → Av S args (ds.map some) a := fun a z => z.imp (own_app h.r.len) id
          refine xTs_ok hG Fn.body h2 hN ?_
          cases e : xTs (gv P sg wf n) Fn.body (args ++ List.replicate (Fn.N.length - Fn.ps.length) .none) with
          | bad => rw [e] at p; exact p.elim
          | bk e2 => rw [e] at p; exact p.elim
          | ct e2 => rw [e] at p; exact p.elim
          | nx e2 =>
            rw [e] at p
            unfold finV at p
            dsimp only at p
            split at p
            · rename_i os eo
              intro F1 S1 d1 g
              obtain ⟨g2, ow⟩ := fin_go h (fun _ z => z) g eo
              exact ⟨S1, DS.le.refl S1, p F1 S1 .non g2 rfl fun i z => nomatch z⟩
            · exact p.elim
          | rt r e2 =>
            rw [e] at p
            intro F1 S1 d1 d g rr
            cases eo : outsAt e2 (ownPos 0 args) with
            | none =>
              unfold finV at p
              dsimp only at p
              cases r <;> (try rw [eo] at p) <;> exact p.elim
            | some os =>
              obtain ⟨g2, ow⟩ := fin_go h (fun _ z => z) g eo
              unfold finV at p
              dsimp only at p
              cases r with
              | sl i => exact p.elim
              | v v =>
                rw [eo] at p
                exact ⟨S1, DS.le.refl S1, p F1 S1 d g2 (RR.fin ow (fun i z => nomatch z) rr) fun i z => nomatch z⟩
              | own o =>
                rw [eo] at p
                exact ⟨S1, DS.le.refl S1, p F1 S1 d g2 (RR.fin ow (fun i z => nomatch z) rr) fun i z => nomatch z⟩
          | exc c fs e2 =>
            rw [e] at p
            unfold finV at p
            dsimp only at p
            split at p
            · rename_i os eo
              intro F1 S1 d1 es g rr
              obtain ⟨g2, ow⟩ := fin_go h (fun _ z => z) g eo
              exact p F1 S1 es g2 rr
            · exact p.elim
        · exact p.elim
theorem ints_rel {F : DS} : ∀ ns : List Int, VRels F (ns.map V.int) (ns.map D.int)
  | [] => rfl
  | n :: ns => ⟨_, _, rfl, rfl, ints_rel ns⟩
/-- a law whose function answers True at all scripts: the core program's plain law -/
theorem plain_of {P : Prog} {sg : Nat → List Nat} {wf N fl : Nat} (h : ∀ ns : List Int, ns.length ≤ 63 → run P sg wf N fl [.val (.lst (ns.map V.int))] = .ok (.v (.bl true)) []) :
    ∀ (ns : List Int) (d : D) (S : DS), ns.length ≤ 63 → Script ns d S → sem P N fl [d] S (fun d _ => d = .bl true) noE := by
  intro ns d S hl hs
  refine run_ok P sg wf N fl [.val (.lst (ns.map V.int))] [d] S S _ _ ⟨DS.le.refl S, ⟨rfl, fun i v e => ?_, fun i b o e => ?_, fun i j a b b' o o' e => ?_⟩⟩ (fun i b o e => ?_) ?_
  · cases i with
    | zero =>
      cases e
      refine ⟨d, rfl, ns.map D.int, ?_, ints_rel ns⟩
      rcases hs with ⟨rfl, _⟩ | ⟨a, rfl, e, _⟩
      · exact .inl rfl
      · exact .inr ⟨a, rfl, e⟩
    | succ i => simp at e
  · cases i <;> simp at e
  · cases i <;> simp at e
  · cases i <;> simp at e
  · rw [h ns hl]
    exact fun F' S' d g rr _ => rr
end PV
end
section
set_option Elab.async false
set_option linter.all false
set_option autoImplicit true
set_option maxRecDepth 100000
/-! PyV, part R: one rule for each form, printed by mkeqs.py from PyVA. -/
namespace PV
open PD
section
variable {G : GV}
@[simp] theorem tgV_e1 : tgV G (.name i) r env = (match r with
    | .v v => optR (setS env i (.val v)) fun e => .ok () e
    | .own o => optR (setS env i (.own false o)) fun e => .ok () e
    | .sl _ => .bad) := rfl
@[simp] theorem tgV_e2 : tgV G (.tup ts) r env = (match r with
    | .v (.tup vs) => if vs.length = ts.length then tgsV G ts (vs.map .v) env else .bad
    | _ => .bad) := rfl
@[simp] theorem tgV_e3 : tgV G (.sub o i) r env = (match r with
    | .v v => (ev G .pk o env).bind fun x env1 => (ev G .pk i env1).bind fun y env2 => match x with
      | .sl k => match env2.getD k .none with
        | .own b vo => optR (deref env2 y) fun y => optR (setIV vo y v) fun vo2 => .ok () (env2.set k (.own b vo2))
        | _ => .bad
      | _ => .bad
    | _ => .bad) := rfl
@[simp] theorem tgsV_e1 : tgsV G [] u1 env = (.ok () env) := rfl
@[simp] theorem tgsV_e2 : tgsV G (t :: ts) rs env = (match rs with
    | r :: rs => (tgV G t r env).bind fun _ env1 => tgsV G ts rs env1
    | [] => .bad) := rfl
@[simp] theorem ev_e1 : ev G m (.var i) env = (varR m i env) := rfl
@[simp] theorem ev_e2 : ev G m (.int i) env = (.ok (.v (.int i)) env) := rfl
@[simp] theorem ev_e3 : ev G m (.str x) env = (.ok (.v (.str x)) env) := rfl
@[simp] theorem ev_e4 : ev G m (.bl b) env = (.ok (.v (.bl b)) env) := rfl
@[simp] theorem ev_e5 : ev G m (.non) env = (.ok (.v .non) env) := rfl
@[simp] theorem ev_e6 : ev G m (.gl g) env = (optR (G.gl g) fun v => .ok (.v v) env) := rfl
@[simp] theorem ev_e7 : ev G m (.ty n) env = (.ok (.v (.ty n)) env) := rfl
@[simp] theorem ev_e8 : ev G m (.neg a) env = ((ev G .pk a env).bind fun x env1 => optR (deref env1 x) fun x => match x with
    | .int i => .ok (.v (.int (-i))) env1
    | _ => .bad) := rfl
@[simp] theorem ev_e9 : ev G m (.not a) env = ((ev G .pk a env).bind fun x env1 => optR (deref env1 x) fun x => optR (truthV x) fun b => .ok (.v (.bl (!b))) env1) := rfl
@[simp] theorem ev_e10 : ev G m (.bin o a b) env = ((ev G .pk a env).bind fun x env1 => (ev G .pk b env1).bind fun y env2 => optR (deref env2 x) fun x => optR (deref env2 y) fun y => optR (binV o x y) fun r => .ok (ownR m r) env2) := rfl
@[simp] theorem ev_e11 : ev G m (.and a b) env = ((ev G .fz a env).bind fun x env1 => optR (valR x) fun x => optR (truthV x) fun k => if k = true then ev G m b env1 else .ok (.v x) env1) := rfl
@[simp] theorem ev_e12 : ev G m (.or a b) env = ((ev G .fz a env).bind fun x env1 => optR (valR x) fun x => optR (truthV x) fun k => if k = true then .ok (.v x) env1 else ev G m b env1) := rfl
@[simp] theorem ev_e13 : ev G m (.ite t a b) env = ((vT G t env).bind fun k env1 => if k = true then ev G m a env1 else ev G m b env1) := rfl
@[simp] theorem ev_e14 : ev G m (.cmp o a b) env = ((ev G .pk a env).bind fun x env1 => (ev G .pk b env1).bind fun y env2 => optR (deref env2 x) fun x => optR (deref env2 y) fun y => optR (cmpV o x y) fun k => .ok (.v (.bl k)) env2) := rfl
@[simp] theorem ev_e15 : ev G m (.chain o p a b c) env = ((ev G .pk a env).bind fun x env1 => (ev G .pk b env1).bind fun y env2 => optR (deref env2 x) fun x => optR (deref env2 y) fun y1 => optR (cmpV o x y1) fun k => if k = true then
      (ev G .pk c env2).bind fun z env3 => optR (deref env3 y) fun y => optR (deref env3 z) fun z => optR (cmpV p y z) fun k => .ok (.v (.bl k)) env3
    else .ok (.v (.bl false)) env2) := rfl
@[simp] theorem ev_e16 : ev G m (.call f es) env = ((vAs G (G.sg f) 0 es env).bind fun os env1 => callA m (G.call f) os env1) := rfl
@[simp] theorem ev_e17 : ev G m (.callL f es) env = ((vAs G (G.sg f) 0 es env).bind fun os env1 => callA m (G.low f) os env1) := rfl
@[simp] theorem ev_e18 : ev G m (.told t b) env = (match ev G .fz b env with
    | .exc c fs env1 => toldV G.told t c fs env1
    | r => r) := rfl
@[simp] theorem ev_e19 : ev G m (.callv i es) env = (match env.getD i .none with
    | .val (.fn f) => (vAs G (G.sg f) 0 es env).bind fun os env1 => callA m (G.call f) os env1
    | _ => .bad) := rfl
@[simp] theorem ev_e20 : ev G m (.bi b es) env = ((vPs G es env).bind fun os env1 => optR (derefs env1 os) fun vs => optR (biV b vs) fun v => .ok (.v v) env1) := rfl
@[simp] theorem ev_e21 : ev G m (.biL b l) env = ((vL G l env).bind fun vs env1 => optR (biLV b vs) fun r => .ok (ownR m r) env1) := rfl
@[simp] theorem ev_e22 : ev G m (.mth mm o es) env = ((ev G .pk o env).bind fun x env1 => match x with
    | .sl k => match env1.getD k .none with
      | .own _ vo1 => if kindV mm vo1 = true then (vCs G es env1).bind fun vs env2 => match env2.getD k .none with
          | .own b vo => optR (mthV mm vo vs) fun p => .ok (.v p.1) (env2.set k (.own b p.2))
          | _ => .bad
        else .bad
      | _ => .bad
    | _ => .bad) := rfl
@[simp] theorem ev_e23 : ev G m (.ext o l) env = ((ev G .pk o env).bind fun x env1 => match x with
    | .sl k => match env1.getD k .none with
      | .own _ vo1 => if kindV .extend vo1 = true then (vL G l env1).bind fun vs env2 => match env2.getD k .none with
          | .own b vo => optR (extV vo vs) fun vo2 => .ok (.v .non) (env2.set k (.own b vo2))
          | _ => .bad
        else .bad
      | _ => .bad
    | _ => .bad) := rfl
@[simp] theorem ev_e24 : ev G m (.ix a i) env = ((ev G .pk a env).bind fun x env1 => (ev G .pk i env1).bind fun y env2 => optR (deref env2 x) fun x => optR (deref env2 y) fun y => optR (ixV x y) fun v => .ok (.v v) env2) := rfl
@[simp] theorem ev_e25 : ev G m (.sl a lo hi) env = ((ev G .pk a env).bind fun x env1 => (vO G lo env1).bind fun l env2 => (vO G hi env2).bind fun h env3 => optR (deref env3 x) fun x => optR (slV x l h) fun r => .ok (ownR m r) env3) := rfl
@[simp] theorem ev_e26 : ev G m (.tup es) env = ((vCs G es env).bind fun vs env1 => if vs.length ≤ lim then .ok (.v (.tup vs)) env1 else .bad) := rfl
@[simp] theorem ev_e27 : ev G m (.mk l) env = ((vL G l env).bind fun vs env1 => .ok (ownR m (.own (.lst vs))) env1) := rfl
@[simp] theorem ev_e28 : ev G m (.dct0) env = (.ok (ownR m (.own (.dk [] []))) env) := rfl
@[simp] theorem vCs_e1 : vCs G [] env = (.ok [] env) := rfl
@[simp] theorem vCs_e2 : vCs G (e :: es) env = ((ev G .fz e env).bind fun r env1 => optR (valR r) fun v => (vCs G es env1).bind fun vs env2 => .ok (v :: vs) env2) := rfl
@[simp] theorem vPs_e1 : vPs G [] env = (.ok [] env) := rfl
@[simp] theorem vPs_e2 : vPs G (e :: es) env = ((ev G .pk e env).bind fun r env1 => noO r fun r => (vPs G es env1).bind fun rs env2 => .ok (r :: rs) env2) := rfl
@[simp] theorem vAs_e1 : vAs G sg u0 [] env = (.ok [] env) := rfl
@[simp] theorem vAs_e2 : vAs G sg j (e :: es) env = ((ev G (if sg.contains j = true then .pk else .fz) e env).bind fun r env1 => noO r fun r => (vAs G sg (j + 1) es env1).bind fun rs env2 => .ok (r :: rs) env2) := rfl
@[simp] theorem vRs_e1 : vRs G [] env = (.ok [] env) := rfl
@[simp] theorem vRs_e2 : vRs G (e :: es) env = ((ev G .as e env).bind fun r env1 => (vRs G es env1).bind fun rs env2 => .ok (r :: rs) env2) := rfl
@[simp] theorem vO_e1 : vO G none env = (.ok none env) := rfl
@[simp] theorem vO_e2 : vO G (some e) env = ((ev G .pk e env).bind fun x env1 => optR (deref env1 x) fun x => match x with
    | .int i => .ok (some i) env1
    | _ => .bad) := rfl
@[simp] theorem vTo_e1 : vTo G none env = (.ok true env) := rfl
@[simp] theorem vTo_e2 : vTo G (some t) env = (vT G t env) := rfl
@[simp] theorem vT_e1 : vT G (.and a b) env = ((vT G a env).bind fun k env1 => if k = true then vT G b env1 else .ok false env1) := rfl
@[simp] theorem vT_e2 : vT G (.or a b) env = ((vT G a env).bind fun k env1 => if k = true then .ok true env1 else vT G b env1) := rfl
@[simp] theorem vT_e3 : vT G (.not a) env = ((vT G a env).bind fun k env1 => .ok (!k) env1) := rfl
@[simp] theorem vT_e4 : vT G (.val e) env = ((ev G .pk e env).bind fun x env1 => optR (deref env1 x) fun x => optR (truthV x) fun k => .ok k env1) := rfl
@[simp] theorem vL_e1 : vL G (.lst es) env = ((vCs G es env).bind fun vs env1 => if vs.length ≤ lim then .ok vs env1 else .bad) := rfl
@[simp] theorem vL_e2 : vL G (.lc e tg w t) env = ((vW G w env).bind fun vs env1 => if vs.length ≤ lim then optR (wipeV env1 (tgSlots tg)) fun env0 =>
      (eachV (lcV (tgSlots tg) (tgV G tg) (vTo G t) (ev G .fz e)) vs env0).bind fun xs env2 => .ok xs (backV env1 env2 (tgSlots tg))
    else .bad) := rfl
@[simp] theorem vL_e3 : vL G (.ex e) env = ((ev G .pk e env).bind fun x env1 => optR (deref env1 x) fun x => optR (seqV x) fun vs => .ok vs env1) := rfl
@[simp] theorem vL_e4 : vL G (.exl e) env = ((ev G .pk e env).bind fun x env1 => optR (deref env1 x) fun x => optR (lslV x) fun vs => .ok vs env1) := rfl
@[simp] theorem vW_e1 : vW G (.ex e) env = ((ev G .fz e env).bind fun x env1 => optR (valR x) fun x => optR (walkV x) fun vs => .ok vs env1) := rfl
@[simp] theorem vW_e2 : vW G (.fl l) env = (vL G l env) := rfl
@[simp] theorem vW_e3 : vW G (.range1 a) env = ((ev G .pk a env).bind fun x env1 => optR (deref env1 x) fun x => match x with
    | .int i => if -(2 ^ 62) < i ∧ i < 2 ^ 62 then .ok (rangeV 0 i) env1 else .bad
    | _ => .bad) := rfl
@[simp] theorem vW_e4 : vW G (.range2 a b) env = ((ev G .pk a env).bind fun x env1 => (ev G .pk b env1).bind fun y env2 => optR (deref env2 x) fun x => optR (deref env2 y) fun y => match x, y with
    | .int i, .int j => if -(2 ^ 62) < i ∧ i < 2 ^ 62 ∧ -(2 ^ 62) < j ∧ j < 2 ^ 62 then .ok (rangeV i j) env2 else .bad
    | _, _ => .bad) := rfl
@[simp] theorem vW_e5 : vW G (.enum e) env = ((ev G .fz e env).bind fun x env1 => optR (valR x) fun x => optR (seqV x) fun vs => .ok (enumV 0 vs) env1) := rfl
@[simp] theorem vW_e6 : vW G (.zip a b) env = ((ev G .fz a env).bind fun x env1 => (ev G .fz b env1).bind fun y env2 => optR (valR x) fun x => optR (valR y) fun y => optR (zipVV x y) fun vs => .ok vs env2) := rfl
@[simp] theorem xT_e1 : xT G (.ret e) env = ((ev G .mv e env).bindS fun r env1 => .rt r env1) := rfl
@[simp] theorem xT_e2 : xT G (.retN) env = (.rt (.v .non) env) := rfl
@[simp] theorem xT_e3 : xT G (.expr e) env = ((ev G .pk e env).bindS fun _ env1 => .nx env1) := rfl
@[simp] theorem xT_e4 : xT G (.asg t e) env = (asgV G t e env) := rfl
@[simp] theorem xT_e5 : xT G (.aug i o e) env = (match env.getD i .none with
    | .val (.int a) => (ev G .pk e env).bindS fun y env1 => optS (deref env1 y) fun y => match y with
      | .int b => optS (binV o (.int a) (.int b)) fun z => match z with
        | .v z => optS (setS env1 i (.val z)) fun env2 => .nx env2
        | _ => .bad
      | _ => .bad
    | _ => .bad) := rfl
@[simp] theorem xT_e6 : xT G (.ite t a b) env = ((vT G t env).bindS fun k env1 => if k = true then xTs G a env1 else xTs G b env1) := rfl
@[simp] theorem xT_e7 : xT G (.while t b) env = (whileV (vT G t) (xTs G b) G.wf env) := rfl
@[simp] theorem xT_e8 : xT G (.for tg w b) env = ((vW G w env).bindS fun vs env1 => forV (tgV G tg) (xTs G b) vs env1) := rfl
@[simp] theorem xT_e9 : xT G (.raise c es) env = ((vCs G es env).bindS fun vs env1 => .exc c vs env1) := rfl
@[simp] theorem xT_e10 : xT G (.brk) env = (.bk env) := rfl
@[simp] theorem xT_e11 : xT G (.cont) env = (.ct env) := rfl
@[simp] theorem xT_e12 : xT G (.pass) env = (.nx env) := rfl
@[simp] theorem xT_e13 : xT G (.never) env = (.bad) := rfl
@[simp] theorem xTs_e1 : xTs G [] env = (.nx env) := rfl
@[simp] theorem xTs_e2 : xTs G (t :: ts) env = ((xT G t env).bind fun env1 => xTs G ts env1) := rfl
end
section
variable {G : GV}
/-! ### values -/
@[simp] theorem vo_lst : VO.v (.lst vs) = .lst vs := rfl
@[simp] theorem vo_dk : VO.v (.dk ks vs) = .dct ks vs := rfl
@[simp] theorem deref_v : deref env (.v v) = some v := rfl
@[simp] theorem deref_sl : deref env (.sl i) = (match env.getD i .none with | .own _ o => some o.v | _ => none) := rfl
@[simp] theorem valR_v : valR (.v v) = some v := rfl
@[simp] theorem derefs_nil : derefs env [] = some [] := rfl
@[simp] theorem derefs_cons : derefs env (r :: rs) = (match deref env r, derefs env rs with | some v, some vs => some (v :: vs) | _, _ => none) := rfl
@[simp] theorem ownR_v : ownR m (.v v) = .v v := rfl
@[simp] theorem ownR_pk : ownR .pk (.own o) = .v o.v := rfl
@[simp] theorem ownR_fz : ownR .fz (.own o) = .v o.v := rfl
@[simp] theorem ownR_as : ownR .as (.own o) = .own o := rfl
@[simp] theorem ownR_mv : ownR .mv (.own o) = .own o := rfl
@[simp] theorem consO_some : consO (some v) vs = v :: vs := rfl
@[simp] theorem consO_none : consO none vs = vs := rfl
@[simp] theorem slsOf_nil : slsOf [] = [] := rfl
@[simp] theorem slsOf_v : slsOf (.v v :: rs) = slsOf rs := rfl
@[simp] theorem slsOf_sl : slsOf (.sl i :: rs) = i :: slsOf rs := rfl
@[simp] theorem mkArgs_nil : mkArgs env [] = some [] := rfl
@[simp] theorem mkArgs_v : mkArgs env (.v v :: rs) = (mkArgs env rs).map (.val v :: ·) := rfl
@[simp] theorem mkArgs_sl : mkArgs env (.sl i :: rs) = (match env.getD i .none with | .own _ o => (mkArgs env rs).map (.own true o :: ·) | _ => none) := rfl
@[simp] theorem callR_v : callR m rs0 env (.ok (.v v) outs) = .ok (.v v) (putOuts env (slsOf rs0) outs) := rfl
@[simp] theorem callR_own : callR m rs0 env (.ok (.own o) outs) = .ok (ownR m (.own o)) (putOuts env (slsOf rs0) outs) := rfl
@[simp] theorem callR_exc : callR m rs0 env (.exc c fs outs) = .exc c fs (putOuts env (slsOf rs0) outs) := rfl
/-- a call of values alone -/
@[simp] theorem callA_0 : callA m ca [] env = callR m [] env (ca []) := rfl
@[simp] theorem callA_1 : callA m ca [.v a] env = callR m [.v a] env (ca [.val a]) := by simp [callA]
@[simp] theorem callA_2 : callA m ca [.v a, .v b] env = callR m [.v a, .v b] env (ca [.val a, .val b]) := by simp [callA]
@[simp] theorem callA_3 : callA m ca [.v a, .v b, .v c] env = callR m [.v a, .v b, .v c] env (ca [.val a, .val b, .val c]) := by simp [callA]
@[simp] theorem callA_4 : callA m ca [.v a, .v b, .v c, .v d] env = callR m [.v a, .v b, .v c, .v d] env (ca [.val a, .val b, .val c, .val d]) := by simp [callA]
/-- .. with the first slot's object -/
@[simp] theorem callA_s : callA m ca (.sl i :: rs) env = (if (slsOf (.sl i :: rs)).Nodup then match mkArgs env (.sl i :: rs) with
    | some args => callR m (.sl i :: rs) env (ca args)
    | none => .bad
  else .bad) := rfl
@[simp] theorem tgMd_n : tgMd (.name i) = .as := rfl
@[simp] theorem tgMd_t : tgMd (.tup ts) = .fz := rfl
@[simp] theorem tgMd_s : tgMd (.sub a b) = .fz := rfl
@[simp] theorem asgV_n : asgV G (.name i) e env = ((ev G .as e env).bindS fun r env1 => (tgV G (.name i) r env1).bindS fun _ env2 => .nx env2) := by cases e <;> rfl
@[simp] theorem asgV_s : asgV G (.sub a b) e env = ((ev G .fz e env).bindS fun r env1 => (tgV G (.sub a b) r env1).bindS fun _ env2 => .nx env2) := by cases e <;> rfl
@[simp] theorem asgV_tt : asgV G (.tup ts) (.tup es) env = (if namesB ts = true then
      (vRs G es env).bindS fun rs env1 => if rs.length ≤ lim then optS (asgNs ts rs env1) fun env2 => .nx env2 else .bad
    else (ev G .fz (.tup es) env).bindS fun r env1 => (tgV G (.tup ts) r env1).bindS fun _ env2 => .nx env2) := rfl
theorem asgV_t (h : ∀ es, e ≠ .tup es) : asgV G (.tup ts) e env = ((ev G .fz e env).bindS fun r env1 => (tgV G (.tup ts) r env1).bindS fun _ env2 => .nx env2) := by
  cases e <;> first | rfl | exact absurd rfl (h _)
@[simp] theorem asgV_tc : asgV G (.tup ts) (.call f es) env = ((ev G .fz (.call f es) env).bindS fun r env1 => (tgV G (.tup ts) r env1).bindS fun _ env2 => .nx env2) := rfl
@[simp] theorem asgV_tm : asgV G (.tup ts) (.mth f o es) env = ((ev G .fz (.mth f o es) env).bindS fun r env1 => (tgV G (.tup ts) r env1).bindS fun _ env2 => .nx env2) := rfl
@[simp] theorem asgV_ti : asgV G (.tup ts) (.ix a b) env = ((ev G .fz (.ix a b) env).bindS fun r env1 => (tgV G (.tup ts) r env1).bindS fun _ env2 => .nx env2) := rfl
@[simp] theorem asgV_tv : asgV G (.tup ts) (.var i) env = ((ev G .fz (.var i) env).bindS fun r env1 => (tgV G (.tup ts) r env1).bindS fun _ env2 => .nx env2) := rfl
@[simp] theorem asgV_te : asgV G (.tup ts) (.ite t a b) env = ((ev G .fz (.ite t a b) env).bindS fun r env1 => (tgV G (.tup ts) r env1).bindS fun _ env2 => .nx env2) := rfl
@[simp] theorem truthV_non : truthV .non = some false := rfl
@[simp] theorem truthV_bl : truthV (.bl b) = some b := rfl
@[simp] theorem truthV_int : truthV (.int i) = some (i != 0) := rfl
@[simp] theorem truthV_str : truthV (.str x) = some (!x.isEmpty) := rfl
@[simp] theorem truthV_tup : truthV (.tup x) = some (!x.isEmpty) := rfl
@[simp] theorem truthV_lst : truthV (.lst x) = some (!x.isEmpty) := rfl
@[simp] theorem truthV_dct : truthV (.dct x y) = some (!x.isEmpty) := rfl
@[simp] theorem binV_addi : binV .add (.int i) (.int j) = some (.v (.int (i + j))) := rfl
@[simp] theorem binV_adds : binV .add (.str a) (.str b) = (if a.length + b.length ≤ lim then some (.v (.str (a ++ b))) else none) := rfl
@[simp] theorem binV_addt : binV .add (.tup a) (.tup b) = (if a.length + b.length ≤ lim then some (.v (.tup (a ++ b))) else none) := rfl
@[simp] theorem binV_addl : binV .add (.lst a) (.lst b) = (if a.length + b.length ≤ lim then some (.own (.lst (a ++ b))) else none) := rfl
@[simp] theorem binV_sub : binV .sub (.int i) (.int j) = some (.v (.int (i - j))) := rfl
@[simp] theorem binV_mul : binV .mul (.int i) (.int j) = (if mulOk i j then some (.v (.int (i * j))) else none) := rfl
@[simp] theorem binV_mult : binV .mul (.tup a) (.int j) = (if 0 ≤ j ∧ j ≤ 1000 ∧ a.length ≤ 1000 then some (.v (.tup (List.replicate j.toNat a).flatten)) else none) := rfl
@[simp] theorem binV_fdiv : binV .fdiv (.int i) (.int j) = (if divOk i j then some (.v (.int (i / j))) else none) := rfl
@[simp] theorem binV_mod : binV .mod (.int i) (.int j) = (if 0 < j then some (.v (.int (i % j))) else none) := rfl
@[simp] theorem binV_pow : binV .pow (.int i) (.int j) = (if powOk i j then some (.v (.int (i ^ j.toNat))) else none) := rfl
@[simp] theorem keyV_int : keyV (.int i) = some (.inl i) := rfl
@[simp] theorem keyV_str : keyV (.str i) = some (.inr i) := rfl
@[simp] theorem isNonV_non : isNonV .non = true := rfl
@[simp] theorem isNonV_bl : isNonV (.bl x) = false := rfl
@[simp] theorem isNonV_int : isNonV (.int x) = false := rfl
@[simp] theorem isNonV_str : isNonV (.str x) = false := rfl
@[simp] theorem isNonV_tup : isNonV (.tup x) = false := rfl
@[simp] theorem isNonV_lst : isNonV (.lst x) = false := rfl
@[simp] theorem isNonV_dct : isNonV (.dct x y) = false := rfl
@[simp] theorem cmpV_eq : cmpV .eq x y = eqV x y := rfl
@[simp] theorem cmpV_ne : cmpV .ne x y = (eqV x y).map (!·) := rfl
@[simp] theorem cmpV_in : cmpV .isin x y = inV x y := rfl
@[simp] theorem cmpV_ni : cmpV .notin x y = (inV x y).map (!·) := rfl
@[simp] theorem cmpV_lt : cmpV .lt (.int i) (.int j) = some (decide (i < j)) := rfl
@[simp] theorem cmpV_lts : cmpV .lt (.str i) (.str j) = some (decide (i < j)) := rfl
@[simp] theorem cmpV_le : cmpV .le (.int i) (.int j) = some (decide (i ≤ j)) := rfl
@[simp] theorem cmpV_gt : cmpV .gt (.int i) (.int j) = some (decide (j < i)) := rfl
@[simp] theorem cmpV_ge : cmpV .ge (.int i) (.int j) = some (decide (j ≤ i)) := rfl
@[simp] theorem cmpV_is : cmpV .is x .non = some (isNonV x) := rfl
@[simp] theorem cmpV_isn : cmpV .isnot x .non = some (!isNonV x) := rfl
@[simp] theorem ixV_tup : ixV (.tup vs) (.int i) = ixLV vs i := rfl
@[simp] theorem ixV_lst : ixV (.lst vs) (.int i) = ixLV vs i := rfl
@[simp] theorem ixV_str : ixV (.str b) (.int i) = (match ixP b.length i with
      | some j => match b[j]? with
        | some c => some (.str [c])
        | none => none
      | none => none) := rfl
@[simp] theorem ixV_dcti : ixV (.dct ks vs) (.int i) = getV ks vs (.inl i) := rfl
@[simp] theorem ixV_dcts : ixV (.dct ks vs) (.str i) = getV ks vs (.inr i) := rfl
theorem ixLV_nat {vs : List V} {i : Nat} {v : V} (h : vs[i]? = some v) : ixLV vs (i : Int) = some v := by
  have hl : i < vs.length := by
    rcases Nat.lt_or_ge i vs.length with z | z
    · exact z
    · rw [List.getElem?_eq_none z] at h
      cases h
  unfold ixLV ixP
  rw [if_pos (by omega), if_pos (by omega)]
  simpa using h
@[simp] theorem ixLV_0 : ixLV (x0 :: vs) 0 = some x0 := ixLV_nat (vs := x0 :: vs) (i := 0) rfl
@[simp] theorem ixLV_1 : ixLV (x0 :: x1 :: vs) 1 = some x1 := ixLV_nat (vs := x0 :: x1 :: vs) (i := 1) rfl
@[simp] theorem ixLV_2 : ixLV (x0 :: x1 :: x2 :: vs) 2 = some x2 := ixLV_nat (vs := x0 :: x1 :: x2 :: vs) (i := 2) rfl
@[simp] theorem ixLV_3 : ixLV (x0 :: x1 :: x2 :: x3 :: vs) 3 = some x3 := ixLV_nat (vs := x0 :: x1 :: x2 :: x3 :: vs) (i := 3) rfl
@[simp] theorem ixLV_4 : ixLV (x0 :: x1 :: x2 :: x3 :: x4 :: vs) 4 = some x4 := ixLV_nat (vs := x0 :: x1 :: x2 :: x3 :: x4 :: vs) (i := 4) rfl
@[simp] theorem ixLV_5 : ixLV (x0 :: x1 :: x2 :: x3 :: x4 :: x5 :: vs) 5 = some x5 := ixLV_nat (vs := x0 :: x1 :: x2 :: x3 :: x4 :: x5 :: vs) (i := 5) rfl
@[simp] theorem slV_tup : slV (.tup vs) lo hi = some (.v (.tup (cutD vs lo hi))) := rfl
@[simp] theorem slV_lst : slV (.lst vs) lo hi = some (.own (.lst (cutD vs lo hi))) := rfl
@[simp] theorem isOfV_non : isOfV .non n = some (n == "NoneType") := rfl
@[simp] theorem isOfV_bl : isOfV (.bl x) n = some (n == "bool" || n == "int") := rfl
@[simp] theorem isOfV_int : isOfV (.int x) n = some (n == "int") := rfl
@[simp] theorem isOfV_str : isOfV (.str x) n = some (n == "str") := rfl
@[simp] theorem isOfV_tup : isOfV (.tup x) n = some (n == "tuple") := rfl
@[simp] theorem isOfV_lst : isOfV (.lst x) n = some (n == "list") := rfl
@[simp] theorem isOfV_dct : isOfV (.dct x y) n = some (n == "dict") := rfl
@[simp] theorem biV_lens : biV .len [.str x] = (if x.length ≤ lim then some (.int x.length) else none) := rfl
@[simp] theorem biV_lent : biV .len [.tup x] = some (.int x.length) := rfl
@[simp] theorem biV_lenl : biV .len [.lst x] = some (.int x.length) := rfl
@[simp] theorem biV_lend : biV .len [.dct x y] = some (.int x.length) := rfl
@[simp] theorem biV_abs : biV .abs [.int i] = some (.int (if i < 0 then -i else i)) := rfl
@[simp] theorem biV_int : biV .int [.int i] = some (.int i) := rfl
@[simp] theorem biV_isinst : biV .isinst [v, .ty n] = (isOfV v n).map .bl := by cases v <;> rfl
@[simp] theorem biV_max : biV .max [.int i, .int j] = some (.int (if j > i then j else i)) := rfl
@[simp] theorem biV_min : biV .min [.int i, .int j] = some (.int (if j < i then j else i)) := rfl
@[simp] theorem biLV_tuple : biLV .tuple vs = some (.v (.tup vs)) := rfl
@[simp] theorem biLV_list : biLV .list vs = some (.own (.lst vs)) := rfl
@[simp] theorem biLV_sum : biLV .sum vs = (intsV? vs).map fun is => .v (.int is.sum) := rfl
@[simp] theorem biLV_max : biLV .max vs = (match intsV? vs with
    | some (i :: is) => some (.v (.int (intMax i is)))
    | _ => none) := rfl
@[simp] theorem biLV_min : biLV .min vs = (match intsV? vs with
    | some (i :: is) => some (.v (.int (intMin i is)))
    | _ => none) := rfl
@[simp] theorem biLV_all : biLV .all vs = (blsV? vs).map fun bs => .v (.bl (bs.all id)) := rfl
@[simp] theorem biLV_any : biLV .any vs = (blsV? vs).map fun bs => .v (.bl (bs.any id)) := rfl
@[simp] theorem kindV_a : kindV .append (.lst vs) = true := rfl
@[simp] theorem kindV_p : kindV .pop (.lst vs) = true := rfl
@[simp] theorem kindV_e : kindV .extend (.lst vs) = true := rfl
@[simp] theorem kindV_s : kindV .setdefault (.dk ks vs) = true := rfl
@[simp] theorem mthV_app : mthV .append (.lst xs) [v] = (if xs.length < lim then some (.non, .lst (xs ++ [v])) else none) := rfl
@[simp] theorem mthV_pop : mthV .pop (.lst (xs ++ [v])) [] = some (v, .lst xs) := by simp [mthV]
@[simp] theorem mthV_setd : mthV .setdefault (.dk ks xs) [.str k, v] = (if ks.length < lim then match getV ks xs (.inr k) with
      | some d => some (d, .dk ks xs)
      | none => some (v, .dk (ks ++ [.inr k]) (xs ++ [v]))
      else none) := rfl
@[simp] theorem extV_lst : extV (.lst xs) vs = (if xs.length + vs.length ≤ lim then some (.lst (xs ++ vs)) else none) := rfl
@[simp] theorem setIV_lst : setIV (.lst xs) (.int i) v = (match ixP xs.length i with
    | some j => some (.lst (xs.set j v))
    | none => none) := rfl
@[simp] theorem walkV_tup : walkV (.tup vs) = some vs := rfl
@[simp] theorem walkV_lst : walkV (.lst vs) = some vs := rfl
@[simp] theorem walkV_str : walkV (.str x) = (if x.length ≤ lim then some (x.map fun c => .str [c]) else none) := rfl
@[simp] theorem seqV_tup : seqV (.tup vs) = some vs := rfl
@[simp] theorem seqV_lst : seqV (.lst vs) = some vs := rfl
@[simp] theorem lslV_lst : lslV (.lst vs) = some vs := rfl
@[simp] theorem zipVV_tup : zipVV (.tup xs) (.tup ys) = some (zipV xs ys) := rfl
@[simp] theorem zipVV_lst : zipVV (.lst xs) (.lst ys) = some (zipV xs ys) := rfl
@[simp] theorem hvalsV_nil : hvalsV [] fs = some [] := rfl
@[simp] theorem hvalsV_inl : hvalsV (.inl x :: r) fs = (match hvalsV r fs with
    | some vs => some (.str x :: vs)
    | none => none) := rfl
@[simp] theorem hvalsV_inr : hvalsV (.inr i :: r) fs = (match fs[i]?, hvalsV r fs with
    | some v, some vs => some (v :: vs)
    | _, _ => none) := rfl
@[simp] theorem toldV_is : toldV ts t c fs env = (match ts[t]? with
  | some h => if c = h.c then match hvalsV h.r fs with
    | some vs => .ok (.v (.tup vs)) env
    | none => .bad
    else .bad
  | none => .bad) := rfl
@[simp] theorem inV_str : inV (.str [c]) (.str b) = some (b.contains c) := rfl
@[simp] theorem inV_tup : inV x (.tup vs) = (if x.data = true ∧ V.datas vs = true ∧ min (V.deps vs) x.dep ≤ 1000 then some (vs.any fun v => V.eqv v x) else none) := rfl
@[simp] theorem inV_lst : inV x (.lst vs) = (if x.data = true ∧ V.datas vs = true ∧ min (V.deps vs) x.dep ≤ 1000 then some (vs.any fun v => V.eqv v x) else none) := rfl
@[simp] theorem inV_dcts : inV (.str x) (.dct ks vs) = some (ks.any fun q => decide (q = .inr x)) := rfl
@[simp] theorem inV_dcti : inV (.int x) (.dct ks vs) = some (ks.any fun q => decide (q = .inl x)) := rfl
@[simp] theorem data_non : V.data .non = true := rfl
@[simp] theorem data_bl : V.data (.bl b) = true := rfl
@[simp] theorem data_int : V.data (.int b) = true := rfl
@[simp] theorem data_str : V.data (.str b) = true := rfl
@[simp] theorem data_tup : V.data (.tup b) = V.datas b := rfl
@[simp] theorem data_lst : V.data (.lst b) = V.datas b := rfl
@[simp] theorem datas_nil : V.datas [] = true := rfl
@[simp] theorem datas_cons : V.datas (v :: vs) = (v.data && V.datas vs) := rfl

end
end PV
end
section
set_option Elab.async false
set_option linter.all false
set_option maxRecDepth 100000
/-! PyV, part S: rules of reckoning for simp; loops. -/
namespace PV
open PySem PD
@[simp ↓] theorem bind_un {α β : Type} (r : Res α) (f : α → VEnv → Res β) : r.bind f = match r with
    | .ok a env => f a env
    | .exc c fs env => .exc c fs env
    | .bad => .bad := by cases r <;> rfl
@[simp ↓] theorem bindS_un {α : Type} (r : Res α) (f : α → VEnv → SR) : r.bindS f = match r with
    | .ok a env => f a env
    | .exc c fs env => .exc c fs env
    | .bad => .bad := by cases r <;> rfl
@[simp ↓] theorem sbind_un (r : SR) (f : VEnv → SR) : r.bind f = match r with
    | .nx env => f env
    | .rt r env => .rt r env
    | .bk env => .bk env
    | .ct env => .ct env
    | .exc c fs env => .exc c fs env
    | .bad => .bad := by cases r <;> rfl
@[simp ↓] theorem optR_un {α β : Type} (o : Option α) (k : α → Res β) : optR o k = match o with
    | some a => k a
    | none => .bad := by cases o <;> rfl
@[simp ↓] theorem optS_un {α : Type} (o : Option α) (k : α → SR) : optS o k = match o with
    | some a => k a
    | none => .bad := by cases o <;> rfl
@[simp] theorem lim_is : lim = 16777216 := rfl
@[simp] theorem noO_v {β : Type} {v : V} {k : Rv → Res β} : noO (.v v) k = k (.v v) := rfl
@[simp] theorem noO_sl {β : Type} {v : Nat} {k : Rv → Res β} : noO (.sl v) k = k (.sl v) := rfl
@[simp] theorem noX_ok {α : Type} {a : α} {e : VEnv} : (Res.ok a e).noX = .ok a e := rfl
@[simp] theorem gv_gl {P : Prog} {sg : Nat → List Nat} {wf n : Nat} : (gv P sg wf n).gl = glV P := rfl
@[simp] theorem gv_call {P : Prog} {sg : Nat → List Nat} {wf n : Nat} : (gv P sg wf n).call = run P sg wf n := rfl
@[simp] theorem gv_low {P : Prog} {sg : Nat → List Nat} {wf n : Nat} : (gv P sg wf (n + 2)).low = run P sg wf n := rfl
@[simp] theorem gv_told {P : Prog} {sg : Nat → List Nat} {wf n : Nat} : (gv P sg wf n).told = P.told := rfl
@[simp] theorem gv_sg {P : Prog} {sg : Nat → List Nat} {wf n : Nat} : (gv P sg wf n).sg = sg := rfl
@[simp] theorem gv_wf {P : Prog} {sg : Nat → List Nat} {wf n : Nat} : (gv P sg wf n).wf = wf := rfl
@[simp] theorem putOuts_nil {env : VEnv} {os : List VO} : putOuts env [] os = env := by unfold putOuts; rfl
@[simp] theorem putOuts_nil2 {env : VEnv} {is : List Nat} : putOuts env is [] = env := by cases is <;> (unfold putOuts; rfl)
/-- c is a function of the program that changes nothing of its caller's -/
structure IsFn (P : Prog) (sg : Nat → List Nat) (c : Nat) (F : Fn) : Prop where
  at_ : P.fns[c]? = some F
  sg_ : sg c = []
/-- a body is run -/
theorem run_at {P : Prog} {sg : Nat → List Nat} {wf n f : Nat} {F : Fn} {args : List Sl} {r : CR} (h : P.fns[f]? = some F) (hl : args.length = F.ps.length)
    (hb : finV (ownPos 0 args) (xTs (gv P sg wf n) F.body (args ++ List.replicate (F.N.length - F.ps.length) .none)) = r) : run P sg wf (n + 1) f args = r := by
  rw [run_succ, h]
  show (if _ then _ else _) = r
  rw [if_pos hl]
  exact hb
@[simp] theorem eachV_nil {f : V → VEnv → Res (Option V)} {env : VEnv} : eachV f [] env = .ok [] env := rfl
@[simp] theorem forV_nil {tgf : Rv → VEnv → Res Unit} {bd : VEnv → SR} {env : VEnv} : forV tgf bd [] env = .nx env := rfl
/-- a comprehension that changes nothing -/
theorem each_map {α : Type} {f : V → VEnv → Res (Option V)} {g v : α → V} {env : VEnv} : ∀ {l : List α} (h : ∀ a ∈ l, f (g a) env = .ok (some (v a)) env), eachV f (l.map g) env = .ok (l.map v) env
  | [], _ => rfl
  | a :: l, h => by
    rw [List.map_cons, eachV, h a (List.mem_cons_self ..)]
    show Res.bind (eachV f (l.map g) env) _ = _
    rw [each_map (fun b hb => h b (List.mem_cons_of_mem _ hb))]
    rfl
theorem each_id {f : V → VEnv → Res (Option V)} {v : V → V} {env : VEnv} {l : List V} (h : ∀ a ∈ l, f a env = .ok (some (v a)) env) : eachV f l env = .ok (l.map v) env := by
  have := each_map (f := f) (g := id) (v := v) (env := env) (l := l) h
  rwa [List.map_id] at this
theorem each_filter {α : Type} {f : V → VEnv → Res (Option V)} {g v : α → V} {p : α → Bool} {env : VEnv} : ∀ {l : List α} (h : ∀ a ∈ l, f (g a) env = .ok (if p a = true then some (v a) else none) env), eachV f (l.map g) env = .ok ((l.filter p).map v) env
  | [], _ => rfl
  | a :: l, h => by
    rw [List.map_cons, eachV, h a (List.mem_cons_self ..)]
    show Res.bind (eachV f (l.map g) env) _ = _
    rw [each_filter (fun b hb => h b (List.mem_cons_of_mem _ hb))]
    by_cases z : p a = true
    · rw [if_pos z, List.filter_cons_of_pos z]
      rfl
    · rw [if_neg z, List.filter_cons_of_neg z]
      rfl
/-- a comprehension that changes the slots -/
theorem each_rel {α β : Type} {f : V → VEnv → Res (Option V)} {g : α → V} {h : β → α → β} {v : β → α → V} {R : β → VEnv → Prop} : ∀ {l : List α} (step : ∀ b a e, a ∈ l → R b e → ∃ e2, f (g a) e = .ok (some (v b a)) e2 ∧ R (h b a) e2) (b : β) (e : VEnv), R b e →
    ∃ e' xs, eachV f (l.map g) e = .ok xs e' ∧ R (l.foldl h b) e' ∧ xs.length = l.length
  | [], _, b, e, r => ⟨e, [], rfl, r, rfl⟩
  | a :: l, step, b, e, r => by
    obtain ⟨e1, q1, r1⟩ := step b a e (List.mem_cons_self ..) r
    obtain ⟨e2, xs, q2, r2, q3⟩ := each_rel (l := l) (fun b a e ha => step b a e (List.mem_cons_of_mem _ ha)) (h b a) e1 r1
    refine ⟨e2, v b a :: xs, ?_, r2, by rw [List.length_cons, List.length_cons, q3]⟩
    rw [List.map_cons, eachV, q1]
    show Res.bind (eachV f (l.map g) e1) _ = _
    rw [q2]
    rfl
/-- a for that goes to its end -/
theorem for_rel {α β : Type} {tgf : Rv → VEnv → Res Unit} {bd : VEnv → SR} {g : α → V} {h : β → α → β} {R : β → VEnv → Prop} : ∀ {l : List α} (step : ∀ b a e, a ∈ l → R b e → ∃ e1 e2, tgf (.v (g a)) e = .ok () e1 ∧ (bd e1 = .nx e2 ∨ bd e1 = .ct e2) ∧ R (h b a) e2) (b : β) (e : VEnv), R b e →
    ∃ e', forV tgf bd (l.map g) e = .nx e' ∧ R (l.foldl h b) e'
  | [], _, b, e, r => ⟨e, rfl, r⟩
  | a :: l, step, b, e, r => by
    obtain ⟨e1, e2, q1, q2, r1⟩ := step b a e (List.mem_cons_self ..) r
    obtain ⟨e3, q3, r3⟩ := for_rel (l := l) (fun b a e ha => step b a e (List.mem_cons_of_mem _ ha)) (h b a) e2 r1
    refine ⟨e3, ?_, r3⟩
    rw [List.map_cons, forV, q1]
    show (match bd e1 with
      | .nx e => forV tgf bd (l.map g) e
      | .ct e => forV tgf bd (l.map g) e
      | .bk e => .nx e
      | r => r) = _
    rcases q2 with q2 | q2
    · rw [q2]; exact q3
    · rw [q2]; exact q3
theorem while_end {tf : VEnv → Res Bool} {bd : VEnv → SR} {n : Nat} {e e1 : VEnv} (h : tf e = .ok false e1) : whileV tf bd (n + 1) e = .nx e1 := by
  rw [whileV, h]
  rfl
theorem while_go {tf : VEnv → Res Bool} {bd : VEnv → SR} {n : Nat} {e e1 e2 : VEnv} (h : tf e = .ok true e1) (hb : bd e1 = .nx e2 ∨ bd e1 = .ct e2) : whileV tf bd (n + 1) e = whileV tf bd n e2 := by
  rw [whileV, h]
  show (match bd e1 with
      | .nx e => whileV tf bd n e
      | .ct e => whileV tf bd n e
      | .bk e => .nx e
      | r => r) = _
  rcases hb with q2 | q2
  · rw [q2]
  · rw [q2]
end PV
end
section
set_option Elab.async false
set_option linter.all false
set_option maxRecDepth 100000
set_option maxHeartbeats 1000000
/-! trees, part A: the program's functions over trees, as they are printed; trees as values. -/
namespace PT
open PySem PD PV
def fn_is_integer : Fn := ⟨"is_integer", ["thing"], ["thing"], [.ret (.and (.bi .isinst [.var 0, .ty "int"]) (.not (.bi .isinst [.var 0, .ty "bool"])))], false⟩
def fn_is_within (c_is_integer : Nat) : Fn := ⟨"is_within", ["thing", "low", "high"], ["thing", "low", "high"], [.ret (.and (.call c_is_integer [.var 0]) (.chain .le .le (.var 1) (.var 0) (.var 2)))], false⟩
def fn_is_tuple_of : Fn := ⟨"is_tuple_of", ["thing", "many"], ["thing", "many"], [.ret (.and (.bi .isinst [.var 0, .ty "tuple"]) (.cmp .eq (.bi .len [.var 0]) (.var 1)))], false⟩
def fn_raw_is_name (g_MOST_NAME g_HOLE g_LETTERS : Nat) : Fn := ⟨"raw_is_name", ["thing"], ["thing", "sign"], [.ite (.or (.not (.val (.bi .isinst [.var 0, .ty "str"]))) (.or (.not (.val (.chain .le .le (.int (1)) (.bi .len [.var 0]) (.gl g_MOST_NAME)))) (.val (.cmp .eq (.var 0) (.gl g_HOLE))))) [.ret (.bl false)] [], .ret (.biL .all (.lc (.cmp .isin (.var 1) (.gl g_LETTERS)) (.name 1) (.ex (.var 0)) none))], false⟩
def fn_form_of (g_MOST_NODES g_MOST_DEEP c_is_tuple_of g_MOST_RANK g_HOLE c_raw_is_name : Nat) : Fn := ⟨"form_of", ["thing"], ["thing", "ranks", "nodes", "holes", "waiting", "here", "deep", "part"], [.asg (.tup [.name 1, .name 2, .name 3, .name 4]) (.tup [.dct0, .int (0), .int (0), .mk (.lst [.tup [.var 0, .int (1)]])]), .while (.val (.cmp .ne (.var 4) (.mk (.lst [])))) [.asg (.tup [.name 5, .name 6]) (.mth .pop (.var 4) []), .aug 2 .add (.int (1)), .ite (.or (.val (.cmp .gt (.var 2) (.bin .add (.gl g_MOST_NODES) (.int (1))))) (.or (.val (.cmp .gt (.var 6) (.gl g_MOST_DEEP))) (.not (.val (.call c_is_tuple_of [.var 5, .int (2)]))))) [.ret .non] [], .ite (.or (.not (.val (.bi .isinst [.ix (.var 5) (.int (0)), .ty "str"]))) (.or (.not (.val (.bi .isinst [.ix (.var 5) (.int (1)), .ty "tuple"]))) (.val (.cmp .gt (.bi .len [.ix (.var 5) (.int (1))]) (.gl g_MOST_RANK))))) [.ret .non] [], .ite (.and (.val (.cmp .eq (.ix (.var 5) (.int (0))) (.gl g_HOLE))) (.val (.cmp .eq (.ix (.var 5) (.int (1))) (.tup [])))) [.aug 3 .add (.int (1))] [.ite (.or (.not (.val (.call c_raw_is_name [.ix (.var 5) (.int (0))]))) (.val (.cmp .ne (.mth .setdefault (.var 1) [.ix (.var 5) (.int (0)), .bi .len [.ix (.var 5) (.int (1))]]) (.bi .len [.ix (.var 5) (.int (1))])))) [.ret .non] []], .expr (.ext (.var 4) (.lc (.tup [.var 7, .bin .add (.var 6) (.int (1))]) (.name 7) (.ex (.ix (.var 5) (.int (1)))) none))], .ret (.tup [.var 1, .var 2, .var 3])], false⟩
def fn_raw_is_tree (c_form_of g_MOST_NODES : Nat) : Fn := ⟨"raw_is_tree", ["thing"], ["thing", "form"], [.asg (.name 1) (.call c_form_of [.var 0]), .ret (.and (.cmp .isnot (.var 1) .non) (.and (.cmp .eq (.ix (.var 1) (.int (2))) (.int (0))) (.cmp .le (.ix (.var 1) (.int (1))) (.gl g_MOST_NODES))))], false⟩
def fn_raw_is_surrounding (c_form_of g_MOST_NODES : Nat) : Fn := ⟨"raw_is_surrounding", ["thing"], ["thing", "form"], [.asg (.name 1) (.call c_form_of [.var 0]), .ret (.and (.cmp .isnot (.var 1) .non) (.and (.cmp .eq (.ix (.var 1) (.int (2))) (.int (1))) (.cmp .le (.bin .sub (.ix (.var 1) (.int (1))) (.int (1))) (.gl g_MOST_NODES))))], false⟩
def fn_raw_nodes (g_BARE c_raw_nodes : Nat) : Fn := ⟨"raw_nodes", ["tree"], ["tree", "part"], [.ite (.val (.cmp .eq (.var 0) (.gl g_BARE))) [.ret (.int (0))] [], .ret (.bin .add (.int (1)) (.biL .sum (.lc (.call c_raw_nodes [.var 1]) (.name 1) (.ex (.ix (.var 0) (.int (1)))) none)))], false⟩
def fn_raw_deep (c_raw_deep : Nat) : Fn := ⟨"raw_deep", ["tree"], ["tree", "part"], [.ret (.bin .add (.int (1)) (.biL .max (.exl (.bin .add (.mk (.lst [.int (0)])) (.mk (.lc (.call c_raw_deep [.var 1]) (.name 1) (.ex (.ix (.var 0) (.int (1)))) none))))))], false⟩
def fn_raw_places (c_raw_places : Nat) : Fn := ⟨"raw_places", ["tree"], ["tree", "found", "at", "part", "place"], [.asg (.name 1) (.mk (.lst [.tup []])), .for (.tup [.name 2, .name 3]) (.enum (.ix (.var 0) (.int (1)))) [.expr (.ext (.var 1) (.lc (.bin .add (.tup [.var 2]) (.var 4)) (.name 4) (.ex (.call c_raw_places [.var 3])) none))], .ret (.var 1)], false⟩
def fn_raw_at : Fn := ⟨"raw_at", ["tree", "place"], ["tree", "place", "at"], [.for (.name 2) (.ex (.var 1)) [.asg (.name 0) (.ix (.ix (.var 0) (.int (1))) (.var 2))], .ret (.var 0)], false⟩
def fn_raw_with (c_raw_with : Nat) : Fn := ⟨"raw_with", ["tree", "place", "other"], ["tree", "place", "other", "at"], [.ite (.val (.cmp .eq (.var 1) (.tup []))) [.ret (.var 2)] [], .asg (.name 3) (.ix (.var 1) (.int (0))), .ret (.tup [.ix (.var 0) (.int (0)), .bin .add (.bin .add (.sl (.ix (.var 0) (.int (1))) none (some (.var 3))) (.tup [.call c_raw_with [.ix (.ix (.var 0) (.int (1))) (.var 3), .sl (.var 1) (some (.int (1))) none, .var 2]])) (.sl (.ix (.var 0) (.int (1))) (some (.bin .add (.var 3) (.int (1)))) none)])], false⟩
def fn_raw_hole (c_raw_places c_raw_at g_BARE : Nat) : Fn := ⟨"raw_hole", ["surrounding"], ["surrounding", "place"], [.ret (.ix (.mk (.lc (.var 1) (.name 1) (.ex (.call c_raw_places [.var 0])) (some (.val (.cmp .eq (.call c_raw_at [.var 0, .var 1]) (.gl g_BARE)))))) (.int (0)))], false⟩
def fn_is_place_form (c_is_within g_MOST_RANK : Nat) : Fn := ⟨"is_place_form", ["thing"], ["thing", "at"], [.ret (.and (.bi .isinst [.var 0, .ty "tuple"]) (.biL .all (.lc (.call c_is_within [.var 1, .int (0), .bin .sub (.gl g_MOST_RANK) (.int (1))]) (.name 1) (.ex (.var 0)) none)))], false⟩
def fn_check_tree (c_raw_is_tree k_NoTree : Nat) : Fn := ⟨"check_tree", ["thing"], ["thing"], [.ite (.not (.val (.call c_raw_is_tree [.var 0]))) [.raise k_NoTree []] []], false⟩
def fn_check_surrounding (c_raw_is_surrounding k_NoSurrounding : Nat) : Fn := ⟨"check_surrounding", ["thing"], ["thing"], [.ite (.not (.val (.call c_raw_is_surrounding [.var 0]))) [.raise k_NoSurrounding []] []], false⟩
def fn_check_place (c_is_place_form g_MOST_DEEP c_raw_places k_NoPlace : Nat) : Fn := ⟨"check_place", ["tree", "thing"], ["tree", "thing"], [.ite (.or (.not (.val (.call c_is_place_form [.var 1]))) (.or (.val (.cmp .ge (.bi .len [.var 1]) (.gl g_MOST_DEEP))) (.val (.cmp .notin (.var 1) (.call c_raw_places [.var 0]))))) [.raise k_NoPlace []] []], false⟩
def fn_check_size (c_raw_nodes g_MOST_NODES k_TooMany c_raw_deep g_MOST_DEEP : Nat) : Fn := ⟨"check_size", ["tree"], ["tree"], [.ite (.val (.cmp .gt (.call c_raw_nodes [.var 0]) (.gl g_MOST_NODES))) [.raise k_TooMany [.gl g_MOST_NODES]] [], .ite (.val (.cmp .gt (.call c_raw_deep [.var 0]) (.gl g_MOST_DEEP))) [.raise k_TooMany [.gl g_MOST_DEEP]] [], .ret (.var 0)], false⟩
def fn_raw_rungs (c_raw_hole : Nat) : Fn := ⟨"raw_rungs", ["surrounding"], ["surrounding", "found", "here", "at"], [.asg (.tup [.name 1, .name 2]) (.tup [.mk (.lst []), .var 0]), .for (.name 3) (.ex (.call c_raw_hole [.var 0])) [.expr (.mth .append (.var 1) [.tup [.ix (.var 2) (.int (0)), .var 3, .bin .add (.sl (.ix (.var 2) (.int (1))) none (some (.var 3))) (.sl (.ix (.var 2) (.int (1))) (some (.bin .add (.var 3) (.int (1)))) none)]]), .asg (.name 2) (.ix (.ix (.var 2) (.int (1))) (.var 3))], .ret (.var 1)], false⟩
def fn_ranks_are_one (c_raw_places c_raw_at g_BARE : Nat) : Fn := ⟨"ranks_are_one", ["tree"], ["tree", "ranks", "place", "part"], [.asg (.name 1) .dct0, .for (.name 2) (.ex (.call c_raw_places [.var 0])) [.asg (.name 3) (.call c_raw_at [.var 0, .var 2]), .ite (.and (.val (.cmp .ne (.var 3) (.gl g_BARE))) (.val (.cmp .ne (.mth .setdefault (.var 1) [.ix (.var 3) (.int (0)), .bi .len [.ix (.var 3) (.int (1))]]) (.bi .len [.ix (.var 3) (.int (1))])))) [.ret (.bl false)] []], .ret (.bl true)], false⟩
def fn_raw_put_in (c_raw_with c_raw_hole c_ranks_are_one k_Unlike c_check_size : Nat) : Fn := ⟨"raw_put_in", ["surrounding", "tree"], ["surrounding", "tree", "found"], [.asg (.name 2) (.call c_raw_with [.var 0, .call c_raw_hole [.var 0], .var 1]), .ite (.not (.val (.call c_ranks_are_one [.var 2]))) [.raise k_Unlike []] [], .ret (.call c_check_size [.var 2])], false⟩
def fn_put_in (c_check_surrounding c_check_tree c_raw_put_in : Nat) : Fn := ⟨"put_in", ["surrounding", "tree"], ["surrounding", "tree"], [.expr (.call c_check_surrounding [.var 0]), .expr (.call c_check_tree [.var 1]), .ret (.call c_raw_put_in [.var 0, .var 1])], false⟩
def fn_put_behind (c_check_surrounding c_raw_put_in : Nat) : Fn := ⟨"put_behind", ["one", "other"], ["one", "other"], [.expr (.call c_check_surrounding [.var 0]), .expr (.call c_check_surrounding [.var 1]), .ret (.call c_raw_put_in [.var 0, .var 1])], false⟩
def fn_split_at (c_check_tree c_check_place c_raw_with g_BARE c_raw_at : Nat) : Fn := ⟨"split_at", ["tree", "place"], ["tree", "place"], [.expr (.call c_check_tree [.var 0]), .expr (.call c_check_place [.var 0, .var 1]), .ret (.tup [.call c_raw_with [.var 0, .var 1, .gl g_BARE], .call c_raw_at [.var 0, .var 1]])], false⟩
def fn_way_to_hole (c_check_surrounding c_raw_hole : Nat) : Fn := ⟨"way_to_hole", ["surrounding"], ["surrounding"], [.expr (.call c_check_surrounding [.var 0]), .ret (.call c_raw_hole [.var 0])], false⟩
def fn_steps_of (c_check_surrounding g_BARE c_raw_rungs : Nat) : Fn := ⟨"steps_of", ["surrounding"], ["surrounding", "name", "at", "others"], [.expr (.call c_check_surrounding [.var 0]), .ret (.biL .tuple (.lc (.tup [.var 1, .bin .add (.bin .add (.sl (.var 3) none (some (.var 2))) (.tup [.gl g_BARE])) (.sl (.var 3) (some (.var 2)) none)]) (.tup [.name 1, .name 2, .name 3]) (.ex (.call c_raw_rungs [.var 0])) none))], false⟩
/-- a tree -/
inductive Tr where
  | node (x : List Nat) (ps : List Tr)
mutual
def Tr.v : Tr → V
  | .node x ps => .tup [.str x, .tup (Tr.vs ps)]
def Tr.vs : List Tr → List V
  | [] => []
  | t :: ts => t.v :: Tr.vs ts
end
theorem Tr.vs_eq : ∀ ps : List Tr, Tr.vs ps = ps.map Tr.v
  | [] => rfl
  | p :: ps => by rw [Tr.vs, Tr.vs_eq ps, List.map_cons]
theorem Tr.v_eq (x : List Nat) (ps : List Tr) : (Tr.node x ps).v = .tup [.str x, .tup (ps.map Tr.v)] := by rw [Tr.v, Tr.vs_eq]
abbrev hx : List Nat := [104, 111, 108, 101]
abbrev Tr.hole : Tr := .node hx []
abbrev bareV : V := .tup [.str hx, .tup []]
def Tr.name : Tr → List Nat
  | .node x _ => x
def Tr.kids : Tr → List Tr
  | .node _ ps => ps
mutual
def Tr.hgt : Tr → Nat
  | .node _ ps => 1 + Tr.hgts ps
def Tr.hgts : List Tr → Nat
  | [] => 0
  | t :: ts => max t.hgt (Tr.hgts ts)
end
mutual
/-- nodes, the hole is none -/
def Tr.nodes : Tr → Nat
  | .node x ps => if x = hx ∧ ps = [] then 0 else 1 + Tr.nodess ps
def Tr.nodess : List Tr → Nat
  | [] => 0
  | t :: ts => t.nodes + Tr.nodess ts
end
mutual
/-- no more parts than three -/
def Tr.small : Tr → Prop
  | .node _ ps => ps.length ≤ 3 ∧ Tr.smalls ps
def Tr.smalls : List Tr → Prop
  | [] => True
  | t :: ts => t.small ∧ Tr.smalls ts
end
theorem Tr.smalls_iff : ∀ ps : List Tr, Tr.smalls ps ↔ ∀ p ∈ ps, p.small
  | [] => by simp [Tr.smalls]
  | p :: ps => by simp [Tr.smalls, Tr.smalls_iff ps]
theorem Tr.small_iff (x : List Nat) (ps : List Tr) : (Tr.node x ps).small ↔ ps.length ≤ 3 ∧ ∀ p ∈ ps, p.small := by rw [Tr.small, Tr.smalls_iff]
theorem hgts_mem : ∀ {ps : List Tr} {p : Tr}, p ∈ ps → p.hgt ≤ Tr.hgts ps
  | q :: ps, p, h => by
    rw [Tr.hgts]
    rcases List.mem_cons.mp h with e | h
    · subst e
      exact Nat.le_max_left ..
    · exact Nat.le_trans (hgts_mem h) (Nat.le_max_right ..)
theorem Tr.lt {x : List Nat} {ps : List Tr} {p : Tr} (h : p ∈ ps) : p.hgt < (Tr.node x ps).hgt := by
  rw [Tr.hgt]
  have := hgts_mem h
  omega
theorem Tr.ind {P : Tr → Prop} (h : ∀ x ps, (∀ p ∈ ps, P p) → P (.node x ps)) : ∀ t, P t
  | .node x ps => h x ps fun p hp => Tr.ind h p
termination_by t => t.hgt
decreasing_by exact Tr.lt hp
mutual
@[simp] theorem Tr.data : ∀ t : Tr, t.v.data = true
  | .node x ps => by simp [Tr.v, V.data, V.datas, Tr.datas ps]
@[simp] theorem Tr.datas : ∀ t : List Tr, V.datas (Tr.vs t) = true
  | [] => rfl
  | t :: ts => by simp [Tr.vs, V.datas, Tr.data t, Tr.datas ts]
end
@[simp] theorem Tr.datas' (ts : List Tr) : V.datas (ts.map Tr.v) = true := by rw [← Tr.vs_eq]; exact Tr.datas ts
mutual
theorem Tr.dep : ∀ t : Tr, t.v.dep = 2 * t.hgt
  | .node x ps => by
    have := Tr.deps ps
    simp [Tr.v, V.dep, V.deps, this, Tr.hgt]
    omega
theorem Tr.deps : ∀ ts : List Tr, V.deps (Tr.vs ts) = 2 * Tr.hgts ts
  | [] => rfl
  | t :: ts => by
    rw [Tr.vs, V.deps, Tr.dep t, Tr.deps ts, Tr.hgts]
    omega
end
theorem eqv_refl_nat (x : List Nat) : (x == x) = true := beq_self_eq_true x
mutual
/-- == of trees is being one -/
theorem Tr.eqv : ∀ t u : Tr, V.eqv t.v u.v = true ↔ t = u
  | .node x ps, .node y qs => by
    have := Tr.eqvs ps qs
    simp [Tr.v, V.eqv, V.eqvs, this]
theorem Tr.eqvs : ∀ ts us : List Tr, V.eqvs (Tr.vs ts) (Tr.vs us) = true ↔ ts = us
  | [], [] => by simp [Tr.vs, V.eqvs]
  | [], u :: us => by simp [Tr.vs, V.eqvs]
  | t :: ts, [] => by simp [Tr.vs, V.eqvs]
  | t :: ts, u :: us => by
    have h1 := Tr.eqv t u
    have h2 := Tr.eqvs ts us
    simp [Tr.vs, V.eqvs, h1, h2]
end
instance : DecidableEq Tr := fun t u => decidable_of_iff (V.eqv t.v u.v = true) (Tr.eqv t u)
theorem Tr.eqV {t u : Tr} (h : min t.hgt u.hgt ≤ 500) : eqV t.v u.v = some (decide (t = u)) := by
  unfold PV.eqV
  rw [if_pos ⟨Tr.data t, Tr.data u, by rw [Tr.dep, Tr.dep]; omega⟩]
  congr 1
  by_cases e : t = u
  · rw [decide_eq_true e]; exact (Tr.eqv t u).mpr e
  · rw [decide_eq_false e]
    cases z : V.eqv t.v u.v with
    | false => rfl
    | true => exact absurd ((Tr.eqv t u).mp z) e
theorem eq_bare (t : Tr) : eqV t.v bareV = some (decide (t = .hole)) := by
  have e : bareV = Tr.hole.v := rfl
  rw [e]
  exact Tr.eqV (by show min _ 1 ≤ 500; omega)
theorem eq_bare' (x : List Nat) (ps : List Tr) : eqV (.tup [.str x, .tup (ps.map Tr.v)]) (.tup [.str hx, .tup []]) = some (decide (Tr.node x ps = .hole)) := by
  have := eq_bare (.node x ps)
  rw [Tr.v_eq] at this
  exact this
theorem Tr.hole_iff (x : List Nat) (ps : List Tr) : Tr.node x ps = .hole ↔ x = hx ∧ ps = [] := by
  constructor
  · intro h; cases h; exact ⟨rfl, rfl⟩
  · rintro ⟨rfl, rfl⟩; rfl
theorem ints_nat {α : Type} (f : α → Nat) : ∀ l : List α, intsV? (l.map fun a => V.int (f a)) = some (l.map fun a => (f a : Int))
  | [] => rfl
  | a :: l => by
    rw [List.map_cons, List.map_cons, intsV?, ints_nat f l]
theorem sum_nat {α : Type} (f : α → Nat) : ∀ l : List α, ((l.map fun a => (f a : Int)).sum) = ((l.map f).sum : Nat)
  | [] => rfl
  | a :: l => by
    rw [List.map_cons, List.sum_cons, sum_nat f l, List.map_cons, List.sum_cons]
    omega
theorem nodess_sum : ∀ ps : List Tr, (ps.map Tr.nodes).sum = Tr.nodess ps
  | [] => rfl
  | p :: ps => by
    rw [List.map_cons, List.sum_cons, nodess_sum ps, Tr.nodess]
theorem intMax_hgts : ∀ (ps : List Tr) (m : Nat), intMax m (ps.map fun p => (p.hgt : Int)) = (max m (Tr.hgts ps) : Nat)
  | [], m => by simp [intMax, Tr.hgts]
  | p :: ps, m => by
    rw [List.map_cons, intMax, Tr.hgts]
    by_cases h : (m : Int) < (p.hgt : Int)
    · rw [if_pos h, intMax_hgts ps p.hgt]
      omega
    · rw [if_neg h, intMax_hgts ps m]
      omega
section
variable {P : Prog} {sg : Nat → List Nat} {wf : Nat}
theorem nodes_spec {c g : Nat} (h : IsFn P sg c (fn_raw_nodes g c)) (hg : glV P g = some bareV) : ∀ (t : Tr) (n : Nat), t.hgt ≤ n → t.small → run P sg wf n c [.val t.v] = .ok (.v (.int t.nodes)) []
  | .node x ps, 0, hh, _ => by
    rw [Tr.hgt] at hh
    omega
  | .node x ps, n + 1, hh, hs => by
    refine run_at h.at_ rfl ?_
    rw [Tr.v_eq]
    rw [Tr.small_iff] at hs
    have hl : ps.length ≤ 16777216 := by omega
    have hsg := h.sg_
    by_cases hb : Tr.node x ps = .hole
    · simp [fn_raw_nodes, hg, eq_bare', hb]
      rfl
    · simp [fn_raw_nodes, hg, eq_bare', hb, ixP, hl, tgSlots]
      rw [each_map (v := fun p => .int p.nodes) fun p hp => ?_]
      · simp [ints_nat, sum_nat, nodess_sum]
        rw [Tr.nodes, if_neg (fun z => hb ((Tr.hole_iff x ps).mpr z))]
        omega
      · have := Tr.lt (x := x) hp
        simp [lcV, hsg, tgSlots, nodes_spec h hg p n (by omega) (hs.2 p hp)]
theorem deep_spec {c : Nat} (h : IsFn P sg c (fn_raw_deep c)) : ∀ (t : Tr) (n : Nat), t.hgt ≤ n → t.small → run P sg wf n c [.val t.v] = .ok (.v (.int t.hgt)) []
  | .node x ps, 0, hh, _ => by
    rw [Tr.hgt] at hh
    omega
  | .node x ps, n + 1, hh, hs => by
    refine run_at h.at_ rfl ?_
    rw [Tr.v_eq]
    rw [Tr.small_iff] at hs
    have hl : ps.length ≤ 16777216 := by omega
    have hl2 : 1 + ps.length ≤ 16777216 := by omega
    have hsg := h.sg_
    simp [fn_raw_deep, ixP, hl, tgSlots]

    rw [each_map (v := fun p => .int p.hgt) fun p hp => ?_]
    · simp [hl, hl2, ints_nat, intsV?]
      rw [show (0 : Int) = ((0 : Nat) : Int) from rfl, intMax_hgts]
      rw [Tr.hgt]
      omega
    · have := Tr.lt (x := x) hp
      simp [lcV, hsg, tgSlots, deep_spec h p n (by omega) (hs.2 p hp)]
end
end PT
end
section
set_option Elab.async false
set_option linter.all false
set_option maxRecDepth 100000
set_option maxHeartbeats 1000000
/-! trees, part B: places, parts, trees with another part, holes. -/
namespace PT
open PySem PD PV
/-- a place -/
def plV (p : List Nat) : V := .tup (p.map fun (i : Nat) => V.int (i : Int))
theorem plV_is (p : List Nat) : plV p = .tup (p.map fun (i : Nat) => V.int (i : Int)) := rfl
theorem plV_nil : V.tup [] = plV [] := rfl
@[simp] theorem plV_add (i : Nat) (q : List Nat) : binV .add (.tup [.int (i : Int)]) (plV q) = if 1 + q.length ≤ 16777216 then some (.v (plV (i :: q))) else none := by simp [plV]
@[simp] theorem plV_walk (p : List Nat) : walkV (plV p) = some (p.map fun (i : Nat) => V.int (i : Int)) := rfl
def Tr.at? : Tr → List Nat → Option Tr
  | t, [] => some t
  | t, i :: is => match t.kids[i]? with
    | some u => u.at? is
    | none => none
mutual
def Tr.places : Tr → List (List Nat)
  | .node _ ps => [] :: Tr.placesI 0 ps
def Tr.placesI : Nat → List Tr → List (List Nat)
  | _, [] => []
  | i, p :: ps => p.places.map (i :: ·) ++ Tr.placesI (i + 1) ps
end
theorem placesI_mem : ∀ {ps : List Tr} {i : Nat} {p : Tr}, p ∈ ps → p.places.length ≤ (Tr.placesI i ps).length
  | q :: ps, i, p, h => by
    rw [Tr.placesI, List.length_append, List.length_map]
    rcases List.mem_cons.mp h with e | h
    · subst e
      omega
    · have := placesI_mem (i := i + 1) h
      omega
mutual
theorem places_len : ∀ (t : Tr) (q : List Nat), q ∈ t.places → q.length < t.hgt
  | .node x ps, q, h => by
    rw [Tr.places] at h
    rw [Tr.hgt]
    rcases List.mem_cons.mp h with e | h
    · subst e
      simp only [List.length_nil]
      omega
    · have := placesI_len ps 0 q h
      omega
theorem placesI_len : ∀ (ps : List Tr) (i : Nat) (q : List Nat), q ∈ Tr.placesI i ps → q.length ≤ Tr.hgts ps
  | [], i, q, h => by
    rw [Tr.placesI] at h
    cases h
  | p :: ps, i, q, h => by
    rw [Tr.placesI] at h
    rw [Tr.hgts]
    rcases List.mem_append.mp h with h | h
    · obtain ⟨r, hr, rfl⟩ := List.mem_map.mp h
      have := places_len p r hr
      rw [List.length_cons]
      omega
    · have := placesI_len ps (i + 1) q h
      omega
end
section
variable {P : Prog} {sg : Nat → List Nat} {wf : Nat}
theorem at_for {G : GV} {q : V} : ∀ (p : List Nat) (t u : Tr) (y : Sl), t.at? p = some u → (y = .none ∨ ∃ w, y = .val w) →
    ∃ y', forV (tgV G (.name 2)) (xTs G [.asg (.name 0) (.ix (.ix (.var 0) (.int 1)) (.var 2))]) (p.map fun (i : Nat) => V.int (i : Int)) [.val t.v, .val q, y] = .nx [.val u.v, .val q, y']
  | [], t, u, y, h, hy => by
    cases h
    exact ⟨y, rfl⟩
  | i :: p, .node x ps, u, y, h, hy => by
    rw [Tr.at?] at h
    split at h
    · rename_i w e
      obtain ⟨y', ih⟩ := at_for (G := G) (q := q) p w u (.val (.int i)) h (.inr ⟨_, rfl⟩)
      refine ⟨y', ?_⟩
      have e2 : ixLV (ps.map Tr.v) (i : Int) = some w.v := ixLV_nat (by rw [List.getElem?_map, show ps[i]? = some w from e]; rfl)
      rw [Tr.v_eq]
      rcases hy with rfl | ⟨w, rfl⟩
      · simp [forV, setS, varR, e2, ih]
      · simp [forV, setS, varR, e2, ih]
    · cases h
theorem at_spec {c : Nat} (h : IsFn P sg c fn_raw_at) {t u : Tr} {p : List Nat} {n : Nat} (e : t.at? p = some u) : run P sg wf (n + 1) c [.val t.v, .val (plV p)] = .ok (.v u.v) [] := by
  refine run_at h.at_ rfl ?_
  obtain ⟨y', f⟩ := at_for (G := gv P sg wf n) (q := plV p) p t u .none e (.inl rfl)
  simp [fn_raw_at, varR, f]
theorem places_for {c n : Nat} {t : V} (hsg : sg c = []) : ∀ (ps : List Tr) (i : Nat) (A : List V) (x y : Sl),
    (∀ p ∈ ps, p.places.length ≤ 1000000 ∧ p.hgt ≤ 1000000 ∧ run P sg wf n c [.val p.v] = .ok (.own (.lst (p.places.map plV))) []) → A.length + (Tr.placesI i ps).length ≤ 10000000 → ((x = .none ∧ y = .none) ∨ ∃ w z, x = .val w ∧ y = .val z) →
    ∃ x' y', forV (tgV (gv P sg wf n) (.tup [.name 2, .name 3])) (xTs (gv P sg wf n) [.expr (.ext (.var 1) (.lc (.bin .add (.tup [.var 2]) (.var 4)) (.name 4) (.ex (.call c [.var 3])) none))]) (enumV i (ps.map Tr.v)) [.val t, .own false (.lst A), x, y, .none] =
      .nx [.val t, .own false (.lst (A ++ (Tr.placesI i ps).map plV)), x', y', .none]
  | [], i, A, x, y, hp, hl, hy => ⟨x, y, by simp [enumV, forV, Tr.placesI]⟩
  | p :: ps, i, A, x, y, hp, hl, hy => by
    obtain ⟨h1, h2, h3⟩ := hp p (List.mem_cons_self ..)
    rw [Tr.placesI, List.length_append, List.length_map] at hl
    obtain ⟨x', y', ih⟩ := places_for (t := t) hsg ps (i + 1) (A ++ (p.places.map (i :: ·)).map plV) (.val (.int i)) (.val p.v) (fun q hq => hp q (List.mem_cons_of_mem _ hq)) (by rw [List.length_append, List.length_map, List.length_map]; omega) (.inr ⟨_, _, rfl, rfl⟩)
    refine ⟨x', y', ?_⟩
    have l1 : p.places.length ≤ 16777216 := by omega
    have l2 : A.length + p.places.length ≤ 16777216 := by omega
    have ee : eachV (lcV [4] (tgV (gv P sg wf n) (.name 4)) (vTo (gv P sg wf n) none) (ev (gv P sg wf n) .fz (.bin .add (.tup [.var 2]) (.var 4)))) (p.places.map plV) [.val t, .own false (.lst A), .val (.int i), .val p.v, .none] =
        .ok (p.places.map fun q => plV (i :: q)) [.val t, .own false (.lst A), .val (.int i), .val p.v, .none] := by
      refine each_map fun q hq => ?_
      have := places_len p q hq
      have l3 : 1 + q.length ≤ 16777216 := by omega
      simp [lcV, setS, varR, l3]
    rw [Tr.placesI, List.map_append, ← List.append_assoc]
    rcases hy with ⟨rfl, rfl⟩ | ⟨w, z, rfl, rfl⟩
    · simp [enumV, forV, setS, varR, hsg, h3, l1, l2, tgSlots, ee]
      simpa [Function.comp_def] using ih
    · simp [enumV, forV, setS, varR, hsg, h3, l1, l2, tgSlots, ee]
      simpa [Function.comp_def] using ih
theorem places_spec {c : Nat} (h : IsFn P sg c (fn_raw_places c)) : ∀ (t : Tr) (n : Nat), t.hgt ≤ n → t.hgt ≤ 1000000 → t.places.length ≤ 1000000 → run P sg wf n c [.val t.v] = .ok (.own (.lst (t.places.map plV))) []
  | .node x ps, 0, hh, _, _ => by
    rw [Tr.hgt] at hh
    omega
  | .node x ps, n + 1, hh, hm, hl => by
    refine run_at h.at_ rfl ?_
    rw [Tr.v_eq]
    have hsg := h.sg_
    rw [Tr.places, List.length_cons] at hl
    obtain ⟨x', y', f⟩ := places_for (P := P) (wf := wf) (n := n) (t := .tup [.str x, .tup (ps.map Tr.v)]) hsg ps 0 [.tup []] .none .none (fun p hp => by
      have := Tr.lt (x := x) hp
      have := placesI_mem (i := 0) hp
      exact ⟨by omega, by omega, places_spec h p n (by omega) (by omega) (by omega)⟩) (by simp; omega) (.inl ⟨rfl, rfl⟩)
    simp [fn_raw_places, varR, setS, f, Tr.places, plV]
end
end PT
end
section
set_option Elab.async false
set_option linter.all false
set_option maxRecDepth 100000
set_option pp.maxSteps 700
set_option maxHeartbeats 1000000
/-! trees, part C: names, what form a thing has. -/
namespace PT
open PySem PD PV
abbrev lettersX : List Nat := [97, 98, 99, 100, 101, 102, 103, 104, 105, 106, 107, 108, 109, 110, 111, 112, 113, 114, 115, 116, 117, 118, 119, 120, 121, 122]
/-- a name -/
def nmB (x : List Nat) : Bool := decide (1 ≤ x.length) && (decide (x.length ≤ 8) && (!decide (x = hx) && x.all fun c => lettersX.contains c))
@[simp] theorem eqV_int (i j : Int) : eqV (.int i) (.int j) = some (decide (i = j)) := by simp [eqV, V.data, V.dep, V.eqv, Bool.beq_eq_decide_eq]
@[simp] theorem eqV_str (x y : List Nat) : eqV (.str x) (.str y) = some (decide (x = y)) := by simp [eqV, V.data, V.dep, V.eqv, Bool.beq_eq_decide_eq]
@[simp] theorem eqV_tnil (vs : List V) (h : V.datas vs = true) : eqV (.tup vs) (.tup []) = some vs.isEmpty := by
  unfold eqV
  rw [if_pos ⟨h, rfl, by simp [V.dep, V.deps]⟩]
  cases vs <;> rfl
@[simp] theorem eqV_nn : eqV (.tup []) (.tup []) = some true := rfl
@[simp] theorem eqV_ln : eqV (.lst []) (.lst []) = some true := rfl
@[simp] theorem eqV_lnil (vs : List V) (h : V.datas vs = true) : eqV (.lst vs) (.lst []) = some vs.isEmpty := by
  unfold eqV
  rw [if_pos ⟨h, rfl, by simp [V.dep, V.deps]⟩]
  cases vs <;> rfl
theorem bls_map {α : Type} (f : α → Bool) : ∀ l : List α, blsV? (l.map fun a => V.bl (f a)) = some (l.map f)
  | [] => rfl
  | a :: l => by
    rw [List.map_cons, List.map_cons, blsV?, bls_map f l]
section
variable {P : Prog} {sg : Nat → List Nat} {wf : Nat}
theorem pair_spec {c : Nat} (h : IsFn P sg c fn_is_tuple_of) (n : Nat) (vs : List V) (k : Int) : run P sg wf (n + 1) c [.val (.tup vs), .val (.int k)] = .ok (.v (.bl (decide ((vs.length : Int) = k)))) [] := by
  refine run_at h.at_ rfl ?_
  simp [fn_is_tuple_of, varR]
theorem name_spec {c g1 g2 g3 : Nat} (h : IsFn P sg c (fn_raw_is_name g1 g2 g3)) (h1 : glV P g1 = some (.int 8)) (h2 : glV P g2 = some (.str hx)) (h3 : glV P g3 = some (.str lettersX)) (n : Nat) (x : List Nat) (hl : x.length ≤ 1000000) :
    run P sg wf (n + 1) c [.val (.str x)] = .ok (.v (.bl (nmB x))) [] := by
  refine run_at h.at_ rfl ?_
  have l1 : x.length ≤ 16777216 := by omega
  by_cases h4 : (1 : Int) ≤ (x.length : Int)
  · by_cases h5 : (x.length : Int) ≤ 8
    · by_cases h6 : x = hx
      · subst h6
        simp [fn_raw_is_name, varR, h1, h2, nmB]
      · have n4 : 1 ≤ x.length := by omega
        have n5 : x.length ≤ 8 := by omega
        simp [fn_raw_is_name, varR, h1, h2, l1, h4, h5, h6, nmB, tgSlots]
        rw [each_map (v := fun c => .bl (lettersX.contains c)) fun c hc => ?_]
        · simp [bls_map, n4, n5]
        · simp [lcV, setS, varR, h3]
    · have n5 : ¬ x.length ≤ 8 := by omega
      simp [fn_raw_is_name, varR, h1, h2, l1, h4, h5, nmB, n5]
  · have n4 : ¬ 1 ≤ x.length := by omega
    simp [fn_raw_is_name, varR, h1, h2, l1, h4, nmB, n4]
end
/-! ### what form a thing has -/
mutual
def Tr.size : Tr → Nat
  | .node _ ps => 1 + Tr.sizes ps
def Tr.sizes : List Tr → Nat
  | [] => 0
  | t :: ts => t.size + Tr.sizes ts
end
mutual
def Tr.holes : Tr → Nat
  | .node x ps => if x = hx ∧ ps = [] then 1 else Tr.holess ps
def Tr.holess : List Tr → Nat
  | [] => 0
  | t :: ts => t.holes + Tr.holess ts
end
mutual
/-- names and ranks as they should be -/
def Tr.wf (ρ : List Nat → Nat) : Tr → Prop
  | .node x ps => ((x = hx ∧ ps = []) ∨ (nmB x = true ∧ ps.length = ρ x)) ∧ ps.length ≤ 3 ∧ Tr.wfs ρ ps
def Tr.wfs (ρ : List Nat → Nat) : List Tr → Prop
  | [] => True
  | t :: ts => t.wf ρ ∧ Tr.wfs ρ ts
end
mutual
/-- the parts in the order in which form_of meets them -/
def Tr.dfs : Tr → List Tr
  | .node x ps => .node x ps :: Tr.dfss ps
def Tr.dfss : List Tr → List Tr
  | [] => []
  | t :: ts => Tr.dfss ts ++ t.dfs
end
theorem Tr.wfs_iff {ρ : List Nat → Nat} : ∀ ps : List Tr, Tr.wfs ρ ps ↔ ∀ p ∈ ps, p.wf ρ
  | [] => by simp [Tr.wfs]
  | p :: ps => by simp [Tr.wfs, Tr.wfs_iff ps]
theorem Tr.wf_iff {ρ : List Nat → Nat} (x : List Nat) (ps : List Tr) : (Tr.node x ps).wf ρ ↔ ((x = hx ∧ ps = []) ∨ (nmB x = true ∧ ps.length = ρ x)) ∧ ps.length ≤ 3 ∧ ∀ p ∈ ps, p.wf ρ := by rw [Tr.wf, Tr.wfs_iff]
theorem Tr.wf_small {ρ : List Nat → Nat} : ∀ t : Tr, t.wf ρ → t.small := fun t => Tr.ind (P := fun t => t.wf ρ → t.small) (fun x ps ih h => by
  rw [Tr.wf_iff] at h
  rw [Tr.small_iff]
  exact ⟨h.2.1, fun p hp => ih p hp (h.2.2 p hp)⟩) t
mutual
theorem Tr.size_eq : ∀ t : Tr, t.size = t.nodes + t.holes
  | .node x ps => by
    rw [Tr.size, Tr.nodes, Tr.holes, Tr.sizes_eq ps]
    split
    · rename_i h
      rw [h.2]
      rfl
    · omega
theorem Tr.sizes_eq : ∀ ts : List Tr, Tr.sizes ts = Tr.nodess ts + Tr.holess ts
  | [] => rfl
  | t :: ts => by
    rw [Tr.sizes, Tr.nodess, Tr.holess, Tr.size_eq t, Tr.sizes_eq ts]
    omega
end
abbrev St2 := List Key × List V
/-- a part's name, met -/
def insK (s : St2) (t : Tr) : St2 := if t = .hole then s else match getV s.1 s.2 (.inr t.name) with
  | some _ => s
  | none => (s.1 ++ [.inr t.name], s.2 ++ [.int t.kids.length])
/-- names with their ranks -/
structure KvOk (ρ : List Nat → Nat) (s : St2) : Prop where
  len : s.1.length = s.2.length
  val : ∀ k v, getV s.1 s.2 k = some v → ∃ x, k = .inr x ∧ v = .int (ρ x)
theorem getV_app : ∀ {ks : List Key} {vs : List V} {k q : Key} {v : V}, ks.length = vs.length → getV (ks ++ [k]) (vs ++ [v]) q = match getV ks vs q with
    | some u => some u
    | none => if k = q then some v else none
  | [], [], k, q, v, _ => by simp [getV]
  | a :: ks, b :: vs, k, q, v, h => by
    rw [List.cons_append, List.cons_append, getV, getV]
    split
    · rfl
    · exact getV_app (by simpa using h)
  | [], b :: vs, k, q, v, h => by simp at h
  | a :: ks, [], k, q, v, h => by simp at h
theorem KvOk.nil {ρ : List Nat → Nat} : KvOk ρ ([], []) := ⟨rfl, fun k v h => by simp [getV] at h⟩
theorem KvOk.ins {ρ : List Nat → Nat} {s : St2} {t : Tr} (h : KvOk ρ s) (w : t.wf ρ) : KvOk ρ (insK s t) := by
  obtain ⟨x, ps⟩ := t
  unfold insK
  split
  · exact h
  · rename_i nh
    rw [Tr.wf_iff] at w
    have hr : ps.length = ρ x := (w.1.resolve_left fun z => nh ((Tr.hole_iff x ps).mpr z)).2
    split
    · exact h
    · refine ⟨by simp [h.len], fun k v e => ?_⟩
      rw [getV_app h.len] at e
      split at e
      · rename_i u eu
        cases e
        exact h.val k v eu
      · split at e
        · rename_i z
          cases e
          exact ⟨x, z.symm, by rw [← hr]; rfl⟩
        · cases e
abbrev stV (p : Tr × Nat) : V := .tup [p.1.v, .int (p.2 : Int)]
def stSize (st : List (Tr × Nat)) : Nat := Tr.sizes (st.map (·.1))
theorem sizes_app : ∀ a b : List Tr, Tr.sizes (a ++ b) = Tr.sizes a + Tr.sizes b
  | [], b => by simp [Tr.sizes]
  | t :: a, b => by rw [List.cons_append, Tr.sizes, Tr.sizes, sizes_app a b]; omega
theorem holess_app : ∀ a b : List Tr, Tr.holess (a ++ b) = Tr.holess a + Tr.holess b
  | [], b => by simp [Tr.holess]
  | t :: a, b => by rw [List.cons_append, Tr.holess, Tr.holess, holess_app a b]; omega
theorem dfss_app : ∀ a b : List Tr, Tr.dfss (a ++ b) = Tr.dfss b ++ Tr.dfss a
  | [], b => by simp [Tr.dfss]
  | t :: a, b => by rw [List.cons_append, Tr.dfss, Tr.dfss, dfss_app a b, List.append_assoc]
section
variable {P : Prog} {sg : Nat → List Nat} {wf : Nat}
/-- the program's numbers, names and small functions that form_of leans on -/
structure FormEnv (P : Prog) (sg : Nat → List Nat) (gN gD cT gR gH cN : Nat) : Prop where
  gN : glV P gN = some (.int 400)
  gD : glV P gD = some (.int 40)
  gR : glV P gR = some (.int 3)
  gH : glV P gH = some (.str hx)
  cT : IsFn P sg cT fn_is_tuple_of
  cN : ∃ g1 g2 g3, IsFn P sg cN (fn_raw_is_name g1 g2 g3) ∧ glV P g1 = some (.int 8) ∧ glV P g2 = some (.str hx) ∧ glV P g3 = some (.str lettersX)
def formT (gN gD cT gR gH cN : Nat) : Te := match (fn_form_of gN gD cT gR gH cN).body with | [_, .while t _, _] => t | _ => .val (.int 0)
def formB (gN gD cT gR gH cN : Nat) : List T := match (fn_form_of gN gD cT gR gH cN).body with | [_, .while _ b, _] => b | _ => []
theorem form_body {gN gD cT gR gH cN : Nat} (E : FormEnv P sg gN gD cT gR gH cN) {ρ : List Nat → Nat} {n : Nat} {th : Sl} {A : List V} {s : St2} {t : Tr} {c h d : Nat} {x5 x6 : Sl} (w : t.wf ρ) (hs : KvOk ρ s) (hc : c ≤ 400) (hd : d ≤ 40) (hl : s.1.length ≤ 1000) (hA : A.length ≤ 10000)
    (hx5 : (x5 = .none ∧ x6 = .none) ∨ ∃ a b, x5 = .val a ∧ x6 = .val b) :
    xTs (gv P sg wf (n + 1)) (formB gN gD cT gR gH cN) [th, .own false (.dk s.1 s.2), .val (.int c), .val (.int h), .own false (.lst (A ++ [stV (t, d)])), x5, x6, .none] =
      .nx [th, .own false (.dk (insK s t).1 (insK s t).2), .val (.int (c + 1 : Nat)), .val (.int (h + (if t = .hole then 1 else 0) : Nat)), .own false (.lst (A ++ t.kids.map fun k => stV (k, d + 1))), .val t.v, .val (.int d), .none] := by
  obtain ⟨x, ps⟩ := t
  have w2 := (Tr.wf_iff x ps).mp w
  have hl3 : ps.length ≤ 3 := w2.2.1
  have n1 : ¬ (401 : Int) < (c : Int) + 1 := by omega
  have n2 : ¬ (40 : Int) < (d : Int) := by omega
  have n3 : ¬ (3 : Int) < (ps.length : Int) := by omega
  have n4 : ps.length ≤ 16777216 := by omega
  have n5 : A.length + ps.length ≤ 16777216 := by omega
  have n6 : s.1.length < 16777216 := by omega
  have n7 : A.length ≤ 16777216 := by omega
  have sT := E.cT.sg_
  have ee : ∀ q1 q2 q3 q4 : Sl, eachV (lcV [7] (tgV (gv P sg wf (n + 1)) (.name 7)) (vTo (gv P sg wf (n + 1)) none) (ev (gv P sg wf (n + 1)) .fz (.tup [.var 7, .bin .add (.var 6) (.int 1)]))) (ps.map Tr.v) [th, q1, q2, q3, q4, .val (.tup [.str x, .tup (ps.map Tr.v)]), .val (.int d), .none] =
      .ok (ps.map fun k => stV (k, d + 1)) [th, q1, q2, q3, q4, .val (.tup [.str x, .tup (ps.map Tr.v)]), .val (.int d), .none] := fun q1 q2 q3 q4 => each_map fun p hp => by
    simp [lcV, setS, varR]
  obtain ⟨g1, g2, g3, hN, hN1, hN2, hN3⟩ := E.cN
  have sN := hN.sg_
  by_cases hb : Tr.node x ps = .hole
  · cases hb
    have ii : insK s .hole = s := by unfold insK; rw [if_pos rfl]
    rcases hx5 with ⟨rfl, rfl⟩ | ⟨a, b, rfl, rfl⟩
    · simp [formB, fn_form_of, Tr.v_eq, varR, setS, E.gN, E.gD, E.gR, E.gH, pair_spec E.cT, sT, n1, n2, n7, tgSlots, ii, Tr.kids]
    · simp [formB, fn_form_of, Tr.v_eq, varR, setS, E.gN, E.gD, E.gR, E.gH, pair_spec E.cT, sT, n1, n2, n7, tgSlots, ii, Tr.kids]
  · obtain ⟨hnm, hr⟩ := w2.1.resolve_left fun z => hb ((Tr.hole_iff x ps).mpr z)
    have hxx : x ≠ hx := by
      rintro rfl
      cases hnm
    have hxl : x.length ≤ 1000000 := by
      unfold nmB at hnm
      simp at hnm
      omega
    have nm := name_spec (wf := wf) hN hN1 hN2 hN3 n x hxl
    rw [hnm] at nm
    unfold insK
    rw [if_neg hb]
    cases eg : getV s.1 s.2 (.inr x) with
    | some v =>
      obtain ⟨y, e1, e2⟩ := hs.val _ _ eg
      cases e1
      subst e2
      rcases hx5 with ⟨rfl, rfl⟩ | ⟨a, b, rfl, rfl⟩
      · simp [formB, fn_form_of, Tr.v_eq, varR, setS, E.gN, E.gD, E.gR, E.gH, pair_spec E.cT, sT, n1, n2, n3, n4, n5, n6, tgSlots, Tr.kids, Tr.name, hxx, nm, sN, eg, ← hr, hb, ee]
      · simp [formB, fn_form_of, Tr.v_eq, varR, setS, E.gN, E.gD, E.gR, E.gH, pair_spec E.cT, sT, n1, n2, n3, n4, n5, n6, tgSlots, Tr.kids, Tr.name, hxx, nm, sN, eg, ← hr, hb, ee]
    | none =>
      rcases hx5 with ⟨rfl, rfl⟩ | ⟨a, b, rfl, rfl⟩
      · simp [formB, fn_form_of, Tr.v_eq, varR, setS, E.gN, E.gD, E.gR, E.gH, pair_spec E.cT, sT, n1, n2, n3, n4, n5, n6, tgSlots, Tr.kids, Tr.name, hxx, nm, sN, eg, ← hr, hb, ee]
      · simp [formB, fn_form_of, Tr.v_eq, varR, setS, E.gN, E.gD, E.gR, E.gH, pair_spec E.cT, sT, n1, n2, n3, n4, n5, n6, tgSlots, Tr.kids, Tr.name, hxx, nm, sN, eg, ← hr, hb, ee]
theorem form_test {gN gD cT gR gH cN n : Nat} {e0 e1 e2 e3 e5 e6 : Sl} {A : List V} (hA : V.datas A = true) :
    vT (gv P sg wf n) (formT gN gD cT gR gH cN) [e0, e1, e2, e3, .own false (.lst A), e5, e6, .none] = .ok (!A.isEmpty) [e0, e1, e2, e3, .own false (.lst A), e5, e6, .none] := by
  simp [formT, fn_form_of, varR, hA]
theorem st_datas : ∀ st : List (Tr × Nat), V.datas (st.map stV) = true
  | [] => rfl
  | p :: st => by simp [st_datas st]
theorem insK_len (s : St2) (t : Tr) : (insK s t).1.length ≤ s.1.length + 1 := by
  unfold insK
  split
  · omega
  · split
    · omega
    · simp
theorem form_while {gN gD cT gR gH cN : Nat} (E : FormEnv P sg gN gD cT gR gH cN) {ρ : List Nat → Nat} {n : Nat} {th : Sl} : ∀ (m f : Nat) (st : List (Tr × Nat)) (s : St2) (c h : Nat) (x5 x6 : Sl), stSize st = m → m < f → (∀ p ∈ st, p.1.wf ρ ∧ p.2 + p.1.hgt ≤ 41) → KvOk ρ s → c + m ≤ 401 → s.1.length ≤ c → st.length ≤ 3 * c + 1 →
    ((x5 = .none ∧ x6 = .none) ∨ ∃ a b, x5 = .val a ∧ x6 = .val b) →
    ∃ y5 y6, whileV (vT (gv P sg wf (n + 1)) (formT gN gD cT gR gH cN)) (xTs (gv P sg wf (n + 1)) (formB gN gD cT gR gH cN)) f [th, .own false (.dk s.1 s.2), .val (.int c), .val (.int h), .own false (.lst (st.map stV)), x5, x6, .none] =
      .nx [th, .own false (.dk ((Tr.dfss (st.map (·.1))).foldl insK s).1 ((Tr.dfss (st.map (·.1))).foldl insK s).2), .val (.int (c + m : Nat)), .val (.int (h + Tr.holess (st.map (·.1)) : Nat)), .own false (.lst []), y5, y6, .none] := by
  intro m
  induction m using Nat.strongRecOn with
  | _ m ih =>
    intro f st s c h x5 x6 hm hf hw hk hc hl hst hx5
    have hd := st_datas st
    cases f with
    | zero => omega
    | succ f =>
      rcases List.eq_nil_or_concat st with rfl | ⟨st', ⟨⟨x, ps⟩, d⟩, rfl⟩
      · have e0 : m = 0 := hm.symm
        subst e0
        exact ⟨x5, x6, while_end (form_test rfl)⟩
      · simp only [List.concat_eq_append] at *
        obtain ⟨w, hdd⟩ := hw (.node x ps, d) (by simp)
        have hdd : d + (Tr.node x ps).hgt ≤ 41 := hdd
        have w2 := (Tr.wf_iff x ps).mp w
        have hsz : stSize (st' ++ [(.node x ps, d)]) = stSize st' + (1 + Tr.sizes ps) := by
          unfold stSize
          rw [List.map_append, sizes_app]
          simp [Tr.sizes, Tr.size]
        rw [hsz] at hm
        have hg : 1 ≤ (Tr.node x ps).hgt := by rw [Tr.hgt]; omega
        have hst' : st'.length ≤ 3 * c := by simp at hst; omega
        have hin := insK_len s (.node x ps)
        have hl3 := w2.2.1
        have bd := form_body (wf := wf) (n := n) (th := th) (A := st'.map stV) (c := c) (h := h) (d := d) (x5 := x5) (x6 := x6) E w hk (by omega) (by omega) (by omega) (by simp; omega) hx5
        have te := form_test (P := P) (sg := sg) (wf := wf) (gN := gN) (gD := gD) (cT := cT) (gR := gR) (gH := gH) (cN := cN) (n := n + 1) (e0 := th) (e1 := .own false (.dk s.1 s.2)) (e2 := .val (.int c)) (e3 := .val (.int h)) (e5 := x5) (e6 := x6) hd
        have ne : (!((st' ++ [(Tr.node x ps, d)]).map stV).isEmpty) = true := by simp
        rw [ne] at te
        have em : (st' ++ [(Tr.node x ps, d)]).map stV = st'.map stV ++ [stV (Tr.node x ps, d)] := by simp
        rw [em] at te ⊢
        rw [while_go te (.inl bd)]
        have ek : st'.map stV ++ ((Tr.node x ps).kids.map fun k => stV (k, d + 1)) = (st' ++ ps.map fun k => (k, d + 1)).map stV := by simp [Tr.kids]
        rw [ek]
        have e1 : stSize (st' ++ ps.map fun k => (k, d + 1)) = m - 1 := by
          unfold stSize at hm ⊢
          rw [List.map_append, sizes_app, List.map_map]
          have : (Prod.fst ∘ fun k : Tr => (k, d + 1)) = id := rfl
          rw [this, List.map_id]
          omega
        obtain ⟨y5, y6, z⟩ := ih (m - 1) (by omega) f (st' ++ ps.map fun k => (k, d + 1)) (insK s (.node x ps)) (c + 1) (h + (if Tr.node x ps = .hole then 1 else 0)) (.val (Tr.node x ps).v) (.val (.int d)) e1 (by omega) (fun p hp => by
          rcases List.mem_append.mp hp with hp | hp
          · exact hw p (by simp [hp])
          · obtain ⟨k, hk, rfl⟩ := List.mem_map.mp hp
            have := Tr.lt (x := x) hk
            exact ⟨w2.2.2 k hk, by show d + 1 + k.hgt ≤ 41; have : d + (Tr.node x ps).hgt ≤ 41 := hdd; omega⟩) (hk.ins w) (by omega) (by omega) (by simp; omega) (.inr ⟨_, _, rfl, rfl⟩)
        refine ⟨y5, y6, ?_⟩
        rw [z]
        have o1 : Tr.dfss ((st' ++ [(Tr.node x ps, d)]).map (·.1)) = Tr.node x ps :: Tr.dfss ((st' ++ ps.map fun k => (k, d + 1)).map (·.1)) := by
          rw [List.map_append, List.map_append, dfss_app, dfss_app, List.map_map]
          have : (Prod.fst ∘ fun k : Tr => (k, d + 1)) = id := rfl
          rw [this, List.map_id]
          simp [Tr.dfss, Tr.dfs]
        have o2 : h + (if Tr.node x ps = .hole then 1 else 0) + Tr.holess ((st' ++ ps.map fun k => (k, d + 1)).map (·.1)) = h + Tr.holess ((st' ++ [(Tr.node x ps, d)]).map (·.1)) := by
          rw [List.map_append, List.map_append, holess_app, holess_app, List.map_map]
          have : (Prod.fst ∘ fun k : Tr => (k, d + 1)) = id := rfl
          rw [this, List.map_id]
          simp only [List.map_cons, List.map_nil, Tr.holess, Tr.holes]
          by_cases hb : x = hx ∧ ps = []
          · rw [if_pos ((Tr.hole_iff x ps).mpr hb), if_pos hb, hb.2]
            simp [Tr.holess]
            omega
          · rw [if_neg (fun q => hb ((Tr.hole_iff x ps).mp q)), if_neg hb]
            omega
        rw [o1, o2, List.foldl_cons]
        have o3 : c + 1 + (m - 1) = c + m := by omega
        rw [o3]
/-- form_of of a tree -/
theorem form_spec {c gN gD cT gR gH cN : Nat} (h : IsFn P sg c (fn_form_of gN gD cT gR gH cN)) (E : FormEnv P sg gN gD cT gR gH cN) (hwf : 500 ≤ wf) {ρ : List Nat → Nat} {t : Tr} (w : t.wf ρ) (hh : t.hgt ≤ 40) (hz : t.size ≤ 401) (n : Nat) :
    run P sg wf (n + 2) c [.val t.v] = .ok (.v (.tup [.dct (t.dfs.foldl insK ([], [])).1 (t.dfs.foldl insK ([], [])).2, .int t.size, .int t.holes])) [] := by
  refine run_at h.at_ rfl ?_
  obtain ⟨y5, y6, z⟩ := form_while (P := P) (wf := wf) (n := n) (th := .val t.v) E t.size wf [(t, 1)] ([], []) 0 0 .none .none (by simp [stSize, Tr.sizes]) (by omega) (fun p hp => by
    rw [List.mem_singleton.mp hp]
    exact ⟨w, by show 1 + t.hgt ≤ 41; omega⟩) KvOk.nil (by omega) (by simp) (by simp) (.inl ⟨rfl, rfl⟩)
  simp [Tr.dfss, Tr.holess, formT, formB, fn_form_of, stV] at z
  simp [fn_form_of, varR, setS, z]
end
end PT
end
section
set_option Elab.async false
set_option linter.all false
set_option maxRecDepth 100000
set_option pp.maxSteps 700
set_option maxHeartbeats 1000000
/-! trees, part D: trees with another part, holes, trees put in. -/
namespace PT
open PySem PD PV
@[simp] theorem cut_take {α : Type} (xs : List α) (i : Nat) : cutD xs none (some (i : Int)) = xs.take i := by
  unfold cutD bnd
  simp only [List.drop_zero]
  rw [if_neg (by omega), Int.toNat_natCast]
  rcases Nat.le_total i xs.length with h | h
  · rw [Nat.min_eq_left h, Nat.sub_zero]
  · rw [Nat.min_eq_right h, Nat.sub_zero, List.take_of_length_le (Nat.le_refl _), List.take_of_length_le h]
@[simp] theorem cut_drop {α : Type} (xs : List α) (i : Nat) : cutD xs (some (i : Int)) none = xs.drop i := by
  unfold cutD bnd
  simp only []
  rw [if_neg (by omega), Int.toNat_natCast]
  rcases Nat.le_total i xs.length with h | h
  · rw [Nat.min_eq_left h, List.take_of_length_le (by rw [List.length_drop]; omega)]
  · rw [Nat.min_eq_right h, List.drop_eq_nil_of_le h, List.drop_eq_nil_of_le (Nat.le_refl _), List.take_nil]
@[simp] theorem cut_drop1 {α : Type} (xs : List α) : cutD xs (some 1) none = xs.drop 1 := cut_drop xs 1
@[simp] theorem cut_dropS {α : Type} (xs : List α) (i : Nat) : cutD xs (some ((i : Int) + 1)) none = xs.drop (i + 1) := cut_drop xs (i + 1)
/-- the tree with another part -/
def Tr.put : List Nat → Tr → Tr → Tr
  | [], _, u => u
  | i :: p, .node x ps, u => .node x (ps.take i ++ [Tr.put p (ps.getD i .hole) u] ++ ps.drop (i + 1))
mutual
/-- where holes are -/
def Tr.hp : Tr → List (List Nat)
  | .node x ps => if x = hx ∧ ps = [] then [[]] else Tr.hpI 0 ps
def Tr.hpI : Nat → List Tr → List (List Nat)
  | _, [] => []
  | i, p :: ps => p.hp.map (i :: ·) ++ Tr.hpI (i + 1) ps
end
theorem plV_eq0 (p : List Nat) : eqV (plV p) (.tup []) = some p.isEmpty := by
  rw [plV_is]
  cases p with
  | nil => rfl
  | cons i p =>
    rw [eqV_tnil _ ?_]
    · rfl
    · generalize i :: p = q
      induction q with
      | nil => rfl
      | cons a q ih => simp [ih]
theorem plV_data (p : List Nat) : (plV p).data = true := by
  rw [plV_is]
  show V.datas _ = true
  induction p with
  | nil => rfl
  | cons a q ih => simp [ih]
mutual
theorem places_at : ∀ (t : Tr) (p : List Nat), p ∈ t.places → ∃ u, t.at? p = some u
  | .node x ps, p, h => by
    rw [Tr.places] at h
    rcases List.mem_cons.mp h with rfl | h
    · exact ⟨_, by rw [Tr.at?]⟩
    · obtain ⟨j, q, u, rfl, _, e1, e2⟩ := placesI_at ps 0 p h
      refine ⟨u, ?_⟩
      rw [Tr.at?]
      obtain ⟨v, hv, e⟩ := e2
      rw [show (Tr.node x ps).kids[0 + j]? = some v by rw [Nat.zero_add]; exact hv]
      exact e
theorem placesI_at : ∀ (ps : List Tr) (i : Nat) (p : List Nat), p ∈ Tr.placesI i ps → ∃ j q u, p = (i + j) :: q ∧ True ∧ True ∧ ∃ v, ps[j]? = some v ∧ v.at? q = some u
  | [], i, p, h => by rw [Tr.placesI] at h; cases h
  | t :: ps, i, p, h => by
    rw [Tr.placesI] at h
    rcases List.mem_append.mp h with h | h
    · obtain ⟨q, hq, rfl⟩ := List.mem_map.mp h
      obtain ⟨u, e⟩ := places_at t q hq
      exact ⟨0, q, u, rfl, trivial, trivial, t, rfl, e⟩
    · obtain ⟨j, q, u, rfl, _, _, v, e1, e2⟩ := placesI_at ps (i + 1) p h
      exact ⟨j + 1, q, u, by rw [show i + 1 + j = i + (j + 1) by omega], trivial, trivial, v, by simpa using e1, e2⟩
end
def isHoleAt (t : Tr) (p : List Nat) : Bool := decide (t.at? p = some .hole)
mutual
theorem hp_eq : ∀ t : Tr, t.places.filter (isHoleAt t) = t.hp
  | .node x ps => by
    rw [Tr.places, Tr.hp]
    by_cases h : x = hx ∧ ps = []
    · obtain ⟨rfl, rfl⟩ := h
      rfl
    · rw [if_neg h, List.filter_cons_of_neg]
      · have := hpI_eq ps 0 (.node x ps) (fun j => by rw [Nat.zero_add]; rfl)
        exact this
      · unfold isHoleAt
        rw [Tr.at?]
        intro z
        have z := of_decide_eq_true z
        cases z
        exact h ⟨rfl, rfl⟩
theorem hpI_eq : ∀ (ps : List Tr) (i : Nat) (t : Tr), (∀ j, t.kids[i + j]? = ps[j]?) → (Tr.placesI i ps).filter (isHoleAt t) = Tr.hpI i ps
  | [], i, t, h => by rw [Tr.placesI, Tr.hpI]; rfl
  | p :: ps, i, t, h => by
    rw [Tr.placesI, Tr.hpI, List.filter_append, hpI_eq ps (i + 1) t (fun j => by have := h (j + 1); rw [show i + 1 + j = i + (j + 1) by omega]; simpa using this), List.filter_map]
    have e : (isHoleAt t ∘ fun x => i :: x) = isHoleAt p := by
      funext q
      unfold isHoleAt
      show decide (t.at? (i :: q) = _) = _
      rw [Tr.at?]
      have := h 0
      rw [Nat.add_zero] at this
      rw [this]
      rfl
    rw [e, hp_eq p]
end
section
variable {P : Prog} {sg : Nat → List Nat} {wf : Nat}
theorem with_spec {c : Nat} (h : IsFn P sg c (fn_raw_with c)) : ∀ (p : List Nat) (t u w : Tr) (n : Nat), p.length < n → t.small → t.at? p = some w → run P sg wf n c [.val t.v, .val (plV p), .val u.v] = .ok (.v (Tr.put p t u).v) []
  | _, t, u, w, 0, hl, _, _ => by omega
  | [], t, u, w, n + 1, hl, hs, e => by
    refine run_at h.at_ rfl ?_
    simp [fn_raw_with, varR, plV_eq0, Tr.put]
  | i :: p, .node x ps, u, w, n + 1, hl, hs, e => by
    refine run_at h.at_ rfl ?_
    rw [Tr.at?] at e
    split at e
    · rename_i v ev
      have ev : ps[i]? = some v := ev
      rw [Tr.small_iff] at hs
      have hsg := h.sg_
      have e1 : ixLV (ps.map Tr.v) (i : Int) = some v.v := ixLV_nat (by rw [List.getElem?_map, ev]; rfl)
      have e2 : ixV (plV (i :: p)) (.int 0) = some (.int i) := by simp [plV]
      have e3 : slV (plV (i :: p)) (some 1) none = some (.v (plV p)) := by simp [plV]
      have hi : i < ps.length := by
        rcases Nat.lt_or_ge i ps.length with z | z
        · exact z
        · rw [List.getElem?_eq_none z] at ev; cases ev
      have ih := with_spec h p v u w n (by simp at hl; omega) (hs.2 v (List.mem_of_getElem? ev)) e
      have l1 : min i ps.length + 1 ≤ 16777216 := by omega
      have l2 : min i ps.length + 1 + (ps.length - (i + 1)) ≤ 16777216 := by omega
      have ed : ps.getD i .hole = v := by rw [List.getD_eq_getElem?_getD, ev]; rfl
      simp [fn_raw_with, varR, setS, plV_eq0, Tr.v_eq, e1, e2, e3, hsg, ih, l1, l2, Tr.put, ev]
    · cases e
theorem hole_spec {c cp ca g : Nat} (h : IsFn P sg c (fn_raw_hole cp ca g)) (hp : IsFn P sg cp (fn_raw_places cp)) (ha : IsFn P sg ca fn_raw_at) (hg : glV P g = some bareV) {t : Tr} {p : List Nat} {r : List (List Nat)} (e : t.hp = p :: r) (n : Nat) (hh : t.hgt ≤ n) (hn : 1 ≤ n) (hm : t.hgt ≤ 1000000) (hl : t.places.length ≤ 1000000) :
    run P sg wf (n + 1) c [.val t.v] = .ok (.v (plV p)) [] := by
  refine run_at h.at_ rfl ?_
  have e1 := places_spec (wf := wf) hp t n hh hm hl
  have l1 : t.places.length ≤ 16777216 := by omega
  have s1 := hp.sg_
  have s2 := ha.sg_
  simp [fn_raw_hole, varR, setS, e1, s1, l1, tgSlots]
  rw [each_filter (v := plV) (p := isHoleAt t) fun q hq => ?_]
  · rw [hp_eq, e]
    simp
  · obtain ⟨u, eu⟩ := places_at t q hq
    obtain ⟨n, rfl⟩ : ∃ m, n = m + 1 := ⟨n - 1, by omega⟩
    have e3 := at_spec (P := P) (sg := sg) (wf := wf) ha eu (n := n)
    have e4 : isHoleAt t q = decide (u = .hole) := by
      unfold isHoleAt
      rw [eu]
      simp
    have e5 := eq_bare u
    by_cases hb : u = .hole
    · subst hb
      simp [lcV, varR, setS, s2, e3, hg, e4, e5]
    · simp [lcV, varR, setS, s2, e3, hg, e4, e5, hb]
theorem is_tree_spec {c cf gM gN gD cT gR gH cN : Nat} (h : IsFn P sg c (fn_raw_is_tree cf gM)) (hM : glV P gM = some (.int 400)) (hf : IsFn P sg cf (fn_form_of gN gD cT gR gH cN)) (E : FormEnv P sg gN gD cT gR gH cN) (hwf : 500 ≤ wf) {ρ : List Nat → Nat} {t : Tr} (w : t.wf ρ) (hh : t.hgt ≤ 40) (hz : t.size ≤ 401) (n : Nat) :
    run P sg wf (n + 3) c [.val t.v] = .ok (.v (.bl (decide (t.holes = 0) && decide (t.size ≤ 400)))) [] := by
  refine run_at h.at_ rfl ?_
  have e := form_spec (wf := wf) hf E hwf w hh hz n
  have s1 := hf.sg_
  by_cases h0 : t.holes = 0
  · simp [fn_raw_is_tree, varR, setS, e, s1, hM, h0]
    omega
  · simp [fn_raw_is_tree, varR, setS, e, s1, hM, h0]
theorem is_surr_spec {c cf gM gN gD cT gR gH cN : Nat} (h : IsFn P sg c (fn_raw_is_surrounding cf gM)) (hM : glV P gM = some (.int 400)) (hf : IsFn P sg cf (fn_form_of gN gD cT gR gH cN)) (E : FormEnv P sg gN gD cT gR gH cN) (hwf : 500 ≤ wf) {ρ : List Nat → Nat} {t : Tr} (w : t.wf ρ) (hh : t.hgt ≤ 40) (hz : t.size ≤ 401) (n : Nat) :
    run P sg wf (n + 3) c [.val t.v] = .ok (.v (.bl (decide (t.holes = 1)))) [] := by
  refine run_at h.at_ rfl ?_
  have e := form_spec (wf := wf) hf E hwf w hh hz n
  have s1 := hf.sg_
  have l1 : (t.size : Int) - 1 ≤ 400 := by omega
  by_cases h0 : t.holes = 1
  · simp [fn_raw_is_surrounding, varR, setS, e, s1, hM, h0, l1]
  · have h1 : ¬ (t.holes : Int) = 1 := by omega
    simp [fn_raw_is_surrounding, varR, setS, e, s1, hM, h0, h1]
theorem check_spec {c cf k : Nat} {v : V} (h : IsFn P sg c (fn_check_tree cf k)) (s1 : sg cf = []) {n : Nat} {b : Bool} (e : run P sg wf n cf [.val v] = .ok (.v (.bl b)) []) :
    run P sg wf (n + 1) c [.val v] = if b = true then .ok (.v .non) [] else .exc k [] [] := by
  refine run_at h.at_ rfl ?_
  cases b <;> simp [fn_check_tree, varR, setS, e, s1]
theorem check_surr_spec {c cf k : Nat} {v : V} (h : IsFn P sg c (fn_check_surrounding cf k)) (s1 : sg cf = []) {n : Nat} {b : Bool} (e : run P sg wf n cf [.val v] = .ok (.v (.bl b)) []) :
    run P sg wf (n + 1) c [.val v] = if b = true then .ok (.v .non) [] else .exc k [] [] := by
  refine run_at h.at_ rfl ?_
  cases b <;> simp [fn_check_surrounding, varR, setS, e, s1]
theorem Tr.at_wf {ρ : List Nat → Nat} : ∀ (p : List Nat) (t u : Tr), t.wf ρ → t.at? p = some u → u.wf ρ
  | [], t, u, w, e => by cases e; exact w
  | i :: p, .node x ps, u, w, e => by
    rw [Tr.at?] at e
    split at e
    · rename_i v ev
      exact Tr.at_wf p v u (((Tr.wf_iff x ps).mp w).2.2 v (List.mem_of_getElem? ev)) e
    · cases e
theorem ranks_for {cp ca g n : Nat} (ha : IsFn P sg ca fn_raw_at) (hg : glV P g = some bareV) {ρ : List Nat → Nat} {t : Tr} (w : t.wf ρ) {R : List T} (hR : R = match (fn_ranks_are_one cp ca g).body with | [_, .for _ _ b, _] => b | _ => []) : ∀ (ps : List (List Nat)) (s : St2) (x y : Sl), (∀ p ∈ ps, ∃ u, t.at? p = some u) → KvOk ρ s → s.1.length + ps.length ≤ 10000000 →
    ((x = .none ∧ y = .none) ∨ ∃ a b, x = .val a ∧ y = .val b) →
    ∃ s' x' y', forV (tgV (gv P sg wf (n + 1)) (.name 2)) (xTs (gv P sg wf (n + 1)) R) (ps.map plV) [.val t.v, .own false (.dk s.1 s.2), x, y] = .nx [.val t.v, .own false (.dk s'.1 s'.2), x', y'] ∧ KvOk ρ s'
  | [], s, x, y, hp, hk, hl, hx => ⟨s, x, y, rfl, hk⟩
  | p :: ps, s, x, y, hp, hk, hl, hx5 => by
    obtain ⟨u, eu⟩ := hp p (List.mem_cons_self ..)
    have wu := Tr.at_wf p t u w eu
    have hin := insK_len s u
    rw [List.length_cons] at hl
    obtain ⟨s', x', y', ih, hk'⟩ := ranks_for (n := n) (cp := cp) ha hg w hR ps (insK s u) (.val (plV p)) (.val u.v) (fun q hq => hp q (List.mem_cons_of_mem _ hq)) (hk.ins wu) (by omega) (.inr ⟨_, _, rfl, rfl⟩)
    refine ⟨s', x', y', ?_, hk'⟩
    have e3 := at_spec (P := P) (sg := sg) (wf := wf) ha eu (n := n)
    have s2 := ha.sg_
    have e5 := eq_bare u
    have l1 : s.1.length < 16777216 := by omega
    rw [← ih]
    subst hR
    by_cases hb : u = .hole
    · subst hb
      have ii : insK s .hole = s := by unfold insK; rw [if_pos rfl]
      rcases hx5 with ⟨rfl, rfl⟩ | ⟨a, b, rfl, rfl⟩
      · simp [forV, fn_ranks_are_one, varR, setS, s2, e3, hg, e5, ii]
      · simp [forV, fn_ranks_are_one, varR, setS, s2, e3, hg, e5, ii]
    · obtain ⟨z, qs⟩ := u
      have w2 := (Tr.wf_iff z qs).mp wu
      obtain ⟨hnm, hr⟩ := w2.1.resolve_left fun q => hb ((Tr.hole_iff z qs).mpr q)
      rw [Tr.v_eq] at e3 e5 ⊢
      unfold insK
      rw [if_neg hb]
      cases eg : getV s.1 s.2 (.inr z) with
      | some v =>
        obtain ⟨y, e1, e2⟩ := hk.val _ _ eg
        cases e1
        subst e2
        rcases hx5 with ⟨rfl, rfl⟩ | ⟨a, b, rfl, rfl⟩
        · simp [forV, fn_ranks_are_one, varR, setS, s2, e3, hg, e5, hb, eg, l1, ← hr, Tr.name]
        · simp [forV, fn_ranks_are_one, varR, setS, s2, e3, hg, e5, hb, eg, l1, ← hr, Tr.name]
      | none =>
        rcases hx5 with ⟨rfl, rfl⟩ | ⟨a, b, rfl, rfl⟩
        · simp [forV, fn_ranks_are_one, varR, setS, s2, e3, hg, e5, hb, eg, l1, Tr.name, Tr.kids]
        · simp [forV, fn_ranks_are_one, varR, setS, s2, e3, hg, e5, hb, eg, l1, Tr.name, Tr.kids]
theorem ranks_spec {c cp ca g : Nat} (h : IsFn P sg c (fn_ranks_are_one cp ca g)) (hp : IsFn P sg cp (fn_raw_places cp)) (ha : IsFn P sg ca fn_raw_at) (hg : glV P g = some bareV) {ρ : List Nat → Nat} {t : Tr} (w : t.wf ρ) (n : Nat) (hh : t.hgt ≤ n + 1) (hm : t.hgt ≤ 1000000) (hl : t.places.length ≤ 1000000) :
    run P sg wf (n + 2) c [.val t.v] = .ok (.v (.bl true)) [] := by
  refine run_at h.at_ rfl ?_
  have e1 := places_spec (wf := wf) hp t (n + 1) hh hm hl
  have s1 := hp.sg_
  obtain ⟨s', x', y', f, _⟩ := ranks_for (wf := wf) (n := n) (cp := cp) ha hg w rfl t.places ([], []) .none .none (fun p q => places_at t p q) KvOk.nil (by simp; omega) (.inl ⟨rfl, rfl⟩)
  simp [fn_ranks_are_one] at f
  simp [fn_ranks_are_one, varR, setS, e1, s1, f]
/-- how a tree that is made comes out -/
def sizeR (k : Nat) (t : Tr) : CR := if 400 < t.nodes then .exc k [.int 400] [] else if 40 < t.hgt then .exc k [.int 40] [] else .ok (.v t.v) []
theorem sizeR_cases (k : Nat) (t : Tr) : sizeR k t = .exc k [.int 400] [] ∨ sizeR k t = .exc k [.int 40] [] ∨ sizeR k t = .ok (.v t.v) [] := by
  unfold sizeR
  split
  · exact .inl rfl
  · split
    · exact .inr (.inl rfl)
    · exact .inr (.inr rfl)
theorem size_spec {c cn cd gN gD k gB : Nat} (h : IsFn P sg c (fn_check_size cn gN k cd gD)) (hn : IsFn P sg cn (fn_raw_nodes gB cn)) (hB : glV P gB = some bareV) (hd : IsFn P sg cd (fn_raw_deep cd)) (hN : glV P gN = some (.int 400)) (hD : glV P gD = some (.int 40)) {t : Tr} (hs : t.small) (n : Nat) (hh : t.hgt ≤ n) :
    run P sg wf (n + 1) c [.val t.v] = sizeR k t := by
  refine run_at h.at_ rfl ?_
  have e1 := nodes_spec (wf := wf) hn hB t n hh hs
  have e2 := deep_spec (wf := wf) hd t n hh hs
  have s1 := hn.sg_
  have s2 := hd.sg_
  unfold sizeR
  by_cases h1 : 400 < t.nodes
  · have h1' : (400 : Int) < (t.nodes : Int) := by omega
    simp [fn_check_size, varR, setS, e1, e2, s1, s2, hN, hD, h1, h1']
  · have h1' : ¬ (400 : Int) < (t.nodes : Int) := by omega
    by_cases h2 : 40 < t.hgt
    · have h2' : (40 : Int) < (t.hgt : Int) := by omega
      simp [fn_check_size, varR, setS, e1, e2, s1, s2, hN, hD, h1, h1', h2, h2']
    · have h2' : ¬ (40 : Int) < (t.hgt : Int) := by omega
      simp [fn_check_size, varR, setS, e1, e2, s1, s2, hN, hD, h1, h1', h2, h2']
mutual
theorem places_le : ∀ t : Tr, t.places.length = t.size
  | .node x ps => by rw [Tr.places, Tr.size, List.length_cons, placesI_le ps 0]; omega
theorem placesI_le : ∀ (ps : List Tr) (i : Nat), (Tr.placesI i ps).length = Tr.sizes ps
  | [], i => rfl
  | p :: ps, i => by rw [Tr.placesI, Tr.sizes, List.length_append, List.length_map, places_le p, placesI_le ps (i + 1)]
end
/-- what put_in and put_behind do behind their checks -/
theorem put_spec {c cw ch cr ku cs cp ca cn cd gN gD k gB : Nat} (h : IsFn P sg c (fn_raw_put_in cw ch cr ku cs)) (hw : IsFn P sg cw (fn_raw_with cw)) (hh : IsFn P sg ch (fn_raw_hole cp ca gB)) (hr : IsFn P sg cr (fn_ranks_are_one cp ca gB)) (hs : IsFn P sg cs (fn_check_size cn gN k cd gD))
    (hp : IsFn P sg cp (fn_raw_places cp)) (ha : IsFn P sg ca fn_raw_at) (hn : IsFn P sg cn (fn_raw_nodes gB cn)) (hB : glV P gB = some bareV) (hd : IsFn P sg cd (fn_raw_deep cd)) (hN : glV P gN = some (.int 400)) (hD : glV P gD = some (.int 40))
    {ρ : List Nat → Nat} {s t w : Tr} {p : List Nat} {r : List (List Nat)} (ws : s.wf ρ) (e : s.hp = p :: r) (ea : s.at? p = some w) (wp : (Tr.put p s t).wf ρ) (n : Nat) (h1 : s.hgt ≤ n) (h2 : (Tr.put p s t).hgt ≤ n) (h4 : p.length < n) (hm : n ≤ 1000) (l1 : s.size ≤ 1000000) (l2 : (Tr.put p s t).size ≤ 1000000) :
    run P sg wf (n + 2) c [.val s.v, .val t.v] = sizeR k (Tr.put p s t) := by
  refine run_at h.at_ rfl ?_
  have e1 := hole_spec (wf := wf) hh hp ha hB e n h1 (by omega) (by omega) (by rw [places_le]; exact l1)
  have e2 := with_spec (wf := wf) hw p s t w (n + 1) (by omega) (Tr.wf_small s ws) ea
  obtain ⟨m, rfl⟩ : ∃ m, n = m + 1 := ⟨n - 1, by omega⟩
  have e3 := ranks_spec (wf := wf) hr hp ha hB wp m h2 (by omega) (by rw [places_le]; exact l2)
  have e4 := size_spec (wf := wf) hs hn hB hd hN hD (Tr.wf_small _ wp) (m + 1) h2
  have s1 := hh.sg_
  have s2 := hw.sg_
  have s3 := hr.sg_
  have s4 := hs.sg_
  rcases sizeR_cases k (Tr.put p s t) with z | z | z <;> rw [z] at e4 ⊢ <;> simp [fn_raw_put_in, varR, setS, e1, e2, e3, e4, s1, s2, s3, s4]
theorem put_in_spec {c cs ct cp ks kt cs' ct' : Nat} (h : IsFn P sg c (fn_put_in cs ct cp)) (hs : IsFn P sg cs (fn_check_surrounding cs' ks)) (ht : IsFn P sg ct (fn_check_tree ct' kt)) (s1 : sg cs' = []) (s2 : sg ct' = []) (s3 : sg cp = []) {a b : V} {n k : Nat} {t : Tr}
    (e1 : run P sg wf n cs' [.val a] = .ok (.v (.bl true)) []) (e2 : run P sg wf n ct' [.val b] = .ok (.v (.bl true)) []) (e3 : run P sg wf (n + 1) cp [.val a, .val b] = sizeR k t) : run P sg wf (n + 2) c [.val a, .val b] = sizeR k t := by
  refine run_at h.at_ rfl ?_
  have q1 := check_surr_spec (wf := wf) hs s1 e1
  have q2 := check_spec (wf := wf) ht s2 e2
  have s4 := hs.sg_
  have s5 := ht.sg_
  rcases sizeR_cases k t with z | z | z <;> rw [z] at e3 ⊢ <;> simp [fn_put_in, varR, setS, q1, q2, e3, s3, s4, s5]
theorem put_behind_spec {c cs cp ks cs' : Nat} (h : IsFn P sg c (fn_put_behind cs cp)) (hs : IsFn P sg cs (fn_check_surrounding cs' ks)) (s1 : sg cs' = []) (s3 : sg cp = []) {a b : V} {n k : Nat} {t : Tr}
    (e1 : run P sg wf n cs' [.val a] = .ok (.v (.bl true)) []) (e2 : run P sg wf n cs' [.val b] = .ok (.v (.bl true)) []) (e3 : run P sg wf (n + 1) cp [.val a, .val b] = sizeR k t) : run P sg wf (n + 2) c [.val a, .val b] = sizeR k t := by
  refine run_at h.at_ rfl ?_
  have q1 := check_surr_spec (wf := wf) hs s1 e1
  have q2 := check_surr_spec (wf := wf) hs s1 e2
  have s4 := hs.sg_
  rcases sizeR_cases k t with z | z | z <;> rw [z] at e3 ⊢ <;> simp [fn_put_behind, varR, setS, q1, q2, e3, s3, s4]
theorem way_spec {c cs ch ks cs' : Nat} (h : IsFn P sg c (fn_way_to_hole cs ch)) (hs : IsFn P sg cs (fn_check_surrounding cs' ks)) (s1 : sg cs' = []) (s3 : sg ch = []) {a : V} {n : Nat} {p : List Nat}
    (e1 : run P sg wf n cs' [.val a] = .ok (.v (.bl true)) []) (e3 : run P sg wf (n + 1) ch [.val a] = .ok (.v (plV p)) []) : run P sg wf (n + 2) c [.val a] = .ok (.v (plV p)) [] := by
  refine run_at h.at_ rfl ?_
  have q1 := check_surr_spec (wf := wf) hs s1 e1
  have s4 := hs.sg_
  simp [fn_way_to_hole, varR, setS, q1, e3, s3, s4]
end
end PT
end
section
set_option Elab.async false
set_option linter.all false
set_option maxRecDepth 100000
set_option maxHeartbeats 0
open PySem PySem.Spec PyProof.Rows L2 PD
namespace K
def clsBody : Stmt → List Stmt
  | .ClassDef _ _ _ b _ _ _ _ _ _ _ => b
  | _ => []
def initD (cls : PySem.Str) (s : Stmt) (j : Nat) : He.DefD := ⟨(cls, some "__init__"), "__init__", cls ++ ".__init__", defArgs ((clsBody s).getD j s), defBody ((clsBody s).getD j s), defScope ((clsBody s).getD j s), [], []⟩
end K
namespace K
open PySem PD
/-! the core program, printed by gen.py -/
def f0 : Fn := ⟨"is_integer", ["thing"], ["thing"], [.ret (.and (.bi .isinst [.var 0, .ty "int"]) (.not (.bi .isinst [.var 0, .ty "bool"])))], false⟩
def f1 : Fn := ⟨"is_within", ["thing", "low", "high"], ["thing", "low", "high"], [.ret (.and (.call 0 [.var 0]) (.chain .le .le (.var 1) (.var 0) (.var 2)))], false⟩
def f2 : Fn := ⟨"is_tuple_of", ["thing", "many"], ["thing", "many"], [.ret (.and (.bi .isinst [.var 0, .ty "tuple"]) (.cmp .eq (.bi .len [.var 0]) (.var 1)))], false⟩
def f3 : Fn := ⟨"raw_is_name", ["thing"], ["thing", "sign"], [.ite (.or (.not (.val (.bi .isinst [.var 0, .ty "str"]))) (.or (.not (.val (.chain .le .le (.int (1)) (.bi .len [.var 0]) (.gl 1)))) (.val (.cmp .eq (.var 0) (.gl 0))))) [.ret (.bl false)] [], .ret (.biL .all (.lc (.cmp .isin (.var 1) (.gl 2)) (.name 1) (.ex (.var 0)) none))], false⟩
def f4 : Fn := ⟨"form_of", ["thing"], ["thing", "ranks", "nodes", "holes", "waiting", "here", "deep", "part"], [.asg (.tup [.name 1, .name 2, .name 3, .name 4]) (.tup [.dct0, .int (0), .int (0), .mk (.lst [.tup [.var 0, .int (1)]])]), .while (.val (.cmp .ne (.var 4) (.mk (.lst [])))) [.asg (.tup [.name 5, .name 6]) (.mth .pop (.var 4) []), .aug 2 .add (.int (1)), .ite (.or (.val (.cmp .gt (.var 2) (.bin .add (.gl 4) (.int (1))))) (.or (.val (.cmp .gt (.var 6) (.gl 3))) (.not (.val (.call 2 [.var 5, .int (2)]))))) [.ret .non] [], .ite (.or (.not (.val (.bi .isinst [.ix (.var 5) (.int (0)), .ty "str"]))) (.or (.not (.val (.bi .isinst [.ix (.var 5) (.int (1)), .ty "tuple"]))) (.val (.cmp .gt (.bi .len [.ix (.var 5) (.int (1))]) (.gl 5))))) [.ret .non] [], .ite (.and (.val (.cmp .eq (.ix (.var 5) (.int (0))) (.gl 0))) (.val (.cmp .eq (.ix (.var 5) (.int (1))) (.tup [])))) [.aug 3 .add (.int (1))] [.ite (.or (.not (.val (.call 3 [.ix (.var 5) (.int (0))]))) (.val (.cmp .ne (.mth .setdefault (.var 1) [.ix (.var 5) (.int (0)), .bi .len [.ix (.var 5) (.int (1))]]) (.bi .len [.ix (.var 5) (.int (1))])))) [.ret .non] []], .expr (.ext (.var 4) (.lc (.tup [.var 7, .bin .add (.var 6) (.int (1))]) (.name 7) (.ex (.ix (.var 5) (.int (1)))) none))], .ret (.tup [.var 1, .var 2, .var 3])], false⟩
def f5 : Fn := ⟨"raw_is_tree", ["thing"], ["thing", "form"], [.asg (.name 1) (.call 4 [.var 0]), .ret (.and (.cmp .isnot (.var 1) .non) (.and (.cmp .eq (.ix (.var 1) (.int (2))) (.int (0))) (.cmp .le (.ix (.var 1) (.int (1))) (.gl 4))))], false⟩
def f6 : Fn := ⟨"raw_is_surrounding", ["thing"], ["thing", "form"], [.asg (.name 1) (.call 4 [.var 0]), .ret (.and (.cmp .isnot (.var 1) .non) (.and (.cmp .eq (.ix (.var 1) (.int (2))) (.int (1))) (.cmp .le (.bin .sub (.ix (.var 1) (.int (1))) (.int (1))) (.gl 4))))], false⟩
def f7 : Fn := ⟨"raw_nodes", ["tree"], ["tree", "part"], [.ite (.val (.cmp .eq (.var 0) (.gl 6))) [.ret (.int (0))] [], .ret (.bin .add (.int (1)) (.biL .sum (.lc (.call 7 [.var 1]) (.name 1) (.ex (.ix (.var 0) (.int (1)))) none)))], false⟩
def f8 : Fn := ⟨"raw_deep", ["tree"], ["tree", "part"], [.ret (.bin .add (.int (1)) (.biL .max (.exl (.bin .add (.mk (.lst [.int (0)])) (.mk (.lc (.call 8 [.var 1]) (.name 1) (.ex (.ix (.var 0) (.int (1)))) none))))))], false⟩
def f9 : Fn := ⟨"raw_places", ["tree"], ["tree", "found", "at", "part", "place"], [.asg (.name 1) (.mk (.lst [.tup []])), .for (.tup [.name 2, .name 3]) (.enum (.ix (.var 0) (.int (1)))) [.expr (.ext (.var 1) (.lc (.bin .add (.tup [.var 2]) (.var 4)) (.name 4) (.ex (.call 9 [.var 3])) none))], .ret (.var 1)], false⟩
def f10 : Fn := ⟨"raw_at", ["tree", "place"], ["tree", "place", "at"], [.for (.name 2) (.ex (.var 1)) [.asg (.name 0) (.ix (.ix (.var 0) (.int (1))) (.var 2))], .ret (.var 0)], false⟩
def f11 : Fn := ⟨"raw_with", ["tree", "place", "other"], ["tree", "place", "other", "at"], [.ite (.val (.cmp .eq (.var 1) (.tup []))) [.ret (.var 2)] [], .asg (.name 3) (.ix (.var 1) (.int (0))), .ret (.tup [.ix (.var 0) (.int (0)), .bin .add (.bin .add (.sl (.ix (.var 0) (.int (1))) none (some (.var 3))) (.tup [.call 11 [.ix (.ix (.var 0) (.int (1))) (.var 3), .sl (.var 1) (some (.int (1))) none, .var 2]])) (.sl (.ix (.var 0) (.int (1))) (some (.bin .add (.var 3) (.int (1)))) none)])], false⟩
def f12 : Fn := ⟨"raw_hole", ["surrounding"], ["surrounding", "place"], [.ret (.ix (.mk (.lc (.var 1) (.name 1) (.ex (.call 9 [.var 0])) (some (.val (.cmp .eq (.call 10 [.var 0, .var 1]) (.gl 6)))))) (.int (0)))], false⟩
def f13 : Fn := ⟨"is_place_form", ["thing"], ["thing", "at"], [.ret (.and (.bi .isinst [.var 0, .ty "tuple"]) (.biL .all (.lc (.call 1 [.var 1, .int (0), .bin .sub (.gl 5) (.int (1))]) (.name 1) (.ex (.var 0)) none)))], false⟩
def f14 : Fn := ⟨"check_tree", ["thing"], ["thing"], [.ite (.not (.val (.call 5 [.var 0]))) [.raise 2 []] []], false⟩
def f15 : Fn := ⟨"check_surrounding", ["thing"], ["thing"], [.ite (.not (.val (.call 6 [.var 0]))) [.raise 4 []] []], false⟩
def f16 : Fn := ⟨"check_place", ["tree", "thing"], ["tree", "thing"], [.ite (.or (.not (.val (.call 13 [.var 1]))) (.or (.val (.cmp .ge (.bi .len [.var 1]) (.gl 3))) (.val (.cmp .notin (.var 1) (.call 9 [.var 0]))))) [.raise 3 []] []], false⟩
def f17 : Fn := ⟨"check_size", ["tree"], ["tree"], [.ite (.val (.cmp .gt (.call 7 [.var 0]) (.gl 4))) [.raise 0 [.gl 4]] [], .ite (.val (.cmp .gt (.call 8 [.var 0]) (.gl 3))) [.raise 0 [.gl 3]] [], .ret (.var 0)], false⟩
def f18 : Fn := ⟨"raw_rungs", ["surrounding"], ["surrounding", "found", "here", "at"], [.asg (.tup [.name 1, .name 2]) (.tup [.mk (.lst []), .var 0]), .for (.name 3) (.ex (.call 12 [.var 0])) [.expr (.mth .append (.var 1) [.tup [.ix (.var 2) (.int (0)), .var 3, .bin .add (.sl (.ix (.var 2) (.int (1))) none (some (.var 3))) (.sl (.ix (.var 2) (.int (1))) (some (.bin .add (.var 3) (.int (1)))) none)]]), .asg (.name 2) (.ix (.ix (.var 2) (.int (1))) (.var 3))], .ret (.var 1)], false⟩
def f19 : Fn := ⟨"ranks_are_one", ["tree"], ["tree", "ranks", "place", "part"], [.asg (.name 1) .dct0, .for (.name 2) (.ex (.call 9 [.var 0])) [.asg (.name 3) (.call 10 [.var 0, .var 2]), .ite (.and (.val (.cmp .ne (.var 3) (.gl 6))) (.val (.cmp .ne (.mth .setdefault (.var 1) [.ix (.var 3) (.int (0)), .bi .len [.ix (.var 3) (.int (1))]]) (.bi .len [.ix (.var 3) (.int (1))])))) [.ret (.bl false)] []], .ret (.bl true)], false⟩
def f20 : Fn := ⟨"raw_put_in", ["surrounding", "tree"], ["surrounding", "tree", "found"], [.asg (.name 2) (.call 11 [.var 0, .call 12 [.var 0], .var 1]), .ite (.not (.val (.call 19 [.var 2]))) [.raise 1 []] [], .ret (.call 17 [.var 2])], false⟩
def f21 : Fn := ⟨"put_in", ["surrounding", "tree"], ["surrounding", "tree"], [.expr (.call 15 [.var 0]), .expr (.call 14 [.var 1]), .ret (.call 20 [.var 0, .var 1])], false⟩
def f22 : Fn := ⟨"put_behind", ["one", "other"], ["one", "other"], [.expr (.call 15 [.var 0]), .expr (.call 15 [.var 1]), .ret (.call 20 [.var 0, .var 1])], false⟩
def f23 : Fn := ⟨"split_at", ["tree", "place"], ["tree", "place"], [.expr (.call 14 [.var 0]), .expr (.call 16 [.var 0, .var 1]), .ret (.tup [.call 11 [.var 0, .var 1, .gl 6], .call 10 [.var 0, .var 1]])], false⟩
def f24 : Fn := ⟨"way_to_hole", ["surrounding"], ["surrounding"], [.expr (.call 15 [.var 0]), .ret (.call 12 [.var 0])], false⟩
def f25 : Fn := ⟨"steps_of", ["surrounding"], ["surrounding", "name", "at", "others"], [.expr (.call 15 [.var 0]), .ret (.biL .tuple (.lc (.tup [.var 1, .bin .add (.bin .add (.sl (.var 3) none (some (.var 2))) (.tup [.gl 6])) (.sl (.var 3) (some (.var 2)) none)]) (.tup [.name 1, .name 2, .name 3]) (.ex (.call 18 [.var 0])) none))], false⟩
def f26 : Fn := ⟨"_law_rest", ["number", "many"], ["number", "many"], [.ret (.bin .sub (.var 0) (.bin .mul (.bin .fdiv (.var 0) (.var 1)) (.var 1)))], false⟩
def f27 : Fn := ⟨"_law_hand", ["script"], ["script", "cells", "cell"], [.asg (.name 1) (.mk (.lc (.bi .abs [.bi .int [.var 2]]) (.name 2) (.ex (.sl (.var 0) none (some (.int (63))))) none)), .ret (.mk (.lst [.var 1, .int (0), .int (0), .bin .add (.int (3623)) (.bin .mul (.int (7)) (.bi .len [.var 1])), .int (0)]))], false⟩
def f28 : Fn := ⟨"_law_draw", ["hand", "many"], ["hand", "many", "cell", "digit", "number"], [.ite (.and (.val (.cmp .eq (.ix (.var 0) (.int (2))) (.int (0)))) (.val (.cmp .lt (.ix (.var 0) (.int (1))) (.bi .len [.ix (.var 0) (.int (0))])))) [.asg (.name 2) (.ix (.ix (.var 0) (.int (0))) (.ix (.var 0) (.int (1)))), .asg (.sub (.var 0) (.int (1))) (.bin .add (.ix (.var 0) (.int (1))) (.int (1))), .asg (.sub (.var 0) (.int (3))) (.call 26 [.bin .add (.bin .add (.bin .mul (.ix (.var 0) (.int (3))) (.int (48271))) (.var 2)) (.int (11)), .int (2147483647)]), .ite (.val (.cmp .ge (.var 2) (.bin .pow (.int (10)) (.int (18))))) [.asg (.sub (.var 0) (.int (2))) (.var 2)] []] [], .ite (.val (.cmp .gt (.ix (.var 0) (.int (2))) (.int (0)))) [.asg (.name 3) (.call 26 [.ix (.var 0) (.int (2)), .var 1]), .asg (.sub (.var 0) (.int (2))) (.bin .fdiv (.ix (.var 0) (.int (2))) (.var 1)), .ret (.var 3)] [], .asg (.sub (.var 0) (.int (4))) (.bin .add (.ix (.var 0) (.int (4))) (.int (1))), .asg (.name 4) (.call 26 [.bin .mul (.bin .add (.ix (.var 0) (.int (3))) (.bin .mul (.int (7919)) (.ix (.var 0) (.int (4))))) (.int (69621)), .int (2147483629)]), .asg (.name 4) (.call 26 [.bin .mul (.var 4) (.bin .add (.bin .fdiv (.var 4) (.int (1013))) (.int (48271))), .int (2147483647)]), .asg (.name 4) (.call 26 [.bin .mul (.var 4) (.bin .add (.bin .fdiv (.var 4) (.int (2011))) (.int (16807))), .int (2147483587)]), .ret (.call 26 [.bin .fdiv (.var 4) (.int (32)), .var 1])], false⟩
def f29 : Fn := ⟨"_law_some", ["hand", "things"], ["hand", "things"], [.ret (.ix (.var 1) (.call 28 [.var 0, .bi .len [.var 1]]))], false⟩
def f30 : Fn := ⟨"_law_row", ["many", "here"], ["many", "here", "found", "step"], [.asg (.name 2) (.var 1), .for (.name 3) (.range1 (.var 0)) [.asg (.name 2) (.tup [.str [103], .tup [.var 2]])], .ret (.var 2)], false⟩
def f31 : Fn := ⟨"_law_full", ["deep"], ["deep", "found", "step"], [.asg (.name 1) (.tup [.str [97], .tup []]), .for (.name 2) (.range1 (.bin .sub (.var 0) (.int (1)))) [.asg (.name 1) (.tup [.str [102], .tup [.var 1, .var 1]])], .ret (.var 1)], false⟩
def f32 : Fn := ⟨"_law_nodes", ["tree"], ["tree", "part"], [.ite (.val (.cmp .eq (.var 0) (.tup [.str [104, 111, 108, 101], .tup []]))) [.ret (.int (0))] [], .ret (.bin .add (.int (1)) (.biL .sum (.lc (.call 32 [.var 1]) (.name 1) (.ex (.ix (.var 0) (.int (1)))) none)))], false⟩
def f33 : Fn := ⟨"_law_deep", ["tree"], ["tree", "part"], [.ret (.bin .add (.int (1)) (.biL .max (.exl (.bin .add (.mk (.lst [.int (0)])) (.mk (.lc (.call 33 [.var 1]) (.name 1) (.ex (.ix (.var 0) (.int (1)))) none))))))], false⟩
def f34 : Fn := ⟨"_law_due", ["whole"], ["whole"], [.ite (.val (.cmp .gt (.call 32 [.var 0]) (.int (400)))) [.ret (.tup [.str [109, 97, 110, 121], .int (400)])] [], .ret (.ite (.val (.cmp .gt (.call 33 [.var 0]) (.int (40)))) (.tup [.str [109, 97, 110, 121], .int (40)]) (.var 0))], false⟩
def f35 : Fn := ⟨"_law_is_right", ["hand", "above", "beside", "below"], ["hand", "above", "beside", "below", "hole", "side", "inner", "pairs", "at", "around", "other", "ends"], [.asg (.tup [.name 4, .name 5]) (.tup [.tup [.str [104, 111, 108, 101], .tup []], .call 31 [.var 2]]), .asg (.name 6) (.call 29 [.var 0, .mk (.lst [.call 30 [.var 3, .tup [.str [97], .tup []]], .call 31 [.bin .add (.int (1)) (.call 28 [.var 0, .int (8)])]])]), .asg (.name 7) (.mk (.lst [.tup [.var 4, .var 5], .tup [.var 5, .var 4]])), .asg (.name 8) (.call 28 [.var 0, .int (2)]), .asg (.name 9) (.call 30 [.var 1, .tup [.str [102], .ix (.var 7) (.var 8)]]), .asg (.name 10) (.call 30 [.var 3, .var 4]), .ite (.or (.val (.cmp .gt (.call 32 [.var 9]) (.int (400)))) (.or (.val (.cmp .gt (.call 33 [.var 9]) (.int (40)))) (.or (.val (.cmp .gt (.call 33 [.var 10]) (.int (40)))) (.val (.cmp .gt (.call 33 [.var 6]) (.int (40))))))) [.ret (.bl true)] [], .asg (.name 11) (.mk (.lst [.tup [.var 6, .var 5], .tup [.var 5, .var 6]])), .ite (.val (.cmp .ne (.told 0 (.callL 21 [.var 9, .var 6])) (.call 34 [.call 30 [.var 1, .tup [.str [102], .ix (.var 11) (.var 8)]]]))) [.ret (.bl false)] [], .asg (.name 11) (.mk (.lst [.tup [.var 10, .var 5], .tup [.var 5, .var 10]])), .ite (.val (.cmp .ne (.told 0 (.callL 22 [.var 9, .var 10])) (.call 34 [.call 30 [.var 1, .tup [.str [102], .ix (.var 11) (.var 8)]]]))) [.ret (.bl false)] [], .ret (.cmp .eq (.call 24 [.var 9]) (.bin .add (.bin .mul (.tup [.int (0)]) (.var 1)) (.tup [.var 8])))], true⟩
def f36 : Fn := ⟨"_law_is_row_right", ["many"], ["many", "hole", "tree", "around"], [.asg (.name 1) (.tup [.str [104, 111, 108, 101], .tup []]), .asg (.tup [.name 2, .name 3]) (.tup [.call 30 [.var 0, .tup [.str [97], .tup []]], .call 30 [.var 0, .var 1]]), .ite (.or (.val (.cmp .ne (.call 23 [.var 2, .bin .mul (.tup [.int (0)]) (.var 0)]) (.tup [.var 3, .tup [.str [97], .tup []]]))) (.val (.cmp .ne (.call 21 [.var 3, .tup [.str [97], .tup []]]) (.var 2)))) [.ret (.bl false)] [], .ret (.cmp .eq (.call 25 [.var 3]) (.bin .mul (.tup [.tup [.str [103], .tup [.var 1]]]) (.var 0)))], false⟩
def f37 : Fn := ⟨"law", ["script"], ["script", "hand", "sides", "lap", "above", "beside", "below"], [.asg (.name 1) (.call 27 [.var 0]), .ite (.or (.not (.val (.call 36 [.int (39)]))) (.not (.val (.call 36 [.call 28 [.var 1, .int (40)]])))) [.ret (.bl false)] [], .ite (.val (.cmp .ne (.told 0 (.callL 21 [.callL 30 [.int (39), .tup [.str [104, 111, 108, 101], .tup []]], .tup [.str [103], .tup [.tup [.str [97], .tup []]]]])) (.tup [.str [109, 97, 110, 121], .int (40)]))) [.ret (.bl false)] [], .asg (.name 2) (.tup [.str [102], .tup [.tup [.str [104, 111, 108, 101], .tup []], .call 31 [.int (8)]]]), .ite (.val (.cmp .ne (.told 0 (.callL 21 [.var 2, .callL 31 [.int (8)]])) (.tup [.str [109, 97, 110, 121], .int (400)]))) [.ret (.bl false)] [], .for (.name 3) (.range1 (.int (6))) [.asg (.tup [.name 4, .name 5, .name 6]) (.tup [.call 28 [.var 1, .int (39)], .bin .add (.int (1)) (.call 28 [.var 1, .int (8)]), .call 28 [.var 1, .int (40)]]), .ite (.not (.val (.call 35 [.var 1, .var 4, .var 5, .var 6]))) [.ret (.bl false)] []], .ret (.bl true)], true⟩
def P : Prog where
  fns := [f0, f1, f2, f3, f4, f5, f6, f7, f8, f9, f10, f11, f12, f13, f14, f15, f16, f17, f18, f19, f20, f21, f22, f23, f24, f25, f26, f27, f28, f29, f30, f31, f32, f33, f34, f35, f36, f37]
  cls := [⟨"TooMany", none, ["most"]⟩, ⟨"Unlike", none, []⟩, ⟨"NoTree", none, []⟩, ⟨"NoPlace", none, []⟩, ⟨"NoSurrounding", none, []⟩]
  gl := [("HOLE", .str [104, 111, 108, 101]), ("MOST_NAME", .int (8)), ("LETTERS", .str [97, 98, 99, 100, 101, 102, 103, 104, 105, 106, 107, 108, 109, 110, 111, 112, 113, 114, 115, 116, 117, 118, 119, 120, 121, 122]), ("MOST_DEEP", .int (40)), ("MOST_NODES", .int (400)), ("MOST_RANK", .int (3)), ("BARE", .tup [.str [104, 111, 108, 101], .tup []])]
  told := [⟨"_law_told", 0, [.inl [109, 97, 110, 121], .inr 0]⟩]
abbrev top (i : Nat) : Stmt := PySem.Challenge.pw_boughsums_k36_whole_great_surroundings.main.body.getD i (.Pass ⟨0, 0, 0, 0⟩)
def lay : Lay where
  fns := [⟨("is_integer", none), "is_integer", "is_integer", defArgs (top 8), defBody (top 8), defScope (top 8), [], []⟩,
    ⟨("is_within", none), "is_within", "is_within", defArgs (top 9), defBody (top 9), defScope (top 9), [], []⟩,
    ⟨("is_tuple_of", none), "is_tuple_of", "is_tuple_of", defArgs (top 10), defBody (top 10), defScope (top 10), [], []⟩,
    ⟨("raw_is_name", none), "raw_is_name", "raw_is_name", defArgs (top 19), defBody (top 19), defScope (top 19), [], []⟩,
    ⟨("form_of", none), "form_of", "form_of", defArgs (top 20), defBody (top 20), defScope (top 20), [], []⟩,
    ⟨("raw_is_tree", none), "raw_is_tree", "raw_is_tree", defArgs (top 21), defBody (top 21), defScope (top 21), [], []⟩,
    ⟨("raw_is_surrounding", none), "raw_is_surrounding", "raw_is_surrounding", defArgs (top 22), defBody (top 22), defScope (top 22), [], []⟩,
    ⟨("raw_nodes", none), "raw_nodes", "raw_nodes", defArgs (top 23), defBody (top 23), defScope (top 23), [], []⟩,
    ⟨("raw_deep", none), "raw_deep", "raw_deep", defArgs (top 24), defBody (top 24), defScope (top 24), [], []⟩,
    ⟨("raw_places", none), "raw_places", "raw_places", defArgs (top 25), defBody (top 25), defScope (top 25), [], []⟩,
    ⟨("raw_at", none), "raw_at", "raw_at", defArgs (top 26), defBody (top 26), defScope (top 26), [], []⟩,
    ⟨("raw_with", none), "raw_with", "raw_with", defArgs (top 27), defBody (top 27), defScope (top 27), [], []⟩,
    ⟨("raw_hole", none), "raw_hole", "raw_hole", defArgs (top 28), defBody (top 28), defScope (top 28), [], []⟩,
    ⟨("is_place_form", none), "is_place_form", "is_place_form", defArgs (top 29), defBody (top 29), defScope (top 29), [], []⟩,
    ⟨("check_tree", none), "check_tree", "check_tree", defArgs (top 30), defBody (top 30), defScope (top 30), [], []⟩,
    ⟨("check_surrounding", none), "check_surrounding", "check_surrounding", defArgs (top 31), defBody (top 31), defScope (top 31), [], []⟩,
    ⟨("check_place", none), "check_place", "check_place", defArgs (top 32), defBody (top 32), defScope (top 32), [], []⟩,
    ⟨("check_size", none), "check_size", "check_size", defArgs (top 33), defBody (top 33), defScope (top 33), [], []⟩,
    ⟨("raw_rungs", none), "raw_rungs", "raw_rungs", defArgs (top 35), defBody (top 35), defScope (top 35), [], []⟩,
    ⟨("ranks_are_one", none), "ranks_are_one", "ranks_are_one", defArgs (top 36), defBody (top 36), defScope (top 36), [], []⟩,
    ⟨("raw_put_in", none), "raw_put_in", "raw_put_in", defArgs (top 37), defBody (top 37), defScope (top 37), [], []⟩,
    ⟨("put_in", none), "put_in", "put_in", defArgs (top 38), defBody (top 38), defScope (top 38), [], []⟩,
    ⟨("put_behind", none), "put_behind", "put_behind", defArgs (top 39), defBody (top 39), defScope (top 39), [], []⟩,
    ⟨("split_at", none), "split_at", "split_at", defArgs (top 40), defBody (top 40), defScope (top 40), [], []⟩,
    ⟨("way_to_hole", none), "way_to_hole", "way_to_hole", defArgs (top 41), defBody (top 41), defScope (top 41), [], []⟩,
    ⟨("steps_of", none), "steps_of", "steps_of", defArgs (top 42), defBody (top 42), defScope (top 42), [], []⟩,
    ⟨("_law_rest", none), "_law_rest", "_law_rest", defArgs (top 44), defBody (top 44), defScope (top 44), [], []⟩,
    ⟨("_law_hand", none), "_law_hand", "_law_hand", defArgs (top 45), defBody (top 45), defScope (top 45), [], []⟩,
    ⟨("_law_draw", none), "_law_draw", "_law_draw", defArgs (top 46), defBody (top 46), defScope (top 46), [], []⟩,
    ⟨("_law_some", none), "_law_some", "_law_some", defArgs (top 47), defBody (top 47), defScope (top 47), [], []⟩,
    ⟨("_law_row", none), "_law_row", "_law_row", defArgs (top 48), defBody (top 48), defScope (top 48), [], []⟩,
    ⟨("_law_full", none), "_law_full", "_law_full", defArgs (top 49), defBody (top 49), defScope (top 49), [], []⟩,
    ⟨("_law_nodes", none), "_law_nodes", "_law_nodes", defArgs (top 50), defBody (top 50), defScope (top 50), [], []⟩,
    ⟨("_law_deep", none), "_law_deep", "_law_deep", defArgs (top 51), defBody (top 51), defScope (top 51), [], []⟩,
    ⟨("_law_due", none), "_law_due", "_law_due", defArgs (top 53), defBody (top 53), defScope (top 53), [], []⟩,
    ⟨("_law_is_right", none), "_law_is_right", "_law_is_right", defArgs (top 54), defBody (top 54), defScope (top 54), [], []⟩,
    ⟨("_law_is_row_right", none), "_law_is_row_right", "_law_is_row_right", defArgs (top 55), defBody (top 55), defScope (top 55), [], []⟩,
    ⟨("law", none), "law", "law", defArgs (top 56), defBody (top 56), defScope (top 56), [], []⟩]
  P := P
  inits := [some (initD "TooMany" (top 2) 0), none, none, none, none]
  tds := [(⟨("_law_told", none), "_law_told", "_law_told", defArgs (top 52), defBody (top 52), defScope (top 52), [], []⟩, "call", "error", "TooMany")]
def names0 : List PySem.Str := ["BoughError", "TooMany", "Unlike", "NoTree", "NoPlace", "NoSurrounding", "is_integer", "is_within", "is_tuple_of", "MOST_NODES", "MOST_DEEP", "MOST_RANK", "MOST_NAME", "HOLE", "BARE", "LETTERS", "raw_is_name", "form_of", "raw_is_tree", "raw_is_surrounding", "raw_nodes", "raw_deep", "raw_places", "raw_at", "raw_with", "raw_hole", "is_place_form", "check_tree", "check_surrounding", "check_place"]
def names1 : List PySem.Str := ["check_size", "raw_rungs", "ranks_are_one", "raw_put_in", "put_in", "put_behind", "split_at", "way_to_hole", "steps_of", "_law_rest", "_law_hand", "_law_draw", "_law_some", "_law_row", "_law_full", "_law_nodes", "_law_deep", "_law_told", "_law_due", "_law_is_right", "_law_is_row_right"]
def names : List PySem.Str := names0 ++ names1
abbrev lawAt : Nat := 56
abbrev lawF : Nat := 37
abbrev R : PySem.W.OpenRow := PySem.W.OpenLaw.row PySem.Challenge.rw_boughsums_k36_whole_great_surroundings
end K

namespace K
theorem fit : fitB lay = true := by kernel_rfl
end K
end
section
set_option Elab.async false
set_option linter.all false
set_option maxRecDepth 100000
set_option maxHeartbeats 0
open PySem PySem.Spec PyProof.Rows L2 PD
namespace K
abbrev hk : PySem.W.Hook := hookP 4 lay
def ob (s : PySem.W.SharedT) := He.obsX 4 [] lay.all [] lay.tf (heapB lay) (HandSHeadRun.getT s)
theorem ob_eq (s : PySem.W.SharedT) : ob s = hk.obs s.abs := He.obsX_eq (HandSHeadRun.getT_eq s)
theorem run (w : World) : HandSHeadRun.RunEq R (PySem.W.view R.prog [lawAt]) hk ob 4000 names w := by
  intro os
  kernel_rfl
end K
end
section
set_option Elab.async false
set_option linter.all false
set_option maxRecDepth 100000
set_option pp.maxSteps 700
set_option maxHeartbeats 2000000
/-! k36: the law's own functions -/
namespace K
open PySem PD PV PT
def sg : Nat → List Nat := fun f => if f = 28 ∨ f = 29 ∨ f = 35 then [0] else []
abbrev wfu : Nat := 100000
abbrev rn := PV.run P sg wfu
@[simp] theorem g0 : glV P 0 = some (.str hx) := rfl
@[simp] theorem g1 : glV P 1 = some (.int 8) := rfl
@[simp] theorem g2 : glV P 2 = some (.str lettersX) := rfl
@[simp] theorem g3 : glV P 3 = some (.int 40) := rfl
@[simp] theorem g4 : glV P 4 = some (.int 400) := rfl
@[simp] theorem g5 : glV P 5 = some (.int 3) := rfl
@[simp] theorem g6 : glV P 6 = some bareV := rfl
theorem i26 : IsFn P sg 26 f26 := ⟨rfl, rfl⟩
theorem dv {i j : Int} (h : 0 < j) (h2 : j < 2 ^ 62) : divOk i j := ⟨h, PyProof.noPylong_of_log2 (by
  have : j.natAbs.log2 < 62 := by
    rw [Nat.log2_lt (by omega)]
    omega
  omega)⟩
theorem rest_spec (n : Nat) (a m : Int) (h : 0 < m) (h2 : m < 2 ^ 62) : rn (n + 1) 26 [.val (.int a), .val (.int m)] = .ok (.v (.int (a % m))) [] := by
  refine run_at i26.at_ rfl ?_
  have m1 : mulOk (a / m) m := .inr (.inl ⟨by omega, by omega⟩)
  have e : a - a / m * m = a % m := by rw [Int.emod_def, Int.mul_comm]
  simp [f26, varR, setS, dv h h2, m1, e]
def handV (cells : List Int) (i : Nat) (x s n : Int) : VO := .lst [.lst (cells.map V.int), .int i, .int x, .int s, .int n]
def HandOk (h : VO) : Prop := ∃ cells i x s n, h = handV cells i x s n
@[simp] theorem ml1 (a : Int) : mulOk a 48271 := .inr (.inl ⟨by decide, by decide⟩)
@[simp] theorem ml2 (a : Int) : mulOk a 69621 := .inr (.inl ⟨by decide, by decide⟩)
@[simp] theorem ml3 (a : Int) : mulOk 7919 a := .inl ⟨by decide, by decide⟩
theorem mlm (a b m : Int) (h : 0 < m) (h2 : m < 2 ^ 62) : mulOk (a % m) b := .inl ⟨by have := Int.emod_nonneg a (show m ≠ 0 by omega); omega, by have := Int.emod_lt_of_pos a h; omega⟩
theorem sg26 : sg 26 = [] := rfl
theorem draw_spec (n : Nat) (h : VO) (hh : HandOk h) (m : Int) (h1 : 0 < m) (h2 : m < 2 ^ 62) : ∃ d h', HandOk h' ∧ 0 ≤ d ∧ d < m ∧ rn (n + 2) 28 [.own true h, .val (.int m)] = .ok (.v (.int d)) [h'] := by
  obtain ⟨cells, i, x, s, k, rfl⟩ := hh
  have em : ∀ a : Int, 0 ≤ a % m ∧ a % m < m := fun a => ⟨Int.emod_nonneg a (by omega), Int.emod_lt_of_pos a h1⟩
  have pw : powOk 10 18 := by decide
  -- the second half
  have half : ∀ (i : Nat) (x s : Int) (c : Sl), (c = .none ∨ ∃ w, c = .val w) → ∃ d h', HandOk h' ∧ 0 ≤ d ∧ d < m ∧ finV [0] (xTs (gv P sg wfu (n + 1)) (f28.body.drop 1) [.own true (handV cells i x s k), .val (.int m), c, .none, .none]) = .ok (.v (.int d)) [h'] := by
    intro i x s c hc
    by_cases hx : 0 < x
    · refine ⟨x % m, handV cells i (x / m) s k, ⟨_, _, _, _, _, rfl⟩, (em x).1, (em x).2, ?_⟩
      rcases hc with rfl | ⟨w, rfl⟩ <;> simp [f28, varR, setS, handV, hx, sg26, rest_spec n x m h1 h2, dv h1 h2, ixP]
    · have r1 := rest_spec n ((s + 7919 * (k + 1)) * 69621) 2147483629 (by decide) (by decide)
      have q1 := fun b => mlm ((s + 7919 * (k + 1)) * 69621) b 2147483629 (by decide) (by decide)
      generalize (s + 7919 * (k + 1)) * 69621 % 2147483629 = n1 at r1 q1
      have r2 := rest_spec n (n1 * (n1 / 1013 + 48271)) 2147483647 (by decide) (by decide)
      have q2 := fun b => mlm (n1 * (n1 / 1013 + 48271)) b 2147483647 (by decide) (by decide)
      generalize n1 * (n1 / 1013 + 48271) % 2147483647 = n2 at r2 q2
      have r3 := rest_spec n (n2 * (n2 / 2011 + 16807)) 2147483587 (by decide) (by decide)
      generalize n2 * (n2 / 2011 + 16807) % 2147483587 = n3 at r3
      have r4 := rest_spec n (n3 / 32) m h1 h2
      refine ⟨n3 / 32 % m, handV cells i x s (k + 1), ⟨_, _, _, _, _, rfl⟩, (em _).1, (em _).2, ?_⟩
      rcases hc with rfl | ⟨w, rfl⟩ <;> simp [f28, varR, setS, handV, hx, sg26, ixP, r1, r2, r3, r4, q1, q2, dv]
  by_cases ha : x = 0 ∧ i < cells.length
  · obtain ⟨rfl, hi⟩ := ha
    have hi' : (i : Int) < (cells.length : Int) := by omega
    have ec : ixLV (cells.map V.int) (i : Int) = some (.int cells[i]) := ixLV_nat (by rw [List.getElem?_map, List.getElem?_eq_getElem hi]; rfl)
    have r1 := rest_spec n (s * 48271 + cells[i] + 11) 2147483647 (by decide) (by decide)
    obtain ⟨d, h', p1, p2, p3, p4⟩ := half (i + 1) (if (1000000000000000000 : Int) ≤ cells[i] then cells[i] else 0) ((s * 48271 + cells[i] + 11) % 2147483647) (.val (.int cells[i])) (.inr ⟨_, rfl⟩)
    refine ⟨d, h', p1, p2, p3, run_at (F := f28) rfl rfl ?_⟩
    rw [← p4]
    by_cases hb : (1000000000000000000 : Int) ≤ cells[i]
    · simp [f28, varR, setS, handV, sg26, ixP, ec, hi', r1, pw, hb]
    · simp [f28, varR, setS, handV, sg26, ixP, ec, hi', r1, pw, hb]
  · obtain ⟨d, h', p1, p2, p3, p4⟩ := half i x s .none (.inl rfl)
    refine ⟨d, h', p1, p2, p3, run_at (F := f28) rfl rfl ?_⟩
    rw [← p4]
    by_cases h0 : x = 0
    · have hi' : ¬ (i : Int) < (cells.length : Int) := by have : ¬ i < cells.length := fun z => ha ⟨h0, z⟩; omega
      simp [f28, varR, setS, handV, sg26, ixP, hi', h0]
    · simp [f28, varR, setS, handV, sg26, ixP, h0]
theorem some_spec (n : Nat) (h : VO) (hh : HandOk h) (vs : List V) (h1 : vs ≠ []) (h2 : vs.length ≤ 100) : ∃ (k : Nat) (v : V) (h' : VO), HandOk h' ∧ vs[k]? = some v ∧ rn (n + 3) 29 [.own true h, .val (.lst vs)] = .ok (.v v) [h'] := by
  have l0 : 0 < vs.length := List.length_pos_iff.mpr h1
  obtain ⟨d, h', p1, p2, p3, p4⟩ := draw_spec n h hh vs.length (by omega) (by omega)
  obtain ⟨k, rfl⟩ : ∃ k : Nat, d = k := ⟨d.toNat, by omega⟩
  have hk : k < vs.length := by omega
  refine ⟨k, vs[k], h', p1, by rw [List.getElem?_eq_getElem hk], run_at (F := f29) rfl rfl ?_⟩
  have e1 : ixLV vs (k : Int) = some vs[k] := ixLV_nat (by rw [List.getElem?_eq_getElem hk])
  have s28 : sg 28 = [0] := rfl
  simp [f29, varR, setS, s28, p4, e1]
/-- chains and full trees -/
def rowT : Nat → Tr → Tr
  | 0, t => t
  | n + 1, t => .node [103] [rowT n t]
def fullT : Nat → Tr
  | 0 => .node [97] []
  | n + 1 => .node [102] [fullT n, fullT n]
theorem rowT_comm (n : Nat) (t : Tr) : rowT n (.node [103] [t]) = .node [103] [rowT n t] := by
  induction n with
  | zero => rfl
  | succ n ih => rw [rowT, ih, rowT]
theorem row_for {G : GV} {q0 q1 : Sl} : ∀ (l : List V) (t : Tr) (y : Sl), (y = .none ∨ ∃ w, y = .val w) → ∃ y', forV (tgV G (.name 3)) (xTs G [.asg (.name 2) (.tup [.str [103], .tup [.var 2]])]) l [q0, q1, .val t.v, y] = .nx [q0, q1, .val (rowT l.length t).v, y']
  | [], t, y, hy => ⟨y, rfl⟩
  | w :: l, t, y, hy => by
    obtain ⟨y', ih⟩ := row_for (G := G) (q0 := q0) (q1 := q1) l (.node [103] [t]) (.val w) (.inr ⟨_, rfl⟩)
    refine ⟨y', ?_⟩
    rw [rowT_comm] at ih
    rw [List.length_cons, rowT]
    have ev : (Tr.node [103] [t]).v = .tup [.str [103], .tup [t.v]] := rfl
    rw [ev] at ih
    rcases hy with rfl | ⟨w, rfl⟩ <;> simp [forV, varR, setS, ih]
theorem row_key (n : Nat) (t : Tr) (j : Int) (r : Tr) (y' : Sl) (l2 : -4611686018427387904 < j ∧ j < 4611686018427387904) (f : forV (tgV (gv P sg wfu n) (.name 3)) (xTs (gv P sg wfu n) [.asg (.name 2) (.tup [.str [103], .tup [.var 2]])]) (rangeV 0 j) [.val (.int j), .val t.v, .val t.v, .none] = .nx [.val (.int j), .val t.v, .val r.v, y']) :
    finV [] (xTs (gv P sg wfu n) f30.body [.val (.int j), .val t.v, .none, .none]) = .ok (.v r.v) [] := by
  simp [f30, varR, setS, l2, f]
theorem row_spec (n m : Nat) (t : Tr) (hm : m ≤ 1000) : rn (n + 1) 30 [.val (.int m), .val t.v] = .ok (.v (rowT m t).v) [] := by
  refine run_at (F := f30) rfl rfl ?_
  obtain ⟨y', f⟩ := row_for (G := gv P sg wfu n) (q0 := .val (.int m)) (q1 := .val t.v) (rangeV 0 m) t .none (.inl rfl)
  have l1 : (rangeV 0 m).length = m := by simp [rangeV]
  rw [l1] at f
  exact row_key n t m _ y' ⟨by omega, by omega⟩ f
theorem full_for {G : GV} {q0 : Sl} : ∀ (l : List V) (k : Nat) (y : Sl), (y = .none ∨ ∃ w, y = .val w) → ∃ y', forV (tgV G (.name 2)) (xTs G [.asg (.name 1) (.tup [.str [102], .tup [.var 1, .var 1]])]) l [q0, .val (fullT k).v, y] = .nx [q0, .val (fullT (k + l.length)).v, y']
  | [], k, y, hy => ⟨y, rfl⟩
  | w :: l, k, y, hy => by
    obtain ⟨y', ih⟩ := full_for (G := G) (q0 := q0) l (k + 1) (.val w) (.inr ⟨_, rfl⟩)
    refine ⟨y', ?_⟩
    have ev : (fullT (k + 1)).v = .tup [.str [102], .tup [(fullT k).v, (fullT k).v]] := rfl
    rw [ev] at ih
    rw [List.length_cons, show k + (l.length + 1) = k + 1 + l.length by omega]
    rcases hy with rfl | ⟨w, rfl⟩ <;> simp [forV, varR, setS, ih]
theorem full_spec (n m : Nat) (h1 : 1 ≤ m) (hm : m ≤ 1000) : rn (n + 1) 31 [.val (.int m)] = .ok (.v (fullT (m - 1)).v) [] := by
  refine run_at (F := f31) rfl rfl ?_
  obtain ⟨y', f⟩ := full_for (G := gv P sg wfu n) (q0 := .val (.int m)) (rangeV 0 ((m : Int) - 1)) 0 .none (.inl rfl)
  have l1 : (rangeV 0 ((m : Int) - 1)).length = m - 1 := by simp [rangeV]
  rw [l1, Nat.zero_add] at f
  have l2 : -4611686018427387904 < (m : Int) - 1 ∧ (m : Int) - 1 < 4611686018427387904 := by omega
  have ev : (fullT 0).v = .tup [.str [97], .tup []] := rfl
  rw [ev] at f
  simp [f31, varR, setS, l2, f]
theorem lnodes_spec : ∀ (t : Tr) (n : Nat), t.hgt ≤ n → t.small → rn n 32 [.val t.v] = .ok (.v (.int t.nodes)) []
  | .node x ps, 0, hh, _ => by
    rw [Tr.hgt] at hh
    omega
  | .node x ps, n + 1, hh, hs => by
    refine run_at (F := f32) rfl rfl ?_
    rw [Tr.v_eq]
    rw [Tr.small_iff] at hs
    have hl : ps.length ≤ 16777216 := by omega
    have hsg : sg 32 = [] := rfl
    by_cases hb : Tr.node x ps = .hole
    · simp [f32, varR, eq_bare', hb]
      rfl
    · simp [f32, varR, eq_bare', hb, hl, tgSlots]
      rw [each_map (v := fun p => .int p.nodes) fun p hp => ?_]
      · simp [ints_nat, sum_nat, nodess_sum]
        rw [Tr.nodes, if_neg (fun z => hb ((Tr.hole_iff x ps).mpr z))]
        omega
      · have := Tr.lt (x := x) hp
        simp [lcV, varR, setS, hsg, tgSlots, lnodes_spec p n (by omega) (hs.2 p hp)]
theorem ldeep_spec : ∀ (t : Tr) (n : Nat), t.hgt ≤ n → t.small → rn n 33 [.val t.v] = .ok (.v (.int t.hgt)) []
  | .node x ps, 0, hh, _ => by
    rw [Tr.hgt] at hh
    omega
  | .node x ps, n + 1, hh, hs => by
    refine run_at (F := f33) rfl rfl ?_
    rw [Tr.v_eq]
    rw [Tr.small_iff] at hs
    have hl : ps.length ≤ 16777216 := by omega
    have hl2 : 1 + ps.length ≤ 16777216 := by omega
    have hsg : sg 33 = [] := rfl
    simp [f33, varR, hl, tgSlots]
    rw [each_map (v := fun p => .int p.hgt) fun p hp => ?_]
    · simp [hl, hl2, ints_nat, intsV?]
      rw [show (0 : Int) = ((0 : Nat) : Int) from rfl, intMax_hgts]
      rw [Tr.hgt]
      omega
    · have := Tr.lt (x := x) hp
      simp [lcV, varR, setS, hsg, tgSlots, ldeep_spec p n (by omega) (hs.2 p hp)]
abbrev manyX : List Nat := [109, 97, 110, 121]
def dueV (t : Tr) : V := if 400 < t.nodes then .tup [.str manyX, .int 400] else if 40 < t.hgt then .tup [.str manyX, .int 40] else t.v
theorem due_spec (n : Nat) (t : Tr) (hh : t.hgt ≤ n) (hs : t.small) : rn (n + 1) 34 [.val t.v] = .ok (.v (dueV t)) [] := by
  refine run_at (F := f34) rfl rfl ?_
  have e1 := lnodes_spec t n hh hs
  have e2 := ldeep_spec t n hh hs
  have s1 : sg 32 = [] := rfl
  have s2 : sg 33 = [] := rfl
  unfold dueV
  by_cases h1 : 400 < t.nodes
  · have h1' : (400 : Int) < (t.nodes : Int) := by omega
    simp [f34, varR, setS, e1, e2, s1, s2, h1, h1']
  · have h1' : ¬ (400 : Int) < (t.nodes : Int) := by omega
    by_cases h2 : 40 < t.hgt
    · have h2' : (40 : Int) < (t.hgt : Int) := by omega
      simp [f34, varR, setS, e1, e2, s1, s2, h1, h1', h2, h2']
    · have h2' : ¬ (40 : Int) < (t.hgt : Int) := by omega
      simp [f34, varR, setS, e1, e2, s1, s2, h1, h1', h2, h2']
end K
end
section
set_option Elab.async false
set_option linter.all false
set_option maxRecDepth 100000
set_option pp.maxSteps 700
set_option maxHeartbeats 2000000
/-! k36: chains, full trees; is_right -/
namespace K
open PySem PD PV PT
def ρ : List Nat → Nat := fun x => if x = [102] then 2 else if x = [103] then 1 else 0
abbrev leaf : Tr := .node [97] []
theorem leaf_wf : leaf.wf ρ := by rw [Tr.wf_iff]; exact ⟨.inr ⟨by decide, rfl⟩, by decide, fun p h => nomatch h⟩
theorem hole_wf : Tr.hole.wf ρ := by rw [Tr.wf_iff]; exact ⟨.inl ⟨rfl, rfl⟩, by decide, fun p h => nomatch h⟩
theorem f_wf {a b : Tr} (ha : a.wf ρ) (hb : b.wf ρ) : (Tr.node [102] [a, b]).wf ρ := by
  rw [Tr.wf_iff]
  refine ⟨.inr ⟨by decide, rfl⟩, by simp, fun p h => ?_⟩
  simp at h
  rcases h with rfl | rfl
  · exact ha
  · exact hb
theorem row_wf {t : Tr} (h : t.wf ρ) : ∀ n, (rowT n t).wf ρ
  | 0 => h
  | n + 1 => by
    rw [rowT, Tr.wf_iff]
    refine ⟨.inr ⟨by decide, rfl⟩, by simp, fun p hp => ?_⟩
    rw [List.mem_singleton] at hp
    rw [hp]
    exact row_wf h n
theorem full_wf : ∀ n, (fullT n).wf ρ
  | 0 => leaf_wf
  | n + 1 => f_wf (full_wf n) (full_wf n)
theorem row_hgt (t : Tr) : ∀ n, (rowT n t).hgt = n + t.hgt
  | 0 => by simp [rowT]
  | n + 1 => by simp [rowT, Tr.hgt, Tr.hgts, row_hgt t n]; omega
theorem full_hgt : ∀ n, (fullT n).hgt = n + 1
  | 0 => rfl
  | n + 1 => by simp [fullT, Tr.hgt, Tr.hgts, full_hgt n]; omega
theorem row_size (t : Tr) : ∀ n, (rowT n t).size = n + t.size
  | 0 => by simp [rowT]
  | n + 1 => by simp [rowT, Tr.size, Tr.sizes, row_size t n]; omega
theorem full_size : ∀ n, (fullT n).size + 1 = 2 ^ (n + 1)
  | 0 => rfl
  | n + 1 => by
    have := full_size n
    simp [fullT, Tr.size, Tr.sizes]
    omega
theorem row_holes (t : Tr) : ∀ n, (rowT n t).holes = t.holes
  | 0 => by simp [rowT]
  | n + 1 => by simp [rowT, Tr.holes, Tr.holess, row_holes t n]
theorem full_holes : ∀ n, (fullT n).holes = 0
  | 0 => rfl
  | n + 1 => by simp [fullT, Tr.holes, Tr.holess, full_holes n]
theorem full_hp : ∀ n, (fullT n).hp = []
  | 0 => rfl
  | n + 1 => by simp [fullT, Tr.hp, Tr.hpI, full_hp n]
theorem row_hp (t : Tr) : ∀ n, (rowT n t).hp = t.hp.map (List.replicate n 0 ++ ·)
  | 0 => by simp [rowT]
  | n + 1 => by simp [rowT, Tr.hp, Tr.hpI, row_hp t n, List.replicate_succ]
theorem row_at (t : Tr) (p : List Nat) : ∀ n, (rowT n t).at? (List.replicate n 0 ++ p) = t.at? p
  | 0 => rfl
  | n + 1 => by
    rw [List.replicate_succ, List.cons_append, Tr.at?]
    exact row_at t p n
theorem row_put (t u : Tr) (p : List Nat) : ∀ n, Tr.put (List.replicate n 0 ++ p) (rowT n t) u = rowT n (Tr.put p t u)
  | 0 => rfl
  | n + 1 => by
    rw [List.replicate_succ, List.cons_append, rowT, Tr.put, rowT]
    simp [row_put t u p n]
theorem nodes_no {t : Tr} (h : t.holes = 0) : t.nodes = t.size := by rw [Tr.size_eq, h]; omega
/-- the two sides of an f -/
def fT (b : Bool) (x y : Tr) : Tr := if b = true then .node [102] [y, x] else .node [102] [x, y]
theorem fT_wf (b : Bool) {x y : Tr} (hx : x.wf ρ) (hy : y.wf ρ) : (fT b x y).wf ρ := by cases b <;> exact f_wf (by assumption) (by assumption)
theorem fT_hgt (b : Bool) (x y : Tr) : (fT b x y).hgt = 1 + max x.hgt y.hgt := by
  cases b <;> simp [fT, Tr.hgt, Tr.hgts]
  omega
theorem fT_size (b : Bool) (x y : Tr) : (fT b x y).size = 1 + x.size + y.size := by
  cases b <;> simp [fT, Tr.size, Tr.sizes] <;> omega
theorem fT_holes (b : Bool) (x y : Tr) : (fT b x y).holes = x.holes + y.holes := by
  cases b <;> simp [fT, Tr.holes, Tr.holess] <;> omega
theorem fT_hp (b : Bool) (y : Tr) (h : y.hp = []) : (fT b .hole y).hp = [[b.toNat]] := by
  have e : Tr.hole.hp = [[]] := rfl
  cases b <;> simp [fT, Tr.hp, Tr.hpI, h]
theorem fT_at (b : Bool) (y : Tr) : (fT b .hole y).at? [b.toNat] = some .hole := by cases b <;> rfl
theorem fT_put (b : Bool) (x y u : Tr) : Tr.put [b.toNat] (fT b x y) u = fT b u y := by cases b <;> rfl
/-- the law's surroundings -/
def aroundT (b : Bool) (n : Nat) (side : Tr) : Tr := rowT n (fT b .hole side)
theorem ar_hp (b : Bool) (n : Nat) {side : Tr} (h : side.hp = []) : (aroundT b n side).hp = [List.replicate n 0 ++ [b.toNat]] := by
  unfold aroundT
  rw [row_hp, fT_hp b side h]
  rfl
theorem ar_at (b : Bool) (n : Nat) (side : Tr) : (aroundT b n side).at? (List.replicate n 0 ++ [b.toNat]) = some .hole := by
  unfold aroundT
  rw [row_at, fT_at]
theorem ar_put (b : Bool) (n : Nat) (side u : Tr) : Tr.put (List.replicate n 0 ++ [b.toNat]) (aroundT b n side) u = rowT n (fT b u side) := by
  unfold aroundT
  rw [row_put, fT_put]
/-! what the program does over them -/
theorem i2 : IsFn P sg 2 fn_is_tuple_of := ⟨rfl, rfl⟩
theorem i3 : IsFn P sg 3 (fn_raw_is_name 1 0 2) := ⟨rfl, rfl⟩
theorem i4 : IsFn P sg 4 (fn_form_of 4 3 2 5 0 3) := ⟨rfl, rfl⟩
theorem i5 : IsFn P sg 5 (fn_raw_is_tree 4 4) := ⟨rfl, rfl⟩
theorem i6 : IsFn P sg 6 (fn_raw_is_surrounding 4 4) := ⟨rfl, rfl⟩
theorem i7 : IsFn P sg 7 (fn_raw_nodes 6 7) := ⟨rfl, rfl⟩
theorem i8 : IsFn P sg 8 (fn_raw_deep 8) := ⟨rfl, rfl⟩
theorem i9 : IsFn P sg 9 (fn_raw_places 9) := ⟨rfl, rfl⟩
theorem i10 : IsFn P sg 10 fn_raw_at := ⟨rfl, rfl⟩
theorem i11 : IsFn P sg 11 (fn_raw_with 11) := ⟨rfl, rfl⟩
theorem i12 : IsFn P sg 12 (fn_raw_hole 9 10 6) := ⟨rfl, rfl⟩
theorem i14 : IsFn P sg 14 (fn_check_tree 5 2) := ⟨rfl, rfl⟩
theorem i15 : IsFn P sg 15 (fn_check_surrounding 6 4) := ⟨rfl, rfl⟩
theorem i17 : IsFn P sg 17 (fn_check_size 7 4 0 8 3) := ⟨rfl, rfl⟩
theorem i19 : IsFn P sg 19 (fn_ranks_are_one 9 10 6) := ⟨rfl, rfl⟩
theorem i20 : IsFn P sg 20 (fn_raw_put_in 11 12 19 1 17) := ⟨rfl, rfl⟩
theorem i21 : IsFn P sg 21 (fn_put_in 15 14 20) := ⟨rfl, rfl⟩
theorem i22 : IsFn P sg 22 (fn_put_behind 15 20) := ⟨rfl, rfl⟩
theorem i24 : IsFn P sg 24 (fn_way_to_hole 15 12) := ⟨rfl, rfl⟩
theorem FE : FormEnv P sg 4 3 2 5 0 3 := ⟨rfl, rfl, rfl, rfl, i2, 1, 0, 2, i3, rfl, rfl, rfl⟩
theorem tree_ok {t : Tr} (w : t.wf ρ) (hh : t.hgt ≤ 40) (hz : t.size ≤ 400) (h0 : t.holes = 0) (n : Nat) : rn (n + 3) 5 [.val t.v] = .ok (.v (.bl true)) [] := by
  have := is_tree_spec (wf := wfu) i5 rfl i4 FE (by decide) w hh (by omega) n
  rw [h0, decide_eq_true hz] at this
  exact this
theorem surr_ok {t : Tr} (w : t.wf ρ) (hh : t.hgt ≤ 40) (hz : t.size ≤ 401) (h0 : t.holes = 1) (n : Nat) : rn (n + 3) 6 [.val t.v] = .ok (.v (.bl true)) [] := by
  have := is_surr_spec (wf := wfu) i6 rfl i4 FE (by decide) w hh (by omega) n
  rw [h0] at this
  exact this
/-- put_in, put_behind over the law's surroundings -/
theorem raw_put_ok (b : Bool) (m : Nat) {side u : Tr} (ws : side.wf ρ) (wu : u.wf ρ) (hs : side.hp = []) (h1 : m ≤ 40) (h2 : side.hgt ≤ 40) (h3 : u.hgt ≤ 40) (z1 : side.size ≤ 401) (z2 : u.size ≤ 401) (n : Nat) (hn : 85 ≤ n) (hn2 : n ≤ 1000) :
    rn (n + 2) 20 [.val (aroundT b m side).v, .val u.v] = sizeR 0 (rowT m (fT b u side)) := by
  have e := ar_put b m side u
  have hg : (aroundT b m side).hgt ≤ 81 := by
    unfold aroundT
    rw [row_hgt, fT_hgt]
    have : Tr.hole.hgt = 1 := rfl
    omega
  have wa : (aroundT b m side).wf ρ := row_wf (fT_wf b hole_wf ws) m
  have hg2 : (rowT m (fT b u side)).hgt ≤ 81 := by
    rw [row_hgt, fT_hgt]
    omega
  have := put_spec (wf := wfu) i20 i11 i12 i19 i17 i9 i10 i7 rfl i8 rfl rfl wa (ar_hp b m hs) (ar_at b m side) (t := u) (by rw [e]; exact row_wf (fT_wf b wu ws) m) n (by omega) (by rw [e]; omega) (by simp; omega) hn2
    (by unfold aroundT; rw [row_size, fT_size]; have : Tr.hole.size = 1 := rfl; omega) (by rw [e, row_size, fT_size]; omega)
  rw [e] at this
  exact this
theorem ar_surr (b : Bool) (m : Nat) {side : Tr} (ws : side.wf ρ) (hs : side.holes = 0) (hh : (aroundT b m side).hgt ≤ 40) (hz : m + side.size ≤ 399) (n : Nat) : rn (n + 3) 6 [.val (aroundT b m side).v] = .ok (.v (.bl true)) [] := by
  have wa : (aroundT b m side).wf ρ := row_wf (fT_wf b hole_wf ws) m
  refine surr_ok wa hh ?_ ?_ n
  · unfold aroundT
    rw [row_size, fT_size]
    have : Tr.hole.size = 1 := rfl
    omega
  · unfold aroundT
    rw [row_holes, fT_holes, hs]
    rfl
theorem told_ok {k : Nat} (t : Tr) : True := trivial
end K
end
section
set_option Elab.async false
set_option linter.all false
set_option maxRecDepth 100000
set_option pp.maxSteps 900
set_option maxHeartbeats 4000000
/-! k36: is_right -/
namespace K
open PySem PD PV PT
mutual
theorem eqv_refl : ∀ v : V, v.data = true → V.eqv v v = true
  | .non, _ => rfl
  | .bl b, _ => by simp [V.eqv]
  | .int i, _ => by simp [V.eqv]
  | .str x, _ => by simp [V.eqv]
  | .tup vs, h => by simpa [V.eqv] using eqvs_refl vs h
  | .lst vs, h => by simpa [V.eqv] using eqvs_refl vs h
  | .dct _ _, h => by cases h
  | .fn _, h => by cases h
  | .cls _, h => by cases h
  | .ty _, h => by cases h
theorem eqvs_refl : ∀ vs : List V, V.datas vs = true → V.eqvs vs vs = true
  | [], _ => rfl
  | v :: vs, h => by
    have h' : v.data = true ∧ V.datas vs = true := by simpa [V.datas] using h
    simp [V.eqvs, eqv_refl v h'.1, eqvs_refl vs h'.2]
end
theorem eqV_refl {v : V} (h : v.data = true) (hd : v.dep ≤ 1000) : eqV v v = some true := by
  unfold eqV
  rw [if_pos ⟨h, h, by omega⟩, eqv_refl v h]
theorem dueV_refl (t : Tr) (h : t.hgt ≤ 500) : eqV (dueV t) (dueV t) = some true := by
  unfold dueV
  split
  · rfl
  · split
    · rfl
    · exact eqV_refl (Tr.data t) (by rw [Tr.dep]; omega)
theorem plV_dep (p : List Nat) : (plV p).dep ≤ 1 := by
  have : ∀ p : List Nat, V.deps (p.map fun (i : Nat) => V.int (i : Int)) = 0 := fun p => by
    induction p with
    | nil => rfl
    | cons a p ih => simp [V.deps, V.dep, ih]
  simp [plV, V.dep, this p]
theorem way_eq (m b : Nat) : (.tup ((List.replicate m [V.int 0]).flatten ++ [.int (b : Int)]) : V) = plV (List.replicate m 0 ++ [b]) := by
  rw [plV_is]
  congr 1
  rw [List.map_append]
  congr 1
  induction m with
  | zero => rfl
  | succ m ih => rw [List.replicate_succ, List.flatten_cons, List.replicate_succ, List.map_cons, ih]; rfl
/-- told(lambda: ..) of what comes to sizeR -/
theorem dueV_sizeR (t : Tr) : (sizeR 0 t = .exc 0 [.int 400] [] ∧ dueV t = .tup [.str manyX, .int 400]) ∨ (sizeR 0 t = .exc 0 [.int 40] [] ∧ dueV t = .tup [.str manyX, .int 40]) ∨ (sizeR 0 t = .ok (.v t.v) [] ∧ dueV t = t.v) := by
  unfold sizeR dueV
  by_cases h1 : 400 < t.nodes
  · rw [if_pos h1, if_pos h1]; exact .inl ⟨rfl, rfl⟩
  · rw [if_neg h1, if_neg h1]
    by_cases h2 : 40 < t.hgt
    · rw [if_pos h2, if_pos h2]; exact .inr (.inl ⟨rfl, rfl⟩)
    · rw [if_neg h2, if_neg h2]; exact .inr (.inr ⟨rfl, rfl⟩)
theorem ptold : P.told[0]? = some ⟨"_law_told", 0, [.inl manyX, .inr 0]⟩ := rfl
theorem wf_small {t : Tr} (w : t.wf ρ) : t.small := Tr.wf_small t w
theorem ar_nodes (b : Bool) (m : Nat) {side : Tr} (hs : side.holes = 0) : (aroundT b m side).nodes = m + 1 + side.size := by
  have h1 := Tr.size_eq (aroundT b m side)
  have h2 : (aroundT b m side).size = m + (1 + 1 + side.size) := by unfold aroundT; rw [row_size, fT_size]; rfl
  have h3 : (aroundT b m side).holes = 1 := by unfold aroundT; rw [row_holes, fT_holes, hs]; rfl
  omega
/-- a telling call: what comes of it -/
def Told0 (r : CR) (d : V) : Prop := (∃ x, r = .exc 0 [x] [] ∧ d = .tup [.str manyX, x]) ∨ r = .ok (.v d) []
theorem told_size (t : Tr) : Told0 (sizeR 0 t) (dueV t) := by
  rcases dueV_sizeR t with ⟨z1, z2⟩ | ⟨z1, z2⟩ | ⟨z1, z2⟩
  · exact .inl ⟨_, z1, z2⟩
  · exact .inl ⟨_, z1, z2⟩
  · exact .inr (z1.trans (by rw [z2]))
theorem low128 : (gv P sg wfu 128).low = rn 126 := rfl
theorem tail_a {h : VO} {mV bsV blV sv uv av ov p1 : V} {ai k1 k2 k3 k4 : Int} (hp1 : ixLV [.tup [bareV, sv], .tup [sv, bareV]] ai = some p1) (a1 : rn 128 30 [.val mV, .val (.tup [.str [102], p1])] = .ok (.v av) []) (a2 : rn 128 30 [.val blV, .val bareV] = .ok (.v ov) [])
    (a3 : rn 128 32 [.val av] = .ok (.v (.int k1)) []) (a4 : rn 128 33 [.val av] = .ok (.v (.int k2)) []) (c1 : ¬ 400 < k1) (c4 : 40 < k2) :
    finV [0] (xTs (gv P sg wfu 128) (f35.body.drop 4) [.own true h, .val mV, .val bsV, .val blV, .val bareV, .val sv, .val uv, .own false (.lst [.tup [bareV, sv], .tup [sv, bareV]]), .val (.int ai), .none, .none, .none]) = .ok (.v (.bl true)) [h] := by
  have s30 : sg 30 = [] := rfl
  have s32 : sg 32 = [] := rfl
  have s33 : sg 33 = [] := rfl
  simp [f35, varR, setS, s30, s32, s33, hp1, a1, a2, a3, a4, c1, c4]
theorem tail_b {h : VO} {mV bsV blV sv uv av ov p1 p2 p3 w1 w2 d1 d2 pv : V} {zs : List V} {ai k1 k2 k3 k4 : Int} {r1 r2 : CR} (hp1 : ixLV [.tup [bareV, sv], .tup [sv, bareV]] ai = some p1) (hp2 : ixLV [.tup [uv, sv], .tup [sv, uv]] ai = some p2) (hp3 : ixLV [.tup [ov, sv], .tup [sv, ov]] ai = some p3)
    (a1 : rn 128 30 [.val mV, .val (.tup [.str [102], p1])] = .ok (.v av) []) (a2 : rn 128 30 [.val blV, .val bareV] = .ok (.v ov) [])
    (a3 : rn 128 32 [.val av] = .ok (.v (.int k1)) []) (a4 : rn 128 33 [.val av] = .ok (.v (.int k2)) []) (a5 : rn 128 33 [.val ov] = .ok (.v (.int k3)) []) (a6 : rn 128 33 [.val uv] = .ok (.v (.int k4)) []) (c1 : ¬ 400 < k1) (c4 : ¬ 40 < k2) (c3 : ¬ 40 < k3) (c2 : ¬ 40 < k4)
    (b1 : rn 126 21 [.val av, .val uv] = r1) (t1 : Told0 r1 d1) (b2 : rn 128 30 [.val mV, .val (.tup [.str [102], p2])] = .ok (.v w1) []) (b3 : rn 128 34 [.val w1] = .ok (.v d1) []) (q1 : eqV d1 d1 = some true)
    (e1 : rn 126 22 [.val av, .val ov] = r2) (t2 : Told0 r2 d2) (e2 : rn 128 30 [.val mV, .val (.tup [.str [102], p3])] = .ok (.v w2) []) (e3 : rn 128 34 [.val w2] = .ok (.v d2) []) (q2 : eqV d2 d2 = some true)
    (f1 : rn 128 24 [.val av] = .ok (.v pv) []) (f2 : binV .mul (.tup [.int 0]) mV = some (.v (.tup zs))) (f3 : zs.length + 1 ≤ 16777216) (f4 : eqV pv (.tup (zs ++ [.int ai])) = some true) :
    finV [0] (xTs (gv P sg wfu 128) (f35.body.drop 4) [.own true h, .val mV, .val bsV, .val blV, .val bareV, .val sv, .val uv, .own false (.lst [.tup [bareV, sv], .tup [sv, bareV]]), .val (.int ai), .none, .none, .none]) = .ok (.v (.bl true)) [h] := by
  have s30 : sg 30 = [] := rfl
  have s32 : sg 32 = [] := rfl
  have s33 : sg 33 = [] := rfl
  have s34 : sg 34 = [] := rfl
  have s24 : sg 24 = [] := rfl
  have s21 : sg 21 = [] := rfl
  have s22 : sg 22 = [] := rfl
  have g1 : ∀ n0 n1 n2 n3 n4 n5 n7 n8 n10 n11, ev (gv P sg wfu 128) .pk (.told 0 (.callL 21 [.var 9, .var 6])) [n0, n1, n2, n3, n4, n5, .val uv, n7, n8, .val av, n10, n11] = .ok (.v d1) [n0, n1, n2, n3, n4, n5, .val uv, n7, n8, .val av, n10, n11] := by
    intros
    rcases t1 with ⟨x, rfl, rfl⟩ | rfl <;> simp [varR, s21, low128, b1, ptold]
  have g2 : ∀ n0 n1 n2 n3 n4 n5 n6 n7 n8 n11, ev (gv P sg wfu 128) .pk (.told 0 (.callL 22 [.var 9, .var 10])) [n0, n1, n2, n3, n4, n5, n6, n7, n8, .val av, .val ov, n11] = .ok (.v d2) [n0, n1, n2, n3, n4, n5, n6, n7, n8, .val av, .val ov, n11] := by
    intros
    rcases t2 with ⟨x, rfl, rfl⟩ | rfl <;> simp [varR, s22, low128, e1, ptold]
  simp [-ev_e21, f35, varR, setS, s30, s32, s33, s34, s24, hp1, hp2, hp3, a1, a2, a3, a4, a5, a6, c1, c2, c3, c4, g1, g2, b2, b3, q1, e2, e3, q2, f1, f2, f3, f4]
end K
end
section
set_option Elab.async false
set_option linter.all false
set_option maxRecDepth 100000
set_option pp.maxSteps 900
set_option maxHeartbeats 4000000
/-! k36: is_right, whole -/
namespace K
open PySem PD PV PT
theorem s28 : sg 28 = [0] := rfl
theorem s29 : sg 29 = [0] := rfl
theorem s30 : sg 30 = [] := rfl
theorem s31 : sg 31 = [] := rfl
theorem s21 : sg 21 = [] := rfl
theorem s22 : sg 22 = [] := rfl
theorem s23 : sg 23 = [] := rfl
theorem s25 : sg 25 = [] := rfl
theorem s36 : sg 36 = [] := rfl
theorem s35 : sg 35 = [0] := rfl
theorem head_code {h h1 h2 h3 : VO} {mV bsV blV sv rv fv uv : V} {k ai : Int} (x1 : rn 128 31 [.val bsV] = .ok (.v sv) []) (x2 : rn 128 30 [.val blV, .val (.tup [.str [97], .tup []])] = .ok (.v rv) []) (x3 : rn 128 28 [.own true h, .val (.int 8)] = .ok (.v (.int k)) [h1])
    (x4 : rn 128 31 [.val (.int (1 + k))] = .ok (.v fv) []) (x5 : rn 128 29 [.own true h1, .val (.lst [rv, fv])] = .ok (.v uv) [h2]) (x6 : rn 128 28 [.own true h2, .val (.int 2)] = .ok (.v (.int ai)) [h3]) :
    xTs (gv P sg wfu 128) (f35.body.take 4) [.own true h, .val mV, .val bsV, .val blV, .none, .none, .none, .none, .none, .none, .none, .none] = .nx [.own true h3, .val mV, .val bsV, .val blV, .val bareV, .val sv, .val uv, .own false (.lst [.tup [bareV, sv], .tup [sv, bareV]]), .val (.int ai), .none, .none, .none] := by
  simp [f35, varR, setS, s28, s29, s30, s31, x1, x2, x3, x4, x5, x6]
theorem xTs_split {G : GV} : ∀ (k : Nat) (ts : List T) {env env1 : VEnv}, xTs G (ts.take k) env = .nx env1 → xTs G ts env = xTs G (ts.drop k) env1
  | 0, ts, env, env1, h => by
    have h : SR.nx env = .nx env1 := h
    cases h
    rfl
  | k + 1, [], env, env1, h => by
    have h : SR.nx env = .nx env1 := h
    cases h
    rfl
  | k + 1, t :: ts, env, env1, h => by
    rw [List.take_succ_cons, xTs] at h
    rw [List.drop_succ_cons, xTs]
    cases e : xT G t env with
    | nx e1 =>
      rw [e] at h
      exact xTs_split k ts (show xTs G (ts.take k) e1 = .nx env1 from h)
    | rt r e1 => rw [e] at h; cases h
    | bk e1 => rw [e] at h; cases h
    | ct e1 => rw [e] at h; cases h
    | exc c fs e1 => rw [e] at h; cases h
    | bad => rw [e] at h; cases h
theorem is_right_spec (h : VO) (hh : HandOk h) (m bs bl : Nat) (h1 : m ≤ 38) (h2 : 1 ≤ bs) (h3 : bs ≤ 8) (h4 : bl ≤ 39) : ∃ h', HandOk h' ∧ rn 129 35 [.own true h, .val (.int m), .val (.int bs), .val (.int bl)] = .ok (.v (.bl true)) [h'] := by
  -- the draws
  obtain ⟨k, ha, p1, p2, p3, x3⟩ := draw_spec 126 h hh 8 (by decide) (by decide)
  obtain ⟨k, rfl⟩ : ∃ j : Nat, k = j := ⟨k.toNat, by omega⟩
  have x1 : rn 128 31 [.val (.int bs)] = .ok (.v (fullT (bs - 1)).v) [] := full_spec 127 bs h2 (by omega)
  have x2 : rn 128 30 [.val (.int bl), .val (.tup [.str [97], .tup []])] = .ok (.v (rowT bl leaf).v) [] := row_spec 127 bl leaf (by omega)
  have x4 : rn 128 31 [.val (.int (1 + (k : Int)))] = .ok (.v (fullT k).v) [] := by
    have := full_spec 127 (1 + k) (by omega) (by omega)
    rw [show ((1 + k : Nat) : Int) = 1 + (k : Int) by omega, show 1 + k - 1 = k by omega] at this
    exact this
  obtain ⟨j, uv, hb, q1, q2, x5⟩ := some_spec 125 ha p1 [(rowT bl leaf).v, (fullT k).v] (by simp) (by simp)
  obtain ⟨ai, hc, r1, r2, r3, x6⟩ := draw_spec 126 hb q1 2 (by decide) (by decide)
  have hd := head_code (mV := .int m) x1 x2 x3 x4 x5 x6
  refine ⟨hc, r1, run_at (F := f35) rfl rfl ?_⟩
  have sp := xTs_split 4 f35.body hd
  refine (congrArg (finV [0]) sp).trans ?_
  -- what was drawn
  obtain ⟨u, rfl, wu, hu, zu, nu⟩ : ∃ u : Tr, uv = u.v ∧ u.wf ρ ∧ u.hgt ≤ 40 ∧ u.size ≤ 300 ∧ u.holes = 0 := by
    match j, q2 with
    | 0, q2 =>
      cases q2
      refine ⟨_, rfl, row_wf leaf_wf bl, ?_, ?_, ?_⟩
      · rw [row_hgt]; show bl + 1 ≤ 40; omega
      · rw [row_size]; show bl + 1 ≤ 300; omega
      · rw [row_holes]; rfl
    | 1, q2 =>
      cases q2
      refine ⟨_, rfl, full_wf k, ?_, ?_, full_holes k⟩
      · rw [full_hgt]; omega
      · have := full_size k
        have : 2 ^ (k + 1) ≤ 2 ^ 8 := Nat.pow_le_pow_right (by decide) (by omega)
        omega
    | j + 2, q2 => simp at q2
  obtain ⟨b, rfl⟩ : ∃ b : Bool, ai = (b.toNat : Int) := by
    have : ai = 0 ∨ ai = 1 := by omega
    rcases this with rfl | rfl
    · exact ⟨false, rfl⟩
    · exact ⟨true, rfl⟩
  clear x1 x2 x3 x4 x5 x6 hd sp
  have ws := full_wf (bs - 1)
  have ns := full_holes (bs - 1)
  have hs := full_hgt (bs - 1)
  have ps := full_hp (bs - 1)
  have zs : (fullT (bs - 1)).size ≤ 256 := by
    have := full_size (bs - 1)
    have : 2 ^ (bs - 1 + 1) ≤ 2 ^ 8 := Nat.pow_le_pow_right (by decide) (by omega)
    omega
  obtain ⟨side, hside⟩ : ∃ s, s = fullT (bs - 1) := ⟨_, rfl⟩
  rw [← hside] at ws ns hs ps zs ⊢
  have wa : (aroundT b m side).wf ρ := row_wf (fT_wf b hole_wf ws) m
  have hga : (aroundT b m side).hgt ≤ 81 := by unfold aroundT; rw [row_hgt, fT_hgt]; have ho : Tr.hole.hgt = 1 := rfl; omega
  have ko := row_wf hole_wf bl
  have hgo : (rowT bl .hole).hgt = bl + 1 := row_hgt .hole bl
  have a1 : rn 128 30 [.val (.int m), .val (fT b .hole side).v] = .ok (.v (aroundT b m side).v) [] := row_spec 127 m (fT b .hole side) (by omega)
  have a2 : rn 128 30 [.val (.int bl), .val bareV] = .ok (.v (rowT bl .hole).v) [] := row_spec 127 bl .hole (by omega)
  have a3 : rn 128 32 [.val (aroundT b m side).v] = .ok (.v (.int ((aroundT b m side).nodes : Nat))) [] := lnodes_spec (aroundT b m side) 128 (by omega) (wf_small wa)
  have a4 : rn 128 33 [.val (aroundT b m side).v] = .ok (.v (.int (aroundT b m side).hgt)) [] := ldeep_spec (aroundT b m side) 128 (by omega) (wf_small wa)
  have a5 : rn 128 33 [.val (rowT bl .hole).v] = .ok (.v (.int (rowT bl .hole).hgt)) [] := ldeep_spec _ 128 (by omega) (wf_small ko)
  have a6 : rn 128 33 [.val u.v] = .ok (.v (.int u.hgt)) [] := ldeep_spec u 128 (by omega) (wf_small wu)
  have nn := ar_nodes b m ns
  have fv : ∀ x y : Tr, (fT b x y).v = .tup [.str [102], if b = true then .tup [y.v, x.v] else .tup [x.v, y.v]] := fun x y => by cases b <;> rfl
  have hpp : ∀ x y : V, ixLV [.tup [x, y], .tup [y, x]] (b.toNat : Int) = some (if b = true then .tup [y, x] else .tup [x, y]) := fun x y => by cases b <;> simp
  rw [fv] at a1
  by_cases c4 : (40 : Int) < ((aroundT b m side).hgt : Int)
  · exact tail_a (k3 := 0) (k4 := 0) (hpp _ _) a1 a2 a3 a4 (by omega) c4
  · have c4' : (aroundT b m side).hgt ≤ 40 := by omega
    have e0 : ∀ n, rn (n + 3) 6 [.val (aroundT b m side).v] = .ok (.v (.bl true)) [] := ar_surr b m ws ns c4' (by omega)
    have hro : (rowT bl .hole).holes = 1 := by rw [row_holes]; rfl
    have zro : (rowT bl .hole).size = bl + 1 := by rw [row_size]; rfl
    have b1 : rn 126 21 [.val (aroundT b m side).v, .val u.v] = sizeR 0 (rowT m (fT b u side)) :=
      put_in_spec i21 i15 i14 rfl rfl rfl (n := 124) (e0 121) (tree_ok wu hu (by omega) nu 121) (raw_put_ok b m ws wu ps (by omega) (by omega) hu (by omega) (by omega) 123 (by omega) (by omega))
    have e1 : rn 126 22 [.val (aroundT b m side).v, .val (rowT bl .hole).v] = sizeR 0 (rowT m (fT b (rowT bl .hole) side)) :=
      put_behind_spec i22 i15 rfl rfl (n := 124) (e0 121) (surr_ok ko (by omega) (by omega) hro 121) (raw_put_ok b m ws ko ps (by omega) (by omega) (by omega) (by omega) (by omega) 123 (by omega) (by omega))
    have w1h : (rowT m (fT b u side)).hgt ≤ 100 := by rw [row_hgt, fT_hgt]; omega
    have w2h : (rowT m (fT b (rowT bl .hole) side)).hgt ≤ 100 := by rw [row_hgt, fT_hgt]; omega
    have b2 := row_spec 127 m (fT b u side) (by omega)
    have e2 := row_spec 127 m (fT b (rowT bl .hole) side) (by omega)
    rw [fv] at b2 e2
    have b3 : rn 128 34 [.val (rowT m (fT b u side)).v] = .ok (.v (dueV (rowT m (fT b u side)))) [] := due_spec 127 _ (by omega) (wf_small (row_wf (fT_wf b wu ws) m))
    have e3 : rn 128 34 [.val (rowT m (fT b (rowT bl .hole) side)).v] = .ok (.v (dueV (rowT m (fT b (rowT bl .hole) side)))) [] := due_spec 127 _ (by omega) (wf_small (row_wf (fT_wf b ko ws) m))
    have zz := (places_le (aroundT b m side)).trans (by unfold aroundT; rw [row_size, fT_size]; rfl : (aroundT b m side).size = m + (1 + 1 + side.size))
    have f1 : rn 128 24 [.val (aroundT b m side).v] = .ok (.v (plV (List.replicate m 0 ++ [b.toNat]))) [] :=
      way_spec i24 i15 rfl rfl (n := 126) (e0 123) (hole_spec i12 i9 i10 rfl (ar_hp b m ps) 126 (by omega) (by omega) (by omega) (by omega))
    have f2 : binV .mul (.tup [.int 0]) (.int m) = some (.v (.tup (List.replicate m [V.int 0]).flatten)) := by
      have c : (0 : Int) ≤ m ∧ (m : Int) ≤ 1000 ∧ [V.int 0].length ≤ 1000 := ⟨by omega, by omega, by simp⟩
      rw [binV_mult, if_pos c, Int.toNat_natCast]
    have f3 : (List.replicate m [V.int 0]).flatten.length + 1 ≤ 16777216 := by simp; omega
    have f4 : eqV (plV (List.replicate m 0 ++ [b.toNat])) (.tup ((List.replicate m [V.int 0]).flatten ++ [.int (b.toNat : Int)])) = some true := by
      rw [way_eq]
      exact eqV_refl (plV_data _) (Nat.le_trans (plV_dep _) (by decide))
    exact tail_b (hpp _ _) (hpp _ _) (hpp _ _) a1 a2 a3 a4 a5 a6 (by omega) c4 (by omega) (by omega) b1 (told_size _) b2 b3 (dueV_refl _ (by omega)) e1 (told_size _) e2 e3 (dueV_refl _ (by omega)) f1 f2 f3 f4
end K
end
section
set_option Elab.async false
set_option linter.all false
set_option maxRecDepth 100000
set_option pp.maxSteps 900
set_option maxHeartbeats 4000000
/-! k36: chains cut and put together -/
namespace K
open PySem PD PV PT
theorem s0 : sg 0 = [] := rfl
theorem s1' : sg 1 = [] := rfl
theorem s9 : sg 9 = [] := rfl
theorem s12 : sg 12 = [] := rfl
theorem s13 : sg 13 = [] := rfl
theorem s14 : sg 14 = [] := rfl
theorem s15 : sg 15 = [] := rfl
theorem s16 : sg 16 = [] := rfl
theorem s10 : sg 10 = [] := rfl
theorem s11 : sg 11 = [] := rfl
theorem s18 : sg 18 = [] := rfl
theorem int_spec (n : Nat) (i : Int) : rn (n + 1) 0 [.val (.int i)] = .ok (.v (.bl true)) [] := by
  refine run_at (F := f0) rfl rfl ?_
  simp [f0, varR]
theorem within_spec (n : Nat) (i a b : Int) (h1 : a ≤ i) (h2 : i ≤ b) : rn (n + 2) 1 [.val (.int i), .val (.int a), .val (.int b)] = .ok (.v (.bl true)) [] := by
  refine run_at (F := f1) rfl rfl ?_
  simp [f1, varR, s0, int_spec, h1, h2]
theorem bls_true {α : Type} : ∀ l : List α, blsV? (l.map fun _ => V.bl true) = some (l.map fun _ => true) := fun l => bls_map (fun _ => true) l
theorem form_ok (n : Nat) (p : List Nat) (hp : ∀ i ∈ p, i ≤ 2) (hl : p.length ≤ 1000) : rn (n + 3) 13 [.val (plV p)] = .ok (.v (.bl true)) [] := by
  refine run_at (F := f13) rfl rfl ?_
  have l1 : p.length ≤ 16777216 := by omega
  have ee : ∀ e0 : V, eachV (lcV [1] (tgV (gv P sg wfu (n + 2)) (.name 1)) (vTo (gv P sg wfu (n + 2)) none) (ev (gv P sg wfu (n + 2)) .fz (.call 1 [.var 1, .int 0, .bin .sub (.gl 5) (.int 1)]))) (p.map fun (i : Nat) => V.int (i : Int)) [.val e0, .none] = .ok (p.map fun _ => .bl true) [.val e0, .none] := fun e0 => by
    refine each_map fun i hi => ?_
    have := hp i hi
    have w := within_spec n (i : Int) 0 2 (by omega) (by omega)
    simp [lcV, varR, setS, s1', w]
  have it : isOfV (plV p) "tuple" = some true := rfl
  simp [f13, varR, it, l1, tgSlots, ee, bls_true]
theorem plV_eqv (p q : List Nat) : V.eqv (plV p) (plV q) = decide (p = q) := by
  have key : ∀ p q : List Nat, V.eqvs (p.map fun (i : Nat) => V.int (i : Int)) (q.map fun (i : Nat) => V.int (i : Int)) = decide (p = q) := by
    intro p
    induction p with
    | nil => intro q; cases q <;> simp [V.eqvs]
    | cons a p ih =>
      intro q
      cases q with
      | nil => simp [V.eqvs]
      | cons b q => simp [V.eqvs, V.eqv, ih, Bool.beq_eq_decide_eq, Int.natCast_inj]
  exact key p q
theorem plVs_data (ps : List (List Nat)) : V.datas (ps.map plV) = true := by
  induction ps with
  | nil => rfl
  | cons p ps ih => simp [plV_data, ih]
theorem inV_places (p : List Nat) (ps : List (List Nat)) : inV (plV p) (.lst (ps.map plV)) = some (decide (p ∈ ps)) := by
  rw [inV_lst, if_pos ⟨plV_data p, plVs_data ps, by have := plV_dep p; omega⟩]
  congr 1
  rw [List.any_map]
  induction ps with
  | nil => rfl
  | cons q ps ih =>
    rw [List.any_cons, ih]
    by_cases e : p = q
    · subst e
      simp [plV_eqv]
    · simp [plV_eqv, e]
      exact fun z => absurd z.symm e
theorem place_ok (n : Nat) (t : Tr) (p : List Nat) (hp : ∀ i ∈ p, i ≤ 2) (hl : p.length < 40) (hm : p ∈ t.places) (hh : t.hgt ≤ n + 3) (hz : t.size ≤ 1000) (hh2 : t.hgt ≤ 1000) : rn (n + 4) 16 [.val t.v, .val (plV p)] = .ok (.v .non) [] := by
  refine run_at (F := f16) rfl rfl ?_
  have e1 := form_ok n p hp (by omega)
  have e2 := places_spec (wf := wfu) i9 t (n + 3) hh (by omega) (by rw [places_le]; omega)
  have e3 : biV .len [plV p] = some (.int (p.length : Nat)) := by simp [plV]
  have c1 : ¬ (40 : Int) ≤ ((p.length : Nat) : Int) := by omega
  have e4 := inV_places p t.places
  rw [decide_eq_true hm] at e4
  obtain ⟨k, hk⟩ : ∃ k : Int, k = ((p.length : Nat) : Int) := ⟨_, rfl⟩
  rw [← hk] at e3 c1
  generalize plV p = pv at *
  simp [f16, varR, s13, s9, e1, e2, e3, e4, c1]
theorem split_code {n : Nat} {tv pv wv av : V} (e1 : rn n 14 [.val tv] = .ok (.v .non) []) (e2 : rn n 16 [.val tv, .val pv] = .ok (.v .non) []) (e3 : rn n 11 [.val tv, .val pv, .val bareV] = .ok (.v wv) []) (e4 : rn n 10 [.val tv, .val pv] = .ok (.v av) []) :
    rn (n + 1) 23 [.val tv, .val pv] = .ok (.v (.tup [wv, av])) [] := by
  refine run_at (F := f23) rfl rfl ?_
  simp [f23, varR, s14, s16, s11, s10, e1, e2, e3, e4]
/-- the steps of a chain -/
abbrev stepV : V := .tup [.str [103], .tup [bareV]]
abbrev rungV : V := .tup [.str [103], .int 0, .tup []]
@[simp] theorem cut_take0 {α : Type} (xs : List α) : cutD xs none (some 0) = [] := cut_take xs 0
@[simp] theorem cut_drop0 {α : Type} (xs : List α) : cutD xs (some 0) none = xs := cut_drop xs 0
theorem rung_for {G : GV} {q0 : V} {R : List T} (hR : R = match f18.body with | [_, .for _ _ b, _] => b | _ => []) : ∀ (k : Nat) (A : List V) (t : Tr) (y : Sl), A.length + k ≤ 10000 → (y = .none ∨ ∃ w, y = .val w) →
    ∃ y', forV (tgV G (.name 3)) (xTs G R) (List.replicate k (V.int 0)) [.val q0, .own false (.lst A), .val (rowT k t).v, y] = .nx [.val q0, .own false (.lst (A ++ List.replicate k rungV)), .val t.v, y']
  | 0, A, t, y, hl, hy => ⟨y, by simp [rowT]⟩
  | k + 1, A, t, y, hl, hy => by
    obtain ⟨y', ih⟩ := rung_for (G := G) (q0 := q0) hR k (A ++ [rungV]) t (.val (.int 0)) (by simp; omega) (.inr ⟨_, rfl⟩)
    refine ⟨y', ?_⟩
    have l1 : A.length < 16777216 := by omega
    have ev : (rowT (k + 1) t).v = .tup [.str [103], .tup [(rowT k t).v]] := rfl
    have e2 : A ++ List.replicate (k + 1) rungV = (A ++ [rungV]) ++ List.replicate k rungV := by rw [List.replicate_succ, List.append_assoc]; rfl
    rw [List.replicate_succ, ev, e2, ← ih]
    subst hR
    generalize (rowT k t).v = tv
    rcases hy with rfl | ⟨w, rfl⟩ <;> simp [forV, f18, varR, setS, l1]
theorem rungs_ok (n k : Nat) (t : Tr) (hk : k ≤ 1000) (e : rn n 12 [.val (rowT k t).v] = .ok (.v (plV (List.replicate k 0))) []) : rn (n + 1) 18 [.val (rowT k t).v] = .ok (.own (.lst (List.replicate k rungV))) [] := by
  refine run_at (F := f18) rfl rfl ?_
  obtain ⟨y', f⟩ := rung_for (G := gv P sg wfu n) (q0 := (rowT k t).v) rfl k [] t .none (by simp; omega) (.inl rfl)
  have e5 : (List.replicate k 0).map (fun (i : Nat) => V.int (i : Int)) = List.replicate k (V.int 0) := by simp
  have e6 : walkV (plV (List.replicate k 0)) = some (List.replicate k (V.int 0)) := by rw [plV_walk, e5]
  simp [f18] at f
  generalize (rowT k t).v = tv at *
  generalize plV (List.replicate k 0) = pv at *
  simp [f18, varR, setS, s12, e, e6, f]
theorem steps_code {n k : Nat} {tv : V} (hk : k ≤ 1000) (e1 : rn n 15 [.val tv] = .ok (.v .non) []) (e2 : rn n 18 [.val tv] = .ok (.own (.lst (List.replicate k rungV))) []) : rn (n + 1) 25 [.val tv] = .ok (.v (.tup (List.replicate k stepV))) [] := by
  refine run_at (F := f25) rfl rfl ?_
  have l1 : k ≤ 16777216 := by omega
  simp [f25, varR, s15, s18, e1, e2, l1, tgSlots, tgsSlots]
  rw [each_id (v := fun _ => stepV) fun a ha => ?_]
  · simp
  · rw [List.eq_of_mem_replicate ha]
    simp [lcV, varR, setS, tgSlots, tgsSlots]
theorem row_code {n : Nat} {mV tv ov pv : V} {ws : List V} (r1 : rn n 30 [.val mV, .val (.tup [.str [97], .tup []])] = .ok (.v tv) []) (r2 : rn n 30 [.val mV, .val bareV] = .ok (.v ov) []) (m1 : binV .mul (.tup [.int 0]) mV = some (.v pv)) (r3 : rn n 23 [.val tv, .val pv] = .ok (.v (.tup [ov, .tup [.str [97], .tup []]])) [])
    (q1 : eqV (.tup [ov, .tup [.str [97], .tup []]]) (.tup [ov, .tup [.str [97], .tup []]]) = some true) (r4 : rn n 21 [.val ov, .val (.tup [.str [97], .tup []])] = .ok (.v tv) []) (q2 : eqV tv tv = some true) (r5 : rn n 25 [.val ov] = .ok (.v (.tup ws)) []) (m2 : binV .mul (.tup [stepV]) mV = some (.v (.tup ws))) (q3 : eqV (.tup ws) (.tup ws) = some true) :
    rn (n + 1) 36 [.val mV] = .ok (.v (.bl true)) [] := by
  refine run_at (F := f36) rfl rfl ?_
  simp [f36, varR, setS, s30, s23, s21, s25, r1, r2, m1, r3, q1, r4, q2, r5, m2, q3]
theorem row_places (t : Tr) : ∀ m, List.replicate m 0 ∈ (rowT m t).places
  | 0 => by
    obtain ⟨x, ps⟩ := t
    simp [rowT, Tr.places]
  | m + 1 => by
    rw [rowT, Tr.places]
    simp only [Tr.placesI, List.append_nil, List.mem_cons, List.mem_map]
    exact .inr ⟨_, row_places t m, rfl⟩
theorem stepV_data : stepV.data = true := rfl
theorem steps_data (m : Nat) : V.datas (List.replicate m stepV) = true := by
  induction m with
  | zero => rfl
  | succ m ih => rw [List.replicate_succ, datas_cons, stepV_data, ih]; rfl
theorem steps_dep (m : Nat) : V.deps (List.replicate m stepV) ≤ 4 := by
  induction m with
  | zero => show 0 ≤ 4; omega
  | succ m ih =>
    rw [List.replicate_succ, V.deps]
    have : stepV.dep = 4 := rfl
    omega
theorem row_right (m : Nat) (hm : m ≤ 39) : rn 129 36 [.val (.int m)] = .ok (.v (.bl true)) [] := by
  have h1 : leaf.hgt = 1 := rfl
  have h2 : Tr.hole.hgt = 1 := rfl
  have z1 : leaf.size = 1 := rfl
  have z2 : Tr.hole.size = 1 := rfl
  have wl := row_wf leaf_wf m
  have wo := row_wf hole_wf m
  have gl := row_hgt leaf m
  have go := row_hgt .hole m
  have zl := row_size leaf m
  have zo := row_size .hole m
  have nl : (rowT m leaf).holes = 0 := by rw [row_holes]; rfl
  have no : (rowT m .hole).holes = 1 := by rw [row_holes]; rfl
  have r1 : rn 128 30 [.val (.int m), .val (.tup [.str [97], .tup []])] = .ok (.v (rowT m leaf).v) [] := row_spec 127 m leaf (by omega)
  have r2 : rn 128 30 [.val (.int m), .val bareV] = .ok (.v (rowT m .hole).v) [] := row_spec 127 m .hole (by omega)
  have e5 : (List.replicate m [V.int 0]).flatten = (List.replicate m 0).map (fun (i : Nat) => V.int (i : Int)) := by simp
  have e6 : (List.replicate m [stepV]).flatten = List.replicate m stepV := by simp
  have c : (0 : Int) ≤ m ∧ (m : Int) ≤ 1000 ∧ [V.int 0].length ≤ 1000 := ⟨by omega, by omega, by simp⟩
  have c2 : (0 : Int) ≤ m ∧ (m : Int) ≤ 1000 ∧ [stepV].length ≤ 1000 := ⟨by omega, by omega, by simp⟩
  have m1 : binV .mul (.tup [.int 0]) (.int m) = some (.v (plV (List.replicate m 0))) := by rw [binV_mult, if_pos c, Int.toNat_natCast, e5]; rfl
  have m2 : binV .mul (.tup [stepV]) (.int m) = some (.v (.tup (List.replicate m stepV))) := by rw [binV_mult, if_pos c2, Int.toNat_natCast, e6]
  have a0 : (rowT m leaf).at? (List.replicate m 0) = some leaf := by have := row_at leaf [] m; rw [List.append_nil] at this; exact this
  have a1 : Tr.put (List.replicate m 0) (rowT m leaf) .hole = rowT m .hole := by have := row_put leaf .hole [] m; rw [List.append_nil] at this; exact this
  have k1 : rn 127 14 [.val (rowT m leaf).v] = .ok (.v .non) [] := check_spec i14 rfl (n := 126) (tree_ok wl (by omega) (by omega) nl 123)
  have k2 : rn 127 16 [.val (rowT m leaf).v, .val (plV (List.replicate m 0))] = .ok (.v .non) [] :=
    place_ok 123 _ _ (fun i hi => by rw [List.eq_of_mem_replicate hi]; omega) (by simp; omega) (row_places leaf m) (by omega) (by omega) (by omega)
  have k3 : rn 127 11 [.val (rowT m leaf).v, .val (plV (List.replicate m 0)), .val bareV] = .ok (.v (rowT m .hole).v) [] := by
    have := with_spec (wf := wfu) i11 (List.replicate m 0) (rowT m leaf) .hole leaf 127 (by simp; omega) (wf_small wl) a0
    rw [a1] at this
    exact this
  have k4 : rn 127 10 [.val (rowT m leaf).v, .val (plV (List.replicate m 0))] = .ok (.v leaf.v) [] := at_spec i10 (n := 126) a0
  have r3 : rn 128 23 [.val (rowT m leaf).v, .val (plV (List.replicate m 0))] = .ok (.v (.tup [(rowT m .hole).v, .tup [.str [97], .tup []]])) [] := split_code k1 k2 k3 k4
  have hp : (rowT m .hole).hp = [List.replicate m 0] := by rw [row_hp]; show [List.replicate m 0 ++ []] = _; rw [List.append_nil]
  have ha : (rowT m .hole).at? (List.replicate m 0) = some .hole := by have := row_at .hole [] m; rw [List.append_nil] at this; exact this
  have hpu : Tr.put (List.replicate m 0) (rowT m .hole) leaf = rowT m leaf := by have := row_put .hole leaf [] m; rw [List.append_nil] at this; exact this
  have su : ∀ n, rn (n + 3) 6 [.val (rowT m .hole).v] = .ok (.v (.bl true)) [] := fun n => surr_ok wo (by omega) (by omega) no n
  have r4 : rn 128 21 [.val (rowT m .hole).v, .val (.tup [.str [97], .tup []])] = .ok (.v (rowT m leaf).v) [] := by
    have z := put_spec (wf := wfu) i20 i11 i12 i19 i17 i9 i10 i7 rfl i8 rfl rfl wo hp ha (t := leaf) (by rw [hpu]; exact wl) 125 (by omega) (by rw [hpu]; omega) (by simp; omega) (by omega) (by omega) (by rw [hpu]; omega)
    rw [hpu] at z
    have y : rn 128 21 [.val (rowT m .hole).v, .val leaf.v] = sizeR 0 (rowT m leaf) := put_in_spec i21 i15 i14 rfl rfl rfl (n := 126) (su 123) (tree_ok leaf_wf (by decide) (by decide) rfl 123) z
    have nn := nodes_no nl
    unfold sizeR at y
    rw [if_neg (by omega), if_neg (by omega)] at y
    exact y
  have hole_e : ∀ n, 41 ≤ n → rn (n + 1) 12 [.val (rowT m .hole).v] = .ok (.v (plV (List.replicate m 0))) [] := fun n hn => hole_spec i12 i9 i10 rfl hp n (by omega) (by omega) (by omega) (by rw [places_le]; omega)
  have r5 : rn 128 25 [.val (rowT m .hole).v] = .ok (.v (.tup (List.replicate m stepV))) [] :=
    steps_code (by omega) (check_surr_spec i15 rfl (n := 126) (su 123)) (rungs_ok 126 m .hole (by omega) (hole_e 125 (by omega)))
  have q0 : eqV (.tup [(rowT m .hole).v, .tup [.str [97], .tup []]]) (.tup [(rowT m .hole).v, .tup [.str [97], .tup []]]) = some true := by
    refine eqV_refl (by simp) ?_
    simp only [V.dep, V.deps, Tr.dep]
    omega
  exact row_code r1 r2 m1 r3 q0 r4 (eqV_refl (Tr.data _) (by rw [Tr.dep]; omega)) r5 m2 (eqV_refl (steps_data m) (by have := steps_dep m; show V.deps _ + 1 ≤ 1000; omega))
end K
end
section
set_option Elab.async false
set_option linter.all false
set_option maxRecDepth 100000
set_option pp.maxSteps 900
set_option maxHeartbeats 4000000
/-! k36: the law -/
namespace K
open PySem PD PV PT
theorem hand_for {G : GV} {q0 : Sl} : ∀ ns : List Int, eachV (lcV [2] (tgV G (.name 2)) (vTo G none) (ev G .fz (.bi .abs [.bi .int [.var 2]]))) (ns.map V.int) [q0, .none, .none] = .ok (ns.map fun i => .int (if i < 0 then -i else i)) [q0, .none, .none] := fun ns =>
  each_map fun i hi => by simp [lcV, varR, setS]
theorem hand_spec (n : Nat) (ns : List Int) (hl : ns.length ≤ 63) : ∃ h, HandOk h ∧ rn (n + 1) 27 [.val (.lst (ns.map V.int))] = .ok (.own h) [] := by
  refine ⟨handV (ns.map fun i => if i < 0 then -i else i) 0 0 (3623 + 7 * (ns.length : Int)) 0, ⟨_, _, _, _, _, rfl⟩, run_at (F := f27) rfl rfl ?_⟩
  have l1 : ns.length ≤ 16777216 := by omega
  have e0 : cutD (ns.map V.int) none (some 63) = ns.map V.int := by
    rw [show (63 : Int) = ((63 : Nat) : Int) from rfl, cut_take, List.take_of_length_le (by simp; omega)]
  have m7 : mulOk 7 (ns.length : Int) := .inl ⟨by decide, by decide⟩
  have e1 : ∀ q0 : Sl, _ := fun q0 => hand_for (G := gv P sg wfu n) (q0 := q0) ns
  have e2 : (ns.map fun i => V.int (if i < 0 then -i else i)) = (ns.map fun i => if i < 0 then -i else i).map V.int := by simp [Function.comp_def]
  obtain ⟨k, hk⟩ : ∃ k : Int, k = (ns.length : Int) := ⟨_, rfl⟩
  rw [← hk] at m7 ⊢
  simp [f27, varR, setS, e0, l1, tgSlots, e1, ← hk, m7, handV, Function.comp_def]
theorem lap_code {h h1 h2 h3 h4 : VO} {a b c : Int} {q0 q2 q3 q4 q5 q6 : Sl} (x1 : rn 129 28 [.own true h, .val (.int 39)] = .ok (.v (.int a)) [h1]) (x2 : rn 129 28 [.own true h1, .val (.int 8)] = .ok (.v (.int b)) [h2]) (x3 : rn 129 28 [.own true h2, .val (.int 40)] = .ok (.v (.int c)) [h3])
    (x4 : rn 129 35 [.own true h3, .val (.int a), .val (.int (1 + b)), .val (.int c)] = .ok (.v (.bl true)) [h4]) (p4 : q4 = .none ∨ ∃ w, q4 = .val w) (p5 : q5 = .none ∨ ∃ w, q5 = .val w) (p6 : q6 = .none ∨ ∃ w, q6 = .val w) {R : List T} (hR : R = match f37.body with | [_, _, _, _, _, .for _ _ b, _] => b | _ => []) :
    xTs (gv P sg wfu 129) R [q0, .own false h, q2, q3, q4, q5, q6] = .nx [q0, .own false h4, q2, q3, .val (.int a), .val (.int (1 + b)), .val (.int c)] := by
  subst hR
  rcases p4 with rfl | ⟨w4, rfl⟩ <;> rcases p5 with rfl | ⟨w5, rfl⟩ <;> rcases p6 with rfl | ⟨w6, rfl⟩ <;> simp [f37, varR, setS, s28, s35, x1, x2, x3, x4]
theorem laps {q0 q2 : Sl} {R : List T} (hR : R = match f37.body with | [_, _, _, _, _, .for _ _ b, _] => b | _ => []) : ∀ (l : List V) (h : VO) (q3 q4 q5 q6 : Sl), HandOk h → (q3 = .none ∨ ∃ w, q3 = .val w) → (q4 = .none ∨ ∃ w, q4 = .val w) → (q5 = .none ∨ ∃ w, q5 = .val w) → (q6 = .none ∨ ∃ w, q6 = .val w) →
    ∃ h' q3' q4' q5' q6', forV (tgV (gv P sg wfu 129) (.name 3)) (xTs (gv P sg wfu 129) R) l [q0, .own false h, q2, q3, q4, q5, q6] = .nx [q0, .own false h', q2, q3', q4', q5', q6']
  | [], h, q3, q4, q5, q6, hh, p3, p4, p5, p6 => ⟨h, q3, q4, q5, q6, rfl⟩
  | v :: l, h, q3, q4, q5, q6, hh, p3, p4, p5, p6 => by
    obtain ⟨a, h1, o1, a1, a2, x1⟩ := draw_spec 127 h hh 39 (by decide) (by decide)
    obtain ⟨b, h2, o2, b1, b2, x2⟩ := draw_spec 127 h1 o1 8 (by decide) (by decide)
    obtain ⟨c, h3, o3, c1, c2, x3⟩ := draw_spec 127 h2 o2 40 (by decide) (by decide)
    obtain ⟨a', rfl⟩ : ∃ k : Nat, a = k := ⟨a.toNat, by omega⟩
    obtain ⟨c', rfl⟩ : ∃ k : Nat, c = k := ⟨c.toNat, by omega⟩
    obtain ⟨b', hb⟩ : ∃ k : Nat, 1 + b = k := ⟨(1 + b).toNat, by omega⟩
    obtain ⟨h4, o4, x4⟩ := is_right_spec h3 o3 a' b' c' (by omega) (by omega) (by omega) (by omega)
    rw [← hb] at x4
    obtain ⟨h', q3', q4', q5', q6', ih⟩ := laps (q0 := q0) (q2 := q2) hR l h4 (.val v) _ _ _ o4 (.inr ⟨v, rfl⟩) (.inr ⟨_, rfl⟩) (.inr ⟨_, rfl⟩) (.inr ⟨_, rfl⟩)
    refine ⟨h', q3', q4', q5', q6', ?_⟩
    rw [← ih]
    have lc := lap_code (q0 := q0) (q2 := q2) (q3 := .val v) x1 x2 x3 x4 p4 p5 p6 hR
    rw [forV]
    have st : tgV (gv P sg wfu 129) (.name 3) (.v v) [q0, .own false h, q2, q3, q4, q5, q6] = .ok () [q0, .own false h, q2, .val v, q4, q5, q6] := by
      rcases p3 with rfl | ⟨w, rfl⟩ <;> simp [setS]
    rw [st]
    show (match xTs (gv P sg wfu 129) R [q0, .own false h, q2, .val v, q4, q5, q6] with
      | .nx e => forV (tgV (gv P sg wfu 129) (.name 3)) (xTs (gv P sg wfu 129) R) l e
      | .ct e => forV (tgV (gv P sg wfu 129) (.name 3)) (xTs (gv P sg wfu 129) R) l e
      | .bk e => .nx e
      | r => r) = _
    rw [lc]
theorem low129 : (gv P sg wfu 129).low = rn 127 := rfl
theorem law_code {sV : V} {h h1 h' : VO} {k : Int} {f8 rv : V} {q3 q4 q5 q6 : Sl} (x0 : rn 129 27 [.val sV] = .ok (.own h) []) (x1 : rn 129 36 [.val (.int 39)] = .ok (.v (.bl true)) []) (x2 : rn 129 28 [.own true h, .val (.int 40)] = .ok (.v (.int k)) [h1]) (x3 : rn 129 36 [.val (.int k)] = .ok (.v (.bl true)) [])
    (y1 : rn 127 30 [.val (.int 39), .val bareV] = .ok (.v rv) []) (y2 : rn 127 21 [.val rv, .val (.tup [.str [103], .tup [.tup [.str [97], .tup []]]])] = .exc 0 [.int 40] []) (y3 : rn 129 31 [.val (.int 8)] = .ok (.v f8) []) (y4 : rn 127 31 [.val (.int 8)] = .ok (.v f8) []) (y5 : rn 127 21 [.val (.tup [.str [102], .tup [bareV, f8]]), .val f8] = .exc 0 [.int 400] [])
    {R : List T} (hR : R = match f37.body with | [_, _, _, _, _, .for _ _ b, _] => b | _ => []) (z : forV (tgV (gv P sg wfu 129) (.name 3)) (xTs (gv P sg wfu 129) R) (rangeV 0 6) [.val sV, .own false h1, .val (.tup [.str [102], .tup [bareV, f8]]), .none, .none, .none, .none] = .nx [.val sV, .own false h', .val (.tup [.str [102], .tup [bareV, f8]]), q3, q4, q5, q6]) :
    rn 130 37 [.val sV] = .ok (.v (.bl true)) [] := by
  refine run_at (F := f37) rfl rfl ?_
  have t1 : eqV (.tup [.str manyX, .int 40]) (.tup [.str manyX, .int 40]) = some true := rfl
  have t2 : eqV (.tup [.str manyX, .int 400]) (.tup [.str manyX, .int 400]) = some true := rfl
  have s27 : sg 27 = [] := rfl
  subst hR
  simp [f37] at z
  simp [f37, varR, setS, s27, s28, s30, s31, s21, s36, x0, x1, x2, x3, low129, y1, y2, ptold, t1, y3, y4, y5, t2, z]
theorem law_ok (ns : List Int) (hl : ns.length ≤ 63) : rn 130 37 [.val (.lst (ns.map V.int))] = .ok (.v (.bl true)) [] := by
  obtain ⟨h, hh, x0⟩ := hand_spec 128 ns hl
  obtain ⟨k, h1, o1, k1, k2, x2⟩ := draw_spec 127 h hh 40 (by decide) (by decide)
  obtain ⟨k', rfl⟩ : ∃ j : Nat, k = j := ⟨k.toNat, by omega⟩
  have x1 := row_right 39 (by decide)
  have x3 := row_right k' (by omega)
  have y1 : rn 127 30 [.val (.int 39), .val bareV] = .ok (.v (rowT 39 .hole).v) [] := row_spec 126 39 .hole (by decide)
  have y3 : rn 129 31 [.val (.int 8)] = .ok (.v (fullT 7).v) [] := full_spec 128 8 (by decide) (by decide)
  have y4 : rn 127 31 [.val (.int 8)] = .ok (.v (fullT 7).v) [] := full_spec 126 8 (by decide) (by decide)
  have wo := row_wf hole_wf 39
  have g1 : (rowT 39 .hole).hgt = 40 := row_hgt .hole 39
  have z1 : (rowT 39 .hole).size = 40 := row_size .hole 39
  have n1 : (rowT 39 .hole).holes = 1 := row_holes .hole 39
  have wl : (Tr.node [103] [leaf]).wf ρ := row_wf leaf_wf 1
  have hp : (rowT 39 .hole).hp = [List.replicate 39 0] := row_hp .hole 39
  have ha : (rowT 39 .hole).at? (List.replicate 39 0) = some .hole := row_at .hole [] 39
  have hpu : Tr.put (List.replicate 39 0) (rowT 39 .hole) (.node [103] [leaf]) = rowT 39 (.node [103] [leaf]) := row_put .hole _ [] 39
  have wr : (rowT 39 (.node [103] [leaf])).wf ρ := row_wf wl 39
  have gr : (rowT 39 (.node [103] [leaf])).hgt = 41 := row_hgt _ 39
  have zr : (rowT 39 (.node [103] [leaf])).size = 41 := row_size _ 39
  have nr : (rowT 39 (.node [103] [leaf])).holes = 0 := row_holes _ 39
  have y2 : rn 127 21 [.val (rowT 39 .hole).v, .val (.tup [.str [103], .tup [.tup [.str [97], .tup []]]])] = .exc 0 [.int 40] [] := by
    have z := put_spec (wf := wfu) i20 i11 i12 i19 i17 i9 i10 i7 rfl i8 rfl rfl wo hp ha (t := .node [103] [leaf]) (by rw [hpu]; exact wr) 124 (by omega) (by rw [hpu]; omega) (by simp) (by omega) (by omega) (by rw [hpu]; omega)
    rw [hpu] at z
    have y : rn 127 21 [.val (rowT 39 .hole).v, .val (Tr.node [103] [leaf]).v] = sizeR 0 (rowT 39 (.node [103] [leaf])) := put_in_spec i21 i15 i14 rfl rfl rfl (n := 125) (surr_ok wo (by omega) (by omega) n1 122) (tree_ok wl (by decide) (by decide) rfl 122) z
    have nn := nodes_no nr
    unfold sizeR at y
    rw [if_neg (by omega), if_pos (by omega)] at y
    exact y
  have wf7 := full_wf 7
  have gf : (fullT 7).hgt = 8 := full_hgt 7
  have zf := full_size 7
  have hf := full_holes 7
  have pf := full_hp 7
  have y5 : rn 127 21 [.val (.tup [.str [102], .tup [bareV, (fullT 7).v]]), .val (fullT 7).v] = .exc 0 [.int 400] [] := by
    have z := raw_put_ok false 0 wf7 wf7 pf (by decide) (by omega) (by omega) (by omega) (by omega) 124 (by decide) (by decide)
    have y : rn 127 21 [.val (aroundT false 0 (fullT 7)).v, .val (fullT 7).v] = sizeR 0 (rowT 0 (fT false (fullT 7) (fullT 7))) :=
      put_in_spec i21 i15 i14 rfl rfl rfl (n := 125) (ar_surr false 0 wf7 hf (by unfold aroundT; rw [row_hgt, fT_hgt]; have : Tr.hole.hgt = 1 := rfl; omega) (by omega) 122) (tree_ok wf7 (by omega) (by omega) hf 122) z
    have sz : (rowT 0 (fT false (fullT 7) (fullT 7))).size = 1 + (fullT 7).size + (fullT 7).size := by rw [row_size, fT_size]; omega
    have hz : (rowT 0 (fT false (fullT 7) (fullT 7))).holes = 0 := by rw [row_holes, fT_holes, hf]
    have nn := nodes_no hz
    unfold sizeR at y
    rw [if_pos (by omega)] at y
    exact y
  obtain ⟨h', q3, q4, q5, q6, z⟩ := laps (q0 := .val (.lst (ns.map V.int))) (q2 := .val (.tup [.str [102], .tup [bareV, (fullT 7).v]])) rfl (rangeV 0 6) h1 .none .none .none .none o1 (.inl rfl) (.inl rfl) (.inl rfl) (.inl rfl)
  exact law_code x0 x1 x2 x3 y1 y2 y3 y4 y5 rfl z
end K
end
section
set_option Elab.async false
set_option linter.all false
set_option maxRecDepth 100000
set_option maxHeartbeats 0
namespace K
open PySem PD
abbrev depth : Nat := 130
theorem plain : ∀ (ns : List Int) (d : D) (S : DS), ns.length ≤ 63 → Script ns d S → sem lay.P depth lawF [d] S (fun d _ => d = .bl true) noE := PV.plain_of law_ok
end K
open PySem PySem.W PySem.Calls PyProof.Rows PD
theorem PySem.Challenge.cw_boughsums_k36_whole_great_surroundings_holds : PySem.Challenge.rw_boughsums_k36_whole_great_surroundings.Holds := by
  w_on; o_law
  refine HandSHeadRun.head_any (r := K.R) (q := view K.R.prog [K.lawAt]) (H := K.hk) (ob := K.ob) (M := 4000) (loose := K.names) (d := HandSHeadRun.topDef K.R.prog K.lawAt) (kwd := []) K.ob_eq
    (by kernel_rfl) (fun s => by kernel_rfl) K.run (by kernel_rfl) (by kernel_rfl) (by kernel_rfl) (by rfl) (by first | assumption | decide +kernel) (by decide +kernel) ⟨rfl, rfl, rfl, rfl, rfl, by decide +kernel⟩ ?hw ?hc
  case hw => w_witness2
  case hc =>
    refine LamX.walk_ofTsE (l := PySem.Challenge.rw_boughsums_k36_whole_great_surroundings) (n := 63) (k := K.depth + 62) (x := "script") (CX := fun w => L2.CX (PySem.Challenge.rw_boughsums_k36_whole_great_surroundings).prog w) rfl (by decide) (by kernel_rfl) ⟨rfl, by decide, by decide⟩ ?F ?G
    case F =>
      intro w mg fa h Y G hmg0
      obtain ⟨K1, KX, c⟩ := Y
      have hmg : mg K.f37.name = some (.ref fa) := by
        have e : (HandSHeadRun.topDef K.R.prog K.lawAt).name = K.f37.name := by kernel_rfl
        rw [← e]
        exact hmg0
      exact ⟨K1, KX, law_at KX G c K.fit (F := K.f37) (fl := K.lawF) rfl rfl hmg K.plain⟩
    case G =>
      intro w H s e s' h
      obtain ⟨_, _, _, _, _, _, _, _, _, _, _, _, z⟩ := h
      exact z
end
