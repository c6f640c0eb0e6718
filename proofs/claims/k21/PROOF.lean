import PyProof.Rows.All
import Wide.All
import OpenK.AllK
import Wide.FinOn
import Open.SpecLaws
import KE.OsGo
import HandS.ForSpec
import HandS.ForMost
import HandS.ForExc
import HandS.Strs
import HandS.Deep
import HandS.TupAny
import HandS.TupMul
import HandS.SortInts
import HandS.Conv
import HandS.Flow
import HandS.ExcInit
import HandS.TryMany
import HandS.IsInst
import HandS.Zip
import HandS.SetFor
import HandS.Walk
import HandS.FStr
import HandS.Style
import KE.DataMinMax
import KE.KTupSum
import KE.KExcSuper
import HandS.ExcSuper
import PyProof.RulesAs
import KE.KSortedM
import KE.GoesNew
import KE.RegKSuper
import PySem.Challenge.RW_foldproof_k21_whole_rods_in_a_round
set_option Elab.async false
set_option linter.all false
set_option maxRecDepth 100000
section
set_option Elab.async false
set_option linter.all false
set_option maxRecDepth 100000
/-! PXa: a small interpreter for the part of Python that the claims use: data, environments, expressions, statements. -/
namespace PX
open PySem

/-- frozen data -/
inductive D where
  | non
  | bl (b : Bool)
  | int (i : Int)
  | str (s : Str)
  | tup (ds : List D)
  | lst (ds : List D)
  | dct (ks : List D) (vs : List D)
  | set (ns : List Int)
  | ro (ds : List D)
  | obj (c : Nat) (ns : List Nat) (ds : List D)

/-- what one frame owns and may change -/
inductive Cell where
  | lst (ds : List D)
  | dct (ks : List D) (vs : List D)
  | obj (c : Nat) (ns : List Nat) (ds : List D)

def Cell.d : Cell → D
  | .lst ds => .lst ds
  | .dct ks vs => .dct ks vs
  | .obj c ns ds => .obj c ns ds

inductive Slot where
  | non
  | val (d : D)
  | own (c : Cell)
  | bor (c : Cell)

abbrev Env := List Slot

/-- an expression's outcome: data, a new object, or what a slot holds -/
inductive AV where
  | d (d : D)
  | new (c : Cell)
  | slot (i : Nat)

inductive R (α : Type) where
  | ok (a : α) (e : Env)
  | exc (c : Nat) (f : Nat) (d : D) (e : Env)
  | bad

abbrev M (α : Type) := Env → R α
@[inline] def ret {α : Type} (a : α) : M α := fun e => .ok a e
@[inline] def bnd {α β : Type} (m : M α) (f : α → M β) : M β := fun e => match m e with
  | .ok a e' => f a e'
  | .exc c n d e' => .exc c n d e'
  | .bad => .bad
@[inline] def bad {α : Type} : M α := fun _ => .bad
def ofO {α : Type} : Option α → M α
  | some a => ret a
  | none => bad

/-! ### equality of plain data -/
mutual
def D.plain : D → Bool
  | .non => true
  | .bl _ => true
  | .int _ => true
  | .str s => s.cps.all (· < 0x110000)
  | .tup ds => plainL ds
  | .lst ds => plainL ds
  | .dct _ _ => false
  | .set _ => false
  | .ro _ => false
  | .obj _ _ _ => false
def plainL : List D → Bool
  | [] => true
  | d :: ds => d.plain && plainL ds
end
mutual
def D.depth : D → Nat
  | .tup ds => depthL ds + 1
  | .lst ds => depthL ds + 1
  | _ => 0
def depthL : List D → Nat
  | [] => 0
  | d :: ds => max d.depth (depthL ds)
end
mutual
def D.pd : D → PyData
  | .non => .none
  | .bl b => .bool b
  | .int i => .int i
  | .str s => .str s
  | .tup ds => .tuple (pdL ds)
  | .lst ds => .list (pdL ds)
  | _ => .none
def pdL : List D → List PyData
  | [] => []
  | d :: ds => d.pd :: pdL ds
end
def b2i (b : Bool) : Int := if b then 1 else 0
mutual
/-- == on plain data -/
def deq : D → D → Bool
  | .non, .non => true
  | .bl a, .bl b => a == b
  | .bl a, .int j => b2i a == j
  | .int i, .bl b => i == b2i b
  | .int i, .int j => i == j
  | .str s, .str t => decide (s = t)
  | .tup xs, .tup ys => deqL xs ys
  | .lst xs, .lst ys => deqL xs ys
  | _, _ => false
def deqL : List D → List D → Bool
  | [], [] => true
  | x :: xs, y :: ys => deq x y && deqL xs ys
  | _, _ => false
end

/-! ### the machine's own primitives, on data -/
abbrev SZ : Nat := 1000000
inductive Bop where | add | sub | mul | mod | fdiv | pow
inductive Cop where | eq | ne | lt | le | gt | ge | isin | notin | is | isnot
inductive Bi where | len | list | tuple | int | all | any | sorted | set | min | max | sum | abs
inductive Bm where | append | pop | get | index
inductive Ty where | tuple | list | int | bool | str | cls (c : Nat)

def allInt : List D → Option (List Int)
  | [] => some []
  | .int i :: r => (allInt r).map (i :: ·)
  | _ :: _ => none
def allBl : List D → Option (List Bool)
  | [] => some []
  | .bl i :: r => (allBl r).map (i :: ·)
  | _ :: _ => none
def mulOk (i j : Int) : Bool := (decide (-(2 ^ 64) < i) && decide (i < 2 ^ 64)) || (decide (-(2 ^ 64) < j) && decide (j < 2 ^ 64))
def binD : Bop → D → D → Option AV
  | .add, .int i, .int j => some (.d (.int (i + j)))
  | .add, .str s, .str t => if s.length + t.length ≤ SZ then some (.d (.str (s ++ t))) else none
  | .add, .tup xs, .tup ys => if xs.length + ys.length ≤ SZ then some (.d (.tup (xs ++ ys))) else none
  | .add, .lst xs, .lst ys => if xs.length + ys.length ≤ SZ then some (.new (.lst (xs ++ ys))) else none
  | .sub, .int i, .int j => some (.d (.int (i - j)))
  | .mul, .int i, .int j => if mulOk i j then some (.d (.int (i * j))) else none
  | .mul, .lst xs, .int k => if 0 ≤ k ∧ k < 100000 ∧ xs.length * k.toNat ≤ SZ then some (.new (.lst (List.replicate k.toNat xs).flatten)) else none
  | .mul, .tup xs, .int k => if 2 ≤ k ∧ k ≤ 1000 ∧ xs.length ≤ 1000 ∧ 0 < xs.length then some (.d (.tup (List.replicate k.toNat xs).flatten)) else none
  | .mod, .int i, .int j => if j = 0 then none else some (.d (.int (i.fmod j)))
  | .fdiv, .int i, .int j => if j ≠ 0 ∧ j.natAbs < 1073741824 then some (.d (.int (i.fdiv j))) else none
  | .pow, .int i, .int j => if 0 ≤ j ∧ j ≤ 1000000 ∧ i.natAbs < 2 ^ 64 then some (.d (.int (i ^ j.toNat))) else none
  | _, _, _ => none
def okEq (x : D) : Bool := x.plain && decide (x.depth ≤ 32)
def inD (x : D) : List D → Bool
  | [] => false
  | y :: r => deq y x || inD x r
def cmpD : Cop → D → D → Option Bool
  | .eq, x, y => if okEq x && okEq y then some (deq x y) else none
  | .ne, x, y => if okEq x && okEq y then some (!deq x y) else none
  | .lt, .int i, .int j => some (decide (i < j))
  | .le, .int i, .int j => some (decide (i ≤ j))
  | .gt, .int i, .int j => some (decide (j < i))
  | .ge, .int i, .int j => some (decide (j ≤ i))
  | .isin, x, .tup ys => if okEq x && okEq (.tup ys) then some (inD x ys) else none
  | .isin, x, .lst ys => if okEq x && okEq (.lst ys) then some (inD x ys) else none
  | .notin, x, .tup ys => if okEq x && okEq (.tup ys) then some (!inD x ys) else none
  | .notin, x, .lst ys => if okEq x && okEq (.lst ys) then some (!inD x ys) else none
  | .is, x, .non => some (match x with | .non => true | _ => false)
  | .isnot, x, .non => some (match x with | .non => false | _ => true)
  | _, _, _ => none
def truD : D → Option Bool
  | .non => some false
  | .bl b => some b
  | .int i => some (i != 0)
  | .tup ds => some (!ds.isEmpty)
  | .lst ds => some (!ds.isEmpty)
  | _ => none
def ixN (n : Nat) (i : Int) : Option Nat := if 0 ≤ i then (if i < n then some i.toNat else none) else if -(n : Int) ≤ i then some (i + n).toNat else none
def keyOk : D → Bool
  | .int _ => true
  | .str _ => true
  | _ => false
def keyEq : D → D → Bool
  | .int i, .int j => i == j
  | .str s, .str t => decide (s = t)
  | _, _ => false
def lookK (k : D) : List D → List D → Option D
  | n :: ns, d :: ds => if keyEq n k then some d else lookK k ns ds
  | _, _ => none
def idxD : D → D → Option D
  | .tup ds, .int i => (ixN ds.length i).bind fun j => ds[j]?
  | .lst ds, .int i => (ixN ds.length i).bind fun j => ds[j]?
  | .dct ks vs, .int i => lookK (.int i) ks vs
  | .dct ks vs, .str i => lookK (.str i) ks vs
  | _, _ => none
/-- a slice's end, counted from either end -/
def sEnd (n d : Nat) : Option Int → Nat
  | none => d
  | some v => if v < 0 then (v + n).toNat else min v.toNat n
def cutD {α : Type} (xs : List α) (lo hi : Option Int) : List α := (xs.drop (sEnd xs.length 0 lo)).take (sEnd xs.length xs.length hi - sEnd xs.length 0 lo)
def slD : D → Option Int → Option Int → Option AV
  | .tup ds, lo, hi => some (.d (.tup (cutD ds lo hi)))
  | .lst ds, lo, hi => some (.new (.lst (cutD ds lo hi)))
  | _, _, _ => none
def revD : D → Option AV
  | .tup ds => some (.d (.tup ds.reverse))
  | .lst ds => some (.new (.lst ds.reverse))
  | _ => none
def insI (x : Int) : List Int → List Int
  | [] => [x]
  | y :: r => if x ≤ y then x :: y :: r else y :: insI x r
def sortI : List Int → List Int
  | [] => []
  | x :: r => insI x (sortI r)
/-- each once, ascending -/
def insU (x : Int) : List Int → List Int
  | [] => [x]
  | y :: r => if x < y then x :: y :: r else if x = y then y :: r else y :: insU x r
def sortU : List Int → List Int
  | [] => []
  | x :: r => insU x (sortU r)
def maxI (x : Int) (r : List Int) : Int := r.foldl max x
def minI (x : Int) (r : List Int) : Int := r.foldl min x
def biD : Bi → List D → Option AV
  | .len, [.tup ds] => some (.d (.int ds.length))
  | .len, [.lst ds] => some (.d (.int ds.length))
  | .list, [.tup ds] => some (.new (.lst ds))
  | .list, [.lst ds] => some (.new (.lst ds))
  | .list, [.ro ds] => some (.new (.lst ds))
  | .tuple, [.tup ds] => some (.d (.tup ds))
  | .tuple, [.lst ds] => some (.d (.tup ds))
  | .int, [.int i] => some (.d (.int i))
  | .int, [.bl b] => some (.d (.int (b2i b)))
  | .all, [.lst ds] => (allBl ds).map fun bs => .d (.bl (bs.all id))
  | .any, [.lst ds] => (allBl ds).map fun bs => .d (.bl (bs.any id))
  | .sorted, [.lst ds] => (allInt ds).map fun ns => .new (.lst ((sortI ns).map .int))
  | .sorted, [.set ns] => some (.new (.lst ((sortU ns).map .int)))
  | .set, [.lst ds] => (allInt ds).bind fun ns => if ns.length ≤ 4000 then some (.d (.set ns)) else none
  | .set, [.tup ds] => (allInt ds).bind fun ns => if ns.length ≤ 4000 then some (.d (.set ns)) else none
  | .max, [.lst ds] => (allInt ds).bind fun ns => match ns with | [] => none | x :: r => some (.d (.int (maxI x r)))
  | .max, [.tup ds] => (allInt ds).bind fun ns => match ns with | [] => none | x :: r => some (.d (.int (maxI x r)))
  | .max, [.int i, .int j] => some (.d (.int (if i < j then j else i)))
  | .min, [.lst ds] => (allInt ds).bind fun ns => match ns with | [] => none | x :: r => some (.d (.int (minI x r)))
  | .min, [.tup ds] => (allInt ds).bind fun ns => match ns with | [] => none | x :: r => some (.d (.int (minI x r)))
  | .min, [.int i, .int j] => some (.d (.int (if j < i then j else i)))
  | .sum, [.lst ds] => (allInt ds).map fun ns => .d (.int ns.sum)
  | .sum, [.tup ds] => (allInt ds).map fun ns => .d (.int ns.sum)
  | .abs, [.int i] => some (.d (.int (if i < 0 then -i else i)))
  | _, _ => none
def isTy : D → Ty → Option Bool
  | .tup _, .tuple => some true
  | .tup _, .list => some false
  | .tup _, .int => some false
  | .tup _, .bool => some false
  | .tup _, .str => some false
  | .lst _, .tuple => some false
  | .lst _, .list => some true
  | .lst _, .int => some false
  | .lst _, .bool => some false
  | .lst _, .str => some false
  | .int _, .tuple => some false
  | .int _, .list => some false
  | .int _, .int => some true
  | .int _, .bool => some false
  | .int _, .str => some false
  | .bl _, .tuple => some false
  | .bl _, .list => some false
  | .bl _, .int => some true
  | .bl _, .bool => some true
  | .bl _, .str => some false
  | .str _, .tuple => some false
  | .str _, .list => some false
  | .str _, .int => some false
  | .str _, .bool => some false
  | .str _, .str => some true
  | .non, .tuple => some false
  | .non, .list => some false
  | .non, .int => some false
  | .non, .bool => some false
  | .non, .str => some false
  | _, _ => none
def rngL (a b : Int) : List D := (List.range (b - a).toNat).map fun i => D.int (a + (i : Nat))
def rngDown (a b : Int) : List D := (List.range (a - b).toNat).map fun i => D.int (a - (i : Nat))
def zip2 : List D → List D → List D
  | x :: xs, y :: ys => .tup [x, y] :: zip2 xs ys
  | _, _ => []
def zip3 : List D → List D → List D → List D
  | x :: xs, y :: ys, z :: zs => .tup [x, y, z] :: zip3 xs ys zs
  | _, _, _ => []
def enumL (i : Int) : List D → List D
  | [] => []
  | x :: xs => .tup [.int i, x] :: enumL (i + 1) xs

/-! ### the text -/
/-- what a clause hands back: the field, a text and the field, a pair -/
inductive CF where
  | pl
  | pre (s : Str)
  | tag (k : Int)
/-- except C as n: return ..: the class among the errors, the slot of n, the field -/
structure Clz where
  c : Nat
  i : Nat
  f : Nat
  fm : CF
/-- an error class: its name, its one field -/
structure Ed where
  name : Str
  fld : Nat
def fmtD : D → Bool
  | .str s => decide (s.length ≤ 1000)
  | .int i => decide (i.natAbs.log2 < 1920) && decide ((toString i : Str).length ≤ 1000)
  | _ => false
def cfD : CF → D → Option D
  | .pl, d => some d
  | .pre s, .str t => if s.length + t.length ≤ SZ then some (.str (s ++ t)) else none
  | .pre _, _ => none
  | .tag k, d => some (.tup [.int k, d])
def pickC (n c : Nat) : List Clz → Option Clz
  | [] => none
  | q :: r => if c = n + q.c then some q else pickC n c r
mutual
inductive X where
  | var (i : Nat)
  | int (i : Int)
  | str (s : Str)
  | bl (b : Bool)
  | non
  | glob (x : Str) (d : D)
  | tup (es : Xs)
  | lst (es : Xs)
  | dct (ks vs : Xs)
  | bin (op : Bop) (a b : X)
  | neg (a : X)
  | not (a : X)
  | cmp (op : Cop) (a b : X)
  | cmp2 (o1 o2 : Cop) (a b c : X)
  | and (a b : X)
  | or (a b : X)
  | ite (c : Te) (a b : X)
  | idx (a i : X)
  | sl (a : X) (lo hi : Xo)
  | rev (a : X)
  | comp (own : List Nat) (tg : Tg) (it : It) (ifs : Tes) (elt : X)
  | call (f : Nat) (es : Xs)
  | mk (c : Nat) (es : Xs)
  | bi (b : Bi) (es : Xs)
  | rl (tup : Bool) (es : Xs)
  | isi (a : X) (t : Ty)
  | app (i : Nat) (e : X)
  | get (o : X) (es : Xs)
  | fld (o : X) (f : Nat)
inductive Xs where
  | nil
  | cons (x : X) (xs : Xs)
inductive Xo where
  | none
  | some (x : X)
inductive Te where
  | val (x : X)
  | not (t : Te)
  | and (ts : Tes)
  | or (ts : Tes)
  | cmp (op : Cop) (a b : X)
  | cmp2 (o1 o2 : Cop) (a b c : X)
inductive Tes where
  | nil
  | cons (t : Te) (ts : Tes)
inductive It where
  | seq (e : X)
  | rng (es : Xs)
  | enum (e : X)
  | zip (es : Xs)
  | items (e : X)
inductive Tg where
  | nm (i : Nat)
  | tup (ts : Tgs)
  | sub (i : Nat) (e : X)
  | fld (i : Nat) (f : Nat)
inductive Tgs where
  | nil
  | cons (t : Tg) (ts : Tgs)
end
mutual
inductive S where
  | asg (t : Tg) (e : X)
  | expr (e : X)
  | ret (e : X)
  | retN
  | ifs (c : Te) (a b : Ss)
  | fr (t : Tg) (it : It) (b : Ss)
  | wh (c : Te) (b : Ss)
  | brk
  | cont
  | pass
  | raise (c : Nat) (e : X)
  | tr (b : Ss) (cs : List Clz)
  | never
inductive Ss where
  | nil
  | cons (s : S) (r : Ss)
end

inductive Arg where
  | d (d : D)
  | c (c : Cell)
inductive Out where
  | d (d : D)
  | new (c : Cell)
inductive Res where
  | ok (o : Out) (outs : List (Option Cell))
  | exc (c f : Nat) (d : D) (outs : List (Option Cell))
  | bad
abbrev Cf := Nat → List Arg → Res
structure Fd where
  /-- stands in the module itself -/
  glob : Bool
  name : Str
  ps : List Str
  N : List Str
  refs : List Bool
  body : Ss
structure Cd where
  name : Str
  /-- __init__ among the functions -/
  init : Nat
  /-- methods, by name -/
  meths : List (Nat × Nat)
structure Tab where
  fns : List Fd
  cls : List Cd
  /-- names of fields and methods -/
  nms : List Str
  /-- whole numbers that the modules name -/
  globs : List (Str × Int)
  errs : List Ed := []

/-! ### that a text is what it is told to be -/
structure Sc where
  run : Scope
  wr : Scope
  N : List Str
def visB (sc : Sc) (x : Str) : Bool := match sc.run.names.lookup x with
  | some .local => true
  | some .cell => true
  | some .free => true
  | _ => false
def locB (sc : Sc) (x : Str) : Bool := match sc.wr.names.lookup x with
  | some .local => true
  | some .cell => true
  | _ => false
def glB (sc : Sc) (x : Str) : Bool := match sc.run.names.lookup x with
  | some .globalImplicit => true
  | _ => false
def nameB (x : Str) : Bool := !(x == ("__debug__" : Str)) && !(x == ("__classdict__" : Str)) && !(x == ("__name__" : Str))
def slotB (sc : Sc) (i : Nat) (x : Str) : Bool := decide (sc.N[i]? = some x) && nameB x
def bopB : Bop → Operator → Bool
  | .add, .Add => true
  | .sub, .Sub => true
  | .mul, .Mult => true
  | .mod, .Mod => true
  | .fdiv, .FloorDiv => true
  | .pow, .Pow => true
  | _, _ => false
def copB : Cop → CmpOp → Bool
  | .eq, .Eq => true
  | .ne, .NotEq => true
  | .lt, .Lt => true
  | .le, .LtE => true
  | .gt, .Gt => true
  | .ge, .GtE => true
  | .isin, .In => true
  | .notin, .NotIn => true
  | _, _ => false
def noSet : Expr → Bool
  | .Set .. => false
  | _ => true
def plainT : Expr → Bool
  | .UnaryOp .Not _ _ => false
  | .BoolOp .. => false
  | .IfExp .. => false
  | .Compare .. => false
  | _ => true
def noSlice : Expr → Bool
  | .Slice .. => false
  | _ => true
def noStar : Expr → Bool
  | .Starred .. => false
  | _ => true
def noSuper : Expr → Bool
  | .Call (.Name x _) [] [] _ => !(x == ("super" : Str))
  | _ => true
def biNm : Bi → Str
  | .len => "len"
  | .list => "list"
  | .tuple => "tuple"
  | .int => "int"
  | .all => "all"
  | .any => "any"
  | .sorted => "sorted"
  | .set => "set"
  | .min => "min"
  | .max => "max"
  | .sum => "sum"
  | .abs => "abs"
def tyNm : Ty → Str
  | .tuple => "tuple"
  | .list => "list"
  | .int => "int"
  | .bool => "bool"
  | .str => "str"
  | .cls _ => ""
def ownN (N : List Str) (own : List Nat) : List (Str × Nat) := own.map fun i => (N[i]?.getD "", i)
def lenG : Tgs → Nat
  | .nil => 0
  | .cons _ r => lenG r + 1
mutual
/-- no fields -/
def nmG : Tg → Bool
  | .nm _ => true
  | .tup ts => nmGs ts
  | .sub _ _ => true
  | .fld _ _ => false
def nmGs : Tgs → Bool
  | .nil => true
  | .cons t ts => nmG t && nmGs ts
end
mutual
/-- names of the block's own alone -/
def inOwn (own : List Nat) : Tg → Bool
  | .nm i => decide (i ∈ own)
  | .tup ts => inOwns own ts
  | _ => false
def inOwns (own : List Nat) : Tgs → Bool
  | .nil => true
  | .cons t ts => inOwn own t && inOwns own ts
end
section
variable (T : Tab)
mutual
def ckE (sc : Sc) : X → Expr → Bool
  | .var i, .Name x _ => slotB sc i x && visB sc x
  | .int i, .Constant (.int j) _ _ => i == j
  | .str s, .Constant (.str t) _ _ => decide (s = t)
  | .bl b, .Constant (.bool c) _ _ => b == c
  | .non, .Constant .none _ _ => true
  | .glob y (.int i), .Name x _ => decide (x = y) && nameB x && glB sc x && decide (T.globs.lookup x = some i)
  | .tup es, .Tuple xs _ _ => ckEs sc es xs
  | .lst es, .List xs _ => ckEs sc es xs
  | .dct .nil .nil, .Dict [] [] _ => true
  | .dct (.cons (.int i) .nil) (.cons (.int j) .nil), .Dict [some (.Constant (.int i2) _ _)] [.Constant (.int j2) _ _] _ => i == i2 && j == j2
  | .bin op a b, .BinOp x o y _ => bopB op o && ckE sc a x && ckE sc b y
  | .neg a, .UnaryOp .USub x _ => ckE sc a x
  | .not a, .UnaryOp .Not x _ => ckE sc a x
  | .cmp .is a .non, .Compare x [.Is] [.Constant .none _ _] _ => ckE sc a x
  | .cmp .isnot a .non, .Compare x [.IsNot] [.Constant .none _ _] _ => ckE sc a x
  | .cmp op a b, .Compare x [o] [y] _ => copB op o && noSet y && ckE sc a x && ckE sc b y
  | .cmp2 o1 o2 a b c, .Compare x [p1, p2] [y, z] _ => copB o1 p1 && copB o2 p2 && noSet y && noSet z && ckE sc a x && ckE sc b y && ckE sc c z
  | .and a b, .BoolOp .And (x :: y :: r) p => ckE sc a x && (match r with | [] => ckE sc b y | _ :: _ => ckE sc b (.BoolOp .And (y :: r) p))
  | .or a b, .BoolOp .Or (x :: y :: r) p => ckE sc a x && (match r with | [] => ckE sc b y | _ :: _ => ckE sc b (.BoolOp .Or (y :: r) p))
  | .ite c a b, .IfExp t x y _ => ckT sc c t && ckE sc a x && ckE sc b y
  | .idx a i, .Subscript x y _ => noSlice y && ckE sc a x && ckE sc i y
  | .sl a lo hi, .Subscript x (.Slice l h none _) _ => ckE sc a x && ckO sc lo l && ckO sc hi h
  | .rev a, .Subscript x (.Slice none none (some (.UnaryOp .USub (.Constant (.int 1) _ _) _)) _) _ => ckE sc a x
  | .comp own tg it ifs elt, .ListComp e [⟨t, i, c, 0⟩] scope _ => L2.blkC sc.N sc.run scope (ownN sc.N own) && ckI sc it i t && noSet i &&
      (let s2 : Sc := ⟨L2.relS scope sc.run, scope, sc.N⟩; ckG s2 tg t && ckTs s2 ifs c && decide (c.length ≤ 1) && ckE s2 elt e && inOwn own tg)
  | .call f es, .Call (.Name x _) xs [] _ => (match T.fns[f]? with | some fd => fd.glob && decide (fd.name = x) | none => false) && nameB x && glB sc x && ckEs sc es xs
  | .mk c es, .Call (.Name x _) xs [] _ => (match T.cls[c]? with | some cd => decide (cd.name = x) && decide (cd.init < T.fns.length) | none => false) && nameB x && glB sc x && ckEs sc es xs && !xs.isEmpty
  | .bi b es, .Call (.Name x _) xs [] _ => decide (biNm b = x) && glB sc x && ckEs sc es xs && !xs.isEmpty
  | .rl t es, .Call (.Name x _) [.Call (.Name y _) xs [] _] [] _ => decide (x = (if t then "tuple" else "list")) && decide (y = "range") && glB sc x && glB sc y && ckEs sc es xs && decide (1 ≤ xs.length) && decide (xs.length ≤ 2)
  | .isi a t, .Call (.Name x _) [y, .Name z _] [] _ => decide (x = "isinstance") && glB sc x && noStar y && ckE sc a y && decide (z = tyNm t) && glB sc z && (match t with | .cls _ => false | _ => true)
  | .app i e, .Call (.Attribute (.Name x _) m ap) [y] [] cp => slotB sc i x && visB sc x && decide (m = "append") && noStar y && ckE sc e y && (ap.endLine == cp.line)
  | .get o es, .Call (.Attribute x m ap) [y, z] [] cp => decide (m = "get") && ckE sc o x && ckEs sc es [y, z] && (ap.endLine == cp.line) && noSuper x
  | .fld o f, .Attribute x m _ => decide (T.nms[f]? = some m) && ckE sc o x && noSuper x
  | _, _ => false
def ckEs (sc : Sc) : Xs → List Expr → Bool
  | .nil, [] => true
  | .cons a r, x :: xs => ckE sc a x && noStar x && ckEs sc r xs
  | _, _ => false
def ckO (sc : Sc) : Xo → Option Expr → Bool
  | .none, none => true
  | .some a, some x => ckE sc a x
  | _, _ => false
def ckT (sc : Sc) : Te → Expr → Bool
  | .val a, x => plainT x && ckE sc a x
  | .not t, .UnaryOp .Not x _ => ckT sc t x
  | .and ts, .BoolOp .And xs _ => ckTs sc ts xs && !xs.isEmpty
  | .or ts, .BoolOp .Or xs _ => ckTs sc ts xs && !xs.isEmpty
  | .cmp .is a .non, .Compare x [.Is] [.Constant .none _ _] _ => ckE sc a x
  | .cmp .isnot a .non, .Compare x [.IsNot] [.Constant .none _ _] _ => ckE sc a x
  | .cmp op a b, .Compare x [o] [y] _ => copB op o && noSet y && ckE sc a x && ckE sc b y
  | .cmp2 o1 o2 a b c, .Compare x [p1, p2] [y, z] _ => copB o1 p1 && copB o2 p2 && noSet y && noSet z && ckE sc a x && ckE sc b y && ckE sc c z
  | _, _ => false
def ckTs (sc : Sc) : Tes → List Expr → Bool
  | .nil, [] => true
  | .cons t ts, x :: xs => ckT sc t x && ckTs sc ts xs
  | _, _ => false
/-- the last: the target -/
def ckI (sc : Sc) : It → Expr → Expr → Bool
  | .seq e, x, _ => ckE sc e x
  | .rng es, .Call (.Name y _) xs [] _, _ => decide (y = "range") && glB sc y && ckEs sc es xs && decide (1 ≤ xs.length) && decide (xs.length ≤ 3)
  | .enum e, .Call (.Name y _) [x] [] _, .Tuple .. => decide (y = "enumerate") && glB sc y && ckE sc e x && noStar x
  | .zip es, .Call (.Name y _) xs [] _, .Tuple .. => decide (y = "zip") && glB sc y && ckEs sc es xs && decide (2 ≤ xs.length) && decide (xs.length ≤ 3)
  | .items e, .Call (.Attribute x m ap) [] [] cp, .Tuple .. => decide (m = "items") && ckE sc e x && (ap.endLine == cp.line) && noSuper x
  | _, _, _ => false
def ckG (sc : Sc) : Tg → Expr → Bool
  | .nm i, .Name x _ => slotB sc i x && locB sc x
  | .tup ts, .Tuple xs _ _ => ckGs sc ts xs && nmGs ts
  | .sub i e, .Subscript (.Name x _) y _ => slotB sc i x && visB sc x && noSlice y && ckE sc e y
  | .fld i f, .Attribute (.Name x _) m _ => slotB sc i x && visB sc x && decide (T.nms[f]? = some m)
  | _, _ => false
def ckGs (sc : Sc) : Tgs → List Expr → Bool
  | .nil, [] => true
  | .cons t ts, x :: xs => ckG sc t x && noStar x && ckGs sc ts xs
  | _, _ => false
end
end

/-! ### slots -/
def rdSlot (e : Env) (i : Nat) : Option D := match e[i]? with
  | some (.val d) => some d
  | some (.own c) => some c.d
  | some (.bor c) => some c.d
  | _ => none
def view (e : Env) : AV → Option D
  | .d d => some d
  | .new c => some c.d
  | .slot i => rdSlot e i
/-- from now on nobody changes it -/
def frz (i : Nat) : M D := fun e => match e[i]? with
  | some (.val d) => .ok d e
  | some (.own c) => .ok c.d (e.set i (.val c.d))
  | _ => .bad
def toD : AV → M D
  | .d d => ret d
  | .new c => ret c.d
  | .slot i => frz i
/-- an operand: a new object is data at once -/
def oper : AV → M AV
  | .new c => ret (.d c.d)
  | a => ret a
def ofAV : Option AV → M AV
  | some a => ret a
  | none => bad
def viewM (a : AV) : M D := fun e => match view e a with
  | some d => .ok d e
  | none => .bad
/-- what is stored at a name -/
def putSlot (i : Nat) (a : AV) : M Unit := fun e => match e[i]? with
  | some (.bor _) => .bad
  | none => .bad
  | some _ => match a with
    | .d d => .ok () (e.set i (.val d))
    | .new c => .ok () (e.set i (.own c))
    | .slot j => match frz j e with
      | .ok d e' => .ok () (e'.set i (.val d))
      | .exc c f d e' => .exc c f d e'
      | .bad => .bad
/-- a change in place -/
def modSlot (i : Nat) (f : Cell → Option Cell) : M Unit := fun e => match e[i]? with
  | some (.own c) => (match f c with | some c' => .ok () (e.set i (.own c')) | none => .bad)
  | some (.bor c) => (match f c with | some c' => .ok () (e.set i (.bor c')) | none => .bad)
  | _ => .bad
def lookN (f : Nat) : List Nat → List D → Option D
  | n :: ns, d :: ds => if n = f then some d else lookN f ns ds
  | _, _ => none
def putN (f : Nat) (d : D) : List Nat → List D → List Nat × List D
  | n :: ns, x :: ds => if n = f then (n :: ns, d :: ds) else let r := putN f d ns ds; (n :: r.1, x :: r.2)
  | _, _ => ([f], [d])
def setK (k d : D) : List D → List D → List D
  | n :: ns, x :: ds => (if keyEq n k then d else x) :: setK k d ns ds
  | _, _ => []
def putK (k d : D) (ns ds : List D) : List D × List D := if ns.any (keyEq · k) then (ns, setK k d ns ds) else (ns ++ [k], ds ++ [d])
def subC (ix v : D) : Cell → Option Cell
  | .lst ds => (match ix with
    | .int i => (ixN ds.length i).map fun j => .lst (ds.set j v)
    | _ => none)
  | .dct ks vs => if keyOk ix && decide (ks.length < SZ) then (let r := putK ix v ks vs; some (.dct r.1 r.2)) else none
  | _ => none
def fldC (T : Tab) (f : Nat) (v : D) : Cell → Option Cell
  | .obj c ns ds => if ns.length < 900 ∧ c < T.cls.length then (let r := putN f v ns ds; some (.obj c r.1 r.2)) else none
  | _ => none
def fldD (T : Tab) (f : Nat) : D → Option D
  | .obj c ns ds => if c < T.cls.length then lookN f ns ds else none
  | _ => none
/-- the slot holds a list of this frame's (or handed by reference) -/
def lstAt (i : Nat) : M Unit := fun e => match e[i]? with
  | some (.own (.lst _)) => .ok () e
  | some (.bor (.lst _)) => .ok () e
  | _ => .bad
def isDct : D → M Unit
  | .dct _ _ => ret ()
  | _ => bad
def toArg (e : Env) : AV → Option Arg
  | .d d => some (.d d)
  | .new _ => none
  | .slot i => match e[i]? with
    | some (.val d) => some (.d d)
    | some (.own c) => some (.c c)
    | some (.bor c) => some (.c c)
    | _ => none
def toArgs (e : Env) : List AV → Option (List Arg)
  | [] => some []
  | a :: r => (toArg e a).bind fun x => (toArgs e r).map (x :: ·)
def isOwn (e : Env) (i : Nat) : Bool := match e[i]? with
  | some (.own _) => true
  | some (.bor _) => true
  | _ => false
/-- the slots handed by reference, each once -/
def refsOk (e : Env) : List AV → List Nat → Bool
  | [], _ => true
  | .slot i :: r, seen => if isOwn e i then !(seen.contains i) && refsOk e r (i :: seen) else refsOk e r seen
  | _ :: r, seen => refsOk e r seen
def setOut (e : Env) : AV → Option Cell → Option Env
  | .slot i, some c => (match e[i]? with
    | some (.own _) => some (e.set i (.own c))
    | some (.bor _) => some (e.set i (.bor c))
    | _ => none)
  | .slot i, none => if isOwn e i then none else some e
  | _, none => some e
  | _, some _ => none
def setOuts (e : Env) : List AV → List (Option Cell) → Option Env
  | [], [] => some e
  | a :: r, o :: os => (setOut e a o).bind fun e' => setOuts e' r os
  | _, _ => none
def callM (cf : Cf) (f : Nat) (as : List AV) : M AV := fun e =>
  if refsOk e as [] then
    match toArgs e as with
    | none => .bad
    | some args => match cf f args with
      | .ok o outs => (match setOuts e as outs with
        | none => .bad
        | some e' => .ok (match o with | .d d => .d d | .new c => .new c) e')
      | .exc c n d outs => (match setOuts e as outs with
        | none => .bad
        | some e' => .exc c n d e')
      | .bad => .bad
  else .bad

inductive Flow where
  | next
  | ret (a : AV)
  | brk
  | cont

/-! ### loops -/
def wipeE (own : List Nat) (e : Env) : Env := own.foldr (fun i e => e.set i .non) e
def plainSlot (e : Env) (i : Nat) : Bool := match e[i]? with
  | some .non => true
  | some (.val _) => true
  | _ => false
def back (own : List Nat) (e0 e : Env) : Env := own.foldr (fun i e => e.set i (e0[i]?.getD .non)) e
def compLoop (own : List Nat) (f : D → M (Option D)) : List D → List D → M (List D)
  | [], acc => ret acc
  | x :: xs, acc => fun e => match f x (wipeE own e) with
    | .ok none e' => compLoop own f xs acc e'
    | .ok (some d) e' => if acc.length < SZ then compLoop own f xs (acc ++ [d]) e' else .bad
    | .exc .. => .bad
    | .bad => .bad
def forLoop (asg : D → M Unit) (body : M Flow) : List D → M Flow
  | [] => ret .next
  | x :: xs => bnd (asg x) fun _ => bnd body fun
    | .next => forLoop asg body xs
    | .cont => forLoop asg body xs
    | .brk => ret .next
    | .ret a => ret (.ret a)
def whileLoop (test : M Bool) (body : M Flow) : Nat → M Flow
  | 0 => bad
  | n + 1 => bnd test fun t => if t then bnd body (fun
    | .next => whileLoop test body n
    | .cont => whileLoop test body n
    | .brk => ret .next
    | .ret a => ret (.ret a)) else ret .next
def FUEL : Nat := 100000

/-! ### running -/
section
variable (T : Tab) (cf : Cf)
def refsOf (f : Nat) : List Bool := match T.fns[f]? with
  | some fd => fd.refs
  | none => []
def setNm (i : Nat) (d : D) : M Unit := putSlot i (.d d)
@[inline] def opr (m : M AV) : M AV := bnd m oper
def binM (x : M AV) (y : M AV) (f : D → D → M β) : M β := bnd (opr x) fun a => bnd (opr y) fun b => bnd (viewM a) fun da => bnd (viewM b) fun db => f da db
def cmp2M (x y z : M AV) (o1 o2 : Cop) : M Bool := bnd (opr x) fun a => bnd (opr y) fun b => bnd (viewM a) fun da => bnd (viewM b) fun db => bnd (ofO (cmpD o1 da db)) fun r =>
  if r then bnd (opr z) fun c => bnd (viewM b) fun db => bnd (viewM c) fun dc => ofO (cmpD o2 db dc) else ret false
def unM (x : M AV) (f : D → M β) : M β := bnd (opr x) fun a => bnd (viewM a) f
def dataM (x : M AV) : M D := bnd x toD
def negD : D → M AV
  | .int i => ret (.d (.int (-i)))
  | _ => bad
def oneInt : D → M Int
  | .int i => ret i
  | _ => bad
def rdVar (i : Nat) : M AV := fun e => match e[i]? with
  | some (.val _) => .ok (.slot i) e
  | some (.own _) => .ok (.slot i) e
  | some (.bor _) => .ok (.slot i) e
  | _ => .bad
def viewsM : List AV → M (List D)
  | [] => ret []
  | a :: r => bnd (viewM a) fun d => bnd (viewsM r) fun ds => ret (d :: ds)
def rng2 : List D → M (Int × Int × Int)
  | [.int n] => ret (0, n, 1)
  | [.int a, .int b] => ret (a, b, 1)
  | [.int a, .int b, .int c] => ret (a, b, c)
  | _ => bad
def rngTwo : List D → M (Int × Int)
  | [.int n] => ret (0, n)
  | [.int a, .int b] => ret (a, b)
  | _ => bad
def small (a : Int) : Bool := decide (-(2 ^ 61) < a) && decide (a < 2 ^ 61)
def rngD (t : Int × Int × Int) : M (List D) := if small t.1 && small t.2.1 then (if t.2.2 = 1 then ret (rngL t.1 t.2.1) else if t.2.2 = -1 then ret (rngDown t.1 t.2.1) else bad) else bad
def seqD : D → M (List D)
  | .tup ds => ret ds
  | .lst ds => ret ds
  | .dct ks _ => ret ks
  | _ => bad
def itemsD : D → M (List D)
  | .dct ks vs => ret (zip2 ks vs)
  | _ => bad
def seqL : D → Option (List D)
  | .tup ds => some ds
  | .lst ds => some ds
  | _ => none
def zipD : List D → M (List D)
  | [x, y] => ofO ((seqL x).bind fun a => (seqL y).map fun b => zip2 a b)
  | [x, y, z] => ofO ((seqL x).bind fun a => (seqL y).bind fun b => (seqL z).map fun c => zip3 a b c)
  | _ => bad
def enumD : D → M (List D)
  | .tup ds => ret (enumL 0 ds)
  | .lst ds => ret (enumL 0 ds)
  | _ => bad
def mkM (c : Nat) (ds : List D) : M AV := match T.cls[c]? with
    | none => bad
    | some cd => fun e => match cf cd.init (.c (.obj c [] []) :: ds.map .d) with
      | .ok (.d .non) (some o :: outs) => if outs.all Option.isNone then .ok (.new o) e else .bad
      | .exc k n d (some _ :: outs) => if outs.all Option.isNone then .exc k n d e else .bad
      | _ => .bad
def appC (d : D) : Cell → Option Cell
  | .lst xs => if xs.length < SZ then some (.lst (xs ++ [d])) else none
  | _ => none
def lenXs : Xs → Nat
  | .nil => 0
  | .cons _ r => lenXs r + 1
def getD' : D → List D → M AV
  | .dct ks vs, [k, d] => if keyOk k then ret (.d ((lookK k ks vs).getD d)) else bad
  | _, _ => bad
mutual
def evA : X → M AV
  | .var i => rdVar i
  | .int i => ret (.d (.int i))
  | .str s => ret (.d (.str s))
  | .bl b => ret (.d (.bl b))
  | .non => ret (.d .non)
  | .glob _ d => ret (.d d)
  | .tup es => bnd (evL es) fun ds => if ds.length ≤ SZ then ret (.d (.tup ds)) else bad
  | .lst es => bnd (evL es) fun ds => if ds.length ≤ SZ then ret (.new (.lst ds)) else bad
  | .dct ks vs => bnd (evL ks) fun a => bnd (evL vs) fun b => if a.length = b.length ∧ a.length ≤ 1 ∧ a.all keyOk = true then ret (.new (.dct a b)) else bad
  | .bin op a b => binM (evA a) (evA b) fun x y => ofAV (binD op x y)
  | .neg a => unM (evA a) negD
  | .not a => unM (evA a) fun d => bnd (ofO (truD d)) fun t => ret (.d (.bl (!t)))
  | .cmp op a b => binM (evA a) (evA b) fun x y => bnd (ofO (cmpD op x y)) fun r => ret (.d (.bl r))
  | .cmp2 o1 o2 a b c => bnd (cmp2M (evA a) (evA b) (evA c) o1 o2) fun r => ret (.d (.bl r))
  | .and a b => bnd (opr (evA a)) fun x => bnd (viewM x) fun d => bnd (ofO (truD d)) fun t => if t then evA b else ret x
  | .or a b => bnd (opr (evA a)) fun x => bnd (viewM x) fun d => bnd (ofO (truD d)) fun t => if t then ret x else evA b
  | .ite c a b => bnd (evT c) fun t => if t then evA a else evA b
  | .idx a i => binM (evA a) (evA i) fun x y => bnd (ofO (idxD x y)) fun d => ret (.d d)
  | .sl a lo hi => bnd (opr (evA a)) fun x => bnd (evO lo) fun l => bnd (evO hi) fun h => bnd (viewM x) fun d => ofAV (slD d l h)
  | .rev a => unM (evA a) fun d => ofAV (revD d)
  | .comp own tg it ifs elt => bnd (evI it) fun xs => fun e =>
      if own.all (plainSlot e) then
        match compLoop own (fun x => bnd (evG tg x) fun _ => bnd (evAll ifs) fun t => if t then bnd (dataM (evA elt)) (fun d => ret (some d)) else ret none) xs [] e with
        | .ok ds e' => .ok (.new (.lst ds)) (back own e e')
        | .exc .. => .bad
        | .bad => .bad
      else .bad
  | .call f es => bnd (evAs es (refsOf T f)) fun as => callM cf f as
  | .mk c es => bnd (evL es) fun ds => mkM T cf c ds
  | .bi b es => bnd (evAs es [true, true, true]) fun as => bnd (viewsM as) fun ds => ofAV (biD b ds)
  | .rl t es => bnd (bnd (evL es) rngTwo) fun r => if small r.1 && small r.2 && decide ((r.2 - r.1).toNat ≤ SZ) then ret (if t then .d (.tup (rngL r.1 r.2)) else .new (.lst (rngL r.1 r.2))) else bad
  | .isi a t => unM (evA a) fun d => bnd (ofO (isTy d t)) fun r => ret (.d (.bl r))
  | .app i e => bnd (lstAt i) fun _ => bnd (dataM (evA e)) fun d => bnd (modSlot i (appC d)) fun _ => ret (.d .non)
  | .get o es => bnd (opr (evA o)) fun x => bnd (bnd (viewM x) isDct) fun _ => bnd (evL es) fun ds => bnd (viewM x) fun dd => getD' dd ds
  | .fld o f => unM (evA o) fun d => bnd (ofO (fldD T f d)) fun r => ret (.d r)
def evL : Xs → M (List D)
  | .nil => ret []
  | .cons x xs => bnd (dataM (evA x)) fun d => bnd (evL xs) fun ds => ret (d :: ds)
def evAs : Xs → List Bool → M (List AV)
  | .nil, _ => ret []
  | .cons x xs, r :: rs => bnd (if r then opr (evA x) else bnd (dataM (evA x)) fun d => ret (.d d)) fun a => bnd (evAs xs rs) fun as => ret (a :: as)
  | .cons _ _, [] => bad
def evO : Xo → M (Option Int)
  | .none => ret none
  | .some x => unM (evA x) fun d => bnd (oneInt d) fun i => ret (some i)
def evT : Te → M Bool
  | .val x => unM (evA x) fun d => ofO (truD d)
  | .not t => bnd (evT t) fun b => ret (!b)
  | .and ts => evAll ts
  | .or ts => evAny ts
  | .cmp op a b => binM (evA a) (evA b) fun x y => ofO (cmpD op x y)
  | .cmp2 o1 o2 a b c => cmp2M (evA a) (evA b) (evA c) o1 o2
def evAll : Tes → M Bool
  | .nil => ret true
  | .cons t ts => bnd (evT t) fun b => if b then evAll ts else ret false
def evAny : Tes → M Bool
  | .nil => ret false
  | .cons t ts => bnd (evT t) fun b => if b then ret true else evAny ts
def evI : It → M (List D)
  | .seq e => bnd (dataM (evA e)) seqD
  | .rng es => bnd (evL es) fun ds => bnd (rng2 ds) rngD
  | .enum e => bnd (dataM (evA e)) enumD
  | .zip es => bnd (bnd (evL es) fun ds => if ds.length = lenXs es then ret ds else bad) zipD
  | .items e => bnd (dataM (evA e)) itemsD
def evG : Tg → D → M Unit
  | .nm i, d => putSlot i (.d d)
  | .tup ts, .tup ds => if lenG ts = ds.length then evGs ts ds else bad
  | .sub i e, d => bnd (rdVar i) fun _ => bnd (unM (evA e) ret) fun ix => modSlot i (subC ix d)
  | .fld i f, d => modSlot i (fldC T f d)
  | _, _ => bad
def evGs : Tgs → List D → M Unit
  | .nil, [] => ret ()
  | .cons t ts, d :: ds => bnd (evG t d) fun _ => evGs ts ds
  | _, _ => bad
end
mutual
def evS : S → M Flow
  | .asg (.nm i) e => bnd (evA T cf e) fun a => bnd (putSlot i a) fun _ => ret .next
  | .asg t e => bnd (dataM (evA T cf e)) fun d => bnd (evG T cf t d) fun _ => ret .next
  | .expr e => bnd (evA T cf e) fun _ => ret .next
  | .ret e => bnd (evA T cf e) fun a => ret (.ret a)
  | .retN => ret (.ret (.d .non))
  | .ifs c a b => bnd (evT T cf c) fun t => if t then evSs a else evSs b
  | .fr t it b => bnd (evI T cf it) fun xs => forLoop (evG T cf t) (evSs b) xs
  | .wh c b => whileLoop (evT T cf c) (evSs b) FUEL
  | .brk => ret .brk
  | .cont => ret .cont
  | .pass => ret .next
  | .raise c e => bnd (dataM (evA T cf e)) fun d => fun e => match T.errs[c]? with
    | some ed => if fmtD d then .exc (T.cls.length + c) ed.fld d e else .bad
    | none => .bad
  | .tr b cs => fun e => match evSs b e with
    | .ok fl e' => .ok fl e'
    | .exc c f d e' => if T.cls.length ≤ c ∧ c < T.cls.length + T.errs.length then (match pickC T.cls.length c cs with
      | none => .exc c f d e'
      | some q => if f = q.f ∧ plainSlot e' q.i = true then (match cfD q.fm d with
        | some r => .ok (.ret (.d r)) (e'.set q.i .non)
        | none => .bad) else .bad) else .bad
    | .bad => .bad
  | .never => bad
def evSs : Ss → M Flow
  | .nil => ret .next
  | .cons s r => bnd (evS s) fun
    | .next => evSs r
    | f => ret f
end
end
/-! ### a def -/
def args0 : List Arg → Env
  | [] => []
  | .d d :: r => .val d :: args0 r
  | .c c :: r => .bor c :: args0 r
def outsOf : List Arg → Env → Option (List (Option Cell))
  | [], _ => some []
  | .d _ :: r, _ :: e => (outsOf r e).map (none :: ·)
  | .c _ :: r, .bor c :: e => (outsOf r e).map (some c :: ·)
  | _, _ => none
def outOf (e : Env) : AV → Option Out
  | .d d => some (.d d)
  | .new c => some (.new c)
  | .slot i => match e[i]? with
    | some (.val d) => some (.d d)
    | some (.own c) => some (.new c)
    | _ => none
def runFd (T : Tab) (cf : Cf) (fd : Fd) (args : List Arg) : Res :=
  if args.length = fd.ps.length then
    match evSs T cf fd.body (args0 args ++ List.replicate (fd.N.length - args.length) .non) with
    | .ok fl e => (match outsOf args e with
      | none => .bad
      | some outs => match fl with
        | .next => .ok (.d .non) outs
        | .ret a => (match outOf e a with
          | some o => .ok o outs
          | none => .bad)
        | _ => .bad)
    | .exc c f d e => (match outsOf args e with
      | none => .bad
      | some outs => .exc c f d outs)
    | .bad => .bad
  else .bad
/-- a call at a level -/
def callT (T : Tab) : Nat → Cf
  | 0 => fun _ _ => .bad
  | k + 1 => fun f args => match T.fns[f]? with
    | none => .bad
    | some fd => runFd T (callT T k) fd args
end PX

end
section
set_option Elab.async false
set_option linter.all false
set_option maxRecDepth 100000
/-! PXb: how data lies in the heap; what a state of the interpreter says of a state of the machine. -/
namespace PX
open PySem PySem.Spec PyProof.Rows L2

/-- what stands fixed: the written part, the world, classes, names -/
structure Ct where
  P : Program
  w : World
  K : PySem.W.Frag
  mg : Str → Option Value
  base : Heap
  cA : Nat → Addr
  fA : Nat → Addr
  nm : Nat → Str

def keyD : Key → D
  | .inl i => .int i
  | .inr s => .str s

section
variable (G : Ct) (F : Hp)
mutual
inductive Rep : V → D → Prop
  | non : Rep .non .non
  | bl (b : Bool) : Rep (.bl b) (.bl b)
  | int (i : Int) : Rep (.int i) (.int i)
  | str (s : Str) : Rep (.str s) (.str s)
  | tup {a : Addr} {vs : List V} {ds : List D} (h : SqT G.K F a vs) (r : RepL vs ds) : Rep (.ref a) (.tup ds)
  | lst {a : Addr} {vs : List V} {ds : List D} (h : F a = some (.lst vs)) (r : RepL vs ds) : Rep (.ref a) (.lst ds)
  | ro {a : Addr} {vs : List V} {ds : List D} (h : SqL G.K F a vs) (r : RepL vs ds) : Rep (.ref a) (.ro ds)
  | dct {a : Addr} {ob : Obj} {kvs : List (Key × V)} {ks vs : List D} (h : F a = some (.frz ob (.dK kvs))) (r : RepK kvs ks vs) : Rep (.ref a) (.dct ks vs)
  | set {a : Addr} {S : Int → Bool} {n : Nat} {ns : List Int} (h : F a = some (SetO G.w a S n)) (m : ∀ k, S k = true ↔ k ∈ ns) : Rep (.ref a) (.set ns)
  | obj {a dx : Addr} {c : Nat} {fs : List (Str × V)} {ns : List Nat} {ds : List D} (h : F a = some (.ins (G.cA c) dx fs)) (r : RepF fs ns ds) : Rep (.ref a) (.obj c ns ds)
inductive RepL : List V → List D → Prop
  | nil : RepL [] []
  | cons {v : V} {d : D} {vs : List V} {ds : List D} (h : Rep v d) (r : RepL vs ds) : RepL (v :: vs) (d :: ds)
inductive RepK : List (Key × V) → List D → List D → Prop
  | nil : RepK [] [] []
  | cons {k : Key} {v : V} {d : D} {kvs : List (Key × V)} {ks vs : List D} (h : Rep v d) (r : RepK kvs ks vs) : RepK ((k, v) :: kvs) (keyD k :: ks) (d :: vs)
inductive RepF : List (Str × V) → List Nat → List D → Prop
  | nil : RepF [] [] []
  | cons {n : Nat} {v : V} {d : D} {fs : List (Str × V)} {ns : List Nat} {ds : List D} (h : Rep v d) (r : RepF fs ns ds) : RepF ((G.nm n, v) :: fs) (n :: ns) (d :: ds)
end
end

section
variable {G : Ct} {F F' H H' : Hp}
theorem Same.sqt {a : Addr} {xs : List V} (e : Same F F') (h : SqT G.K F a xs) : SqT G.K F' a xs := by
  rcases h with (h | ⟨o, h⟩) | h
  · exact .inl (.inl (e _ _ h))
  · exact .inl (.inr ⟨o, e _ _ h⟩)
  · exact .inr h
mutual
theorem Rep.mono (e : Same F F') : ∀ {v : V} {d : D}, Rep G F v d → Rep G F' v d
  | _, _, .non => .non
  | _, _, .bl b => .bl b
  | _, _, .int i => .int i
  | _, _, .str s => .str s
  | _, _, .tup h r => .tup (Same.sqt e h) (RepL.mono e r)
  | _, _, .lst h r => .lst (e _ _ h) (RepL.mono e r)
  | _, _, .ro h r => .ro (Same.seq e h) (RepL.mono e r)
  | _, _, .dct h r => .dct (e _ _ h) (RepK.mono e r)
  | _, _, .set h m => .set (e _ _ h) m
  | _, _, .obj h r => .obj (e _ _ h) (RepF.mono e r)
theorem RepL.mono (e : Same F F') : ∀ {vs : List V} {ds : List D}, RepL G F vs ds → RepL G F' vs ds
  | _, _, .nil => .nil
  | _, _, .cons h r => .cons (Rep.mono e h) (RepL.mono e r)
theorem RepK.mono (e : Same F F') : ∀ {kvs : List (Key × V)} {ks vs : List D}, RepK G F kvs ks vs → RepK G F' kvs ks vs
  | _, _, _, .nil => .nil
  | _, _, _, .cons h r => .cons (Rep.mono e h) (RepK.mono e r)
theorem RepF.mono (e : Same F F') : ∀ {fs : List (Str × V)} {ns : List Nat} {ds : List D}, RepF G F fs ns ds → RepF G F' fs ns ds
  | _, _, _, .nil => .nil
  | _, _, _, .cons h r => .cons (Rep.mono e h) (RepF.mono e r)
end
end

def CellOk (G : Ct) (F H : Hp) (a : Addr) : Cell → Prop
  | .lst ds => ∃ vs, H a = some (.lst vs) ∧ RepL G F vs ds
  | .dct ks ds => ∃ kvs, H a = some (.dK kvs) ∧ RepK G F kvs ks ds
  | .obj c ns ds => ∃ dx fs, H a = some (.ins (G.cA c) dx fs) ∧ RepF G F fs ns ds
theorem CellOk.mono {G : Ct} {F F' H : Hp} {a : Addr} {c : Cell} (e : Same F F') (h : CellOk G F H a c) : CellOk G F' H a c := by
  cases c with
  | lst ds => obtain ⟨vs, h, r⟩ := h; exact ⟨vs, h, r.mono e⟩
  | dct ks ds => obtain ⟨vs, h, r⟩ := h; exact ⟨vs, h, r.mono e⟩
  | obj c ns ds => obtain ⟨dx, fs, h, r⟩ := h; exact ⟨dx, fs, h, r.mono e⟩
theorem CellOk.at {G : Ct} {F H H' : Hp} {a : Addr} {c : Cell} (e : H' a = H a) (h : CellOk G F H a c) : CellOk G F H' a c := by
  cases c with
  | lst ds => obtain ⟨vs, h, r⟩ := h; exact ⟨vs, e.trans h, r⟩
  | dct ks ds => obtain ⟨vs, h, r⟩ := h; exact ⟨vs, e.trans h, r⟩
  | obj c ns ds => obtain ⟨dx, fs, h, r⟩ := h; exact ⟨dx, fs, e.trans h, r⟩
theorem CellOk.there {G : Ct} {F H : Hp} {a : Addr} {c : Cell} (h : CellOk G F H a c) : ∃ o, H a = some o := by
  cases c with
  | lst ds => obtain ⟨vs, h, r⟩ := h; exact ⟨_, h⟩
  | dct ks ds => obtain ⟨vs, h, r⟩ := h; exact ⟨_, h⟩
  | obj c ns ds => obtain ⟨dx, fs, h, r⟩ := h; exact ⟨_, h⟩
/-- how an object stands that nobody changes any more: a dict is locked -/
def Frz (oh fo : HO) : Prop := ((∀ kvs, oh ≠ .dK kvs) ∧ fo = oh) ∨ ∃ kvs ob, oh = .dK kvs ∧ fo = .frz ob (.dK kvs)
/-- the object that the cell is, frozen -/
theorem CellOk.rep {G : Ct} {F H : Hp} {a : Addr} {c : Cell} {o fo : HO} (h : CellOk G F H a c) (e : F a = some fo) (eh : H a = some o) (fz : Frz o fo) : Rep G F (.ref a) c.d := by
  cases c with
  | lst ds =>
    obtain ⟨vs, h, r⟩ := h; rw [eh] at h
    cases h
    rcases fz with ⟨_, rfl⟩ | ⟨_, _, z, _⟩
    · exact .lst e r
    · cases z
  | dct ks ds =>
    obtain ⟨vs, h, r⟩ := h; rw [eh] at h
    cases h
    rcases fz with ⟨z, _⟩ | ⟨_, _, z, rfl⟩
    · exact absurd rfl (z _)
    · cases z; exact .dct e r
  | obj c ns ds =>
    obtain ⟨dx, fs, h, r⟩ := h; rw [eh] at h
    cases h
    rcases fz with ⟨_, rfl⟩ | ⟨_, _, z, _⟩
    · exact .obj e r
    · cases z

/-- where a frame began: the frozen part, the heap, what it was handed by reference -/
structure Bs where
  F0 : Hp
  H0 : Hp
  adr : Nat → Option Addr
  live : ∀ i a, adr i = some a → ∃ o, H0 a = some o

def SlotOk (G : Ct) (B : Bs) (F H : Hp) (i : Nat) (sv : Option (Option V)) : Slot → Prop
  | .non => True
  | .val d => ∃ v, sv = some (some v) ∧ Rep G F v d
  | .own c => ∃ a, sv = some (some (.ref a)) ∧ F a = none ∧ B.H0 a = none ∧ CellOk G F H a c
  | .bor c => ∃ a, sv = some (some (.ref a)) ∧ F a = none ∧ B.adr i = some a ∧ CellOk G F H a c
def ownAt (e : Env) (σ : L2.St) (i : Nat) (a : Addr) : Prop := isOwn e i = true ∧ σ[i]? = some (some (.ref a))

structure Sat (G : Ct) (B : Bs) (F : Hp) (e : Env) (σ : L2.St) (H : Hp) : Prop where
  sub : Same F H
  f0 : Same B.F0 F
  frm : ∀ b o, B.H0 b = some o → (∀ i, B.adr i ≠ some b) → H b = some o
  liv : ∀ b o, B.H0 b = some o → ∃ o', H b = some o'
  new : ∀ b o, F b = some o → B.F0 b = some o ∨ B.H0 b = none
  slot : ∀ i s, e[i]? = some s → SlotOk G B F H i σ[i]? s
  apart : ∀ i j a, ownAt e σ i a → ownAt e σ j a → i = j
  len : e.length = σ.length

def RepA (G : Ct) (B : Bs) (F : Hp) (e : Env) (σ : L2.St) (H : Hp) (v : V) : AV → Prop
  | .d d => Rep G F v d
  | .slot i => σ[i]? = some (some v)
  | .new c => ∃ a, v = .ref a ∧ F a = none ∧ B.H0 a = none ∧ CellOk G F H a c ∧ ∀ i, ¬ ownAt e σ i a
/-- what may be read now -/
def RepH (G : Ct) (F H : Hp) (v : V) (d : D) : Prop := Rep G F v d ∨ ∃ a c, v = .ref a ∧ d = c.d ∧ CellOk G F H a c

section
variable {G : Ct} {B : Bs} {F F' H H' : Hp} {e e' : Env} {σ : L2.St} {v : V} {d : D} {a : Addr} {o : HO} {i : Nat} {c : Cell}
theorem same_upd {H : Hp} {p : Addr} {o : HO} (h : H p = none) : Same H (upd H p o) := fun b x e => by
  rw [upd_ne (ne_of_none e h)]
  exact e
theorem SlotOk.keep {s : Slot} {sv : Option (Option V)} (eF : Same F F') (k : ∀ a, F a = none → (∃ o, H a = some o) → F' a = none ∧ H' a = H a) (h : SlotOk G B F H i sv s) : SlotOk G B F' H' i sv s := by
  cases s with
  | non => trivial
  | val d => obtain ⟨v, e, r⟩ := h; exact ⟨v, e, r.mono eF⟩
  | own c =>
    obtain ⟨a, e, n, b, r⟩ := h
    obtain ⟨n', eh⟩ := k a n r.there
    exact ⟨a, e, n', b, (r.mono eF).at eh⟩
  | bor c =>
    obtain ⟨a, e, n, b, r⟩ := h
    obtain ⟨n', eh⟩ := k a n r.there
    exact ⟨a, e, n', b, (r.mono eF).at eh⟩
/-- an own slot's address -/
theorem Sat.ownSlot (S : Sat G B F e σ H) (h : isOwn e i = true) : ∃ a c, ownAt e σ i a ∧ F a = none ∧ CellOk G F H a c ∧ rdSlot e i = some c.d ∧ (e[i]? = some (.own c) ∨ e[i]? = some (.bor c)) := by
  unfold isOwn at h
  cases es : e[i]? with
  | none => rw [es] at h; cases h
  | some s =>
    rw [es] at h
    have q := S.slot i s es
    cases s with
    | non => cases h
    | val d => cases h
    | own c =>
      obtain ⟨a, e1, n, b, r⟩ := q
      exact ⟨a, c, ⟨by unfold isOwn; rw [es], e1⟩, n, r, by unfold rdSlot; rw [es], .inl rfl⟩
    | bor c =>
      obtain ⟨a, e1, n, b, r⟩ := q
      exact ⟨a, c, ⟨by unfold isOwn; rw [es], e1⟩, n, r, by unfold rdSlot; rw [es], .inr rfl⟩
theorem Sat.ownLive (S : Sat G B F e σ H) (h : ownAt e σ i a) : F a = none ∧ ∃ o, H a = some o := by
  obtain ⟨b, c, h', n, r, _⟩ := S.ownSlot h.1
  have : a = b := by
    have := h.2.symm.trans h'.2
    simpa using this
  subst this
  exact ⟨n, r.there⟩
/-- a new object that nobody reads yet -/
theorem Sat.laid (S : Sat G B F e σ H) (h : H a = none) : Sat G B F e σ (upd H a o) where
  sub := S.sub.trans (same_upd h)
  f0 := S.f0
  frm := fun b o' h1 h2 => same_upd h b o' (S.frm b o' h1 h2)
  liv := fun b o' h1 => let ⟨q, hq⟩ := S.liv b o' h1; ⟨q, same_upd h b q hq⟩
  new := S.new
  slot := fun i s es => (S.slot i s es).keep (Same.refl F) fun b hb ⟨q, hq⟩ => ⟨hb, upd_ne (ne_of_none hq h)⟩
  apart := S.apart
  len := S.len
/-- it is frozen -/
theorem Sat.frozen {fo : HO} (S : Sat G B F e σ H) (h : H a = some o) (hF : F a = none) (h0 : B.H0 a = none) (hn : ∀ i, ¬ ownAt e σ i a) : Sat G B (upd F a fo) e σ (upd H a fo) where
  sub := fun b x hb => by
    by_cases q : b = a
    · subst q; rw [upd_same] at hb ⊢; exact hb
    · rw [upd_ne q] at hb ⊢; exact S.sub b x hb
  f0 := S.f0.trans (same_upd hF)
  frm := fun b x h1 h2 => by
    have q : b ≠ a := fun z => by rw [z, h0] at h1; cases h1
    rw [upd_ne q]; exact S.frm b x h1 h2
  liv := fun b x h1 => by
    by_cases q : b = a
    · subst q; exact ⟨fo, upd_same⟩
    · rw [upd_ne q]; exact S.liv b x h1
  new := fun b x hb => by
    by_cases q : b = a
    · subst q; exact .inr h0
    · rw [upd_ne q] at hb; exact S.new b x hb
  slot := fun i s es => by
    have q := S.slot i s es
    have eF := same_upd (o := fo) hF
    cases s with
    | non => trivial
    | val d => obtain ⟨v, e1, r⟩ := q; exact ⟨v, e1, r.mono eF⟩
    | own c =>
      obtain ⟨b, e1, n, b0, r⟩ := q
      have ne : b ≠ a := fun z => hn i ⟨by unfold isOwn; rw [es], by rw [← z]; exact e1⟩
      exact ⟨b, e1, by rw [upd_ne ne]; exact n, b0, (r.mono eF).at (upd_ne ne)⟩
    | bor c =>
      obtain ⟨b, e1, n, b0, r⟩ := q
      have ne : b ≠ a := fun z => hn i ⟨by unfold isOwn; rw [es], by rw [← z]; exact e1⟩
      exact ⟨b, e1, by rw [upd_ne ne]; exact n, b0, (r.mono eF).at (upd_ne ne)⟩
  apart := S.apart
  len := S.len
theorem Sat.base0 (S : Sat G B F e σ H) (h : H a = none) : B.H0 a = none := by
  cases q : B.H0 a with
  | none => rfl
  | some o => obtain ⟨o', h'⟩ := S.liv a o q; rw [h] at h'; cases h'
theorem Sat.free (S : Sat G B F e σ H) (h : H a = none) : F a = none := by
  cases q : F a with
  | none => rfl
  | some o => rw [S.sub a o q] at h; cases h
theorem Sat.notOwn (S : Sat G B F e σ H) (h : H a = none) : ∀ i, ¬ ownAt e σ i a := fun i hi => by
  obtain ⟨_, o, ho⟩ := S.ownLive hi
  rw [h] at ho; cases ho
/-- a new object, frozen at once -/
theorem Sat.fresh (S : Sat G B F e σ H) (h : H a = none) : Sat G B (upd F a o) e σ (upd H a o) ∧ Same F (upd F a o) :=
  ⟨by
    have q := (S.laid (o := o) h).frozen (fo := o) upd_same (S.free h) (S.base0 h) fun i hi => S.notOwn h i hi
    rw [upd_upd] at q
    exact q, same_upd (S.free h)⟩
/-- a slot is frozen -/
theorem isOwn_set_val {e : Env} {i j : Nat} {d : D} (h : isOwn (e.set i (.val d)) j = true) : isOwn e j = true ∧ j ≠ i := by
  unfold isOwn at h ⊢
  by_cases q : j = i
  · subst q
    by_cases hl : j < e.length
    · rw [List.getElem?_set_self hl] at h; cases h
    · rw [List.getElem?_eq_none (by rw [List.length_set]; omega)] at h; cases h
  · rw [List.getElem?_set_ne (Ne.symm q)] at h
    exact ⟨h, q⟩
theorem Sat.frz (S : Sat G B F e σ H) {c : Cell} (h : e[i]? = some (.own c)) : ∃ a oh, σ[i]? = some (some (.ref a)) ∧ H a = some oh ∧ F a = none ∧ ∀ fo, Frz oh fo → Sat G B (upd F a fo) (e.set i (.val c.d)) σ (upd H a fo) ∧ Rep G (upd F a fo) (.ref a) c.d := by
  obtain ⟨a, e1, n, b0, r⟩ := S.slot i _ h
  obtain ⟨oh, ho⟩ := r.there
  refine ⟨a, oh, e1, ho, n, fun fo fz => ?_⟩
  have eF : Same F (upd F a fo) := same_upd n
  have me : ownAt e σ i a := ⟨by unfold isOwn; rw [h], e1⟩
  have rp : Rep G (upd F a fo) (.ref a) c.d := (r.mono eF).rep upd_same ho fz
  refine ⟨⟨fun b x hb => ?_, S.f0.trans eF, fun b x h1 h2 => ?_, fun b x h1 => ?_, fun b x hb => ?_, fun j s es => ?_, fun j k b hj hk => ?_, ?_⟩, rp⟩
  · by_cases q : b = a
    · subst q; rw [upd_same] at hb ⊢; exact hb
    · rw [upd_ne q] at hb ⊢; exact S.sub b x hb
  · have q : b ≠ a := fun z => by rw [z, b0] at h1; cases h1
    rw [upd_ne q]; exact S.frm b x h1 h2
  · by_cases q : b = a
    · subst q; exact ⟨fo, upd_same⟩
    · rw [upd_ne q]; exact S.liv b x h1
  · by_cases q : b = a
    · subst q; exact .inr b0
    · rw [upd_ne q] at hb; exact S.new b x hb
  · by_cases q : j = i
    · subst q
      have hl : j < e.length := (List.getElem?_eq_some_iff.mp h).1
      rw [List.getElem?_set_self hl] at es
      cases es
      exact ⟨_, e1, rp⟩
    · rw [List.getElem?_set_ne (Ne.symm q)] at es
      have qs := S.slot j s es
      cases s with
      | non => trivial
      | val d => obtain ⟨v, e2, r2⟩ := qs; exact ⟨v, e2, r2.mono eF⟩
      | own c2 =>
        obtain ⟨b, e2, n2, b2, r2⟩ := qs
        have ne : b ≠ a := fun z => q (S.apart j i a ⟨by unfold isOwn; rw [es], by rw [← z]; exact e2⟩ me)
        exact ⟨b, e2, by rw [upd_ne ne]; exact n2, b2, (r2.mono eF).at (upd_ne ne)⟩
      | bor c2 =>
        obtain ⟨b, e2, n2, b2, r2⟩ := qs
        have ne : b ≠ a := fun z => q (S.apart j i a ⟨by unfold isOwn; rw [es], by rw [← z]; exact e2⟩ me)
        exact ⟨b, e2, by rw [upd_ne ne]; exact n2, b2, (r2.mono eF).at (upd_ne ne)⟩
  · exact S.apart j k b ⟨(isOwn_set_val hj.1).1, hj.2⟩ ⟨(isOwn_set_val hk.1).1, hk.2⟩
  · rw [List.length_set]; exact S.len
theorem isOwn_set_ne {e : Env} {i j : Nat} {s : Slot} (q : j ≠ i) : isOwn (e.set i s) j = isOwn e j := by
  unfold isOwn
  rw [List.getElem?_set_ne (Ne.symm q)]
/-- data is stored at a name -/
theorem Sat.putD (S : Sat G B F e σ H) {s : Slot} (h : e[i]? = some s) (nb : ∀ c, s ≠ .bor c) (r : Rep G F v d) : Sat G B F (e.set i (.val d)) (σ.set i (some v)) H := by
  have hl : i < e.length := (List.getElem?_eq_some_iff.mp h).1
  have hl2 : i < σ.length := by rw [← S.len]; exact hl
  refine ⟨S.sub, S.f0, S.frm, S.liv, S.new, fun j s' es => ?_, fun j k b hj hk => ?_, by rw [List.length_set, List.length_set]; exact S.len⟩
  · by_cases q : j = i
    · subst q
      rw [List.getElem?_set_self hl] at es
      cases es
      exact ⟨v, List.getElem?_set_self hl2, r⟩
    · rw [List.getElem?_set_ne (Ne.symm q)] at es
      rw [List.getElem?_set_ne (Ne.symm q)]
      exact S.slot j s' es
  · obtain ⟨h1, h2⟩ := isOwn_set_val hj.1
    obtain ⟨h3, h4⟩ := isOwn_set_val hk.1
    refine S.apart j k b ⟨h1, ?_⟩ ⟨h3, ?_⟩
    · have := hj.2; rwa [List.getElem?_set_ne (Ne.symm h2)] at this
    · have := hk.2; rwa [List.getElem?_set_ne (Ne.symm h4)] at this
/-- a new object is stored at a name -/
theorem Sat.putN (S : Sat G B F e σ H) {s : Slot} (h : e[i]? = some s) (hF : F a = none) (h0 : B.H0 a = none) (r : CellOk G F H a c) (hn : ∀ i, ¬ ownAt e σ i a) : Sat G B F (e.set i (.own c)) (σ.set i (some (.ref a))) H := by
  have hl : i < e.length := (List.getElem?_eq_some_iff.mp h).1
  have hl2 : i < σ.length := by rw [← S.len]; exact hl
  have other : ∀ j b, j ≠ i → ownAt (e.set i (.own c)) (σ.set i (some (.ref a))) j b → ownAt e σ j b := fun j b q hj => by
    refine ⟨by rw [← isOwn_set_ne (s := .own c) q]; exact hj.1, ?_⟩
    have := hj.2; rwa [List.getElem?_set_ne (Ne.symm q)] at this
  have here : ∀ b, ownAt (e.set i (.own c)) (σ.set i (some (.ref a))) i b → b = a := fun b hb => by
    have := hb.2
    rw [List.getElem?_set_self hl2] at this
    simpa using this.symm
  refine ⟨S.sub, S.f0, S.frm, S.liv, S.new, fun j s' es => ?_, fun j k b hj hk => ?_, by rw [List.length_set, List.length_set]; exact S.len⟩
  · by_cases q : j = i
    · subst q
      rw [List.getElem?_set_self hl] at es
      cases es
      exact ⟨a, List.getElem?_set_self hl2, hF, h0, r⟩
    · rw [List.getElem?_set_ne (Ne.symm q)] at es
      rw [List.getElem?_set_ne (Ne.symm q)]
      exact S.slot j s' es
  · by_cases q : j = i
    · by_cases q2 : k = i
      · rw [q, q2]
      · subst q
        rw [here b hj] at hk
        exact absurd (other k a q2 hk) (hn k)
    · by_cases q2 : k = i
      · subst q2
        rw [here b hk] at hj
        exact absurd (other j a q hj) (hn j)
      · exact S.apart j k b (other j b q hj) (other k b q2 hk)
/-- a cell is changed in place -/
theorem Sat.mod (S : Sat G B F e σ H) {c c' : Cell} {o : HO} (at_ : σ[i]? = some (some (.ref a))) (h : e[i]? = some (.own c) ∨ e[i]? = some (.bor c))
    (r : CellOk G F (upd H a o) a c') : Sat G B F (e.set i (match e[i]? with | some (.bor _) => .bor c' | _ => .own c')) σ (upd H a o) := by
  have ow : isOwn e i = true := by
    unfold isOwn
    rcases h with h | h <;> rw [h]
  have me : ownAt e σ i a := ⟨ow, at_⟩
  obtain ⟨nF, o0, ho0⟩ := S.ownLive me
  have hl : i < e.length := by
    rcases h with h | h <;> exact (List.getElem?_eq_some_iff.mp h).1
  generalize hs' : (match e[i]? with | some (.bor _) => Slot.bor c' | _ => Slot.own c') = s'
  have ow' : ∀ j, isOwn (e.set i s') j = isOwn e j := fun j => by
    by_cases q : j = i
    · subst q
      rw [ow]
      unfold isOwn
      rw [List.getElem?_set_self hl, ← hs']
      rcases h with h | h <;> rw [h]
    · exact isOwn_set_ne q
  refine ⟨fun b x hb => ?_, S.f0, fun b x h1 h2 => ?_, fun b x h1 => ?_, S.new, fun j s es => ?_, fun j k b hj hk => S.apart j k b ⟨by rw [← ow' j]; exact hj.1, hj.2⟩ ⟨by rw [← ow' k]; exact hk.1, hk.2⟩, by rw [List.length_set]; exact S.len⟩
  · have ne : b ≠ a := fun z => by rw [z, nF] at hb; cases hb
    rw [upd_ne ne]; exact S.sub b x hb
  · by_cases q : b = a
    · subst q
      rcases h with h | h
      · obtain ⟨b', e1, _, b0, _⟩ := S.slot i _ h
        have : b = b' := by have := at_.symm.trans e1; simpa using this
        subst this
        rw [b0] at h1; cases h1
      · obtain ⟨b', e1, _, b0, _⟩ := S.slot i _ h
        have : b = b' := by have := at_.symm.trans e1; simpa using this
        subst this
        exact absurd b0 (h2 i)
    · rw [upd_ne q]; exact S.frm b x h1 h2
  · by_cases q : b = a
    · subst q; exact ⟨o, upd_same⟩
    · rw [upd_ne q]; exact S.liv b x h1
  · by_cases q : j = i
    · subst q
      rw [List.getElem?_set_self hl] at es
      cases es
      rcases h with h | h
      · obtain ⟨b', e1, n1, b0, _⟩ := S.slot j _ h
        have : a = b' := by have := at_.symm.trans e1; simpa using this
        subst this
        rw [← hs', h]
        exact ⟨a, e1, n1, b0, r⟩
      · obtain ⟨b', e1, n1, b0, _⟩ := S.slot j _ h
        have : a = b' := by have := at_.symm.trans e1; simpa using this
        subst this
        rw [← hs', h]
        exact ⟨a, e1, n1, b0, r⟩
    · rw [List.getElem?_set_ne (Ne.symm q)] at es
      have qs := S.slot j s es
      cases s with
      | non => trivial
      | val d => exact qs
      | own c2 =>
        obtain ⟨b, e2, n2, b2, r2⟩ := qs
        have ne : b ≠ a := fun z => q (S.apart j i a ⟨by unfold isOwn; rw [es], by rw [← z]; exact e2⟩ me)
        exact ⟨b, e2, n2, b2, r2.at (upd_ne ne)⟩
      | bor c2 =>
        obtain ⟨b, e2, n2, b2, r2⟩ := qs
        have ne : b ≠ a := fun z => q (S.apart j i a ⟨by unfold isOwn; rw [es], by rw [← z]; exact e2⟩ me)
        exact ⟨b, e2, n2, b2, r2.at (upd_ne ne)⟩
/-- what a view reads lies in the heap -/
theorem Sat.view (S : Sat G B F e σ H) {av : AV} (nn : ∀ c, av ≠ .new c) (r : RepA G B F e σ H v av) (h : view e av = some d) : RepH G F H v d := by
  cases av with
  | d d' => cases h; exact .inl r
  | new c => exact absurd rfl (nn c)
  | slot i =>
    have h : rdSlot e i = some d := h
    have r : σ[i]? = some (some v) := r
    unfold rdSlot at h
    cases es : e[i]? with
    | none => rw [es] at h; cases h
    | some s =>
      rw [es] at h
      have q := S.slot i s es
      cases s with
      | non => cases h
      | val d' =>
        cases h
        obtain ⟨v', e1, r1⟩ := q
        rw [r] at e1; cases e1
        exact .inl r1
      | own c =>
        cases h
        obtain ⟨a, e1, _, _, r1⟩ := q
        rw [r] at e1; cases e1
        exact .inr ⟨a, c, rfl, rfl, r1⟩
      | bor c =>
        cases h
        obtain ⟨a, e1, _, _, r1⟩ := q
        rw [r] at e1; cases e1
        exact .inr ⟨a, c, rfl, rfl, r1⟩
end
end PX

end
section
set_option Elab.async false
set_option linter.all false
set_option maxRecDepth 100000
/-! PXc: outcomes as wishes; primitives. -/
namespace PX
open PySem PySem.Spec PyProof.Rows L2

def ExcOk (G : Ct) (F H : Hp) (cls : Value) (dx : Option Addr) (c f : Nat) (d : D) : Prop :=
  cls = .ref (G.cA c) ∧ ∃ x v, dx = some x ∧ H x = some (.xd [(G.nm f, v)]) ∧ Rep G F v d

section
variable (G : Ct) (B : Bs) (W : WX) (σ : L2.St)
def Pr {α : Type} (m : R α) (F : Hp) (K : α → Env → Hp → Hp → Prop) : Prop := match m with
  | .ok a e => ∀ F' H', Same F F' → Sat G B F' e σ H' → K a e F' H'
  | .exc c f d e => ∀ F' H' cls dx, Same F F' → Sat G B F' e σ H' → ExcOk G F' H' cls dx c f d → W cls dx σ H'
  | .bad => False
end
section
variable {G : Ct} {B : Bs} {W : WX} {σ : L2.St} {α β : Type} {F F' H H' : Hp} {e e' : Env} {K K' : α → Env → Hp → Hp → Prop}
theorem Pr.monoF {m : R α} (h : Pr G B W σ m F K) (s : Same F F') : Pr G B W σ m F' K := by
  cases m with
  | ok a e => exact fun F2 H2 s2 S => h F2 H2 (s.trans s2) S
  | exc c f d e => exact fun F2 H2 cls dx s2 S x => h F2 H2 cls dx (s.trans s2) S x
  | bad => exact h
theorem Pr.imp {m : R α} (h : Pr G B W σ m F K) (k : ∀ a e F' H', Same F F' → Sat G B F' e σ H' → K a e F' H' → K' a e F' H') : Pr G B W σ m F K' := by
  cases m with
  | ok a e => exact fun F2 H2 s2 S => k a e F2 H2 s2 S (h F2 H2 s2 S)
  | exc c f d e => exact h
  | bad => exact h
theorem Pr.bnd {m : M α} {f : α → M β} {K : β → Env → Hp → Hp → Prop} (h : Pr G B W σ (bnd m f e) F K) : Pr G B W σ (m e) F (fun a e' F' _ => Pr G B W σ (f a e') F' K) := by
  unfold PX.bnd at h
  cases hm : m e with
  | ok a e' =>
    rw [hm] at h
    exact fun F2 H2 s2 S => Pr.monoF h s2
  | exc c n d e' =>
    rw [hm] at h
    exact h
  | bad =>
    rw [hm] at h
    exact h
theorem Pr.view {a : AV} {f : D → M β} {K : β → Env → Hp → Hp → Prop} (h : Pr G B W σ (PX.bnd (viewM a) f e) F K) : ∃ d, PX.view e a = some d ∧ Pr G B W σ (f d e) F K := by
  unfold PX.bnd viewM at h
  cases hv : PX.view e a with
  | none => rw [hv] at h; exact False.elim h
  | some d => rw [hv] at h; exact ⟨d, rfl, h⟩
theorem Pr.ofO {o : Option α} {f : α → M β} {K : β → Env → Hp → Hp → Prop} (h : Pr G B W σ (PX.bnd (PX.ofO o) f e) F K) : ∃ a, o = some a ∧ Pr G B W σ (f a e) F K := by
  cases o with
  | none => exact False.elim h
  | some a => exact ⟨a, rfl, h⟩
theorem Pr.ofO1 {o : Option α} {K : α → Env → Hp → Hp → Prop} (h : Pr G B W σ (PX.ofO o e) F K) : ∃ a, o = some a ∧ Pr G B W σ (ret a e) F K := by
  cases o with
  | none => exact False.elim h
  | some a => exact ⟨a, rfl, h⟩
theorem Pr.ofAV {o : Option AV} {K : AV → Env → Hp → Hp → Prop} (h : Pr G B W σ (PX.ofAV o e) F K) : ∃ a, o = some a ∧ Pr G B W σ (ret a e) F K := by
  cases o with
  | none => exact False.elim h
  | some a => exact ⟨a, rfl, h⟩
theorem Pr.ret {a : α} (h : Pr G B W σ (PX.ret a e) F K) (S : Sat G B F e σ H) : K a e F H := h F H (Same.refl F) S
end

/-! ### wishes of expressions -/
section
variable (G : Ct) (B : Bs) (W : WX)
/-- what follows an expression that has the outcome m -/
def KA (σ : L2.St) (Q : VK) : AV → Env → Hp → Hp → Prop := fun a e F H => ∀ v, RepA G B F e σ H v a → Q v H
def tE (m : M AV) : TE := fun σ H Q => ∃ F e, Sat G B F e σ H ∧ Pr G B W σ (m e) F (KA G B σ Q)
def tT (m : M Bool) : TT := fun σ H Q => ∃ F e, Sat G B F e σ H ∧ Pr G B W σ (m e) F (fun b _ _ H' => Q b H')
/-- data -/
def KD (σ : L2.St) (Q : VK) : D → Env → Hp → Hp → Prop := fun d _ F H => ∀ v, Rep G F v d → Q v H
def tD (m : M D) : TE := fun σ H Q => ∃ F e, Sat G B F e σ H ∧ Pr G B W σ (m e) F (KD G σ Q)
def KL (Q : List V → Hp → Prop) : List D → Env → Hp → Hp → Prop := fun ds _ F H => ∀ vs, RepL G F vs ds → Q vs H
def tL (m : M (List D)) : TA := fun σ H Q => ∃ F e, Sat G B F e σ H ∧ Pr G B W σ (m e) F (KL G Q)
end
theorem pe_weak {X : Cx} {e : Expr} {t t' : TE} (h : PE X e t) (w : ∀ σ H Q, t' σ H Q → t σ H Q) : PE X e t' := ⟨fun pins s σ H Q I q => h.run pins s σ H Q I (w σ H Q q)⟩
theorem pt_weak {X : Cx} {e : Expr} {t t' : TT} (h : PT X e t) (w : ∀ σ H Q, t' σ H Q → t σ H Q) : PT X e t' := ⟨fun pins s σ H Q I q => h.run pins s σ H Q I (w σ H Q q)⟩
theorem pw_weak {X : Cx} {e : Expr} {t t' : TT} (h : PW X e t) (w : ∀ σ H Q, t' σ H Q → t σ H Q) : PW X e t' := ⟨fun wh pins s σ H Q I q => h.run wh pins s σ H Q I (w σ H Q q)⟩
theorem pa_weak {X : Cx} {e : List Expr} {t t' : TA} (h : PA X e t) (w : ∀ σ H Q, t' σ H Q → t σ H Q) : PA X e t' := ⟨fun pos pins s σ H Q I q => h.run pos pins s σ H Q I (w σ H Q q)⟩
theorem ps_weak {X : Cx} {e : Stmt} {t t' : TS} (h : PS X e t) (w : ∀ D σ H, t' D σ H → t D σ H) : PS X e t' := ⟨fun pins s σ H D I q => h.run pins s σ H D I (w D σ H q)⟩
theorem pss_weak {X : Cx} {e : List Stmt} {t t' : TS} (h : PSs X e t) (w : ∀ D σ H, t' D σ H → t D σ H) : PSs X e t' := ⟨fun pins s σ H D I q => h.run pins s σ H D I (w D σ H q)⟩
theorem pi_weak {X : Cx} {tg e : Expr} {t t' : TI} (h : PI X tg e t) (w : ∀ σ H Q, t' σ H Q → t σ H Q) : PI X tg e t' := ⟨fun pins s σ H Q I q => h.run pins s σ H Q I (w σ H Q q)⟩
theorem pg_weak {X : Cx} {e : Expr} {t t' : TG} (h : PG X e t) (w : ∀ v σ H Q, t' v σ H Q → t v σ H Q) : PG X e t' := ⟨fun pins s σ H v u Q I r q => h.run pins s σ H v u Q I r (w v σ H Q q)⟩

section
variable {G : Ct} {B : Bs} {W : WX} {σ : L2.St} {F F' H H' : Hp} {e e' : Env} {Q : VK} {v : V} {d : D} {a p : Addr} {ds : List D} {vs : List V}
theorem upd_self {H : Hp} {a : Addr} {o : HO} (h : H a = some o) : upd H a o = H := by
  funext b
  by_cases q : b = a
  · subst q; rw [upd_same, h]
  · rw [upd_ne q]
/-- the value's own object may be locked -/
def LK (Q : VK) : VK := fun v H => Q v H ∨ ∃ a oh, v = .ref a ∧ H a = some oh ∧ ∀ fo, Frz oh fo → Q v (upd H a fo)
theorem pe_lk {X : Cx} {ex : Expr} {t : TE} (h : PE X ex t) : PE X ex (fun σ H Q => t σ H (LK Q)) := by
  refine ⟨fun pins s σ H Q I q => thn (h.run pins s σ H _ I q) fun u s1 ⟨v, H1, I1, r1, q1⟩ => ?_⟩
  rcases q1 with q1 | ⟨a, oh, ev, ho, q1⟩
  · exact ⟨v, H1, I1, r1, q1⟩
  · by_cases hk : ∃ kvs, oh = .dK kvs
    · obtain ⟨kvs, rfl⟩ := hk
      obtain ⟨od, I2⟩ := I1.lock ho trivial
      exact ⟨v, _, I2, r1, q1 _ (.inr ⟨kvs, od, rfl, rfl⟩)⟩
    · have q2 := q1 oh (.inl ⟨fun kvs z => hk ⟨kvs, z⟩, rfl⟩)
      rw [upd_self ho] at q2
      exact ⟨v, H1, I1, r1, q2⟩
/-- a new object is frozen where it is read -/
theorem RepA.toD {c : Cell} (S : Sat G B F e σ H) (r : RepA G B F e σ H v (.new c)) : ∃ a oh, v = .ref a ∧ H a = some oh ∧ ∀ fo, Frz oh fo → ∃ F', Same F F' ∧ Sat G B F' e σ (upd H a fo) ∧ Rep G F' v c.d := by
  obtain ⟨a, rfl, n, b0, r, no⟩ := r
  obtain ⟨o, ho⟩ := r.there
  refine ⟨a, o, rfl, ho, fun fo fz => ?_⟩
  have eF : Same F (upd F a fo) := same_upd n
  exact ⟨_, eF, S.frozen ho n b0 no, (r.mono eF).rep upd_same ho fz⟩
theorem oper_w {m : M AV} (h : tE G B W (opr m) σ H Q) : tE G B W m σ H (LK fun v H' => ∃ F' e' av, Sat G B F' e' σ H' ∧ (∀ c, av ≠ .new c) ∧ RepA G B F' e' σ H' v av ∧ Pr G B W σ (ret av e') F' (KA G B σ Q)) := by
  obtain ⟨F, e, S, h⟩ := h
  refine ⟨F, e, S, (Pr.bnd h).imp fun a e' F' H' _ S' k v r => ?_⟩
  cases a with
  | d d => exact .inl ⟨F', e', .d d, S', fun _ => nofun, r, k⟩
  | slot i => exact .inl ⟨F', e', .slot i, S', fun _ => nofun, r, k⟩
  | new c =>
    obtain ⟨a, oh, ev, ho, q⟩ := RepA.toD S' r
    refine .inr ⟨a, oh, ev, ho, fun fo fz => ?_⟩
    obtain ⟨F2, s2, S2, r2⟩ := q fo fz
    exact ⟨F2, e', .d c.d, S2, fun _ => nofun, r2, Pr.monoF k s2⟩
theorem oper_e {m : M AV} {ex : Expr} {X : Cx} (h : PE X ex (tE G B W m)) : PE X ex (tE G B W (opr m)) := pe_weak (pe_lk h) fun σ H Q q => by
  obtain ⟨F, e, S, h⟩ := oper_w q
  refine ⟨F, e, S, h.imp fun a e' F' H' _ S' k v r => ?_⟩
  have fin : ∀ {H2}, (∃ F' e' av, Sat G B F' e' σ H2 ∧ (∀ c, av ≠ .new c) ∧ RepA G B F' e' σ H2 v av ∧ Pr G B W σ (ret av e') F' (KA G B σ Q)) → Q v H2 := fun {H2} z => by
    obtain ⟨F2, e2, av, S2, nn, r2, p⟩ := z
    exact Pr.ret p S2 v r2
  rcases k v r with k | ⟨a, oh, ev, ho, k⟩
  · exact .inl (fin k)
  · exact .inr ⟨a, oh, ev, ho, fun fo fz => fin (k fo fz)⟩
/-- the operand is data or a slot -/
def NN : AV → Prop
  | .new _ => False
  | _ => True
theorem opr_nn {m : M AV} {K : AV → Env → Hp → Hp → Prop} (h : Pr G B W σ (opr m e) F K) : Pr G B W σ (opr m e) F (fun a e F H => NN a ∧ K a e F H) := by
  unfold opr bnd at h ⊢
  cases hm : m e with
  | ok a e' =>
    rw [hm] at h
    cases a with
    | d d => exact fun F2 H2 s2 S => ⟨trivial, h F2 H2 s2 S⟩
    | slot i => exact fun F2 H2 s2 S => ⟨trivial, h F2 H2 s2 S⟩
    | new c => exact fun F2 H2 s2 S => ⟨trivial, h F2 H2 s2 S⟩
  | exc c n d e' => rw [hm] at h; exact h
  | bad => rw [hm] at h; exact h
theorem NN.ne {a : AV} (h : NN a) : ∀ c, a ≠ .new c := fun c z => by rw [z] at h; exact h
/-- an operand read ahead of another one still is what it was -/
theorem NN.later {av : AV} (h : NN av) (s : Same F F') (r : RepA G B F e σ H v av) : RepA G B F' e' σ H' v av := by
  cases av with
  | d d => exact Rep.mono s r
  | slot i => exact r
  | new c => exact False.elim h
/-- data, whatever it was -/
theorem data_e {m : M AV} {ex : Expr} {X : Cx} (h : PE X ex (tE G B W m)) : PE X ex (tD G B W (dataM m)) := pe_weak (pe_lk h) fun σ H Q q => by
  obtain ⟨F, e, S, h⟩ := q
  refine ⟨F, e, S, (Pr.bnd h).imp fun a e' F' H' _ S' k v r => ?_⟩
  cases a with
  | d d => exact .inl (Pr.ret k S' v r)
  | new c =>
    obtain ⟨a, oh, ev, ho, q⟩ := RepA.toD S' r
    refine .inr ⟨a, oh, ev, ho, fun fo fz => ?_⟩
    obtain ⟨F2, s2, S2, r2⟩ := q fo fz
    exact Pr.ret (Pr.monoF k s2) S2 v r2
  | slot i =>
    have k : Pr G B W σ (frz i e') F' (KD G σ Q) := k
    have r : σ[i]? = some (some v) := r
    unfold frz at k
    cases es : e'[i]? with
    | none => rw [es] at k; exact False.elim k
    | some s =>
      rw [es] at k
      cases s with
      | non => exact False.elim k
      | bor c => exact False.elim k
      | val d =>
        obtain ⟨v', e1, r1⟩ := S'.slot i _ es
        rw [r] at e1; cases e1
        exact .inl (k F' H' (Same.refl F') S' v r1)
      | own c =>
        obtain ⟨a, oh, e1, ho, nF, q⟩ := S'.frz es
        rw [r] at e1; cases e1
        refine .inr ⟨a, oh, rfl, ho, fun fo fz => ?_⟩
        obtain ⟨S2, r2⟩ := q fo fz
        exact k _ _ (same_upd nF) S2 _ r2

/-! ### two operands -/
/-- what a two-place primitive asks -/
def rB (G : Ct) (W : WX) (f : D → D → M AV) : R2 := fun x y H Q => ∃ B σ F e da db, Sat G B F e σ H ∧ RepH G F H x da ∧ RepH G F H y db ∧ Pr G B W σ (f da db e) F (KA G B σ Q)
def rO1 (G : Ct) (W : WX) (f : D → M AV) : V → Hp → VK → Prop := fun x H Q => ∃ B σ F e da, Sat G B F e σ H ∧ RepH G F H x da ∧ Pr G B W σ (f da e) F (KA G B σ Q)
theorem bin_w {ma mb : M AV} {f : D → D → M AV} (h : tE G B W (binM ma mb f) σ H Q) : tOp (rB G W f) (tE G B W (opr ma)) (tE G B W (opr mb)) σ H Q := by
  obtain ⟨F, e, S, h⟩ := h
  refine ⟨F, e, S, (opr_nn (Pr.bnd h)).imp fun a e1 F1 H1 _ S1 ⟨na, k⟩ v r => ?_⟩
  refine ⟨F1, e1, S1, (opr_nn (Pr.bnd k)).imp fun b e2 F2 H2 s2 S2 ⟨nb, k2⟩ u r2 => ?_⟩
  obtain ⟨da, va, k2⟩ := Pr.view k2
  obtain ⟨db, vb, k2⟩ := Pr.view k2
  exact ⟨B, σ, F2, e2, da, db, S2, S2.view na.ne (na.later s2 r) va, S2.view nb.ne r2 vb, k2⟩
theorem un_w {ma : M AV} {f : D → M AV} (h : tE G B W (unM ma f) σ H Q) : tE G B W (opr ma) σ H (fun x H' => rO1 G W f x H' Q) := by
  obtain ⟨F, e, S, h⟩ := h
  refine ⟨F, e, S, (opr_nn (Pr.bnd h)).imp fun a e1 F1 H1 _ S1 ⟨na, k⟩ v r => ?_⟩
  obtain ⟨da, va, k⟩ := Pr.view k
  exact ⟨B, σ, F1, e1, da, S1, S1.view na.ne r va, k⟩

/-! ### ends -/
theorem fin_d (S : Sat G B F e σ H) (k : Pr G B W σ (ret (.d d) e) F (KA G B σ Q)) (r : Rep G F v d) : Q v H := Pr.ret k S v r
theorem fin_tup (S : Sat G B F e σ H) (k : Pr G B W σ (ret (.d (.tup ds)) e) F (KA G B σ Q)) (r : RepL G F vs ds) (hp : H p = none) : Q (.ref p) (upd H p (.tup vs)) := by
  obtain ⟨S', s'⟩ := S.fresh (o := .tup vs) hp
  exact Pr.ret (Pr.monoF k s') S' _ (.tup (SqT.of upd_same) (r.mono s'))
theorem fin_lst (S : Sat G B F e σ H) (k : Pr G B W σ (ret (.new (.lst ds)) e) F (KA G B σ Q)) (r : RepL G F vs ds) (hp : H p = none) : Q (.ref p) (upd H p (.lst vs)) := by
  have S' := S.laid (o := .lst vs) hp
  exact Pr.ret k S' _ ⟨p, rfl, S.free hp, S.base0 hp, ⟨vs, upd_same, r⟩, fun i hi => S.notOwn hp i hi⟩
theorem fin_dct {ks xs : List D} {kvs : List (Key × V)} (S : Sat G B F e σ H) (k : Pr G B W σ (ret (.new (.dct ks xs)) e) F (KA G B σ Q)) (r : RepK G F kvs ks xs) (hp : H p = none) : Q (.ref p) (upd H p (.dK kvs)) := by
  have S' := S.laid (o := .dK kvs) hp
  exact Pr.ret k S' _ ⟨p, rfl, S.free hp, S.base0 hp, ⟨kvs, upd_same, r⟩, fun i hi => S.notOwn hp i hi⟩

/-! ### what a datum's lying tells -/
theorem RepH.int {i : Int} (h : RepH G F H v (.int i)) : v = .int i := by
  rcases h with h | ⟨a, c, _, e, _⟩
  · cases h; rfl
  · cases c <;> cases e
theorem RepH.bl {i : Bool} (h : RepH G F H v (.bl i)) : v = .bl i := by
  rcases h with h | ⟨a, c, _, e, _⟩
  · cases h; rfl
  · cases c <;> cases e
theorem RepH.str {i : Str} (h : RepH G F H v (.str i)) : v = .str i := by
  rcases h with h | ⟨a, c, _, e, _⟩
  · cases h; rfl
  · cases c <;> cases e
theorem RepH.non (h : RepH G F H v .non) : v = .non := by
  rcases h with h | ⟨a, c, _, e, _⟩
  · cases h; rfl
  · cases c <;> cases e
theorem RepH.tup (sF : Same F H) (h : RepH G F H v (.tup ds)) : ∃ a vs, v = .ref a ∧ SqT G.K H a vs ∧ RepL G F vs ds := by
  rcases h with h | ⟨a, c, _, e, _⟩
  · cases h with
    | tup h r => exact ⟨_, _, rfl, Same.sqt sF h, r⟩
  · cases c <;> cases e
theorem RepH.lst (sF : Same F H) (h : RepH G F H v (.lst ds)) : ∃ a vs, v = .ref a ∧ H a = some (.lst vs) ∧ RepL G F vs ds := by
  rcases h with h | ⟨a, c, rfl, e, ok⟩
  · cases h with
    | lst h r => exact ⟨_, _, rfl, sF _ _ h, r⟩
  · cases c with
    | lst ds' => cases e; obtain ⟨vs, h, r⟩ := ok; exact ⟨a, vs, rfl, h, r⟩
    | _ => cases e
theorem RepH.ro (sF : Same F H) (h : RepH G F H v (.ro ds)) : ∃ a vs, v = .ref a ∧ SqL G.K H a vs ∧ RepL G F vs ds := by
  rcases h with h | ⟨a, c, _, e, _⟩
  · cases h with
    | ro h r => exact ⟨_, _, rfl, Same.seq sF h, r⟩
  · cases c <;> cases e
theorem RepH.dct {ks xs : List D} (sF : Same F H) (h : RepH G F H v (.dct ks xs)) : ∃ a kvs, v = .ref a ∧ Rd H a (.dK kvs) ∧ RepK G F kvs ks xs := by
  rcases h with h | ⟨a, c, rfl, e, ok⟩
  · cases h with
    | dct h r => exact ⟨_, _, rfl, .inr ⟨_, sF _ _ h⟩, r⟩
  · cases c with
    | dct k' x' => cases e; obtain ⟨vs, h, r⟩ := ok; exact ⟨a, vs, rfl, .inl h, r⟩
    | _ => cases e
theorem RepH.set {ns : List Int} (sF : Same F H) (h : RepH G F H v (.set ns)) : ∃ a S n, v = .ref a ∧ H a = some (SetO G.w a S n) ∧ ∀ k, S k = true ↔ k ∈ ns := by
  rcases h with h | ⟨a, c, rfl, e, ok⟩
  · cases h with
    | set h r => exact ⟨_, _, _, rfl, sF _ _ h, r⟩
  · cases c <;> cases e
theorem RepH.obj {c : Nat} {ns : List Nat} (sF : Same F H) (h : RepH G F H v (.obj c ns ds)) : ∃ a dx fs, v = .ref a ∧ H a = some (.ins (G.cA c) dx fs) ∧ RepF G F fs ns ds := by
  rcases h with h | ⟨a, c, rfl, e, ok⟩
  · cases h with
    | obj h r => exact ⟨_, _, _, rfl, sF _ _ h, r⟩
  · cases c with
    | obj k' n' x' => cases e; obtain ⟨dx, fs, h, r⟩ := ok; exact ⟨a, dx, fs, rfl, h, r⟩
    | _ => cases e
theorem RepL.length {vs : List V} {ds : List D} (h : RepL G F vs ds) : vs.length = ds.length := by
  induction ds generalizing vs with
  | nil => cases h; rfl
  | cons d ds ih => cases h with | cons h r => rw [List.length_cons, List.length_cons, ih r]
theorem RepL.get {j : Nat} {d : D} : ∀ {vs : List V} {ds : List D}, RepL G F vs ds → ds[j]? = some d → ∃ v, vs[j]? = some v ∧ Rep G F v d
  | _, [], h, e => by cases e
  | _, x :: ds, h, e => by
    cases h with
    | cons h r =>
      cases j with
      | zero => cases e; exact ⟨_, rfl, h⟩
      | succ j => exact RepL.get (j := j) r e
theorem RepL.append {xs ys : List D} {vs ws : List V} (h : RepL G F vs xs) (k : RepL G F ws ys) : RepL G F (vs ++ ws) (xs ++ ys) := by
  induction xs generalizing vs with
  | nil => cases h; exact k
  | cons d ds ih => cases h with | cons h r => exact .cons h (ih r)
theorem RepL.take (n : Nat) {xs : List D} {vs : List V} (h : RepL G F vs xs) : RepL G F (vs.take n) (xs.take n) := by
  induction xs generalizing vs n with
  | nil => cases h; rw [List.take_nil, List.take_nil]; exact .nil
  | cons d ds ih => cases h with | cons h r => cases n with
    | zero => exact .nil
    | succ n => exact .cons h (ih n r)
theorem RepL.drop (n : Nat) {xs : List D} {vs : List V} (h : RepL G F vs xs) : RepL G F (vs.drop n) (xs.drop n) := by
  induction xs generalizing vs n with
  | nil => cases h; rw [List.drop_nil, List.drop_nil]; exact .nil
  | cons d ds ih => cases h with | cons h r => cases n with
    | zero => exact .cons h r
    | succ n => exact ih n r
theorem RepL.reverse {xs : List D} {vs : List V} (h : RepL G F vs xs) : RepL G F vs.reverse xs.reverse := by
  induction xs generalizing vs with
  | nil => cases h; exact .nil
  | cons d ds ih => cases h with | cons h r =>
    rw [List.reverse_cons, List.reverse_cons]
    exact (ih r).append (.cons h .nil)
theorem RepL.set {j : Nat} {d : D} {v : V} (hv : Rep G F v d) : ∀ {vs : List V} {ds : List D}, RepL G F vs ds → RepL G F (vs.set j v) (ds.set j d) := by
  intro vs ds h
  induction ds generalizing vs j with
  | nil => cases h; exact .nil
  | cons x ds ih => cases h with | cons h r => cases j with
    | zero => exact .cons hv r
    | succ j => exact .cons h (ih r)
theorem RepL.rep {xs : List D} {vs : List V} (h : RepL G F vs xs) : ∀ n : Nat, RepL G F (List.replicate n vs).flatten (List.replicate n xs).flatten
  | 0 => .nil
  | n + 1 => by
    rw [List.replicate_succ, List.replicate_succ, List.flatten_cons, List.flatten_cons]
    exact h.append (RepL.rep h n)
theorem RepL.ints {ns : List Int} : ∀ {vs : List V} {ds : List D}, RepL G F vs ds → allInt ds = some ns → vs = ns.map V.int := by
  intro vs ds h e
  induction ds generalizing vs ns with
  | nil => cases h; cases e; rfl
  | cons x ds ih =>
    cases h with
    | cons h r =>
      cases x with
      | int i =>
        cases h
        unfold allInt at e
        cases q : allInt ds with
        | none => rw [q] at e; cases e
        | some ms =>
          rw [q] at e
          cases e
          rw [ih r q]; rfl
      | _ => cases e
theorem RepL.bls {ns : List Bool} : ∀ {vs : List V} {ds : List D}, RepL G F vs ds → allBl ds = some ns → vs = ns.map V.bl := by
  intro vs ds h e
  induction ds generalizing vs ns with
  | nil => cases h; cases e; rfl
  | cons x ds ih =>
    cases h with
    | cons h r =>
      cases x with
      | bl i =>
        cases h
        unfold allBl at e
        cases q : allBl ds with
        | none => rw [q] at e; cases e
        | some ms =>
          rw [q] at e
          cases e
          rw [ih r q]; rfl
      | _ => cases e
theorem RepL.ofInts : ∀ ns : List Int, RepL G F (ns.map V.int) (ns.map D.int)
  | [] => .nil
  | i :: r => .cons (.int i) (RepL.ofInts r)
end
end PX

end
section
set_option Elab.async false
set_option linter.all false
set_option maxRecDepth 100000
set_option maxHeartbeats 1000000
/-! PXd: the primitives, each by the layer's rule. -/
namespace PX
open PySem PySem.Spec PyProof.Rows L2

/-- what a context must have -/
structure XC (G : Ct) (k : Nat) (X : Cx) : Prop where
  P : X.prog = G.P
  w : X.w = G.w
  K : X.K = G.K
  mg : X.mg = G.mg
  base : X.base = G.base
  calm : X.calm = true
  room : Room k X.A

theorem szLe : SZ ≤ sizeLine := by rw [sizeLine_eq]; decide
section
variable {G : Ct} {B : Bs} {W : WX} {σ : L2.St} {F F' H H' : Hp} {e e' : Env} {Q : VK} {v : V} {d : D} {a p : Addr} {ds : List D} {vs : List V} {X : Cx} {k : Nat}
theorem RepH.tupF (h : RepH G F H v (.tup ds)) : Rep G F v (.tup ds) := by
  rcases h with h | ⟨a, c, _, e, _⟩
  · exact h
  · cases c <;> cases e
def bopOf : Bop → Operator
  | .add => .Add
  | .sub => .Sub
  | .mul => .Mult
  | .mod => .Mod
  | .fdiv => .FloorDiv
  | .pow => .Pow
theorem bin_ok (C : XC G k X) (op : Bop) : OpR X (binaryOp (bopOf op)) (rB G W fun x y => ofAV (binD op x y)) := by
  intro pins s σ0 H x y v u Q I rx ry h
  obtain ⟨B, σ, F, e, da, db, S, ha, hb, h⟩ := h
  obtain ⟨av, hv, h⟩ := Pr.ofAV h
  unfold binD at hv
  split at hv
  · -- int + int
    cases hv
    cases ha.int; cases hb.int
    exact op_add pins s σ0 H _ _ v u Q I rx ry ⟨_, _, rfl, rfl, fin_d S h (.int _)⟩
  · -- str + str
    split at hv
    · cases hv
      cases ha.str; cases hb.str
      exact op_add_str pins s σ0 H _ _ v u Q I rx ry ⟨_, _, rfl, rfl, Nat.le_trans (by assumption) szLe, fin_d S h (.str _)⟩
    · cases hv
  · -- tup + tup
    split at hv
    · rename_i hz
      cases hv
      have fa := ha.tupF
      have fb := hb.tupF
      obtain ⟨a, xs, rfl, hA, ra⟩ := ha.tup S.sub
      obtain ⟨b, ys, rfl, hB, rb⟩ := hb.tup S.sub
      rw [← C.K] at hA hB
      refine op_catA pins s σ0 H _ _ v u Q I rx ry ⟨a, b, xs, ys, rfl, rfl, hA, hB, by rw [ra.length, rb.length]; exact Nat.le_trans hz szLe, fun z => ?_, fun _ z => ?_, fun _ _ p hp => fin_tup S h (ra.append rb) hp⟩
      · subst z
        cases ra
        exact fin_d S h fb
      · subst z
        cases rb
        rw [List.append_nil] at h
        exact fin_d S h fa
    · cases hv
  · -- lst + lst
    split at hv
    · rename_i hz
      cases hv
      obtain ⟨a, xs, rfl, hA, ra⟩ := ha.lst S.sub
      obtain ⟨b, ys, rfl, hB, rb⟩ := hb.lst S.sub
      exact op_cat pins s σ0 H _ _ v u Q I rx ry ⟨a, b, xs, ys, rfl, rfl, hA, hB, by rw [ra.length, rb.length]; exact Nat.le_trans hz szLe, fun p hp => fin_lst S h (ra.append rb) hp⟩
    · cases hv
  · -- int - int
    cases hv
    cases ha.int; cases hb.int
    exact op_sub pins s σ0 H _ _ v u Q I rx ry ⟨_, _, rfl, rfl, fin_d S h (.int _)⟩
  · -- int * int
    split at hv
    · rename_i i j hm
      cases hv
      cases ha.int; cases hb.int
      have hm : CMul i j := by
        unfold mulOk at hm
        simp only [Bool.or_eq_true, Bool.and_eq_true, decide_eq_true_eq] at hm
        exact hm
      exact op_mul pins s σ0 H _ _ v u Q I rx ry ⟨_, _, rfl, rfl, hm, fin_d S h (.int _)⟩
    · cases hv
  · -- lst * int
    split at hv
    · rename_i hm
      cases hv
      obtain ⟨a, xs, rfl, hA, ra⟩ := ha.lst S.sub
      cases hb.int
      exact op_rep pins s σ0 H _ _ v u Q I rx ry ⟨a, _, xs, rfl, rfl, hA, by omega, by omega, by rw [ra.length]; exact Nat.le_trans hm.2.2 szLe, fun p hp => fin_lst S h (ra.rep _) hp⟩
    · cases hv
  · -- tup * int
    split at hv
    · rename_i hm
      cases hv
      obtain ⟨a, xs, rfl, hA, ra⟩ := ha.tup S.sub
      rw [← C.K] at hA
      cases hb.int
      have hl := ra.length
      exact op_repT pins s σ0 H _ _ v u Q I rx ry ⟨a, _, xs, rfl, rfl, hA, fun z => by rw [z] at hl; rw [← hl] at hm; exact absurd hm.2.2.2 (by simp), hm.1, hm.2.1, by rw [hl]; exact hm.2.2.1, fun p hp => fin_tup S h (ra.rep _) hp⟩
    · cases hv
  · -- int % int
    split at hv
    · cases hv
    · rename_i hm
      cases hv
      cases ha.int; cases hb.int
      exact op_modN pins s σ0 H _ _ v u Q I rx ry ⟨_, _, rfl, rfl, hm, fin_d S h (.int _)⟩
  · -- int // int
    split at hv
    · rename_i hm
      cases hv
      cases ha.int; cases hb.int
      exact op_fdivN pins s σ0 H _ _ v u Q I rx ry ⟨_, _, rfl, rfl, hm, fin_d S h (.int _)⟩
    · cases hv
  · -- int ** int
    split at hv
    · rename_i hm
      cases hv
      cases ha.int; cases hb.int
      exact op_pow pins s σ0 H _ _ v u Q I rx ry ⟨_, _, rfl, rfl, hm, fin_d S h (.int _)⟩
    · cases hv
  · cases hv

/-! ### == and in -/
mutual
theorem eqv_pd : ∀ x y : D, x.plain = true → y.plain = true → PyData.eqv x.pd y.pd = deq x y
  | .non, y, _, hy => by cases y <;> first | rfl | exact absurd hy (by simp [D.plain])
  | .bl a, y, _, hy => by cases y <;> first | rfl | exact absurd hy (by simp [D.plain])
  | .int a, y, _, hy => by cases y <;> first | rfl | exact absurd hy (by simp [D.plain])
  | .str a, y, _, hy => by
    cases y with
    | str b =>
      show (a == b) = decide (a = b)
      by_cases q : a = b
      · subst q; rw [decide_eq_true rfl]; exact beq_self_eq_true a
      · rw [decide_eq_false q]; exact beq_false_of_ne q
    | _ => first | rfl | exact absurd hy (by simp [D.plain])
  | .tup xs, y, hx, hy => by
    cases y with
    | tup ys => exact eqv_pdL xs ys hx hy
    | _ => first | rfl | exact absurd hy (by simp [D.plain])
  | .lst xs, y, hx, hy => by
    cases y with
    | lst ys => exact eqv_pdL xs ys hx hy
    | _ => first | rfl | exact absurd hy (by simp [D.plain])
  | .dct _ _, _, h, _ => absurd h (by simp [D.plain])
  | .set _, _, h, _ => absurd h (by simp [D.plain])
  | .ro _, _, h, _ => absurd h (by simp [D.plain])
  | .obj _ _ _, _, h, _ => absurd h (by simp [D.plain])
theorem eqv_pdL : ∀ xs ys : List D, plainL xs = true → plainL ys = true → PyData.eqvAll (pdL xs) (pdL ys) = deqL xs ys
  | [], [], _, _ => rfl
  | [], _ :: _, _, _ => rfl
  | _ :: _, [], _, _ => rfl
  | x :: xs, y :: ys, hx, hy => by
    simp only [plainL, Bool.and_eq_true] at hx hy
    show (PyData.eqv x.pd y.pd && PyData.eqvAll (pdL xs) (pdL ys)) = (deq x y && deqL xs ys)
    rw [eqv_pd x y hx.1 hy.1, eqv_pdL xs ys hx.2 hy.2]
end
mutual
theorem lay_pd : ∀ x : D, x.plain = true → x.pd.canLay0 = true
  | .non, _ => rfl
  | .bl _, _ => rfl
  | .int _, _ => rfl
  | .str s, h => h
  | .tup ds, h => lay_pdL ds h
  | .lst ds, h => lay_pdL ds h
  | .dct _ _, h => absurd h (by simp [D.plain])
  | .set _, h => absurd h (by simp [D.plain])
  | .ro _, h => absurd h (by simp [D.plain])
  | .obj _ _ _, h => absurd h (by simp [D.plain])
theorem lay_pdL : ∀ x : List D, plainL x = true → PyData.canLayAll0 (pdL x) = true
  | [], _ => rfl
  | x :: xs, h => by
    simp only [plainL, Bool.and_eq_true] at h
    show (x.pd.canLay0 && PyData.canLayAll0 (pdL xs)) = true
    rw [lay_pd x h.1, lay_pdL xs h.2]; rfl
end
mutual
theorem dep_pd : ∀ x : D, x.pd.depth = x.depth
  | .non => rfl
  | .bl _ => rfl
  | .int _ => rfl
  | .str _ => rfl
  | .tup ds => congrArg (· + 1) (dep_pdL ds)
  | .lst ds => congrArg (· + 1) (dep_pdL ds)
  | .dct _ _ => rfl
  | .set _ => rfl
  | .ro _ => rfl
  | .obj _ _ _ => rfl
theorem dep_pdL : ∀ x : List D, PyData.depthAll (pdL x) = depthL x
  | [] => rfl
  | x :: xs => by
    show max x.pd.depth (PyData.depthAll (pdL xs)) = max x.depth (depthL xs)
    rw [dep_pd x, dep_pdL xs]
end
theorem okEq_of {x : D} (h : okEq x = true) : x.plain = true ∧ x.depth ≤ 32 := by
  unfold okEq at h
  rw [Bool.and_eq_true, decide_eq_true_eq] at h
  exact h
theorem shaped_of {x : D} (h : okEq x = true) : SeqAt.shaped x.pd = true := by
  obtain ⟨h1, h2⟩ := okEq_of h
  unfold SeqAt.shaped
  rw [lay_pd x h1, Bool.true_and, decide_eq_true_eq, dep_pd]
  omega
mutual
theorem Rep.dp (sF : Same F H) : ∀ {v : V} {d : D}, Rep G F v d → d.plain = true → Dp G.K H v d.pd
  | _, _, .non, _ => .non
  | _, _, .bl b, _ => .bl b
  | _, _, .int i, _ => .int i
  | _, _, .str s, _ => .str s
  | _, _, .tup h r, p => .tup (Same.sqt sF h) (RepL.dp sF r p)
  | _, _, .lst h r, p => .lst (SqL.of (sF _ _ h)) (RepL.dp sF r p)
  | _, _, .ro _ _, p => absurd p (by simp [D.plain])
  | _, _, .dct _ _, p => absurd p (by simp [D.plain])
  | _, _, .set _ _, p => absurd p (by simp [D.plain])
  | _, _, .obj _ _, p => absurd p (by simp [D.plain])
theorem RepL.dp (sF : Same F H) : ∀ {v : List V} {d : List D}, RepL G F v d → plainL d = true → DpAll G.K H v (pdL d)
  | _, _, .nil, _ => .nil
  | _, _, .cons h r, p => by
    simp only [plainL, Bool.and_eq_true] at p
    exact .cons (Rep.dp sF h p.1) (RepL.dp sF r p.2)
end
theorem RepH.dp (sF : Same F H) (h : RepH G F H v d) (p : d.plain = true) : Dp G.K H v d.pd := by
  rcases h with h | ⟨a, c, rfl, rfl, ok⟩
  · exact h.dp sF p
  · cases c with
    | lst ds => obtain ⟨vs, h, r⟩ := ok; exact .lst (SqL.of h) (r.dp sF p)
    | dct _ _ => exact absurd p (by simp [D.plain, Cell.d])
    | obj _ _ _ => exact absurd p (by simp [D.plain, Cell.d])
theorem any_pd (x : D) (hx : x.plain = true) : ∀ ys : List D, plainL ys = true → ((pdL ys).any fun z => PyData.eqv z x.pd) = inD x ys
  | [], _ => rfl
  | y :: ys, h => by
    simp only [plainL, Bool.and_eq_true] at h
    show (PyData.eqv y.pd x.pd || (pdL ys).any fun z => PyData.eqv z x.pd) = (deq y x || inD x ys)
    rw [eqv_pd y x h.1 hx, any_pd x hx ys h.2]
theorem room_in {A : Around} {da : PyData} {ds : List PyData} (h : da.depth ≤ 32) (hu : A.units + 64 < cLine) : A.units + 1 + min (PyData.depthAll ds) da.depth < cLine := by
  have : min (PyData.depthAll ds) da.depth ≤ da.depth := Nat.min_le_right _ _
  omega
def copOf : Cop → CmpOp
  | .eq => .Eq
  | .ne => .NotEq
  | .lt => .Lt
  | .le => .LtE
  | .gt => .Gt
  | .ge => .GtE
  | .isin => .In
  | .notin => .NotIn
  | .is => .Is
  | .isnot => .IsNot
/-- a comparison's wish: a bool -/
def rC (G : Ct) (op : Cop) : R2 := fun x y H Q => ∃ B σ F e da db r, Sat G B F e σ H ∧ RepH G F H x da ∧ RepH G F H y db ∧ cmpD op da db = some r ∧ Q (.bl r) H
theorem cmp_ok (C : XC G k X) (op : Cop) (hi : op ≠ .is) (hn : op ≠ .isnot) : OpR X (compareOp (copOf op)) (rC G op) := by
  intro pins s σ0 H x y v u Q I rx ry h
  obtain ⟨B, σ, F, e, da, db, r, S, ha, hb, hv, q⟩ := h
  have hu : X.A.units + 64 < cLine := C.room.units
  have ck := C.K
  unfold cmpD at hv
  split at hv
  · split at hv
    · rename_i hz
      cases hv
      rw [Bool.and_eq_true] at hz
      rw [← eqv_pd _ _ (okEq_of hz.1).1 (okEq_of hz.2).1] at q
      exact op_eqD hu pins s σ0 H _ _ v u Q I rx ry ⟨_, _, by rw [ck]; exact ha.dp S.sub (okEq_of hz.1).1, by rw [ck]; exact hb.dp S.sub (okEq_of hz.2).1, shaped_of hz.1, shaped_of hz.2, q⟩
    · cases hv
  · split at hv
    · rename_i hz
      cases hv
      rw [Bool.and_eq_true] at hz
      rw [← eqv_pd _ _ (okEq_of hz.1).1 (okEq_of hz.2).1] at q
      exact op_neD hu pins s σ0 H _ _ v u Q I rx ry ⟨_, _, by rw [ck]; exact ha.dp S.sub (okEq_of hz.1).1, by rw [ck]; exact hb.dp S.sub (okEq_of hz.2).1, shaped_of hz.1, shaped_of hz.2, q⟩
    · cases hv
  · cases hv; cases ha.int; cases hb.int
    obtain ⟨t, rfl⟩ := rx; obtain ⟨t', rfl⟩ := ry
    exact lt_int ⟨.bl _, H, I, rfl, q⟩
  · cases hv; cases ha.int; cases hb.int
    obtain ⟨t, rfl⟩ := rx; obtain ⟨t', rfl⟩ := ry
    exact le_int ⟨.bl _, H, I, rfl, q⟩
  · cases hv; cases ha.int; cases hb.int
    obtain ⟨t, rfl⟩ := rx; obtain ⟨t', rfl⟩ := ry
    exact gt_int ⟨.bl _, H, I, rfl, q⟩
  · cases hv; cases ha.int; cases hb.int
    obtain ⟨t, rfl⟩ := rx; obtain ⟨t', rfl⟩ := ry
    exact ge_int ⟨.bl _, H, I, rfl, q⟩
  · split at hv
    · rename_i hz
      cases hv
      rw [Bool.and_eq_true] at hz
      obtain ⟨p1, p2⟩ := okEq_of hz.1
      obtain ⟨p3, p4⟩ := okEq_of hz.2
      rw [← any_pd _ p1 _ p3] at q
      obtain ⟨as, r1⟩ := Dp.reads I _ x v (by rw [ck]; exact ha.dp S.sub p1) rx
      obtain ⟨bs, r2⟩ := Dp.reads I _ y u (by rw [ck]; exact hb.dp S.sub p3) ry
      exact SeqAt.in_tuple_reads r2 r1 (lay_pdL _ p3) (lay_pd _ p1) (room_in (by rw [dep_pd]; exact p2) hu) ⟨.bl _, H, I, rfl, q⟩
    · cases hv
  · split at hv
    · rename_i hz
      cases hv
      rw [Bool.and_eq_true] at hz
      obtain ⟨p1, p2⟩ := okEq_of hz.1
      obtain ⟨p3, p4⟩ := okEq_of hz.2
      rw [← any_pd _ p1 _ p3] at q
      obtain ⟨as, r1⟩ := Dp.reads I _ x v (by rw [ck]; exact ha.dp S.sub p1) rx
      obtain ⟨bs, r2⟩ := Dp.reads I _ y u (by rw [ck]; exact hb.dp S.sub p3) ry
      exact SeqAt.in_list_reads r2 r1 (lay_pdL _ p3) (lay_pd _ p1) (room_in (by rw [dep_pd]; exact p2) hu) ⟨.bl _, H, I, rfl, q⟩
    · cases hv
  · split at hv
    · rename_i hz
      cases hv
      rw [Bool.and_eq_true] at hz
      obtain ⟨p1, p2⟩ := okEq_of hz.1
      obtain ⟨p3, p4⟩ := okEq_of hz.2
      rw [← any_pd _ p1 _ p3] at q
      obtain ⟨as, r1⟩ := Dp.reads I _ x v (by rw [ck]; exact ha.dp S.sub p1) rx
      obtain ⟨bs, r2⟩ := Dp.reads I _ y u (by rw [ck]; exact hb.dp S.sub p3) ry
      exact SeqAt.notIn_tuple_reads r2 r1 (lay_pdL _ p3) (lay_pd _ p1) (room_in (by rw [dep_pd]; exact p2) hu) ⟨.bl _, H, I, rfl, q⟩
    · cases hv
  · split at hv
    · rename_i hz
      cases hv
      rw [Bool.and_eq_true] at hz
      obtain ⟨p1, p2⟩ := okEq_of hz.1
      obtain ⟨p3, p4⟩ := okEq_of hz.2
      rw [← any_pd _ p1 _ p3] at q
      obtain ⟨as, r1⟩ := Dp.reads I _ x v (by rw [ck]; exact ha.dp S.sub p1) rx
      obtain ⟨bs, r2⟩ := Dp.reads I _ y u (by rw [ck]; exact hb.dp S.sub p3) ry
      exact SeqAt.notIn_list_reads r2 r1 (lay_pdL _ p3) (lay_pd _ p1) (room_in (by rw [dep_pd]; exact p2) hu) ⟨.bl _, H, I, rfl, q⟩
    · cases hv
  · exact absurd rfl hi
  · exact absurd rfl hn
  · cases hv
/-- x is None -/
theorem RepH.isNon {r : Bool} (h : RepH G F H v d) : decide (v = .non) = (match d with | .non => true | _ => false) := by
  rcases h with h | ⟨a, c, rfl, rfl, _⟩
  · cases h <;> simp
  · cases c <;> simp [Cell.d]

/-! ### truth -/
theorem tru_ok' (C : XC G k X) {r : Bool} (S : Sat G B F e σ H) (h : RepH G F H v d) (ht : truD d = some r) : TruV X.K v H r := by
  rw [C.K]
  unfold truD at ht
  split at ht
  · cases ht; cases h.non; rfl
  · cases ht; cases h.bl; rfl
  · cases ht; cases h.int; rfl
  · cases ht
    obtain ⟨a, vs, rfl, hA, ra⟩ := h.tup S.sub
    refine .inr (.inl ⟨vs, hA, ?_⟩)
    cases ra <;> rfl
  · cases ht
    obtain ⟨a, vs, rfl, hA, ra⟩ := h.lst S.sub
    refine .inl ⟨vs, SqL.of hA, ?_⟩
    cases ra <;> rfl
  · cases ht

/-! ### items -/
theorem ixN_at {α : Type} {xs : List α} {n : Nat} {i : Int} {v : α} {j : Nat} (hn : xs.length = n) (h : PX.ixN n i = some j) (e : xs[j]? = some v) : L2.atI xs i = some v := by
  subst hn
  unfold L2.atI
  have : L2.ixN xs.length i = some j := h
  rw [this]
  exact e
theorem key_of (hk : keyOk d = true) (h : RepH G F H v d) : ∃ q : Key, v = kV q ∧ d = keyD q := by
  cases d with
  | int i => cases h.int; exact ⟨.inl i, rfl, rfl⟩
  | str i => cases h.str; exact ⟨.inr i, rfl, rfl⟩
  | _ => cases hk
theorem keyEq_D (a b : Key) : keyEq (keyD a) (keyD b) = decide (a = b) := by
  cases a <;> cases b <;> simp [keyEq, keyD, Bool.beq_eq_decide_eq]
theorem look_k {q : Key} : ∀ {kvs : List (Key × V)} {ks xs : List D}, RepK G F kvs ks xs → (lookK (keyD q) ks xs = none ∧ valV kvs q = none) ∨ ∃ d v, lookK (keyD q) ks xs = some d ∧ valV kvs q = some v ∧ Rep G F v d
  | _, _, _, .nil => .inl ⟨rfl, rfl⟩
  | _, _, _, .cons (k := k) (v := v) (d := d) hr r => by
    unfold lookK
    rw [keyEq_D]
    by_cases z : k = q
    · right
      rw [decide_eq_true z]
      exact ⟨d, v, by simp, by rw [valV_pos z], hr⟩
    · rw [decide_eq_false z, valV_neg (by exact z)]
      rcases look_k (q := q) r with h | h
      · exact .inl h
      · exact .inr h
theorem ix_dK (hu : X.A.units + 1 < cLine) : IxR X (fun x y H Q => ∃ a v, x = .ref a ∧ DGet H a y (some v) ∧ Q v H) := by
  intro value slice pins s σ H x y v u Q I rx ry h hs
  obtain ⟨a, z, rfl, g, q⟩ := h
  obtain rfl : v = Value.ref a := rx
  exact tail_any (dict_typeIs I g) PySem.F.slot_dict_getitem.lookup (d_getItem hu I g ry fun w' s' I' rw' => ⟨z, H, I', rw', q⟩) hs
theorem idx_ok (C : XC G k X) : IxR X (rB G W fun x y => bnd (ofO (idxD x y)) fun d => ret (.d d)) := by
  intro value slice pins s σ0 H x y v u Q I rx ry h hs
  obtain ⟨B, σ, F, e, da, db, S, ha, hb, h⟩ := h
  obtain ⟨d, hv, h2⟩ := Pr.ofO h
  clear h
  unfold idxD at hv
  split at hv
  · rename_i ds i
    obtain ⟨a, xs, rfl, hA, ra⟩ := ha.tup S.sub
    cases hb.int
    cases hj : PX.ixN ds.length i with
    | none => rw [hj] at hv; cases hv
    | some j =>
      rw [hj] at hv
      obtain ⟨w, hw, rw'⟩ := ra.get (show ds[j]? = some d from hv)
      rw [← C.K] at hA
      exact ix_tup value slice pins s σ0 H _ _ v u Q I rx ry ⟨a, xs, i, w, rfl, rfl, hA, ixN_at ra.length hj hw, fin_d S h2 rw'⟩ hs
  · rename_i ds i
    obtain ⟨a, xs, rfl, hA, ra⟩ := ha.lst S.sub
    cases hb.int
    cases hj : PX.ixN ds.length i with
    | none => rw [hj] at hv; cases hv
    | some j =>
      rw [hj] at hv
      obtain ⟨w, hw, rw'⟩ := ra.get (show ds[j]? = some d from hv)
      exact ix_list value slice pins s σ0 H _ _ v u Q I rx ry ⟨a, xs, i, w, rfl, rfl, SqL.of hA, ixN_at ra.length hj hw, fin_d S h2 rw'⟩ hs
  · rename_i ks xs i
    obtain ⟨a, kvs, rfl, hR, rk⟩ := ha.dct S.sub
    obtain ⟨q, rfl, e2⟩ := key_of (H := H) (d := .int i) rfl hb
    rw [e2] at hv
    rcases look_k (q := q) rk with ⟨z1, _⟩ | ⟨d', w, z1, z2, z3⟩
    · rw [z1] at hv; cases hv
    · rw [z1] at hv; cases hv
      exact ix_dK (X := X) (by have := C.room.units; omega) value slice pins s σ0 H _ _ v u Q I rx ry ⟨a, w, rfl, .inl ⟨kvs, q, hR, rfl, z2.symm⟩, fin_d S h2 z3⟩ hs
  · rename_i ks xs i
    obtain ⟨a, kvs, rfl, hR, rk⟩ := ha.dct S.sub
    obtain ⟨q, rfl, e2⟩ := key_of (H := H) (d := .str i) rfl hb
    rw [e2] at hv
    rcases look_k (q := q) rk with ⟨z1, _⟩ | ⟨d', w, z1, z2, z3⟩
    · rw [z1] at hv; cases hv
    · rw [z1] at hv; cases hv
      exact ix_dK (X := X) (by have := C.room.units; omega) value slice pins s σ0 H _ _ v u Q I rx ry ⟨a, w, rfl, .inl ⟨kvs, q, hR, rfl, z2.symm⟩, fin_d S h2 z3⟩ hs
  · cases hv
theorem sEnd_eq (n d : Nat) (o : Option Int) : sEnd n d o = HT.sIx n d o := by
  cases o <;> rfl
theorem cut_eq (xs : List V) (ds : List D) (lo hi : Option Int) (r : RepL G F xs ds) : RepL G F (cutV xs lo hi) (cutD ds lo hi) := by
  unfold cutV cutD
  rw [sEnd_eq, sEnd_eq, ← r.length]
  exact (r.drop _).take _
/-- what a slice asks -/
def rSl (G : Ct) (W : WX) : V → Option Int → Option Int → Hp → VK → Prop := fun x lo hi H Q => ∃ B σ F e da, Sat G B F e σ H ∧ RepH G F H x da ∧ Pr G B W σ (ofAV (slD da lo hi) e) F (KA G B σ Q)
theorem sl_ok (C : XC G k X) : SlR X (rSl G W) := by
  intro pins s σ0 H x v vl vu lo hi sl Q I rx hs pl pu h
  obtain ⟨B, σ, F, e, da, S, ha, h⟩ := h
  obtain ⟨av, hv, h⟩ := Pr.ofAV h
  unfold slD at hv
  split at hv
  · cases hv
    have fa := ha.tupF
    obtain ⟨a, xs, rfl, hA, ra⟩ := ha.tup S.sub
    rw [← C.K] at hA
    refine sl_tupA pins s σ0 H _ v vl vu _ _ sl Q I rx hs pl pu ⟨a, xs, rfl, hA, fun hw => ?_, fun _ p hp => fin_tup S h (cut_eq xs _ _ _ ra) hp⟩
    have hl := ra.length
    refine fin_d S h ?_
    unfold cutD
    rw [sEnd_eq, sEnd_eq, ← hl, hw.1, hw.2, List.drop_zero, Nat.sub_zero, hl, List.take_length]
    exact fa
  · cases hv
    obtain ⟨a, xs, rfl, hA, ra⟩ := ha.lst S.sub
    exact sl_list pins s σ0 H _ v vl vu _ _ sl Q I rx hs pl pu ⟨a, xs, rfl, SqL.of hA, fun p hp => fin_lst S h (cut_eq xs _ _ _ ra) hp⟩
  · cases hv
end
end PX

end
section
set_option Elab.async false
set_option linter.all false
set_option maxRecDepth 100000
set_option maxHeartbeats 4000000
/-! PXe1: an own error whose __init__ tells its base a text and keeps one field. -/
namespace PX
open PySem PySem.Spec PyProof.Rows L2 PySem.W PySem.Calls PySem.HandSPX

theorem nameB_ok' {x : Str} (h : nameB x = true) : (x == ("__debug__" : Str)) = false := by
  unfold nameB at h
  simp only [Bool.and_eq_true, Bool.not_eq_true'] at h
  exact h.1.1
/-- a part of the text: written, or the field itself -/
def okPart (fld : Str) : Expr → Bool
  | .Constant (.str y) _ _ => decide (y.length ≤ 1000)
  | .FormattedValue (.Name x _) cv none _ => decide (cv = -1) && decide (x = fld)
  | _ => false
/-- the body of __init__ -/
def errB (fld : Str) : List Stmt → Bool
  | [.Expr (.Call (.Attribute (.Call (.Name s _) [] [] _) i p2) [.JoinedStr (v1 :: v2 :: vs) _] [] p4) _, .Assign [.Attribute (.Name s2 _) f _] (.Name y _) _] =>
    decide (s = "super") && decide (i = "__init__") && decide (s2 = "self") && decide (f = fld) && decide (y = fld) && (v1 :: v2 :: vs).all (okPart fld) && decide (vs.length ≤ 10) && (p2.endLine == p4.line)
  | _ => false
/-- the scope of __init__ -/
def errS (fld : Str) (sc : Scope) : Bool := decide (sc.names.lookup ("super" : Str) = some .globalImplicit) && decide (sc.names.lookup ("__class__" : Str) = some .free) && decide (sc.names.lookup ("self" : Str) = some .local) && decide (sc.names.lookup fld = some .local) &&
  sc.names.all (fun x => decide (x.2 ≠ .cell)) && !sc.isCoroutine && !sc.isGenerator && decide (sc.kind = .function) && nameB fld && decide (fld ≠ "self")
def errF (fld : Str) (st : Stmt) : Bool := errB fld (defBody st) && errS fld (defScope st)
/-- a value that the text bears -/
def FmtV (v : Value) : Prop := (∃ y t, v = .str y t ∧ y.length ≤ 1000) ∨ ∃ i t, v = .int i t ∧ i.natAbs.log2 < 1920 ∧ (toString i : Str).length ≤ 1000
/-- what the written part says of an error class at C, x its name -/
structure ErrT (P : Program) (K : Frag) (mg : Str → Option Value) (x : Str) (C fI : Addr) (st : Stmt) (fld : Str) : Prop where
  gC : mg x = some (.ref C)
  cls : ∃ nm q N bs bm sn sub ab col dd k0 k1 k2 k3 k5, K.lookup C = some (excClassObj nm q C N bs bm true sn sub ab col dd k0 k1 k2 k3 k5 "ValueError.__new__") ∧ refsVE bm = true
  sa : findIn K (.ref C) "__setattr__" = some (some (.builtin "object.__setattr__"))
  ga : findIn K (.ref C) "__getattribute__" = some (some (.builtin "BaseException.__getattribute__"))
  gg : findIn K (.ref C) "__getattr__" = some none
  noN : findIn K (.ref C) fld = some none
  iC : findIn K (.ref C) "__init__" = some (some (.ref fI))
  tC : typeIn K (.ref fI) = some (.type "function")
  kC : keepIn K (.ref C) = true
  exC : subIn K (.ref C) (.type "BaseException") = some true
  veC : subIn K (.ref C) (.type "ValueError") = some true
  tyC : typeIn K (.ref C) = some (.type "type")
  hdC : hasDictIn K C = true
  mro : mroIn K C (.ref C) = some true
  sup : ks_superIn K C C "__init__" = some (some (.builtin "ValueError.__init__"))
  opq : nsIn K cStatics "thirdparty.any" = some none
  noS : mg "super" = none
  top : (P.main.scope.names.lookup ("super" : Str)).isSome = false
  fn : ∃ (qual : Str) (oc : Value) (od an cdd cld : Option Addr) (kV doc pm ct ccl cl : Value) (cda cc : Addr) (osl ccs csl : Array (Option Value)) (vs : Array Value) (file : Str) (tf : Tok),
    K.lookup fI = some ⟨oc, od, .func (ksFn "__init__" qual (defArgs st) (defBody st) (defScope st) .none kV doc pm an (.ref cda) ct cc), osl⟩ ∧ codeIn K (.ref cda) qual = true ∧
    K.lookup cda = some ⟨ccl, cdd, .fields vs, ccs⟩ ∧ vs[2]? = some (.str file tf) ∧ ((P.main.file : Str) == file) = true ∧ K.lookup cc = some ⟨cl, cld, .cell (some (.ref C)), csl⟩
  par : ∃ ar, ((defArgs st).posonlyargs ++ (defArgs st).args).head? = some ar ∧ ar.arg = "self"
  bnd : ∀ (qual : Str) (cda cc : Addr) (kV doc pm ct : Value) (an : Option Addr) (s : Shared) (x v : Value), BindsTo s (ksFn "__init__" qual (defArgs st) (defBody st) (defScope st) .none kV doc pm an (.ref cda) ct cc) ⟨[x, v], []⟩ [("self", x), (fld, v)]
  ck : errF fld st = true
/-- what __init__ leaves of a fresh exception at x -/
structure ErrEnd (fld : Str) (h h' : Heap) (x C dx t1 : Addr) (v : Value) : Prop where
  keep : ∀ b o, b ≠ x → h.get? b = some o → h'.get? b = some o
  obj : h'.get? x = some { cls := .ref C, dict := some dx, data := .fields #[.ref t1, .none, .none, .none, .bool false, .none] }
  big : h.objs.size ≤ dx
  ne : dx ≠ x
  ns : h'.Ns1 dx (fun y => if y = fld then some v else none)
structure ErrMade (fld : Str) (h h' : Heap) (e C d : Addr) (v : Value) : Prop where
  keep : ∀ b o, h.get? b = some o → h'.get? b = some o
  new : h.objs.size ≤ e
  obj : ∃ oe vs, h'.get? e = some oe ∧ oe.cls = .ref C ∧ oe.dict = some d ∧ oe.data = .fields vs ∧ vs[1]? = some .none
  big : h.objs.size ≤ d
  ne : d ≠ e
  ns : h'.Ns1 d (fun y => if y = fld then some v else none)
section
variable {prog : Program} {w : World} {M : Model} {A : Around} {E : Value → Shared → Prop} {R : Result → Shared → Prop} {s : Shared} {K : Frag} {mg : Str → Option Value} {C fI : Addr} {x0 fld : Str} {st : Stmt}
theorem superCall_eq (o : Expr) (name : Str) (apos pos p3 : Pos) (vs : List Expr) (env : PySem.Env) (hl : (apos.endLine == pos.line) = true) : eval (.Call (.Attribute o name apos) [.JoinedStr vs p3] [] pos) env = (do
      let ov ← attributeBase o name env (eval o env)
      standAt apos.atName
      let (f, first) ← holding [ov] (getMethod ov name (do return (← importBound o env).getD true))
      callWith pos f first (backTo pos (starEach [.JoinedStr vs p3] env)) []) := by
  rw [arm_eval_Call]
  unfold methodCall
  have e1 : methodCallForm ([Expr.JoinedStr vs p3].length + ([] : List Keyword).length) (backTo pos (starEach [Expr.JoinedStr vs p3] env)) (backToKw pos (keywordEach [] env)) = true := rfl
  rw [e1]
  have e2 : methodCallPos true o env apos pos = pure pos := by unfold methodCallPos; rw [hl]; rfl
  rw [e2]
  rfl
/-- the parts of the text, one behind the other -/
theorem parts_ok {env : PySem.Env} {m : Str → Option Value} {v : Value} (hv : FmtV v) (hk : env.scope.kind = .function) (hl : env.kindOf fld = some .local) (hm : m fld = some v) (hd : (fld == ("__debug__" : Str)) = false) :
    ∀ (ps : List Expr) (acc : Str) (s : Shared) (Q : Str → Shared → Prop), s.heap.Ns env.locals m → ps.all (okPart fld) = true → acc.length + 1000 * ps.length ≤ 100000 →
    (∀ out tk, out.length ≤ 100000 → Q out { s with toks := tk }) → Joins (model prog w) A E (evalEach ps env) acc Q s
  | [], acc, s, Q, _, _, hz, k => by
    have e0 : evalEach [] env = [] := by first | rfl | simp [evalEach]
    rw [e0]
    exact k acc s.toks (by simpa using hz)
  | p :: ps, acc, s, Q, hn, hp, hz, k => by
    have e0 : evalEach (p :: ps) env = eval p env :: evalEach ps env := by first | rfl | simp [evalEach]
    rw [e0]
    rw [List.all_cons, Bool.and_eq_true] at hp
    rw [List.length_cons] at hz
    have more : ∀ (y : Str) (t : Tok) (tk : Nat), y.length ≤ 1000 →
        ∃ y' t', Value.str y t = .str y' t' ∧ (acc ++ y').length ≤ sizeLine ∧ Joins (model prog w) A E (evalEach ps env) (acc ++ y') Q { s with toks := tk } := fun y t tk hy => by
      have hl' : (acc ++ y).length = acc.length + y.length := strLen_append _ _
      refine ⟨y, t, rfl, ?_, parts_ok hv hk hl hm hd ps (acc ++ y) { s with toks := tk } Q hn hp.2 (by rw [hl']; omega) fun out tk' hz' => k out tk' hz'⟩
      rw [hl', sizeLine_eq]; omega
    cases p with
    | Constant c j q =>
      cases c with
      | str y =>
        have hy : y.length ≤ 1000 := by simpa [okPart] using hp.1
        exact wpAny_Constant_str (more y _ _ hy)
      | _ => exact absurd hp.1 (by simp [okPart])
    | FormattedValue x cv sp q =>
      cases sp with
      | some _ => exact absurd hp.1 (by cases x <;> simp [okPart])
      | none =>
        cases x with
        | Name y q2 =>
          have hh : cv = -1 ∧ y = fld := by simpa [okPart] using hp.1
          obtain ⟨rfl, rfl⟩ := hh
          refine wpAny_FormattedValue_plain (wpAny_Name (wpAny_loadName_local hk hl hn hm ?_) hd)
          rcases hv with ⟨z, t, rfl, hz2⟩ | ⟨i, t, rfl, h1, h2⟩
          · exact wpAny_formatField_str (more z t s.toks hz2) (more z _ _ hz2) (by rw [sizeLine_eq]; omega)
          · exact wpAny_formatField_int h1 (more _ _ _ h2)
        | _ => exact absurd hp.1 (by simp [okPart])
    | _ => exact absurd hp.1 (by simp [okPart])
theorem errB_ok {body : List Stmt} (h : errB fld body = true) : ∃ (p0 p1 p2 p3 p4 p5 q1 q2 q3 q4 : Pos) (v1 v2 : Expr) (vs : List Expr),
    body = [.Expr (.Call (.Attribute (.Call (.Name "super" p0) [] [] p1) "__init__" p2) [.JoinedStr (v1 :: v2 :: vs) p3] [] p4) p5, .Assign [.Attribute (.Name "self" q1) fld q2] (.Name fld q3) q4] ∧ (v1 :: v2 :: vs).all (okPart fld) = true ∧ vs.length ≤ 10 ∧ (p2.endLine == p4.line) = true := by
  unfold errB at h
  split at h
  · simp only [Bool.and_eq_true, decide_eq_true_eq] at h
    obtain ⟨⟨⟨⟨⟨⟨⟨rfl, rfl⟩, rfl⟩, rfl⟩, rfl⟩, h1⟩, h2⟩, h3⟩ := h
    exact ⟨_, _, _, _, _, _, _, _, _, _, _, _, _, rfl, h1, h2, h3⟩
  · cases h
theorem mwCalled {u e t0 : Addr} {rest : List Value} {h : Heap} {g : Array GenState} {d : Drawn} {t : Nat} {os : OsState} {nm q : Str} {N : Addr} {bs bm : List Value} {sn : List Str} {sub : List Value} {ab : Bool} {col : Option Bool} {dd : Option Addr} {k0 k1 k2 k3 k5 : Option Value} {Q : Value → Shared → Prop}
    (hC : h.get? C = some (excClassObj nm q C N bs bm true sn sub ab col dd k0 k1 k2 k3 k5 "ValueError.__new__")) (he : h.get? e = some (excO C t0)) (hu : h.get? u = some (kxs_mw "ValueError.__init__" e)) (hrest : rest.length ≤ sizeLine)
    (hq : ∀ h' t1, (∀ b o, b ≠ e → h.get? b = some o → h'.get? b = some o) → h'.get? e = some (excO C t1) → Q .none ⟨h', g, d, t, os⟩) :
    wpAny (model prog w) A (call (.ref u) rest) Q E ⟨h, g, d, t, os⟩ := by
  refine wpAny_call (codeAny_of_tree ?_)
  show wpAny _ A.in1 (callAny (.ref u) ⟨rest, []⟩) _ _ _
  simp only [callAny]
  refine wpAny_bind (wpAny_load hu ?_)
  simp only [kxs_mw, show (Value.type "method-wrapper" == Value.type "method" || Value.type "method-wrapper" == Value.type "builtin_function_or_method" || Value.type "method-wrapper" == Value.type "method-wrapper") = true by decide, if_true]
  refine KFB.if_so (by decide) ?_
  refine wpAny_bind (check_bound_init F.excBase_ValueError.toExcCallFacts hC he rfl ?_)
  refine wpAny_bind (wpAny_pure (wpAny_pure ?_))
  refine ⟨plainId_quiet F.excBase_ValueError.init.plain _, codeAny_builtin F.excBase_ValueError.initEntry ?_⟩
  exact exc_init_tree (cls := .ref C) (t0 := t0) (dv := none) (c2 := .none) (c3 := .none) (b4 := .bool false) he hrest fun h' k e' _ => hq h' _ k e'
theorem mwArgs {i : String} {u x : Addr} {pos : Pos} {env : PySem.Env} {e : Expr} {Q : Value → Shared → Prop}
    (h : wpAny M A (spliced (backTo pos (starEach [e] env))) (fun vs s1 => KxsAt i u x s1.heap ∧ wpAny M A (call (.ref u) vs) Q E s1) E s)
    (he : starEach [e] env = (false, eval e env) :: starEach [] env := by rfl) :
    wpAny M A (callWith pos (.ref u) [] (backTo pos (starEach [e] env)) []) Q E s := by
  rw [he] at h ⊢
  exact kxs_callWith (i := i) (x := x) (by rfl) (evalArgs_plain h)
theorem err_init (T : ErrT prog K mg x0 C fI st fld) {x t0 : Addr} {v : Value} (X : K.In s.heap) (hlim : s.heap.NoLimit) (hx : s.heap.get? x = some (excO C t0)) (hnx : K.lookup x = none) (hroom : A.depth < recursionLimit) (hg : s.heap.Ns mainGlobals mg)
    (hb : ∃ mb, s.heap.Ns builtinsNs mb ∧ ∀ y : Str, y ≠ "__name__" → mb y = bootBuiltins y) (hv : FmtV v)
    (hq : ∀ h' tk dx t1, ErrEnd fld s.heap h' x C dx t1 v → R (.ok (.ret .none)) { s with heap := h', toks := tk }) : codeAny (model prog w) A (.call (.ref fI) ⟨[.ref x, v], []⟩) R s := by
  obtain ⟨qual, oc, od, an, cdd, cld, kV, doc, pm, ct, ccl, cl, cda, cc, osl, ccs, csl, vs, file, tf, hf, hcd, hcda, hvs, hfile, hcc⟩ := T.fn
  obtain ⟨nm, q, N, bs, bm, sn, sub, ab, col, dd, k0, k1, k2, k3, k5, hC, hbm⟩ := T.cls
  obtain ⟨ar, hpar, har⟩ := T.par
  have hck := T.ck
  unfold errF errS at hck
  simp only [Bool.and_eq_true, decide_eq_true_eq, Bool.not_eq_true', List.all_eq_true] at hck
  obtain ⟨hB, ⟨⟨⟨⟨⟨⟨⟨⟨⟨s1, s2⟩, s3⟩, s4⟩, s5⟩, s6⟩, s7⟩, s8⟩, s9⟩, s10⟩⟩ := hck
  obtain ⟨p0, p1, p2, p3, p4, p5, q1, q2, q3, q4, v1, v2, vr, hbody, hparts, hlen, hline⟩ := errB_ok hB
  have d1 := nameB_ok' s9
  have hcl : clsIn K C = some { name := nm, bases := bs, mro := .ref C :: bm, ns := N, qualname := q, hasDict := true, slotNames := sn, subclasses := sub, abstract := ab, collection := col, hasDel := false } := by unfold clsIn; rw [hC] <;> rfl
  refine ks_codeAny_call_defAt (binds := [("self", .ref x), (fld, v)]) hroom (X _ _ hf) rfl hlim (codeRec_of X hcd) rfl (T.bnd _ _ _ _ _ _ _ _ _ _ _) s5 ?_ (fun h₁ hns k => ?_) s6 s7 s8
  · intro y hy
    rcases List.mem_cons.mp hy with rfl | hy
    · exact s3
    · rcases List.mem_cons.mp hy with rfl | hy
      · exact s4
      · cases hy
  have X₁ : K.In h₁ := X.keeps k
  have hx₁ := k _ _ hx
  have hxC : x ≠ C := fun z => by
    have := X₁ _ _ hC
    rw [← z, hx₁] at this
    cases this
  obtain ⟨mb, hb1, hb2⟩ := hb
  let env := ksEnv qual (defScope st) s.heap.objs.size fI (.ref cda) cc
  show _root_.PySem.wpAt (model prog w) (A.deeper env) (.func (defBody st) env) (execs (defBody st) env) _ _ _
  rw [hbody]
  have hself : ([("self", Value.ref x), (fld, v)] : List (Str × Value)).reverse.lookup ("self" : Str) = some (Value.ref x) := by
    show List.lookup ("self" : Str) [(fld, v), ("self", Value.ref x)] = _
    have : (("self" : Str) == fld) = false := by simpa using Ne.symm s10
    simp [List.lookup, this]
  have hfld : ([("self", Value.ref x), (fld, v)] : List (Str × Value)).reverse.lookup fld = some v := by
    show List.lookup fld [(fld, v), ("self", Value.ref x)] = _
    simp [List.lookup]
  refine ks_wpAt_execs_cons (ks_wpAt_Expr_any ?_ ?_)
  · refine ks_wpAt_MethodCall ?_ (superCall_eq _ _ _ _ _ _ _ hline)
    refine ks_wpAt_super_base (env := env) (f := fI) s1 s2 (by decide) rfl (X₁ _ _ hf) rfl hpar rfl (X₁ _ _ hcda) rfl hvs hfile T.top ?_
    refine ks_loadName_global s8 s1 (loadGlobal_builtin (env := env) (hg.keeps k) T.noS (hb1.keeps k) ((hb2 _ (by decide)).trans (by rfl)) ⟨rfl, ?_⟩)
    refine wpAny_loadName_free s8 s2 rfl ⟨_, X₁ _ _ hcc, rfl⟩ ?_
    rw [har]
    refine wpAny_loadName_local s8 s3 hns hself ?_
    refine ks_wpAny_isType_cls (X₁ _ _ hC) rfl ⟨rfl, ?_⟩
    refine ks_wpAny_call_super (X₁ _ _ hC) rfl hx₁ rfl (fun c e => by cases e) (looks_mroIn X₁ T.mro) (fun h₂ e₂ k₂ => ?_)
    have X₂ : K.In h₂ := X₁.keeps k₂
    have hx₂ := k₂ _ _ hx₁
    have I₂ : InstAt h₂ x (excO C t0) C none := ⟨hx₂, rfl, rfl, trivial⟩
    have hsup := T.sup
    unfold ks_superIn at hsup
    rw [hcl] at hsup
    refine kxs_getMethod kxs_ValueError e₂ (looks_opaque X₂ T.opq) (l₀ := .ref C :: bm) (fun A Q E s k q => wpAny_bind ((looks_clsIn X₂ hcl) A _ E s k (wpAny_pure q))) rfl X₂ hsup (I₂.type.andThen (looks_subIn X₂ T.veC)) hxC (by decide) ?_
    have k₃ : ∀ b o, h₂.get? b = some o → (h₂.push (kxs_mw "ValueError.__init__" x)).get? b = some o := fun b o z => Heap.get?_push_of_some _ z
    have hu : (h₂.push (kxs_mw "ValueError.__init__" x)).get? h₂.objs.size = some (kxs_mw "ValueError.__init__" x) := Heap.get?_push_at rfl rfl
    refine mwArgs (i := "ValueError.__init__") (x := x) ?_
    refine spliced_more ?_
    refine wpAny_JoinedStr (parts_ok (env := env) (m := fun y => ([("self", Value.ref x), (fld, v)] : List (Str × Value)).reverse.lookup y) hv s8 s4 hfld d1 (v1 :: v2 :: vr) _ _ _ ((hns.keeps k₂).keeps k₃) hparts ?_ fun out tk hout => ?_)
    · show 0 + 1000 * (vr.length + 1 + 1) ≤ 100000
      omega
    refine ⟨by rw [sizeLine_eq]; omega, spliced_none ?_⟩
    refine ⟨hu, ?_⟩
    refine mwCalled (k₃ _ _ (X₂ _ _ hC)) (k₃ _ _ hx₂) hu (by rw [sizeLine_eq]; exact (by decide : 1 ≤ 16777216)) fun h₄ t1 k₄ e₄ => ?_
    -- self.f = f
    have hL : ∀ {b : Addr} {o : Obj}, s.heap.get? b = some o → b ≠ x → h₄.get? b = some o := fun {b o} e z => k₄ _ _ z (k₃ _ _ (k₂ _ _ (k _ _ e)))
    have X₄ : K.In h₄ := fun b o e => k₄ _ _ (fun z => by rw [z, hnx] at e; cases e) (k₃ _ _ (X₂ _ _ e))
    have hLx : s.heap.objs.size ≠ x := Nat.ne_of_gt (Heap.lt_size hx)
    have hns₄ : h₄.Ns env.locals (fun y => ([("self", Value.ref x), (fld, v)] : List (Str × Value)).reverse.lookup y) := by
      obtain ⟨oL, es, ep, hLo, r⟩ := (hns.keeps k₂).keeps k₃
      exact ⟨oL, es, ep, k₄ _ _ hLx hLo, r⟩
    refine wpAt_of_wpAny (wpAny_execs_cons (plainObj_wpAny_Assign_Attribute ?_ ?_))
    · refine wpAny_Name (wpAny_loadName_local (env := env) s8 s4 hns₄ hfld ?_) d1
      refine wpAny_Name (wpAny_loadName_local (env := env) s8 s3 hns₄ hself ?_) (by decide)
      refine set_plain X₄ (ox := excO C t1) (od := none) ⟨e₄, rfl, rfl, trivial⟩ T.sa ?_
      refine exc_osa X₄ e₄ hcl (show refsVE (.ref C :: bm) = true from hbm) rfl T.noN (fun h₅ tk₅ dx k₅ dn dne hx₅ hn₅ => ?_)
      refine wpAny_execs_nil ?_
      refine hq h₅ tk₅ dx t1 ⟨fun b o hb e => k₅ b o hb (hL e hb), hx₅, ?_, dne, hn₅⟩
      have z : s.heap.objs.size < h₄.objs.size := hns₄.lt
      exact Nat.le_of_lt (Nat.lt_of_lt_of_le z dn)
    · rfl
  · unfold interactive
    have hk : (env.scope.kind == ScopeKind.module) = false := by
      show ((defScope st).kind == ScopeKind.module) = false
      rw [s8]; rfl
    rw [hk]; rfl
theorem err_made (T : ErrT prog K mg x0 C fI st fld) {v : Value} (X : K.In s.heap) (hlim : s.heap.NoLimit) (hroom : A.depth + 1 < recursionLimit) (hg : s.heap.Ns mainGlobals mg)
    (hb : ∃ mb, s.heap.Ns builtinsNs mb ∧ ∀ y : Str, y ≠ "__name__" → mb y = bootBuiltins y) (hv : FmtV v)
    (hq : ∀ h' tk e d, ErrMade fld s.heap h' e C d v → R (.ok (.ret (.ref e))) { s with heap := h', toks := tk }) :
    codeAny (model prog w) A (.call (.ref C) ⟨[v], []⟩) R s := by
  obtain ⟨nm, q, N, bs, bm, sn, sub, ab, col, dd, k0, k1, k2, k3, k5, hC, hbm⟩ := T.cls
  obtain ⟨hp, g, dr, tk, os⟩ := s
  have k : ∀ b o, hp.get? b = some o → ((hp.push (kdv_tup [v])).push (excO C hp.objs.size)).get? b = some o := fun b o e => Heap.get?_push_of_some _ (Heap.get?_push_of_some _ e)
  have at1 : ((hp.push (kdv_tup [v])).push (excO C hp.objs.size)).get? (hp.objs.size + 1) = some (excO C hp.objs.size) := by heap_get
  have hnx : K.lookup (hp.objs.size + 1) = none := by
    cases e : K.lookup (hp.objs.size + 1) with
    | none => rfl
    | some o => exact absurd (Nat.lt_of_succ_lt (Heap.lt_size (show hp.get? (hp.objs.size + 1) = some o from X _ _ e))) (Nat.lt_irrefl _)
  have one : [v].length ≤ sizeLine := by
    rw [sizeLine_eq]
    exact (by decide : 1 ≤ 16777216)
  obtain ⟨mb, hb1, hb2⟩ := hb
  refine call_own F.excBase_ValueError (fun Y => refsVE_contains Y bm hbm) (X _ _ hC) (looks_findIn X T.iC) (fun self => bind_fn X self T.tC) one ?_
  refine err_init (s := ⟨(hp.push (kdv_tup [v])).push (excO C hp.objs.size), g, dr, tk, os⟩) T (X.keeps k) (hlim.keeps k) at1 hnx ?_ (hg.keeps k) ⟨mb, hb1.keeps k, hb2⟩ hv fun h' tk' dx t1 M => ?_
  · show A.depth + 1 < recursionLimit
    exact hroom
  · have old : ∀ b o, hp.get? b = some o → h'.get? b = some o := fun b o e => M.keep b o (Nat.ne_of_lt (Nat.lt_succ_of_lt (Heap.lt_size e))) (k b o e)
    have z : hp.objs.size + 1 + 1 ≤ dx := by
      have q := M.big
      first
        | (simpa only [Heap.size_push] using q)
        | exact q
        | (rw [Heap.size_push, Heap.size_push] at q; exact q)
    exact ⟨rfl, hq h' tk' (hp.objs.size + 1) dx ⟨old, Nat.le_succ _, ⟨_, _, M.obj, rfl, rfl, rfl, rfl⟩, Nat.le_trans (Nat.le_trans (Nat.le_succ _) (Nat.le_succ _)) z, M.ne, M.ns⟩⟩
end
/-! ### C(e), as an exception that is raised -/
def fmtV (v : V) : Prop := (∃ y, v = .str y ∧ y.length ≤ 1000) ∨ ∃ i : Int, v = .int i ∧ i.natAbs.log2 < 1920 ∧ (toString i : Str).length ≤ 1000
def tMkErr (C : Addr) (fld : Str) (ta : TA) : L2.St → Hp → XK → Prop := fun σ H Q => ta σ H fun vs H1 => ∃ v, vs = [v] ∧ fmtV v ∧ ∀ d, H1 d = none → Q (.ref C) (some d) (upd H1 d (.xd [(fld, v)]))
theorem relO_one {fld : Str} {v : V} {v' : Value} (r : RelV v v') (f : Str) : RelO (List.lookup f [(fld, v)]) (if f = fld then some v' else none) := by
  by_cases hw : f = fld
  · subst hw
    have q : List.lookup f [(f, v)] = some v := by simp [List.lookup]
    rw [if_pos rfl, q]
    exact r
  · have qw : (f == fld) = false := by simpa using hw
    have q2 : List.lookup f [(fld, v)] = none := by simp [List.lookup, qw]
    rw [if_neg hw, q2]
    trivial
section
variable {X : Cx} {C fI : Addr} {x fld : Str} {st : Stmt}
theorem pmk_err {a : Expr} {ta : TA} {p pos : Pos} {k : Nat} (T : ErrT X.prog X.K X.mg x C fI st fld) (hr : Room (k + 1) X.A) (ha : PA X [a] ta) (hg : Gl X x) (hd : (x == ("__debug__" : Str)) = false)
    (he : starEach (a :: []) X.env = (false, eval a X.env) :: starEach [] X.env) :
    PMk X (.Call (.Name x p) [a] [] pos) (tMkErr C fld ta) := by
  intro pins s σ H Q I h
  refine wpAny_Call_Name_kw (ld_glob I hg T.gC ?_ hd)
  refine callWith_K (h₀ := X.base) I.ok.mod.kin T.kC (thn (ha.run pos pins s σ H _ I h) fun us s1 hh => ?_) he (by rfl)
  obtain ⟨vs, H1, I1, r1, v, ev, hf, q1⟩ := hh
  subst ev
  refine ⟨I1.kIn, ?_⟩
  cases r1 with
  | cons rv rn =>
    rename_i v' us'
    cases rn
    show wpAny _ _ (call (.ref C) [v']) _ _ _
    have hfv : FmtV v' := by
      rcases hf with ⟨y, rfl, hy⟩ | ⟨i, rfl, h1, h2⟩
      · obtain ⟨t, rfl⟩ := rv; exact .inl ⟨y, t, rfl, hy⟩
      · obtain ⟨t, rfl⟩ := rv; exact .inr ⟨i, t, rfl, h1, h2⟩
    have hlim := I1.nolimit
    have hgl := I1.ok.mod.glob.keeps I1.bk
    obtain ⟨mb, hb1, hb2⟩ := I1.ok.mod.blt
    have hbl := hb1.keeps I1.bk
    obtain ⟨hp, g, dr, tk, os⟩ := s1
    refine wpAny_call (err_made T I1.kIn hlim (by have := hr.dp; omega) hgl ⟨mb, hbl, hb2⟩ hfv fun h' tk' e d M => ?_)
    show MkP X pins σ Q (.ref e) ⟨h', g, dr, tk', os⟩
    obtain ⟨oe, fv, hoe, hc, hd', hdat, h1⟩ := M.obj
    have hns := M.ns
    obtain ⟨G', g1, g2⟩ := restrict h' fun b => decide (b ≠ e)
    have gk : ∀ b, b ≠ e → G'.get? b = h'.get? b := fun b hb => g1 b (decide_eq_true hb)
    have ge : G'.get? e = none := g2 e (by simp)
    have old : ∀ b o, hp.get? b = some o → G'.get? b = some o := fun b o q => (gk b (Nat.ne_of_lt (Nat.lt_of_lt_of_le (Heap.lt_size q) M.new))).trans (M.keep b o q)
    have ob : ObjOk X.prog X.w (upd H1 d (.xd [(fld, v)])) G' d (.xd [(fld, v)]) :=
      ⟨_, hns.at (fun o q => (gk d M.ne).trans q), fun f => relO_one rv f⟩
    have J : Inv X pins σ (upd H1 d (.xd [(fld, v)])) ⟨G', g, dr, tk', os⟩ := I1.laid (t' := tk') old M.big ob
    refine ⟨e, oe, fv, ⟨G', g, dr, tk', os⟩, _, .ref C, some d, rfl, J, fun b o q => ?_, ge, hoe, ⟨hc, hd'⟩, hdat, h1, ?_, rfl, I1.bare, raises_own T.exC T.tyC, q1 d (I1.hok.fresh M.big)⟩
    · by_cases hb : b = e
      · have q' : G'.get? b = some o := q
        rw [hb, ge] at q'; cases q'
      · exact (gk b hb).symm.trans q
    · rw [upd_ne (Ne.symm M.ne)]
      exact I1.hok.fresh M.new
/-- e.f, e the exception that the suite holds (at a; its class cls, its dict d) -/
def tFldE (C : Addr) (a : Addr) (cls : Value) (d : Option Addr) (fld : Str) (te : TE) : TE := fun σ H Q => te σ H fun x H1 => x = .ref a ∧ cls = .ref C ∧ ∃ (dd : Addr) (v : V), d = some dd ∧ H1 dd = some (.xd [(fld, v)]) ∧ Q v H1
theorem pe_fldE {a : Addr} {oe : Obj} {cls : Value} {d : Option Addr} {pn : List (Addr × Obj)} {e : Expr} {te : TE} {pos : Pos} (T : ErrT X.prog X.K X.mg x C fI st fld) (hz : Zc cls d oe) (hf : ∃ vs, oe.data = .fields vs) (he : PE (X.suite a ((a, oe) :: pn)) e te)
    (hb : attributeBase e fld X.env (eval e X.env) = eval e X.env) :
    PE (X.suite a ((a, oe) :: pn)) (.Attribute e fld pos) (tFldE C a cls d fld te) := by
  refine ⟨fun pins s σ H Q I h => ?_⟩
  refine attr_of hb (thn (he.run pins s σ H _ I h) fun u s1 hh => ?_)
  obtain ⟨x, H1, I1, rx, ex, ec, dd, v, ed, ea, q⟩ := hh
  subst ex
  obtain rfl : u = Value.ref a := rx
  subst ec
  subst ed
  obtain ⟨ha, _⟩ := I1.pin (a, oe) (List.mem_append_left _ List.mem_cons_self)
  obtain ⟨vs, hd⟩ := hf
  have hx : ObjOk X.prog X.w H1 s1.heap dd (.xd [(fld, v)]) := I1.hok dd _ ea
  obtain ⟨mA, hns, hr⟩ := hx
  obtain ⟨od, ho, hl⟩ := lookIn_ns hns
  have l : List.lookup fld [(fld, v)] = some v := by simp [List.lookup]
  obtain ⟨u, hu, ru⟩ := RelO.some_of (v := v) (o := mA fld) (by rw [← l]; exact hr fld)
  have J : PySem.W.InstAt s1.heap a oe C (some od) := ⟨ha, hz.1, by unfold PySem.W.notCls; rw [hd] <;> rfl, by rw [hz.2]; exact ho⟩
  exact HandSPX.exc_get I1.kIn J T.ga T.gg T.exC (PySem.W.findObj_own T.hdC T.noN rfl (by rw [hl, hu])) (handed_of ru) ⟨v, H1, I1.tok _, ru, q⟩
end
end PX

end
section
set_option Elab.async false
set_option linter.all false
set_option maxRecDepth 100000
set_option maxHeartbeats 4000000
/-! PXe2: a try whose clauses give the exception a name, as many as there are. -/
namespace PX
open PySem PySem.Spec PyProof.Rows L2

/-- a clause: the class, the slot of its name, what its suite wishes -/
structure Cla where
  c : Value
  i : Nat
  ts : Addr → Value → Option Addr → TS
/-- the name goes behind the suite -/
def offS (i : Nat) (D : Ends) : Ends := { nx := fun σ H => D.nx (σ.set i none) H, rt := D.rt, bk := fun σ H => D.bk (σ.set i none) H, ct := fun σ H => D.ct (σ.set i none) H }
def wCla (K : PySem.W.Frag) (Wout : WX) (D : Ends) : List Cla → WX
  | [] => Wout
  | q :: r => fun cls d σ H => ∃ b, PySem.W.exmOne K cls q.c = some b ∧ (b = true → ∀ a, H a = none → q.ts a cls d (offS q.i D) (σ.set q.i (some (.ref a))) H) ∧ (b = false → wCla K Wout D r cls d σ H)
inductive ClaOk (X : Cx) : List ExceptHandler → List Cla → Prop
  | nil : ClaOk X [] []
  | cons {x n : Str} {q : Cla} {b₀ : Stmt} {suite : List Stmt} {np hp : Pos} {hds : List ExceptHandler} {l : List Cla} (hi : X.N[q.i]? = some n) (hl : X.env.kindOf n = some .local) (hc : Names X x q.c)
      (hsu : ∀ (a : Addr) (oe : Obj) (cls : Value) (d : Option Addr) (pn : List (Addr × Obj)), Zc cls d oe → (∃ vs, oe.data = .fields vs) → PSs (X.suite a ((a, oe) :: pn)) (b₀ :: suite) (q.ts a cls d)) (r : ClaOk X hds l) :
      ClaOk X (.ExceptHandler (some (.Name x np)) (some n) (b₀ :: suite) hp :: hds) (q :: l)
section
variable {X : Cx} {pins : List (Addr × Obj)} {D : Ends} {Wout : WX} {σ : L2.St} {H : Hp} {cls : Value} {d : Option Addr} {a : Addr} {B : Heap} {sI s' : Shared} {h3 : Heap}
/-- an exception in hand, noted at this frame -/
structure InHand (X : Cx) (pins : List (Addr × Obj)) (σ : L2.St) (H : Hp) (cls : Value) (d : Option Addr) (a : Addr) (B : Heap) (sI s' : Shared) (h3 : Heap) : Prop where
  J : Inv X pins σ H sI
  nb : ∀ b o, sI.heap.get? b = some o → b ∉ frs X.stack → B.get? b = some o
  up : sI.heap.UpToSlots h3
  fl : HandSPX.FlyingZ B (X.env :: X.outer) a (Zc cls d) h3
  na : H a = none
  os : s'.os = sI.os
  ag : AllBare s'.gens
theorem InHand.at_ (Z : InHand X pins σ H cls d a B sI s' h3) (hf : X.env.frame = some X.env.locals) : Inv X pins σ H { s' with heap := h3 } ∧ (∃ oe vs, h3.get? a = some oe ∧ Zc cls d oe ∧ oe.data = .fields vs) ∧ a ≠ X.env.locals ∧ a ∉ X.fs := by
  obtain ⟨oe, vs, e1, e2, e3⟩ := Z.fl.there
  have out : a ∉ frs (X.env :: X.outer) := fun hm => by
    obtain ⟨_, o', e', hnf⟩ := Z.fl.2.2.1.mem hm
    rw [e1] at e'; cases e'
    exact hnf _ e3
  refine ⟨Z.J.landed Z.nb Z.fl.1 Z.up Z.os Z.ag, ⟨oe, vs, e1, e2, e3⟩, fun z => ?_, fun hm => ?_⟩
  · exact out (List.mem_filterMap.mpr ⟨X.env, List.mem_cons_self, by rw [hf, z]⟩)
  · obtain ⟨e, he, q⟩ := List.mem_filterMap.mp hm
    exact out (List.mem_filterMap.mpr ⟨e, List.mem_cons_of_mem _ he, q⟩)
theorem clauses (hN : X.N.Nodup) (hst : X.stack = X.env :: X.outer) (hf : X.env.frame = some X.env.locals) (tk : Takes X Wout) (Z : InHand X pins σ H cls d a B sI s' h3) :
    ∀ {hds : List ExceptHandler} {l : List Cla}, ClaOk X hds l → wCla X.K Wout D l cls d σ H → wpAny (model X.prog X.w) X.A (handleBy (.ref a) X.env hds) (SP X pins D) X.xe { s' with heap := h3 } := by
  intro hds l hk
  have ok := Z.J.ok
  obtain ⟨J3, ⟨oe3, vs3, he3, hz3, hd3⟩, nL, nF⟩ := Z.at_ hf
  induction hk with
  | nil =>
    intro w
    refine wpAny_handleBy_nil ?_
    obtain ⟨g1, g2, g3, oe, vs, tb, ot, ts', e1, e2, e3, e4, er⟩ := id Z.fl
    unfold PySem.passOn
    refine wpAny_bind (wpAny_field e1 e3 e4 ?_)
    rw [if_neg (show ¬ ((Value.ref tb == Value.none) = true) by simp)]
    have up : wpAny (model X.prog X.w) X.A (setFlight (.ref a) X.env.frame) (fun _ s4 => wpAny (model X.prog X.w) X.A (throw (.ref a) : Sem PySem.Flow) (SP X pins D) X.xe s4) X.xe { s' with heap := h3 } := by
      rw [hf]
      refine HandSPX.setFlight_upZ Z.fl fun h4 g4 up4 => wpAny_throw (tk _ _ ?_)
      exact ⟨a, B, sI, pins, σ, H, cls, d, rfl, Z.J, Z.nb, Z.up.trans up4, .inr (.inr (by rw [hst]; exact g4)), Z.na, Z.os, Z.ag, w⟩
    first
      | exact wpAny_bind (wpAny_pure (wpAny_bind up))
      | exact wpAny_bind up
  | @cons x n q b₀ suite np hp hds2 l2 hi hl hc hsu r ih =>
    intro w
    obtain ⟨b, w1, yes, no⟩ := w
    have S3 := J3.suite he3 hd3 Z.na nL nF
    refine wpAny_handleBy_cons (codeAny_handlers_test ?_) (by intro q; cases q)
    have LT : PySem.W.Looks (model X.prog X.w) h3 (typeOf (.ref a)) cls := fun A Q E s k q => wpAny_typeOf_ref (k _ _ he3) (by rw [hz3.1]; exact q)
    have LM := PySem.W.exm_one (M := model X.prog X.w) J3.kIn LT w1
    have named : ∀ {Q : Value → Shared → Prop} {E : Value → Shared → Prop}, Q q.c { s' with heap := h3 } → wpAny (model X.prog X.w) (X.A.mark (some (.ref a))) (eval (.Name x np) X.env) Q E { s' with heap := h3 } := fun {Q E} z => by
      obtain ⟨c1, c2, c3 | ⟨c3, c4, c5⟩⟩ := hc
      · exact ld_glob (X := X.suite a ((a, oe3) :: (X.pn ++ pins))) S3 c1 c3 z c2
      · exact ld_blt (X := X.suite a ((a, oe3) :: (X.pn ++ pins))) S3 c1 c3 c4 z c5 c2
    refine named (LM.here ?_)
    cases b with
    | false =>
      show wpAny _ X.A (handleBy (.ref a) X.env hds2) _ _ _
      exact ih (no rfl)
    | true =>
      refine codeAny_handlers_suite_as ?_
      refine HandSPX.lands_againZ Z.fl fun h4 fl4 up4 => ?_
      have J4 : Inv X pins σ H { s' with heap := h4 } := Z.J.landed Z.nb fl4.1 (Z.up.trans up4) Z.os Z.ag
      obtain ⟨oe4, vs4, he4, hz4, hd4⟩ := fl4.there
      have S4 := J4.suite he4 hd4 Z.na nL nF
      refine store_ok (X := X.suite a ((a, oe4) :: (X.pn ++ pins))) (v := .ref a) S4 hN hi (.inl hl) rfl (fun s5 S5 => ?_) (.inr hl)
      refine wpAny_mono ((hsu a oe4 cls d (X.pn ++ pins) hz4 ⟨_, hd4⟩).run [] s5 _ H _ S5 (yes rfl a Z.na)) (fun f s6 z => ?_) (fun _ _ z => False.elim z)
      have off : ∀ {σ6 : L2.St} {H6 : Hp} {Q : Shared → Prop}, Inv (X.suite a ((a, oe4) :: (X.pn ++ pins))) [] σ6 H6 s6 → (∀ s7, Inv X pins (σ6.set q.i none) H6 s7 → Q s7) →
          wpAny (model X.prog X.w) X.A (do bindName X.env n .none; unbindBehindTheSuite X.env n hp) (fun _ s7 => Q s7) X.xe s6 := fun {σ6 H6 Q} S6 hq => gone_ok (S6.unsuite ok) hN hi hl hq
      cases f with
      | next =>
        obtain ⟨σ6, H6, S6, q6⟩ := z
        exact off S6 fun s7 J7 => ⟨_, _, J7, q6⟩
      | brk =>
        obtain ⟨σ6, H6, S6, q6⟩ := z
        exact off S6 fun s7 J7 => ⟨_, _, J7, q6⟩
      | cont =>
        obtain ⟨σ6, H6, S6, q6⟩ := z
        exact off S6 fun s7 J7 => ⟨_, _, J7, q6⟩
      | ret u =>
        obtain ⟨v6, σ6, H6, S6, r6, q6⟩ := z
        exact off S6 fun s7 J7 => ⟨_, _, _, J7, r6, q6⟩
theorem try_all {body : List Stmt} {h₀ : ExceptHandler} {hds : List ExceptHandler} {l : List Cla} {pos : Pos} {tb : WX → TS} (hN : X.N.Nodup) (hst : X.stack = X.env :: X.outer) (hf : X.env.frame = some X.env.locals) (tk : Takes X Wout)
    (hb : ∀ (W : WX) (pn : List (Addr × Obj)) (xe : Value → Shared → Prop), Takes (X.tr pn xe) W → PassesOwn (model X.prog X.w) X.A X.env xe → PSs (X.tr pn xe) body (tb W)) (hh : ClaOk X (h₀ :: hds) l) :
    PS X (.Try body (h₀ :: hds) [] [] pos) (fun D σ H => tb (wCla X.K Wout D l) D σ H) := by
  refine ⟨fun pins s σ H D I h => ?_⟩
  have ok := I.ok
  have hfr : X.A.frames = some (X.env :: X.outer) := ok.frames.trans (by rw [hst])
  refine wpAny_Try_except (wpAny_mono ((hb (wCla X.K Wout D l) (X.pn ++ pins) (fun e s₁ => wpAny (model X.prog X.w) X.A (noteFrame e X.env) (fun _ s₂ => wpAny (model X.prog X.w) X.A (setFlight e none) (fun _ s₃ =>
    wpAny (model X.prog X.w) X.A (handleBy e X.env (h₀ :: hds)) (SP X pins D) X.xe s₃) X.xe s₂) X.xe s₁) (fun u s' xx => ?_) PassesOwn.looking).run [] s σ H D (I.toTry _) h) (fun f s1 z => ?_) (fun _ _ he => he))
  · obtain ⟨a, B, sI, pins', σ', H', cls, d, rfl, J', nb, up, sky, na, os, ag, w⟩ := xx
    have sky' : Sky B (X.env :: X.outer) a (Zc cls d) X.env.locals s'.heap := by
      have := sky
      rw [← hst]; exact this
    show wpAny (model X.prog X.w) X.A (noteFrame (.ref a) X.env) _ _ _
    refine Sky.land Zc.steady hfr hf sky' fun h3 fl3 up3 => ?_
    exact clauses hN hst hf tk ⟨J'.ofTry ok, nb, up.trans up3, fl3, na, os, ag⟩ hh w
  · cases f with
    | next =>
      obtain ⟨σ', H', J', q⟩ := z
      exact wpAny_execs_nil ⟨σ', H', J'.ofTry ok, q⟩
    | brk =>
      obtain ⟨σ', H', J', q⟩ := z
      exact ⟨σ', H', J'.ofTry ok, q⟩
    | cont =>
      obtain ⟨σ', H', J', q⟩ := z
      exact ⟨σ', H', J'.ofTry ok, q⟩
    | ret u =>
      obtain ⟨v, σ', H', J', r, q⟩ := z
      exact ⟨v, σ', H', J'.ofTry ok, r, q⟩
end
end PX

end
section
set_option Elab.async false
set_option linter.all false
set_option maxRecDepth 100000
set_option maxHeartbeats 1000000
/-! PXe: a tuple or a list read backward. -/
namespace PX
open PySem PySem.Spec PyProof.Rows L2
section
variable {prog : Program} {w : World} {A : Around} {E : Value → Shared → Prop} {s : Shared}
theorem fm_map {α β : Type} {f : α → Option β} {g : α → β} : ∀ l : List α, (∀ k ∈ l, f k = some (g k)) → l.filterMap f = l.map g
  | [], _ => rfl
  | x :: r, h => by
    rw [List.filterMap_cons, h x List.mem_cons_self, List.map_cons, fm_map r fun k hk => h k (List.mem_cons_of_mem _ hk)]
theorem back_pick (its : List Value) : ((List.range its.length).filterMap fun (k : Nat) => its.toArray[(((its.length : Int) - 1) + (k : Int) * (-1)).toNat]?).toArray = its.reverse.toArray := by
  congr 1
  rw [fm_map (g := fun k => (its[its.length - 1 - k]?).getD .none)]
  · apply List.ext_getElem?
    intro i
    rw [List.getElem?_map]
    by_cases hi : i < its.length
    · rw [List.getElem?_range hi, List.getElem?_reverse hi]
      show some (its[its.length - 1 - i]?.getD .none) = its[its.length - 1 - i]?
      rw [List.getElem?_eq_getElem (by omega)]
      rfl
    · rw [List.getElem?_eq_none (by simpa using Nat.le_of_not_lt hi), List.getElem?_eq_none (by simpa using Nat.le_of_not_lt hi)]
      rfl
  · intro k hk
    have hk := List.mem_range.mp hk
    have q : (((its.length : Int) - 1) + (k : Int) * (-1)).toNat = its.length - 1 - k := by omega
    rw [q, List.getElem?_toArray, List.getElem?_eq_getElem (by omega)]
    rfl
theorem back_bounds (n : Nat) : Builtin.Slice.sliceAdjust none none (-1) (n : Int) = ((n : Int) - 1, -1) := rfl
theorem back_places (n : Nat) : Builtin.Slice.slicePlaces ((n : Int) - 1) (-1) (-1) = n := by
  unfold Builtin.Slice.slicePlaces
  rw [if_neg (by omega)]
  by_cases h : n = 0
  · subst h; rfl
  · rw [if_pos (by omega), show (-(-1) : Int) = 1 from rfl, Int.ediv_one]; omega
theorem back_applied {sl : Addr} {va vb vc : Value} {n : Nat} {Q : Int × Int × Nat → Shared → Prop} (hs : s.heap.IsSliceOf sl va vb vc) (pa : IsPart va none) (pb : IsPart vb none) (pc : IsPart vc (some (-1)))
    (h : Q ((n : Int) - 1, -1, n) s) : wpAny (model prog w) A (Builtin.Slice.sliceApplied (.ref sl) (pure (n : Int))) Q E s := by
  obtain ⟨ob, hob, hc, hd⟩ := hs
  unfold Builtin.Slice.sliceApplied
  refine wpAny_bind ?_
  unfold Builtin.Slice.sliceFields
  refine wpAny_bind (wpAny_field hob hd (x := va) rfl ?_)
  refine wpAny_bind (wpAny_field hob hd (x := vb) rfl ?_)
  refine wpAny_bind (wpAny_field hob hd (x := vc) rfl (wpAny_pure ?_))
  refine wpAny_bind (HT.slicePart_ pc ?_)
  refine wpAny_ite_false (c := ((some (-1 : Int)).getD 1 == 0) = true) (by decide) ?_
  refine wpAny_bind (HT.slicePart_ pa (wpAny_bind (HT.slicePart_ pb (wpAny_bind (wpAny_pure ?_)))))
  show wpAny _ _ (pure ((n : Int) - 1, (-1 : Int), Builtin.Slice.slicePlaces ((n : Int) - 1) (-1) (-1))) _ _ s
  rw [back_places]
  exact wpAny_pure h
/-- t[::-1] of a tuple -/
theorem get_back {t sl : Addr} {its : List Value} {va vb vc : Value} {Q : Value → Shared → Prop} (ht : IsTup s.heap t its.toArray) (hs : s.heap.IsSliceOf sl va vb vc) (pa : IsPart va none) (pb : IsPart vb none) (pc : IsPart vc (some (-1)))
    (hz : its.length ≤ sizeLine) (h : Q (.ref s.heap.objs.size) { s with heap := s.heap.push { cls := .type "tuple", data := .seq its.reverse.toArray } }) : wpAny (model prog w) A (getItem (.ref t) (.ref sl)) Q E s := by
  have hT : s.TypeIs (.ref sl) "slice" := by obtain ⟨ob, hob, hc, _⟩ := id hs; exact ⟨ob, hob, hc⟩
  unfold getItem
  try with_reducible refine wpAny_holding ?_
  refine wpAny_bind (wpAny_sequenceKey ht.typeIs (by decide) ?_)
  have sl1 := PyProof.Rows.slot_tuple_getitem
  refine wpAny_bind (wpAny_callSpecial?_slot (name := Str.ofString "__getitem__") ht.typeIs sl1 (wpAny_call_entry sl1 ht.typeIs entry_tuple_getitem ?_ (args_tuple_getitem _ _)))
  show wpAny _ _ (Builtin.Tuple.tupleItemsOf (.ref t) >>= _) _ _ s
  refine wpAny_bind (tupleItemsOf_ ht (wpAny_bind (wpAny_typeOf hT ?_)))
  rw [if_pos (by decide)]
  have hsz : its.toArray.size = its.length := List.size_toArray
  rw [hsz]
  refine wpAny_bind (back_applied hs pa pb pc ?_)
  show wpAny _ _ (if (((its.length : Int) - 1) == 0 && (-1 : Int) == 1 && its.length == its.length) = true then _ else _) _ _ s
  rw [if_neg (by simp), back_pick]
  have ok : sizeOk (.seq its.reverse.toArray) := by
    show its.reverse.toArray.size ≤ sizeLine
    rw [List.size_toArray, List.length_reverse]; exact hz
  first
    | exact wpAny_bind (m := Builtin.Tuple.tupleExact _) (wpAny_newObj_type (wpAny_pure ⟨_, rfl, wpAny_pure h⟩) ok)
    | exact wpAny_bind (m := Builtin.Tuple.tupleExact _) (wpAny_newObj_type (wpAny_bind (wpAny_pure (wpAny_pure ⟨_, rfl, wpAny_pure h⟩))) ok)
    | exact wpAny_bind (wpAny_bind (m := Builtin.Tuple.tupleExact _) (wpAny_newObj_type (wpAny_pure (wpAny_pure ⟨_, rfl, wpAny_pure h⟩)) ok))
    | exact wpAny_bind (wpAny_bind (m := Builtin.Tuple.tupleExact _) (wpAny_newObj_type (wpAny_pure ⟨_, rfl, wpAny_pure h⟩) ok))
end
section
variable {X : Cx}
/-- x[::-1] of a list or a tuple -/
def tBack (K : PySem.W.Frag) (te : TE) : TE := fun σ H Q => te σ H fun x H1 => ∃ a xs, x = .ref a ∧
  ((SqL K H1 a xs ∧ ∀ p, H1 p = none → Q (.ref p) (upd H1 p (.lst xs.reverse))) ∨ (SqT K H1 a xs ∧ ∀ p, H1 p = none → Q (.ref p) (upd H1 p (.tup xs.reverse))))
theorem pe_back {e : Expr} {te : TE} {k : Nat} {p1 p2 p3 pos : Pos} (he : PE X e te) : PE X (.Subscript e (.Slice none none (some (.UnaryOp .USub (.Constant (.int 1) k p1) p2)) p3) pos) (tBack X.K te) := by
  constructor
  intro pins s σ H Q I h
  refine Subscript_ (thn (he.run pins s σ H _ I h) ?_)
  rintro v s1 ⟨x, H1, I1, r1, a, xs, rfl, hx⟩
  cases r1
  have pz : PO X (some (.UnaryOp .USub (.Constant (.int 1) k p1) p2)) (tPart (tUn (rU fun i => .int (-i)) (tC (.int 1)))) := po_some (pe_un un_neg pe_int)
  refine wpAny_Slice (thn (po_none.run pins s1 σ H1 (fun o K => o = none ∧ K = H1) I1 ⟨rfl, rfl⟩) ?_)
  rintro vl s2 ⟨l, H2, I2, pl, rfl, rfl⟩
  refine thn (po_none.run pins s2 σ H2 (fun o K => o = none ∧ K = H2) I2 ⟨rfl, rfl⟩) ?_
  rintro vu s3 ⟨u, H3, I3, pu, rfl, rfl⟩
  refine thn (pz.run pins s3 σ H3 (fun o K => o = some (-1) ∧ K = H3) I3 ⟨1, rfl, -1, rfl, rfl, rfl⟩) ?_
  rintro vs s4 ⟨o, H4, I4, ps, rfl, rfl⟩
  generalize hs5 : ({ s4 with heap := s4.heap.push { cls := .type "slice", data := .fields #[vl, vu, vs] } } : Shared) = s5
  have I5 : Inv X pins σ H4 s5 := by
    rw [← hs5]
    exact I4.kept (t' := s4.toks) fun b ob q => Heap.get?_push_of_some _ q
  have isl : s5.heap.IsSliceOf s4.heap.objs.size vl vu vs := by
    rw [← hs5]
    exact Heap.IsSliceOf.new _ vl vu vs
  show wpAny _ X.A (subscriptTail e (.Slice none none (some (.UnaryOp .USub (.Constant (.int 1) k p1) p2)) p3) (.ref a) (.ref s4.heap.objs.size)) (EP X pins σ Q) X.xe s5
  rcases hx with ⟨hx, q⟩ | ⟨hx, q⟩
  · obtain ⟨its, r, ht, hz⟩ := I5.list hx
    refine tail_any (ops := [.ref a, .ref s4.heap.objs.size]) ht.isList.typeIs PySem.slot_list_getitem.lookup ?_ (by with_unfolding_all rfl)
    refine wpAny_getItem_list_slice ht.isList isl pl pu ps (by decide) ?_ (by rw [List.size_toArray, ← r.length]; exact hz)
    rw [PySem.W.krv_pick]
    refine ⟨.ref _, _, I5.laid (t' := s5.toks) (o := .lst xs.reverse) (fun b ob q => Heap.get?_push_of_some _ q) (Nat.le_refl _) ⟨?_, _, 0, r.reverse, Heap.get?_push_size _ rfl⟩, rfl, q _ I5.fresh⟩
    rw [List.length_reverse]; exact hz
  · obtain ⟨its, r, ht, hz⟩ := I5.tuple hx
    refine tail_any (ops := [.ref a, .ref s4.heap.objs.size]) ht.typeIs PyProof.Rows.slot_tuple_getitem.lookup ?_ (by with_unfolding_all rfl)
    refine get_back ht isl pl pu ps (by rw [← r.length]; exact hz) ?_
    refine ⟨.ref _, _, I5.laid (t' := s5.toks) (o := .tup xs.reverse) (fun b ob q => Heap.get?_push_of_some _ q) (Nat.le_refl _) ⟨?_, _, r.reverse, IsTup.new _ _⟩, rfl, q _ I5.fresh⟩
    rw [List.length_reverse]; exact hz
end
end PX

end
section
set_option Elab.async false
set_option linter.all false
set_option maxRecDepth 100000
set_option maxHeartbeats 1000000
/-! PXf: built-in functions. -/
namespace PX
open PySem PySem.Spec PyProof.Rows L2

/-! ### sorting, in plain Lean -/
theorem insI_perm (x : Int) : ∀ l : List Int, (insI x l).Perm (x :: l)
  | [] => .refl _
  | y :: r => by
    unfold insI
    split
    · exact .refl _
    · exact ((insI_perm x r).cons y).trans (.swap x y r)
theorem sortI_perm : ∀ l : List Int, (sortI l).Perm l
  | [] => .refl _
  | x :: r => (insI_perm x _).trans ((sortI_perm r).cons x)
theorem insI_sorted (x : Int) : ∀ l : List Int, l.Pairwise (· ≤ ·) → (insI x l).Pairwise (· ≤ ·)
  | [], _ => List.pairwise_singleton _ _
  | y :: r, h => by
    unfold insI
    obtain ⟨h1, h2⟩ := List.pairwise_cons.mp h
    split
    · rename_i hx
      refine List.pairwise_cons.mpr ⟨fun z hz => ?_, h⟩
      rcases List.mem_cons.mp hz with rfl | hz
      · exact hx
      · exact Int.le_trans hx (h1 z hz)
    · rename_i hx
      refine List.pairwise_cons.mpr ⟨fun z hz => ?_, insI_sorted x r h2⟩
      rcases List.mem_cons.mp ((insI_perm x r).mem_iff.mp hz) with rfl | hz
      · omega
      · exact h1 z hz
theorem sortI_sorted : ∀ l : List Int, (sortI l).Pairwise (· ≤ ·)
  | [] => .nil
  | x :: r => insI_sorted x _ (sortI_sorted r)
theorem sortI_the {l m : List Int} (hp : m.Perm l) (hs : m.Pairwise (· ≤ ·)) : m = sortI l :=
  PySem.W.ksm_same (hp.trans (sortI_perm l).symm) hs (sortI_sorted l)
theorem mem_insU (x y : Int) : ∀ l : List Int, y ∈ insU x l ↔ y = x ∨ y ∈ l
  | [] => by simp [insU]
  | z :: r => by
    unfold insU
    split
    · simp
    · split
      · rename_i h; subst h; simp
      · rw [List.mem_cons, mem_insU x y r, List.mem_cons]
        constructor
        · rintro (h | h | h)
          · exact .inr (.inl h)
          · exact .inl h
          · exact .inr (.inr h)
        · rintro (h | h | h)
          · exact .inr (.inl h)
          · exact .inl h
          · exact .inr (.inr h)
theorem insU_sorted (x : Int) : ∀ l : List Int, l.Pairwise (· < ·) → (insU x l).Pairwise (· < ·)
  | [], _ => List.pairwise_singleton _ _
  | y :: r, h => by
    obtain ⟨h1, h2⟩ := List.pairwise_cons.mp h
    unfold insU
    split
    · rename_i hx
      refine List.pairwise_cons.mpr ⟨fun z hz => ?_, h⟩
      rcases List.mem_cons.mp hz with rfl | hz
      · exact hx
      · exact Int.lt_trans hx (h1 z hz)
    · split
      · exact h
      · refine List.pairwise_cons.mpr ⟨fun z hz => ?_, insU_sorted x r h2⟩
        rcases (mem_insU x z r).mp hz with rfl | hz
        · omega
        · exact h1 z hz
theorem mem_sortU (y : Int) : ∀ l : List Int, y ∈ sortU l ↔ y ∈ l
  | [] => by simp [sortU]
  | x :: r => by rw [sortU, mem_insU, mem_sortU y r, List.mem_cons]
theorem sortU_sorted : ∀ l : List Int, (sortU l).Pairwise (· < ·)
  | [] => .nil
  | x :: r => insU_sorted x _ (sortU_sorted r)
theorem sortU_the : ∀ {l m : List Int}, l.Pairwise (· < ·) → m.Pairwise (· < ·) → (∀ x, x ∈ l ↔ x ∈ m) → l = m
  | [], [], _, _, _ => rfl
  | [], y :: r, _, _, h => absurd ((h y).mpr List.mem_cons_self) (by simp)
  | y :: r, [], _, _, h => absurd ((h y).mp List.mem_cons_self) (by simp)
  | x :: l, y :: m, hl, hm, h => by
    obtain ⟨l1, l2⟩ := List.pairwise_cons.mp hl
    obtain ⟨m1, m2⟩ := List.pairwise_cons.mp hm
    have e : x = y := by
      rcases List.mem_cons.mp ((h x).mp List.mem_cons_self) with q | q
      · exact q
      · rcases List.mem_cons.mp ((h y).mpr List.mem_cons_self) with q2 | q2
        · exact q2.symm
        · have := m1 x q; have := l1 y q2; omega
    subst e
    rw [sortU_the l2 m2 fun z => ?_]
    constructor
    · intro hz
      rcases List.mem_cons.mp ((h z).mp (List.mem_cons_of_mem _ hz)) with q | q
      · subst q; exact absurd (l1 z hz) (by omega)
      · exact q
    · intro hz
      rcases List.mem_cons.mp ((h z).mpr (List.mem_cons_of_mem _ hz)) with q | q
      · subst q; exact absurd (m1 z hz) (by omega)
      · exact q
theorem foldl_max_mem (x : Int) : ∀ r : List Int, r.foldl max x ∈ x :: r ∧ ∀ y ∈ x :: r, y ≤ r.foldl max x := by
  intro r
  induction r generalizing x with
  | nil => exact ⟨List.mem_cons_self, fun y hy => by simp at hy; subst hy; exact Int.le_refl _⟩
  | cons z r ih =>
    obtain ⟨h1, h2⟩ := ih (max x z)
    refine ⟨?_, fun y hy => ?_⟩
    · rw [List.foldl_cons]
      rcases List.mem_cons.mp h1 with q | q
      · rw [q]
        by_cases hxz : x ≤ z
        · rw [Int.max_eq_right hxz]; exact List.mem_cons_of_mem _ List.mem_cons_self
        · rw [Int.max_eq_left (by omega)]; exact List.mem_cons_self
      · exact List.mem_cons_of_mem _ (List.mem_cons_of_mem _ q)
    · rw [List.foldl_cons]
      have h3 := h2 (max x z) List.mem_cons_self
      rcases List.mem_cons.mp hy with q | hy
      · subst q; exact Int.le_trans (Int.le_max_left _ _) h3
      · rcases List.mem_cons.mp hy with q | hy
        · subst q; exact Int.le_trans (Int.le_max_right _ _) h3
        · exact h2 y (List.mem_cons_of_mem _ hy)
theorem foldl_min_mem (x : Int) : ∀ r : List Int, r.foldl min x ∈ x :: r ∧ ∀ y ∈ x :: r, r.foldl min x ≤ y := by
  intro r
  induction r generalizing x with
  | nil => exact ⟨List.mem_cons_self, fun y hy => by simp at hy; subst hy; exact Int.le_refl _⟩
  | cons z r ih =>
    obtain ⟨h1, h2⟩ := ih (min x z)
    refine ⟨?_, fun y hy => ?_⟩
    · rw [List.foldl_cons]
      rcases List.mem_cons.mp h1 with q | q
      · rw [q]
        by_cases hxz : x ≤ z
        · rw [Int.min_eq_left hxz]; exact List.mem_cons_self
        · rw [Int.min_eq_right (by omega)]; exact List.mem_cons_of_mem _ List.mem_cons_self
      · exact List.mem_cons_of_mem _ (List.mem_cons_of_mem _ q)
    · rw [List.foldl_cons]
      have h3 := h2 (min x z) List.mem_cons_self
      rcases List.mem_cons.mp hy with q | hy
      · subst q; exact Int.le_trans h3 (Int.min_le_left _ _)
      · rcases List.mem_cons.mp hy with q | hy
        · subst q; exact Int.le_trans h3 (Int.min_le_right _ _)
        · exact h2 y (List.mem_cons_of_mem _ hy)
theorem maxI_the {x m : Int} {r : List Int} (h1 : m ∈ x :: r) (h2 : ∀ y, y ∈ x :: r → y ≤ m) : m = maxI x r := by
  obtain ⟨a, b⟩ := foldl_max_mem x r
  exact Int.le_antisymm (b m h1) (h2 _ a)
theorem minI_the {x m : Int} {r : List Int} (h1 : m ∈ x :: r) (h2 : ∀ y, y ∈ x :: r → m ≤ y) : m = minI x r := by
  obtain ⟨a, b⟩ := foldl_min_mem x r
  exact Int.le_antisymm (h2 _ a) (b m h1)

section
variable {G : Ct} {B : Bs} {W : WX} {σ : L2.St} {F F' H H' : Hp} {e e' : Env} {Q : VK} {v : V} {d : D} {a p : Addr} {ds : List D} {vs : List V} {X : Cx} {k : Nat}
inductive RepHL (G : Ct) (F H : Hp) : List V → List D → Prop
  | nil : RepHL G F H [] []
  | cons {v : V} {d : D} {vs : List V} {ds : List D} (h : RepH G F H v d) (r : RepHL G F H vs ds) : RepHL G F H (v :: vs) (d :: ds)
theorem RepHL.one (h : RepHL G F H vs [d]) : ∃ v, vs = [v] ∧ RepH G F H v d := by
  cases h with | cons h r => cases r; exact ⟨_, rfl, h⟩
theorem RepHL.two {d2 : D} (h : RepHL G F H vs [d, d2]) : ∃ v w, vs = [v, w] ∧ RepH G F H v d ∧ RepH G F H w d2 := by
  cases h with | cons h r => cases r with | cons h2 r => cases r; exact ⟨_, _, rfl, h, h2⟩
def biTy : Bi → Bool
  | .list => true
  | .tuple => true
  | .int => true
  | .set => true
  | _ => false
def biId : Bi → String
  | .len => "len"
  | .list => "list"
  | .tuple => "tuple"
  | .int => "int"
  | .all => "all"
  | .any => "any"
  | .sorted => "sorted"
  | .set => "set"
  | .min => "min"
  | .max => "max"
  | .sum => "sum"
  | .abs => "abs"
def biVal (b : Bi) : Value := if biTy b then .type (biId b) else .builtin (biId b)
def rBi (G : Ct) (W : WX) (b : Bi) : List V → Hp → VK → Prop := fun vs H Q => ∃ B σ F e ds, Sat G B F e σ H ∧ RepHL G F H vs ds ∧ Pr G B W σ (ofAV (biD b ds) e) F (KA G B σ Q)

/-- what a tuple of ints is for the library -/
theorem ints_reads {h : Heap} : ∀ {us : List Value} {ns : List Int}, IntsAre us ns → ReadsAll h us (ns.map .int) []
  | _, _, .nil => .nil
  | _, _, .cons k t r => .cons (Reads.int k t) (ints_reads r)
theorem alike_ints (ns : List Int) : PySem.W.AlikeAll (ns.map PyData.int) := by
  refine ⟨fun x hx y hy => ?_, fun x hx => ?_⟩
  · obtain ⟨i, _, rfl⟩ := List.mem_map.mp hx
    obtain ⟨j, _, rfl⟩ := List.mem_map.mp hy
    rfl
  · obtain ⟨i, _, rfl⟩ := List.mem_map.mp hx
    exact nofun
theorem depth_ints : ∀ ns : List Int, PyData.depthAll (ns.map PyData.int) = 0
  | [] => rfl
  | x :: r => by
    show max 0 (PyData.depthAll (r.map PyData.int)) = 0
    rw [depth_ints r]; rfl
end
end PX

end
section
set_option Elab.async false
set_option linter.all false
set_option maxRecDepth 100000
set_option maxHeartbeats 3200000
/-! PXg: set(a list of ints), sorted(a set of ints) of any number. -/
namespace PX
open PySem PySem.Spec PyProof.Rows L2
abbrev eset (w : World) : Obj := { cls := .type "set", dict := none, data := .set #[] 0 (.fresh 0 0 (!w.params.followText "set-order")) }
section
variable {P : Program} {w : World} {A : Around} {E : Value → Shared → Prop} {s : Shared}
/-- what set(l) leaves -/
def SetEnd (w : World) (s : Shared) (ns : List Int) (s2 : Shared) : Prop :=
  ∃ h' tk c, s2 = { s with heap := h', toks := tk } ∧ SetR w h' s.heap.objs.size (fun j => decide (j ∈ ns)) c ∧ c ≤ ns.length ∧ ∀ b o, s.heap.get? b = some o → h'.get? b = some o
theorem set_of_list {l : Addr} {items : Array Value} (ns : List Int) {Q : Value → Shared → Prop} (hh : A.handled = none) (hl : s.heap.IsList l items) (hit : IntsAre items.toList ns) (hb : ns.length + 1 < scanBound)
    (h : ∀ s2, SetEnd w s ns s2 → Q (.ref s.heap.objs.size) s2) : wpAny (model P w) A (call (.type "set") [.ref l]) Q E s := by
  have nI : items.size = ns.length := by
    have q := hit.length
    rwa [Array.length_toList] at q
  obtain ⟨c, tl, hmro⟩ := F.called_set.mro
  have hmade := F.called_set.made
  have hsub := F.called_set.sub
  have h1 := F.called_set.notType
  have h2 := F.called_set.canCreate
  have hct := F.typeCall_set_1 (.ref l)
  refine wpAny_call (codeAny_of_tree ?_)
  show wpAny _ _ (callAny (.type "set") ⟨[.ref l], []⟩) _ _ _
  refine wpAny_pure ⟨Code.quiet_builtin _ (by decide +kernel), codeAny_builtin F.entry_type_call ?_⟩
  rw [Around.under_plain (weight_type_call_type "set" [.ref l] []) rfl]
  repeat (any_goals (first | assumption | wp_step))
  have new := code_set_led1 (P := P) (w := w) (A := A.in1) (s := s) (.ref l) (E := E) (Q₁ := fun ob s1 => ob = .ref s.heap.objs.size ∧ s1 = { s with heap := s.heap.push (eset w) }) ⟨rfl, rfl⟩
  refine codeAny_mono new ?_
  intro r s1 hr
  rcases r with er | fl
  · exact hr
  cases fl
  all_goals first | exact hr.elim | skip
  obtain ⟨rfl, rfl⟩ := hr
  have hS : (s.heap.push (eset w)).get? s.heap.objs.size = some (eset w) := Heap.get?_push_size _ rfl
  have hT : Shared.TypeIs { s with heap := s.heap.push (eset w) } (.ref s.heap.objs.size) "set" := ⟨_, hS, rfl⟩
  have hli := F.called_set.init.lookup
  have hbi := F.called_set.init.bind (.ref s.heap.objs.size)
  repeat (any_goals (first | assumption | wp_step))
  refine codeAny_mono (codeAny_call_builtin (R := wants (fun r s2 => r = .none ∧ SetEnd w s ns s2) E) F.called_set.init.plain F.entry_set_init (check_set_init_1 hT ?_)) ?_
  · have lS : l < s.heap.objs.size := by obtain ⟨ol, hol, _⟩ := id hl; exact Heap.lt_size hol
    have hl1 : (s.heap.push (eset w)).IsList l items := hl.push _
    obtain ⟨ol, hol, hcl, nl, hdl⟩ := id hl1
    obtain ⟨ocls, odict, odata, oslots⟩ := ol
    simp only at hcl hdl
    subst hcl
    subst hdl
    have hsls := F.sub_list_set
    have hslf := F.sub_list_frozenset
    have hne : (Value.type "list" == Value.type "dict") = false := by decide
    unfold Builtin.«set.__init__» noKeywords Builtin.Frozenset.updateFrom
    generalize hPI : pyIter = PI
    wp_walk
    subst hPI
    refine wpAny_pyIter_list hl1 (wpAny_bind (wpAny_runValue ?_))
    have z1 : (s.heap.push (eset w)).objs.size = s.heap.objs.size + 1 := Heap.size_push ..
    have nIt : l ≠ (s.heap.push (eset w)).objs.size := by rw [z1]; exact Nat.ne_of_lt (Nat.lt_succ_of_lt lS)
    have nS : s.heap.objs.size ∉ [(s.heap.push (eset w)).objs.size, l] := by
      rw [z1]
      intro q
      rcases List.mem_cons.mp q with q | q
      · exact absurd q (Nat.ne_of_lt (Nat.lt_succ_self _))
      · exact absurd (List.mem_singleton.mp q) (Nat.ne_of_gt lS)
    have each : ∀ (i : Nat) (v : Value), items[i]? = some v → ∃ k t, ns[i]? = some k ∧ v = .int k t := by
      intro i v hv
      have hi : i < ns.length := by rw [← nI]; exact (Array.getElem?_eq_some_iff.mp hv).1
      obtain ⟨t, e⟩ := IntsAre.int_at hit i v (by rw [Array.getElem?_toList]; exact hv)
      refine ⟨ns[i], t, List.getElem?_eq_getElem hi, ?_⟩
      rw [e, List.getD_eq_getElem?_getD, List.getElem?_eq_getElem hi]
      rfl
    have calm : A.in1.in1.in1.handled = none := by simp [hh]
    have W := (Walks.list (prog := P) (w := w) calm _ l nIt items).toS
    refine set_update_ints W s.heap.objs.size nS ns nI hb each (items.size - 0) 0 _ (by omega) (Nat.zero_le _) ⟨⟨_, Heap.get?_push_size _ rfl, rfl, rfl⟩, hl1.push _⟩ ?_ ?_
    · exact ⟨0, Nat.le_refl 0, setR_new_at (Heap.get?_push_of_some _ hS)⟩
    · intro s' c' hm hc' hS'
      obtain ⟨h', g2, d', tk', os'⟩ := s'
      obtain rfl : g2 = s.gens := hm.gens
      obtain rfl : d' = s.drawn := hm.drawn
      obtain rfl : os' = s.os := hm.os
      show wpAny _ _ _ _ _ _
      refine wpAny_pure ?_
      show wpAny _ _ (PySem.ret Value.none) _ _ _
      refine wpAny_pure ⟨rfl, h', tk', c', rfl, hS', by omega, fun b o e => ?_⟩
      have b0 : b < s.heap.objs.size := Heap.lt_size e
      refine hm.heap b o ?_ (Heap.get?_push_of_some _ (Heap.get?_push_of_some _ e))
      intro q
      rcases List.mem_cons.mp q with q | q
      · exact absurd q (Nat.ne_of_lt b0)
      · have q := List.mem_singleton.mp q
        rw [z1] at q
        exact absurd q (Nat.ne_of_lt (Nat.lt_succ_of_lt b0))
  · intro r2 s2 hr2
    rcases r2 with er | fl2
    · exact hr2
    cases fl2
    all_goals first | exact hr2.elim | skip
    obtain ⟨rfl, h', tk, c2, rfl, hS', hc', hk'⟩ := hr2
    repeat (any_goals (first | assumption | wp_step))
    exact h _ ⟨h', tk, c2, rfl, hS', hc', hk'⟩
/-- sorted(s), s a set of ints -/
theorem sorted_any {a : Addr} {S : Int → Bool} {n : Nat} {Q : Value → Shared → Prop} (R : SetR w s.heap a S n) (hh : A.handled = none)
    (hQ : ∀ s' p (out : List Value) (c : Nat) (ns : List Int), (∀ b o, s.heap.get? b = some o → s'.heap.get? b = some o) → s'.gens = s.gens → s'.os = s.os → s.heap.objs.size ≤ p →
      s'.heap.get? p = some (seqObj "list" out.toArray c) → IntsAre out ns → ns.Pairwise (· < ·) → (∀ k, k ∈ ns ↔ S k = true) → ns.length ≤ sizeLine → Q (.ref p) s') :
    wpAny (model P w) A (call (.builtin "sorted") [.ref a]) Q E s := by
  obtain ⟨o, es, ep, t, ho, hex, hd, g, nd, hm, hb, hf, hn, hr, hl⟩ := R
  refine Calls.call_function_entry kind_sorted plain_sorted entry_sorted (args_sorted1 _) ?_
  unfold Builtin.«sorted»
  refine wpAny_bind (m := checkCount "sorted" 1 1 _) (wpAny_pure (wpAny_bind (collect_set (A := A.in1) hh ⟨o, ho, hex.1, hd⟩ hf hb hr hl ?_)))
  intro s1 vs k1 hz g1 o1 pm
  have hlen : vs.length = es.size := by rw [pm.length_eq, List.length_map, Array.length_toList]
  have hsz : vs.length ≤ sizeLine := by
    rw [hlen, sizeLine_eq]
    unfold scanBound at hb
    omega
  have hI : IntsAre vs (vs.map Builtin.Re.reRawOf) := ints_of vs fun v hv => by
    obtain ⟨en, he, q⟩ := List.mem_map.mp (pm.mem_iff.mp hv)
    obtain ⟨k, tk, e1, _⟩ := g en he
    exact ⟨k, tk, q.symm.trans e1⟩
  have pk : (vs.map Builtin.Re.reRawOf).Perm (es.toList.map keyOf) := by
    have q := pm.map Builtin.Re.reRawOf
    rwa [List.map_map] at q
  refine wpAny_bind (wpAny_newList ?_ hsz)
  have hoL : (s1.heap.push (seqObj "list" vs.toArray 0)).get? s1.heap.objs.size = some (seqObj "list" vs.toArray 0) := Heap.get?_push_size _ rfl
  have sortIt := SrtO.list_sort_ord (prog := P) (w := w) (A := A.in1.in1) (s := { s1 with heap := s1.heap.push (seqObj "list" vs.toArray 0) }) (R := fun f s' => f = .done (.ret .none) ∧ ∃ out : List Value, SrtO.Srtd SrtO.ltIv out ∧ SrtO.Stb SrtO.ltIv out vs ∧ s' = { s1 with heap := sortedHeap (s1.heap.push (seqObj "list" vs.toArray 0)) s1.heap.objs.size vs out.toArray }) (E := fun _ _ => False)
    SrtO.swo_int hoL hsz (fun h2 => SrtO.ints_sortable hI h2) fun out h1 h2 => ⟨rfl, out, h1, h2, rfl⟩
  refine wpAny_bind (wpAny_holding (wpAny_call_entry slot_list_sort ⟨_, hoL, rfl⟩ entry_list_sort (wpAny_mono sortIt ?_ fun _ _ z => z.elim) (args_list_sort _)))
  rintro f s2 ⟨rfl, out, h1, h2, rfl⟩
  refine ⟨.none, rfl, ?_⟩
  obtain ⟨q1, q2, q3⟩ := SrtO.ints_out hI h1 h2
  obtain ⟨c, hc⟩ := sortedHeap_at (vs := vs) (out := out.toArray) hoL
  have pn : (out.map SrtO.iv).Perm (es.toList.map keyOf) := q2.trans pk
  refine wpAny_pure ⟨_, rfl, hQ _ s1.heap.objs.size out c _ (fun b u e => ?_) g1 o1 hz hc q1 (lt_of_le_nodup _ q3 (pn.nodup_iff.mpr nd)) (fun k => by rw [pn.mem_iff, ← hm k]) ?_⟩
  · have lt := Heap.lt_size (k1 b u e)
    show (sortedHeap (s1.heap.push (seqObj "list" vs.toArray 0)) s1.heap.objs.size vs out.toArray).get? b = some u
    rw [sortedHeap_old (Nat.ne_of_lt lt) (by rw [Heap.size_push]; exact Nat.lt_succ_of_lt lt)]
    exact Heap.get?_push_of_some _ (k1 b u e)
  · rw [pn.length_eq, List.length_map, Array.length_toList, ← hlen]
    exact hsz
end
end PX

end
section
set_option Elab.async false
set_option linter.all false
set_option maxRecDepth 100000
set_option maxHeartbeats 1000000
/-! PXh: built-in functions, all. -/
namespace PX
open PySem PySem.Spec PyProof.Rows L2
section
variable {G : Ct} {B : Bs} {W : WX} {σ : L2.St} {F F' H H' : Hp} {e e' : Env} {Q : VK} {v : V} {d : D} {a p : Addr} {ds : List D} {vs : List V} {X : Cx} {k : Nat}
theorem allInt_map : ∀ ns : List Int, allInt (ns.map D.int) = some ns
  | [] => rfl
  | x :: r => by
    show (allInt (r.map D.int)).map (x :: ·) = _
    rw [allInt_map r]; rfl
theorem some_map {α β : Type} {o : Option α} {f : α → β} {b : β} (h : o.map f = some b) : ∃ a, o = some a ∧ f a = b := by
  cases o with
  | none => cases h
  | some a => cases h; exact ⟨a, rfl, rfl⟩
theorem some_bind {α β : Type} {o : Option α} {f : α → Option β} {b : β} (h : o.bind f = some b) : ∃ a, o = some a ∧ f a = some b := by
  cases o with
  | none => cases h
  | some a => exact ⟨a, rfl, h⟩
theorem bi_ok (C : XC G k X) (b : Bi) : CallR X (biVal b) (rBi G W b) := by
  intro pins s σ0 H xs us Q I r h
  obtain ⟨B, σ, F, e, ds, S, hd, h⟩ := h
  obtain ⟨av, hv, h1⟩ := Pr.ofAV h
  clear h
  have ck := C.K
  have hh := I.ok.hd C.calm
  unfold biD at hv
  split at hv
  · -- len tup
    cases hv
    obtain ⟨v, rfl, hr⟩ := hd.one
    obtain ⟨a, vs, rfl, hA, ra⟩ := hr.tup S.sub
    rw [← ck] at hA
    refine call_len_seq pins s σ0 H _ us Q I r ⟨a, vs, rfl, .inr hA, ?_⟩
    rw [ra.length]
    exact fin_d S h1 (.int _)
  · cases hv
    obtain ⟨v, rfl, hr⟩ := hd.one
    obtain ⟨a, vs, rfl, hA, ra⟩ := hr.lst S.sub
    refine call_len_seq pins s σ0 H _ us Q I r ⟨a, vs, rfl, .inl (SqL.of hA), ?_⟩
    rw [ra.length]
    exact fin_d S h1 (.int _)
  · -- list tup
    cases hv
    obtain ⟨v, rfl, hr⟩ := hd.one
    obtain ⟨a, vs, rfl, hA, ra⟩ := hr.tup S.sub
    rw [← ck] at hA
    exact call_list_of pins s σ0 H _ us Q I r ⟨a, vs, rfl, .inr hA, fun l hl => fin_lst S h1 ra hl⟩
  · cases hv
    obtain ⟨v, rfl, hr⟩ := hd.one
    obtain ⟨a, vs, rfl, hA, ra⟩ := hr.lst S.sub
    exact call_list_of pins s σ0 H _ us Q I r ⟨a, vs, rfl, .inl (SqL.of hA), fun l hl => fin_lst S h1 ra hl⟩
  · cases hv
    obtain ⟨v, rfl, hr⟩ := hd.one
    obtain ⟨a, vs, rfl, hA, ra⟩ := hr.ro S.sub
    rw [← ck] at hA
    exact call_list_of pins s σ0 H _ us Q I r ⟨a, vs, rfl, .inl hA, fun l hl => fin_lst S h1 ra hl⟩
  · -- tuple tup
    cases hv
    obtain ⟨v, rfl, hr⟩ := hd.one
    have hF := hr.tupF
    obtain ⟨a, vs, rfl, hA, ra⟩ := hr.tup S.sub
    rw [← ck] at hA
    exact call_tuple_of pins s σ0 H _ us Q I r ⟨a, vs, rfl, .inr ⟨hA, fin_d S h1 hF⟩⟩
  · cases hv
    obtain ⟨v, rfl, hr⟩ := hd.one
    obtain ⟨a, vs, rfl, hA, ra⟩ := hr.lst S.sub
    exact call_tuple_of pins s σ0 H _ us Q I r ⟨a, vs, rfl, .inl ⟨SqL.of hA, fun l hl => fin_tup S h1 ra hl⟩⟩
  · -- int
    cases hv
    obtain ⟨v, rfl, hr⟩ := hd.one
    cases hr.int
    exact call_int1 pins s σ0 H _ us Q I r (.inl ⟨_, rfl, fin_d S h1 (.int _)⟩)
  · cases hv
    obtain ⟨v, rfl, hr⟩ := hd.one
    cases hr.bl
    exact call_int1 pins s σ0 H _ us Q I r (.inr ⟨_, rfl, fin_d S h1 (.int _)⟩)
  · -- all
    obtain ⟨bs, hb, rfl⟩ := some_map hv
    obtain ⟨v, rfl, hr⟩ := hd.one
    obtain ⟨a, vs, rfl, hA, ra⟩ := hr.lst S.sub
    rw [ra.bls hb] at hA
    exact cr_all C.calm pins s σ0 H _ us Q I r ⟨a, bs, rfl, SqL.of hA, fin_d S h1 (.bl _)⟩
  · obtain ⟨bs, hb, rfl⟩ := some_map hv
    obtain ⟨v, rfl, hr⟩ := hd.one
    obtain ⟨a, vs, rfl, hA, ra⟩ := hr.lst S.sub
    rw [ra.bls hb] at hA
    exact cr_any C.calm pins s σ0 H _ us Q I r ⟨a, bs, rfl, SqL.of hA, fin_d S h1 (.bl _)⟩
  · -- sorted lst
    obtain ⟨ns, hb, rfl⟩ := some_map hv
    obtain ⟨v, rfl, hr⟩ := hd.one
    obtain ⟨a, vs, rfl, hA, ra⟩ := hr.lst S.sub
    rw [ra.ints hb] at hA
    refine cr_sortedI pins s σ0 H _ us Q I r ⟨a, ns, rfl, SqL.of hA, fun ns' p hp hs hn => ?_⟩
    rw [sortI_the hp hs]
    exact fin_lst S h1 (RepL.ofInts _) hn
  · -- sorted set
    cases hv
    obtain ⟨v, rfl, hr⟩ := hd.one
    obtain ⟨a, T, n, rfl, hA, hm⟩ := hr.set S.sub
    rw [Vals.ref1 r]
    rw [← C.w] at hA
    refine sorted_any (setO_get I hA) hh fun s' p out c ns k1 g1 o1 hz hp hi hs hk hl => ?_
    have e1 : ns = sortU _ := sortU_the hs (sortU_sorted _) fun x => by rw [hk, hm, mem_sortU]
    have hn : H p = none := I.hok.fresh hz
    have I2 : Inv X pins σ0 (upd H p (.lst (ns.map V.int))) s' :=
      I.call' (ch := []) o1 (Un.laid k1 hz hn) (I.hok.laid k1 hz ⟨by rw [List.length_map]; exact hl, out, c, vals_of_ints hi, hp⟩) (by rw [g1]; exact I.bare) (fun b z => absurd z (by simp))
    refine ⟨.ref p, _, I2, rfl, ?_⟩
    rw [e1]
    exact fin_lst S h1 (RepL.ofInts _) hn
  · -- set lst
    obtain ⟨ns, hb, hv⟩ := some_bind hv
    split at hv
    · rename_i hz
      cases hv
      obtain ⟨v, rfl, hr⟩ := hd.one
      obtain ⟨a, vs, rfl, hA, ra⟩ := hr.lst S.sub
      rw [ra.ints hb] at hA
      obtain ⟨its, rv, pl, hz2⟩ := I.list (SqL.of (K := X.K) hA)
      rw [Vals.ref1 r]
      have hi : IntsAre its ns := rv.ints
      refine set_of_list ns hh pl.isList (by simpa using hi) (by unfold scanBound; omega) fun s2 hs2 => ?_
      obtain ⟨h', tk, c, rfl, R, hc, kk⟩ := hs2
      have hn : H s.heap.objs.size = none := I.fresh
      have I2 := I.laid (t' := tk) (o := SetO X.w s.heap.objs.size (fun j => decide (j ∈ ns)) c) kk (Nat.le_refl _) (setO_new R)
      refine ⟨.ref _, _, I2, rfl, ?_⟩
      obtain ⟨S2, s2⟩ := S.fresh (o := SetO X.w s.heap.objs.size (fun j => decide (j ∈ ns)) c) hn
      refine Pr.ret (Pr.monoF h1 s2) S2 _ (.set (S := fun j => decide (j ∈ ns)) (n := c) ?_ fun k => by simp)
      rw [C.w]; exact upd_same
    · cases hv
  · -- set tup
    obtain ⟨ns, hb, hv⟩ := some_bind hv
    split at hv
    · rename_i hz
      cases hv
      obtain ⟨v, rfl, hr⟩ := hd.one
      obtain ⟨a, vs, rfl, hA, ra⟩ := hr.tup S.sub
      rw [ra.ints hb, ← ck] at hA
      obtain ⟨its, rv, pl, hz2⟩ := I.tuple hA
      rw [Vals.ref1 r]
      have hi : IntsAre its ns := rv.ints
      refine call_set_tupI ns hh pl (by simpa using hi) (by unfold scanBound; omega) fun h' tk c R hc kk => ?_
      have hn : H s.heap.objs.size = none := I.fresh
      have I2 := I.laid (t' := tk) (o := SetO X.w s.heap.objs.size (fun j => decide (j ∈ ns)) c) kk (Nat.le_refl _) (setO_new R)
      refine ⟨.ref _, _, I2, rfl, ?_⟩
      obtain ⟨S2, s2⟩ := S.fresh (o := SetO X.w s.heap.objs.size (fun j => decide (j ∈ ns)) c) hn
      refine Pr.ret (Pr.monoF h1 s2) S2 _ (.set (S := fun j => decide (j ∈ ns)) (n := c) ?_ fun k => by simp)
      rw [C.w]; exact upd_same
    · cases hv
  · -- max lst
    obtain ⟨ns, hb, hv⟩ := some_bind hv
    cases ns with
    | nil => cases hv
    | cons x rr =>
      cases hv
      obtain ⟨v, rfl, hr⟩ := hd.one
      obtain ⟨a, vs, rfl, hA, ra⟩ := hr.lst S.sub
      rw [ra.ints hb] at hA
      refine cr_max C.calm pins s σ0 H _ us Q I r ⟨a, x :: rr, rfl, SqL.of hA, by simp, fun m m1 m2 => ?_⟩
      rw [maxI_the m1 m2]
      exact fin_d S h1 (.int _)
  · -- max tup
    obtain ⟨ns, hb, hv⟩ := some_bind hv
    cases ns with
    | nil => cases hv
    | cons x rr =>
      cases hv
      obtain ⟨v, rfl, hr⟩ := hd.one
      obtain ⟨a, vs, rfl, hA, ra⟩ := hr.tup S.sub
      rw [ra.ints hb, ← ck] at hA
      obtain ⟨its, rv, pl, hz2⟩ := I.tuple hA
      rw [Vals.ref1 r]
      have hi : IntsAre its (x :: rr) := rv.ints
      refine PySem.W.max_tuple_data (x := .int x) (xs := rr.map .int) hh (show s.heap.IsTuple a its.toArray from pl) (by rw [List.toList_toArray]; exact ints_reads (ns := x :: rr) hi) (alike_ints (x :: rr)) ?_ fun i v h' tk bs _ rd kk => ?_
      · have := C.room.units
        rw [show (PyData.int x :: rr.map PyData.int) = (x :: rr).map PyData.int from rfl, depth_ints]
        omega
      · rw [PySem.W.maxD_ints] at rd
        cases rd with
        | int i t => exact ⟨.int _, H, I.kept kk, ⟨_, rfl⟩, fin_d S h1 (.int _)⟩
  · -- max of two
    cases hv
    obtain ⟨v, w, rfl, hr, hr2⟩ := hd.two
    cases hr.int; cases hr2.int
    exact call_max2 C.calm pins s σ0 H _ us Q I r ⟨_, _, rfl, fin_d S h1 (.int _)⟩
  · -- min lst
    obtain ⟨ns, hb, hv⟩ := some_bind hv
    cases ns with
    | nil => cases hv
    | cons x rr =>
      cases hv
      obtain ⟨v, rfl, hr⟩ := hd.one
      obtain ⟨a, vs, rfl, hA, ra⟩ := hr.lst S.sub
      rw [ra.ints hb] at hA
      refine cr_min C.calm pins s σ0 H _ us Q I r ⟨a, x :: rr, rfl, SqL.of hA, by simp, fun m m1 m2 => ?_⟩
      rw [minI_the m1 m2]
      exact fin_d S h1 (.int _)
  · -- min tup
    obtain ⟨ns, hb, hv⟩ := some_bind hv
    cases ns with
    | nil => cases hv
    | cons x rr =>
      cases hv
      obtain ⟨v, rfl, hr⟩ := hd.one
      obtain ⟨a, vs, rfl, hA, ra⟩ := hr.tup S.sub
      rw [ra.ints hb, ← ck] at hA
      obtain ⟨its, rv, pl, hz2⟩ := I.tuple hA
      rw [Vals.ref1 r]
      have hi : IntsAre its (x :: rr) := rv.ints
      refine PySem.W.min_tuple_data (x := .int x) (xs := rr.map .int) hh (show s.heap.IsTuple a its.toArray from pl) (by rw [List.toList_toArray]; exact ints_reads (ns := x :: rr) hi) (alike_ints (x :: rr)) ?_ fun i v h' tk bs _ rd kk => ?_
      · have := C.room.units
        rw [show (PyData.int x :: rr.map PyData.int) = (x :: rr).map PyData.int from rfl, depth_ints]
        omega
      · rw [PySem.W.minD_ints] at rd
        cases rd with
        | int i t => exact ⟨.int _, H, I.kept kk, ⟨_, rfl⟩, fin_d S h1 (.int _)⟩
  · cases hv
    obtain ⟨v, w, rfl, hr, hr2⟩ := hd.two
    cases hr.int; cases hr2.int
    exact call_min2 C.calm pins s σ0 H _ us Q I r ⟨_, _, rfl, fin_d S h1 (.int _)⟩
  · -- sum lst
    obtain ⟨ns, hb, rfl⟩ := some_map hv
    obtain ⟨v, rfl, hr⟩ := hd.one
    obtain ⟨a, vs, rfl, hA, ra⟩ := hr.lst S.sub
    rw [ra.ints hb] at hA
    exact cr_sum C.calm pins s σ0 H _ us Q I r ⟨a, ns, rfl, SqL.of hA, fin_d S h1 (.int _)⟩
  · -- sum tup
    obtain ⟨ns, hb, rfl⟩ := some_map hv
    obtain ⟨v, rfl, hr⟩ := hd.one
    obtain ⟨a, vs, rfl, hA, ra⟩ := hr.tup S.sub
    rw [ra.ints hb, ← ck] at hA
    obtain ⟨its, rv, pl, hz2⟩ := I.tuple hA
    rw [Vals.ref1 r]
    have hi : IntsAre its ns := rv.ints
    obtain ⟨zs, ez⟩ := hi.allInts.items
    have hn : numsOf (intItems zs).toList = ns := by rw [← ez]; exact hi.numsOf
    rw [nums_intItems] at hn
    have pl' : s.heap.IsTuple a (intItems zs) := by rw [← ez]; exact pl
    refine PySem.W.ktm_sumG hh pl' fun h' tk t' kk => ?_
    rw [preSum_eq, List.take_of_length_le (by simp), hn]
    exact ⟨.int _, H, I.kept kk, ⟨_, rfl⟩, fin_d S h1 (.int _)⟩
  · -- abs
    cases hv
    obtain ⟨v, rfl, hr⟩ := hd.one
    cases hr.int
    exact call_abs pins s σ0 H _ us Q I r ⟨_, rfl, fin_d S h1 (.int _)⟩
  · cases hv
end
end PX

end
section
set_option Elab.async false
set_option linter.all false
set_option maxRecDepth 100000
set_option maxHeartbeats 1000000
/-! PXi: calls of the text's own defs. -/
namespace PX
open PySem PySem.Spec PyProof.Rows L2

def adrOf (vs : List V) (args : List Arg) (i : Nat) : Option Addr := match args[i]?, vs[i]? with
  | some (.c _), some (.ref a) => some a
  | _, _ => none
section
variable (G : Ct) (F H : Hp)
inductive ArgsOk : List V → List Arg → Prop
  | nil : ArgsOk [] []
  | d {v : V} {d : D} {vs : List V} {as : List Arg} (h : Rep G F v d) (r : ArgsOk vs as) : ArgsOk (v :: vs) (.d d :: as)
  | c {a : Addr} {c : Cell} {vs : List V} {as : List Arg} (n : F a = none) (h : CellOk G F H a c) (r : ArgsOk vs as) : ArgsOk (.ref a :: vs) (.c c :: as)
end
structure Post (G : Ct) (F H F' H' : Hp) (adr : Nat → Option Addr) (outs : List (Option Cell)) : Prop where
  sF : Same F F'
  sub : Same F' H'
  frm : ∀ b o, H b = some o → (∀ i, adr i ≠ some b) → H' b = some o
  liv : ∀ b o, H b = some o → ∃ o', H' b = some o'
  new : ∀ b o, F' b = some o → F b = some o ∨ H b = none
  out : ∀ i a c, adr i = some a → outs[i]? = some (some c) → F' a = none ∧ CellOk G F' H' a c
def OutOk (G : Ct) (H F' H' : Hp) (v : V) : Out → Prop
  | .d d => Rep G F' v d
  | .new c => ∃ a, v = .ref a ∧ F' a = none ∧ H a = none ∧ CellOk G F' H' a c
def spF (G : Ct) (cf : Cf) (f : Nat) : Sp := fun vs H Q E => ∃ F args, Same F H ∧ ArgsOk G F H vs args ∧ (∀ i j a, adrOf vs args i = some a → adrOf vs args j = some a → i = j) ∧
  match cf f args with
  | .ok o outs => ∀ v F' H', Post G F H F' H' (adrOf vs args) outs → OutOk G H F' H' v o → Q v H'
  | .exc c n d outs => ∀ cls dx F' H', Post G F H F' H' (adrOf vs args) outs → ExcOk G F' H' cls dx c n d → E cls dx H'
  | .bad => False

section
variable {G : Ct} {B : Bs} {W : WX} {σ : L2.St} {F F' H H' : Hp} {e e' : Env} {Q : VK} {v : V} {d : D} {a p : Addr} {ds : List D} {vs : List V} {k : Nat}
inductive RepAs (G : Ct) (B : Bs) (F : Hp) (e : Env) (σ : L2.St) (H : Hp) : List V → List AV → Prop
  | nil : RepAs G B F e σ H [] []
  | cons {v : V} {a : AV} {vs : List V} {as : List AV} (n : NN a) (h : RepA G B F e σ H v a) (r : RepAs G B F e σ H vs as) : RepAs G B F e σ H (v :: vs) (a :: as)
theorem RepAs.later (s : Same F F') : ∀ {vs : List V} {as : List AV}, RepAs G B F e σ H vs as → RepAs G B F' e' σ H' vs as
  | _, _, .nil => .nil
  | _, _, .cons n h r => .cons n (n.later s h) (RepAs.later s r)
theorem RepAs.get : ∀ {vs : List V} {as : List AV} {j : Nat} {a : AV}, RepAs G B F e σ H vs as → as[j]? = some a → ∃ v, vs[j]? = some v ∧ NN a ∧ RepA G B F e σ H v a
  | _, _, _, _, .nil, hj => by cases hj
  | _, _, 0, _, .cons n h r, hj => by cases hj; exact ⟨_, rfl, n, h⟩
  | _, _, j + 1, _, .cons n h r, hj => RepAs.get (j := j) r hj
theorem toArgs_get {as : List AV} {args : List Arg} (h : toArgs e as = some args) : as.length = args.length ∧ ∀ (j : Nat) (a : AV), as[j]? = some a → ∃ x, args[j]? = some x ∧ toArg e a = some x := by
  induction as generalizing args with
  | nil => cases h; exact ⟨rfl, fun j a q => by cases q⟩
  | cons x as ih =>
    unfold toArgs at h
    obtain ⟨y, hy, h⟩ := some_bind h
    obtain ⟨ys, hys, rfl⟩ := some_map h
    obtain ⟨h1, h2⟩ := ih hys
    refine ⟨by rw [List.length_cons, List.length_cons, h1], fun j a q => ?_⟩
    cases j with
    | zero => cases q; exact ⟨y, rfl, hy⟩
    | succ j => exact h2 j a q
/-- what is handed lies -/
theorem argsOk_of (S : Sat G B F e σ H) : ∀ {as : List AV} {args : List Arg} {vs : List V}, RepAs G B F e σ H vs as → toArgs e as = some args → ArgsOk G F H vs args
  | [], _, _, r, h => by cases h; cases r; exact .nil
  | a :: as, args, vs, r, h => by
    unfold toArgs at h
    obtain ⟨y, hy, h⟩ := some_bind h
    obtain ⟨ys, hys, rfl⟩ := some_map h
    cases r with
    | cons n hr r =>
      have ih := argsOk_of S r hys
      cases a with
      | new c => exact n.elim
      | d d => cases hy; exact .d hr ih
      | slot i =>
        have hr : σ[i]? = some (some _) := hr
        unfold toArg at hy
        dsimp only at hy
        cases es : e[i]? with
        | none => rw [es] at hy; cases hy
        | some s =>
          rw [es] at hy
          have q := S.slot i s es
          cases s with
          | non => cases hy
          | val d =>
            cases hy
            obtain ⟨v', e1, r1⟩ := q
            rw [hr] at e1; cases e1
            exact .d r1 ih
          | own c =>
            cases hy
            obtain ⟨a', e1, n1, _, r1⟩ := q
            rw [hr] at e1; cases e1
            exact .c n1 r1 ih
          | bor c =>
            cases hy
            obtain ⟨a', e1, n1, _, r1⟩ := q
            rw [hr] at e1; cases e1
            exact .c n1 r1 ih
/-- an address that is handed is a slot's own -/
theorem adr_own {as : List AV} {args : List Arg} {vs : List V} {j : Nat} (r : RepAs G B F e σ H vs as) (h : toArgs e as = some args) (ha : adrOf vs args j = some a) : ∃ i, as[j]? = some (.slot i) ∧ ownAt e σ i a := by
  obtain ⟨hl, hg⟩ := toArgs_get h
  unfold adrOf at ha
  split at ha
  · rename_i c b h1 h2
    cases ha
    have lt : j < as.length := by rw [hl]; exact (List.getElem?_eq_some_iff.mp h1).1
    have haj := List.getElem?_eq_getElem lt
    obtain ⟨x, hx, tx⟩ := hg j _ haj
    rw [h1] at hx
    cases hx
    obtain ⟨v, hv, nn, rv⟩ := r.get haj
    rw [h2] at hv
    cases hv
    generalize as[j] = aj at haj tx rv nn
    cases aj with
    | d d => cases tx
    | new c => exact nn.elim
    | slot i =>
      refine ⟨i, haj, ?_, rv⟩
      unfold toArg at tx
      dsimp only at tx
      unfold isOwn
      cases es : e[i]? with
      | none => rw [es] at tx; cases tx
      | some s =>
        rw [es] at tx
        cases s with
        | non => cases tx
        | val d => cases tx
        | own c => rfl
        | bor c => rfl
  · cases ha
theorem own_adr {as : List AV} {args : List Arg} {vs : List V} {j i : Nat} (r : RepAs G B F e σ H vs as) (h : toArgs e as = some args) (hj : as[j]? = some (.slot i)) (ho : ownAt e σ i a) : adrOf vs args j = some a := by
  obtain ⟨hl, hg⟩ := toArgs_get h
  obtain ⟨x, hx, tx⟩ := hg j _ hj
  obtain ⟨v, hv, nn, rv⟩ := r.get hj
  have rv : σ[i]? = some (some v) := rv
  rw [ho.2] at rv
  cases rv
  have h1 := ho.1
  unfold isOwn at h1
  unfold toArg at tx
  dsimp only at tx
  unfold adrOf
  rw [hx, hv]
  cases es : e[i]? with
  | none => rw [es] at h1; cases h1
  | some s =>
    rw [es] at h1 tx
    cases s with
    | non => cases h1
    | val d => cases h1
    | own c => cases tx; rfl
    | bor c => cases tx; rfl
theorem refsOk_get : ∀ {as : List AV} {seen : List Nat}, refsOk e as seen = true → (∀ (j i : Nat), as[j]? = some (.slot i) → isOwn e i = true → i ∉ seen) ∧ ∀ (j l i : Nat), as[j]? = some (.slot i) → as[l]? = some (.slot i) → isOwn e i = true → j = l
  | [], _, _ => ⟨fun j i q => (by cases q), fun j l i q => (by cases q)⟩
  | a :: as, seen, h => by
    cases a with
    | d d =>
      obtain ⟨h1, h2⟩ := refsOk_get (as := as) (seen := seen) h
      refine ⟨fun j i q o => ?_, fun j l i q q2 o => ?_⟩
      · cases j with
        | zero => cases q
        | succ j => exact h1 j i q o
      · cases j with
        | zero => cases q
        | succ j => cases l with
          | zero => cases q2
          | succ l => rw [h2 j l i q q2 o]
    | new c =>
      obtain ⟨h1, h2⟩ := refsOk_get (as := as) (seen := seen) h
      refine ⟨fun j i q o => ?_, fun j l i q q2 o => ?_⟩
      · cases j with
        | zero => cases q
        | succ j => exact h1 j i q o
      · cases j with
        | zero => cases q
        | succ j => cases l with
          | zero => cases q2
          | succ l => rw [h2 j l i q q2 o]
    | slot m =>
      unfold refsOk at h
      by_cases om : isOwn e m = true
      · rw [if_pos om, Bool.and_eq_true] at h
        obtain ⟨hs, h⟩ := h
        have hs : m ∉ seen := by simpa using hs
        obtain ⟨h1, h2⟩ := refsOk_get (as := as) (seen := m :: seen) h
        refine ⟨fun j i q o => ?_, fun j l i q q2 o => ?_⟩
        · cases j with
          | zero => cases q; exact hs
          | succ j => exact fun z => h1 j i q o (List.mem_cons_of_mem _ z)
        · cases j with
          | zero =>
            cases q
            cases l with
            | zero => rfl
            | succ l => exact absurd List.mem_cons_self (h1 l m q2 o)
          | succ j =>
            cases l with
            | zero => cases q2; exact absurd List.mem_cons_self (h1 j m q o)
            | succ l => rw [h2 j l i q q2 o]
      · rw [if_neg om] at h
        obtain ⟨h1, h2⟩ := refsOk_get (as := as) (seen := seen) h
        refine ⟨fun j i q o => ?_, fun j l i q q2 o => ?_⟩
        · cases j with
          | zero => cases q; exact absurd o om
          | succ j => exact h1 j i q o
        · cases j with
          | zero => cases q; exact absurd o om
          | succ j =>
            cases l with
            | zero => cases q2; exact absurd o om
            | succ l => rw [h2 j l i q q2 o]
/-- a slot with another cell in it -/
def recell (s : Option Slot) (c : Cell) : Option Slot := match s with
  | some (.bor _) => some (.bor c)
  | _ => some (.own c)
theorem setOut_get {x : AV} {o : Option Cell} (h : setOut e x o = some e') : e'.length = e.length ∧ (∀ i, isOwn e' i = isOwn e i) ∧
    ∀ i, (∃ c, x = .slot i ∧ o = some c ∧ isOwn e i = true ∧ e'[i]? = recell e[i]? c) ∨ ((x = .slot i → isOwn e i = false) ∧ e'[i]? = e[i]?) := by
  cases x with
  | d d =>
    cases o with
    | none => cases h; exact ⟨rfl, fun _ => rfl, fun i => .inr ⟨nofun, rfl⟩⟩
    | some c => cases h
  | new d =>
    cases o with
    | none => cases h; exact ⟨rfl, fun _ => rfl, fun i => .inr ⟨nofun, rfl⟩⟩
    | some c => cases h
  | slot m =>
    cases o with
    | none =>
      unfold setOut at h
      dsimp only at h
      by_cases om : isOwn e m = true
      · rw [if_pos om] at h; cases h
      · rw [if_neg om] at h; cases h
        exact ⟨rfl, fun _ => rfl, fun i => .inr ⟨fun q => by cases q; simpa using om, rfl⟩⟩
    | some c =>
      unfold setOut at h
      dsimp only at h
      cases es : e[m]? with
      | none => rw [es] at h; cases h
      | some s =>
        have hl : m < e.length := (List.getElem?_eq_some_iff.mp es).1
        rw [es] at h
        cases s with
        | non => cases h
        | val d => cases h
        | own c0 =>
          cases h
          refine ⟨by rw [List.length_set], fun i => ?_, fun i => ?_⟩
          · by_cases q : i = m
            · subst q; unfold isOwn; rw [List.getElem?_set_self hl, es]
            · exact isOwn_set_ne q
          · by_cases q : i = m
            · subst q
              exact .inl ⟨c, rfl, rfl, by unfold isOwn; rw [es], by rw [List.getElem?_set_self hl, es]; rfl⟩
            · exact .inr ⟨fun z => by cases z; exact absurd rfl q, List.getElem?_set_ne (Ne.symm q)⟩
        | bor c0 =>
          cases h
          refine ⟨by rw [List.length_set], fun i => ?_, fun i => ?_⟩
          · by_cases q : i = m
            · subst q; unfold isOwn; rw [List.getElem?_set_self hl, es]
            · exact isOwn_set_ne q
          · by_cases q : i = m
            · subst q
              exact .inl ⟨c, rfl, rfl, by unfold isOwn; rw [es], by rw [List.getElem?_set_self hl, es]; rfl⟩
            · exact .inr ⟨fun z => by cases z; exact absurd rfl q, List.getElem?_set_ne (Ne.symm q)⟩
theorem recell_re (s : Option Slot) (c c' : Cell) : recell (recell s c) c' = recell s c' := by
  cases s with
  | none => rfl
  | some s => cases s <;> rfl
theorem setOuts_get : ∀ {as : List AV} {outs : List (Option Cell)} {e e' : Env}, setOuts e as outs = some e' → e'.length = e.length ∧ (∀ i, isOwn e' i = isOwn e i) ∧
    ∀ (i : Nat), (∃ (j : Nat) (c : Cell), as[j]? = some (.slot i) ∧ outs[j]? = some (some c) ∧ isOwn e i = true ∧ e'[i]? = recell e[i]? c) ∨ ((∀ (j : Nat), as[j]? = some (.slot i) → isOwn e i = false) ∧ e'[i]? = e[i]?)
  | [], [], e, e', h => by cases h; exact ⟨rfl, fun _ => rfl, fun i => .inr ⟨fun j q => (by cases q), rfl⟩⟩
  | [], _ :: _, _, _, h => by cases h
  | _ :: _, [], _, _, h => by cases h
  | a :: as, o :: os, e, e', h => by
    unfold setOuts at h
    obtain ⟨e1, h1, h⟩ := some_bind h
    obtain ⟨l1, w1, g1⟩ := setOut_get h1
    obtain ⟨l2, w2, g2⟩ := setOuts_get h
    refine ⟨l2.trans l1, fun i => (w2 i).trans (w1 i), fun i => ?_⟩
    rcases g2 i with ⟨j, c, q1, q2, q3, q4⟩ | ⟨q1, q2⟩
    · refine .inl ⟨j + 1, c, q1, q2, by rw [← w1]; exact q3, ?_⟩
      rw [q4]
      rcases g1 i with ⟨c0, _, _, _, z⟩ | ⟨_, z⟩
      · rw [z, recell_re]
      · rw [z]
    · rcases g1 i with ⟨c0, z1, z2, z3, z4⟩ | ⟨z1, z2⟩
      · subst z1 z2
        exact .inl ⟨0, c0, rfl, rfl, z3, q2.trans z4⟩
      · refine .inr ⟨fun j q => ?_, q2.trans z2⟩
        cases j with
        | zero => cases q; exact z1 rfl
        | succ j => rw [← w1]; exact q1 j q
/-- behind a call -/
theorem Sat.after {as : List AV} {args : List Arg} {outs : List (Option Cell)} (S : Sat G B F e σ H) (r : RepAs G B F e σ H vs as) (ha : toArgs e as = some args) (P : Post G F H F' H' (adrOf vs args) outs) (ho : setOuts e as outs = some e') : Sat G B F' e' σ H' := by
  obtain ⟨hl, hw, hg⟩ := setOuts_get ho
  have notB : ∀ b o, B.H0 b = some o → (∀ i, B.adr i ≠ some b) → ∀ j, adrOf vs args j ≠ some b := fun b o h1 h2 j q => by
    obtain ⟨i, _, ow⟩ := adr_own r ha q
    obtain ⟨a', c, ow', _, _, _, k⟩ := S.ownSlot ow.1
    have e1 : b = a' := by have := ow.2.symm.trans ow'.2; simpa using this
    subst e1
    rcases k with k | k
    · obtain ⟨a2, e2, _, b0, _⟩ := S.slot i _ k
      have : b = a2 := by have := ow.2.symm.trans e2; simpa using this
      subst this
      rw [b0] at h1; cases h1
    · obtain ⟨a2, e2, _, b0, _⟩ := S.slot i _ k
      have : b = a2 := by have := ow.2.symm.trans e2; simpa using this
      subst this
      exact h2 i b0
  have stay : ∀ i a, ownAt e σ i a → (∀ (j : Nat), as[j]? = some (.slot i) → isOwn e i = false) → F' a = none ∧ H' a = H a := fun i a ow hn => by
    obtain ⟨nF, o, hO⟩ := S.ownLive ow
    have na : ∀ j, adrOf vs args j ≠ some a := fun j q => by
      obtain ⟨i', q1, ow'⟩ := adr_own r ha q
      have := S.apart i' i a ow' ow
      subst this
      have := hn j q1
      rw [ow.1] at this; cases this
    refine ⟨?_, (P.frm a o hO na).trans hO.symm⟩
    cases q : F' a with
    | none => rfl
    | some o' =>
      rcases P.new a o' q with z | z
      · rw [nF] at z; cases z
      · rw [hO] at z; cases z
  refine ⟨P.sub, S.f0.trans P.sF, fun b o h1 h2 => P.frm b o (S.frm b o h1 h2) (notB b o h1 h2), fun b o h1 => ?_, fun b o h1 => ?_, fun i s es => ?_, fun i j b hi hj => S.apart i j b ⟨by rw [← hw]; exact hi.1, hi.2⟩ ⟨by rw [← hw]; exact hj.1, hj.2⟩, hl.trans S.len⟩
  · obtain ⟨o', h⟩ := S.liv b o h1
    exact P.liv b o' h
  · rcases P.new b o h1 with z | z
    · exact S.new b o z
    · exact .inr (S.base0 z)
  · rcases hg i with ⟨j, c, q1, q2, q3, q4⟩ | ⟨q1, q2⟩
    · obtain ⟨a, c0, ow, nF, ck, _, kk⟩ := S.ownSlot q3
      obtain ⟨n2, ck2⟩ := P.out j a c (own_adr r ha q1 ow) q2
      rw [es] at q4
      rcases kk with kk | kk
      · rw [kk] at q4
        cases q4
        obtain ⟨a2, e2, _, b0, _⟩ := S.slot i _ kk
        have : a = a2 := by have := ow.2.symm.trans e2; simpa using this
        subst this
        exact ⟨a, e2, n2, b0, ck2⟩
      · rw [kk] at q4
        cases q4
        obtain ⟨a2, e2, _, b0, _⟩ := S.slot i _ kk
        have : a = a2 := by have := ow.2.symm.trans e2; simpa using this
        subst this
        exact ⟨a, e2, n2, b0, ck2⟩
    · rw [q2] at es
      have q := S.slot i s es
      cases s with
      | non => trivial
      | val d => obtain ⟨v, e1, r1⟩ := q; exact ⟨v, e1, r1.mono P.sF⟩
      | own c =>
        obtain ⟨a, e1, n, b0, r1⟩ := q
        obtain ⟨n', eh⟩ := stay i a ⟨by unfold isOwn; rw [es], e1⟩ q1
        exact ⟨a, e1, n', b0, (r1.mono P.sF).at eh⟩
      | bor c =>
        obtain ⟨a, e1, n, b0, r1⟩ := q
        obtain ⟨n', eh⟩ := stay i a ⟨by unfold isOwn; rw [es], e1⟩ q1
        exact ⟨a, e1, n', b0, (r1.mono P.sF).at eh⟩
/-- what a call's outcome asks is the callee's promise -/
theorem call_w {as : List AV} {cf : Cf} {f : Nat} (S : Sat G B F e σ H) (r : RepAs G B F e σ H vs as) (h : Pr G B W σ (callM cf f as e) F (KA G B σ Q)) : spF G cf f vs H Q (fun cls dx H' => W cls dx σ H') := by
  unfold callM at h
  by_cases hr : refsOk e as [] = true
  · rw [if_pos hr] at h
    cases ha : toArgs e as with
    | none => rw [ha] at h; exact h.elim
    | some args =>
      rw [ha] at h
      refine ⟨F, args, S.sub, argsOk_of S r ha, fun i j a q1 q2 => ?_, ?_⟩
      · obtain ⟨m, z1, o1⟩ := adr_own r ha q1
        obtain ⟨m2, z2, o2⟩ := adr_own r ha q2
        have := S.apart m m2 a o1 o2
        subst this
        exact (refsOk_get hr).2 i j m z1 z2 o1.1
      · cases hc : cf f args with
        | bad => simp only [hc] at h; exact h.elim
        | ok o outs =>
          simp only [hc] at h
          cases hs : setOuts e as outs with
          | none => simp only [hs] at h; exact h.elim
          | some e' =>
            simp only [hs] at h
            intro v F' H' P O
            have S' := S.after r ha P hs
            refine h F' H' P.sF S' v ?_
            cases o with
            | d d => exact O
            | new c =>
              obtain ⟨a, e1, n, h0, ck⟩ := O
              refine ⟨a, e1, n, S.base0 h0, ck, fun i hi => ?_⟩
              have ow : ownAt e σ i a := ⟨by rw [← (setOuts_get hs).2.1]; exact hi.1, hi.2⟩
              obtain ⟨_, o, hO⟩ := S.ownLive ow
              rw [h0] at hO; cases hO
        | exc c n d outs =>
          simp only [hc] at h
          cases hs : setOuts e as outs with
          | none => simp only [hs] at h; exact h.elim
          | some e' =>
            simp only [hs] at h
            intro cls dx F' H' P X
            exact h F' H' cls dx P.sF (S.after r ha P hs) X
  · rw [if_neg hr] at h
    exact h.elim
end
end PX

end
section
set_option Elab.async false
set_option linter.all false
set_option maxRecDepth 100000
set_option maxHeartbeats 1000000
/-! PXj: expressions, one form at a time. -/
namespace PX
open PySem PySem.Spec PyProof.Rows L2

/-- what stands fixed of the modules -/
structure Fx0 (G : Ct) (T : Tab) : Prop where
  nm : ∀ f m, T.nms[f]? = some m → G.nm f = m
  inj : ∀ f n, f < T.nms.length → G.nm f = G.nm n → f = n
  bi : ∀ b : Bi, G.mg (biNm b) = none
  range : G.mg "range" = none
  enum : G.mg "enumerate" = none
  zip : G.mg "zip" = none
  isi : G.mg "isinstance" = none
  ty : ∀ t : Ty, (∀ c, t ≠ .cls c) → G.mg (tyNm t) = none
  globs : ∀ x i, T.globs.lookup x = some i → ∃ t, G.mg x = some (.int i t)
  fns : ∀ f fd, T.fns[f]? = some fd → fd.glob = true → G.mg fd.name = some (.ref (G.fA f)) ∧ PySem.W.keepIn G.K (.ref (G.fA f)) = true
  cls : ∀ c cd, T.cls[c]? = some cd → G.mg cd.name = some (.ref (G.cA c)) ∧ Cls G.K (G.cA c) ∧ (∀ (f : Nat) (m : Str), T.nms[f]? = some m → NoAttr G.K (G.cA c) m) ∧ Mk G.K (G.cA c) (G.fA cd.init)
  errs : ∀ j ed, T.errs[j]? = some ed → ∃ (fI : Addr) (st : Stmt) (fld : Str), T.nms[ed.fld]? = some fld ∧ ErrT G.P G.K G.mg ed.name (G.cA (T.cls.length + j)) fI st fld
  exm : ∀ i j, i < T.errs.length → j < T.errs.length → PySem.W.exmOne G.K (.ref (G.cA (T.cls.length + i))) (.ref (G.cA (T.cls.length + j))) = some (decide (i = j))
/-- every def keeps its promise at a level -/
def Fk (G : Ct) (T : Tab) (k : Nat) : Prop := ∀ f fd, T.fns[f]? = some fd → ∃ fdt, Binds G.K fdt fd.ps [] ∧ FnOk G.P G.w G.K G.mg G.base (L2.CX G.P G.w) (2 * k) (G.fA f) fdt fd.ps (spF G (callT T k) f)

/-- the context of a text -/
structure CO (G : Ct) (T : Tab) (sc : Sc) (k : Nat) (W : WX) (X : Cx) : Prop where
  xc : XC G (2 * k + 1) X
  run : X.env.scope = sc.run
  N : X.N = sc.N
  nd : sc.N.Nodup
  wr : ∀ x, locB sc x = true → Loc X.env.scope x ∧ (X.fn x = true ∨ X.env.scope.names.lookup x = some .local)
  kind : X.env.scope.kind = .function
  tk : Takes X W
  fx : Fx0 G T
  fk : Fk G T k

theorem visB_ok {sc : Sc} {X : Cx} (e : X.env.scope = sc.run) {x : Str} (h : visB sc x = true) : Vis X.env.scope x := by
  unfold visB at h
  unfold Vis
  rw [e]
  split at h <;> first | exact .inl (by assumption) | exact .inr (.inl (by assumption)) | exact .inr (.inr (by assumption)) | cases h
theorem glB_ok {sc : Sc} {X : Cx} (e : X.env.scope = sc.run) {x : Str} (h : glB sc x = true) : Gl X x := by
  unfold glB at h
  unfold Gl Env.kindOf
  rw [e]
  split at h
  · assumption
  · cases h
theorem nameB_ok {x : Str} (h : nameB x = true) : (x == ("__debug__" : Str)) = false ∧ (x == ("__classdict__" : Str)) = false ∧ x ≠ "__name__" := by
  unfold nameB at h
  simp only [Bool.and_eq_true, Bool.not_eq_true'] at h
  exact ⟨h.1.1, h.1.2, fun e => by rw [e] at h; exact absurd h.2 (by decide)⟩
theorem slotB_ok {sc : Sc} {X : Cx} (e : X.N = sc.N) {i : Nat} {x : Str} (h : slotB sc i x = true) : X.N[i]? = some x ∧ nameB x = true := by
  unfold slotB at h
  simp only [Bool.and_eq_true, decide_eq_true_eq] at h
  exact ⟨by rw [e]; exact h.1, h.2⟩
theorem star_ok {e : Expr} {es : List Expr} {env : PySem.Env} (h : noStar e = true) : starEach (e :: es) env = (false, eval e env) :: starEach es env := by
  cases e <;> first | rfl | cases h
theorem plainIx_ok {e : Expr} (h : noSlice e = true) : PlainIx e := by
  intro o i
  cases e <;> first | rfl | cases h
theorem set_ok {e : Expr} {env : PySem.Env} (h : noSet e = true) : ∀ x, foldedSetIterable e env x = pure x := by
  intro x
  cases e <;> first | rfl | cases h
theorem mark_ok {e : Expr} (op : CmpOp) (h : noSet e = true) : behindInMarks op e = false := by
  cases op <;> cases e <;> first | rfl | cases h
theorem super_ok {e : Expr} {f : Str} {env : PySem.Env} (h : noSuper e = true) : attributeBase e f env (eval e env) = eval e env := by
  cases e with
  | Call g as ks p =>
    cases g with
    | Name x q =>
      cases as with
      | nil =>
        cases ks with
        | nil =>
          have : (x == ("super" : Str)) = false := by simpa [noSuper] using h
          unfold attributeBase
          simp [bne, this]
        | cons _ _ => rfl
      | cons _ _ => rfl
    | _ => rfl
  | _ => rfl

section
variable {G : Ct} {B : Bs} {W : WX} {σ : L2.St} {F F' H H' : Hp} {e e' : Env} {Q : VK} {v : V} {d : D} {a p : Addr} {ds : List D} {vs : List V} {X : Cx} {k : Nat} {T : Tab} {sc : Sc} {pos : Pos}
theorem e_var {i : Nat} {x : Str} (C : CO G T sc k W X) (h : slotB sc i x = true) (hv : visB sc x = true) : PE X (.Name x pos) (tE G B W (rdVar i)) := by
  obtain ⟨h1, h2⟩ := slotB_ok C.N h
  obtain ⟨d1, d2, _⟩ := nameB_ok h2
  refine pe_weak (pe_var h1 (visB_ok C.run hv) d1 d2) fun σ H Q q => ?_
  obtain ⟨F, e, S, q⟩ := q
  unfold rdVar at q
  cases es : e[i]? with
  | none => simp only [es] at q; exact q.elim
  | some s =>
    simp only [es] at q
    have so := S.slot i s es
    cases s with
    | non => exact q.elim
    | val d =>
      obtain ⟨v, e1, r⟩ := so
      exact ⟨v, e1, q F H (Same.refl F) S v e1⟩
    | own c =>
      obtain ⟨v, e1, r⟩ := so
      exact ⟨_, e1, q F H (Same.refl F) S _ e1⟩
    | bor c =>
      obtain ⟨v, e1, r⟩ := so
      exact ⟨_, e1, q F H (Same.refl F) S _ e1⟩
theorem e_int {i : Int} {j : Nat} : PE X (.Constant (.int i) j pos) (tE G B W (ret (.d (.int i)))) := pe_weak pe_int fun σ H Q ⟨F, e, S, q⟩ => fin_d S q (.int i)
theorem e_str {i : Str} {j : Nat} : PE X (.Constant (.str i) j pos) (tE G B W (ret (.d (.str i)))) := pe_weak pe_str fun σ H Q ⟨F, e, S, q⟩ => fin_d S q (.str i)
theorem e_bl {i : Bool} {j : Nat} : PE X (.Constant (.bool i) j pos) (tE G B W (ret (.d (.bl i)))) := pe_weak pe_bl fun σ H Q ⟨F, e, S, q⟩ => fin_d S q (.bl i)
theorem e_non {j : Nat} : PE X (.Constant .none j pos) (tE G B W (ret (.d .non))) := pe_weak pe_non fun σ H Q ⟨F, e, S, q⟩ => fin_d S q .non
theorem e_glob {x : Str} {i : Int} (C : CO G T sc k W X) (hg : glB sc x = true) (hn : nameB x = true) (h : T.globs.lookup x = some i) : PE X (.Name x pos) (tE G B W (ret (.d (.int i)))) := by
  obtain ⟨t, ht⟩ := C.fx.globs x i h
  exact pe_weak (pe_glob (v := .int i) (glB_ok C.run hg) (by rw [C.xc.mg]; exact ht) ⟨t, rfl⟩ (nameB_ok hn).1) fun σ H Q ⟨F, e, S, q⟩ => fin_d S q (.int i)

/-! ### lists of expressions -/
theorem l_nil : PA X [] (tL G B W (ret [])) := pa_weak pa_nil fun σ H Q ⟨F, e, S, q⟩ => Pr.ret q S [] .nil
theorem l_cons {x : Expr} {xs : List Expr} {m : M AV} {ms : M (List D)} (hs : noStar x = true) (h : PE X x (tE G B W m)) (hr : PA X xs (tL G B W ms)) : PA X (x :: xs) (tL G B W (bnd (dataM m) fun d => bnd ms fun ds => ret (d :: ds))) := by
  refine pa_weak (pa_cons (data_e h) hr (star_ok hs)) fun σ H Q q => ?_
  obtain ⟨F, e, S, q⟩ := q
  refine ⟨F, e, S, (Pr.bnd q).imp fun d e1 F1 H1 _ S1 k1 v rv => ?_⟩
  exact ⟨F1, e1, S1, (Pr.bnd k1).imp fun ds e2 F2 H2 s2 S2 k2 vs rvs => Pr.ret k2 S2 (v :: vs) (.cons (rv.mono s2) rvs)⟩
def tAs (G : Ct) (B : Bs) (W : WX) (m : M (List AV)) : TA := fun σ H Q => ∃ F e, Sat G B F e σ H ∧ Pr G B W σ (m e) F (fun as e' F' H' => ∀ vs, RepAs G B F' e' σ H' vs as → Q vs H')
theorem as_nil : PA X [] (tAs G B W (ret [])) := pa_weak pa_nil fun σ H Q ⟨F, e, S, q⟩ => Pr.ret q S [] .nil
/-- one argument, as it is handed -/
def argM (r : Bool) (m : M AV) : M AV := if r then opr m else bnd (dataM m) fun d => ret (.d d)
theorem as_cons {x : Expr} {xs : List Expr} {m : M AV} {ms : M (List AV)} {r : Bool} (hs : noStar x = true) (h : PE X x (tE G B W m)) (hr : PA X xs (tAs G B W ms)) : PA X (x :: xs) (tAs G B W (bnd (argM r m) fun a => bnd ms fun as => ret (a :: as))) := by
  cases r with
  | true =>
    refine pa_weak (pa_cons (oper_e h) hr (star_ok hs)) fun σ H Q q => ?_
    obtain ⟨F, e, S, q⟩ := q
    refine ⟨F, e, S, (opr_nn (Pr.bnd q)).imp fun a e1 F1 H1 _ S1 ⟨n1, k1⟩ v rv => ?_⟩
    exact ⟨F1, e1, S1, (Pr.bnd k1).imp fun ds e2 F2 H2 s2 S2 k2 vs rvs => Pr.ret k2 S2 (v :: vs) (.cons n1 (n1.later s2 rv) rvs)⟩
  | false =>
    refine pa_weak (pa_cons (data_e h) hr (star_ok hs)) fun σ H Q q => ?_
    obtain ⟨F, e, S, q⟩ := q
    have q : Pr G B W σ (bnd (bnd (dataM m) fun d => ret (.d d)) (fun a => bnd ms fun as => ret (a :: as)) e) F _ := q
    refine ⟨F, e, S, (Pr.bnd (Pr.bnd q)).imp fun d e1 F1 H1 _ S1 k1 v rv => ?_⟩
    have k1 := Pr.ret k1 S1
    refine ⟨F1, e1, S1, (Pr.bnd k1).imp fun ds e2 F2 H2 s2 S2 k2 vs rvs => Pr.ret k2 S2 (v :: vs) (.cons trivial (show Rep G F2 v d from rv.mono s2) rvs)⟩

/-! ### displays -/
theorem e_tup {xs : List Expr} {ms : M (List D)} {j : Nat} (h : PA X xs (tL G B W ms)) : PE X (.Tuple xs j pos) (tE G B W (bnd ms fun ds => if ds.length ≤ SZ then ret (.d (.tup ds)) else bad)) := by
  refine pe_weak (pe_tup h) fun σ H Q q => ?_
  obtain ⟨F, e, S, q⟩ := q
  refine ⟨F, e, S, (Pr.bnd q).imp fun ds e1 F1 H1 _ S1 k1 vs r => ?_⟩
  by_cases hz : ds.length ≤ SZ
  · rw [if_pos hz] at k1
    exact ⟨by rw [r.length]; exact Nat.le_trans hz szLe, fun p hp => fin_tup S1 k1 r hp⟩
  · rw [if_neg hz] at k1; exact k1.elim
theorem e_lst {xs : List Expr} {ms : M (List D)} (h : PA X xs (tL G B W ms)) : PE X (.List xs pos) (tE G B W (bnd ms fun ds => if ds.length ≤ SZ then ret (.new (.lst ds)) else bad)) := by
  refine pe_weak (pe_lst h) fun σ H Q q => ?_
  obtain ⟨F, e, S, q⟩ := q
  refine ⟨F, e, S, (Pr.bnd q).imp fun ds e1 F1 H1 _ S1 k1 vs r => ?_⟩
  by_cases hz : ds.length ≤ SZ
  · rw [if_pos hz] at k1
    exact ⟨by rw [r.length]; exact Nat.le_trans hz szLe, fun p hp => fin_lst S1 k1 r hp⟩
  · rw [if_neg hz] at k1; exact k1.elim
theorem e_dct0 : PE X (.Dict [] [] pos) (tE G B W (ret (.new (.dct [] [])))) := pe_weak pe_dnewK fun σ H Q ⟨F, e, S, q⟩ p hp => fin_dct S q .nil hp

/-! ### operators -/
theorem bop_of {op : Bop} {o : Operator} (h : bopB op o = true) : o = bopOf op := by
  cases op <;> cases o <;> first | rfl | cases h
theorem cop_of {op : Cop} {o : CmpOp} (h : copB op o = true) : o = copOf op ∧ op ≠ .is ∧ op ≠ .isnot := by
  cases op <;> cases o <;> first | exact ⟨rfl, ⟨(fun z => Cop.noConfusion z), (fun z => Cop.noConfusion z)⟩⟩ | cases h
theorem e_bin {x y : Expr} {ma mb : M AV} {op : Bop} {o : Operator} (C : CO G T sc k W X) (ho : bopB op o = true) (ha : PE X x (tE G B W ma)) (hb : PE X y (tE G B W mb)) : PE X (.BinOp x o y pos) (tE G B W (binM ma mb fun x y => ofAV (binD op x y))) := by
  rw [bop_of ho]
  exact pe_weak (pe_op (bin_ok C.xc op) (oper_e ha) (oper_e hb)) fun σ H Q q => bin_w q
theorem e_neg {x : Expr} {ma : M AV} (C : CO G T sc k W X) (ha : PE X x (tE G B W ma)) : PE X (.UnaryOp .USub x pos) (tE G B W (unM ma negD)) := by
  refine pe_weak (pe_un un_neg (oper_e ha)) fun σ H Q q => ?_
  obtain ⟨F, e, S, h⟩ := un_w q
  refine ⟨F, e, S, h.imp fun a e' F' H' _ _ k v r => ?_⟩
  obtain ⟨B, σ, F, e, da, S, hd, k⟩ := k v r
  cases da with
  | int i => cases hd.int; exact ⟨i, rfl, fin_d S k (.int _)⟩
  | _ => exact k.elim
theorem e_not {x : Expr} {ma : M AV} (C : CO G T sc k W X) (ha : PE X x (tE G B W ma)) : PE X (.UnaryOp .Not x pos) (tE G B W (unM ma fun d => bnd (ofO (truD d)) fun t => ret (.d (.bl (!t))))) := by
  refine pe_weak (pe_notT (oper_e ha)) fun σ H Q q => ?_
  obtain ⟨F, e, S, h⟩ := un_w q
  refine ⟨F, e, S, h.imp fun a e' F' H' _ _ k v r => ?_⟩
  obtain ⟨B, σ, F, e, da, S, hd, k⟩ := k v r
  obtain ⟨t, ht, k⟩ := Pr.ofO k
  exact ⟨t, tru_ok' C.xc S hd ht, fin_d S k (.bl _)⟩
theorem cmp_w {ma mb : M AV} {op : Cop} (h : tE G B W (binM ma mb fun x y => bnd (ofO (cmpD op x y)) fun r => ret (.d (.bl r))) σ H Q) : tOp (rC G op) (tE G B W (opr ma)) (tE G B W (opr mb)) σ H Q := by
  obtain ⟨F, e, S, h⟩ := bin_w h
  refine ⟨F, e, S, h.imp fun a e1 F1 H1 _ S1 k v r => ?_⟩
  obtain ⟨F2, e2, S2, h2⟩ := k v r
  refine ⟨F2, e2, S2, h2.imp fun b e3 F3 H3 _ S3 k3 u r3 => ?_⟩
  obtain ⟨B, σ, F, e, da, db, S, ha, hb, k⟩ := k3 u r3
  obtain ⟨t, ht, k⟩ := Pr.ofO k
  exact ⟨B, σ, F, e, da, db, t, S, ha, hb, ht, fin_d S k (.bl t)⟩
theorem e_cmp {x y : Expr} {ma mb : M AV} {op : Cop} {o : CmpOp} (C : CO G T sc k W X) (ho : copB op o = true) (hy : noSet y = true) (ha : PE X x (tE G B W ma)) (hb : PE X y (tE G B W mb)) : PE X (.Compare x [o] [y] pos) (tE G B W (binM ma mb fun x y => bnd (ofO (cmpD op x y)) fun r => ret (.d (.bl r)))) := by
  obtain ⟨e1, n1, n2⟩ := cop_of ho
  rw [e1]
  exact pe_weak (pe_cmpR (cmp_ok C.xc op n1 n2) (oper_e ha) (oper_e hb) (mark_ok _ hy)) fun σ H Q q => cmp_w q
/-- is None -/
theorem isn_w {ma : M AV} {op : Cop} (ho : op = .is ∨ op = .isnot) (h : tE G B W (binM ma (ret (.d .non)) fun x y => bnd (ofO (cmpD op x y)) fun r => ret (.d (.bl r))) σ H Q) : tE G B W (opr ma) σ H (fun x H1 => Q (.bl (if op matches .is then decide (x = .non) else !decide (x = .non))) H1) := by
  obtain ⟨F, e, S, h⟩ := bin_w h
  refine ⟨F, e, S, h.imp fun a e1 F1 H1 _ S1 k v r => ?_⟩
  obtain ⟨F2, e2, S2, h2⟩ := k v r
  have h2 := Pr.ret h2 S2 .non .non
  obtain ⟨B, σ, F, e, da, db, S, ha, hb, k0⟩ := h2
  obtain ⟨t, ht, k9⟩ := Pr.ofO k0
  clear k0
  have e3 : db = .non ∨ cmpD op da db = none := by
    rcases ho with rfl | rfl <;> cases db <;> first | exact .inl rfl | (right; cases da <;> rfl)
  rcases e3 with rfl | e3
  · have hi : decide (v = .non) = _ := RepH.isNon (r := true) ha
    have kq := fin_d (d := .bl t) S k9 (.bl t)
    rcases ho with rfl | rfl
    · have et : t = decide (v = .non) := by
        rw [hi]; cases da <;> (cases ht; rfl)
      rw [et] at kq
      exact kq
    · have et : t = !decide (v = .non) := by
        rw [hi]; cases da <;> (cases ht; rfl)
      rw [et] at kq
      exact kq
  · rw [e3] at ht; cases ht
theorem e_is {x : Expr} {ma : M AV} {j : Nat} {p2 : Pos} (ha : PE X x (tE G B W ma)) : PE X (.Compare x [.Is] [.Constant .none j p2] pos) (tE G B W (binM ma (ret (.d .non)) fun x y => bnd (ofO (cmpD .is x y)) fun r => ret (.d (.bl r)))) :=
  pe_weak (pe_cmp (pc_isN (oper_e ha))) fun σ H Q q => isn_w (.inl rfl) q
theorem e_isnot {x : Expr} {ma : M AV} {j : Nat} {p2 : Pos} (ha : PE X x (tE G B W ma)) : PE X (.Compare x [.IsNot] [.Constant .none j p2] pos) (tE G B W (binM ma (ret (.d .non)) fun x y => bnd (ofO (cmpD .isnot x y)) fun r => ret (.d (.bl r)))) :=
  pe_weak (pe_cmp (pc_notN (oper_e ha))) fun σ H Q q => isn_w (.inr rfl) q
/-- a chain -/
theorem chain_w {ma mb mc : M AV} {o1 o2 : Cop} {P : Bool → Env → Hp → Hp → Prop} (h : ∃ F e, Sat G B F e σ H ∧ Pr G B W σ (cmp2M ma mb mc o1 o2 e) F P) (hP : ∀ b e F H, P b e F H → Q (.bl b) H) : tChain (rC G o1) (rC G o2) (tE G B W (opr ma)) (tE G B W (opr mb)) (tE G B W (opr mc)) σ H Q := by
  obtain ⟨F, e, S, h⟩ := h
  refine ⟨F, e, S, (opr_nn (Pr.bnd h)).imp fun a e1 F1 H1 _ S1 ⟨na, k⟩ v r => ?_⟩
  refine ⟨F1, e1, S1, (opr_nn (Pr.bnd k)).imp fun b e2 F2 H2 s2 S2 ⟨nb, k2⟩ u r2 => ?_⟩
  obtain ⟨da, va, k2⟩ := Pr.view k2
  obtain ⟨db, vb, k2⟩ := Pr.view k2
  obtain ⟨t, ht, k2⟩ := Pr.ofO k2
  refine ⟨B, σ, F2, e2, da, db, t, S2, S2.view na.ne (na.later s2 r) va, S2.view nb.ne r2 vb, ht, t, rfl, ?_⟩
  cases t with
  | false => exact hP _ _ _ _ (Pr.ret k2 S2)
  | true =>
    refine ⟨F2, e2, S2, (opr_nn (Pr.bnd k2)).imp fun c e3 F3 H3 s3 S3 ⟨nc, k3⟩ w r3 => ?_⟩
    obtain ⟨db', vb', k3⟩ := Pr.view k3
    obtain ⟨dc, vc, k3⟩ := Pr.view k3
    obtain ⟨t2, ht2, k3⟩ := Pr.ofO1 k3
    exact ⟨B, σ, F3, e3, db', dc, t2, S3, S3.view nb.ne (nb.later s3 r2) vb', S3.view nc.ne r3 vc, ht2, hP _ _ _ _ (Pr.ret k3 S3)⟩
theorem lastMarks_ok (p1 p2 : CmpOp) {y z : Expr} (hz : noSet z = true) : lastMarks [p1, p2] [y, z] = false := by
  have : lastMarks [p1, p2] [y, z] = behindInMarks p2 z := by first | rfl | with_unfolding_all rfl
  rw [this]
  exact mark_ok p2 hz
theorem e_cmp2 {x y z : Expr} {ma mb mc : M AV} {o1 o2 : Cop} {p1 p2 : CmpOp} (C : CO G T sc k W X) (h1 : copB o1 p1 = true) (h2 : copB o2 p2 = true) (hz : noSet z = true) (ha : PE X x (tE G B W ma)) (hb : PE X y (tE G B W mb)) (hc : PE X z (tE G B W mc)) :
    PE X (.Compare x [p1, p2] [y, z] pos) (tE G B W (bnd (cmp2M ma mb mc o1 o2) fun r => ret (.d (.bl r)))) := by
  obtain ⟨rfl, n1, n2⟩ := cop_of h1
  obtain ⟨rfl, n3, n4⟩ := cop_of h2
  refine pe_weak (pe_chain (cmp_ok C.xc o1 n1 n2) (cmp_ok C.xc o2 n3 n4) (oper_e ha) (oper_e hb) (oper_e hc) (lastMarks_ok _ _ hz)) fun σ H Q q => ?_
  obtain ⟨F, e, S, q⟩ := q
  exact chain_w ⟨F, e, S, (Pr.bnd q).imp fun b e1 F1 H1 _ S1 k => (Pr.ret k S1 (.bl b) (.bl b) : Q (.bl b) H1)⟩ fun _ _ _ _ q => q
theorem t_cmp2 {x y z : Expr} {ma mb mc : M AV} {o1 o2 : Cop} {p1 p2 : CmpOp} (C : CO G T sc k W X) (h1 : copB o1 p1 = true) (h2 : copB o2 p2 = true) (hz : noSet z = true) (ha : PE X x (tE G B W ma)) (hb : PE X y (tE G B W mb)) (hc : PE X z (tE G B W mc)) :
    PT X (.Compare x [p1, p2] [y, z] pos) (tT G B W (cmp2M ma mb mc o1 o2)) := by
  obtain ⟨rfl, n1, n2⟩ := cop_of h1
  obtain ⟨rfl, n3, n4⟩ := cop_of h2
  refine pt_weak (pt_chain (cmp_ok C.xc o1 n1 n2) (cmp_ok C.xc o2 n3 n4) (oper_e ha) (oper_e hb) (oper_e hc) (lastMarks_ok _ _ hz)) fun σ H Q q => ?_
  obtain ⟨F, e, S, q⟩ := q
  exact chain_w ⟨F, e, S, q⟩ fun b _ _ _ q => ⟨b, rfl, q⟩
theorem cmpT_w {ma mb : M AV} {op : Cop} {Q : Bool → Hp → Prop} (h : tT G B W (binM ma mb fun x y => ofO (cmpD op x y)) σ H Q) : tE G B W (binM ma mb fun x y => bnd (ofO (cmpD op x y)) fun r => ret (.d (.bl r))) σ H (fun x H' => ∃ k, x = .bl k ∧ Q k H') := by
  obtain ⟨F, e, S, h⟩ := h
  refine ⟨F, e, S, ?_⟩
  have hb : binM ma mb (fun x y => bnd (ofO (cmpD op x y)) fun r => ret (AV.d (.bl r))) = bnd (binM ma mb fun x y => ofO (cmpD op x y)) fun r => ret (AV.d (.bl r)) := by
    funext e
    unfold binM bnd
    cases opr ma e with
    | ok a e1 =>
      simp only
      cases opr mb e1 with
      | ok b e2 =>
        simp only
        cases viewM a e2 with
        | ok da e3 =>
          simp only
          cases viewM b e3 <;> rfl
        | exc => rfl
        | bad => rfl
      | exc => rfl
      | bad => rfl
    | exc => rfl
    | bad => rfl
  rw [hb]
  unfold bnd
  cases hm : binM ma mb (fun x y => ofO (cmpD op x y)) e with
  | ok a e' =>
    rw [hm] at h
    exact fun F' H' s' S' v r => by cases r; exact ⟨a, rfl, h F' H' s' S'⟩
  | exc c n d e' => rw [hm] at h; exact h
  | bad => rw [hm] at h; exact h
theorem t_cmp {x y : Expr} {ma mb : M AV} {op : Cop} {o : CmpOp} (C : CO G T sc k W X) (ho : copB op o = true) (hy : noSet y = true) (ha : PE X x (tE G B W ma)) (hb : PE X y (tE G B W mb)) : PT X (.Compare x [o] [y] pos) (tT G B W (binM ma mb fun x y => ofO (cmpD op x y))) := by
  obtain ⟨e1, n1, n2⟩ := cop_of ho
  rw [e1]
  exact pt_weak (pt_cmpR (cmp_ok C.xc op n1 n2) (oper_e ha) (oper_e hb) (mark_ok _ hy)) fun σ H Q q => cmp_w (cmpT_w q)
theorem t_is {x : Expr} {ma : M AV} {j : Nat} {p2 : Pos} (ha : PE X x (tE G B W ma)) : PT X (.Compare x [.Is] [.Constant .none j p2] pos) (tT G B W (binM ma (ret (.d .non)) fun x y => ofO (cmpD .is x y))) :=
  pt_weak (pt_cmp (pc_isN (oper_e ha))) fun σ H Q q => isn_w (.inl rfl) (cmpT_w q)
theorem t_isnot {x : Expr} {ma : M AV} {j : Nat} {p2 : Pos} (ha : PE X x (tE G B W ma)) : PT X (.Compare x [.IsNot] [.Constant .none j p2] pos) (tT G B W (binM ma (ret (.d .non)) fun x y => ofO (cmpD .isnot x y))) :=
  pt_weak (pt_cmp (pc_notN (oper_e ha))) fun σ H Q q => isn_w (.inr rfl) (cmpT_w q)

/-! ### tests -/
theorem isTrue_ok {x : Expr} (h : plainT x = true) {env : PySem.Env} : ∀ whole, isTrue x env whole = (do let v ← whole; standAt x.pos; holding [v] (truthy v)) := by
  intro whole
  cases x with
  | UnaryOp op a p => cases op <;> first | rfl | cases h
  | BoolOp => cases h
  | IfExp => cases h
  | Compare => cases h
  | _ => rfl
theorem t_val {x : Expr} {ma : M AV} (C : CO G T sc k W X) (hp : plainT x = true) (ha : PE X x (tE G B W ma)) : PT X x (tT G B W (unM ma fun d => ofO (truD d))) := by
  refine pt_weak (pt_truth (oper_e ha) (isTrue_ok hp)) fun σ H Q q => ?_
  obtain ⟨F, e, S, h⟩ := q
  refine ⟨F, e, S, (opr_nn (Pr.bnd h)).imp fun a e1 F1 H1 _ S1 ⟨na, k⟩ v r => ?_⟩
  obtain ⟨da, va, k⟩ := Pr.view k
  obtain ⟨t, ht, k⟩ := Pr.ofO1 k
  exact ⟨t, tru_ok' C.xc S1 (S1.view na.ne r va) ht, Pr.ret k S1⟩
theorem t_not {x : Expr} {m : M Bool} (h : PT X x (tT G B W m)) : PT X (.UnaryOp .Not x pos) (tT G B W (bnd m fun b => ret (!b))) := by
  refine pt_weak (pt_not h) fun σ H Q q => ?_
  obtain ⟨F, e, S, q⟩ := q
  exact ⟨F, e, S, (Pr.bnd q).imp fun b e1 F1 H1 _ S1 k => Pr.ret k S1⟩
theorem w_and1 {x : Expr} {m : M Bool} (h : PT X x (tT G B W m)) : PW X (.BoolOp .And [x] pos) (tT G B W (bnd m fun b => if b then ret true else ret false)) := by
  refine pw_weak (pw_and1 h) fun σ H Q q => ?_
  obtain ⟨F, e, S, q⟩ := q
  exact ⟨F, e, S, (Pr.bnd q).imp fun b e1 F1 H1 _ S1 k => by cases b <;> exact Pr.ret k S1⟩
theorem w_or1 {x : Expr} {m : M Bool} (h : PT X x (tT G B W m)) : PW X (.BoolOp .Or [x] pos) (tT G B W (bnd m fun b => if b then ret true else ret false)) := by
  refine pw_weak (pw_or1 h) fun σ H Q q => ?_
  obtain ⟨F, e, S, q⟩ := q
  exact ⟨F, e, S, (Pr.bnd q).imp fun b e1 F1 H1 _ S1 k => by cases b <;> exact Pr.ret k S1⟩
theorem w_and {x y : Expr} {r : List Expr} {m ms : M Bool} (h : PT X x (tT G B W m)) (hr : PW X (.BoolOp .And (y :: r) pos) (tT G B W ms)) : PW X (.BoolOp .And (x :: y :: r) pos) (tT G B W (bnd m fun b => if b then ms else ret false)) := by
  refine pw_weak (pw_and h hr) fun σ H Q q => ?_
  obtain ⟨F, e, S, q⟩ := q
  exact ⟨F, e, S, (Pr.bnd q).imp fun b e1 F1 H1 _ S1 k => by
    cases b with
    | true => exact ⟨F1, e1, S1, k⟩
    | false => exact Pr.ret k S1⟩
theorem w_or {x y : Expr} {r : List Expr} {m ms : M Bool} (h : PT X x (tT G B W m)) (hr : PW X (.BoolOp .Or (y :: r) pos) (tT G B W ms)) : PW X (.BoolOp .Or (x :: y :: r) pos) (tT G B W (bnd m fun b => if b then ret true else ms)) := by
  refine pw_weak (pw_or h hr) fun σ H Q q => ?_
  obtain ⟨F, e, S, q⟩ := q
  exact ⟨F, e, S, (Pr.bnd q).imp fun b e1 F1 H1 _ S1 k => by
    cases b with
    | true => exact Pr.ret k S1
    | false => exact ⟨F1, e1, S1, k⟩⟩
theorem e_and {x y : Expr} {r : List Expr} {m ms : M AV} (C : CO G T sc k W X) (h : PE X x (tE G B W m)) (hr : PE X (.BoolOp .And (y :: r) pos) (tE G B W ms)) : PE X (.BoolOp .And (x :: y :: r) pos) (tE G B W (bnd (opr m) fun x => bnd (viewM x) fun d => bnd (ofO (truD d)) fun t => if t then ms else ret x)) := by
  refine pe_weak (pe_andT (oper_e h) hr) fun σ H Q q => ?_
  obtain ⟨F, e, S, q⟩ := q
  refine ⟨F, e, S, (opr_nn (Pr.bnd q)).imp fun a e1 F1 H1 _ S1 ⟨na, k⟩ v r => ?_⟩
  obtain ⟨da, va, k⟩ := Pr.view k
  obtain ⟨t, ht, k⟩ := Pr.ofO k
  refine ⟨t, tru_ok' C.xc S1 (S1.view na.ne r va) ht, ?_⟩
  cases t with
  | true => exact ⟨F1, e1, S1, k⟩
  | false => exact Pr.ret k S1 v r
theorem e_or {x y : Expr} {r : List Expr} {m ms : M AV} (C : CO G T sc k W X) (h : PE X x (tE G B W m)) (hr : PE X (.BoolOp .Or (y :: r) pos) (tE G B W ms)) : PE X (.BoolOp .Or (x :: y :: r) pos) (tE G B W (bnd (opr m) fun x => bnd (viewM x) fun d => bnd (ofO (truD d)) fun t => if t then ret x else ms)) := by
  refine pe_weak (pe_orT (oper_e h) hr) fun σ H Q q => ?_
  obtain ⟨F, e, S, q⟩ := q
  refine ⟨F, e, S, (opr_nn (Pr.bnd q)).imp fun a e1 F1 H1 _ S1 ⟨na, k⟩ v r => ?_⟩
  obtain ⟨da, va, k⟩ := Pr.view k
  obtain ⟨t, ht, k⟩ := Pr.ofO k
  refine ⟨t, tru_ok' C.xc S1 (S1.view na.ne r va) ht, ?_⟩
  cases t with
  | true => exact Pr.ret k S1 v r
  | false => exact ⟨F1, e1, S1, k⟩
theorem e_ite {c x y : Expr} {m : M Bool} {ma mb : M AV} (hc : PT X c (tT G B W m)) (ha : PE X x (tE G B W ma)) (hb : PE X y (tE G B W mb)) : PE X (.IfExp c x y pos) (tE G B W (bnd m fun t => if t then ma else mb)) := by
  refine pe_weak (pe_ifExp hc ha hb) fun σ H Q q => ?_
  obtain ⟨F, e, S, q⟩ := q
  refine ⟨F, e, S, (Pr.bnd q).imp fun t e1 F1 H1 _ S1 k => ?_⟩
  cases t <;> exact ⟨F1, e1, S1, k⟩

/-! ### places -/
theorem e_idx {x y : Expr} {ma mb : M AV} (C : CO G T sc k W X) (hy : noSlice y = true) (ha : PE X x (tE G B W ma)) (hb : PE X y (tE G B W mb)) : PE X (.Subscript x y pos) (tE G B W (binM ma mb fun x y => bnd (ofO (idxD x y)) fun d => ret (.d d))) :=
  pe_weak (pe_ix (idx_ok C.xc) (oper_e ha) (oper_e hb) (plainIx_ok hy)) fun σ H Q q => bin_w q
def tO (G : Ct) (B : Bs) (W : WX) (m : M (Option Int)) : TO := fun σ H Q => ∃ F e, Sat G B F e σ H ∧ Pr G B W σ (m e) F (fun o _ _ H' => Q o H')
theorem po_weak {e : Option Expr} {t t' : TO} (h : PO X e t) (w : ∀ σ H Q, t' σ H Q → t σ H Q) : PO X e t' := ⟨fun pins s σ H Q I q => h.run pins s σ H Q I (w σ H Q q)⟩
theorem o_none : PO X none (tO G B W (ret none)) := po_weak po_none fun σ H Q ⟨F, e, S, q⟩ => Pr.ret q S
theorem o_some {x : Expr} {ma : M AV} (ha : PE X x (tE G B W ma)) : PO X (some x) (tO G B W (unM ma fun d => bnd (oneInt d) fun i => ret (some i))) := by
  refine po_weak (po_some (oper_e ha)) fun σ H Q q => ?_
  obtain ⟨F, e, S, h⟩ := q
  refine ⟨F, e, S, (opr_nn (Pr.bnd h)).imp fun a e1 F1 H1 _ S1 ⟨na, k⟩ v r => ?_⟩
  obtain ⟨da, va, k⟩ := Pr.view k
  have hd := S1.view na.ne r va
  cases da with
  | int i => cases hd.int; exact ⟨i, rfl, Pr.ret (a := some i) k S1⟩
  | _ => exact k.elim
theorem e_sl {x : Expr} {lo hi : Option Expr} {ma : M AV} {ml mh : M (Option Int)} {p2 : Pos} (C : CO G T sc k W X) (ha : PE X x (tE G B W ma)) (hl : PO X lo (tO G B W ml)) (hh : PO X hi (tO G B W mh)) :
    PE X (.Subscript x (.Slice lo hi none p2) pos) (tE G B W (bnd (opr ma) fun x => bnd ml fun l => bnd mh fun h => bnd (viewM x) fun d => ofAV (slD d l h))) := by
  refine pe_weak (pe_slice (sl_ok (W := W) C.xc) (oper_e ha) hl hh) fun σ H Q q => ?_
  obtain ⟨F, e, S, q⟩ := q
  refine ⟨F, e, S, (opr_nn (Pr.bnd q)).imp fun a e1 F1 H1 _ S1 ⟨na, k⟩ v r => ?_⟩
  refine ⟨F1, e1, S1, (Pr.bnd k).imp fun l e2 F2 H2 s2 S2 k => ?_⟩
  refine ⟨F2, e2, S2, (Pr.bnd k).imp fun h e3 F3 H3 s3 S3 k => ?_⟩
  obtain ⟨da, va, k⟩ := Pr.view k
  exact ⟨B, σ, F3, e3, da, S3, S3.view na.ne (na.later (s2.trans s3) r) va, k⟩
theorem e_rev {x : Expr} {ma : M AV} {j : Nat} {p1 p2 p3 : Pos} (C : CO G T sc k W X) (ha : PE X x (tE G B W ma)) : PE X (.Subscript x (.Slice none none (some (.UnaryOp .USub (.Constant (.int 1) j p1) p2)) p3) pos) (tE G B W (unM ma fun d => ofAV (revD d))) := by
  refine pe_weak (pe_back (oper_e ha)) fun σ H Q q => ?_
  obtain ⟨F, e, S, h⟩ := un_w q
  refine ⟨F, e, S, h.imp fun a e' F' H' _ _ k v r => ?_⟩
  obtain ⟨B, σ, F, e, da, S, hd, k⟩ := k v r
  obtain ⟨av, hv, k⟩ := Pr.ofAV k
  cases da with
  | tup ds =>
    cases hv
    obtain ⟨a, xs, rfl, hA, ra⟩ := hd.tup S.sub
    rw [← C.xc.K] at hA
    exact ⟨a, xs, rfl, .inr ⟨hA, fun p hp => fin_tup S k ra.reverse hp⟩⟩
  | lst ds =>
    cases hv
    obtain ⟨a, xs, rfl, hA, ra⟩ := hd.lst S.sub
    exact ⟨a, xs, rfl, .inl ⟨SqL.of hA, fun p hp => fin_lst S k ra.reverse hp⟩⟩
  | _ => cases hv
end
end PX

end
section
set_option Elab.async false
set_option linter.all false
set_option maxRecDepth 100000
set_option maxHeartbeats 2000000
/-! PXk: enumerate and zip over lists and tuples in any mix. -/
namespace PX
open PySem PySem.Spec PyProof.Rows L2

/-- a list, or a tuple -/
inductive SK where | l | t
def SK.Sq (K : PySem.W.Frag) (k : SK) (H : Hp) (a : Addr) (xs : List V) : Prop := match k with
  | .l => SqL K H a xs
  | .t => SqT K H a xs
def SK.It (k : SK) (h : Heap) (it a : Addr) (i : Nat) : Prop := match k with
  | .l => h.IsListIter it a i
  | .t => h.IsTupleIter it a i
def SK.Is (k : SK) (h : Heap) (a : Addr) (its : Array Value) : Prop := match k with
  | .l => h.IsList a its
  | .t => h.IsTuple a its
def SK.nm : SK → String
  | .l => "list_iterator"
  | .t => "tuple_iterator"
def SK.ob (k : SK) (a : Addr) : Obj := { cls := .type k.nm, data := .fields #[.ref a, .int 0 0] }
section
variable {X : Cx} {pins : List (Addr × Obj)} {σ : L2.St} {H : Hp} {s : Shared} {a it : Addr} {xs ys : List V} {k : SK} {i : Nat} {h h' : Heap}
theorem SK.get (I : Inv X pins σ H s) (q : k.Sq X.K H a xs) : ∃ its : List Value, Vals xs its ∧ k.Is s.heap a its.toArray := by
  cases k with
  | l => obtain ⟨its, r, p, _⟩ := I.list q; exact ⟨its, r, p.isList⟩
  | t => obtain ⟨its, r, p, _⟩ := I.tuple q; exact ⟨its, r, p⟩
theorem SK.inj (I : Inv X pins σ H s) (q : k.Sq X.K H a xs) (q' : k.Sq X.K H a ys) : xs = ys := by
  cases k with
  | l => exact I.list_inj q q'
  | t => exact I.tuple_inj q q'
theorem SK.draws {prog : Program} {w : World} {A : Around} (hh : A.handled = none) (hne : a ≠ it) (its : Array Value) : Draws prog w A it [it, a] its.size (fun i v => its[i]? = some v) (fun i h => k.It h it a i ∧ k.Is h a its) := by
  cases k with
  | l => exact Draws.list hh it a hne its
  | t => exact Draws.tuple hh it a hne its
theorem SK.begins (its : Array Value) : Begins (.ref a) (k.ob a) (fun h => k.Is h a its) := by
  cases k with
  | l => exact begins_list a its
  | t => exact begins_tuple a its
theorem SK.start (e : h.get? it = some (k.ob a)) : k.It h it a 0 := by
  cases k with
  | l => exact ⟨_, e, rfl, rfl⟩
  | t => exact ⟨_, e, rfl, rfl⟩
theorem SK.at (q : k.It h it a i) (e : ∀ o, h.get? it = some o → h'.get? it = some o) : k.It h' it a i := by
  cases k with
  | l => exact Heap.IsListIter.at q e
  | t => exact Heap.IsTupleIter.at q e
theorem SK.obj (q : k.It h it a i) : ∃ o, h.get? it = some o ∧ ∀ v, o.data ≠ .cell v := by
  cases k with
  | l => obtain ⟨o, e, _, d⟩ := q; exact ⟨o, e, fun v z => by rw [d] at z; cases z⟩
  | t => obtain ⟨o, e, _, d⟩ := q; exact ⟨o, e, fun v z => by rw [d] at z; cases z⟩
theorem SK.lt (q : k.Is h a its) : a < h.objs.size := by
  cases k with
  | l => obtain ⟨o, e, _⟩ := q; exact Heap.lt_size e
  | t => obtain ⟨o, e, _⟩ := q; exact Heap.lt_size e
theorem Vals.arr {its : List Value} {x : V} (r : Vals xs its) (e : xs[i]? = some x) {u : Value} (hu : its.toArray[i]? = some u) : RelV x u := by
  obtain ⟨w, ew, rw'⟩ := r.get e
  have : its[i]? = some u := by simpa using hu
  rw [ew] at this
  cases this
  exact rw'
/-- a turn of an iterator that hands out a new tuple -/
theorem turn_new {tg : Expr} {fp wr : List Addr} {n : Nat} {Y : Nat → Heap → Value → Heap → Prop} {Sg : Nat → Heap → Prop} {E : Value → Shared → Prop} (I : Inv X pins σ H s) (W : GoesN X.prog X.w X.A tg it fp wr n Y Sg) (hf : ∀ b ∈ wr, FpOk X pins H b) (hi : i < n) (st : Sg i s.heap)
    (hz : xs.length ≤ sizeLine) (hY : ∀ v h, Y i s.heap v h → ∃ T vals, v = .ref T ∧ s.heap.objs.size ≤ T ∧ h.IsTuple T vals.toArray ∧ Vals xs vals) :
    wpAny (model X.prog X.w) X.A (pyNext (.ref it)) (fun r s1 => ∃ u, r = some u ∧ wpAny (model X.prog X.w) X.A (letOwnedTupleGo tg (.ref it) u) (fun _ s2 => ∃ T, Inv X pins σ (upd H T (.tup xs)) s2 ∧ RelV (.ref T) u ∧ H T = none ∧ Sg (i + 1) s2.heap ∧ s.heap.objs.size ≤ T) E s1) E s := by
  refine W.goes i s _ E hi st fun v h' tk y st' keep _ => ?_
  obtain ⟨T, vals, rfl, hT, hIs, rv⟩ := hY v h' y
  exact ⟨T, I.turnedNew (t' := tk) (ch := wr) keep hf hT (show ObjOk X.prog X.w _ _ _ (.tup xs) from ⟨hz, vals, rv, hIs⟩), rfl, I.hok.fresh hT, st', hT⟩
theorem turn_stop {tg : Expr} {fp wr : List Addr} {n : Nat} {Y : Nat → Heap → Value → Heap → Prop} {Sg : Nat → Heap → Prop} {E : Value → Shared → Prop} (I : Inv X pins σ H s) (W : GoesN X.prog X.w X.A tg it fp wr n Y Sg) (hf : ∀ b ∈ wr, FpOk X pins H b) (st : Sg n s.heap) :
    wpAny (model X.prog X.w) X.A (pyNext (.ref it)) (fun r s1 => r = none ∧ Inv X pins σ H s1) E s :=
  W.stops s _ E st fun h' tk keep _ => I.turnedL (t' := tk) (ch := wr) keep hf
theorem fp_stays {fp : List Addr} {T : Addr} {o : HO} (hf : ∀ b ∈ fp, FpOk X pins H b) (ho : ∀ b ∈ fp, ∃ o, s.heap.get? b = some o) (hT : s.heap.objs.size ≤ T) : ∀ b ∈ fp, upd H T o b = none := fun b hb => by
  obtain ⟨q, e⟩ := ho b hb
  rw [upd_ne (Nat.ne_of_lt (Nat.lt_of_lt_of_le (Heap.lt_size e) hT))]
  exact (hf b hb).1
end
theorem SK.un {k : SK} {H : Hp} {a b : Addr} {xs : List V} {X : Cx} {pins : List (Addr × Obj)} {σ : L2.St} {s : Shared} (I : Inv X pins σ H s) (q : k.Sq X.K H a xs) (hb : FpOk X pins H b) (hl : ∀ o, s.heap.get? b = some o → o.cls ≠ .type "list" ∧ o.cls ≠ .type "tuple") (he : ∃ o, s.heap.get? b = some o) : a ≠ b := by
  intro z
  subst z
  obtain ⟨o, e⟩ := he
  obtain ⟨its, _, p⟩ := SK.get I q
  cases k with
  | l => obtain ⟨o', e', c, _⟩ := p; rw [e] at e'; cases e'; exact (hl o e).1 c
  | t => obtain ⟨o', e', c, _⟩ := p; rw [e] at e'; cases e'; exact (hl o e).2 c
theorem SK.cls {k : SK} {h : Heap} {it a : Addr} {i : Nat} (q : k.It h it a i) : (∃ o, h.get? it = some o) ∧ ∀ o, h.get? it = some o → o.cls ≠ .type "list" ∧ o.cls ≠ .type "tuple" := by
  cases k with
  | l => obtain ⟨o, e, c, _⟩ := q; exact ⟨⟨o, e⟩, fun o' e' => by rw [e] at e'; cases e'; rw [c]; exact ⟨by decide, by decide⟩⟩
  | t => obtain ⟨o, e, c, _⟩ := q; exact ⟨⟨o, e⟩, fun o' e' => by rw [e] at e'; cases e'; rw [c]; exact ⟨by decide, by decide⟩⟩

/-! ### enumerate -/
def JEn (K : PySem.W.Frag) (k : SK) (a : Addr) : L2.It :=
  ⟨fun i H => ∃ (xs : List V) (x : V), k.Sq K H a xs ∧ xs[i]? = some x,
   fun i H v H' => ∃ T x, v = .ref T ∧ H T = none ∧ H' = upd H T (.tup [.int (i : Nat), x]) ∧ ∀ xs, k.Sq K H a xs → xs[i]? = some x,
   fun i H => ∃ xs : List V, k.Sq K H a xs ∧ xs.length = i⟩
theorem turn_en {P : Program} {w : World} {K : PySem.W.Frag} {elts : List Expr} {kk : Nat} {tpos : Pos} (k : SK) (a e it : Addr) :
    Turn P w K (.Tuple elts kk tpos) (JEn K k a) [e, it] e (fun i h => (∃ old, IsEnum h e it (0 + (i : Int)) old) ∧ k.It h it a i ∧ e ≠ it) where
  mem := List.mem_cons_self
  obj := fun i h st b hb => by
    obtain ⟨⟨old, he⟩, hi, _⟩ := st
    rcases List.mem_cons.mp hb with rfl | hb
    · exact ⟨_, he, fun v q => nomatch q⟩
    · rw [List.mem_singleton.mp hb]; exact SK.obj hi
  keep := fun i h h' st kp => by
    obtain ⟨⟨old, he⟩, hi, hne⟩ := st
    exact ⟨⟨old, kp e List.mem_cons_self _ he⟩, SK.at hi fun o q => kp it (by simp) o q, hne⟩
  item := by
    intro X hP hw hK hc i pins s σ H E I hf st hg
    subst hP hw hK
    obtain ⟨⟨old, he⟩, hit, hne⟩ := st
    obtain ⟨xs, x, hq, hx⟩ := hg
    obtain ⟨its, rv, p⟩ := SK.get I hq
    have cl := SK.cls hit
    have hai : a ≠ it := SK.un I hq (hf it (by simp)) cl.2 cl.1
    have hae : a ≠ e := SK.un I hq (hf e (by simp)) (fun o q => by rw [he] at q; cases q; exact ⟨by simp, by simp⟩) ⟨_, he⟩
    have hl := rv.length
    have hlt : i < its.toArray.size := by
      have := (List.getElem?_eq_some_iff.mp hx).1
      simpa [← hl] using this
    have D : Draws X.prog X.w X.A.in1 it [it, a] its.toArray.size (fun i v => its.toArray[i]? = some v) (fun i h => k.It h it a i ∧ k.Is h a its.toArray) := SK.draws (show X.A.in1.handled = none from I.ok.hd hc) hai _
    have W := GoesN.enumFrom (elts := elts) (x1 := kk) (pos := tpos) 0 D e hne (by simp [hne, Ne.symm hae]) (by simp)
    have ho : ∀ b ∈ [e, it], ∃ o, s.heap.get? b = some o := fun b hb => by
      rcases List.mem_cons.mp hb with rfl | hb
      · exact ⟨_, he⟩
      · rw [List.mem_singleton.mp hb]; exact cl.1
    refine thn (turn_new (xs := [.int (i : Nat), x]) (E := E) I W hf hlt ⟨⟨old, he⟩, hit, p⟩ (by rw [sizeLine_eq]; simp) fun v h y => ?_) fun r s1 ⟨u, hr, hu⟩ => ⟨u, hr, thn hu fun _ s2 ⟨T, I2, ru, hn, st2, hT⟩ => ?_⟩
    · obtain ⟨T, t, y, ev, hT, hy, hIs⟩ := y
      exact ⟨T, [.int (0 + (i : Int)) t, y], ev, hT, hIs, .cons ⟨t, by rw [Int.zero_add]⟩ (.cons (Vals.arr rv hx hy) .nil)⟩
    · obtain ⟨he2, hit2, _⟩ := st2
      exact ⟨.ref T, _, I2, ru, ⟨T, x, rfl, hn, rfl, fun ys hy => by rw [SK.inj I hy hq]; exact hx⟩, ⟨he2, hit2, hne⟩, fp_stays hf ho hT⟩
  done := by
    intro X hP hw hK hc i pins s σ H E I hf st hg
    subst hP hw hK
    obtain ⟨⟨old, he⟩, hit, hne⟩ := st
    obtain ⟨xs, hq, hx⟩ := hg
    obtain ⟨its, rv, p⟩ := SK.get I hq
    have cl := SK.cls hit
    have hai : a ≠ it := SK.un I hq (hf it (by simp)) cl.2 cl.1
    have hae : a ≠ e := SK.un I hq (hf e (by simp)) (fun o q => by rw [he] at q; cases q; exact ⟨by simp, by simp⟩) ⟨_, he⟩
    have hl := rv.length
    have D : Draws X.prog X.w X.A.in1 it [it, a] its.toArray.size (fun i v => its.toArray[i]? = some v) (fun i h => k.It h it a i ∧ k.Is h a its.toArray) := SK.draws (show X.A.in1.handled = none from I.ok.hd hc) hai _
    have W := GoesN.enumFrom (elts := elts) (x1 := kk) (pos := tpos) 0 D e hne (by simp [hne, Ne.symm hae]) (by simp)
    have hn : i = its.toArray.size := by simp [← hl, hx]
    subst hn
    exact turn_stop I W hf ⟨⟨old, he⟩, hit, p⟩
  self := fun A i s Q E st h => by
    obtain ⟨⟨_, he⟩, _⟩ := st
    exact wpAny_pyIter_enum he h

/-- enumerate(v) begins -/
theorem en_new {v : Value} {o : Obj} {Hh : Heap → Prop} (B : Begins v o Hh) :
    Meets (Builtin.«enumerate.__new__» ⟨[.type "enumerate", v], []⟩)
      (fun _ R s => Hh s.heap ∧ R (.ok (.ret (.ref (s.heap.push o).objs.size)))
        { s with heap := (s.heap.push o).push { cls := .type "enumerate", data := .fields #[.none, .bool false, .ref s.heap.objs.size, rawInt 0, .none, .none] } }) :=
  .of_wp fun prog w A R s h => by
    obtain ⟨hp, g, d, tk, os⟩ := s
    obtain ⟨h1, h⟩ := h
    have hsub := sub_enumerate
    have begin_it : ∀ {A' : Around} {E Q : Value → Shared → Prop}, Q (.ref hp.objs.size) ⟨hp.push o, g, d, tk, os⟩ → wpAny (model prog w) A' (pyIter v) Q E ⟨hp, g, d, tk, os⟩ :=
      fun q => B.iter prog w _ _ ⟨hp, g, d, tk, os⟩ _ h1 q
    wp_walk using begin_it
    refine wpAny_stack_any fun st => wpAny_pure ?_
    split
    · rename_i c _ _ _ _ _
      cases (c == Value.type "enumerate") <;> (wp_walk using begin_it; exact ⟨_, rfl, h⟩)
    · wp_walk using begin_it
      exact ⟨_, rfl, h⟩
theorem en_call {prog : Program} {w : World} {A : Around} {E : Value → Shared → Prop} {s : Shared} {v : Value} {o : Obj} {Hh : Heap → Prop} {Q : Value → Shared → Prop} (B : Begins v o Hh) (h1 : Hh s.heap)
    (h : ∀ h', IsEnum h' (s.heap.objs.size + 1) s.heap.objs.size 0 .none → h'.get? s.heap.objs.size = some o → (∀ b q, s.heap.get? b = some q → h'.get? b = some q) → Q (.ref (s.heap.objs.size + 1)) { s with heap := h' }) :
    wpAny (model prog w) A (call (.type "enumerate") [v]) Q E s := by
  refine callType_new F.called_enumerate (by decide) (F.typeCall_enumerate_1 _) (F.newCall_enumerate_1 _) (fun obj => F.args_object_init_2 obj _) F.entry_enumerate_new (en_new B) ⟨h1, ?_⟩
  have hz : (s.heap.push o).objs.size = s.heap.objs.size + 1 := Heap.size_push ..
  show _ ∧ _
  rw [hz]
  have he := Heap.get?_push_size (s.heap.push o) (o := { cls := .type "enumerate", data := .fields #[.none, .bool false, .ref s.heap.objs.size, rawInt 0, .none, .none] }) rfl
  rw [hz] at he
  exact ⟨⟨_, he, rfl⟩, h _ he (Heap.get?_push_of_some _ (Heap.get?_push_size _ B.free)) fun b q x => Heap.get?_push_of_some _ (Heap.get?_push_of_some _ x)⟩
section
variable {X : Cx} {e1 e2 e3 : Expr} {ta : TA} {p pos tpos : Pos} {elts : List Expr} {kk : Nat}
def iEn (K : PySem.W.Frag) (ta : TA) : TI := fun σ H R => ta σ H fun vs H1 => ∃ (k : SK) (a : Addr) (xs : List V), vs = [.ref a] ∧ k.Sq K H1 a xs ∧ R (JEn K k a) H1
theorem pi_en (hg : Gl X "enumerate") (hm : X.mg "enumerate" = none) (ha : PA X [e1] ta) (hs : starEach [e1] X.env = [(false, eval e1 X.env)]) : PI X (.Tuple elts kk tpos) (.Call (.Name "enumerate" p) [e1] [] pos) (iEn X.K ta) := by
  refine ⟨fun pins s σ H R I h => ?_⟩
  refine Call_ (ld_blt I hg hm boot_enumerate (PyProof.Rows.callWith_type1 (thn (ha.run pos pins s σ H _ I h) ?_) hs rfl))
  rintro us s1 ⟨vs, H1, I1, r1, k, a, xs, rfl, hq, q⟩
  cases r1 with
  | cons r rr =>
    cases rr
    cases r
    obtain ⟨its, rv, pp⟩ := SK.get I1 hq
    refine en_call (SK.begins its.toArray) pp fun h' he hit hk => wpAny_pyIter_enum he ?_
    have I2 : Inv X pins σ H1 { s1 with heap := h' } := I1.kept (t' := s1.toks) hk
    refine ⟨s1.heap.objs.size + 1, [s1.heap.objs.size + 1, s1.heap.objs.size], _, _, H1, rfl, I2, turn_en k a _ s1.heap.objs.size, ⟨⟨.none, he⟩, SK.start hit, Nat.succ_ne_self _⟩, fun b hb => ?_, q⟩
    have hle : s1.heap.objs.size ≤ b := by
      rcases List.mem_cons.mp hb with rfl | hb
      · exact Nat.le_succ _
      · rw [List.mem_singleton.mp hb]; exact Nat.le_refl _
    exact I1.fpOk hle (I1.hok.fresh hle)
end

/-! ### zip of two -/
def JZ2 (K : PySem.W.Frag) (k1 k2 : SK) (a b : Addr) : L2.It :=
  ⟨fun i H => ∃ (xs ys : List V) (x y : V), k1.Sq K H a xs ∧ k2.Sq K H b ys ∧ xs[i]? = some x ∧ ys[i]? = some y,
   fun i H v H' => ∃ T x y, v = .ref T ∧ H T = none ∧ H' = upd H T (.tup [x, y]) ∧ (∀ xs, k1.Sq K H a xs → xs[i]? = some x) ∧ ∀ ys, k2.Sq K H b ys → ys[i]? = some y,
   fun i H => ∃ xs ys : List V, k1.Sq K H a xs ∧ k2.Sq K H b ys ∧ min xs.length ys.length = i⟩
theorem turn_z2 {P : Program} {w : World} {K : PySem.W.Frag} {elts : List Expr} {kk : Nat} {tpos : Pos} (k1 k2 : SK) (a b N : Addr) (ha : a < N) (hb : b < N) :
    Turn P w K (.Tuple elts kk tpos) (JZ2 K k1 k2 a b) [N + 4, N + 2, N + 3, N, N + 1] (N + 4) (fun i h => IsZip h (N + 4) (N + 2) (N + 3) .none ∧ IsTupOf2 h (N + 2) (.ref N) (.ref (N + 1)) ∧ (∃ a1 a2, IsTupOf2 h (N + 3) a1 a2) ∧ k1.It h N a i ∧ k2.It h (N + 1) b i) where
  mem := List.mem_cons_self
  obj := fun i h st c hc => by
    obtain ⟨hz, hTI, ⟨a1, a2, hTO⟩, h1, h2⟩ := st
    simp only [List.mem_cons, List.not_mem_nil, or_false] at hc
    rcases hc with rfl | rfl | rfl | rfl | rfl
    · exact ⟨_, hz, fun v q => nomatch q⟩
    · exact ⟨_, hTI, fun v q => nomatch q⟩
    · exact ⟨_, hTO, fun v q => nomatch q⟩
    · exact SK.obj h1
    · exact SK.obj h2
  keep := fun i h h' st kp => by
    obtain ⟨hz, hTI, ⟨a1, a2, hTO⟩, h1, h2⟩ := st
    exact ⟨kp _ (by simp) _ hz, kp _ (by simp) _ hTI, ⟨a1, a2, kp _ (by simp) _ hTO⟩, SK.at h1 fun o q => kp _ (by simp) o q, SK.at h2 fun o q => kp _ (by simp) o q⟩
  item := by
    intro X hP hw hK hc i pins s σ H E I hf st hg
    subst hP hw hK
    obtain ⟨hz, hTI, hTO, h1, h2⟩ := st
    obtain ⟨xs, ys, x, y, q1, q2, hx, hy⟩ := hg
    obtain ⟨its1, rv1, p1⟩ := SK.get I q1
    obtain ⟨its2, rv2, p2⟩ := SK.get I q2
    have l1 := rv1.length
    have l2 := rv2.length
    have lt1 := (List.getElem?_eq_some_iff.mp hx).1
    have lt2 := (List.getElem?_eq_some_iff.mp hy).1
    have hh : X.A.in1.handled = none := I.ok.hd hc
    have D1 : Draws X.prog X.w X.A.in1 N [N, a] its1.toArray.size (fun i v => its1.toArray[i]? = some v) (fun i h => k1.It h N a i ∧ k1.Is h a its1.toArray) := SK.draws hh (Nat.ne_of_lt ha) _
    have D2 : Draws X.prog X.w X.A.in1 (N + 1) [N + 1, b] its2.toArray.size (fun i v => its2.toArray[i]? = some v) (fun i h => k2.It h (N + 1) b i ∧ k2.Is h b its2.toArray) := SK.draws hh (Nat.ne_of_lt (Nat.lt_succ_of_lt hb)) _
    have W := GoesN.zip2 (elts := elts) (x1 := kk) (pos := tpos) (zip_sep2 (N := N) (fp1 := [a]) (fp2 := [b]) (by simp [ha]) (by simp [hb])) D1 D2
    have ho : ∀ c ∈ [N + 4, N + 2, N + 3, N, N + 1], ∃ o, s.heap.get? c = some o := fun c hc => by
      obtain ⟨a1, a2, hTO⟩ := hTO
      simp only [List.mem_cons, List.not_mem_nil, or_false] at hc
      rcases hc with rfl | rfl | rfl | rfl | rfl
      · exact ⟨_, hz⟩
      · exact ⟨_, hTI⟩
      · exact ⟨_, hTO⟩
      · exact (SK.cls h1).1
      · exact (SK.cls h2).1
    have hfw : ∀ c ∈ [N + 4, N + 3, N, N + 1], FpOk X pins H c := fun c hc => hf c (by simp only [List.mem_cons, List.not_mem_nil, or_false] at hc ⊢; grind)
    refine thn (turn_new (i := i) (xs := [x, y]) (E := E) I W hfw (by simp; omega) ⟨hz, hTI, hTO, ⟨h1, p1⟩, ⟨h2, p2⟩⟩ (by rw [sizeLine_eq]; simp) fun v h y' => ?_) fun r s1 ⟨u, hr, hu⟩ => ⟨u, hr, thn hu fun _ s2 ⟨T, I2, ru, hn, st2, hT⟩ => ?_⟩
    · obtain ⟨T, u1, u2, ev, hT, e1, e2, hIs⟩ := y'
      exact ⟨T, [u1, u2], ev, hT, hIs, .cons (Vals.arr rv1 hx e1) (.cons (Vals.arr rv2 hy e2) .nil)⟩
    · obtain ⟨z1, z2, z3, ⟨z4, _⟩, ⟨z5, _⟩⟩ := st2
      exact ⟨.ref T, _, I2, ru, ⟨T, x, y, rfl, hn, rfl, fun ws hw => by rw [SK.inj I hw q1]; exact hx, fun ws hw => by rw [SK.inj I hw q2]; exact hy⟩, ⟨z1, z2, z3, z4, z5⟩, fp_stays hf ho hT⟩
  done := by
    intro X hP hw hK hc i pins s σ H E I hf st hg
    subst hP hw hK
    obtain ⟨hz, hTI, hTO, h1, h2⟩ := st
    obtain ⟨xs, ys, q1, q2, hx⟩ := hg
    obtain ⟨its1, rv1, p1⟩ := SK.get I q1
    obtain ⟨its2, rv2, p2⟩ := SK.get I q2
    have l1 := rv1.length
    have l2 := rv2.length
    have hh : X.A.in1.handled = none := I.ok.hd hc
    have D1 : Draws X.prog X.w X.A.in1 N [N, a] its1.toArray.size (fun i v => its1.toArray[i]? = some v) (fun i h => k1.It h N a i ∧ k1.Is h a its1.toArray) := SK.draws hh (Nat.ne_of_lt ha) _
    have D2 : Draws X.prog X.w X.A.in1 (N + 1) [N + 1, b] its2.toArray.size (fun i v => its2.toArray[i]? = some v) (fun i h => k2.It h (N + 1) b i ∧ k2.Is h b its2.toArray) := SK.draws hh (Nat.ne_of_lt (Nat.lt_succ_of_lt hb)) _
    have W := GoesN.zip2 (elts := elts) (x1 := kk) (pos := tpos) (zip_sep2 (N := N) (fp1 := [a]) (fp2 := [b]) (by simp [ha]) (by simp [hb])) D1 D2
    have hfw : ∀ c ∈ [N + 4, N + 3, N, N + 1], FpOk X pins H c := fun c hc => hf c (by simp only [List.mem_cons, List.not_mem_nil, or_false] at hc ⊢; grind)
    have hn : i = min its1.toArray.size its2.toArray.size := by simp [← l1, ← l2, hx]
    subst hn
    exact turn_stop I W hfw ⟨hz, hTI, hTO, ⟨h1, p1⟩, ⟨h2, p2⟩⟩
  self := fun A i s Q E st h => wpAny_pyIter_zip st.1 h
section
variable {X : Cx} {e1 e2 e3 : Expr} {ta : TA} {p pos tpos : Pos} {elts : List Expr} {kk : Nat}
def iZ2 (K : PySem.W.Frag) (ta : TA) : TI := fun σ H R => ta σ H fun vs H1 => ∃ (k1 k2 : SK) (a b : Addr) (xs ys : List V), vs = [.ref a, .ref b] ∧ k1.Sq K H1 a xs ∧ k2.Sq K H1 b ys ∧ R (JZ2 K k1 k2 a b) H1
theorem pi_z2 (hg : Gl X "zip") (hm : X.mg "zip" = none) (ha : PA X [e1, e2] ta) (hs : starEach [e1, e2] X.env = (false, eval e1 X.env) :: starEach [e2] X.env) (hpl : (backTo pos (starEach [e2] X.env)).any (·.1) = false) :
    PI X (.Tuple elts kk tpos) (.Call (.Name "zip" p) [e1, e2] [] pos) (iZ2 X.K ta) := by
  refine ⟨fun pins s σ H R I h => ?_⟩
  refine Call_ (ld_blt I hg hm PyProof.Rows.boot_zip (PyProof.Rows.callWith_type1 (thn (ha.run pos pins s σ H _ I h) ?_) hs hpl))
  rintro us s1 ⟨vs, H1, I1, r1, k1, k2, a, b, xs, ys, rfl, hx, hy, q⟩
  cases r1 with
  | cons r rr =>
    cases rr with
    | cons r' rr =>
      cases rr
      cases r
      cases r'
      obtain ⟨its1, rv1, p1⟩ := SK.get I1 hx
      obtain ⟨its2, rv2, p2⟩ := SK.get I1 hy
      refine zip_begins2 (SK.begins (k := k1) its1.toArray) (SK.begins (k := k2) its2.toArray) p1 p2 fun h' hz hTI hTO g1 g2 hsz hk => wpAny_pyIter_zip hz ?_
      have I2 : Inv X pins σ H1 { s1 with heap := h' } := I1.kept (t' := s1.toks) hk
      refine ⟨s1.heap.objs.size + 4, _, _, _, H1, rfl, I2, turn_z2 k1 k2 a b s1.heap.objs.size (SK.lt p1) (SK.lt p2), ⟨hz, hTI, ⟨_, _, hTO⟩, SK.start g1, SK.start g2⟩, fun c hc => ?_, q⟩
      have hle : s1.heap.objs.size ≤ c := by
        simp only [List.mem_cons, List.not_mem_nil, or_false] at hc
        rcases hc with rfl | rfl | rfl | rfl | rfl <;> first | exact Nat.le_refl _ | exact Nat.le_add_right _ _
      exact I1.fpOk hle (I1.hok.fresh hle)
end

/-! ### zip of three -/
def JZ3 (K : PySem.W.Frag) (k1 k2 k3 : SK) (a b c : Addr) : L2.It :=
  ⟨fun i H => ∃ (xs ys zs : List V) (x y z : V), k1.Sq K H a xs ∧ k2.Sq K H b ys ∧ k3.Sq K H c zs ∧ xs[i]? = some x ∧ ys[i]? = some y ∧ zs[i]? = some z,
   fun i H v H' => ∃ T x y z, v = .ref T ∧ H T = none ∧ H' = upd H T (.tup [x, y, z]) ∧ (∀ xs, k1.Sq K H a xs → xs[i]? = some x) ∧ (∀ ys, k2.Sq K H b ys → ys[i]? = some y) ∧ ∀ ys, k3.Sq K H c ys → ys[i]? = some z,
   fun i H => ∃ xs ys zs : List V, k1.Sq K H a xs ∧ k2.Sq K H b ys ∧ k3.Sq K H c zs ∧ min (min xs.length ys.length) zs.length = i⟩
theorem turn_z3 {P : Program} {w : World} {K : PySem.W.Frag} {elts : List Expr} {kk : Nat} {tpos : Pos} (k1 k2 k3 : SK) (a b c N : Addr) (ha : a < N) (hb : b < N) (hcN : c < N) :
    Turn P w K (.Tuple elts kk tpos) (JZ3 K k1 k2 k3 a b c) [N + 5, N + 3, N + 4, N, N + 1, N + 2] (N + 5) (fun i h => IsZip h (N + 5) (N + 3) (N + 4) .none ∧ IsTupOf3 h (N + 3) (.ref N) (.ref (N + 1)) (.ref (N + 2)) ∧ (∃ a1 a2 a3, IsTupOf3 h (N + 4) a1 a2 a3) ∧ k1.It h N a i ∧ k2.It h (N + 1) b i ∧ k3.It h (N + 2) c i) where
  mem := List.mem_cons_self
  obj := fun i h st c hc => by
    obtain ⟨hz, hTI, ⟨a1, a2, a3, hTO⟩, h1, h2, h3⟩ := st
    simp only [List.mem_cons, List.not_mem_nil, or_false] at hc
    rcases hc with rfl | rfl | rfl | rfl | rfl | rfl
    · exact ⟨_, hz, fun v q => nomatch q⟩
    · exact ⟨_, hTI, fun v q => nomatch q⟩
    · exact ⟨_, hTO, fun v q => nomatch q⟩
    · exact SK.obj h1
    · exact SK.obj h2
    · exact SK.obj h3
  keep := fun i h h' st kp => by
    obtain ⟨hz, hTI, ⟨a1, a2, a3, hTO⟩, h1, h2, h3⟩ := st
    exact ⟨kp _ (by simp) _ hz, kp _ (by simp) _ hTI, ⟨a1, a2, a3, kp _ (by simp) _ hTO⟩, SK.at h1 fun o q => kp _ (by simp) o q, SK.at h2 fun o q => kp _ (by simp) o q, SK.at h3 fun o q => kp _ (by simp) o q⟩
  item := by
    intro X hP hw hK hc i pins s σ H E I hf st hg
    subst hP hw hK
    obtain ⟨hz, hTI, hTO, h1, h2, h3⟩ := st
    obtain ⟨xs, ys, zs, x, y, z, q1, q2, q3, hx, hy, hzz⟩ := hg
    obtain ⟨its1, rv1, p1⟩ := SK.get I q1
    obtain ⟨its2, rv2, p2⟩ := SK.get I q2
    obtain ⟨its3, rv3, p3⟩ := SK.get I q3
    have l1 := rv1.length
    have l2 := rv2.length
    have l3 := rv3.length
    have lt1 := (List.getElem?_eq_some_iff.mp hx).1
    have lt2 := (List.getElem?_eq_some_iff.mp hy).1
    have lt3 := (List.getElem?_eq_some_iff.mp hzz).1
    have hh : X.A.in1.handled = none := I.ok.hd hc
    have D1 : Draws X.prog X.w X.A.in1 N [N, a] its1.toArray.size (fun i v => its1.toArray[i]? = some v) (fun i h => k1.It h N a i ∧ k1.Is h a its1.toArray) := SK.draws hh (Nat.ne_of_lt ha) _
    have D2 : Draws X.prog X.w X.A.in1 (N + 1) [N + 1, b] its2.toArray.size (fun i v => its2.toArray[i]? = some v) (fun i h => k2.It h (N + 1) b i ∧ k2.Is h b its2.toArray) := SK.draws hh (Nat.ne_of_lt (Nat.lt_succ_of_lt hb)) _
    have D3 : Draws X.prog X.w X.A.in1 (N + 2) [N + 2, c] its3.toArray.size (fun i v => its3.toArray[i]? = some v) (fun i h => k3.It h (N + 2) c i ∧ k3.Is h c its3.toArray) := SK.draws hh (Nat.ne_of_lt (Nat.lt_succ_of_lt (Nat.lt_succ_of_lt hcN))) _
    have W := GoesN.zip3 (elts := elts) (x1 := kk) (pos := tpos) (zip_sep3 (N := N) (fp1 := [a]) (fp2 := [b]) (fp3 := [c]) (by simp [ha]) (by simp [hb]) (by simp [hcN])) D1 D2 D3
    have ho : ∀ c ∈ [N + 5, N + 3, N + 4, N, N + 1, N + 2], ∃ o, s.heap.get? c = some o := fun c hc => by
      obtain ⟨a1, a2, a3, hTO⟩ := hTO
      simp only [List.mem_cons, List.not_mem_nil, or_false] at hc
      rcases hc with rfl | rfl | rfl | rfl | rfl | rfl
      · exact ⟨_, hz⟩
      · exact ⟨_, hTI⟩
      · exact ⟨_, hTO⟩
      · exact (SK.cls h1).1
      · exact (SK.cls h2).1
      · exact (SK.cls h3).1
    have hfw : ∀ c ∈ [N + 5, N + 4, N, N + 1, N + 2], FpOk X pins H c := fun c hc => hf c (by simp only [List.mem_cons, List.not_mem_nil, or_false] at hc ⊢; grind)
    refine thn (turn_new (i := i) (xs := [x, y, z]) (E := E) I W hfw (by simp; omega) ⟨hz, hTI, hTO, ⟨h1, p1⟩, ⟨h2, p2⟩, ⟨h3, p3⟩⟩ (by rw [sizeLine_eq]; simp) fun v h y' => ?_) fun r s1 ⟨u, hr, hu⟩ => ⟨u, hr, thn hu fun _ s2 ⟨T, I2, ru, hn, st2, hT⟩ => ?_⟩
    · obtain ⟨T, u1, u2, u3, ev, hT, e1, e2, e3, hIs⟩ := y'
      exact ⟨T, [u1, u2, u3], ev, hT, hIs, .cons (Vals.arr rv1 hx e1) (.cons (Vals.arr rv2 hy e2) (.cons (Vals.arr rv3 hzz e3) .nil))⟩
    · obtain ⟨z1, z2, z3, ⟨z4, _⟩, ⟨z5, _⟩, ⟨z6, _⟩⟩ := st2
      exact ⟨.ref T, _, I2, ru, ⟨T, x, y, z, rfl, hn, rfl, fun ws hw => by rw [SK.inj I hw q1]; exact hx, fun ws hw => by rw [SK.inj I hw q2]; exact hy, fun ws hw => by rw [SK.inj I hw q3]; exact hzz⟩, ⟨z1, z2, z3, z4, z5, z6⟩, fp_stays hf ho hT⟩
  done := by
    intro X hP hw hK hc i pins s σ H E I hf st hg
    subst hP hw hK
    obtain ⟨hz, hTI, hTO, h1, h2, h3⟩ := st
    obtain ⟨xs, ys, zs, q1, q2, q3, hx⟩ := hg
    obtain ⟨its1, rv1, p1⟩ := SK.get I q1
    obtain ⟨its2, rv2, p2⟩ := SK.get I q2
    obtain ⟨its3, rv3, p3⟩ := SK.get I q3
    have l1 := rv1.length
    have l2 := rv2.length
    have l3 := rv3.length
    have hh : X.A.in1.handled = none := I.ok.hd hc
    have D1 : Draws X.prog X.w X.A.in1 N [N, a] its1.toArray.size (fun i v => its1.toArray[i]? = some v) (fun i h => k1.It h N a i ∧ k1.Is h a its1.toArray) := SK.draws hh (Nat.ne_of_lt ha) _
    have D2 : Draws X.prog X.w X.A.in1 (N + 1) [N + 1, b] its2.toArray.size (fun i v => its2.toArray[i]? = some v) (fun i h => k2.It h (N + 1) b i ∧ k2.Is h b its2.toArray) := SK.draws hh (Nat.ne_of_lt (Nat.lt_succ_of_lt hb)) _
    have D3 : Draws X.prog X.w X.A.in1 (N + 2) [N + 2, c] its3.toArray.size (fun i v => its3.toArray[i]? = some v) (fun i h => k3.It h (N + 2) c i ∧ k3.Is h c its3.toArray) := SK.draws hh (Nat.ne_of_lt (Nat.lt_succ_of_lt (Nat.lt_succ_of_lt hcN))) _
    have W := GoesN.zip3 (elts := elts) (x1 := kk) (pos := tpos) (zip_sep3 (N := N) (fp1 := [a]) (fp2 := [b]) (fp3 := [c]) (by simp [ha]) (by simp [hb]) (by simp [hcN])) D1 D2 D3
    have hfw : ∀ c ∈ [N + 5, N + 4, N, N + 1, N + 2], FpOk X pins H c := fun c hc => hf c (by simp only [List.mem_cons, List.not_mem_nil, or_false] at hc ⊢; grind)
    have hn : i = min (min its1.toArray.size its2.toArray.size) its3.toArray.size := by simp [← l1, ← l2, ← l3, hx]
    subst hn
    exact turn_stop I W hfw ⟨hz, hTI, hTO, ⟨h1, p1⟩, ⟨h2, p2⟩, ⟨h3, p3⟩⟩
  self := fun A i s Q E st h => wpAny_pyIter_zip st.1 h
section
variable {X : Cx} {e1 e2 e3 : Expr} {ta : TA} {p pos tpos : Pos} {elts : List Expr} {kk : Nat}
def iZ3 (K : PySem.W.Frag) (ta : TA) : TI := fun σ H R => ta σ H fun vs H1 => ∃ (k1 k2 k3 : SK) (a b c : Addr) (xs ys zs : List V), vs = [.ref a, .ref b, .ref c] ∧ k1.Sq K H1 a xs ∧ k2.Sq K H1 b ys ∧ k3.Sq K H1 c zs ∧ R (JZ3 K k1 k2 k3 a b c) H1
theorem pi_z3 (hg : Gl X "zip") (hm : X.mg "zip" = none) (ha : PA X [e1, e2, e3] ta) (hs : starEach [e1, e2, e3] X.env = (false, eval e1 X.env) :: starEach [e2, e3] X.env) (hpl : (backTo pos (starEach [e2, e3] X.env)).any (·.1) = false) :
    PI X (.Tuple elts kk tpos) (.Call (.Name "zip" p) [e1, e2, e3] [] pos) (iZ3 X.K ta) := by
  refine ⟨fun pins s σ H R I h => ?_⟩
  refine Call_ (ld_blt I hg hm PyProof.Rows.boot_zip (PyProof.Rows.callWith_type1 (thn (ha.run pos pins s σ H _ I h) ?_) hs hpl))
  rintro us s1 ⟨vs, H1, I1, r1, k1, k2, k3, a, b, c, xs, ys, zs, rfl, hx, hy, hzz, q⟩
  cases r1 with
  | cons r rr =>
    cases rr with
    | cons r' rr =>
      cases rr with
      | cons r'' rr =>
        cases rr
        cases r
        cases r'
        cases r''
        obtain ⟨its1, rv1, p1⟩ := SK.get I1 hx
        obtain ⟨its2, rv2, p2⟩ := SK.get I1 hy
        obtain ⟨its3, rv3, p3⟩ := SK.get I1 hzz
        refine zip_begins3 (SK.begins (k := k1) its1.toArray) (SK.begins (k := k2) its2.toArray) (SK.begins (k := k3) its3.toArray) p1 p2 p3 fun h' hz hTI hTO g1 g2 g3 hsz hk => wpAny_pyIter_zip hz ?_
        have I2 : Inv X pins σ H1 { s1 with heap := h' } := I1.kept (t' := s1.toks) hk
        refine ⟨s1.heap.objs.size + 5, _, _, _, H1, rfl, I2, turn_z3 k1 k2 k3 a b c s1.heap.objs.size (SK.lt p1) (SK.lt p2) (SK.lt p3), ⟨hz, hTI, ⟨_, _, _, hTO⟩, SK.start g1, SK.start g2, SK.start g3⟩, fun c hc => ?_, q⟩
        have hle : s1.heap.objs.size ≤ c := by
          simp only [List.mem_cons, List.not_mem_nil, or_false] at hc
          rcases hc with rfl | rfl | rfl | rfl | rfl | rfl <;> first | exact Nat.le_refl _ | exact Nat.le_add_right _ _
        exact I1.fpOk hle (I1.hok.fresh hle)
end
end PX

end
section
set_option Elab.async false
set_option linter.all false
set_option maxRecDepth 100000
set_option maxHeartbeats 2000000
/-! PXl: calls, built-in functions, fields, dicts, iterators. -/
namespace PX
open PySem PySem.Spec PyProof.Rows L2

/-- no star among them -/
def flat (xs : List Expr) : Bool := xs.all noStar
theorem star_any {xs : List Expr} {env : PySem.Env} {pos : Pos} (h : flat xs = true) : (backTo pos (starEach xs env)).any (·.1) = false := by
  induction xs with
  | nil => rfl
  | cons x xs ih =>
    unfold flat at h
    rw [List.all_cons, Bool.and_eq_true] at h
    rw [star_ok h.1]
    show (false || (backTo pos (starEach xs env)).any (·.1)) = false
    rw [Bool.false_or]
    exact ih h.2
theorem star_all {xs : List Expr} {env : PySem.Env} {pos : Pos} (h : flat xs = true) : (backTo pos (starEach xs env)).all (fun x => !x.1) = true := by
  induction xs with
  | nil => rfl
  | cons x xs ih =>
    unfold flat at h
    rw [List.all_cons, Bool.and_eq_true] at h
    rw [star_ok h.1]
    show (true && (backTo pos (starEach xs env)).all (fun x => !x.1)) = true
    rw [Bool.true_and]
    exact ih h.2
theorem flat_cons {x : Expr} {xs : List Expr} (h : flat (x :: xs) = true) : noStar x = true ∧ flat xs = true := by
  unfold flat at h ⊢
  rwa [List.all_cons, Bool.and_eq_true] at h

section
variable {G : Ct} {B : Bs} {W : WX} {σ : L2.St} {F F' H H' : Hp} {e e' : Env} {Q : VK} {v : V} {d : D} {a p : Addr} {ds : List D} {vs : List V} {X : Cx} {k : Nat} {T : Tab} {sc : Sc} {pos : Pos}
/-! ### built-in functions -/
theorem views_w {as : List AV} {f : List D → M AV} {K : AV → Env → Hp → Hp → Prop} (S : Sat G B F e σ H) (h : Pr G B W σ (bnd (viewsM as) f e) F K) (r : RepAs G B F e σ H vs as) : ∃ ds, RepHL G F H vs ds ∧ Pr G B W σ (f ds e) F K := by
  induction as generalizing vs f with
  | nil =>
    cases r
    exact ⟨[], .nil, h⟩
  | cons a as ih =>
    cases r with
    | cons n hr r =>
      unfold viewsM at h
      have h2 : Pr G B W σ (bnd (viewM a) (fun d => bnd (viewsM as) fun ds => f (d :: ds)) e) F K := by
        have : bnd (bnd (viewM a) fun d => bnd (viewsM as) fun ds => ret (d :: ds)) f e = bnd (viewM a) (fun d => bnd (viewsM as) fun ds => f (d :: ds)) e := by
          unfold bnd
          cases viewM a e with
          | ok d e1 =>
            simp only
            cases viewsM as e1 <;> rfl
          | exc => rfl
          | bad => rfl
        rw [← this]; exact h
      obtain ⟨d, hd, h2⟩ := Pr.view h2
      obtain ⟨ds, hds, h3⟩ := ih h2 r
      exact ⟨d :: ds, .cons (S.view n.ne hr hd) hds, h3⟩
theorem boot_bi : ∀ b : Bi, bootBuiltins (biNm b) = some (biVal b) := by
  intro b
  cases b <;> decide +kernel
theorem e_bi {xs : List Expr} {m : M (List AV)} {b : Bi} {x : Str} {q : Pos} (C : CO G T sc k W X) (hx : biNm b = x) (hg : glB sc x = true) (hne : xs.isEmpty = false) (hf : flat xs = true) (ha : PA X xs (tAs G B W m)) :
    PE X (.Call (.Name x q) xs [] pos) (tE G B W (bnd m fun as => bnd (viewsM as) fun ds => ofAV (biD b ds))) := by
  subst hx
  cases xs with
  | nil => cases hne
  | cons y ys =>
    obtain ⟨f1, f2⟩ := flat_cons hf
    have hm : X.mg (biNm b) = none := by rw [C.xc.mg]; exact C.fx.bi b
    have hb := boot_bi b
    have hc := bi_ok (W := W) C.xc b
    have n1 : biNm b ≠ "__name__" := by cases b <;> decide
    have n2 : (biNm b == ("__debug__" : Str)) = false := by cases b <;> decide
    have main : PE X (.Call (.Name (biNm b) q) (y :: ys) [] pos) (tCB (rBi G W b) (tAs G B W m)) := by
      unfold biVal at hb hc
      by_cases ht : biTy b = true
      · rw [if_pos ht] at hb hc
        exact pe_callTy hc (glB_ok C.run hg) hm hb ha n1 n2 (star_ok f1) (star_any f2)
      · rw [if_neg ht] at hb hc
        exact pe_callB hc (glB_ok C.run hg) hm hb ha n1 n2 (star_ok f1) (star_any f2)
    refine pe_weak main fun σ H Q h => ?_
    obtain ⟨F, e, S, h⟩ := h
    refine ⟨F, e, S, (Pr.bnd h).imp fun as e1 F1 H1 _ S1 k1 vs r => ?_⟩
    obtain ⟨ds, hds, h3⟩ := views_w S1 k1 r
    exact ⟨B, σ, F1, e1, ds, S1, hds, h3⟩

/-! ### isinstance -/
theorem boot_ty (t : Ty) (h : ∀ c, t ≠ .cls c) : ∃ n, bootBuiltins (tyNm t) = some (.type n) ∧ ∀ (d : D) (v : V) (F H : Hp), Same F H → RepH G F H v d → ∀ r, isTy d t = some r → ∃ tv, TyX G.K H v tv ∧ PySem.W.kitOne G.K tv (.type n) = some r := by
  have tupT : ∀ {a : Addr} {vs : List V} {H : Hp}, SqT G.K H a vs → TyX G.K H (.ref a) (.type "tuple") := fun h => by
    rcases h with (h | ⟨o, h⟩) | ⟨o, its, n, h, c, _⟩
    · exact .base (.tup h)
    · exact .fTuple h
    · exact .kTuple h c
  cases t with
  | cls c => exact absurd rfl (h c)
  | tuple =>
    refine ⟨"tuple", by decide +kernel, fun d v F H sF hd r hr => ?_⟩
    cases d with
    | tup ds => obtain ⟨a, vs, rfl, q, _⟩ := hd.tup sF; cases hr; exact ⟨_, tupT q, kit_ty (by decide +kernel)⟩
    | lst ds => obtain ⟨a, vs, rfl, q, _⟩ := hd.lst sF; cases hr; exact ⟨_, .base (.lst q), kit_ty (by decide +kernel)⟩
    | int i => cases hd.int; cases hr; exact ⟨_, .base (.int i), kit_ty (by decide +kernel)⟩
    | bl i => cases hd.bl; cases hr; exact ⟨_, .base (.bl i), kit_ty (by decide +kernel)⟩
    | str i => cases hd.str; cases hr; exact ⟨_, .base (.str i), kit_ty (by decide +kernel)⟩
    | non => cases hd.non; cases hr; exact ⟨_, .base .non, kit_ty (by decide +kernel)⟩
    | _ => cases hr
  | list =>
    refine ⟨"list", by decide +kernel, fun d v F H sF hd r hr => ?_⟩
    cases d with
    | tup ds => obtain ⟨a, vs, rfl, q, _⟩ := hd.tup sF; cases hr; exact ⟨_, tupT q, kit_ty (by decide +kernel)⟩
    | lst ds => obtain ⟨a, vs, rfl, q, _⟩ := hd.lst sF; cases hr; exact ⟨_, .base (.lst q), kit_ty (by decide +kernel)⟩
    | int i => cases hd.int; cases hr; exact ⟨_, .base (.int i), kit_ty (by decide +kernel)⟩
    | bl i => cases hd.bl; cases hr; exact ⟨_, .base (.bl i), kit_ty (by decide +kernel)⟩
    | str i => cases hd.str; cases hr; exact ⟨_, .base (.str i), kit_ty (by decide +kernel)⟩
    | non => cases hd.non; cases hr; exact ⟨_, .base .non, kit_ty (by decide +kernel)⟩
    | _ => cases hr
  | int =>
    refine ⟨"int", by decide +kernel, fun d v F H sF hd r hr => ?_⟩
    cases d with
    | tup ds => obtain ⟨a, vs, rfl, q, _⟩ := hd.tup sF; cases hr; exact ⟨_, tupT q, kit_ty (by decide +kernel)⟩
    | lst ds => obtain ⟨a, vs, rfl, q, _⟩ := hd.lst sF; cases hr; exact ⟨_, .base (.lst q), kit_ty (by decide +kernel)⟩
    | int i => cases hd.int; cases hr; exact ⟨_, .base (.int i), kit_ty (by decide +kernel)⟩
    | bl i => cases hd.bl; cases hr; exact ⟨_, .base (.bl i), kit_ty (by decide +kernel)⟩
    | str i => cases hd.str; cases hr; exact ⟨_, .base (.str i), kit_ty (by decide +kernel)⟩
    | non => cases hd.non; cases hr; exact ⟨_, .base .non, kit_ty (by decide +kernel)⟩
    | _ => cases hr
  | bool =>
    refine ⟨"bool", by decide +kernel, fun d v F H sF hd r hr => ?_⟩
    cases d with
    | tup ds => obtain ⟨a, vs, rfl, q, _⟩ := hd.tup sF; cases hr; exact ⟨_, tupT q, kit_ty (by decide +kernel)⟩
    | lst ds => obtain ⟨a, vs, rfl, q, _⟩ := hd.lst sF; cases hr; exact ⟨_, .base (.lst q), kit_ty (by decide +kernel)⟩
    | int i => cases hd.int; cases hr; exact ⟨_, .base (.int i), kit_ty (by decide +kernel)⟩
    | bl i => cases hd.bl; cases hr; exact ⟨_, .base (.bl i), kit_ty (by decide +kernel)⟩
    | str i => cases hd.str; cases hr; exact ⟨_, .base (.str i), kit_ty (by decide +kernel)⟩
    | non => cases hd.non; cases hr; exact ⟨_, .base .non, kit_ty (by decide +kernel)⟩
    | _ => cases hr
  | str =>
    refine ⟨"str", by decide +kernel, fun d v F H sF hd r hr => ?_⟩
    cases d with
    | tup ds => obtain ⟨a, vs, rfl, q, _⟩ := hd.tup sF; cases hr; exact ⟨_, tupT q, kit_ty (by decide +kernel)⟩
    | lst ds => obtain ⟨a, vs, rfl, q, _⟩ := hd.lst sF; cases hr; exact ⟨_, .base (.lst q), kit_ty (by decide +kernel)⟩
    | int i => cases hd.int; cases hr; exact ⟨_, .base (.int i), kit_ty (by decide +kernel)⟩
    | bl i => cases hd.bl; cases hr; exact ⟨_, .base (.bl i), kit_ty (by decide +kernel)⟩
    | str i => cases hd.str; cases hr; exact ⟨_, .base (.str i), kit_ty (by decide +kernel)⟩
    | non => cases hd.non; cases hr; exact ⟨_, .base .non, kit_ty (by decide +kernel)⟩
    | _ => cases hr
theorem ty_cls (c : Nat) : tyNm (.cls c) = "" := rfl
theorem e_isi {y : Expr} {ma : M AV} {t : Ty} {q q2 : Pos} (C : CO G T sc k W X) (hg : glB sc "isinstance" = true) (hs : noStar y = true) (ha : PE X y (tE G B W ma)) (hz : glB sc (tyNm t) = true) (hm : G.mg (tyNm t) = none) (ht : ∀ c, t ≠ .cls c) :
    PE X (.Call (.Name "isinstance" q) [y, .Name (tyNm t) q2] [] pos) (tE G B W (unM ma fun d => bnd (ofO (isTy d t)) fun r => ret (.d (.bl r)))) := by
  obtain ⟨n, hb, hall⟩ := boot_ty (G := G) t ht
  have n1 : tyNm t ≠ "__name__" := by cases t <;> first | decide | exact absurd rfl (ht _)
  have n2 : (tyNm t == ("__debug__" : Str)) = false := by cases t <;> first | decide | exact absurd rfl (ht _)
  have hname : PE X (.Name (tyNm t) q2) (tC (.ty n)) := pe_bltn (glB_ok C.run hz) (by rw [C.xc.mg]; exact hm) hb rfl n1 n2
  have hp : PA X [y, .Name (tyNm t) q2] (tCons (tE G B W (opr ma)) (tCons (tC (.ty n)) tNil)) := pa_cons (oper_e ha) (pa_cons hname pa_nil) (star_ok hs)
  refine pe_weak (pe_callB (call_isi (X := X)) (glB_ok C.run hg) (by rw [C.xc.mg]; exact C.fx.isi) (by decide +kernel) hp (by decide) (by decide) (star_ok hs) rfl) fun σ H Q h => ?_
  obtain ⟨F, e, S, h⟩ := h
  refine ⟨F, e, S, (opr_nn (Pr.bnd h)).imp fun a e1 F1 H1 _ S1 ⟨na, k1⟩ v r => ?_⟩
  obtain ⟨da, va, k1⟩ := Pr.view k1
  obtain ⟨b, hb2, k1⟩ := Pr.ofO k1
  obtain ⟨tv, h1, h2⟩ := hall da v F1 H1 S1.sub (S1.view na.ne r va) b hb2
  rw [← C.xc.K] at h1 h2
  exact ⟨v, .ty n, tv, .type n, b, rfl, .ty n, h1, h2, fin_d S1 k1 (.bl b)⟩

/-! ### ranges as lists and tuples -/
theorem rg_rep (F : Hp) (a b : Int) : RepL G F (rgV a b) (rngL a b) := by
  unfold rgV rngL
  generalize (b - a).toNat = n
  generalize 0 = z
  induction List.range n with
  | nil => exact .nil
  | cons x r ih => exact .cons (.int _) ih
def tR2 (G : Ct) (B : Bs) (W : WX) (ms : M (List D)) : L2.St → Hp → (Int → Int → Hp → Prop) → Prop := fun σ H Q => ∃ F e, Sat G B F e σ H ∧ Pr G B W σ (bnd ms rngTwo e) F (fun t e' F' H' => Q t.1 t.2 H')
theorem small_b {a : Int} (h : small a = true) : -(2 ^ 62) ≤ a ∧ a < 2 ^ 62 := by
  unfold small at h
  simp only [Bool.and_eq_true, decide_eq_true_eq] at h
  omega
theorem prg_any {xs : List Expr} {ms : M (List D)} {q : Pos} (C : CO G T sc k W X) (hg : glB sc "range" = true) (hf : flat xs = true) (h1 : xs.isEmpty = false) (ha : PA X xs (tL G B W ms)) : PRg X (.Call (.Name "range" q) xs [] pos) (tR2 G B W ms) := by
  intro pins s σ H Q I h
  obtain ⟨F, e, S, h⟩ := h
  have hm : X.mg "range" = none := by rw [C.xc.mg]; exact C.fx.range
  have start : tL G B W ms σ H fun vs H1 => ∃ F e ds, Sat G B F e σ H1 ∧ RepL G F vs ds ∧ Pr G B W σ (rngTwo ds e) F (fun t e' F' H' => Q t.1 t.2 H') :=
    ⟨F, e, S, (Pr.bnd h).imp fun ds e1 F1 H1 _ S1 k1 vs r => ⟨F1, e1, ds, S1, r, k1⟩⟩
  cases xs with
  | nil => cases h1
  | cons x xs =>
    obtain ⟨f1, f2⟩ := flat_cons hf
    refine Call_ (ld_blt I (glB_ok C.run hg) hm boot_range (PyProof.Rows.callWith_type1 (thn (ha.run pos pins s σ H _ I start) ?_) (star_ok f1) (star_any f2)))
    rintro us s1 ⟨vs, H1, I1, r1, F1, e1, ds, S1, rd, k1⟩
    unfold rngTwo at k1
    split at k1
    · rename_i n
      cases rd with
      | cons hn rd =>
        cases rd
        cases hn
        cases r1 with
        | cons r rr =>
          cases rr
          obtain ⟨t, rfl⟩ := r
          exact call_range_1 ⟨_, 0, n, _, _, _, H1, rfl, IsRange.new _ _ _ _ _ _ _, I1.kept fun b u e => Heap.get?_push_of_some _ e, Pr.ret k1 S1⟩
    · rename_i m n
      cases rd with
      | cons hm2 rd =>
        cases rd with
        | cons hn rd =>
          cases rd
          cases hn
          cases hm2
          cases r1 with
          | cons r rr =>
            cases rr with
            | cons r' rr =>
              cases rr
              obtain ⟨t, rfl⟩ := r
              obtain ⟨t', rfl⟩ := r'
              exact call_range_2 ⟨_, m, n, _, _, _, H1, rfl, IsRange.new _ _ _ _ _ _ _, I1.kept fun b u e => Heap.get?_push_of_some _ e, Pr.ret k1 S1⟩
    · exact k1.elim
theorem e_rl {xs : List Expr} {ms : M (List D)} {q q2 p2 : Pos} {t : Bool} {x : Str} (C : CO G T sc k W X) (hx : x = (if t then "tuple" else "list")) (hg : glB sc x = true) (hr : glB sc "range" = true) (hf : flat xs = true) (h1 : xs.isEmpty = false) (ha : PA X xs (tL G B W ms)) :
    PE X (.Call (.Name x q) [.Call (.Name "range" q2) xs [] p2] [] pos) (tE G B W (bnd (bnd ms rngTwo) fun r => if small r.1 && small r.2 && decide ((r.2 - r.1).toNat ≤ SZ) then ret (if t then .d (.tup (rngL r.1 r.2)) else .new (.lst (rngL r.1 r.2))) else bad)) := by
  have hp := prg_any (q := q2) (pos := p2) C hr hf h1 ha
  have ok : ∀ {a b : Int}, (small a && small b && decide ((b - a).toNat ≤ SZ)) = true → RgOk a b := fun {a b} h => by
    simp only [Bool.and_eq_true, decide_eq_true_eq] at h
    obtain ⟨⟨ha, hb⟩, hz⟩ := h
    obtain ⟨a1, a2⟩ := small_b ha
    obtain ⟨b1, b2⟩ := small_b hb
    exact ⟨a1, a2, b1, b2, Nat.le_trans hz (by decide)⟩
  cases t with
  | true =>
    subst hx
    have hm : X.mg "tuple" = none := by rw [C.xc.mg]; exact C.fx.bi .tuple
    refine pe_weak (pe_tupRg C.xc.calm (glB_ok C.run hg) hm hp rfl) fun σ H Q h => ?_
    obtain ⟨F, e, S, h⟩ := h
    refine ⟨F, e, S, (Pr.bnd h).imp fun r e1 F1 H1 _ S1 k1 => ?_⟩
    by_cases hc : (small r.1 && small r.2 && decide ((r.2 - r.1).toNat ≤ SZ)) = true
    · rw [if_pos hc] at k1
      exact ⟨ok hc, fun p hp => fin_tup S1 k1 (rg_rep F1 _ _) hp⟩
    · rw [if_neg hc] at k1; exact k1.elim
  | false =>
    subst hx
    have hm : X.mg "list" = none := by rw [C.xc.mg]; exact C.fx.bi .list
    refine pe_weak (pe_listRg C.xc.calm (glB_ok C.run hg) hm hp rfl) fun σ H Q h => ?_
    obtain ⟨F, e, S, h⟩ := h
    refine ⟨F, e, S, (Pr.bnd h).imp fun r e1 F1 H1 _ S1 k1 => ?_⟩
    by_cases hc : (small r.1 && small r.2 && decide ((r.2 - r.1).toNat ≤ SZ)) = true
    · rw [if_pos hc] at k1
      exact ⟨ok hc, fun p hp => fin_lst S1 k1 (rg_rep F1 _ _) hp⟩
    · rw [if_neg hc] at k1; exact k1.elim

/-! ### calls -/
theorem e_call {y : Expr} {ys : List Expr} {m : M (List AV)} {f : Nat} {fd : Fd} {x : Str} {q : Pos} (C : CO G T sc k W X) (h : T.fns[f]? = some fd) (hgl : fd.glob = true) (hx : fd.name = x) (hg : glB sc x = true) (hn : nameB x = true) (hf : flat (y :: ys) = true) (ha : PA X (y :: ys) (tAs G B W m)) :
    PE X (.Call (.Name x q) (y :: ys) [] pos) (tE G B W (bnd m fun as => callM (callT T k) f as)) := by
  obtain ⟨h1, h2⟩ := C.fx.fns f fd h hgl
  obtain ⟨fdt, hb, hF⟩ := C.fk f fd h
  subst hx
  rw [← C.xc.mg] at h1
  rw [← C.xc.K] at h2 hb
  have hF' : FnOk X.prog X.w X.K X.mg X.base (L2.CX X.prog X.w) (2 * k) (G.fA f) fdt fd.ps (spF G (callT T k) f) := by
    rw [C.xc.P, C.xc.w, C.xc.K, C.xc.mg, C.xc.base]; exact hF
  have hr : Room (2 * k) X.A := C.xc.room.mono (Nat.le_succ _)
  obtain ⟨d1, _, _⟩ := nameB_ok hn
  obtain ⟨f1, f2⟩ := flat_cons hf
  refine pe_weak (pe_callS hF' hr (glB_ok C.run hg) h1 h2 hb (fun σ => passAt C.tk σ) ha d1 (star_ok f1) (star_any f2)) fun σ H Q h => ?_
  obtain ⟨F, e, S, h⟩ := h
  exact ⟨F, e, S, (Pr.bnd h).imp fun as e1 F1 H1 _ S1 k1 vs r => call_w S1 r k1⟩
theorem e_call0 {f : Nat} {fd : Fd} {x : Str} {q : Pos} (C : CO G T sc k W X) (h : T.fns[f]? = some fd) (hgl : fd.glob = true) (hx : fd.name = x) (hg : glB sc x = true) (hn : nameB x = true) :
    PE X (.Call (.Name x q) [] [] pos) (tE G B W (bnd (ret []) fun as => callM (callT T k) f as)) := by
  obtain ⟨h1, h2⟩ := C.fx.fns f fd h hgl
  obtain ⟨fdt, hb, hF⟩ := C.fk f fd h
  subst hx
  rw [← C.xc.mg] at h1
  rw [← C.xc.K] at h2 hb
  have hF' : FnOk X.prog X.w X.K X.mg X.base (L2.CX X.prog X.w) (2 * k) (G.fA f) fdt fd.ps (spF G (callT T k) f) := by
    rw [C.xc.P, C.xc.w, C.xc.K, C.xc.mg, C.xc.base]; exact hF
  have hr : Room (2 * k) X.A := C.xc.room.mono (Nat.le_succ _)
  obtain ⟨d1, _, _⟩ := nameB_ok hn
  refine ⟨fun pins s σ H Q I hq => ?_⟩
  obtain ⟨F, e, S, hq⟩ := hq
  refine wpAny_Call_Name_kw (ld_glob I (glB_ok C.run hg) h1 ?_ d1)
  exact PySem.W.callWith_K0 I.kIn h2 (run_fnS (us := []) (vs := []) (E := WE W) hF' hr hb (passAt C.tk σ) I .nil (call_w S .nil (show Pr G B W σ (callM (callT T k) f [] e) F (KA G B σ Q) from hq)))

/-! ### new objects of own classes -/
/-- what another frame left alone -/
theorem Sat.behind {adr : Nat → Option Addr} {outs : List (Option Cell)} (S : Sat G B F e σ H) (P : Post G F H F' H' adr outs) (no : ∀ j a, adr j = some a → B.H0 a = none ∧ ∀ i, ¬ ownAt e σ i a) : Sat G B F' e σ H' := by
  have stay : ∀ i a, ownAt e σ i a → F' a = none ∧ H' a = H a := fun i a ow => by
    obtain ⟨nF, o, hO⟩ := S.ownLive ow
    refine ⟨?_, (P.frm a o hO fun j z => (no j a z).2 i ow).trans hO.symm⟩
    cases q : F' a with
    | none => rfl
    | some o' =>
      rcases P.new a o' q with z | z
      · rw [nF] at z; cases z
      · rw [hO] at z; cases z
  refine ⟨P.sub, S.f0.trans P.sF, fun b o h1 h2 => P.frm b o (S.frm b o h1 h2) (fun j z => absurd ((no j b z).1.symm.trans h1) nofun), fun b o h1 => ?_, fun b o h1 => ?_, fun i s es => ?_, S.apart, S.len⟩
  · obtain ⟨o', h⟩ := S.liv b o h1
    exact P.liv b o' h
  · rcases P.new b o h1 with z | z
    · exact S.new b o z
    · exact .inr (S.base0 z)
  · have q := S.slot i s es
    cases s with
    | non => trivial
    | val d => obtain ⟨v, e1, r⟩ := q; exact ⟨v, e1, r.mono P.sF⟩
    | own c =>
      obtain ⟨a, e1, n, b0, r⟩ := q
      obtain ⟨n', eh⟩ := stay i a ⟨by unfold isOwn; rw [es], e1⟩
      exact ⟨a, e1, n', b0, (r.mono P.sF).at eh⟩
    | bor c =>
      obtain ⟨a, e1, n, b0, r⟩ := q
      obtain ⟨n', eh⟩ := stay i a ⟨by unfold isOwn; rw [es], e1⟩
      exact ⟨a, e1, n', b0, (r.mono P.sF).at eh⟩
theorem args_d {F H : Hp} : ∀ {vs : List V} {ds : List D}, RepL G F vs ds → ArgsOk G F H vs (ds.map .d)
  | _, _, .nil => .nil
  | _, _, .cons h r => .d h (args_d r)
theorem adr_d : ∀ {vs : List V} {ds : List D} {x : V} {c : Cell} {j : Nat} {a : Addr}, adrOf (x :: vs) (.c c :: ds.map .d) j = some a → j = 0 ∧ x = .ref a := fun {vs ds x c j a} h => by
  unfold adrOf at h
  cases j with
  | zero =>
    simp only [List.getElem?_cons_zero] at h
    cases x <;> first | (cases h; exact ⟨rfl, rfl⟩) | cases h
  | succ j =>
    simp only [List.getElem?_cons_succ, List.getElem?_map] at h
    cases hd : ds[j]? with
    | none => rw [hd] at h; simp at h
    | some d => rw [hd] at h; simp at h
theorem e_mk {y : Expr} {ys : List Expr} {ms : M (List D)} {c : Nat} {cd : Cd} {fd : Fd} {x : Str} {q : Pos} (C : CO G T sc k W X) (h : T.cls[c]? = some cd) (hi : T.fns[cd.init]? = some fd) (hx : cd.name = x) (hg : glB sc x = true) (hn : nameB x = true) (hf : flat (y :: ys) = true) (ha : PA X (y :: ys) (tL G B W ms)) :
    PE X (.Call (.Name x q) (y :: ys) [] pos) (tE G B W (bnd ms fun ds => mkM T (callT T k) c ds)) := by
  obtain ⟨h1, _, _, hM⟩ := C.fx.cls c cd h
  obtain ⟨fdt, hb, hF⟩ := C.fk cd.init fd hi
  subst hx
  rw [← C.xc.mg] at h1
  rw [← C.xc.K] at hM hb
  have hF' : FnOk X.prog X.w X.K X.mg X.base (L2.CX X.prog X.w) (2 * k) (G.fA cd.init) fdt fd.ps (spF G (callT T k) cd.init) := by
    rw [C.xc.P, C.xc.w, C.xc.K, C.xc.mg, C.xc.base]; exact hF
  obtain ⟨d1, _, _⟩ := nameB_ok hn
  obtain ⟨f1, f2⟩ := flat_cons hf
  refine ⟨fun pins s σ H Q I hq => ?_⟩
  obtain ⟨F, e, S, hq⟩ := hq
  refine wpAny_Call_Name_kw (ld_glob I (glB_ok C.run hg) h1 ?_ d1)
  have hq1 : tL G B W ms σ H (fun vs H1 => ∃ F e ds, Sat G B F e σ H1 ∧ RepL G F vs ds ∧ Pr G B W σ (mkM T (callT T k) c ds e) F (KA G B σ Q)) := ⟨F, e, S, (Pr.bnd hq).imp fun ds e1 F1 H1 _ S1 k1 vs r => ⟨F1, e1, ds, S1, r, k1⟩⟩
  refine PySem.W.callWith_K (h₀ := X.base) I.ok.mod.kin hM.kp (thn (ha.run pos pins s σ H _ I hq1) fun us s1 ⟨vs, H1, I1, r, F1, e1, ds, S1, rd, k1⟩ => ⟨I1.kIn, ?_⟩) (star_ok f1) (star_any f2)
  -- the new instance and its dict, then __init__
  have hnx : H1 (s1.heap.objs.size + 1) = none := I1.hok.fresh (Nat.le_succ _)
  have hnd : H1 s1.heap.objs.size = none := I1.hok.fresh (Nat.le_refl _)
  generalize hxx : (s1.heap.objs.size + 1 : Nat) = ax at hnx
  generalize hdd : (s1.heap.objs.size : Nat) = ad at hnd
  have hne : ad ≠ ax := by omega
  have S2 : Sat G B F1 e1 σ (upd H1 ad (.own ax)) := S1.laid hnd
  have hnx2 : upd H1 ad (HO.own ax) ax = none := by rw [upd_ne (Ne.symm hne)]; exact hnx
  have S3 : Sat G B F1 e1 σ (upd (upd H1 ad (.own ax)) ax (.ins (G.cA c) ad [])) := S2.laid hnx2
  have b0 : B.H0 ax = none := S1.base0 hnx
  have f0 : F1 ax = none := S1.free hnx
  have no : ∀ i, ¬ ownAt e1 σ i ax := S1.notOwn hnx
  have I2 := Inv.made (C := G.cA c) I1
  have out : spF G (callT T k) cd.init (.ref ax :: vs) (upd (upd H1 ad (.own ax)) ax (.ins (G.cA c) ad [])) (fun v H2 => v = .non ∧ Q (.ref ax) H2) (WE W σ) := by
    refine ⟨F1, .c (.obj c [] []) :: ds.map .d, S3.sub, .c f0 ⟨ad, [], upd_same, .nil⟩ (args_d rd), fun i j a q1 q2 => ?_, ?_⟩
    · obtain ⟨z1, _⟩ := adr_d q1
      obtain ⟨z2, _⟩ := adr_d q2
      rw [z1, z2]
    · have noA : ∀ j a, adrOf (V.ref ax :: vs) (Arg.c (.obj c [] []) :: ds.map .d) j = some a → B.H0 a = none ∧ ∀ i, ¬ ownAt e1 σ i a := fun j a z => by
        obtain ⟨_, z⟩ := adr_d z
        cases z
        exact ⟨b0, no⟩
      have at0 : adrOf (V.ref ax :: vs) (Arg.c (.obj c [] []) :: ds.map .d) 0 = some ax := rfl
      unfold mkM at k1
      rw [h] at k1
      dsimp only at k1
      split at k1
      · rename_i o outs ho
        rw [ho]
        split at k1
        · intro v F' H' P O
          have S4 := S3.behind P noA
          obtain ⟨nF, ck⟩ := P.out 0 ax o at0 rfl
          have hv : v = .non := by cases O; rfl
          exact ⟨hv, k1 F' H' P.sF S4 (.ref ax) ⟨ax, rfl, nF, b0, ck, no⟩⟩
        · exact k1.elim
      · rename_i kk n dd c' outs ho
        rw [ho]
        split at k1
        · intro cls dx F' H' P Xk
          exact k1 F' H' cls dx P.sF (S3.behind P noA) Xk
        · exact k1.elim
      · exact k1.elim
  subst hxx hdd
  have r2 : Vals (V.ref (s1.heap.objs.size + 1) :: vs) (Value.ref (s1.heap.objs.size + 1) :: us) := .cons rfl r
  have hl : (Value.ref (s1.heap.objs.size + 1) :: us).length = fd.ps.length := by rw [← r2.length]; exact hF'.len _ _ _ _ out
  have hbb := hb _ (Value.ref (s1.heap.objs.size + 1) :: us) I2.kIn (by rw [List.append_nil]; exact hl)
  rw [List.append_nil] at hbb
  refine wpAny_call (make_map (f := G.fA cd.init) I1.kIn hM.makes hM.init (beq_iff_eq.mp hM.fn) (codeAny_mono (hF'.run _ X.stack _ _ ⟨Value.ref (s1.heap.objs.size + 1) :: us, []⟩ (Value.ref (s1.heap.objs.size + 1) :: us) _ _ (WE W σ) (Room.make C.xc.room (G.cA c) us [])
    (I2.env0.make (G.cA c) us []) hbb r2 out) fun r s' hq' => ?_))
  cases r with
  | error ee => exact passAt C.tk σ pins _ _ ee s' I2 hq'
  | ok fl =>
    cases fl with
    | ret u =>
      obtain ⟨v, H', I3, rv, ev, q3⟩ := I2.after hq'
      subst ev
      exact ⟨rv, ⟨V.ref (s1.heap.objs.size + 1), H', I3, rfl, q3⟩⟩
    | next => exact False.elim hq'
    | brk => exact False.elim hq'
    | cont => exact False.elim hq'
end
end PX

end
section
set_option Elab.async false
set_option linter.all false
set_option maxRecDepth 100000
set_option maxHeartbeats 2000000
/-! PXm: fields, appending, dicts, what a loop walks. -/
namespace PX
open PySem PySem.Spec PyProof.Rows L2
section
variable {G : Ct} {B : Bs} {W : WX} {σ : L2.St} {F F' H H' : Hp} {e e' : Env} {Q : VK} {v : V} {d : D} {a p : Addr} {ds : List D} {vs : List V} {X : Cx} {k : Nat} {T : Tab} {sc : Sc} {pos : Pos}
/-! ### fields -/
theorem look_f {f : Nat} (hi : ∀ n, G.nm f = G.nm n → f = n) : ∀ {fs : List (Str × V)} {ns : List Nat} {ds : List D} {d : D}, RepF G F fs ns ds → lookN f ns ds = some d → ∃ v, fs.lookup (G.nm f) = some v ∧ Rep G F v d
  | _, _, _, d, .nil, h => by cases h
  | _, _, _, d, .cons (n := n) (v := v) (fs := fs) hr r, h => by
    unfold lookN at h
    by_cases q : n = f
    · rw [if_pos q] at h
      cases h
      subst q
      exact ⟨v, by simp [List.lookup_cons], hr⟩
    · rw [if_neg q] at h
      obtain ⟨w, h1, h2⟩ := look_f hi r h
      refine ⟨w, ?_, h2⟩
      have : (G.nm f == G.nm n) = false := by
        cases z : (G.nm f == G.nm n) with
        | false => rfl
        | true => exact absurd (hi n (eq_of_beq z)).symm q
      rw [List.lookup_cons, this]
      exact h1
theorem put_f {f : Nat} {v : V} {d : D} (hv : Rep G F v d) (hi : ∀ n, G.nm f = G.nm n → f = n) : ∀ {fs : List (Str × V)} {ns : List Nat} {ds : List D}, RepF G F fs ns ds → RepF G F (putF (G.nm f) v fs) (putN f d ns ds).1 (putN f d ns ds).2
  | _, _, _, .nil => .cons hv .nil
  | _, _, _, .cons (n := n) (v := w) (fs := fs) (ns := ns) (ds := ds) (d := dd) hr r => by
    unfold putN putF
    by_cases q : n = f
    · subst q
      rw [if_pos rfl, if_pos rfl]
      exact .cons hv r
    · rw [if_neg q, if_neg (fun z => q (hi n z.symm).symm)]
      exact .cons hr (put_f hv hi r)
theorem len_f : ∀ {fs : List (Str × V)} {ns : List Nat} {ds : List D}, RepF G F fs ns ds → fs.length = ns.length
  | _, _, _, .nil => rfl
  | _, _, _, .cons _ r => by rw [List.length_cons, List.length_cons, len_f r]
theorem e_fld {x : Expr} {ma : M AV} {f : Nat} {m : Str} (C : CO G T sc k W X) (hm : T.nms[f]? = some m) (hs : noSuper x = true) (ha : PE X x (tE G B W ma)) : PE X (.Attribute x m pos) (tE G B W (unM ma fun d => bnd (ofO (fldD T f d)) fun r => ret (.d r))) := by
  refine pe_weak (pe_fld (oper_e ha) (super_ok hs)) fun σ H Q q => ?_
  obtain ⟨F, e, S, h⟩ := q
  refine ⟨F, e, S, (opr_nn (Pr.bnd h)).imp fun a e1 F1 H1 _ S1 ⟨na, k1⟩ v r => ?_⟩
  obtain ⟨da, va, k1⟩ := Pr.view k1
  obtain ⟨rd, hr, kq⟩ := Pr.ofO k1
  clear k1
  have hd := S1.view na.ne r va
  unfold fldD at hr
  split at hr
  · rename_i c ns ds
    split at hr
    · rename_i hc
      obtain ⟨ax, dx, fs, rfl, hA, rf⟩ := hd.obj S1.sub
      have e1 := C.fx.nm f m hm
      obtain ⟨w, h1, h2⟩ := look_f (fun n => C.fx.inj f n (List.getElem?_eq_some_iff.mp hm).1) rf hr
      obtain ⟨_, hC, hN, _⟩ := C.fx.cls c _ (List.getElem?_eq_getElem hc)
      rw [e1] at h1
      rw [← C.xc.K] at hC hN
      exact ⟨ax, G.cA c, dx, fs, w, rfl, hA, hC, hN f m hm, h1, fin_d S1 kq h2⟩
    · cases hr
  · cases hr

/-! ### changes in place -/
/-- a change of the cell in slot i -/
theorem mod_w {i : Nat} {f : Cell → Option Cell} {α : Type} {g : Unit → M α} {K : α → Env → Hp → Hp → Prop} (S : Sat G B F e σ H) (h : Pr G B W σ (bnd (modSlot i f) g e) F K) :
    ∃ a c c' e', σ[i]? = some (some (.ref a)) ∧ CellOk G F H a c ∧ f c = some c' ∧ (∀ o, CellOk G F (upd H a o) a c' → Sat G B F e' σ (upd H a o)) ∧ Pr G B W σ (g () e') F K := by
  unfold bnd modSlot at h
  cases es : e[i]? with
  | none => simp only [es] at h; exact h.elim
  | some s =>
    simp only [es] at h
    cases s with
    | non => exact h.elim
    | val d => exact h.elim
    | own c =>
      cases hf : f c with
      | none => simp only [hf] at h; exact h.elim
      | some c' =>
        simp only [hf] at h
        obtain ⟨a, e1, n, b0, r⟩ := S.slot i _ es
        refine ⟨a, c, c', _, e1, r, hf, fun o ho => ?_, h⟩
        have := S.mod e1 (.inl es) ho
        rw [es] at this
        exact this
    | bor c =>
      cases hf : f c with
      | none => simp only [hf] at h; exact h.elim
      | some c' =>
        simp only [hf] at h
        obtain ⟨a, e1, n, b0, r⟩ := S.slot i _ es
        refine ⟨a, c, c', _, e1, r, hf, fun o ho => ?_, h⟩
        have := S.mod e1 (.inr es) ho
        rw [es] at this
        exact this
theorem e_app {i : Nat} {x : Str} {y : Expr} {ma : M AV} {p1 p2 cp : Pos} (C : CO G T sc k W X) (hx : slotB sc i x = true) (hv : visB sc x = true) (hl : (p2.endLine == cp.line) = true) (hs : noStar y = true) (ha : PE X y (tE G B W ma)) :
    PE X (.Call (.Attribute (.Name x p1) "append" p2) [y] [] cp) (tE G B W (bnd (lstAt i) fun _ => bnd (dataM ma) fun d => bnd (modSlot i (appC d)) fun _ => ret (.d .non))) := by
  obtain ⟨h1, h2⟩ := slotB_ok C.N hx
  obtain ⟨d1, d2, _⟩ := nameB_ok h2
  refine pe_weak (pe_bm F.plainAttrs_list F.slot_list_append F.type_list_append (mt_append (X := X)) (pe_var h1 (visB_ok C.run hv) d1 d2) (pa_cons (data_e ha) pa_nil (star_ok hs)) rfl ?_ hl (star_ok hs) rfl) fun σ H Q q => ?_
  · have := star_all (xs := [y]) (env := X.env) (pos := cp) (by unfold flat; simp [hs])
    rw [this]
    rfl
  · obtain ⟨F, e, S, q⟩ := q
    have q1 := Pr.bnd q
    unfold lstAt at q1
    have key : ∃ a xs, σ[i]? = some (some (.ref a)) ∧ H a = some (.lst xs) ∧ Pr G B W σ (bnd (dataM ma) (fun d => bnd (modSlot i (appC d)) fun _ => ret (.d .non)) e) F (KA G B σ Q) := by
      cases es : e[i]? with
      | none => simp only [es] at q1; exact q1.elim
      | some s =>
        simp only [es] at q1
        cases s with
        | non => exact q1.elim
        | val d => exact q1.elim
        | own c =>
          cases c with
          | lst ds => obtain ⟨a, e1, _, _, xs, hA, _⟩ := S.slot i _ es; exact ⟨a, xs, e1, hA, q1 F H (Same.refl F) S⟩
          | _ => exact q1.elim
        | bor c =>
          cases c with
          | lst ds => obtain ⟨a, e1, _, _, xs, hA, _⟩ := S.slot i _ es; exact ⟨a, xs, e1, hA, q1 F H (Same.refl F) S⟩
          | _ => exact q1.elim
    obtain ⟨a, xs, e1, hA, q2⟩ := key
    refine ⟨.ref a, e1, .inl ⟨rfl, xs, SqL.of hA⟩, F, e, S, (Pr.bnd q2).imp fun d e2 F2 H2 _ S2 k2 v rv => ?_⟩
    obtain ⟨a2, c, c', e3, e4, ck, hf, hS, k3⟩ := mod_w S2 k2
    rw [e1] at e4
    cases e4
    unfold appC at hf
    split at hf
    · rename_i ds
      split at hf
      · rename_i hz
        cases hf
        obtain ⟨ys, hA2, rd⟩ := ck
        refine ⟨a, ys, v, rfl, rfl, hA2, by rw [rd.length]; exact Nat.lt_of_lt_of_le hz szLe, ?_⟩
        have S3 := hS (.lst (ys ++ [v])) ⟨_, upd_same, rd.append (.cons rv .nil)⟩
        exact fin_d S3 k3 .non
      · cases hf
    · cases hf

/-! ### dicts -/
theorem e_dct1 {i j : Int} {n1 n2 : Nat} {p1 p2 : Pos} : PE X (.Dict [some (.Constant (.int i) n1 p1)] [.Constant (.int j) n2 p2] pos) (tE G B W (ret (.new (.dct [.int i] [.int j])))) := by
  refine pe_weak (pe_disp (pps_cons (pe_int (i := i)) (pe_int (i := j)) pps_nil) rfl rfl (by simp) (by simp)) fun σ H Q q p hp => ?_
  obtain ⟨F, e, S, q⟩ := q
  refine ⟨upd_same, [(.inl i, .int j)], rfl, by simp, ?_⟩
  rw [upd_upd]
  exact fin_dct (kvs := [(.inl i, .int j)]) S q (.cons (k := .inl i) (.int j) .nil) hp
def keyV (d : D) : V → Option Key
  | .int i => some (.inl i)
  | .str s => some (.inr s)
  | _ => none
theorem any_k {q : Key} : ∀ {kvs : List (Key × V)} {ks xs : List D}, RepK G F kvs ks xs → (kvs.any fun kv => decide (kv.1 = q)) = ks.any (keyEq · (keyD q))
  | _, _, _, .nil => rfl
  | _, _, _, .cons (k := k) hr r => by rw [List.any_cons, List.any_cons, any_k r, keyEq_D]
theorem set_k {q : Key} (hv : Rep G F v d) : ∀ {kvs : List (Key × V)} {ks xs : List D}, RepK G F kvs ks xs → RepK G F (kvs.map fun kv => if kv.1 = q then (kv.1, v) else kv) ks (setK (keyD q) d ks xs)
  | _, _, _, .nil => .nil
  | _, _, _, .cons (k := k) hr r => by
    unfold setK
    rw [List.map_cons, keyEq_D]
    by_cases z : k = q
    · rw [if_pos z, decide_eq_true z, if_pos rfl]
      exact .cons hv (set_k hv r)
    · rw [if_neg z, decide_eq_false z, if_neg (by simp)]
      exact .cons hr (set_k hv r)
theorem app_k {q : Key} (hv : Rep G F v d) : ∀ {kvs : List (Key × V)} {ks xs : List D}, RepK G F kvs ks xs → RepK G F (kvs ++ [(q, v)]) (ks ++ [keyD q]) (xs ++ [d])
  | _, _, _, .nil => .cons hv .nil
  | _, _, _, .cons hr r => .cons hr (app_k hv r)
theorem put_k {q : Key} (hv : Rep G F v d) {kvs : List (Key × V)} {ks xs : List D} (r : RepK G F kvs ks xs) : RepK G F (L2.putK kvs q v) (putK (keyD q) d ks xs).1 (putK (keyD q) d ks xs).2 := by
  unfold L2.putK PX.putK
  rw [any_k r]
  by_cases z : (ks.any (keyEq · (keyD q))) = true
  · rw [if_pos z, if_pos z]; exact set_k hv r
  · rw [if_neg z, if_neg z]; exact app_k hv r
theorem len_k : ∀ {kvs : List (Key × V)} {ks xs : List D}, RepK G F kvs ks xs → kvs.length = ks.length
  | _, _, _, .nil => rfl
  | _, _, _, .cons _ r => by rw [List.length_cons, List.length_cons, len_k r]
theorem e_get {x y z : Expr} {mo my mz : M AV} {p2 cp : Pos} (C : CO G T sc k W X) (hl : (p2.endLine == cp.line) = true) (hs : noSuper x = true) (hy : noStar y = true) (hz : noStar z = true) (ho : PE X x (tE G B W mo)) (h1 : PE X y (tE G B W my)) (h2 : PE X z (tE G B W mz)) :
    PE X (.Call (.Attribute x "get" p2) [y, z] [] cp) (tE G B W (bnd (opr mo) fun x => bnd (bnd (viewM x) isDct) fun _ => bnd (bnd (dataM my) fun d => bnd (bnd (dataM mz) fun d => bnd (ret []) fun ds => ret (d :: ds)) fun ds => ret (d :: ds)) fun ds => bnd (viewM x) fun dd => getD' dd ds)) := by
  have e1 : starEach [y, z] X.env = [(false, eval y X.env), (false, eval z X.env)] := by rw [star_ok hy, star_ok hz]; rfl
  have hm : M2 X x "get" p2 y z cp := by
    refine ⟨super_ok hs, ?_, hl, ?_⟩
    · have := star_all (xs := [y, z]) (env := X.env) (pos := cp) (by unfold flat; simp [hy, hz])
      rw [this]
      rfl
    · rw [e1]; rfl
  have hu : X.A.units + 1 < cLine := by have := C.xc.room.units; omega
  refine pe_weak (pe_dget2 hu (oper_e ho) (data_e h1) (data_e h2) hm) fun σ H Q q => ?_
  obtain ⟨F, e, S, q⟩ := q
  refine ⟨F, e, S, (opr_nn (Pr.bnd q)).imp fun a e1 F1 H1 _ S1 ⟨na, k1⟩ v r => ?_⟩
  have k2 := Pr.bnd k1
  obtain ⟨d0, v0, k2⟩ := Pr.view k2
  have hd0 := S1.view na.ne r v0
  unfold isDct at k2
  split at k2
  · rename_i ks0 xs0
    obtain ⟨ax, kvs0, rfl, hR, _⟩ := hd0.dct S1.sub
    have k3 := Pr.ret k2 S1
    refine ⟨ax, rfl, .inl ⟨kvs0, hR⟩, F1, e1, S1, (Pr.bnd (Pr.bnd k3)).imp fun dk e2 F2 H2 s2 S2 k4 u ru => ?_⟩
    refine ⟨F2, e2, S2, (Pr.bnd (Pr.bnd k4)).imp fun dz e3 F3 H3 s3 S3 k5 w rw_ => ?_⟩
    have k6 := Pr.ret (Pr.bnd k5) S3
    have k7 := Pr.ret k6 S3
    have k8 := Pr.ret k7 S3
    obtain ⟨dd, vd, k9⟩ := Pr.view k8
    have hd := S3.view na.ne (na.later (s2.trans s3) r) vd
    cases dd with
    | dct ks xs =>
      have k9 : Pr G B W σ ((if keyOk dk then ret (.d ((lookK dk ks xs).getD dz)) else bad) e3) F3 (KA G B σ Q) := k9
      by_cases hk : keyOk dk = true
      · rw [if_pos hk] at k9
        obtain ⟨q, rfl, rfl⟩ := key_of (H := H3) hk (.inl (ru.mono s3))
        obtain ⟨ax', kvs, e9, hR', rk⟩ := hd.dct S3.sub
        cases e9
        refine ⟨valV kvs q, .inl ⟨kvs, q, hR', rfl, rfl⟩, ?_⟩
        rcases look_k (q := q) rk with ⟨z1, z2⟩ | ⟨d', v', z1, z2, z3⟩
        · rw [z1] at k9
          rw [z2]
          exact fin_d S3 k9 rw_
        · rw [z1] at k9
          rw [z2]
          exact fin_d S3 k9 z3
      · rw [if_neg hk] at k9; exact k9.elim
    | _ => exact k9.elim
  · exact k2.elim
end
end PX

end
section
set_option Elab.async false
set_option linter.all false
set_option maxRecDepth 100000
set_option maxHeartbeats 2000000
/-! PXn: what a loop walks; targets. -/
namespace PX
open PySem PySem.Spec PyProof.Rows L2

/-- the iterator hands out this data -/
def JOk (G : Ct) (J : L2.It) (F : Hp) (ds : List D) : Prop := ∀ i F' H B e σ, Same F F' → Sat G B F' e σ H →
  (ds.length = i → J.stop i H) ∧ ∀ d, ds[i]? = some d → J.go i H ∧ ∀ x H', J.yld i H x H' → ∃ F2, Same F' F2 ∧ Sat G B F2 e σ H' ∧ Rep G F2 x d
theorem JOk.mono {G : Ct} {J : L2.It} {F F' : Hp} {ds : List D} (h : JOk G J F ds) (s : Same F F') : JOk G J F' ds := fun i F2 H B e σ s2 S => h i F2 H B e σ (s.trans s2) S
def tI (G : Ct) (B : Bs) (W : WX) (m : M (List D)) : TI := fun σ H R => ∃ F e, Sat G B F e σ H ∧ Pr G B W σ (m e) F (fun ds _ F' H' => ∀ J, JOk G J F' ds → R J H')
def JSq (K : PySem.W.Frag) (k : SK) (a : Addr) : L2.It := match k with
  | .l => Itl K a
  | .t => Itt K a
theorem pi_sq {X : Cx} {tg l : Expr} {tl : TE} (h : PE X l tl) : PI X tg l (fun σ H R => tl σ H fun x H1 => ∃ (k : SK) (a : Addr) (xs : List V), x = .ref a ∧ k.Sq X.K H1 a xs ∧ R (JSq X.K k a) H1) := by
  refine ⟨fun pins s σ H R I q => thn (h.run pins s σ H _ I q) ?_⟩
  rintro v s1 ⟨x, H1, I1, r1, k, a, xs, rfl, hq, q⟩
  cases r1
  obtain ⟨its, rv, pp⟩ := SK.get I1 hq
  refine (SK.begins its.toArray).iter _ _ _ _ _ _ pp ?_
  cases k with
  | l => exact pi_one (tk := s1.toks) I1 _ (turn_list a _) ⟨_, Heap.get?_push_size _ rfl, rfl, rfl⟩ q
  | t => exact pi_one (tk := s1.toks) I1 _ (turn_tuple a _) ⟨_, Heap.get?_push_size _ rfl, rfl, rfl⟩ q
theorem pi_sqd {X : Cx} {tg l : Expr} {tl : TE} (h : PE X l tl) : PI X tg l (fun σ H R => tl σ H fun x H1 => (∃ (k : SK) (a : Addr) (xs : List V), x = .ref a ∧ k.Sq X.K H1 a xs ∧ R (JSq X.K k a) H1) ∨ ∃ (b : Addr) (o : Obj) (kvs : List (Key × V)), x = .ref b ∧ H1 b = some (.frz o (.dK kvs)) ∧ R (Itk b o kvs) H1) := by
  refine ⟨fun pins s σ H R I q => thn (h.run pins s σ H _ I q) ?_⟩
  rintro v s1 ⟨x, H1, I1, r1, ⟨k, a, xs, rfl, hq, q⟩ | ⟨b, o, kvs, rfl, hd, q⟩⟩
  · cases r1
    obtain ⟨its, rv, pp⟩ := SK.get I1 hq
    refine (SK.begins its.toArray).iter _ _ _ _ _ _ pp ?_
    cases k with
    | l => exact pi_one (tk := s1.toks) I1 _ (turn_list a _) ⟨_, Heap.get?_push_size _ rfl, rfl, rfl⟩ q
    | t => exact pi_one (tk := s1.toks) I1 _ (turn_tuple a _) ⟨_, Heap.get?_push_size _ rfl, rfl, rfl⟩ q
  · cases r1
    obtain ⟨g1, g2, g3, es, ep, vs, g4, g5, g6, g7⟩ := I1.frzK hd
    refine iter_keys g1 g2 g3 g4 (pi_one (tk := s1.toks) I1 _ (turn_keys _ g4) ⟨_, Heap.get?_push_size _ rfl, rfl, ?_⟩ q)
    rw [g5] <;> rfl
section
variable {G : Ct} {B : Bs} {W : WX} {σ : L2.St} {F F' H H' : Hp} {e e' : Env} {Q : VK} {v : V} {d : D} {a p : Addr} {ds : List D} {vs : List V} {X : Cx} {k : Nat} {T : Tab} {sc : Sc} {pos : Pos}
theorem rep_sq (h : Rep G F v (.tup ds)) : ∃ a vs, v = .ref a ∧ SK.t.Sq G.K F a vs ∧ RepL G F vs ds := by
  cases h with | tup h r => exact ⟨_, _, rfl, h, r⟩
theorem rep_lq (h : Rep G F v (.lst ds)) : ∃ a vs, v = .ref a ∧ SK.l.Sq G.K F a vs ∧ RepL G F vs ds := by
  cases h with | lst h r => exact ⟨_, _, rfl, SqL.of h, r⟩
theorem SK.up {k : SK} (s : Same F H) (h : k.Sq G.K F a vs) : k.Sq G.K H a vs := by
  cases k with
  | l => exact Same.seq s h
  | t => exact Same.sqt s h
/-- any sequence's data, frozen -/
def seqV : D → Option (SK × List D)
  | .tup ds => some (.t, ds)
  | .lst ds => some (.l, ds)
  | _ => none
theorem rep_seq {k : SK} (hs : seqV d = some (k, ds)) (h : Rep G F v d) : ∃ a vs, v = .ref a ∧ k.Sq G.K F a vs ∧ RepL G F vs ds := by
  unfold seqV at hs
  split at hs
  · cases hs; exact rep_sq h
  · cases hs; exact rep_lq h
  · cases hs
theorem lenK : ∀ {kvs : List (Key × V)} {ks xs : List D}, RepK G F kvs ks xs → kvs.length = ks.length ∧ ks.length = xs.length
  | _, _, _, .nil => ⟨rfl, rfl⟩
  | _, _, _, .cons _ r => by obtain ⟨h1, h2⟩ := lenK r; simp only [List.length_cons]; omega
theorem keyK {k : Key} {v : V} {y : D} : ∀ {kvs : List (Key × V)} {ks xs : List D} {i : Nat}, RepK G F kvs ks xs → kvs[i]? = some (k, v) → ks[i]? = some y → y = keyD k
  | _, _, _, _, .nil, hk, _ => by cases hk
  | _, _, _, 0, .cons _ _, hk, g => by cases hk; cases g; rfl
  | _, _, _, i + 1, .cons _ r, hk, g => keyK (i := i) r hk g
theorem j_keys {ob : Obj} {kvs : List (Key × V)} {ks xs : List D} (hF : F a = some (.frz ob (.dK kvs))) (r : RepK G F kvs ks xs) : JOk G (Itk a ob kvs) F ks := by
  intro i F' H B e σ s S
  have hH : H a = some (.frz ob (.dK kvs)) := S.sub _ _ (s _ _ hF)
  have hl := lenK r
  refine ⟨fun hi => ⟨hH, by omega⟩, fun d hd => ?_⟩
  have hi := (List.getElem?_eq_some_iff.mp hd).1
  refine ⟨⟨hH, by omega⟩, fun w H' hw => ?_⟩
  obtain ⟨rfl, kk, v, hk, rfl⟩ := hw
  have := keyK r hk hd
  subst this
  refine ⟨F', Same.refl F', S, ?_⟩
  cases kk with
  | inl i => exact .int i
  | inr t => exact .str t
theorem seqD_of {f : List D → M (List D)} {K : List D → Env → Hp → Hp → Prop} (h : Pr G B W σ (seqD d e) F K) : (∃ k ds, seqV d = some (k, ds) ∧ Pr G B W σ (ret ds e) F K) ∨ ∃ ks xs, d = .dct ks xs ∧ Pr G B W σ (ret ks e) F K := by
  cases d with
  | tup ds => exact .inl ⟨.t, ds, rfl, h⟩
  | lst ds => exact .inl ⟨.l, ds, rfl, h⟩
  | dct ks xs => exact .inr ⟨ks, xs, rfl, h⟩
  | _ => exact h.elim
theorem get_none {xs : List D} {i : Nat} (h : xs.length ≤ i) : xs[i]? = none := List.getElem?_eq_none h
/-- a sequence at a frozen place -/
theorem j_sq {k : SK} (hq : k.Sq G.K F a vs) (r : RepL G F vs ds) : JOk G (JSq G.K k a) F ds := by
  intro i F' H B e σ s S
  have hH : k.Sq G.K H a vs := SK.up (s.trans S.sub) hq
  cases k with
  | l =>
    refine ⟨fun hi => ⟨vs, hH, by rw [r.length, hi]; exact Nat.le_refl _⟩, fun d hd => ?_⟩
    obtain ⟨x, hx, rx⟩ := r.get hd
    refine ⟨⟨vs, x, hH, hx⟩, fun y H' hy => ?_⟩
    obtain ⟨rfl, hy⟩ := hy
    have := hy vs hH
    rw [hx] at this
    cases this
    exact ⟨F', Same.refl F', S, rx.mono s⟩
  | t =>
    refine ⟨fun hi => ⟨vs, hH, by rw [r.length, hi]; exact Nat.le_refl _⟩, fun d hd => ?_⟩
    obtain ⟨x, hx, rx⟩ := r.get hd
    refine ⟨⟨vs, x, hH, hx⟩, fun y H' hy => ?_⟩
    obtain ⟨rfl, hy⟩ := hy
    have := hy vs hH
    rw [hx] at this
    cases this
    exact ⟨F', Same.refl F', S, rx.mono s⟩
theorem i_seq {tg x : Expr} {m : M AV} (C : CO G T sc k W X) (h : PE X x (tE G B W m)) : PI X tg x (tI G B W (bnd (dataM m) seqD)) := by
  refine pi_weak (pi_sqd (data_e h)) fun σ H R q => ?_
  obtain ⟨F, e, S, q⟩ := q
  refine ⟨F, e, S, (Pr.bnd q).imp fun d e1 F1 H1 _ S1 k1 v rv => ?_⟩
  rcases seqD_of (f := ret) k1 with ⟨kk, ds, hs, k1⟩ | ⟨ks, xs, rfl, k1⟩
  · obtain ⟨a, vs, rfl, hq, r⟩ := rep_seq hs rv
    rw [C.xc.K]
    exact .inl ⟨kk, a, vs, rfl, SK.up S1.sub hq, Pr.ret k1 S1 _ (j_sq hq r)⟩
  · cases rv with
    | dct hF rk => exact .inr ⟨_, _, _, rfl, S1.sub _ _ hF, Pr.ret k1 S1 _ (j_keys hF rk)⟩

/-! ### ranges -/
theorem j_rng {a b : Int} : JOk G (Itr a (b - a).toNat) F (rngL a b) := by
  intro i F' H B e σ s S
  unfold rngL
  refine ⟨fun hi => ?_, fun d hd => ?_⟩
  · rw [List.length_map, List.length_range] at hi
    exact Nat.le_of_eq hi
  · rw [List.getElem?_map] at hd
    cases hr : (List.range (b - a).toNat)[i]? with
    | none => rw [hr] at hd; cases hd
    | some z =>
      rw [hr] at hd
      obtain ⟨hi, hz⟩ := List.getElem?_eq_some_iff.mp hr
      rw [List.getElem_range] at hz
      subst hz
      cases hd
      rw [List.length_range] at hi
      refine ⟨hi, fun x H' hy => ?_⟩
      obtain ⟨rfl, rfl⟩ := hy
      exact ⟨F', Same.refl F', S, .int _⟩
theorem j_down {a b : Int} : JOk G (Itc a (-1) (a - b).toNat) F (rngDown a b) := by
  intro i F' H B e σ s S
  unfold rngDown
  refine ⟨fun hi => ?_, fun d hd => ?_⟩
  · rw [List.length_map, List.length_range] at hi
    exact Nat.le_of_eq hi
  · rw [List.getElem?_map] at hd
    cases hr : (List.range (a - b).toNat)[i]? with
    | none => rw [hr] at hd; cases hd
    | some z =>
      rw [hr] at hd
      obtain ⟨hi, hz⟩ := List.getElem?_eq_some_iff.mp hr
      rw [List.getElem_range] at hz
      subst hz
      cases hd
      rw [List.length_range] at hi
      refine ⟨hi, fun x H' hy => ?_⟩
      obtain ⟨rfl, rfl⟩ := hy
      refine ⟨F', Same.refl F', S, ?_⟩
      have : a + (i : Int) * (-1) = a - (i : Int) := by omega
      rw [this]
      exact .int _
theorem i_rng {tg : Expr} {xs : List Expr} {ms : M (List D)} {q : Pos} (C : CO G T sc k W X) (hg : glB sc "range" = true) (hf : flat xs = true) (h1 : xs.isEmpty = false) (ha : PA X xs (tL G B W ms)) : PI X tg (.Call (.Name "range" q) xs [] pos) (tI G B W (bnd ms fun ds => bnd (rng2 ds) rngD)) := by
  refine ⟨fun pins s σ H R I h => ?_⟩
  obtain ⟨F, e, S, h⟩ := h
  have hm : X.mg "range" = none := by rw [C.xc.mg]; exact C.fx.range
  have start : tL G B W ms σ H fun vs H1 => ∃ F e ds, Sat G B F e σ H1 ∧ RepL G F vs ds ∧ Pr G B W σ (bnd (rng2 ds) rngD e) F (fun ds _ F' H' => ∀ J, JOk G J F' ds → R J H') :=
    ⟨F, e, S, (Pr.bnd h).imp fun ds e1 F1 H1 _ S1 k1 vs r => ⟨F1, e1, ds, S1, r, k1⟩⟩
  cases xs with
  | nil => cases h1
  | cons x xs =>
    obtain ⟨f1, f2⟩ := flat_cons hf
    refine Call_ (ld_blt I (glB_ok C.run hg) hm boot_range (PyProof.Rows.callWith_type1 (thn (ha.run pos pins s σ H _ I start) ?_) (star_ok f1) (star_any f2)))
    rintro us s1 ⟨vs, H1, I1, r1, F1, e1, ds, S1, rd, k1⟩
    have k1 := Pr.bnd k1
    unfold rng2 at k1
    split at k1
    · rename_i n
      have k1 := Pr.ret k1 S1
      unfold rngD at k1
      split at k1
      · rename_i hc
        simp only [Bool.and_eq_true] at hc
        obtain ⟨b1, b2⟩ := small_b hc.2
        rw [if_pos rfl] at k1
        cases rd with
        | cons hn rd =>
          cases rd
          cases hn
          cases r1 with
          | cons r rr =>
            cases rr
            obtain ⟨t, rfl⟩ := r
            exact call_range_1 (range_it I1 (by omega) (by omega) b1 b2 (Pr.ret k1 S1 _ j_rng))
      · exact k1.elim
    · rename_i a b
      have k1 := Pr.ret k1 S1
      unfold rngD at k1
      split at k1
      · rename_i hc
        simp only [Bool.and_eq_true] at hc
        obtain ⟨a1, a2⟩ := small_b hc.1
        obtain ⟨b1, b2⟩ := small_b hc.2
        rw [if_pos rfl] at k1
        cases rd with
        | cons hm rd =>
          cases rd with
          | cons hn rd =>
            cases rd
            cases hn
            cases hm
            cases r1 with
            | cons r rr =>
              cases rr with
              | cons r' rr =>
                cases rr
                obtain ⟨t, rfl⟩ := r
                obtain ⟨t', rfl⟩ := r'
                exact call_range_2 (range_it I1 a1 a2 b1 b2 (Pr.ret k1 S1 _ j_rng))
      · exact k1.elim
    · rename_i a b c _x
      have k1 := Pr.ret k1 S1
      unfold rngD at k1
      split at k1
      · rename_i hc
        simp only [Bool.and_eq_true] at hc
        obtain ⟨a1, a2⟩ := small_b hc.1
        obtain ⟨b1, b2⟩ := small_b hc.2
        cases rd with
        | cons hm rd =>
          cases rd with
          | cons hn rd =>
            cases rd with
            | cons hs rd =>
              cases rd
              cases hn
              cases hm
              cases hs
              cases r1 with
              | cons r rr =>
                cases rr with
                | cons r' rr =>
                  cases rr with
                  | cons r'' rr =>
                    cases rr
                    obtain ⟨t, rfl⟩ := r
                    obtain ⟨t', rfl⟩ := r'
                    obtain ⟨t'', rfl⟩ := r''
                    split at k1
                    · rename_i hc1
                      have hc1 : c = 1 := hc1
                      subst hc1
                      exact call_range_3 (by decide) (range_it I1 a1 a2 b1 b2 (Pr.ret k1 S1 _ j_rng)) (.inl (PyProof.noPylong_small (by decide)))
                    · split at k1
                      · rename_i hc1
                        have hc1 : c = -1 := hc1
                        subst hc1
                        obtain ⟨c0, c1, c2, c3⟩ := RgC.neg a1 a2 b1 b2
                        refine call_range_3 c0 ?_ (.inl (PyProof.noPylong_small c1))
                        refine wpAny_pyIter_range (IsRange.new ..) c2 ?_
                        have I2 : Inv X pins σ H1 { s1 with heap := s1.heap.push { cls := .type "range", data := .fields #[.int a t, .int b t', .int (-1) t''] } } := I1.kept (t' := s1.toks) fun b o e => Heap.get?_push_of_some _ e
                        refine pi_one (tk := s1.toks) I2 _ (turn_rangeC _ a (-1) (a - b).toNat) ?_ (Pr.ret k1 S1 _ j_down)
                        have q1 : a + ((0 : Nat) : Int) * (-1) = a := by simp
                        have q2 : (((a - b).toNat : Nat) : Int) - ((0 : Nat) : Int) = Builtin.Range.rangeSize a b (-1) := by rw [c3]; simp
                        show IsRangeIter _ _ (a + ((0 : Nat) : Int) * (-1)) ((((a - b).toNat : Nat) : Int) - ((0 : Nat) : Int)) (-1)
                        rw [q1, q2]
                        exact Heap.get?_push_size _ rfl
                      · exact k1.elim
      · exact k1.elim
    · exact k1.elim

/-! ### enumerate, zip, items -/
theorem enumL_get : ∀ (ds : List D) (k : Int) (i : Nat) (d : D), (enumL k ds)[i]? = some d → ∃ x, ds[i]? = some x ∧ d = .tup [.int (k + i), x]
  | [], _, _, _, h => by cases h
  | x :: r, k, 0, d, h => by cases h; exact ⟨x, rfl, by simp⟩
  | x :: r, k, i + 1, d, h => by
    obtain ⟨y, h1, h2⟩ := enumL_get r (k + 1) i d h
    refine ⟨y, h1, ?_⟩
    rw [h2]
    have : k + 1 + (i : Int) = k + ((i + 1 : Nat) : Int) := by omega
    rw [this]
theorem enumL_len : ∀ (ds : List D) (k : Int), (enumL k ds).length = ds.length
  | [], _ => rfl
  | x :: r, k => by show (enumL (k + 1) r).length + 1 = _; rw [enumL_len r]; rfl
theorem zip2_get : ∀ (xs ys : List D) (i : Nat) (d : D), (zip2 xs ys)[i]? = some d → ∃ x y, xs[i]? = some x ∧ ys[i]? = some y ∧ d = .tup [x, y]
  | [], _, _, _, h => by simp [zip2] at h
  | _ :: _, [], _, _, h => by simp [zip2] at h
  | x :: xs, y :: ys, 0, d, h => by cases h; exact ⟨x, y, rfl, rfl, rfl⟩
  | x :: xs, y :: ys, i + 1, d, h => zip2_get xs ys i d h
theorem zip2_len : ∀ (xs ys : List D), (zip2 xs ys).length = min xs.length ys.length
  | [], _ => by simp [zip2]
  | _ :: _, [] => by simp [zip2]
  | x :: xs, y :: ys => by show (zip2 xs ys).length + 1 = _; rw [zip2_len xs ys, List.length_cons, List.length_cons]; omega
theorem zip3_get : ∀ (xs ys zs : List D) (i : Nat) (d : D), (zip3 xs ys zs)[i]? = some d → ∃ x y z, xs[i]? = some x ∧ ys[i]? = some y ∧ zs[i]? = some z ∧ d = .tup [x, y, z]
  | [], _, _, _, _, h => by simp [zip3] at h
  | _ :: _, [], _, _, _, h => by simp [zip3] at h
  | _ :: _, _ :: _, [], _, _, h => by simp [zip3] at h
  | x :: xs, y :: ys, z :: zs, 0, d, h => by cases h; exact ⟨x, y, z, rfl, rfl, rfl, rfl⟩
  | x :: xs, y :: ys, z :: zs, i + 1, d, h => zip3_get xs ys zs i d h
theorem zip3_len : ∀ (xs ys zs : List D), (zip3 xs ys zs).length = min (min xs.length ys.length) zs.length
  | [], _, _ => by simp [zip3]
  | _ :: _, [], _ => by simp [zip3]
  | _ :: _, _ :: _, [] => by simp [zip3]
  | x :: xs, y :: ys, z :: zs => by show (zip3 xs ys zs).length + 1 = _; rw [zip3_len xs ys zs, List.length_cons, List.length_cons, List.length_cons]; omega
theorem j_en {k : SK} (hq : k.Sq G.K F a vs) (r : RepL G F vs ds) : JOk G (JEn G.K k a) F (enumL 0 ds) := by
  intro i F' H B e σ s S
  have hH : k.Sq G.K H a vs := SK.up (s.trans S.sub) hq
  refine ⟨fun hi => ⟨vs, hH, by rw [r.length, ← hi, enumL_len]⟩, fun d hd => ?_⟩
  obtain ⟨y, hy, rfl⟩ := enumL_get ds 0 i d hd
  obtain ⟨x, hx, rx⟩ := r.get hy
  refine ⟨⟨vs, x, hH, hx⟩, fun w H' hw => ?_⟩
  obtain ⟨T, x', rfl, hT, rfl, hy'⟩ := hw
  have := hy' vs hH
  rw [hx] at this
  cases this
  obtain ⟨S2, s2⟩ := S.fresh (o := .tup [.int (i : Nat), x]) hT
  rw [Int.zero_add]
  exact ⟨_, s2, S2, .tup (SqT.of upd_same) (.cons (.int _) (.cons (rx.mono (s.trans s2)) .nil))⟩
theorem j_z2 {k1 k2 : SK} {b : Addr} {ws : List V} {es : List D} (q1 : k1.Sq G.K F a vs) (r1 : RepL G F vs ds) (q2 : k2.Sq G.K F b ws) (r2 : RepL G F ws es) : JOk G (JZ2 G.K k1 k2 a b) F (zip2 ds es) := by
  intro i F' H B e σ s S
  have h1 : k1.Sq G.K H a vs := SK.up (s.trans S.sub) q1
  have h2 : k2.Sq G.K H b ws := SK.up (s.trans S.sub) q2
  refine ⟨fun hi => ⟨vs, ws, h1, h2, by rw [r1.length, r2.length, ← hi, zip2_len]⟩, fun d hd => ?_⟩
  obtain ⟨y1, y2, g1, g2, rfl⟩ := zip2_get ds es i d hd
  obtain ⟨x1, hx1, rx1⟩ := r1.get g1
  obtain ⟨x2, hx2, rx2⟩ := r2.get g2
  refine ⟨⟨vs, ws, x1, x2, h1, h2, hx1, hx2⟩, fun w H' hw => ?_⟩
  obtain ⟨T, z1, z2, rfl, hT, rfl, p1, p2⟩ := hw
  have := p1 vs h1
  rw [hx1] at this
  cases this
  have := p2 ws h2
  rw [hx2] at this
  cases this
  obtain ⟨S2, s2⟩ := S.fresh (o := .tup [x1, x2]) hT
  exact ⟨_, s2, S2, .tup (SqT.of upd_same) (.cons (rx1.mono (s.trans s2)) (.cons (rx2.mono (s.trans s2)) .nil))⟩
theorem j_z3 {k1 k2 k3 : SK} {b c : Addr} {ws us : List V} {es fs : List D} (q1 : k1.Sq G.K F a vs) (r1 : RepL G F vs ds) (q2 : k2.Sq G.K F b ws) (r2 : RepL G F ws es) (q3 : k3.Sq G.K F c us) (r3 : RepL G F us fs) : JOk G (JZ3 G.K k1 k2 k3 a b c) F (zip3 ds es fs) := by
  intro i F' H B e σ s S
  have h1 : k1.Sq G.K H a vs := SK.up (s.trans S.sub) q1
  have h2 : k2.Sq G.K H b ws := SK.up (s.trans S.sub) q2
  have h3 : k3.Sq G.K H c us := SK.up (s.trans S.sub) q3
  refine ⟨fun hi => ⟨vs, ws, us, h1, h2, h3, by rw [r1.length, r2.length, r3.length, ← hi, zip3_len]⟩, fun d hd => ?_⟩
  obtain ⟨y1, y2, y3, g1, g2, g3, rfl⟩ := zip3_get ds es fs i d hd
  obtain ⟨x1, hx1, rx1⟩ := r1.get g1
  obtain ⟨x2, hx2, rx2⟩ := r2.get g2
  obtain ⟨x3, hx3, rx3⟩ := r3.get g3
  refine ⟨⟨vs, ws, us, x1, x2, x3, h1, h2, h3, hx1, hx2, hx3⟩, fun w H' hw => ?_⟩
  obtain ⟨T, z1, z2, z3, rfl, hT, rfl, p1, p2, p3⟩ := hw
  have := p1 vs h1
  rw [hx1] at this
  cases this
  have := p2 ws h2
  rw [hx2] at this
  cases this
  have := p3 us h3
  rw [hx3] at this
  cases this
  obtain ⟨S2, s2⟩ := S.fresh (o := .tup [x1, x2, x3]) hT
  exact ⟨_, s2, S2, .tup (SqT.of upd_same) (.cons (rx1.mono (s.trans s2)) (.cons (rx2.mono (s.trans s2)) (.cons (rx3.mono (s.trans s2)) .nil)))⟩
theorem getK {k : Key} {v : V} {y1 y2 : D} : ∀ {kvs : List (Key × V)} {ks xs : List D} {i : Nat}, RepK G F kvs ks xs → kvs[i]? = some (k, v) → ks[i]? = some y1 → xs[i]? = some y2 → y1 = keyD k ∧ Rep G F v y2
  | _, _, _, _, .nil, hk, _, _ => by cases hk
  | _, _, _, 0, .cons hr _, hk, g1, g2 => by cases hk; cases g1; cases g2; exact ⟨rfl, hr⟩
  | _, _, _, i + 1, .cons _ r, hk, g1, g2 => getK (i := i) r hk g1 g2
theorem j_items {ob : Obj} {kvs : List (Key × V)} {ks xs : List D} (hF : F a = some (.frz ob (.dK kvs))) (r : RepK G F kvs ks xs) : JOk G (Iti a ob kvs) F (zip2 ks xs) := by
  intro i F' H B e σ s S
  have hH : H a = some (.frz ob (.dK kvs)) := S.sub _ _ (s _ _ hF)
  have hl := lenK r
  refine ⟨fun hi => ⟨hH, by rw [zip2_len] at hi; omega⟩, fun d hd => ?_⟩
  obtain ⟨y1, y2, g1, g2, rfl⟩ := zip2_get ks xs i d hd
  have hi := (List.getElem?_eq_some_iff.mp g1).1
  refine ⟨⟨hH, by omega⟩, fun w H' hw => ?_⟩
  obtain ⟨T, kk, v, hk, rfl, hT, rfl⟩ := hw
  obtain ⟨rk, rv⟩ := getK r hk g1 g2
  subst rk
  obtain ⟨S2, s2⟩ := S.fresh (o := .tup [kV kk, v]) hT
  have rkey : Rep G (upd F' T (.tup [kV kk, v])) (kV kk) (keyD kk) := by
    cases kk with
    | inl i => exact .int i
    | inr t => exact .str t
  exact ⟨_, s2, S2, .tup (SqT.of upd_same) (.cons rkey (.cons (rv.mono (s.trans s2)) .nil))⟩
theorem i_enum {es : List Expr} {kk : Nat} {x : Expr} {m : M AV} {q tp : Pos} (C : CO G T sc k W X) (hg : glB sc "enumerate" = true) (hs : noStar x = true) (h : PE X x (tE G B W m)) : PI X (.Tuple es kk tp) (.Call (.Name "enumerate" q) [x] [] pos) (tI G B W (bnd (dataM m) enumD)) := by
  refine pi_weak (pi_en (glB_ok C.run hg) (by rw [C.xc.mg]; exact C.fx.enum) (pa_cons (data_e h) pa_nil (star_ok hs)) (star_ok hs)) fun σ H R q => ?_
  obtain ⟨F, e, S, q⟩ := q
  refine ⟨F, e, S, (Pr.bnd q).imp fun d e1 F1 H1 _ S1 k1 v rv => ?_⟩
  rw [C.xc.K]
  cases d with
  | tup ds =>
    obtain ⟨a, vs, rfl, hq, r⟩ := rep_sq rv
    exact ⟨.t, a, vs, rfl, SK.up S1.sub hq, Pr.ret k1 S1 _ (j_en hq r)⟩
  | lst ds =>
    obtain ⟨a, vs, rfl, hq, r⟩ := rep_lq rv
    exact ⟨.l, a, vs, rfl, SK.up S1.sub hq, Pr.ret k1 S1 _ (j_en hq r)⟩
  | _ => exact k1.elim
theorem i_items {es : List Expr} {kk : Nat} {x : Expr} {m : M AV} {p2 cp tp : Pos} (hl : (p2.endLine == cp.line) = true) (hs : noSuper x = true) (h : PE X x (tE G B W m)) : PI X (.Tuple es kk tp) (.Call (.Attribute x "items" p2) [] [] cp) (tI G B W (bnd (dataM m) itemsD)) := by
  refine pi_weak (pi_items (data_e h) (super_ok hs) hl) fun σ H R q => ?_
  obtain ⟨F, e, S, q⟩ := q
  refine ⟨F, e, S, (Pr.bnd q).imp fun d e1 F1 H1 _ S1 k1 v rv => ?_⟩
  cases d with
  | dct ks xs =>
    cases rv with
    | dct hF rk => exact ⟨_, _, _, rfl, S1.sub _ _ hF, Pr.ret k1 S1 _ (j_items hF rk)⟩
  | _ => exact k1.elim
theorem seqL_k (h : seqL d = some ds) : ∃ k, seqV d = some (k, ds) := by
  cases d with
  | tup xs => cases h; exact ⟨.t, rfl⟩
  | lst xs => cases h; exact ⟨.l, rfl⟩
  | _ => cases h
theorem i_zip {es : List Expr} {kk : Nat} {xs : List Expr} {ms : M (List D)} {q tp : Pos} (C : CO G T sc k W X) (hg : glB sc "zip" = true) (hf : flat xs = true) (h2 : 2 ≤ xs.length) (h3 : xs.length ≤ 3) (ha : PA X xs (tL G B W ms)) : PI X (.Tuple es kk tp) (.Call (.Name "zip" q) xs [] pos) (tI G B W (bnd (bnd ms fun ds => if ds.length = xs.length then ret ds else bad) zipD)) := by
  have hm : X.mg "zip" = none := by rw [C.xc.mg]; exact C.fx.zip
  match xs, hf, h2, h3, ha with
  | [x, y], hf, _, _, ha =>
    obtain ⟨f1, f2⟩ := flat_cons hf
    obtain ⟨f2, _⟩ := flat_cons f2
    refine pi_weak (pi_z2 (glB_ok C.run hg) hm ha (star_ok f1) (star_any (xs := [y]) (by unfold flat; simp [f2]))) fun σ H R q => ?_
    obtain ⟨F, e, S, q⟩ := q
    refine ⟨F, e, S, (Pr.bnd (Pr.bnd q)).imp fun ds e1 F1 H1 _ S1 k1 vs rv => ?_⟩
    by_cases hl : ds.length = [x, y].length
    · rw [if_pos hl] at k1
      have k1 := Pr.ret k1 S1
      match ds, rv, hl, k1 with
      | [d1, d2], .cons r1 (.cons r2 .nil), _, k1 =>
        obtain ⟨zs, hz, k1⟩ := Pr.ofO1 k1
        cases h1 : seqL d1 with
        | none => rw [h1] at hz; cases hz
        | some a1 =>
          rw [h1] at hz
          cases h2 : seqL d2 with
          | none => rw [h2] at hz; cases hz
          | some a2 =>
            rw [h2] at hz
            cases hz
            obtain ⟨k1', g1⟩ := seqL_k h1
            obtain ⟨k2', g2⟩ := seqL_k h2
            obtain ⟨p1, w1, rfl, q1, s1⟩ := rep_seq g1 r1
            obtain ⟨p2, w2, rfl, q2, s2⟩ := rep_seq g2 r2
            rw [C.xc.K]
            exact ⟨k1', k2', p1, p2, w1, w2, rfl, SK.up S1.sub q1, SK.up S1.sub q2, Pr.ret k1 S1 _ (j_z2 q1 s1 q2 s2)⟩
    · rw [if_neg hl] at k1; exact k1.elim
  | [x, y, z], hf, _, _, ha =>
    obtain ⟨f1, f2⟩ := flat_cons hf
    refine pi_weak (pi_z3 (glB_ok C.run hg) hm ha (star_ok f1) (star_any f2)) fun σ H R q => ?_
    obtain ⟨F, e, S, q⟩ := q
    refine ⟨F, e, S, (Pr.bnd (Pr.bnd q)).imp fun ds e1 F1 H1 _ S1 k1 vs rv => ?_⟩
    by_cases hl : ds.length = [x, y, z].length
    · rw [if_pos hl] at k1
      have k1 := Pr.ret k1 S1
      match ds, rv, hl, k1 with
      | [d1, d2, d3], .cons r1 (.cons r2 (.cons r3 .nil)), _, k1 =>
        obtain ⟨zs, hz, k1⟩ := Pr.ofO1 k1
        cases h1 : seqL d1 with
        | none => rw [h1] at hz; cases hz
        | some a1 =>
          rw [h1] at hz
          cases h2 : seqL d2 with
          | none => rw [h2] at hz; cases hz
          | some a2 =>
            rw [h2] at hz
            cases h3 : seqL d3 with
            | none => rw [h3] at hz; cases hz
            | some a3 =>
              rw [h3] at hz
              cases hz
              obtain ⟨k1', g1⟩ := seqL_k h1
              obtain ⟨k2', g2⟩ := seqL_k h2
              obtain ⟨k3', g3⟩ := seqL_k h3
              obtain ⟨p1, w1, rfl, q1, s1⟩ := rep_seq g1 r1
              obtain ⟨p2, w2, rfl, q2, s2⟩ := rep_seq g2 r2
              obtain ⟨p3, w3, rfl, q3, s3⟩ := rep_seq g3 r3
              rw [C.xc.K]
              exact ⟨k1', k2', k3', p1, p2, p3, w1, w2, w3, rfl, SK.up S1.sub q1, SK.up S1.sub q2, SK.up S1.sub q3, Pr.ret k1 S1 _ (j_z3 q1 s1 q2 s2 q3 s3)⟩
    · rw [if_neg hl] at k1; exact k1.elim
end
end PX

end
section
set_option Elab.async false
set_option linter.all false
set_option maxRecDepth 100000
set_option maxHeartbeats 2000000
/-! PXo: targets, comprehensions. -/
namespace PX
open PySem PySem.Spec PyProof.Rows L2

section
variable (G : Ct) (B : Bs) (W : WX)
/-- an outcome's wish, the slots changed too -/
def PrS {α : Type} (m : R α) (F : Hp) (K : α → Env → Hp → L2.St → Hp → Prop) : Prop := match m with
  | .ok a e => ∀ F' σ' H', Same F F' → Sat G B F' e σ' H' → K a e F' σ' H'
  | .exc c f d e => ∀ F' σ' H' cls dx, Same F F' → Sat G B F' e σ' H' → ExcOk G F' H' cls dx c f d → W cls dx σ' H'
  | .bad => False
def tG (f : D → M Unit) : TG := fun v σ H Q => ∃ F e d, Sat G B F e σ H ∧ Rep G F v d ∧ PrS G B W (f d e) F (fun _ _ _ σ' H' => Q σ' H')
def tGs (f : List D → M Unit) : TGs := fun vs σ H Q => ∃ F e ds, Sat G B F e σ H ∧ RepL G F vs ds ∧ PrS G B W (f ds e) F (fun _ _ _ σ' H' => Q σ' H')
end
section
variable {G : Ct} {B : Bs} {W : WX} {σ σ' : L2.St} {F F' H H' : Hp} {e e' : Env} {Q : VK} {v : V} {d : D} {a p : Addr} {ds : List D} {vs : List V} {X : Cx} {k : Nat} {T : Tab} {sc : Sc} {pos : Pos} {α β : Type}
theorem PrS.monoF {m : R α} {K : α → Env → Hp → L2.St → Hp → Prop} (h : PrS G B W m F K) (s : Same F F') : PrS G B W m F' K := by
  cases m with
  | ok a e => exact fun F2 σ2 H2 s2 S => h F2 σ2 H2 (s.trans s2) S
  | exc c f d e => exact fun F2 σ2 H2 cls dx s2 S x => h F2 σ2 H2 cls dx (s.trans s2) S x
  | bad => exact h
theorem PrS.imp {m : R α} {K K' : α → Env → Hp → L2.St → Hp → Prop} (h : PrS G B W m F K) (k : ∀ a e F' σ' H', Same F F' → Sat G B F' e σ' H' → K a e F' σ' H' → K' a e F' σ' H') : PrS G B W m F K' := by
  cases m with
  | ok a e => exact fun F2 σ2 H2 s2 S => k a e F2 σ2 H2 s2 S (h F2 σ2 H2 s2 S)
  | exc c f d e => exact h
  | bad => exact h
theorem PrS.bnd {m : M α} {f : α → M β} {K : β → Env → Hp → L2.St → Hp → Prop} (h : PrS G B W (PX.bnd m f e) F K) : PrS G B W (m e) F (fun a e' F' _ _ => PrS G B W (f a e') F' K) := by
  unfold PX.bnd at h
  cases hm : m e with
  | ok a e' => rw [hm] at h; exact fun F2 σ2 H2 s2 S => PrS.monoF h s2
  | exc c n d e' => rw [hm] at h; exact h
  | bad => rw [hm] at h; exact h
/-- at one state of the slots -/
theorem PrS.pr {m : R α} {K : α → Env → Hp → L2.St → Hp → Prop} (h : PrS G B W m F K) (σ : L2.St) : Pr G B W σ m F (fun a e F H => K a e F σ H) := by
  cases m with
  | ok a e => exact fun F2 H2 s2 S => h F2 σ H2 s2 S
  | exc c f d e => exact fun F2 H2 cls dx s2 S x => h F2 σ H2 cls dx s2 S x
  | bad => exact h
theorem PrS.ret {a : α} {K : α → Env → Hp → L2.St → Hp → Prop} (h : PrS G B W (PX.ret a e) F K) (S : Sat G B F e σ H) : K a e F σ H := h F σ H (Same.refl F) S
theorem PrS.eq {m m' : R α} {K : α → Env → Hp → L2.St → Hp → Prop} (h : PrS G B W m F K) (e : m = m') : PrS G B W m' F K := e ▸ h

/-! ### targets -/
theorem g_name {i : Nat} {x : Str} (C : CO G T sc k W X) (h : slotB sc i x = true) (hl : locB sc x = true) : PG X (.Name x pos) (tG G B W (fun d => putSlot i (.d d))) := by
  obtain ⟨h1, _⟩ := slotB_ok C.N h
  obtain ⟨l1, l2⟩ := C.wr x hl
  refine pg_weak (pg_name (by rw [C.N]; exact C.nd) h1 l1 l2) fun v σ H Q q => ?_
  obtain ⟨F, e, d, S, rv, q⟩ := q
  unfold putSlot at q
  show Q (σ.set i (some v)) H
  cases es : e[i]? with
  | none => simp only [es] at q; exact q.elim
  | some s =>
    simp only [es] at q
    cases s with
    | bor c => exact q.elim
    | non => exact q F _ H (Same.refl F) (S.putD es nofun rv)
    | val d' => exact q F _ H (Same.refl F) (S.putD es nofun rv)
    | own c => exact q F _ H (Same.refl F) (S.putD es nofun rv)
theorem gs_nil : PGs X [] (tGs G B W (fun ds => match ds with | [] => ret () | _ => bad)) := by
  refine ⟨fun pins s σ H vs us Q I r q => ?_⟩
  obtain ⟨F, e, ds, S, rv, q⟩ := q
  cases rv with
  | nil => exact pgs_nil.run pins s σ H [] us Q I r ⟨rfl, q F σ H (Same.refl F) S⟩
  | cons _ _ => exact q.elim
theorem as_ok {x : Expr} {xs : List Expr} {env : PySem.Env} (h : noStar x = true) : assignEach (x :: xs) env = (false, assign x env) :: assignEach xs env := by
  cases x <;> first | rfl | cases h
theorem gs_cons {x : Expr} {xs : List Expr} {f : D → M Unit} {fs : List D → M Unit} (hs : noStar x = true) (h : PG X x (tG G B W f)) (hr : PGs X xs (tGs G B W fs)) : PGs X (x :: xs) (tGs G B W (fun ds => match ds with | d :: r => bnd (f d) fun _ => fs r | [] => bad)) := by
  refine ⟨fun pins s σ H vs us Q I r q => ?_⟩
  obtain ⟨F, e, ds, S, rv, q⟩ := q
  cases rv with
  | nil => exact q.elim
  | cons hd rv =>
    refine (pgs_cons h hr (by rw [as_ok hs]; rfl)).run pins s σ H _ us Q I r ⟨_, _, rfl, F, e, _, S, hd, (PrS.bnd q).imp fun _ e1 F1 σ1 H1 s1 S1 k1 => ?_⟩
    exact ⟨F1, e1, _, S1, rv.mono s1, k1⟩
theorem as_len {xs : List Expr} {env : PySem.Env} : (assignEach xs env).length = xs.length := by
  induction xs with
  | nil => rfl
  | cons x xs ih =>
    have : (assignEach (x :: xs) env).length = (assignEach xs env).length + 1 := by cases x <;> rfl
    rw [this, ih]; rfl
theorem as_flat {xs : List Expr} {env : PySem.Env} (h : flat xs = true) : (assignEach xs env).findIdx? (·.1) = none := by
  induction xs with
  | nil => rfl
  | cons x xs ih =>
    obtain ⟨h1, h2⟩ := flat_cons h
    rw [as_ok h1, List.findIdx?_cons]
    simp [ih h2]
theorem g_tup {xs : List Expr} {fs : List D → M Unit} {j n : Nat} (C : CO G T sc k W X) (hf : flat xs = true) (hn : n = xs.length) (h : PGs X xs (tGs G B W fs)) : PG X (.Tuple xs j pos) (tG G B W (fun d => match d with | .tup ds => if n = ds.length then fs ds else bad | _ => bad)) := by
  refine pg_weak (pg_tup C.xc.calm h (as_len.trans hn.symm) (as_flat hf)) fun v σ H Q q => ?_
  obtain ⟨F, e, d, S, rv, q⟩ := q
  cases d with
  | tup ds =>
    obtain ⟨a, vs, rfl, hq, r⟩ := rep_sq rv
    have q : PrS G B W ((if n = ds.length then fs ds else bad) e) F _ := q
    by_cases hl : n = ds.length
    · rw [if_pos hl] at q
      have hq' : SqT X.K H a vs := by rw [C.xc.K]; exact SK.up (k := .t) S.sub hq
      exact ⟨a, vs, rfl, hq', by rw [r.length, hl], F, e, ds, S, r, q⟩
    · rw [if_neg hl] at q; exact q.elim
  | _ => exact q.elim
def rSet2 : TSet := fun o i v H Q => rSetL o i v H Q ∨ ∃ a H', o = .ref a ∧ DPut H a i v H' ∧ Q H'
theorem set_two (C : XC G k X) : PSet X rSet2 := by
  intro pins s σ H o i v ov iv u Q I ro ri rv h
  rcases h with h | ⟨a, H', rfl, h, q⟩
  · exact set_list pins s σ H o i v ov iv u Q I ro ri rv h
  · cases ro
    have hu : X.A.units + 1 < cLine := by have := C.room.units; omega
    exact d_setItem hu I h ri rv fun s4 I4 => ⟨H', I4, q⟩
theorem g_sub {i : Nat} {x : Str} {y : Expr} {m : M AV} {p1 : Pos} (C : CO G T sc k W X) (h : slotB sc i x = true) (hv : visB sc x = true) (hy : noSlice y = true) (ha : PE X y (tE G B W m)) :
    PG X (.Subscript (.Name x p1) y pos) (tG G B W (fun d => bnd (rdVar i) fun _ => bnd (unM m PX.ret) fun ix => modSlot i (subC ix d))) := by
  obtain ⟨h1, h2⟩ := slotB_ok C.N h
  obtain ⟨d1, d2, _⟩ := nameB_ok h2
  have hassign : ∀ v, assign (.Subscript (.Name x p1) y pos) X.env v = (do
      let ov ← holding [v] (eval (.Name x p1) X.env)
      let iv ← holding [v, ov] (eval y X.env)
      standAt pos
      holding [v, ov, iv] (setItem ov iv v)
      release [v, ov, iv] []) := by
    intro v
    cases y <;> first | rfl | cases hy
  refine pg_weak (pg_sub (pe_var h1 (visB_ok C.run hv) d1 d2) (oper_e ha) (set_two C.xc) hassign) fun v σ H Q q => ?_
  obtain ⟨F, e, d, S, rv, q⟩ := q
  have q1 := PrS.bnd q
  unfold rdVar at q1
  have key : ∃ a, σ[i]? = some (some a) ∧ PrS G B W (bnd (unM m PX.ret) (fun ix => modSlot i (subC ix d)) e) F (fun _ _ _ σ' H' => Q σ' H') := by
    cases es : e[i]? with
    | none => simp only [es] at q1; exact q1.elim
    | some s =>
      simp only [es] at q1
      have so := S.slot i s es
      cases s with
      | non => exact q1.elim
      | val d => obtain ⟨v, e1, _⟩ := so; exact ⟨_, e1, q1 F σ H (Same.refl F) S⟩
      | own c => obtain ⟨a, e1, _⟩ := so; exact ⟨_, e1, q1 F σ H (Same.refl F) S⟩
      | bor c => obtain ⟨a, e1, _⟩ := so; exact ⟨_, e1, q1 F σ H (Same.refl F) S⟩
  obtain ⟨o, e1, q2⟩ := key
  refine ⟨o, e1, F, e, S, (opr_nn (Pr.bnd (Pr.bnd (q2.pr σ)))).imp fun av e2 F2 H2 s2 S2 ⟨na, k1⟩ ix rix => ?_⟩
  obtain ⟨dx, vx, k1⟩ := Pr.view k1
  have hix := S2.view na.ne rix vx
  have k2 := Pr.ret k1 S2
  have k3 : Pr G B W σ (bnd (modSlot i (subC dx d)) PX.ret e2) F2 (fun _ _ _ H' => Q σ H') := by
    unfold PX.bnd
    cases hm : modSlot i (subC dx d) e2 with
    | ok a e' => rw [hm] at k2; exact k2
    | exc => rw [hm] at k2; exact k2
    | bad => rw [hm] at k2; exact k2
  obtain ⟨a, c, c', e3, e4, ck, hf, hS, k4⟩ := mod_w S2 k3
  rw [e1] at e4
  cases e4
  have rv2 := rv.mono s2
  unfold subC at hf
  split at hf
  · rename_i ds'
    split at hf
    · rename_i ii
      cases hix.int
      cases hj : PX.ixN ds'.length ii with
      | none => rw [hj] at hf; cases hf
      | some jj =>
        rw [hj] at hf
        cases hf
        obtain ⟨ys, hA, rd⟩ := ck
        have S3 := hS (.lst (ys.set jj v)) ⟨_, upd_same, RepL.set rv2 rd⟩
        exact .inl ⟨a, ys, ii, jj, rfl, rfl, hA, by rw [rd.length]; exact hj, Pr.ret k4 S3⟩
    · cases hf
  · rename_i ks xs
    split at hf
    · rename_i hc
      simp only [Bool.and_eq_true, decide_eq_true_eq] at hc
      cases hf
      obtain ⟨kvs, hA, rk⟩ := ck
      obtain ⟨q, rfl, rfl⟩ := key_of hc.1 hix
      have S3 := hS (.dK (L2.putK kvs q v)) ⟨_, upd_same, put_k rv2 rk⟩
      exact .inr ⟨a, _, rfl, DPut.k hA (by rw [len_k rk]; exact Nat.lt_of_lt_of_le hc.2 szLe), Pr.ret k4 S3⟩
    · cases hf
  · cases hf

/-! ### targets of a block's own names -/
theorem wipe_get (σ : L2.St) : ∀ (own : List Nat) (j : Nat), (wipe σ own)[j]? = if j ∈ own ∧ j < σ.length then some none else σ[j]?
  | [], j => by simp [wipe]
  | i :: own, j => by
    unfold wipe
    by_cases q : i = j
    · subst q
      by_cases hl : i < σ.length
      · rw [List.getElem?_set_self (by rw [wipe_length]; exact hl)]
        simp [hl]
      · rw [List.getElem?_eq_none (by rw [List.length_set, wipe_length]; omega)]
        simp [hl]
    · rw [List.getElem?_set_ne q, wipe_get σ own j]
      simp [Ne.symm q]
theorem wipe_set {own : List Nat} {i : Nat} {x : Option V} (h : i ∈ own) : wipe (σ.set i x) own = wipe σ own := by
  apply List.ext_getElem?
  intro j
  rw [wipe_get, wipe_get, List.length_set]
  by_cases q : i = j
  · subst q
    by_cases hl : i < σ.length
    · simp [h, hl]
    · simp [hl]
  · rw [List.getElem?_set_ne q]
/-- a target that leaves all but the block's own names alone -/
def tGo (G : Ct) (B : Bs) (W : WX) (own : List Nat) (f : D → M Unit) : TG := fun v σ H Q => ∃ F e d, Sat G B F e σ H ∧ Rep G F v d ∧ PrS G B W (f d e) F (fun _ _ _ σ' H' => wipe σ' own = wipe σ own → Q σ' H')
def tGso (G : Ct) (B : Bs) (W : WX) (own : List Nat) (f : List D → M Unit) : TGs := fun vs σ H Q => ∃ F e ds, Sat G B F e σ H ∧ RepL G F vs ds ∧ PrS G B W (f ds e) F (fun _ _ _ σ' H' => wipe σ' own = wipe σ own → Q σ' H')
theorem go_name {i : Nat} {x : Str} {own : List Nat} (C : CO G T sc k W X) (h : slotB sc i x = true) (hl : locB sc x = true) (ho : i ∈ own) : PG X (.Name x pos) (tGo G B W own (fun d => putSlot i (.d d))) := by
  obtain ⟨h1, _⟩ := slotB_ok C.N h
  obtain ⟨l1, l2⟩ := C.wr x hl
  refine pg_weak (pg_name (by rw [C.N]; exact C.nd) h1 l1 l2) fun v σ H Q q => ?_
  obtain ⟨F, e, d, S, rv, q⟩ := q
  unfold putSlot at q
  show Q (σ.set i (some v)) H
  cases es : e[i]? with
  | none => simp only [es] at q; exact q.elim
  | some s =>
    simp only [es] at q
    cases s with
    | bor c => exact q.elim
    | non => exact q F _ H (Same.refl F) (S.putD es nofun rv) (wipe_set ho)
    | val d' => exact q F _ H (Same.refl F) (S.putD es nofun rv) (wipe_set ho)
    | own c => exact q F _ H (Same.refl F) (S.putD es nofun rv) (wipe_set ho)
theorem gso_nil {own : List Nat} : PGs X [] (tGso G B W own (fun ds => match ds with | [] => ret () | _ => bad)) := by
  refine ⟨fun pins s σ H vs us Q I r q => ?_⟩
  obtain ⟨F, e, ds, S, rv, q⟩ := q
  cases rv with
  | nil => exact pgs_nil.run pins s σ H [] us Q I r ⟨rfl, q F σ H (Same.refl F) S rfl⟩
  | cons _ _ => exact q.elim
theorem gso_cons {x : Expr} {xs : List Expr} {own : List Nat} {f : D → M Unit} {fs : List D → M Unit} (hs : noStar x = true) (h : PG X x (tGo G B W own f)) (hr : PGs X xs (tGso G B W own fs)) : PGs X (x :: xs) (tGso G B W own (fun ds => match ds with | d :: r => bnd (f d) fun _ => fs r | [] => bad)) := by
  refine ⟨fun pins s σ H vs us Q I r q => ?_⟩
  obtain ⟨F, e, ds, S, rv, q⟩ := q
  cases rv with
  | nil => exact q.elim
  | cons hd rv =>
    refine (pgs_cons h hr (by rw [as_ok hs]; rfl)).run pins s σ H _ us Q I r ⟨_, _, rfl, F, e, _, S, hd, (PrS.bnd q).imp fun _ e1 F1 σ1 H1 s1 S1 k1 w1 => ?_⟩
    exact ⟨F1, e1, _, S1, rv.mono s1, k1.imp fun _ _ _ σ2 H2 _ _ k2 w2 => k2 (w2.trans w1)⟩
theorem go_tup {xs : List Expr} {own : List Nat} {fs : List D → M Unit} {j n : Nat} (C : CO G T sc k W X) (hf : flat xs = true) (hn : n = xs.length) (h : PGs X xs (tGso G B W own fs)) : PG X (.Tuple xs j pos) (tGo G B W own (fun d => match d with | .tup ds => if n = ds.length then fs ds else bad | _ => bad)) := by
  refine pg_weak (pg_tup C.xc.calm h (as_len.trans hn.symm) (as_flat hf)) fun v σ H Q q => ?_
  obtain ⟨F, e, d, S, rv, q⟩ := q
  cases d with
  | tup ds =>
    obtain ⟨a, vs, rfl, hq, r⟩ := rep_sq rv
    have q : PrS G B W ((if n = ds.length then fs ds else bad) e) F _ := q
    by_cases hl : n = ds.length
    · rw [if_pos hl] at q
      have hq' : SqT X.K H a vs := by rw [C.xc.K]; exact SK.up (k := .t) S.sub hq
      exact ⟨a, vs, rfl, hq', by rw [r.length, hl], F, e, ds, S, r, q⟩
    · rw [if_neg hl] at q; exact q.elim
  | _ => exact q.elim

/-! ### the block of a comprehension -/
theorem wipeE_get (e : Env) : ∀ (own : List Nat) (j : Nat), (wipeE own e)[j]? = if j ∈ own ∧ j < e.length then some .non else e[j]?
  | [], j => by simp [wipeE]
  | i :: own, j => by
    show ((wipeE own e).set i .non)[j]? = _
    have hlen : (wipeE own e).length = e.length := by
      clear j
      induction own with
      | nil => rfl
      | cons a r ih => show ((wipeE r e).set a .non).length = _; rw [List.length_set]; exact ih
    by_cases q : i = j
    · subst q
      by_cases hl : i < e.length
      · rw [List.getElem?_set_self (by rw [hlen]; exact hl)]
        simp [hl]
      · rw [List.getElem?_eq_none (by rw [List.length_set, hlen]; omega)]
        simp [hl]
    · rw [List.getElem?_set_ne q, wipeE_get e own j]
      simp [Ne.symm q]
theorem wipeE_len (e : Env) (own : List Nat) : (wipeE own e).length = e.length := by
  induction own with
  | nil => rfl
  | cons a r ih => show ((wipeE r e).set a .non).length = _; rw [List.length_set]; exact ih
theorem back_len (e0 e : Env) (own : List Nat) : (PX.back own e0 e).length = e.length := by
  induction own with
  | nil => rfl
  | cons a r ih => show ((PX.back r e0 e).set a _).length = _; rw [List.length_set]; exact ih
theorem back_get (e0 e : Env) : ∀ (own : List Nat) (j : Nat), (PX.back own e0 e)[j]? = if j ∈ own ∧ j < e.length then some (e0[j]?.getD .non) else e[j]?
  | [], j => by simp [PX.back]
  | i :: own, j => by
    show ((PX.back own e0 e).set i (e0[i]?.getD .non))[j]? = _
    by_cases q : i = j
    · subst q
      by_cases hl : i < e.length
      · rw [List.getElem?_set_self (by rw [back_len]; exact hl)]
        simp [hl]
      · rw [List.getElem?_eq_none (by rw [List.length_set, back_len]; omega)]
        simp [hl]
    · rw [List.getElem?_set_ne q, back_get e0 e own j]
      simp [Ne.symm q]
theorem own_wipe {own : List Nat} {i : Nat} (h : ownAt (wipeE own e) (wipe σ own) i a) : i ∉ own ∧ ownAt e σ i a := by
  have h1 := h.1
  unfold isOwn at h1
  rw [wipeE_get] at h1
  by_cases q : i ∈ own ∧ i < e.length
  · rw [if_pos q] at h1; cases h1
  · rw [if_neg q] at h1
    have hl : i < e.length := by
      cases z : e[i]? with
      | none => rw [z] at h1; cases h1
      | some s => exact (List.getElem?_eq_some_iff.mp z).1
    have hi : i ∉ own := fun z => q ⟨z, hl⟩
    refine ⟨hi, h1, ?_⟩
    have h2 := h.2
    rw [wipe_get, if_neg (fun z => hi z.1)] at h2
    exact h2
theorem Sat.wipe (S : Sat G B F e σ H) (own : List Nat) : Sat G B F (wipeE own e) (L2.wipe σ own) H := by
  refine ⟨S.sub, S.f0, S.frm, S.liv, S.new, fun i s es => ?_, fun i j b hi hj => S.apart i j b (own_wipe hi).2 (own_wipe hj).2, by rw [wipeE_len, wipe_length]; exact S.len⟩
  rw [wipeE_get] at es
  by_cases q : i ∈ own ∧ i < e.length
  · rw [if_pos q] at es; cases es; trivial
  · rw [if_neg q] at es
    have hl := (List.getElem?_eq_some_iff.mp es).1
    rw [wipe_get, if_neg (fun z => q ⟨z.1, hl⟩)]
    exact S.slot i s es
/-- what the block's own names held ahead of it -/
def Plain0 (G : Ct) (F : Hp) (e0 : Env) (σ : L2.St) (own : List Nat) : Prop := ∀ i ∈ own, ∀ s, e0[i]? = some s → s = .non ∨ ∃ d v, s = .val d ∧ σ[i]? = some (some v) ∧ Rep G F v d
theorem Sat.back {e0 ec : Env} {own : List Nat} (S : Sat G B F (wipeE own ec) (L2.wipe σ own) H) (P0 : Plain0 G F e0 σ own) : Sat G B F (PX.back own e0 ec) σ H := by
  have key : ∀ {i b}, ownAt (PX.back own e0 ec) σ i b → ownAt (wipeE own ec) (L2.wipe σ own) i b := fun {i b} h => by
    have h1 := h.1
    unfold isOwn at h1
    rw [back_get] at h1
    by_cases q : i ∈ own ∧ i < ec.length
    · rw [if_pos q] at h1
      exfalso
      cases z : e0[i]? with
      | none => rw [z] at h1; cases h1
      | some s =>
        rw [z] at h1
        rcases P0 i q.1 s z with rfl | ⟨d, v, rfl, _⟩ <;> cases h1
    · rw [if_neg q] at h1
      have hl : i < ec.length := by
        cases z : ec[i]? with
        | none => rw [z] at h1; cases h1
        | some s => exact (List.getElem?_eq_some_iff.mp z).1
      have hi : i ∉ own := fun z => q ⟨z, hl⟩
      refine ⟨?_, by rw [wipe_get, if_neg (fun z => hi z.1)]; exact h.2⟩
      unfold isOwn
      rw [wipeE_get, if_neg q]
      exact h1
  refine ⟨S.sub, S.f0, S.frm, S.liv, S.new, fun i s es => ?_, fun i j b hi hj => S.apart i j b (key hi) (key hj), ?_⟩
  · rw [back_get] at es
    by_cases q : i ∈ own ∧ i < ec.length
    · rw [if_pos q] at es
      cases z : e0[i]? with
      | none => rw [z] at es; cases es; trivial
      | some s' =>
        rw [z] at es
        cases es
        rcases P0 i q.1 s' z with rfl | ⟨d, v, rfl, e1, rv⟩
        · trivial
        · exact ⟨v, e1, rv⟩
    · rw [if_neg q] at es
      have hl := (List.getElem?_eq_some_iff.mp es).1
      have hi : i ∉ own := fun z => q ⟨z, hl⟩
      have := S.slot i s (by rw [wipeE_get, if_neg q]; exact es)
      rw [wipe_get, if_neg (fun z => hi z.1)] at this
      exact this
  · have := S.len
    rw [wipeE_len, wipe_length] at this
    rw [back_len]; exact this

/-- a base that keeps one more cell -/
def Bs.more (B : Bs) (D : Addr) (o : HO) : Bs where
  F0 := B.F0
  H0 := upd B.H0 D o
  adr := B.adr
  live := fun i a h => by
    obtain ⟨q, hq⟩ := B.live i a h
    by_cases z : a = D
    · exact ⟨o, by rw [z, upd_same]⟩
    · exact ⟨q, by rw [upd_ne z]; exact hq⟩
theorem Sat.more {D : Addr} {o : HO} (S : Sat G B F e σ H) (hD : H D = some o) (hF : F D = none) (h0 : B.H0 D = none) (no : ∀ i, ¬ ownAt e σ i D) : Sat G (B.more D o) F e σ H := by
  refine ⟨S.sub, S.f0, fun b x h1 h2 => ?_, fun b x h1 => ?_, fun b x h1 => ?_, fun i s es => ?_, S.apart, S.len⟩
  · by_cases z : b = D
    · subst z
      have h1 : upd B.H0 b o b = some x := h1
      rw [upd_same] at h1
      cases h1; exact hD
    · have h1 : upd B.H0 D o b = some x := h1
      rw [upd_ne z] at h1
      exact S.frm b x h1 h2
  · by_cases z : b = D
    · subst z; exact ⟨o, hD⟩
    · have h1 : upd B.H0 D o b = some x := h1
      rw [upd_ne z] at h1
      exact S.liv b x h1
  · have z : b ≠ D := fun z => by rw [z, hF] at h1; cases h1
    rcases S.new b x h1 with q | q
    · exact .inl q
    · exact .inr (show upd B.H0 D o b = none by rw [upd_ne z]; exact q)
  · have q := S.slot i s es
    cases s with
    | non => trivial
    | val d => exact q
    | own c =>
      obtain ⟨a, e1, n, b0, r⟩ := q
      have z : a ≠ D := fun z => no i ⟨by unfold isOwn; rw [es], by rw [← z]; exact e1⟩
      exact ⟨a, e1, n, show upd B.H0 D o a = none by rw [upd_ne z]; exact b0, r⟩
    | bor c => exact q
/-- back, the cell changed -/
theorem Sat.less {D : Addr} {o o' : HO} (S : Sat G (B.more D o) F e σ H) (h0 : B.H0 D = none) (hf0 : B.F0 D = none) : H D = some o ∧ F D = none ∧ (∀ i, ¬ ownAt e σ i D) ∧ Sat G B F e σ (upd H D o') := by
  have hH0 : (B.more D o).H0 D = some o := upd_same
  have nadr : ∀ i, B.adr i ≠ some D := fun i z => by
    obtain ⟨q, hq⟩ := B.live i D z
    rw [h0] at hq; cases hq
  have hD : H D = some o := S.frm D o hH0 nadr
  have hF : F D = none := by
    cases q : F D with
    | none => rfl
    | some x =>
      rcases S.new D x q with z | z
      · have z : B.F0 D = some x := z
        rw [hf0] at z; cases z
      · rw [hH0] at z; cases z
  have no : ∀ i, ¬ ownAt e σ i D := fun i hi => by
    obtain ⟨a', c, ow', _, _, _, kk⟩ := S.ownSlot hi.1
    have e1 : D = a' := by have := hi.2.symm.trans ow'.2; simpa using this
    subst e1
    rcases kk with kk | kk
    · obtain ⟨a2, e2, _, b0, _⟩ := S.slot i _ kk
      have : D = a2 := by have := hi.2.symm.trans e2; simpa using this
      subst this
      rw [hH0] at b0; cases b0
    · obtain ⟨a2, e2, _, b0, _⟩ := S.slot i _ kk
      have : D = a2 := by have := hi.2.symm.trans e2; simpa using this
      subst this
      exact nadr i b0
  refine ⟨hD, hF, no, ?_⟩
  refine ⟨fun b x hb => ?_, S.f0, fun b x h1 h2 => ?_, fun b x h1 => ?_, fun b x h1 => ?_, fun i s es => ?_, S.apart, S.len⟩
  · have z : b ≠ D := fun z => by rw [z, hF] at hb; cases hb
    rw [upd_ne z]; exact S.sub b x hb
  · have z : b ≠ D := fun z => by rw [z, h0] at h1; cases h1
    rw [upd_ne z]
    exact S.frm b x (show upd B.H0 D o b = some x by rw [upd_ne z]; exact h1) h2
  · have z : b ≠ D := fun z => by rw [z, h0] at h1; cases h1
    obtain ⟨q, hq⟩ := S.liv b x (show upd B.H0 D o b = some x by rw [upd_ne z]; exact h1)
    exact ⟨q, by rw [upd_ne z]; exact hq⟩
  · rcases S.new b x h1 with q | q
    · exact .inl q
    · by_cases z : b = D
      · subst z; rw [hF] at h1; cases h1
      · exact .inr (by have q : upd B.H0 D o b = none := q; rwa [upd_ne z] at q)
  · have q := S.slot i s es
    cases s with
    | non => trivial
    | val d => exact q
    | own c =>
      obtain ⟨a, e1, n, b0, r⟩ := q
      have z : a ≠ D := fun z => no i ⟨by unfold isOwn; rw [es], by rw [← z]; exact e1⟩
      exact ⟨a, e1, n, by have b0 : upd B.H0 D o a = none := b0; rwa [upd_ne z] at b0, r.at (upd_ne z)⟩
    | bor c =>
      obtain ⟨a, e1, n, b0, r⟩ := q
      have z : a ≠ D := fun z => nadr i (by rw [← z]; exact b0)
      exact ⟨a, e1, n, b0, r.at (upd_ne z)⟩
end
end PX

end
section
set_option Elab.async false
set_option linter.all false
set_option maxRecDepth 100000
set_option maxHeartbeats 2000000
/-! PXp: comprehensions, whole. -/
namespace PX
open PySem PySem.Spec PyProof.Rows L2

abbrev W0 : WX := fun _ _ _ _ => False
section
variable {G : Ct} {B : Bs} {W : WX} {σ σ' : L2.St} {F F' H H' : Hp} {e e' : Env} {Q : VK} {v : V} {d : D} {a p : Addr} {ds : List D} {vs : List V} {X : Cx} {k : Nat} {T : Tab} {sc : Sc} {pos : Pos}
/-- the context of a comprehension's block -/
theorem CO.blk {scope : Scope} {own : List (Str × Nat)} (C : CO G T sc k W X) (ok : BlkOk X.N X.env.scope scope own) (s : Shared) (H : Hp) (A : Addr) (cl : List (Str × Addr)) (fp : List Addr) : CO G T ⟨relS scope sc.run, scope, sc.N⟩ k W0 (X.blk s H scope (compEnvC scope cl A X.env) fp) where
  xc := ⟨C.xc.P, C.xc.w, C.xc.K, C.xc.mg, C.xc.base, C.xc.calm, C.xc.room⟩
  run := by
    show relabel scope X.env = relS scope sc.run
    rw [← C.run]
    rfl
  N := C.N
  nd := C.nd
  wr := fun x hx => by
    unfold locB at hx
    have hx : (match scope.names.lookup x with | some .local => true | some .cell => true | _ => false) = true := hx
    cases hl : scope.names.lookup x with
    | none => rw [hl] at hx; cases hx
    | some kd =>
      rw [hl] at hx
      cases kd with
      | «local» => exact ⟨.inl (lookup_relS_keep (by simp) hl), .inr (lookup_relS_keep (by simp) hl)⟩
      | cell => exact ⟨.inr (lookup_relS_keep (by simp) hl), .inl (by show (scope.names.lookup x == some .cell) = true; rw [hl]; rfl)⟩
      | _ => cases hx
  kind := ok.kind
  tk := takes_none5
  fx := C.fx
  fk := C.fk

/-- one turn of the block, on data -/
def turnM (fg : D → M Unit) (ft : M Bool) (fe : M D) (x : D) : M (Option D) := bnd (fg x) fun _ => bnd ft fun t => if t then bnd fe (fun d => ret (some d)) else ret none
def compM (own : List Nat) (f : D → M (Option D)) (xs : List D) : M AV := fun e =>
  if own.all (plainSlot e) then
    match compLoop own f xs [] e with
    | .ok ds e' => .ok (.new (.lst ds)) (PX.back own e e')
    | .exc .. => .bad
    | .bad => .bad
  else .bad
theorem bnd_ok {α β : Type} {m : M α} {f : α → M β} {b : β} (h : bnd m f e = .ok b e') : ∃ a e1, m e = .ok a e1 ∧ f a e1 = .ok b e' := by
  unfold bnd at h
  cases hm : m e with
  | ok a e1 => rw [hm] at h; exact ⟨a, e1, rfl, h⟩
  | exc => rw [hm] at h; cases h
  | bad => rw [hm] at h; cases h
/-- the block's parts, whatever the base -/
def gAll (G : Ct) (own : List Nat) (fg : D → M Unit) : TG := fun v σ H Q => ∃ B', tGo G B' W0 own fg v σ H Q
def tAll (G : Ct) (ft : M Bool) : TT := fun σ H Q => ∃ B', tT G B' W0 ft σ H Q
def dAll (G : Ct) (fe : M D) : TE := fun σ H Q => ∃ B', tD G B' W0 fe σ H Q
theorem comp_w {own : List Nat} {fg : D → M Unit} {ft : M Bool} {fe : M D} {mi : M (List D)}
    (h : tE G B W (bnd mi (compM own (turnM fg ft fe))) σ H Q) :
    tLc (tI G B W mi) (gAll G own fg) (tAll G ft) (dAll G fe) own σ H Q := by
  obtain ⟨F, e, S, h⟩ := h
  refine ⟨F, e, S, (Pr.bnd h).imp fun xs e1 F1 H1 _ S1 k1 J hJ D hD => ?_⟩
  unfold compM at k1
  by_cases hp : own.all (plainSlot e1) = true
  · rw [if_pos hp] at k1
    cases hc : compLoop own (turnM fg ft fe) xs [] e1 with
    | exc => simp only [hc] at k1; exact k1.elim
    | bad => simp only [hc] at k1; exact k1.elim
    | ok dsF eF =>
      simp only [hc] at k1
      have hF1 : F1 D = none := S1.free hD
      have hB0 : B.H0 D = none := S1.base0 hD
      have hBF : B.F0 D = none := by
        cases q : B.F0 D with
        | none => rfl
        | some o => have := S1.f0 _ _ q; rw [hF1] at this; cases this
      have plain : Plain0 G F1 e1 σ own := fun i hi s es => by
        have := List.all_eq_true.mp hp i hi
        unfold plainSlot at this
        rw [es] at this
        cases s with
        | non => exact .inl rfl
        | val d => obtain ⟨v, q1, q2⟩ := S1.slot i _ es; exact .inr ⟨d, v, rfl, q1, q2⟩
        | own c => cases this
        | bor c => cases this
      refine ⟨fun i m H => m = xs.length - i ∧ i ≤ xs.length ∧ ∃ F ec acc accD, Same F1 F ∧ Sat G B F (wipeE own ec) (wipe σ own) H ∧ H D = some (.lst acc) ∧ F D = none ∧ (∀ j, ¬ ownAt (wipeE own ec) (wipe σ own) j D) ∧ RepL G F acc accD ∧ compLoop own (turnM fg ft fe) (xs.drop i) accD ec = .ok dsF eF, ⟨xs.length, rfl, Nat.zero_le _, F1, e1, [], [], Same.refl F1, ?_, upd_same, hF1, ?_, .nil, hc⟩, ?_⟩
      · exact (S1.wipe own).laid hD
      · exact (S1.wipe own).notOwn hD
      · rintro i m H ⟨rfl, hi, F2, ec, acc, accD, s2, S2, hA, nF, no, rA, hL⟩
        by_cases hlt : i < xs.length
        · right
          have hd : xs[i]? = some xs[i] := List.getElem?_eq_getElem hlt
          have S3 := S2.more hA nF hB0 no
          obtain ⟨hgo, hy⟩ := (hJ i F2 H (B.more D (.lst acc)) _ _ s2 S3).2 _ hd
          refine ⟨hgo, fun H' => xs.length - (i + 1) = xs.length - (i + 1) ∧ i + 1 ≤ xs.length ∧ ∃ F ec acc accD, Same F1 F ∧ Sat G B F (wipeE own ec) (wipe σ own) H' ∧ H' D = some (.lst acc) ∧ F D = none ∧ (∀ j, ¬ ownAt (wipeE own ec) (wipe σ own) j D) ∧ RepL G F acc accD ∧ compLoop own (turnM fg ft fe) (xs.drop (i + 1)) accD ec = .ok dsF eF, fun H' hN => ⟨_, by omega, hN⟩, fun x H' hyld => ?_⟩
          obtain ⟨F3, s3, S4, rx⟩ := hy x H' hyld
          rw [List.drop_eq_getElem_cons hlt] at hL
          unfold compLoop at hL
          refine ⟨B.more D (.lst acc), F3, wipeE own ec, xs[i], S4, rx, ?_⟩
          cases ht : turnM fg ft fe xs[i] (wipeE own ec) with
          | exc => rw [ht] at hL; cases hL
          | bad => rw [ht] at hL; cases hL
          | ok r e4 =>
            rw [ht] at hL
            obtain ⟨u, e2, hg, ht⟩ := bnd_ok ht
            obtain ⟨t, e3, hft, ht⟩ := bnd_ok ht
            rw [hg]
            intro F4 σ4 H4 s4 S5 hw
            have hww : wipe (wipe σ own) own = wipe σ own := by
              apply List.ext_getElem?
              intro j
              rw [wipe_get, wipe_get, wipe_length]
              by_cases q : j ∈ own ∧ j < σ.length <;> simp only [q, if_true, if_false, and_self, ite_self]
            have hw2 : wipe σ4 own = wipe σ own := by rw [hw, hww]
            refine ⟨hw2, _, F4, e2, S5, ?_⟩
            have fin : ∀ {F5 e5 H5 acc' accD'}, Same F4 F5 → Sat G (B.more D (.lst acc)) F5 e5 σ4 H5 → RepL G F5 acc' accD' → compLoop own (turnM fg ft fe) (xs.drop (i + 1)) accD' e5 = .ok dsF eF →
                (H5 D = some (.lst acc) ∧ (xs.length - (i + 1) = xs.length - (i + 1) ∧ i + 1 ≤ xs.length ∧ ∃ F ec acc accD, Same F1 F ∧ Sat G B F (wipeE own ec) (wipe σ own) (upd H5 D (.lst acc')) ∧ (upd H5 D (.lst acc')) D = some (.lst acc) ∧ F D = none ∧ (∀ j, ¬ ownAt (wipeE own ec) (wipe σ own) j D) ∧ RepL G F acc accD ∧ compLoop own (turnM fg ft fe) (xs.drop (i + 1)) accD ec = .ok dsF eF)) := fun {F5 e5 H5 acc' accD'} s5 S6 r5 h5 => by
              obtain ⟨q1, q2, q3, q4⟩ := S6.less (o' := .lst acc') hB0 hBF
              have S7 := q4.wipe own
              rw [hw2] at S7
              refine ⟨q1, rfl, hlt, F5, e5, acc', accD', s2.trans (s3.trans (s4.trans s5)), S7, upd_same, q2, fun j hj => ?_, r5, h5⟩
              rw [← hw2] at hj
              exact q3 j (own_wipe hj).2
            have rA4 : RepL G F4 acc accD := rA.mono (s3.trans s4)
            rw [hft]
            intro F5 H5 s5 S6
            cases t with
            | true =>
              rw [if_pos rfl]
              rw [if_pos rfl] at ht
              obtain ⟨y, e5, hfe, ht⟩ := bnd_ok ht
              cases ht
              refine ⟨_, F5, e3, S6, ?_⟩
              rw [hfe]
              intro F6 H6 s6 S7 v rv
              by_cases hz : accD.length < SZ
              · dsimp only at hL
                rw [if_pos hz] at hL
                obtain ⟨q1, q2⟩ := fin (acc' := acc ++ [v]) (s5.trans s6) S7 ((rA4.mono (s5.trans s6)).append (.cons rv .nil)) hL
                exact ⟨acc, q1, by rw [rA.length]; exact Nat.lt_of_lt_of_le hz szLe, q2⟩
              · dsimp only at hL
                rw [if_neg hz] at hL; cases hL
            | false =>
              rw [if_neg (by simp)]
              rw [if_neg (by simp)] at ht
              cases ht
              obtain ⟨q1, q2⟩ := fin (acc' := acc) s5 S6 (rA4.mono s5) hL
              have : upd H5 D (.lst acc) = H5 := upd_self q1
              rw [this] at q2
              exact q2
        · left
          have hie : xs.length = i := by omega
          refine ⟨(hJ i F2 H B _ _ s2 S2).1 hie, ?_⟩
          rw [List.drop_eq_nil_of_le (by omega)] at hL
          cases hL
          have S3 := S2.back (e0 := e1) fun j hj s es => by
            rcases plain j hj s es with z | ⟨d, v, z1, z2, z3⟩
            · exact .inl z
            · exact .inr ⟨d, v, z1, z2, z3.mono s2⟩
          refine k1 F2 H s2 S3 (.ref D) ⟨D, rfl, nF, hB0, ⟨acc, hA, rA⟩, fun j hj => ?_⟩
          have hl := S3.ownLive hj
          have hb := S3.slot j
          obtain ⟨a', c, ow', _, _, _, kk⟩ := S3.ownSlot hj.1
          have e1' : D = a' := by have := hj.2.symm.trans ow'.2; simpa using this
          subst e1'
          rcases kk with kk | kk
          · rw [back_get] at kk
            by_cases q : j ∈ own ∧ j < eF.length
            · rw [if_pos q] at kk
              cases z : e1[j]? with
              | none => rw [z] at kk; cases kk
              | some s' =>
                rw [z] at kk
                rcases plain j q.1 s' z with rfl | ⟨d, v, rfl, _⟩ <;> cases kk
            · rw [if_neg q] at kk
              have hlj := (List.getElem?_eq_some_iff.mp kk).1
              have hjo : j ∉ own := fun z => q ⟨z, hlj⟩
              exact no j ⟨by unfold isOwn; rw [wipeE_get, if_neg q, kk], by rw [wipe_get, if_neg (fun z => hjo z.1)]; exact hj.2⟩
          · rw [back_get] at kk
            by_cases q : j ∈ own ∧ j < eF.length
            · rw [if_pos q] at kk
              cases z : e1[j]? with
              | none => rw [z] at kk; cases kk
              | some s' =>
                rw [z] at kk
                rcases plain j q.1 s' z with rfl | ⟨d, v, rfl, _⟩ <;> cases kk
            · rw [if_neg q] at kk
              have hlj := (List.getElem?_eq_some_iff.mp kk).1
              have hjo : j ∉ own := fun z => q ⟨z, hlj⟩
              exact no j ⟨by unfold isOwn; rw [wipeE_get, if_neg q, kk], by rw [wipe_get, if_neg (fun z => hjo z.1)]; exact hj.2⟩
  · rw [if_neg hp] at k1; exact k1.elim
theorem own_map (N : List Str) (own : List Nat) : (ownN N own).map (·.2) = own := by
  unfold ownN
  rw [List.map_map]
  exact List.map_id' own
theorem e_comp {tg iter elt : Expr} {ifs : List Expr} {scope : Scope} {own : List Nat} {mi : M (List D)} {fg : D → M Unit} {ft : M Bool} {fe : M AV} (C : CO G T sc k W X) (hb : blkC sc.N sc.run scope (ownN sc.N own) = true) (hs : noSet iter = true) (hi : PI X tg iter (tI G B W mi))
    (inner : ∀ Y, CO G T ⟨relS scope sc.run, scope, sc.N⟩ k W0 Y → ∀ B', PG Y tg (tGo G B' W0 own fg) ∧ PTs Y ifs (tT G B' W0 ft) ∧ PE Y elt (tE G B' W0 fe)) :
    PE X (.ListComp elt [⟨tg, iter, ifs, 0⟩] scope pos) (tE G B W (bnd mi (compM own (turnM fg ft (dataM fe))))) := by
  have ok : BlkOk X.N X.env.scope scope (ownN sc.N own) := by
    rw [C.N, C.run]; exact blkOk_by hb
  have q := pe_lc (pos := pos) (g := gAll G own fg) (tt := tAll G ft) (te := dAll G (dataM fe)) C.xc.calm (by rw [C.N]; exact C.nd) hi ok
    (fun s H A cl fp => ⟨fun pins s1 σ1 H1 v u Q I r ⟨B', h⟩ => ((inner _ (C.blk ok s H A cl fp) B').1).run pins s1 σ1 H1 v u Q I r h⟩)
    (fun s H A cl fp => ⟨fun pins s1 σ1 H1 Q I ⟨B', h⟩ => ((inner _ (C.blk ok s H A cl fp) B').2.1).run pins s1 σ1 H1 Q I h⟩)
    (fun s H A cl fp => ⟨fun pins s1 σ1 H1 Q I ⟨B', h⟩ => (data_e ((inner _ (C.blk ok s H A cl fp) B').2.2)).run pins s1 σ1 H1 Q I h⟩) (set_ok hs)
  rw [own_map] at q
  exact pe_weak q fun σ H Q h => comp_w h
/-- name = [..] on one line -/
theorem s_comp {tg iter elt : Expr} {ifs : List Expr} {scope : Scope} {own : List Nat} {mi : M (List D)} {fg : D → M Unit} {ft : M Bool} {fe : M AV} {y : Str} {i : Nat} {py spos : Pos} (C : CO G T sc k W X) (hy : slotB sc i y = true) (hl : sc.run.names.lookup y = some .local)
    (hline : (py.line == pos.line) = true) (hn : (scope.names.any fun (n, k) => n == y && (k == .local || k == .cell)) = false) (hb : blkC sc.N sc.run scope (ownN sc.N own) = true) (hs : noSet iter = true) (hi : PI X tg iter (tI G B W mi))
    (inner : ∀ Y, CO G T ⟨relS scope sc.run, scope, sc.N⟩ k W0 Y → ∀ B', PG Y tg (tGo G B' W0 own fg) ∧ PTs Y ifs (tT G B' W0 ft) ∧ PE Y elt (tE G B' W0 fe)) :
    PS X (.Assign [.Name y py] (.ListComp elt [⟨tg, iter, ifs, 0⟩] scope pos) spos) (tAsg (tE G B W (bnd mi (compM own (turnM fg ft (dataM fe))))) (gName i)) := by
  have ok : BlkOk X.N X.env.scope scope (ownN sc.N own) := by
    rw [C.N, C.run]; exact blkOk_by hb
  obtain ⟨h1, _⟩ := slotB_ok C.N hy
  have hl' : X.env.scope.names.lookup y = some .local := by rw [C.run]; exact hl
  have q := ps_setLc (pos := pos) (spos := spos) (g := gAll G own fg) (tt := tAll G ft) (te := dAll G (dataM fe)) C.xc.calm (by rw [C.N]; exact C.nd) h1 hl' (sw_true C.kind hl' hline hn) hi ok
    (fun s H A cl fp => ⟨fun pins s1 σ1 H1 v u Q I r ⟨B', h⟩ => ((inner _ (C.blk ok s H A cl fp) B').1).run pins s1 σ1 H1 v u Q I r h⟩)
    (fun s H A cl fp => ⟨fun pins s1 σ1 H1 Q I ⟨B', h⟩ => ((inner _ (C.blk ok s H A cl fp) B').2.1).run pins s1 σ1 H1 Q I h⟩)
    (fun s H A cl fp => ⟨fun pins s1 σ1 H1 Q I ⟨B', h⟩ => (data_e ((inner _ (C.blk ok s H A cl fp) B').2.2)).run pins s1 σ1 H1 Q I h⟩) (set_ok hs)
  rw [own_map] at q
  exact ps_weak q fun D σ H h => comp_w h
end
end PX

end
section
set_option Elab.async false
set_option linter.all false
set_option maxRecDepth 100000
set_option maxHeartbeats 2000000
/-! PXq: statements, one form at a time. -/
namespace PX
open PySem PySem.Spec PyProof.Rows L2

section
variable (G : Ct) (B : Bs) (W : WX)
/-- what follows a statement's outcome -/
def KS (D : Ends) : Flow → Env → Hp → L2.St → Hp → Prop := fun fl e F σ H => match fl with
  | .next => D.nx σ H
  | .brk => D.bk σ H
  | .cont => D.ct σ H
  | .ret a => ∀ v, RepA G B F e σ H v a → Sat G B F e σ H → D.rt v H
def tS (m : M Flow) : TS := fun D σ H => ∃ F e, Sat G B F e σ H ∧ PrS G B W (m e) F (KS G B D)
end
section
variable {G : Ct} {B : Bs} {W : WX} {σ σ' : L2.St} {F F' H H' : Hp} {e e' : Env} {Q : VK} {v : V} {d : D} {a p : Addr} {ds : List D} {vs : List V} {X : Cx} {k : Nat} {T : Tab} {sc : Sc} {pos : Pos} {D : Ends}
theorem ss_nil : PSs X [] (tS G B W (ret .next)) := pss_weak pss_nil fun D σ H ⟨F, e, S, q⟩ => PrS.ret q S
def seqM (m r : M Flow) : M Flow := bnd m fun
  | .next => r
  | f => ret f
theorem ss_cons {st : Stmt} {rest : List Stmt} {m r : M Flow} (h : PS X st (tS G B W m)) (hr : PSs X rest (tS G B W r)) : PSs X (st :: rest) (tS G B W (seqM m r)) := by
  refine pss_weak (pss_cons h hr) fun D σ H q => ?_
  obtain ⟨F, e, S, q⟩ := q
  refine ⟨F, e, S, (PrS.bnd q).imp fun fl e1 F1 σ1 H1 s1 S1 k1 => ?_⟩
  cases fl with
  | next => exact ⟨F1, e1, S1, k1⟩
  | brk => exact PrS.ret (W := W) (show PrS G B W (ret Flow.brk e1) F1 (KS G B D) from k1) S1
  | cont => exact PrS.ret (W := W) (show PrS G B W (ret Flow.cont e1) F1 (KS G B D) from k1) S1
  | ret a => exact PrS.ret (W := W) (show PrS G B W (ret (Flow.ret a) e1) F1 (KS G B D) from k1) S1
theorem s_never {st : Stmt} : PS X st (tS G B W bad) := ps_weak ps_never fun D σ H ⟨F, e, S, q⟩ => q
theorem s_pass : PS X (.Pass pos) (tS G B W (ret .next)) := ps_weak ps_pass fun D σ H ⟨F, e, S, q⟩ => PrS.ret q S
theorem s_brk : PS X (.Break pos) (tS G B W (ret .brk)) := ps_weak ps_break fun D σ H ⟨F, e, S, q⟩ => PrS.ret q S
theorem s_cont : PS X (.Continue pos) (tS G B W (ret .cont)) := ps_weak ps_continue fun D σ H ⟨F, e, S, q⟩ => PrS.ret q S
theorem s_retN : PS X (.Return none pos) (tS G B W (ret (.ret (.d .non)))) := ps_weak ps_retN fun D σ H ⟨F, e, S, q⟩ => PrS.ret q S .non .non S
theorem s_doc {x : Str} {j : Nat} {p2 : Pos} : PS X (.Expr (.Constant (.str x) j p2) pos) (tS G B W (ret .next)) := ps_weak ps_doc fun D σ H ⟨F, e, S, q⟩ => PrS.ret q S
theorem s_ret {x : Expr} {m : M AV} (h : PE X x (tE G B W m)) : PS X (.Return (some x) pos) (tS G B W (bnd m fun a => ret (.ret a))) := by
  refine ps_weak (ps_ret h) fun D σ H q => ?_
  obtain ⟨F, e, S, q⟩ := q
  exact ⟨F, e, S, ((PrS.bnd q).pr σ).imp fun a e1 F1 H1 _ S1 k1 v r => PrS.ret k1 S1 v r S1⟩
/-- not a comprehension -/
def noComp : Expr → Bool
  | .ListComp .. => false
  | .SetComp .. => false
  | .DictComp .. => false
  | _ => true
theorem swaps_no {x : Expr} {t : Option Expr} {l : Nat} {env : PySem.Env} (h : noComp x = true) : swapsWith x t l env = pure false := by
  cases x <;> first | rfl | cases h
theorem s_expr {x : Expr} {m : M AV} (hc : noComp x = true) (h : PE X x (tE G B W m)) : PS X (.Expr x pos) (tS G B W (bnd m fun _ => ret .next)) := by
  refine ps_weak (ps_expr h (swaps_no hc)) fun D σ H q => ?_
  obtain ⟨F, e, S, q⟩ := q
  exact ⟨F, e, S, ((PrS.bnd q).pr σ).imp fun a e1 F1 H1 _ S1 k1 v r => PrS.ret k1 S1⟩
theorem s_if {c : Expr} {xs ys : List Stmt} {m : M Bool} {ma mb : M Flow} (hc : PT X c (tT G B W m)) (ha : PSs X xs (tS G B W ma)) (hb : PSs X ys (tS G B W mb)) : PS X (.If c xs ys pos) (tS G B W (bnd m fun t => if t then ma else mb)) := by
  refine ps_weak (ps_if hc ha hb) fun D σ H q => ?_
  obtain ⟨F, e, S, q⟩ := q
  refine ⟨F, e, S, ((PrS.bnd q).pr σ).imp fun t e1 F1 H1 _ S1 k1 => ?_⟩
  cases t <;> exact ⟨F1, e1, S1, k1⟩
/-- a name is stored -/
theorem put_w {i : Nat} {m : M AV} {f : Unit → M Flow} (q : PrS G B W (bnd m (fun a => bnd (putSlot i a) f) e) F (KS G B D)) (hf : f = fun _ => ret .next) (S : Sat G B F e σ H) : tE G B W m σ H (LK fun x H1 => D.nx (σ.set i (some x)) H1) := by
  subst hf
  refine ⟨F, e, S, ((PrS.bnd q).pr σ).imp fun a e1 F1 H1 _ S1 k1 v r => ?_⟩
  have k2 := PrS.bnd k1
  unfold putSlot at k2
  cases es : e1[i]? with
  | none => simp only [es] at k2; exact k2.elim
  | some s =>
    simp only [es] at k2
    by_cases hb : ∃ c, s = .bor c
    · obtain ⟨c, rfl⟩ := hb
      exact k2.elim
    · have nb : ∀ c, s ≠ .bor c := fun c z => hb ⟨c, z⟩
      cases a with
      | d d =>
        have k2 : PrS G B W (R.ok () (e1.set i (.val d))) F1 (fun _ e' F' _ _ => PrS G B W (ret Flow.next e') F' (KS G B D)) := by cases s <;> first | exact k2 | exact absurd rfl (nb _)
        exact .inl (PrS.ret (k2 F1 _ H1 (Same.refl F1) (S1.putD es nb r)) (S1.putD es nb r))
      | new c =>
        have k2 : PrS G B W (R.ok () (e1.set i (.own c))) F1 (fun _ e' F' _ _ => PrS G B W (ret Flow.next e') F' (KS G B D)) := by cases s <;> first | exact k2 | exact absurd rfl (nb _)
        obtain ⟨ax, rfl, n, b0, ck, no⟩ := r
        have S2 := S1.putN es n b0 ck no
        exact .inl (PrS.ret (k2 F1 _ H1 (Same.refl F1) S2) S2)
      | slot j =>
        have k2 : PrS G B W (match frz j e1 with | .ok d e' => R.ok () (e'.set i (.val d)) | .exc c f d e' => .exc c f d e' | .bad => .bad) F1 (fun a e' F' _ _ => PrS G B W (ret Flow.next e') F' (KS G B D)) := by cases s <;> first | exact k2 | exact absurd rfl (nb _)
        have r : σ[j]? = some (some v) := r
        unfold frz at k2
        cases ej : e1[j]? with
        | none => simp only [ej] at k2; exact k2.elim
        | some sj =>
          simp only [ej] at k2
          cases sj with
          | non => exact k2.elim
          | bor c => exact k2.elim
          | val d =>
            obtain ⟨v', q1, q2⟩ := S1.slot j _ ej
            rw [r] at q1; cases q1
            have S2 := S1.putD es nb q2
            exact .inl (PrS.ret (k2 F1 _ H1 (Same.refl F1) S2) S2)
          | own c =>
            obtain ⟨ax, oh, q1, ho, nF, hz⟩ := S1.frz ej
            rw [r] at q1; cases q1
            refine .inr ⟨ax, oh, rfl, ho, fun fo fz => ?_⟩
            obtain ⟨S2, rp⟩ := hz fo fz
            have es2 : ∃ s2, (e1.set j (.val c.d))[i]? = some s2 ∧ ∀ c, s2 ≠ .bor c := by
              by_cases z : j = i
              · subst z
                exact ⟨_, List.getElem?_set_self (List.getElem?_eq_some_iff.mp es).1, nofun⟩
              · exact ⟨s, by rw [List.getElem?_set_ne z]; exact es, nb⟩
            obtain ⟨s2, e2, nb2⟩ := es2
            have S3 := S2.putD e2 nb2 rp
            exact PrS.ret (k2 _ _ _ (same_upd nF) S3) S3
theorem s_set {i : Nat} {x : Str} {y : Expr} {m : M AV} {p2 : Pos} (C : CO G T sc k W X) (h : slotB sc i x = true) (hl : locB sc x = true) (hs : swapsWith y (some (.Name x p2)) pos.line X.env = pure false) (he : PE X y (tE G B W m)) :
    PS X (.Assign [.Name x p2] y pos) (tS G B W (bnd m fun a => bnd (putSlot i a) fun _ => ret .next)) := by
  obtain ⟨h1, _⟩ := slotB_ok C.N h
  obtain ⟨l1, l2⟩ := C.wr x hl
  refine ps_weak (ps_set (by rw [C.N]; exact C.nd) h1 l1 (pe_lk he) hs l2) fun D σ H q => ?_
  obtain ⟨F, e, S, q⟩ := q
  exact put_w q rfl S
theorem s_setC {i : Nat} {x : Str} {y : Expr} {m : M AV} {p2 : Pos} (h : PS X (.Assign [.Name x p2] y pos) (tAsg (tE G B W m) (gName i))) (hp : ∀ σ H Q, tE G B W m σ H (LK Q) → tE G B W m σ H Q) :
    PS X (.Assign [.Name x p2] y pos) (tS G B W (bnd m fun a => bnd (putSlot i a) fun _ => ret .next)) := by
  refine ps_weak h fun D σ H q => ?_
  obtain ⟨F, e, S, q⟩ := q
  exact hp σ H _ (put_w q rfl S)
/-- the value of a comprehension is a new list -/
theorem comp_new {mi : M (List PX.D)} {own : List Nat} {f : PX.D → M (Option PX.D)} {Q : VK} (q : tE G B W (bnd mi (compM own f)) σ H (LK Q)) : tE G B W (bnd mi (compM own f)) σ H Q := by
  obtain ⟨F, e, S, q⟩ := q
  refine ⟨F, e, S, ?_⟩
  unfold bnd at q ⊢
  cases hm : mi e with
  | exc c n d e1 => rw [hm] at q; exact q
  | bad => rw [hm] at q; exact q
  | ok xs e1 =>
    rw [hm] at q
    unfold compM at q ⊢
    dsimp only at q ⊢
    by_cases hp : own.all (plainSlot e1) = true
    · rw [if_pos hp] at q ⊢
      cases hc : compLoop own f xs [] e1 with
      | exc => simp only [hc] at q; exact q.elim
      | bad => simp only [hc] at q; exact q.elim
      | ok dd ee =>
        simp only [hc] at q ⊢
        intro F' H' s' S' v r
        rcases q F' H' s' S' v r with z | ⟨a, oh, rfl, ho, z⟩
        · exact z
        · obtain ⟨a2, e2, _, _, ck, _⟩ := r
          cases e2
          obtain ⟨ws, hA, _⟩ := ck
          rw [ho] at hA
          cases hA
          have := z (.lst ws) (.inl ⟨nofun, rfl⟩)
          rw [upd_self ho] at this
          exact this
    · rw [if_neg hp] at q; exact q.elim
/-- a tuple of targets, or a place -/
theorem s_asg {tg y : Expr} {m : M AV} {f : PX.D → M Unit} (hn : noComp y = true) (hw : swappedStores [tg] y X.env = pure none) (h1 : (assignEach [tg] X.env).map (·.2) = [assign tg X.env]) (he : PE X y (tE G B W m)) (hg : PG X tg (tG G B W f)) :
    PS X (.Assign [tg] y pos) (tS G B W (bnd (dataM m) fun d => bnd (f d) fun _ => ret .next)) := by
  refine ps_weak (ps_asg (data_e he) hg (by show swapsWith y (some tg) _ _ = _; exact swaps_no hn) hw h1) fun D σ H q => ?_
  obtain ⟨F, e, S, q⟩ := q
  refine ⟨F, e, S, ((PrS.bnd q).pr σ).imp fun d e1 F1 H1 _ S1 k1 v rv => ?_⟩
  exact ⟨F1, e1, d, S1, rv, (PrS.bnd k1).imp fun _ e2 F2 σ2 H2 _ S2 k2 => PrS.ret k2 S2⟩
theorem s_fld {i f : Nat} {x m : Str} {y : Expr} {mv : M AV} {p1 p2 : Pos} (C : CO G T sc k W X) (h : slotB sc i x = true) (hv : visB sc x = true) (hm : T.nms[f]? = some m) (hn : noComp y = true) (he : PE X y (tE G B W mv)) :
    PS X (.Assign [.Attribute (.Name x p1) m p2] y pos) (tS G B W (bnd (dataM mv) fun d => bnd (modSlot i (fldC T f d)) fun _ => ret .next)) := by
  obtain ⟨h1, h2⟩ := slotB_ok C.N h
  obtain ⟨d1, d2, _⟩ := nameB_ok h2
  refine ps_weak (ps_fld (pe_var h1 (visB_ok C.run hv) d1 d2) (data_e he) (swaps_no hn)) fun D σ H q => ?_
  obtain ⟨F, e, S, q⟩ := q
  refine ⟨F, e, S, ((PrS.bnd q).pr σ).imp fun d e1 F1 H1 _ S1 k1 v rv => ?_⟩
  obtain ⟨a, c, c', e3, e4, ck, hf, hS, k4⟩ := mod_w S1 (k1.pr σ)
  unfold fldC at hf
  split at hf
  · rename_i cc ns dd
    split at hf
    · rename_i hc
      cases hf
      obtain ⟨dx, fs, hA, rf⟩ := ck
      have en := C.fx.nm f m hm
      have rf2 := put_f (f := f) rv (fun n => C.fx.inj f n (List.getElem?_eq_some_iff.mp hm).1) rf
      rw [en] at rf2
      obtain ⟨_, hC, hN, _⟩ := C.fx.cls cc _ (List.getElem?_eq_getElem hc.2)
      rw [← C.xc.K] at hC hN
      have S3 := hS (.ins (G.cA cc) dx (putF m v fs)) ⟨dx, _, upd_same, rf2⟩
      exact ⟨.ref a, e4, a, G.cA cc, dx, fs, rfl, hA, hC, hN f m hm, by rw [len_f rf]; omega, Pr.ret k4 S3⟩
    · cases hf
  · cases hf

/-! ### loops -/
theorem s_for {tg it : Expr} {body : List Stmt} {mi : M (List PX.D)} {fg : PX.D → M Unit} {mb : M Flow} (C : CO G T sc k W X) (hp : PassesOwn (model X.prog X.w) X.A X.env X.xe) (hs : noSet it = true) (hi : PI X tg it (tI G B W mi)) (hg : PG X tg (tG G B W fg)) (hb : PSs X body (tS G B W mb)) :
    PS X (.For tg it body [] pos) (tS G B W (bnd mi fun xs => forLoop fg mb xs)) := by
  refine ps_weak (ps_for hp C.xc.calm hi hg hb (set_ok hs)) fun D σ H q => ?_
  obtain ⟨F, e, S, q⟩ := q
  refine ⟨F, e, S, ((PrS.bnd q).pr σ).imp fun xs e1 F1 H1 _ S1 k1 J hJ => ?_⟩
  refine ⟨fun i m σ H => m = xs.length - i ∧ i ≤ xs.length ∧ ∃ F e, Same F1 F ∧ Sat G B F e σ H ∧ PrS G B W (forLoop fg mb (xs.drop i) e) F (KS G B D), ⟨xs.length, rfl, Nat.zero_le _, F1, e1, Same.refl F1, S1, k1⟩, ?_⟩
  rintro i m σ H ⟨rfl, hi, F2, e2, s2, S2, k2⟩
  by_cases hlt : i < xs.length
  · right
    have hd : xs[i]? = some xs[i] := List.getElem?_eq_getElem hlt
    obtain ⟨hgo, hy⟩ := (hJ i F2 H B _ _ s2 S2).2 _ hd
    refine ⟨hgo, fun σ' H' => xs.length - (i + 1) = xs.length - (i + 1) ∧ i + 1 ≤ xs.length ∧ ∃ F e, Same F1 F ∧ Sat G B F e σ' H' ∧ PrS G B W (forLoop fg mb (xs.drop (i + 1)) e) F (KS G B D), fun σ' H' hN => ⟨_, by omega, hN⟩, fun x H' hyld => ?_⟩
    obtain ⟨F3, s3, S3, rx⟩ := hy x H' hyld
    rw [List.drop_eq_getElem_cons hlt] at k2
    unfold forLoop at k2
    refine ⟨F3, e2, xs[i], S3, rx, (PrS.bnd (k2.monoF s3)).imp fun _ e4 F4 σ4 H4 s4 S4 k4 => ?_⟩
    refine ⟨F4, e4, S4, (PrS.bnd k4).imp fun fl e5 F5 σ5 H5 s5 S5 k5 => ?_⟩
    have sF := s2.trans (s3.trans (s4.trans s5))
    cases fl with
    | next => exact ⟨rfl, hlt, F5, e5, sF, S5, k5⟩
    | cont => exact ⟨rfl, hlt, F5, e5, sF, S5, k5⟩
    | brk => exact PrS.ret (W := W) k5 S5
    | ret a => exact PrS.ret (W := W) k5 S5
  · left
    refine ⟨(hJ i F2 H B _ _ s2 S2).1 (by omega), ?_⟩
    rw [List.drop_eq_nil_of_le (by omega)] at k2
    exact PrS.ret k2 S2
theorem s_while {c : Expr} {body : List Stmt} {m : M Bool} {mb : M Flow} {n : Nat} (hp : PassesOwn (model X.prog X.w) X.A X.env X.xe) (hc : PT X c (tT G B W m)) (hb : PSs X body (tS G B W mb)) :
    PS X (.While c body [] pos) (tS G B W (whileLoop m mb n)) := by
  refine ps_weak (ps_while hp hc hb) fun D σ H q => ?_
  refine ⟨fun j σ H => ∃ F e, Sat G B F e σ H ∧ PrS G B W (whileLoop m mb j e) F (KS G B D), ⟨n, q⟩, ?_⟩
  rintro j σ H ⟨F, e, S, k1⟩
  cases j with
  | zero => exact k1.elim
  | succ j =>
    unfold whileLoop at k1
    refine ⟨F, e, S, ((PrS.bnd k1).pr σ).imp fun t e1 F1 H1 _ S1 k2 => ?_⟩
    cases t with
    | false =>
      rw [if_neg (by simp)]
      exact PrS.ret k2 S1
    | true =>
      rw [if_pos rfl]
      refine ⟨fun σ' H' => ∃ F e, Sat G B F e σ' H' ∧ PrS G B W (whileLoop m mb j e) F (KS G B D), fun σ' H' h => ⟨j, Nat.lt_succ_self j, h⟩, F1, e1, S1, (PrS.bnd k2).imp fun fl e5 F5 σ5 H5 s5 S5 k5 => ?_⟩
      cases fl with
      | next => exact ⟨F5, e5, S5, k5⟩
      | cont => exact ⟨F5, e5, S5, k5⟩
      | brk => exact PrS.ret (W := W) k5 S5
      | ret a => exact PrS.ret (W := W) k5 S5
end
end PX

end
section
set_option Elab.async false
set_option linter.all false
set_option maxRecDepth 100000
set_option maxHeartbeats 4000000
/-! PXr: every checked expression does what its reading says. -/
namespace PX
open PySem PySem.Spec PyProof.Rows L2

theorem pts_of {Y : Cx} {G : Ct} {B : Bs} {W : WX} {c : Expr} {m : M Bool} (h : PT Y c (tT G B W m)) : PTs Y [c] (tT G B W (bnd m fun b => if b then ret true else ret false)) := by
  refine ⟨fun pins s σ H Q I q => (pts_one h).run pins s σ H Q I ?_⟩
  obtain ⟨F, e, S, q⟩ := q
  exact ⟨F, e, S, (Pr.bnd q).imp fun b e1 F1 H1 _ S1 k => by cases b <;> exact Pr.ret k S1⟩
theorem pts_no {Y : Cx} {G : Ct} {B : Bs} {W : WX} : PTs Y [] (tT G B W (ret true)) := ⟨fun pins s σ H Q I ⟨F, e, S, q⟩ => pts_nil.run pins s σ H Q I (Pr.ret q S)⟩
theorem as_bad {Y : Cx} {G : Ct} {B : Bs} {W : WX} {xs : List Expr} {t : TA} (h : PA Y xs t) : PA Y xs (tAs G B W bad) := pa_weak h fun σ H Q ⟨F, e, S, q⟩ => q.elim
theorem flat_ck {T : Tab} {sc : Sc} : ∀ {es : Xs} {xs : List Expr}, ckEs T sc es xs = true → flat xs = true ∧ xs.length = lenXs es
  | .nil, [], _ => ⟨rfl, rfl⟩
  | .nil, _ :: _, h => absurd h Bool.false_ne_true
  | .cons a r, [], h => absurd h Bool.false_ne_true
  | .cons a r, x :: xs, h => by
    have h : (ckE T sc a x && noStar x && ckEs T sc r xs) = true := h
    simp only [Bool.and_eq_true] at h
    obtain ⟨h1, h2⟩ := flat_ck h.2
    exact ⟨by unfold flat at h1 ⊢; rw [List.all_cons, h.1.2, h1]; rfl, by rw [List.length_cons, h2]; rfl⟩
theorem flat_gk {T : Tab} {sc : Sc} : ∀ {es : Tgs} {xs : List Expr}, ckGs T sc es xs = true → flat xs = true ∧ lenG es = xs.length
  | .nil, [], _ => ⟨rfl, rfl⟩
  | .nil, _ :: _, h => absurd h Bool.false_ne_true
  | .cons a r, [], h => absurd h Bool.false_ne_true
  | .cons a r, x :: xs, h => by
    have h : (ckG T sc a x && noStar x && ckGs T sc r xs) = true := h
    simp only [Bool.and_eq_true] at h
    obtain ⟨h1, h2⟩ := flat_gk h.2
    exact ⟨by unfold flat at h1 ⊢; rw [List.all_cons, h.1.2, h1]; rfl, by rw [List.length_cons, ← h2]; rfl⟩
theorem evG_tup (T : Tab) (cf : Cf) (ts : Tgs) : evG T cf (.tup ts) = fun d => match d with
    | .tup ds => if lenG ts = ds.length then evGs T cf ts ds else bad
    | _ => bad := by
  funext d
  cases d <;> rfl
theorem evGs_nil (T : Tab) (cf : Cf) : evGs T cf .nil = fun ds => match ds with
    | [] => ret ()
    | _ => bad := by
  funext d
  cases d <;> rfl
theorem evGs_cons (T : Tab) (cf : Cf) (t : Tg) (ts : Tgs) : evGs T cf (.cons t ts) = fun ds => match ds with
    | d :: r => bnd (evG T cf t d) fun _ => evGs T cf ts r
    | [] => bad := by
  funext d
  cases d <;> rfl
theorem ne_len {xs : List Expr} (h : (!xs.isEmpty) = true) : xs.isEmpty = false := by simpa using h

section
variable {G : Ct} {T : Tab} {k : Nat}
mutual
theorem okE : (x : PX.X) → ∀ (ex : Expr) {sc : Sc} {W : WX} {Y : Cx}, CO G T sc k W Y → ckE T sc x ex = true → ∀ B, PE Y ex (tE G B W (evA T (callT T k) x))
  | .var i, ex, sc, W, Y, C, h, B => by
    cases ex with
    | Name y p =>
      have h : (slotB sc i y && visB sc y) = true := h
      rw [Bool.and_eq_true] at h
      exact e_var C h.1 h.2
    | _ => exact absurd h Bool.false_ne_true
  | .int i, ex, sc, W, Y, C, h, B => by
    cases ex with
    | Constant c kk p =>
      cases c with
      | int j =>
        have h : (i == j) = true := h
        have h := eq_of_beq h
        subst h
        exact e_int
      | _ => exact absurd h Bool.false_ne_true
    | _ => exact absurd h Bool.false_ne_true
  | .str s, ex, sc, W, Y, C, h, B => by
    cases ex with
    | Constant c kk p =>
      cases c with
      | str j =>
        have h : decide (s = j) = true := h
        have h := of_decide_eq_true h
        subst h
        exact e_str
      | _ => exact absurd h Bool.false_ne_true
    | _ => exact absurd h Bool.false_ne_true
  | .bl s, ex, sc, W, Y, C, h, B => by
    cases ex with
    | Constant c kk p =>
      cases c with
      | bool j =>
        have h : (s == j) = true := h
        have h := eq_of_beq h
        subst h
        exact e_bl
      | _ => exact absurd h Bool.false_ne_true
    | _ => exact absurd h Bool.false_ne_true
  | .non, ex, sc, W, Y, C, h, B => by
    cases ex with
    | Constant c kk p =>
      cases c with
      | none => exact e_non
      | _ => exact absurd h Bool.false_ne_true
    | _ => exact absurd h Bool.false_ne_true
  | .glob y d, ex, sc, W, Y, C, h, B => by
    cases d with
    | int i =>
      cases ex with
      | Name x p =>
        have h : (decide (x = y) && nameB x && glB sc x && decide (T.globs.lookup x = some i)) = true := h
        simp only [Bool.and_eq_true, decide_eq_true_eq] at h
        exact e_glob C h.1.2 h.1.1.2 h.2
      | _ => exact absurd h Bool.false_ne_true
    | _ => cases ex <;> exact absurd h Bool.false_ne_true
  | .tup es, ex, sc, W, Y, C, h, B => by
    cases ex with
    | Tuple xs j p => exact e_tup (okL es xs C h B)
    | _ => exact absurd h Bool.false_ne_true
  | .lst es, ex, sc, W, Y, C, h, B => by
    cases ex with
    | List xs p => exact e_lst (okL es xs C h B)
    | _ => exact absurd h Bool.false_ne_true
  | .dct ks vs, ex, sc, W, Y, C, h, B => by
    unfold ckE at h
    split at h <;> first | (exact absurd h Bool.false_ne_true) | skip
    all_goals (try contradiction)
    · rename_i e1
      cases e1
      exact e_dct0
    · rename_i e1
      cases e1
      simp only [Bool.and_eq_true, beq_iff_eq] at h
      obtain ⟨rfl, rfl⟩ := h
      exact e_dct1
  | .bin op a b, ex, sc, W, Y, C, h, B => by
    cases ex with
    | BinOp x o y p =>
      have h : (bopB op o && ckE T sc a x && ckE T sc b y) = true := h
      simp only [Bool.and_eq_true] at h
      exact e_bin C h.1.1 (okE a x C h.1.2 B) (okE b y C h.2 B)
    | _ => exact absurd h Bool.false_ne_true
  | .neg a, ex, sc, W, Y, C, h, B => by
    cases ex with
    | UnaryOp o x p =>
      cases o with
      | USub => exact e_neg C (okE a x C h B)
      | _ => exact absurd h Bool.false_ne_true
    | _ => exact absurd h Bool.false_ne_true
  | .not a, ex, sc, W, Y, C, h, B => by
    cases ex with
    | UnaryOp o x p =>
      cases o with
      | Not => exact e_not C (okE a x C h B)
      | _ => exact absurd h Bool.false_ne_true
    | _ => exact absurd h Bool.false_ne_true
  | .and a b, ex, sc, W, Y, C, h, B => by
    cases ex with
    | BoolOp o xs p =>
      cases o with
      | And =>
        match xs, h with
        | [], h => exact absurd h Bool.false_ne_true
        | [_], h => exact absurd h Bool.false_ne_true
        | [x, y], h =>
          have h : (ckE T sc a x && ckE T sc b y) = true := h
          rw [Bool.and_eq_true] at h
          exact e_and C (okE a x C h.1 B) (pe_one (okE b y C h.2 B))
        | x :: y :: z :: r, h =>
          have h : (ckE T sc a x && ckE T sc b (.BoolOp .And (y :: z :: r) p)) = true := h
          rw [Bool.and_eq_true] at h
          exact e_and C (okE a x C h.1 B) (okE b _ C h.2 B)
      | Or => exact absurd h Bool.false_ne_true
    | _ => exact absurd h Bool.false_ne_true
  | .or a b, ex, sc, W, Y, C, h, B => by
    cases ex with
    | BoolOp o xs p =>
      cases o with
      | Or =>
        match xs, h with
        | [], h => exact absurd h Bool.false_ne_true
        | [_], h => exact absurd h Bool.false_ne_true
        | [x, y], h =>
          have h : (ckE T sc a x && ckE T sc b y) = true := h
          rw [Bool.and_eq_true] at h
          exact e_or C (okE a x C h.1 B) (pe_one (okE b y C h.2 B))
        | x :: y :: z :: r, h =>
          have h : (ckE T sc a x && ckE T sc b (.BoolOp .Or (y :: z :: r) p)) = true := h
          rw [Bool.and_eq_true] at h
          exact e_or C (okE a x C h.1 B) (okE b _ C h.2 B)
      | And => exact absurd h Bool.false_ne_true
    | _ => exact absurd h Bool.false_ne_true
  | .cmp op a b, ex, sc, W, Y, C, h, B => by
    unfold ckE at h
    split at h <;> first | (exact absurd h Bool.false_ne_true) | skip
    all_goals (try contradiction)
    · rename_i e1
      cases e1
      exact e_is (okE a _ C h B)
    · rename_i e1
      cases e1
      exact e_isnot (okE a _ C h B)
    · rename_i e1
      cases e1
      simp only [Bool.and_eq_true] at h
      exact e_cmp C h.1.1.1 h.1.1.2 (okE a _ C h.1.2 B) (okE b _ C h.2 B)
  | .cmp2 o1 o2 a b c, ex, sc, W, Y, C, h, B => by
    unfold ckE at h
    split at h <;> first | (exact absurd h Bool.false_ne_true) | skip
    all_goals (try contradiction)
    rename_i e1
    cases e1
    simp only [Bool.and_eq_true] at h
    obtain ⟨⟨⟨⟨⟨⟨h1, h2⟩, h3⟩, h4⟩, h5⟩, h6⟩, h7⟩ := h
    exact e_cmp2 C h1 h2 h4 (okE a _ C h5 B) (okE b _ C h6 B) (okE c _ C h7 B)
  | .ite c a b, ex, sc, W, Y, C, h, B => by
    cases ex with
    | IfExp t x y p =>
      have h : (ckT T sc c t && ckE T sc a x && ckE T sc b y) = true := h
      simp only [Bool.and_eq_true] at h
      exact e_ite (okT c t C h.1.1 B) (okE a x C h.1.2 B) (okE b y C h.2 B)
    | _ => exact absurd h Bool.false_ne_true
  | .idx a i, ex, sc, W, Y, C, h, B => by
    unfold ckE at h
    split at h <;> first | (exact absurd h Bool.false_ne_true) | skip
    all_goals (try contradiction)
    rename_i e1
    cases e1
    simp only [Bool.and_eq_true] at h
    exact e_idx C h.1.1 (okE a _ C h.1.2 B) (okE i _ C h.2 B)
  | .sl a lo hi, ex, sc, W, Y, C, h, B => by
    unfold ckE at h
    split at h <;> first | (exact absurd h Bool.false_ne_true) | skip
    all_goals (try contradiction)
    rename_i e1
    cases e1
    simp only [Bool.and_eq_true] at h
    exact e_sl C (okE a _ C h.1.1 B) (okO lo _ C h.1.2 B) (okO hi _ C h.2 B)
  | .rev a, ex, sc, W, Y, C, h, B => by
    unfold ckE at h
    split at h <;> first | (exact absurd h Bool.false_ne_true) | skip
    all_goals (try contradiction)
    rename_i e1
    cases e1
    exact e_rev C (okE a _ C h B)
  | .comp own tg it ifs elt, ex, sc, W, Y, C, h, B => by
    unfold ckE at h
    split at h <;> first | (exact absurd h Bool.false_ne_true) | skip
    all_goals (try contradiction)
    rename_i e1
    cases e1
    simp only [Bool.and_eq_true, decide_eq_true_eq] at h
    obtain ⟨⟨⟨h1, h2⟩, h3⟩, ⟨⟨⟨h4, h5⟩, h6⟩, h7⟩, h8⟩ := h
    exact e_comp C h1 h3 (okI it _ _ C h2 B) fun Z CZ B' => ⟨okGo own tg _ CZ h4 h8 B', okIf ifs _ CZ h5 h6 B', okE elt _ CZ h7 B'⟩
  | .call f es, ex, sc, W, Y, C, h, B => by
    cases ex with
    | Call fn xs kws p =>
      cases fn with
      | Name x q =>
        cases kws with
        | nil =>
          have h : ((match T.fns[f]? with | some fd => fd.glob && decide (fd.name = x) | none => false) && nameB x && glB sc x && ckEs T sc es xs) = true := h
          simp only [Bool.and_eq_true] at h
          obtain ⟨⟨⟨h1, h2⟩, h3⟩, h4⟩ := h
          cases hf : T.fns[f]? with
          | none => rw [hf] at h1; exact absurd h1 Bool.false_ne_true
          | some fd =>
            rw [hf] at h1
            simp only [Bool.and_eq_true, decide_eq_true_eq] at h1
            cases xs with
            | nil =>
              cases es with
              | nil => exact e_call0 C hf h1.1 h1.2 h3 h2
              | cons _ _ => exact absurd h4 Bool.false_ne_true
            | cons y ys => exact e_call C hf h1.1 h1.2 h3 h2 (flat_ck h4).1 (okAs es _ C h4 _ B)
        | cons _ _ => exact absurd h Bool.false_ne_true
      | _ => exact absurd h Bool.false_ne_true
    | _ => exact absurd h Bool.false_ne_true
  | .mk c es, ex, sc, W, Y, C, h, B => by
    cases ex with
    | Call fn xs kws p =>
      cases fn with
      | Name x q =>
        cases kws with
        | nil =>
          have h : ((match T.cls[c]? with | some cd => decide (cd.name = x) && decide (cd.init < T.fns.length) | none => false) && nameB x && glB sc x && ckEs T sc es xs && !xs.isEmpty) = true := h
          simp only [Bool.and_eq_true] at h
          obtain ⟨⟨⟨⟨h1, h2⟩, h3⟩, h4⟩, h5⟩ := h
          cases hf : T.cls[c]? with
          | none => rw [hf] at h1; exact absurd h1 Bool.false_ne_true
          | some cd =>
            rw [hf] at h1
            simp only [Bool.and_eq_true, decide_eq_true_eq] at h1
            cases xs with
            | nil => exact absurd h5 Bool.false_ne_true
            | cons y ys => exact e_mk C hf (List.getElem?_eq_getElem h1.2) h1.1 h3 h2 (flat_ck h4).1 (okL es _ C h4 B)
        | cons _ _ => exact absurd h Bool.false_ne_true
      | _ => exact absurd h Bool.false_ne_true
    | _ => exact absurd h Bool.false_ne_true
  | .bi b es, ex, sc, W, Y, C, h, B => by
    unfold ckE at h
    split at h <;> first | (exact absurd h Bool.false_ne_true) | skip
    all_goals (try contradiction)
    rename_i e1
    cases e1
    simp only [Bool.and_eq_true, decide_eq_true_eq] at h
    obtain ⟨⟨⟨h1, h2⟩, h3⟩, h4⟩ := h
    exact e_bi C h1 h2 (ne_len h4) (flat_ck h3).1 (okAs es _ C h3 _ B)
  | .rl t es, ex, sc, W, Y, C, h, B => by
    unfold ckE at h
    split at h <;> first | (exact absurd h Bool.false_ne_true) | skip
    all_goals (try contradiction)
    rename_i x _ y _ xs _ _ e1
    cases e1
    simp only [Bool.and_eq_true, decide_eq_true_eq] at h
    obtain ⟨⟨⟨⟨⟨⟨h1, h2⟩, h3⟩, h4⟩, h5⟩, h6⟩, h7⟩ := h
    subst h2
    have hne : xs.isEmpty = false := by cases xs with | nil => simp at h6 | cons _ _ => rfl
    exact e_rl C h1 h3 h4 (flat_ck h5).1 hne (okL es _ C h5 B)
  | .isi a t, ex, sc, W, Y, C, h, B => by
    unfold ckE at h
    split at h <;> first | (exact absurd h Bool.false_ne_true) | skip
    all_goals (try contradiction)
    rename_i e1
    cases e1
    simp only [Bool.and_eq_true, decide_eq_true_eq] at h
    obtain ⟨⟨⟨⟨⟨⟨h1, h2⟩, h3⟩, h4⟩, h5⟩, h6⟩, h7⟩ := h
    subst h1 h5
    have ht : ∀ c, t ≠ .cls c := fun c z => by subst z; exact absurd h7 Bool.false_ne_true
    exact e_isi C h2 h3 (okE a _ C h4 B) h6 (C.fx.ty t ht) ht
  | .app i e, ex, sc, W, Y, C, h, B => by
    cases ex with
    | Call fn xs kws p =>
      cases fn with
      | Attribute o m ap =>
        cases o with
        | Name x q =>
          match xs, kws, h with
          | [], _, h => exact absurd h Bool.false_ne_true
          | _ :: _ :: _, _, h => exact absurd h Bool.false_ne_true
          | [_], _ :: _, h => exact absurd h Bool.false_ne_true
          | [y], [], h =>
            have h : (slotB sc i x && visB sc x && decide (m = "append") && noStar y && ckE T sc e y && (ap.endLine == p.line)) = true := h
            simp only [Bool.and_eq_true, decide_eq_true_eq] at h
            obtain ⟨⟨⟨⟨⟨h1, h2⟩, h3⟩, h4⟩, h5⟩, h6⟩ := h
            subst h3
            exact e_app C h1 h2 (by simpa using h6) h4 (okE e _ C h5 B)
        | _ => cases xs <;> exact absurd h Bool.false_ne_true
      | _ => cases xs <;> exact absurd h Bool.false_ne_true
    | _ => exact absurd h Bool.false_ne_true
  | .get o es, ex, sc, W, Y, C, h, B => by
    unfold ckE at h
    split at h <;> first | (exact absurd h Bool.false_ne_true) | skip
    all_goals (try contradiction)
    rename_i e1
    cases e1
    simp only [Bool.and_eq_true, decide_eq_true_eq] at h
    obtain ⟨⟨⟨⟨h1, h2⟩, h3⟩, h4⟩, h5⟩ := h
    subst h1
    match es, h3 with
    | .nil, h3 => exact absurd h3 Bool.false_ne_true
    | .cons a .nil, h3 =>
      have h3 : (ckE T sc a _ && noStar _ && false) = true := h3
      rw [Bool.and_false] at h3
      exact absurd h3 Bool.false_ne_true
    | .cons a (.cons b (.cons c r)), h3 =>
      have h3 : (ckE T sc a _ && noStar _ && (ckE T sc b _ && noStar _ && false)) = true := h3
      rw [Bool.and_false, Bool.and_false] at h3
      exact absurd h3 Bool.false_ne_true
    | .cons a (.cons b .nil), h3 =>
      have h3 : (ckE T sc a _ && noStar _ && (ckE T sc b _ && noStar _ && true)) = true := h3
      simp only [Bool.and_eq_true] at h3
      exact e_get C h4 h5 h3.1.2 h3.2.1.2 (okE o _ C h2 B) (okE a _ C h3.1.1 B) (okE b _ C h3.2.1.1 B)
  | .fld o f, ex, sc, W, Y, C, h, B => by
    unfold ckE at h
    split at h <;> first | (exact absurd h Bool.false_ne_true) | skip
    all_goals (try contradiction)
    rename_i e1
    cases e1
    simp only [Bool.and_eq_true, decide_eq_true_eq] at h
    exact e_fld C h.1.1 h.2 (okE o _ C h.1.2 B)
theorem okL : (es : Xs) → ∀ (xs : List Expr) {sc : Sc} {W : WX} {Y : Cx}, CO G T sc k W Y → ckEs T sc es xs = true → ∀ B, PA Y xs (tL G B W (evL T (callT T k) es))
  | .nil, [], sc, W, Y, C, h, B => l_nil
  | .nil, _ :: _, sc, W, Y, C, h, B => absurd h Bool.false_ne_true
  | .cons a r, [], sc, W, Y, C, h, B => absurd h Bool.false_ne_true
  | .cons a r, x :: xs, sc, W, Y, C, h, B => by
    have h : (ckE T sc a x && noStar x && ckEs T sc r xs) = true := h
    simp only [Bool.and_eq_true] at h
    exact l_cons h.1.2 (okE a x C h.1.1 B) (okL r xs C h.2 B)
theorem okAs : (es : Xs) → ∀ (xs : List Expr) {sc : Sc} {W : WX} {Y : Cx}, CO G T sc k W Y → ckEs T sc es xs = true → ∀ rs B, PA Y xs (tAs G B W (evAs T (callT T k) es rs))
  | .nil, [], sc, W, Y, C, h, rs, B => as_nil
  | .nil, _ :: _, sc, W, Y, C, h, rs, B => absurd h Bool.false_ne_true
  | .cons a r, [], sc, W, Y, C, h, rs, B => absurd h Bool.false_ne_true
  | .cons a r, x :: xs, sc, W, Y, C, h, rs, B => by
    cases rs with
    | nil =>
      have h : (ckE T sc a x && noStar x && ckEs T sc r xs) = true := h
      simp only [Bool.and_eq_true] at h
      exact as_bad (l_cons h.1.2 (okE a x C h.1.1 B) (okL r xs C h.2 B))
    | cons b rs =>
      have h : (ckE T sc a x && noStar x && ckEs T sc r xs) = true := h
      simp only [Bool.and_eq_true] at h
      exact as_cons (r := b) h.1.2 (okE a x C h.1.1 B) (okAs r xs C h.2 rs B)
theorem okO : (o : Xo) → ∀ (ex : Option Expr) {sc : Sc} {W : WX} {Y : Cx}, CO G T sc k W Y → ckO T sc o ex = true → ∀ B, PO Y ex (tO G B W (evO T (callT T k) o))
  | .none, none, sc, W, Y, C, h, B => o_none
  | .none, some _, sc, W, Y, C, h, B => absurd h Bool.false_ne_true
  | .some _, none, sc, W, Y, C, h, B => absurd h Bool.false_ne_true
  | .some a, some x, sc, W, Y, C, h, B => o_some (okE a x C h B)
theorem okT : (t : Te) → ∀ (ex : Expr) {sc : Sc} {W : WX} {Y : Cx}, CO G T sc k W Y → ckT T sc t ex = true → ∀ B, PT Y ex (tT G B W (evT T (callT T k) t))
  | .val a, ex, sc, W, Y, C, h, B => by
    have h : (plainT ex && ckE T sc a ex) = true := h
    rw [Bool.and_eq_true] at h
    exact t_val C h.1 (okE a ex C h.2 B)
  | .not t, ex, sc, W, Y, C, h, B => by
    unfold ckT at h
    split at h <;> first | (exact absurd h Bool.false_ne_true) | skip
    all_goals (try contradiction)
    rename_i e1
    cases e1
    exact t_not (okT t _ C h B)
  | .and ts, ex, sc, W, Y, C, h, B => by
    unfold ckT at h
    split at h <;> first | (exact absurd h Bool.false_ne_true) | skip
    all_goals (try contradiction)
    rename_i e1
    cases e1
    rw [Bool.and_eq_true] at h
    exact (okAll ts _ _ C h.1 (ne_len h.2) B).pt
  | .or ts, ex, sc, W, Y, C, h, B => by
    unfold ckT at h
    split at h <;> first | (exact absurd h Bool.false_ne_true) | skip
    all_goals (try contradiction)
    rename_i e1
    cases e1
    rw [Bool.and_eq_true] at h
    exact (okAny ts _ _ C h.1 (ne_len h.2) B).pt
  | .cmp op a b, ex, sc, W, Y, C, h, B => by
    unfold ckT at h
    split at h <;> first | (exact absurd h Bool.false_ne_true) | skip
    all_goals (try contradiction)
    · rename_i e1
      cases e1
      exact t_is (okE a _ C h B)
    · rename_i e1
      cases e1
      exact t_isnot (okE a _ C h B)
    · rename_i e1
      cases e1
      simp only [Bool.and_eq_true] at h
      exact t_cmp C h.1.1.1 h.1.1.2 (okE a _ C h.1.2 B) (okE b _ C h.2 B)
  | .cmp2 o1 o2 a b c, ex, sc, W, Y, C, h, B => by
    unfold ckT at h
    split at h <;> first | (exact absurd h Bool.false_ne_true) | skip
    all_goals (try contradiction)
    rename_i e1
    cases e1
    simp only [Bool.and_eq_true] at h
    obtain ⟨⟨⟨⟨⟨⟨h1, h2⟩, h3⟩, h4⟩, h5⟩, h6⟩, h7⟩ := h
    exact t_cmp2 C h1 h2 h4 (okE a _ C h5 B) (okE b _ C h6 B) (okE c _ C h7 B)
theorem okAll : (ts : Tes) → ∀ (xs : List Expr) (p : Pos) {sc : Sc} {W : WX} {Y : Cx}, CO G T sc k W Y → ckTs T sc ts xs = true → xs.isEmpty = false → ∀ B, PW Y (.BoolOp .And xs p) (tT G B W (evAll T (callT T k) ts))
  | .nil, [], p, sc, W, Y, C, h, hn, B => absurd hn.symm Bool.false_ne_true
  | .nil, _ :: _, p, sc, W, Y, C, h, hn, B => absurd h Bool.false_ne_true
  | .cons t ts, [], p, sc, W, Y, C, h, hn, B => absurd h Bool.false_ne_true
  | .cons t ts, [x], p, sc, W, Y, C, h, hn, B => by
    have h : (ckT T sc t x && ckTs T sc ts []) = true := h
    rw [Bool.and_eq_true] at h
    cases ts with
    | nil => exact w_and1 (okT t x C h.1 B)
    | cons _ _ => exact absurd h.2 Bool.false_ne_true
  | .cons t ts, x :: y :: r, p, sc, W, Y, C, h, hn, B => by
    have h : (ckT T sc t x && ckTs T sc ts (y :: r)) = true := h
    rw [Bool.and_eq_true] at h
    exact w_and (okT t x C h.1 B) (okAll ts (y :: r) p C h.2 rfl B)
theorem okAny : (ts : Tes) → ∀ (xs : List Expr) (p : Pos) {sc : Sc} {W : WX} {Y : Cx}, CO G T sc k W Y → ckTs T sc ts xs = true → xs.isEmpty = false → ∀ B, PW Y (.BoolOp .Or xs p) (tT G B W (evAny T (callT T k) ts))
  | .nil, [], p, sc, W, Y, C, h, hn, B => absurd hn.symm Bool.false_ne_true
  | .nil, _ :: _, p, sc, W, Y, C, h, hn, B => absurd h Bool.false_ne_true
  | .cons t ts, [], p, sc, W, Y, C, h, hn, B => absurd h Bool.false_ne_true
  | .cons t ts, [x], p, sc, W, Y, C, h, hn, B => by
    have h : (ckT T sc t x && ckTs T sc ts []) = true := h
    rw [Bool.and_eq_true] at h
    cases ts with
    | nil => exact w_or1 (okT t x C h.1 B)
    | cons _ _ => exact absurd h.2 Bool.false_ne_true
  | .cons t ts, x :: y :: r, p, sc, W, Y, C, h, hn, B => by
    have h : (ckT T sc t x && ckTs T sc ts (y :: r)) = true := h
    rw [Bool.and_eq_true] at h
    exact w_or (okT t x C h.1 B) (okAny ts (y :: r) p C h.2 rfl B)
theorem okIf : (ts : Tes) → ∀ (xs : List Expr) {sc : Sc} {W : WX} {Y : Cx}, CO G T sc k W Y → ckTs T sc ts xs = true → xs.length ≤ 1 → ∀ B, PTs Y xs (tT G B W (evAll T (callT T k) ts))
  | .nil, [], sc, W, Y, C, h, hn, B => pts_no
  | .nil, _ :: _, sc, W, Y, C, h, hn, B => absurd h Bool.false_ne_true
  | .cons t ts, [], sc, W, Y, C, h, hn, B => absurd h Bool.false_ne_true
  | .cons t ts, [x], sc, W, Y, C, h, hn, B => by
    have h : (ckT T sc t x && ckTs T sc ts []) = true := h
    rw [Bool.and_eq_true] at h
    cases ts with
    | nil => exact pts_of (okT t x C h.1 B)
    | cons _ _ => exact absurd h.2 Bool.false_ne_true
  | .cons t ts, x :: y :: r, sc, W, Y, C, h, hn, B => by simp at hn
theorem okI : (t : PX.It) → ∀ (ex tg : Expr) {sc : Sc} {W : WX} {Y : Cx}, CO G T sc k W Y → ckI T sc t ex tg = true → ∀ B, PI Y tg ex (tI G B W (evI T (callT T k) t))
  | .seq e, ex, tg, sc, W, Y, C, h, B => i_seq C (okE e ex C h B)
  | .rng es, ex, tg, sc, W, Y, C, h, B => by
    cases ex with
    | Call fn xs kws p =>
      cases fn with
      | Name x q =>
        cases kws with
        | nil =>
          have h : (decide (x = "range") && glB sc x && ckEs T sc es xs && decide (1 ≤ xs.length) && decide (xs.length ≤ 3)) = true := h
          simp only [Bool.and_eq_true, decide_eq_true_eq] at h
          obtain ⟨⟨⟨⟨h1, h2⟩, h3⟩, h4⟩, h5⟩ := h
          subst h1
          have hne : xs.isEmpty = false := by cases xs with | nil => simp at h4 | cons _ _ => rfl
          exact i_rng C h2 (flat_ck h3).1 hne (okL es _ C h3 B)
        | cons _ _ => exact absurd h Bool.false_ne_true
      | _ => exact absurd h Bool.false_ne_true
    | _ => exact absurd h Bool.false_ne_true
  | .enum e, ex, tg, sc, W, Y, C, h, B => by
    cases tg with
    | Tuple es kk tp =>
      cases ex with
      | Call fn xs kws p =>
        cases fn with
        | Name x q =>
          match xs, kws, h with
          | [], _, h => exact absurd h Bool.false_ne_true
          | _ :: _ :: _, _, h => exact absurd h Bool.false_ne_true
          | [_], _ :: _, h => exact absurd h Bool.false_ne_true
          | [y], [], h =>
            have h : (decide (x = "enumerate") && glB sc x && ckE T sc e y && noStar y) = true := h
            simp only [Bool.and_eq_true, decide_eq_true_eq] at h
            obtain ⟨⟨⟨h1, h2⟩, h3⟩, h4⟩ := h
            subst h1
            exact i_enum C h2 h4 (okE e _ C h3 B)
        | _ => cases xs <;> exact absurd h Bool.false_ne_true
      | _ => exact absurd h Bool.false_ne_true
    | _ => unfold ckI at h; split at h <;> first | (exact absurd h Bool.false_ne_true) | (rename_i e2; cases e2) | contradiction
  | .zip es, ex, tg, sc, W, Y, C, h, B => by
    cases tg with
    | Tuple ts kk tp =>
      cases ex with
      | Call fn xs kws p =>
        cases fn with
        | Name x q =>
          cases kws with
          | nil =>
            have h : (decide (x = "zip") && glB sc x && ckEs T sc es xs && decide (2 ≤ xs.length) && decide (xs.length ≤ 3)) = true := h
            simp only [Bool.and_eq_true, decide_eq_true_eq] at h
            obtain ⟨⟨⟨⟨h1, h2⟩, h3⟩, h4⟩, h5⟩ := h
            subst h1
            have q := i_zip (es := ts) (kk := kk) (q := q) (tp := tp) (pos := p) C h2 (flat_ck h3).1 h4 h5 (okL es _ C h3 B)
            rw [(flat_ck h3).2] at q
            exact q
          | cons _ _ => exact absurd h Bool.false_ne_true
        | _ => exact absurd h Bool.false_ne_true
      | _ => exact absurd h Bool.false_ne_true
    | _ => unfold ckI at h; split at h <;> first | (exact absurd h Bool.false_ne_true) | (rename_i e2; cases e2) | contradiction
  | .items e, ex, tg, sc, W, Y, C, h, B => by
    cases tg with
    | Tuple ts kk tp =>
      cases ex with
      | Call fn xs kws p =>
        cases fn with
        | Attribute o m ap =>
          match xs, kws, h with
          | _ :: _, _, h => exact absurd h Bool.false_ne_true
          | [], _ :: _, h => exact absurd h Bool.false_ne_true
          | [], [], h =>
            have h : (decide (m = "items") && ckE T sc e o && (ap.endLine == p.line) && noSuper o) = true := h
            simp only [Bool.and_eq_true, decide_eq_true_eq] at h
            obtain ⟨⟨⟨h1, h2⟩, h3⟩, h4⟩ := h
            subst h1
            exact i_items (by simpa using h3) h4 (okE e _ C h2 B)
        | _ => cases xs <;> exact absurd h Bool.false_ne_true
      | _ => exact absurd h Bool.false_ne_true
    | _ => unfold ckI at h; split at h <;> first | (exact absurd h Bool.false_ne_true) | (rename_i e2; cases e2) | contradiction
theorem okG : (t : Tg) → ∀ (ex : Expr) {sc : Sc} {W : WX} {Y : Cx}, CO G T sc k W Y → ckG T sc t ex = true → (∀ i f, t ≠ .fld i f) → ∀ B, PG Y ex (tG G B W (evG T (callT T k) t))
  | .nm i, ex, sc, W, Y, C, h, hf, B => by
    cases ex with
    | Name x p =>
      have h : (slotB sc i x && locB sc x) = true := h
      rw [Bool.and_eq_true] at h
      exact g_name C h.1 h.2
    | _ => exact absurd h Bool.false_ne_true
  | .tup ts, ex, sc, W, Y, C, h, hf, B => by
    cases ex with
    | Tuple xs j p =>
      have h : (ckGs T sc ts xs && nmGs ts) = true := h
      rw [Bool.and_eq_true] at h
      rw [evG_tup]
      exact g_tup C (flat_gk h.1).1 (flat_gk h.1).2 (okGs ts xs C h.1 h.2 B)
    | _ => exact absurd h Bool.false_ne_true
  | .sub i e, ex, sc, W, Y, C, h, hf, B => by
    cases ex with
    | Subscript o y p =>
      cases o with
      | Name x q =>
        have h : (slotB sc i x && visB sc x && noSlice y && ckE T sc e y) = true := h
        simp only [Bool.and_eq_true] at h
        exact g_sub C h.1.1.1 h.1.1.2 h.1.2 (okE e y C h.2 B)
      | _ => exact absurd h Bool.false_ne_true
    | _ => exact absurd h Bool.false_ne_true
  | .fld i f, ex, sc, W, Y, C, h, hf, B => absurd rfl (hf i f)
theorem okGs : (ts : Tgs) → ∀ (xs : List Expr) {sc : Sc} {W : WX} {Y : Cx}, CO G T sc k W Y → ckGs T sc ts xs = true → nmGs ts = true → ∀ B, PGs Y xs (tGs G B W (evGs T (callT T k) ts))
  | .nil, [], sc, W, Y, C, h, hn, B => by
    rw [evGs_nil]; exact gs_nil
  | .nil, _ :: _, sc, W, Y, C, h, hn, B => absurd h Bool.false_ne_true
  | .cons a r, [], sc, W, Y, C, h, hn, B => absurd h Bool.false_ne_true
  | .cons a r, x :: xs, sc, W, Y, C, h, hn, B => by
    have h : (ckG T sc a x && noStar x && ckGs T sc r xs) = true := h
    simp only [Bool.and_eq_true] at h
    have hn : (nmG a && nmGs r) = true := hn
    rw [Bool.and_eq_true] at hn
    rw [evGs_cons]
    exact gs_cons h.1.2 (okG a x C h.1.1 (fun i f z => by subst z; exact absurd hn.1 Bool.false_ne_true) B) (okGs r xs C h.2 hn.2 B)
theorem okGo : (own : List Nat) → (t : Tg) → ∀ (ex : Expr) {sc : Sc} {W : WX} {Y : Cx}, CO G T sc k W Y → ckG T sc t ex = true → inOwn own t = true → ∀ B, PG Y ex (tGo G B W own (evG T (callT T k) t))
  | own, .nm i, ex, sc, W, Y, C, h, ho, B => by
    cases ex with
    | Name x p =>
      have h : (slotB sc i x && locB sc x) = true := h
      rw [Bool.and_eq_true] at h
      have ho : decide (i ∈ own) = true := ho
      exact go_name C h.1 h.2 (of_decide_eq_true ho)
    | _ => exact absurd h Bool.false_ne_true
  | own, .tup ts, ex, sc, W, Y, C, h, ho, B => by
    cases ex with
    | Tuple xs j p =>
      have h : (ckGs T sc ts xs && nmGs ts) = true := h
      have ho : inOwns own ts = true := ho
      rw [Bool.and_eq_true] at h
      have h := h.1
      rw [evG_tup]
      exact go_tup C (flat_gk h).1 (flat_gk h).2 (okGso own ts xs C h ho B)
    | _ => exact absurd h Bool.false_ne_true
  | own, .sub _ _, ex, sc, W, Y, C, h, ho, B => absurd ho Bool.false_ne_true
  | own, .fld _ _, ex, sc, W, Y, C, h, ho, B => absurd ho Bool.false_ne_true
theorem okGso : (own : List Nat) → (ts : Tgs) → ∀ (xs : List Expr) {sc : Sc} {W : WX} {Y : Cx}, CO G T sc k W Y → ckGs T sc ts xs = true → inOwns own ts = true → ∀ B, PGs Y xs (tGso G B W own (evGs T (callT T k) ts))
  | own, .nil, [], sc, W, Y, C, h, ho, B => by
    rw [evGs_nil]; exact gso_nil
  | own, .nil, _ :: _, sc, W, Y, C, h, ho, B => absurd h Bool.false_ne_true
  | own, .cons a r, [], sc, W, Y, C, h, ho, B => absurd h Bool.false_ne_true
  | own, .cons a r, x :: xs, sc, W, Y, C, h, ho, B => by
    have h : (ckG T sc a x && noStar x && ckGs T sc r xs) = true := h
    have ho : (inOwn own a && inOwns own r) = true := ho
    simp only [Bool.and_eq_true] at h ho
    rw [evGs_cons]
    exact gso_cons h.1.2 (okGo own a x C h.1.1 ho.1 B) (okGso own r xs C h.2 ho.2 B)
end
end
end PX

end
section
set_option Elab.async false
set_option linter.all false
set_option maxRecDepth 100000
set_option maxHeartbeats 4000000
/-! PXsa: raise, and a try whose clauses hand something back. -/
namespace PX
open PySem PySem.Spec PyProof.Rows L2

/-- what statements ask of the frame -/
structure PO (Y : Cx) : Prop where
  own : PassesOwn (model Y.prog Y.w) Y.A Y.env Y.xe
  stk : Y.stack = Y.env :: Y.outer
  frm : Y.env.frame = some Y.env.locals
section
variable {G : Ct} {B : Bs} {W : WX} {σ σ' : L2.St} {F F' H H' : Hp} {e e' : Env} {v : V} {d : D} {X : Cx} {k : Nat} {T : Tab} {sc : Sc} {pos : Pos} {D : Ends}
theorem fmt_v (h : fmtD d = true) (r : Rep G F v d) : fmtV v := by
  cases r <;> first | exact absurd h Bool.false_ne_true | skip
  · unfold fmtD at h
    simp only [Bool.and_eq_true, decide_eq_true_eq] at h
    exact .inr ⟨_, rfl, h.1, h.2⟩
  · unfold fmtD at h
    exact .inl ⟨_, rfl, of_decide_eq_true h⟩
def raiseM (T : Tab) (c : Nat) (m : M PX.D) : M Flow := bnd m fun d => fun e => match T.errs[c]? with
    | some ed => if fmtD d then .exc (T.cls.length + c) ed.fld d e else .bad
    | none => .bad
theorem s_raise {x : Str} {y : Expr} {c : Nat} {ed : Ed} {ma : M AV} {p p2 : Pos} (C : CO G T sc k W X) (he : T.errs[c]? = some ed) (hx : ed.name = x) (hn : nameB x = true) (hg : glB sc x = true) (hs : noStar y = true) (ha : PE X y (tE G B W ma)) :
    PS X (.Raise (some (.Call (.Name x p) [y] [] p2)) none pos) (tS G B W (raiseM T c (dataM ma))) := by
  obtain ⟨fI, st, fld, hf, E⟩ := C.fx.errs c ed he
  rw [hx, ← C.xc.P, ← C.xc.K, ← C.xc.mg] at E
  refine ps_weak (ps_raise C.xc.calm C.tk (pmk_err (k := 2 * k) E C.xc.room (pa_cons (data_e ha) pa_nil (star_ok hs)) (glB_ok C.run hg) (nameB_ok hn).1 (star_ok hs))) fun D σ H q => ?_
  obtain ⟨F, e, S, q⟩ := q
  refine ⟨F, e, S, ((PrS.bnd q).pr σ).imp fun d e1 F1 H1 _ S1 k1 v rv => ?_⟩
  simp only [he] at k1
  by_cases hd : fmtD d = true
  · rw [if_pos hd] at k1
    refine ⟨v, rfl, fmt_v hd rv, fun a ha => ?_⟩
    obtain ⟨S2, s2⟩ := S1.fresh (o := .xd [(fld, v)]) ha
    exact k1 _ σ _ _ _ s2 S2 ⟨rfl, a, v, rfl, by rw [C.fx.nm _ _ hf]; exact upd_same, rv.mono s2⟩
  · rw [if_neg hd] at k1
    exact k1.elim

/-! ### the clauses -/
/-- a slot becomes empty, whatever its name holds meanwhile -/
theorem Sat.off {i : Nat} {sv : Option V} (S : Sat G B F e σ H) : Sat G B F (e.set i .non) (σ.set i sv) H := by
  have ow : ∀ j a, ownAt (e.set i .non) (σ.set i sv) j a → ownAt e σ j a := fun j a h => by
    by_cases q : j = i
    · subst q
      have h1 := h.1
      unfold isOwn at h1
      by_cases hl : j < e.length
      · rw [List.getElem?_set_self hl] at h1; cases h1
      · rw [List.getElem?_eq_none (by rw [List.length_set]; omega)] at h1; cases h1
    · exact ⟨by rw [← isOwn_set_ne (s := .non) q]; exact h.1, by have := h.2; rwa [List.getElem?_set_ne (Ne.symm q)] at this⟩
  refine ⟨S.sub, S.f0, S.frm, S.liv, S.new, fun j s es => ?_, fun j k b hj hk => S.apart j k b (ow j b hj) (ow k b hk), by rw [List.length_set, List.length_set]; exact S.len⟩
  by_cases q : j = i
  · subst q
    by_cases hl : j < e.length
    · rw [List.getElem?_set_self hl] at es; cases es; trivial
    · rw [List.getElem?_eq_none (by rw [List.length_set]; omega)] at es; cases es
  · rw [List.getElem?_set_ne (Ne.symm q)] at es
    rw [List.getElem?_set_ne (Ne.symm q)]
    exact S.slot j s es
/-- the exception's field, in a clause's suite -/
def fldT (G : Ct) (T : Tab) (q : Clz) (a : Addr) (cls : Value) (d : Option Addr) : TE := tFldE (G.cA (T.cls.length + q.c)) a cls d (T.nms[q.f]?.getD "") (tVar q.i)
def claT (G : Ct) (T : Tab) (q : Clz) : Addr → Value → Option Addr → TS := fun a cls d => match q.fm with
  | .pl => tRet (fldT G T q a cls d)
  | .pre s => tRet (tOp (fun x y H Q => ∃ i j, x = .str i ∧ y = .str j ∧ i.length + j.length ≤ sizeLine ∧ Q (.str (i ++ j)) H) (tC (.str s)) (fldT G T q a cls d))
  | .tag n => tRet (tTup (tCons (tC (.int n)) (tCons (fldT G T q a cls d) tNil)))
def claO (G : Ct) (T : Tab) (q : Clz) : Cla := ⟨.ref (G.cA (T.cls.length + q.c)), q.i, claT G T q⟩
/-- e.f of the text -/
def ckFl (T : Tab) (q : Clz) (n : Str) : Expr → Bool
  | .Attribute (.Name n2 _) m _ => decide (n2 = n) && decide (T.nms[q.f]? = some m)
  | _ => false
def ckFm (T : Tab) (q : Clz) (n : Str) : Expr → Bool
  | .BinOp (.Constant (.str s) _ _) .Add y _ => (match q.fm with | .pre s2 => decide (s2 = s) | _ => false) && ckFl T q n y
  | .Tuple [.Constant (.int j) _ _, y] _ _ => (match q.fm with | .tag j2 => decide (j2 = j) | _ => false) && ckFl T q n y && noStar y
  | y => (match q.fm with | .pl => true | _ => false) && ckFl T q n y
def ckCl (T : Tab) (sc : Sc) (q : Clz) : ExceptHandler → Bool
  | .ExceptHandler (some (.Name x _)) (some n) [.Return (some y) _] _ => (match T.errs[q.c]? with | some ed => decide (ed.name = x) && decide (ed.fld = q.f) | none => false) && nameB x && glB sc x && slotB sc q.i n && decide (sc.run.names.lookup n = some .local) && ckFm T q n y
  | _ => false
def ckCls (T : Tab) (sc : Sc) : List Clz → List ExceptHandler → Bool
  | [], [] => true
  | q :: r, h :: hs => ckCl T sc q h && ckCls T sc r hs
  | _, _ => false
theorem fl_ok {q : Clz} {n : Str} {y : Expr} {a : Addr} {oe : Obj} {cls : Value} {d : Option Addr} {pn : List (Addr × Obj)} (C : CO G T sc k W X) {ed : Ed} (he : T.errs[q.c]? = some ed) (hef : ed.fld = q.f) (hsl : slotB sc q.i n = true) (hloc : sc.run.names.lookup n = some .local)
    (h : ckFl T q n y = true) (hz : Zc cls d oe) (hf : ∃ vs, oe.data = .fields vs) : PE (X.suite a ((a, oe) :: pn)) y (fldT G T q a cls d) := by
  unfold ckFl at h
  split at h
  · rename_i n2 p1 m p2
    simp only [Bool.and_eq_true, decide_eq_true_eq] at h
    obtain ⟨rfl, hm⟩ := h
    obtain ⟨fI, st, fld, hfl, E⟩ := C.fx.errs q.c ed he
    rw [← C.xc.P, ← C.xc.K, ← C.xc.mg] at E
    rw [hef, hm] at hfl
    cases hfl
    obtain ⟨h1, h2⟩ := slotB_ok C.N hsl
    obtain ⟨d1, d2, _⟩ := nameB_ok h2
    unfold fldT
    rw [hm]
    exact pe_fldE E hz hf (pe_var (X := X.suite a ((a, oe) :: pn)) h1 (show Vis X.env.scope n2 by rw [C.run]; exact .inl hloc) d1 d2) (super_ok (e := .Name n2 p1) rfl)
  · cases h
theorem cl_ok {q : Clz} {hd : ExceptHandler} {hds : List ExceptHandler} {l : List Cla} (C : CO G T sc k W X) (h : ckCl T sc q hd = true) (r : ClaOk X hds l) : ClaOk X (hd :: hds) (claO G T q :: l) := by
  unfold ckCl at h
  split at h
  · rename_i x np n y p2 p3
    simp only [Bool.and_eq_true, decide_eq_true_eq] at h
    obtain ⟨⟨⟨⟨⟨h1, h2⟩, h3⟩, h4⟩, h5⟩, h6⟩ := h
    cases he : T.errs[q.c]? with
    | none => rw [he] at h1; cases h1
    | some ed =>
      rw [he] at h1
      simp only [Bool.and_eq_true, decide_eq_true_eq] at h1
      obtain ⟨hx, hef⟩ := h1
      obtain ⟨fI, st, fld, hfl, E⟩ := C.fx.errs q.c ed he
      obtain ⟨g1, g2⟩ := slotB_ok C.N h4
      refine .cons g1 (show X.env.kindOf n = some .local by unfold Env.kindOf; rw [C.run]; exact h5) ⟨glB_ok C.run h3, (nameB_ok h2).1, .inl (by rw [C.xc.mg, ← hx]; exact E.gC)⟩ (fun a oe cls d pn hz hf => ?_) r
      have hfl' : ∀ y, ckFl T q n y = true → PE (X.suite a ((a, oe) :: pn)) y (fldT G T q a cls d) := fun y hy => fl_ok C he hef h4 h5 hy hz hf
      show PSs (X.suite a ((a, oe) :: pn)) [.Return (some y) p2] (claT G T q a cls d)
      unfold ckFm at h6
      unfold claT
      split at h6
      · simp only [Bool.and_eq_true] at h6
        obtain ⟨h6, h7⟩ := h6
        cases hm : q.fm with
        | pre s2 =>
          rw [hm] at h6
          have := of_decide_eq_true h6
          subst this
          exact pss_one (ps_ret (pe_op op_add_str pe_str (hfl' _ h7)))
        | _ => rw [hm] at h6; cases h6
      · simp only [Bool.and_eq_true] at h6
        obtain ⟨⟨h6, h7⟩, h8⟩ := h6
        cases hm : q.fm with
        | tag j2 =>
          rw [hm] at h6
          have := of_decide_eq_true h6
          subst this
          exact pss_one (ps_ret (pe_tup (pa_cons pe_int (pa_cons (hfl' _ h7) pa_nil (star_ok h8)) rfl)))
        | _ => rw [hm] at h6; cases h6
      · simp only [Bool.and_eq_true] at h6
        obtain ⟨h6, h7⟩ := h6
        cases hm : q.fm with
        | pl => exact pss_one (ps_ret (hfl' _ h7))
        | _ => rw [hm] at h6; cases h6
  · cases h
theorem cls_ok (C : CO G T sc k W X) : ∀ {cs : List Clz} {hds : List ExceptHandler}, ckCls T sc cs hds = true → ClaOk X hds (cs.map (claO G T))
  | [], [], _ => .nil
  | q :: r, h :: hs, hk => by
    have hk : (ckCl T sc q h && ckCls T sc r hs) = true := hk
    rw [Bool.and_eq_true] at hk
    exact cl_ok C hk.1 (cls_ok C hk.2)
  | [], _ :: _, h => absurd h Bool.false_ne_true
  | _ :: _, [], h => absurd h Bool.false_ne_true
theorem ck_errs (fx : Fx0 G T) : ∀ {cs : List Clz} {hds : List ExceptHandler}, ckCls T sc cs hds = true → ∀ q ∈ cs, q.c < T.errs.length ∧ ∃ m, T.nms[q.f]? = some m
  | q :: r, h :: hs, hk, q', hq => by
    have hk : (ckCl T sc q h && ckCls T sc r hs) = true := hk
    rw [Bool.and_eq_true] at hk
    rcases List.mem_cons.mp hq with rfl | hq
    · have h1 := hk.1
      unfold ckCl at h1
      split at h1
      · simp only [Bool.and_eq_true] at h1
        obtain ⟨⟨⟨⟨⟨h1, _⟩, _⟩, _⟩, _⟩, _⟩ := h1
        cases he : T.errs[q'.c]? with
        | none => rw [he] at h1; cases h1
        | some ed =>
          rw [he] at h1
          simp only [Bool.and_eq_true, decide_eq_true_eq] at h1
          obtain ⟨fI, st, fld, hfl, _⟩ := fx.errs q'.c ed he
          rw [h1.2] at hfl
          exact ⟨(List.getElem?_eq_some_iff.mp he).1, fld, hfl⟩
      · cases h1
    · exact ck_errs fx hk.2 q' hq
def caughtR (T : Tab) (cs : List Clz) (c f : Nat) (d : PX.D) (e' : Env) : R Flow := match pickC T.cls.length c cs with
      | none => .exc c f d e'
      | some q => if f = q.f ∧ plainSlot e' q.i = true then (match cfD q.fm d with
        | some r => .ok (.ret (.d r)) (e'.set q.i .non)
        | none => .bad) else .bad
theorem cla_w (C : CO G T sc k W X) {j f : Nat} (hj : j < T.errs.length) : ∀ {cs : List Clz}, (∀ q ∈ cs, q.c < T.errs.length ∧ ∃ m, T.nms[q.f]? = some m) → PrS G B W (caughtR T cs (T.cls.length + j) f d e) F (KS G B D) →
    ∀ {F' σ' H' cls dx}, Same F F' → Sat G B F' e σ' H' → ExcOk G F' H' cls dx (T.cls.length + j) f d → wCla X.K W D (cs.map (claO G T)) cls dx σ' H'
  | [], _, h, F', σ', H', cls, dx, s, S, x => h F' σ' H' cls dx s S x
  | q :: r, hq, h, F', σ', H', cls, dx, s, S, x => by
    have hx := x
    obtain ⟨rfl, dd, v, rfl, hdd, rv⟩ := x
    obtain ⟨hqc, m, hm⟩ := hq q List.mem_cons_self
    refine ⟨decide (j = q.c), by rw [C.xc.K]; exact C.fx.exm j q.c hj hqc, fun hb a ha => ?_, fun hb => ?_⟩
    · have hb := of_decide_eq_true hb
      subst hb
      have hp : pickC T.cls.length (T.cls.length + q.c) (q :: r) = some q := by unfold pickC; rw [if_pos rfl]
      unfold caughtR at h
      rw [hp] at h
      dsimp only at h
      by_cases hc : f = q.f ∧ plainSlot e q.i = true
      · rw [if_pos hc] at h
        obtain ⟨rfl, hpl⟩ := hc
        have hi : q.i < σ'.length := by
          rw [← S.len]
          unfold plainSlot at hpl
          cases es : e[q.i]? with
          | none => rw [es] at hpl; cases hpl
          | some _ => exact (List.getElem?_eq_some_iff.mp es).1
        have hv : (σ'.set q.i (some (.ref a)))[q.i]? = some (some (.ref a)) := List.getElem?_set_self hi
        have S2 : Sat G B F' (e.set q.i .non) (σ'.set q.i (some (.ref a))) H' := S.off
        have hnm : G.nm q.f = m := C.fx.nm _ _ hm
        have fl : ∀ {Q : VK}, Q v H' → fldT G T q a (.ref (G.cA (T.cls.length + q.c))) (some dd) (σ'.set q.i (some (.ref a))) H' Q := fun {Q} hQ => by
          unfold fldT
          rw [hm]
          exact ⟨_, hv, rfl, rfl, dd, v, rfl, by rw [← hnm]; exact hdd, hQ⟩
        show claT G T q a _ _ (offS q.i D) (σ'.set q.i (some (.ref a))) H'
        unfold claT
        cases hfm : q.fm with
        | pl =>
          simp only [hfm, cfD] at h
          exact fl (h F' _ H' s S2 v rv S2)
        | pre s2 =>
          simp only [hfm] at h
          cases d with
          | str t =>
            by_cases hl : s2.length + t.length ≤ SZ
            · simp only [cfD, if_pos hl] at h
              cases rv
              unfold tRet tOp tC
              apply fl
              exact ⟨s2, t, rfl, rfl, Nat.le_trans hl szLe, h F' _ H' s S2 _ (.str _) S2⟩
            · simp only [cfD, if_neg hl] at h
              exact h.elim
          | _ => exact h.elim
        | tag n =>
          simp only [hfm, cfD] at h
          unfold tRet tTup tCons tC tNil
          apply fl
          refine ⟨by rw [sizeLine_eq]; exact (by decide : 2 ≤ 16777216), fun p hp => ?_⟩
          obtain ⟨S3, s3⟩ := S2.fresh (o := .tup [.int n, v]) hp
          exact h _ _ _ (s.trans s3) S3 _ (.tup (SqT.of upd_same) (.cons (.int n) (.cons (rv.mono s3) .nil))) S3
      · rw [if_neg hc] at h
        exact h.elim
    · have hb : j ≠ q.c := of_decide_eq_false hb
      have hp : pickC T.cls.length (T.cls.length + j) (q :: r) = pickC T.cls.length (T.cls.length + j) r := by
        show (if T.cls.length + j = T.cls.length + q.c then _ else _) = _
        rw [if_neg (by omega)]
      unfold caughtR at h
      rw [hp] at h
      exact cla_w C hj (fun q' h' => hq q' (List.mem_cons_of_mem _ h')) h s S hx
theorem s_try {cs : List Clz} {body : List Stmt} {hd : ExceptHandler} {hds : List ExceptHandler} {mb : M Flow} (C : CO G T sc k W X) (hp : PO X) (hk : ckCls T sc cs (hd :: hds) = true)
    (hb : ∀ (W' : WX) (Y : Cx), CO G T sc k W' Y → PO Y → PSs Y body (tS G B W' mb)) :
    PS X (.Try body (hd :: hds) [] [] pos) (tS G B W (fun e => match mb e with
    | .ok fl e' => .ok fl e'
    | .exc c f d e' => if T.cls.length ≤ c ∧ c < T.cls.length + T.errs.length then caughtR T cs c f d e' else .bad
    | .bad => .bad)) := by
  have hN : X.N.Nodup := by rw [C.N]; exact C.nd
  refine ps_weak (try_all (tb := fun W' => tS G B W' mb) hN hp.stk hp.frm C.tk (fun W' pn xe tk ow => ?_) (cls_ok C hk)) fun D σ H q => ?_
  · have Y : CO G T sc k W' (X.tr pn xe) := ⟨⟨C.xc.P, C.xc.w, C.xc.K, C.xc.mg, C.xc.base, C.xc.calm, C.xc.room⟩, C.run, C.N, C.nd, C.wr, C.kind, tk, C.fx, C.fk⟩
    exact hb W' _ Y ⟨ow, hp.stk, hp.frm⟩
  · obtain ⟨F, e, S, q⟩ := q
    refine ⟨F, e, S, ?_⟩
    dsimp only at q
    generalize mb e = r at q ⊢
    cases r with
    | ok fl e' => exact q
    | bad => exact q
    | exc c f d e' =>
      dsimp only at q
      by_cases hc : T.cls.length ≤ c ∧ c < T.cls.length + T.errs.length
      · rw [if_pos hc] at q
        obtain ⟨j, rfl⟩ : ∃ j, c = T.cls.length + j := ⟨c - T.cls.length, by omega⟩
        intro F' σ' H' cls dx s S' x
        exact cla_w C (by omega) (ck_errs C.fx hk) q s S' x
      · rw [if_neg hc] at q
        exact q.elim
end
end PX

end
section
set_option Elab.async false
set_option linter.all false
set_option maxRecDepth 100000
set_option maxHeartbeats 4000000
/-! PXs: every checked statement does what its reading says; defs; levels. -/
namespace PX
open PySem PySem.Spec PyProof.Rows L2

def isTup : Expr → Bool
  | .Tuple .. => true
  | _ => false
/-- how a name takes a comprehension: true: the store comes first -/
def swapB (sc : Sc) (x : Str) (p2 : Pos) : Expr → Option Bool
  | .ListComp _ _ scope p => some (decide (sc.run.names.lookup x = some .local) && (p2.line == p.line) && !(scope.names.any fun (n, k) => n == x && (k == .local || k == .cell)))
  | _ => none
section
variable (T : Tab)
mutual
def ckS (sc : Sc) : S → Stmt → Bool
  | .never, _ => true
  | .pass, .Pass _ => true
  | .pass, .Expr (.Constant (.str _) _ _) _ => true
  | .brk, .Break _ => true
  | .cont, .Continue _ => true
  | .retN, .Return none _ => true
  | .ret e, .Return (some x) _ => ckE T sc e x
  | .expr e, .Expr x _ => noComp x && ckE T sc e x
  | .asg (.nm i) e, .Assign [.Name x p2] y _ => slotB sc i x && locB sc x && ckE T sc e y && (noComp y || (swapB sc x p2 y).isSome)
  | .asg (.fld i f) e, .Assign [.Attribute (.Name x _) m _] y _ => slotB sc i x && visB sc x && decide (T.nms[f]? = some m) && noComp y && ckE T sc e y
  | .asg (.tup ts) e, .Assign [.Tuple xs a b] y _ => noComp y && !isTup y && ckE T sc e y && ckG T sc (.tup ts) (.Tuple xs a b)
  | .asg (.sub i g) e, .Assign [.Subscript o z b] y _ => noComp y && ckE T sc e y && ckG T sc (.sub i g) (.Subscript o z b)
  | .ifs c a b, .If t xs ys _ => ckT T sc c t && ckSs sc a xs && ckSs sc b ys
  | .fr t it b, .For tg i body [] _ => noSet i && ckI T sc it i tg && ckG T sc t tg && nmG t && ckSs sc b body
  | .wh c b, .While t body [] _ => ckT T sc c t && ckSs sc b body
  | .raise c e, .Raise (some (.Call (.Name x _) [y] [] _)) none _ => (match T.errs[c]? with | some ed => decide (ed.name = x) | none => false) && nameB x && glB sc x && noStar y && ckE T sc e y
  | .tr b cs, .Try body (h :: hs) [] [] _ => ckSs sc b body && ckCls T sc cs (h :: hs)
  | _, _ => false
def ckSs (sc : Sc) : Ss → List Stmt → Bool
  | .nil, [] => true
  | .cons s r, x :: xs => ckS sc s x && ckSs sc r xs
  | _, _ => false
end
end
section
variable {G : Ct} {T : Tab} {k : Nat}
theorem nmG_fld {t : Tg} (h : nmG t = true) : ∀ i f, t ≠ .fld i f := fun i f z => by subst z; exact absurd h Bool.false_ne_true
mutual
theorem okS : (s : S) → ∀ (st : Stmt) {sc : Sc} {W : WX} {Y : Cx}, CO G T sc k W Y → PO Y → ckS T sc s st = true → ∀ B, PS Y st (tS G B W (evS T (callT T k) s))
  | .never, st, sc, W, Y, C, hp, h, B => s_never
  | .pass, st, sc, W, Y, C, hp, h, B => by
    unfold ckS at h
    split at h <;> first | (exact absurd h Bool.false_ne_true) | skip
    all_goals (try contradiction)
    · rename_i e1; cases e1; exact s_pass
    · rename_i e1; cases e1; exact s_doc
  | .brk, st, sc, W, Y, C, hp, h, B => by
    cases st with
    | Break p => exact s_brk
    | _ => exact absurd h Bool.false_ne_true
  | .cont, st, sc, W, Y, C, hp, h, B => by
    cases st with
    | Continue p => exact s_cont
    | _ => exact absurd h Bool.false_ne_true
  | .retN, st, sc, W, Y, C, hp, h, B => by
    cases st with
    | Return o p =>
      cases o with
      | none => exact s_retN
      | some _ => exact absurd h Bool.false_ne_true
    | _ => exact absurd h Bool.false_ne_true
  | .ret e, st, sc, W, Y, C, hp, h, B => by
    cases st with
    | Return o p =>
      cases o with
      | some x => exact s_ret (okE e x C h B)
      | none => exact absurd h Bool.false_ne_true
    | _ => exact absurd h Bool.false_ne_true
  | .expr e, st, sc, W, Y, C, hp, h, B => by
    cases st with
    | Expr x p =>
      have h : (noComp x && ckE T sc e x) = true := h
      rw [Bool.and_eq_true] at h
      exact s_expr h.1 (okE e x C h.2 B)
    | _ => exact absurd h Bool.false_ne_true
  | .asg (.nm i) e, st, sc, W, Y, C, hp, h, B => by
    cases st with
    | Assign tgs y p =>
      match tgs, h with
      | [], h => exact absurd h Bool.false_ne_true
      | t :: _ :: _, h => cases t <;> first | exact absurd h Bool.false_ne_true | (rename_i o _ _; cases o <;> exact absurd h Bool.false_ne_true)
      | [t], h =>
        cases t with
        | Name x p2 =>
          have h : (slotB sc i x && locB sc x && ckE T sc e y && (noComp y || (swapB sc x p2 y).isSome)) = true := h
          simp only [Bool.and_eq_true, Bool.or_eq_true] at h
          obtain ⟨⟨⟨h1, h2⟩, h3⟩, h4⟩ := h
          rcases h4 with h4 | h4
          · exact s_set C h1 h2 (swaps_no h4) (okE e y C h3 B)
          · cases hs : swapB sc x p2 y with
            | none => rw [hs] at h4; exact absurd h4 Bool.false_ne_true
            | some b =>
              cases y with
              | ListComp elt gs scope p =>
                have hb : (decide (sc.run.names.lookup x = some .local) && (p2.line == p.line) && !(scope.names.any fun (n, k) => n == x && (k == .local || k == .cell))) = b := Option.some.inj hs
                have ky : Y.env.kindOf x = sc.run.names.lookup x := by show Y.env.scope.names.lookup x = _; rw [C.run]
                have bk : Y.env.blockKind = .function := by unfold Env.blockKind; rw [C.kind]; rfl
                cases b with
                | true =>
                  simp only [Bool.and_eq_true, decide_eq_true_eq, Bool.not_eq_true'] at hb
                  obtain ⟨⟨b1, b2⟩, b3⟩ := hb
                  cases e with
                  | comp own tg it ifs el =>
                    unfold ckE at h3
                    split at h3 <;> first | (exact absurd h3 Bool.false_ne_true) | skip
                    all_goals (try contradiction)
                    rename_i e1 e2
                    cases e1
                    cases e2
                    simp only [Bool.and_eq_true, decide_eq_true_eq] at h3
                    obtain ⟨⟨⟨g1, g2⟩, g3⟩, ⟨⟨⟨g4, g5⟩, g6⟩, g7⟩, g8⟩ := h3
                    exact s_setC (s_comp C h1 b1 b2 b3 g1 g3 (okI it _ _ C g2 B) fun Z CZ B' => ⟨okGo own tg _ CZ g4 g8 B', okIf ifs _ CZ g5 g6 B', okE el _ CZ g7 B'⟩) fun σ H Q q => comp_new q
                  | glob _ d => cases d <;> exact absurd h3 Bool.false_ne_true
                  | dct a b => unfold ckE at h3; split at h3 <;> first | (exact absurd h3 Bool.false_ne_true) | contradiction
                  | cmp o a b => unfold ckE at h3; split at h3 <;> first | (exact absurd h3 Bool.false_ne_true) | contradiction
                  | _ => exact absurd h3 Bool.false_ne_true
                | false =>
                  refine s_set C h1 h2 ?_ (okE e _ C h3 B)
                  unfold swapsWith
                  simp only [bk, ky, Expr.pos]
                  show pure (_ && _ && _ && _) = pure false
                  congr 1
                  rw [← hb]
                  cases hl : sc.run.names.lookup x with
                  | none => rfl
                  | some kd => cases kd <;> rfl
              | _ => exact absurd hs (by simp [swapB])
        | _ => exact absurd h Bool.false_ne_true
    | _ => exact absurd h Bool.false_ne_true
  | .asg (.tup ts) e, st, sc, W, Y, C, hp, h, B => by
    cases st with
    | Assign tgs y p =>
      match tgs, h with
      | [], h => exact absurd h Bool.false_ne_true
      | t :: _ :: _, h => cases t <;> first | exact absurd h Bool.false_ne_true | (rename_i o _ _; cases o <;> exact absurd h Bool.false_ne_true)
      | [t], h =>
        cases t with
        | Tuple xs a b =>
          have h : (noComp y && !isTup y && ckE T sc e y && ckG T sc (.tup ts) (.Tuple xs a b)) = true := h
          simp only [Bool.and_eq_true, Bool.not_eq_true'] at h
          obtain ⟨⟨⟨h1, h2⟩, h3⟩, h4⟩ := h
          refine s_asg h1 ?_ rfl (okE e _ C h3 B) (okG (.tup ts) _ C h4 nofun B)
          cases y <;> first | rfl | exact absurd h2 (by simp [isTup])
        | _ => exact absurd h Bool.false_ne_true
    | _ => exact absurd h Bool.false_ne_true
  | .asg (.sub i g) e, st, sc, W, Y, C, hp, h, B => by
    cases st with
    | Assign tgs y p =>
      match tgs, h with
      | [], h => exact absurd h Bool.false_ne_true
      | t :: _ :: _, h => cases t <;> first | exact absurd h Bool.false_ne_true | (rename_i o _ _; cases o <;> exact absurd h Bool.false_ne_true)
      | [t], h =>
        cases t with
        | Subscript o z b =>
          have h : (noComp y && ckE T sc e y && ckG T sc (.sub i g) (.Subscript o z b)) = true := h
          simp only [Bool.and_eq_true] at h
          obtain ⟨⟨h1, h3⟩, h4⟩ := h
          exact s_asg h1 (by cases y <;> rfl) rfl (okE e _ C h3 B) (okG (.sub i g) _ C h4 nofun B)
        | _ => exact absurd h Bool.false_ne_true
    | _ => exact absurd h Bool.false_ne_true
  | .asg (.fld i f) e, st, sc, W, Y, C, hp, h, B => by
    cases st with
    | Assign tgs y p =>
      match tgs, h with
      | [], h => exact absurd h Bool.false_ne_true
      | t :: _ :: _, h => cases t <;> first | exact absurd h Bool.false_ne_true | (rename_i o _ _; cases o <;> exact absurd h Bool.false_ne_true)
      | [t], h =>
        cases t with
        | Attribute o m ap =>
          cases o with
          | Name x q =>
            have h : (slotB sc i x && visB sc x && decide (T.nms[f]? = some m) && noComp y && ckE T sc e y) = true := h
            simp only [Bool.and_eq_true, decide_eq_true_eq] at h
            obtain ⟨⟨⟨⟨h1, h2⟩, h3⟩, h4⟩, h5⟩ := h
            exact s_fld C h1 h2 h3 h4 (okE e _ C h5 B)
          | _ => exact absurd h Bool.false_ne_true
        | _ => exact absurd h Bool.false_ne_true
    | _ => exact absurd h Bool.false_ne_true
  | .ifs c a b, st, sc, W, Y, C, hp, h, B => by
    cases st with
    | If t xs ys p =>
      have h : (ckT T sc c t && ckSs T sc a xs && ckSs T sc b ys) = true := h
      simp only [Bool.and_eq_true] at h
      exact s_if (okT c t C h.1.1 B) (okSs a xs C hp h.1.2 B) (okSs b ys C hp h.2 B)
    | _ => exact absurd h Bool.false_ne_true
  | .fr t it b, st, sc, W, Y, C, hp, h, B => by
    cases st with
    | For tg i body orelse p =>
      cases orelse with
      | nil =>
        have h : (noSet i && ckI T sc it i tg && ckG T sc t tg && nmG t && ckSs T sc b body) = true := h
        simp only [Bool.and_eq_true] at h
        obtain ⟨⟨⟨⟨h1, h2⟩, h3⟩, h4⟩, h5⟩ := h
        exact s_for C hp.own h1 (okI it i tg C h2 B) (okG t tg C h3 (nmG_fld h4) B) (okSs b body C hp h5 B)
      | cons _ _ => exact absurd h Bool.false_ne_true
    | _ => exact absurd h Bool.false_ne_true
  | .wh c b, st, sc, W, Y, C, hp, h, B => by
    cases st with
    | While t body orelse p =>
      cases orelse with
      | nil =>
        have h : (ckT T sc c t && ckSs T sc b body) = true := h
        simp only [Bool.and_eq_true] at h
        exact s_while hp.own (okT c t C h.1 B) (okSs b body C hp h.2 B)
      | cons _ _ => exact absurd h Bool.false_ne_true
    | _ => exact absurd h Bool.false_ne_true
  | .raise c e, st, sc, W, Y, C, hp, h, B => by
    cases st with
    | Raise ex cause p =>
      match ex, cause, h with
      | none, none, h => exact absurd h Bool.false_ne_true
      | none, some _, h => exact absurd h Bool.false_ne_true
      | some _, some _, h => exact absurd h (by unfold ckS; split <;> simp_all)
      | some z, none, h =>
        cases z with
        | Call g as ks p2 =>
          match g, as, ks, h with
          | g, [], ks, h => exact absurd h (by unfold ckS; split <;> simp_all)
          | g, _ :: _ :: _, ks, h => exact absurd h (by unfold ckS; split <;> simp_all)
          | g, [_], _ :: _, h => exact absurd h (by unfold ckS; split <;> simp_all)
          | g, [y], [], h =>
            cases g with
            | Name x p1 =>
                have h : ((match T.errs[c]? with | some ed => decide (ed.name = x) | none => false) && nameB x && glB sc x && noStar y && ckE T sc e y) = true := h
                simp only [Bool.and_eq_true] at h
                obtain ⟨⟨⟨⟨h1, h2⟩, h3⟩, h4⟩, h5⟩ := h
                cases he : T.errs[c]? with
                | none => rw [he] at h1; cases h1
                | some ed =>
                  rw [he] at h1
                  exact s_raise C he (of_decide_eq_true h1) h2 h3 h4 (okE e y C h5 B)
            | _ => exact absurd h Bool.false_ne_true
        | _ => exact absurd h Bool.false_ne_true
    | _ => exact absurd h Bool.false_ne_true
  | .tr b cs, st, sc, W, Y, C, hp, h, B => by
    cases st with
    | Try body hds orelse fin p =>
      match hds, orelse, fin, h with
      | hd :: hs, [], [], h =>
        have h : (ckSs T sc b body && ckCls T sc cs (hd :: hs)) = true := h
        rw [Bool.and_eq_true] at h
        exact s_try C hp h.2 fun W' Y' C' hp' => okSs b body C' hp' h.1 B
      | [], _, _, h => exact absurd h (by simp [ckS])
      | _ :: _, _ :: _, _, h => exact absurd h (by simp [ckS])
      | _ :: _, [], _ :: _, h => exact absurd h (by simp [ckS])
    | _ => exact absurd h Bool.false_ne_true
theorem okSs : (ss : Ss) → ∀ (sts : List Stmt) {sc : Sc} {W : WX} {Y : Cx}, CO G T sc k W Y → PO Y → ckSs T sc ss sts = true → ∀ B, PSs Y sts (tS G B W (evSs T (callT T k) ss))
  | .nil, [], sc, W, Y, C, hp, h, B => ss_nil
  | .nil, _ :: _, sc, W, Y, C, hp, h, B => absurd h Bool.false_ne_true
  | .cons s r, [], sc, W, Y, C, hp, h, B => absurd h Bool.false_ne_true
  | .cons s r, x :: xs, sc, W, Y, C, hp, h, B => by
    have h : (ckS T sc s x && ckSs T sc r xs) = true := h
    rw [Bool.and_eq_true] at h
    exact ss_cons (okS s x C hp h.1 B) (okSs r xs C hp h.2 B)
end
end

/-! ### a def, whole -/
section
variable {G : Ct} {T : Tab} {k : Nat} {F H F' H' : Hp} {vs : List V} {args : List Arg} {e : Env} {Q : VK} {E : XK} {v : V}
theorem args_len : ∀ {vs : List V} {args : List Arg}, ArgsOk G F H vs args → vs.length = args.length
  | _, _, .nil => rfl
  | _, _, .d _ r => by rw [List.length_cons, List.length_cons, args_len r]
  | _, _, .c _ _ r => by rw [List.length_cons, List.length_cons, args_len r]
theorem args_get : ∀ {vs : List V} {args : List Arg} {i : Nat} {x : Arg}, ArgsOk G F H vs args → args[i]? = some x → ∃ v, vs[i]? = some v ∧ (match x with
    | .d d => Rep G F v d
    | .c c => ∃ a, v = .ref a ∧ F a = none ∧ CellOk G F H a c)
  | _, _, _, _, .nil, h => by cases h
  | _, _, 0, _, .d hr _, h => by cases h; exact ⟨_, rfl, hr⟩
  | _, _, 0, _, .c n hc _, h => by cases h; exact ⟨_, rfl, _, rfl, n, hc⟩
  | _, _, i + 1, _, .d _ r, h => args_get (i := i) r h
  | _, _, i + 1, _, .c _ _ r, h => args_get (i := i) r h
def slotOf : Arg → Slot
  | .d d => .val d
  | .c c => .bor c
theorem args0_get : ∀ (args : List Arg) (i : Nat), (args0 args)[i]? = (args[i]?).map slotOf
  | [], _ => rfl
  | .d _ :: r, 0 => rfl
  | .c _ :: r, 0 => rfl
  | .d _ :: r, i + 1 => args0_get r i
  | .c _ :: r, i + 1 => args0_get r i
theorem args0_len : ∀ (args : List Arg), (args0 args).length = args.length
  | [] => rfl
  | .d _ :: r => by show (args0 r).length + 1 = _; rw [args0_len r]; rfl
  | .c _ :: r => by show (args0 r).length + 1 = _; rw [args0_len r]; rfl
/-- the frame's base -/
def base0 (F H : Hp) (vs : List V) (args : List Arg) (h : ArgsOk G F H vs args) : Bs where
  F0 := F
  H0 := H
  adr := adrOf vs args
  live := fun i a q => by
    unfold adrOf at q
    split at q
    · rename_i c b h1 h2
      cases q
      obtain ⟨v, hv, w⟩ := args_get h h1
      rw [h2] at hv
      cases hv
      obtain ⟨a', e1, n, ck⟩ := w
      cases e1
      exact ck.there
    · cases q
theorem sat0 {n : Nat} (hs : Same F H) (h : ArgsOk G F H vs args) (ap : ∀ i j a, adrOf vs args i = some a → adrOf vs args j = some a → i = j) (hn : args.length ≤ n) : Sat G (base0 F H vs args h) F (args0 args ++ List.replicate (n - args.length) Slot.non) (vs.map some ++ List.replicate (n - vs.length) none) H := by
  have hl := args_len h
  have hat : ∀ i s, (args0 args ++ List.replicate (n - args.length) Slot.non)[i]? = some s → s = .non ∨ ∃ x v, args[i]? = some x ∧ vs[i]? = some v ∧ (vs.map some ++ List.replicate (n - vs.length) none)[i]? = some (some v) ∧ s = slotOf x := fun i s es => by
    by_cases hi : i < args.length
    · right
      rw [List.getElem?_append_left (by rw [args0_len]; exact hi), args0_get] at es
      obtain ⟨x, hx⟩ : ∃ x, args[i]? = some x := ⟨_, List.getElem?_eq_getElem hi⟩
      rw [hx] at es
      obtain ⟨v, hv, _⟩ := args_get h hx
      refine ⟨x, v, hx, hv, ?_, (Option.some.inj es).symm⟩
      rw [List.getElem?_append_left (by rw [List.length_map, hl]; exact hi), List.getElem?_map, hv]
      rfl
    · left
      rw [List.getElem?_append_right (by rw [args0_len]; omega)] at es
      have := List.mem_of_getElem? es
      exact (List.mem_replicate.mp this).2
  have own : ∀ {i a}, ownAt (args0 args ++ List.replicate (n - args.length) Slot.non) (vs.map some ++ List.replicate (n - vs.length) none) i a → adrOf vs args i = some a := fun {i a} ho => by
    have h1 := ho.1
    unfold isOwn at h1
    cases es : (args0 args ++ List.replicate (n - args.length) Slot.non)[i]? with
    | none => rw [es] at h1; cases h1
    | some s =>
      rw [es] at h1
      rcases hat i s es with rfl | ⟨x, v, hx, hv, hσ, rfl⟩
      · cases h1
      · have h2 := ho.2
        rw [hσ] at h2
        cases h2
        cases x with
        | d d => cases h1
        | c c => unfold adrOf; rw [hx, hv]
  refine ⟨hs, Same.refl F, fun b o h1 _ => h1, fun b o h1 => ⟨o, h1⟩, fun b o h1 => .inl h1, fun i s es => ?_, fun i j a hi hj => ap i j a (own hi) (own hj), ?_⟩
  · rcases hat i s es with rfl | ⟨x, v, hx, hv, hσ, rfl⟩
    · trivial
    · obtain ⟨v', hv', w⟩ := args_get h hx
      rw [hv] at hv'
      cases hv'
      cases x with
      | d d => exact ⟨v, hσ, w⟩
      | c c =>
        obtain ⟨a, rfl, nF, ck⟩ := w
        exact ⟨a, hσ, nF, by show adrOf vs args i = some a; unfold adrOf; rw [hx, hv], ck⟩
  · simp only [List.length_append, List.length_map, List.length_replicate, args0_len]
    omega
theorem outs_get : ∀ {args : List Arg} {e : Env} {outs : List (Option Cell)}, outsOf args e = some outs → ∀ (i : Nat) (c : Cell), outs[i]? = some (some c) → e[i]? = some (.bor c) ∧ ∃ c0, args[i]? = some (.c c0)
  | [], e, outs, h, i, c, q => by cases h; cases q
  | .d d :: r, [], outs, h, i, c, q => by cases h
  | .d d :: r, s :: e, outs, h, i, c, q => by
    obtain ⟨o', h', rfl⟩ := some_map (show (outsOf r e).map (none :: ·) = some outs from h)
    cases i with
    | zero => cases q
    | succ i => exact outs_get h' i c q
  | .c c0 :: r, [], outs, h, i, c, q => by cases h
  | .c c0 :: r, s :: e, outs, h, i, c, q => by
    cases s with
    | bor c1 =>
      obtain ⟨o', h', rfl⟩ := some_map (show (outsOf r e).map (some c1 :: ·) = some outs from h)
      cases i with
      | zero => cases q; exact ⟨rfl, _, rfl⟩
      | succ i => exact outs_get h' i c q
    | non => cases h
    | val _ => cases h
    | own _ => cases h
theorem post_of (hA : ArgsOk G F H vs args) {σ : L2.St} {outs : List (Option Cell)} (S : Sat G (base0 F H vs args hA) F' e σ H') (h : outsOf args e = some outs) : Post G F H F' H' (adrOf vs args) outs where
  sF := S.f0
  sub := S.sub
  frm := S.frm
  liv := S.liv
  new := S.new
  out := fun i a c h1 h2 => by
    obtain ⟨h3, _⟩ := outs_get h i c h2
    obtain ⟨a', e1, n, b, ck⟩ := S.slot i _ h3
    have b : adrOf vs args i = some a' := b
    rw [h1] at b
    cases b
    exact ⟨n, ck⟩
/-- the text of a def is what the table says -/
def ckF (T : Tab) (fd : Fd) (st : Stmt) : Bool := ckSs T ⟨defScope st, defScope st, fd.N⟩ fd.body (defBody st) && decide (fd.ps.length ≤ fd.N.length)
theorem fn_ok {qual x : Str} {st : Stmt} {fd : Fd} {fdt : FuncData} {f : Nat} (fx : Fx0 G T) (fk : Fk G T k) (hf : T.fns[f]? = some fd) (Fu : Fun G.K x qual st (G.fA f) fdt) (S : FnScope fd.N fd.ps (defScope st)) (ck : ckF T fd st = true) :
    FnOk G.P G.w G.K G.mg G.base (L2.CX G.P G.w) (2 * (k + 1)) (G.fA f) fdt fd.ps (spF G (callT T (k + 1)) f) := by
  unfold ckF at ck
  rw [Bool.and_eq_true, decide_eq_true_eq] at ck
  have hcall : ∀ args, callT T (k + 1) f args = runFd T (callT T k) fd args := fun args => by
    show (match T.fns[f]? with | none => Res.bad | some fd => runFd T (callT T k) fd args) = _
    rw [hf]
  have hlen : ∀ vs H Q E, spF G (callT T (k + 1)) f vs H Q E → vs.length = fd.ps.length := fun vs H Q E h => by
    obtain ⟨F, args, hs, hA, _, h⟩ := h
    rw [hcall] at h
    unfold runFd at h
    by_cases hl : args.length = fd.ps.length
    · rw [args_len hA, hl]
    · rw [if_neg hl] at h; exact h.elim
  refine Fu.okX (k := 2 * k + 1) S hlen fun cdv A outer s H vs Q E hr hsp => ?_
  obtain ⟨F, args, hs, hA, ap, h⟩ := hsp
  rw [hcall] at h
  unfold runFd at h
  by_cases hl : args.length = fd.ps.length
  · rw [if_pos hl] at h
    have hn : args.length ≤ fd.N.length := by rw [hl]; exact ck.2
    have S0 := sat0 (n := fd.N.length) hs hA ap hn
    let Y := cxOf (L2.CX G.P G.w) G.P G.w G.K G.mg G.base fd.N qual (defScope st) (G.fA f) cdv A outer s H E
    have C : CO G T ⟨defScope st, defScope st, fd.N⟩ k (fun cls dx _ H => E cls dx H) Y := by
      refine ⟨⟨rfl, rfl, rfl, rfl, rfl, rfl, hr⟩, rfl, rfl, S.nd, fun x hx => ⟨?_, .inl rfl⟩, S.kind, takes_of rfl rfl rfl rfl, fx, fk⟩
      unfold locB at hx
      have hx : (match (defScope st).names.lookup x with | some .local => true | some .cell => true | _ => false) = true := hx
      show (defScope st).names.lookup x = some .local ∨ (defScope st).names.lookup x = some .cell
      split at hx <;> first | exact .inl (by assumption) | exact .inr (by assumption) | cases hx
    refine ⟨_, okSs fd.body _ C ⟨passes_of rfl, rfl, rfl⟩ ck.1 (base0 F H vs args hA), F, _, S0, ?_⟩
    generalize evSs T (callT T k) fd.body (args0 args ++ List.replicate (fd.N.length - args.length) .non) = r at h
    cases r with
    | bad => exact h.elim
    | exc c n d e' =>
      dsimp only at h
      cases ho : outsOf args e' with
      | none => rw [ho] at h; exact h.elim
      | some outs =>
        rw [ho] at h
        exact fun F' σ' H' cls dx s' S' x => h cls dx F' H' (post_of hA S' ho) x
    | ok fl e' =>
      dsimp only at h
      cases ho : outsOf args e' with
      | none => rw [ho] at h; exact h.elim
      | some outs =>
        rw [ho] at h
        cases fl with
        | next => exact fun F' σ' H' s' S' => h .non F' H' (post_of hA S' ho) .non
        | brk => exact h.elim
        | cont => exact h.elim
        | ret a =>
          dsimp only at h
          cases hout : outOf e' a with
          | none => rw [hout] at h; exact h.elim
          | some o =>
            rw [hout] at h
            intro F' σ' H' s' S' v rv S2
            refine h v F' H' (post_of hA S2 ho) ?_
            cases a with
            | d d => cases hout; exact rv
            | new c =>
              cases hout
              obtain ⟨ax, rfl, n, b0, ck', _⟩ := rv
              exact ⟨ax, rfl, n, b0, ck'⟩
            | slot i =>
              have rv : σ'[i]? = some (some v) := rv
              have hout : (match e'[i]? with | some (.val d) => some (Out.d d) | some (.own c) => some (Out.new c) | _ => none) = some o := hout
              cases es : e'[i]? with
              | none => rw [es] at hout; cases hout
              | some sl =>
                rw [es] at hout
                cases sl with
                | non => cases hout
                | bor c => cases hout
                | val d =>
                  cases hout
                  obtain ⟨v', e1, r⟩ := S2.slot i _ es
                  rw [rv] at e1; cases e1
                  exact r
                | own c =>
                  cases hout
                  obtain ⟨ax, e1, n, b0, ck'⟩ := S2.slot i _ es
                  rw [rv] at e1; cases e1
                  exact ⟨ax, rfl, n, b0, ck'⟩
  · rw [if_neg hl] at h; exact h.elim
end
end PX

end
section
set_option Elab.async false
set_option linter.all false
set_option maxRecDepth 100000
set_option maxHeartbeats 4000000
/-! PXt: levels; a law's end. -/
namespace PX
open PySem PySem.Spec PyProof.Rows L2

/-- every def's text, and how it binds -/
def TabOk (G : Ct) (T : Tab) : Prop := ∀ f fd, T.fns[f]? = some fd → ∃ (fdt : FuncData) (qual x : Str) (st : Stmt), Fun G.K x qual st (G.fA f) fdt ∧ FnScope fd.N fd.ps (defScope st) ∧ ckF T fd st = true ∧ Binds G.K fdt fd.ps []
theorem levels {G : Ct} {T : Tab} (fx : Fx0 G T) (ok : TabOk G T) : ∀ k, Fk G T k
  | 0 => fun f fd hf => by
    obtain ⟨fdt, qual, x, st, F, S, ck, b⟩ := ok f fd hf
    have no : ∀ vs H Q E, ¬ spF G (callT T 0) f vs H Q E := fun vs H Q E ⟨F, args, _, _, _, h⟩ => h
    exact ⟨fdt, b, ⟨fun vs H Q E h => (no _ _ _ _ h).elim, fun _ _ _ _ _ _ _ _ _ _ _ _ _ h => (no _ _ _ _ h).elim⟩⟩
  | k + 1 => fun f fd hf => by
    obtain ⟨fdt, qual, x, st, F, S, ck, b⟩ := ok f fd hf
    exact ⟨fdt, b, fn_ok fx (levels fx ok k) hf F S ck⟩
/-- the law's promise: a list of at most n ints is handed in, True comes out -/
def spL (K : PySem.W.Frag) (n : Nat) : Sp := fun vs H Q _ => ∃ (a : Addr) (ns : List Int), vs = [.ref a] ∧ SqL K H a (ns.map V.int) ∧ ns.length ≤ n ∧ ∀ H', Q (.bl true) H'
theorem rep_ints {G : Ct} {F : Hp} : ∀ ns : List Int, RepL G F (ns.map V.int) (ns.map D.int)
  | [] => .nil
  | x :: r => .cons (.int x) (rep_ints r)
theorem law_ok {G : Ct} {T : Tab} {k n f : Nat} {fd : Fd} {x qual : Str} {st : Stmt} {fdt : FuncData} (fx : Fx0 G T) (ok : TabOk G T) (hf : T.fns[f]? = some fd) (F : Fun G.K x qual st (G.fA f) fdt) (S : FnScope fd.N fd.ps (defScope st)) (ck : ckF T fd st = true)
    (main : ∀ ns : List Int, ns.length ≤ n → callT T (k + 1) f [.d (.ro (ns.map D.int))] = .ok (.d (.bl true)) [none]) :
    FnOk G.P G.w G.K G.mg G.base (L2.CX G.P G.w) (2 * (k + 1)) (G.fA f) fdt fd.ps (spL G.K n) := by
  refine (fn_ok fx (levels fx ok k) hf F S ck).imp fun vs H Q E h => ?_
  obtain ⟨a, ns, rfl, hS, hn, q⟩ := h
  refine ⟨H, [.d (.ro (ns.map D.int))], Same.refl H, .d (.ro hS (rep_ints ns)) .nil, fun i j a h1 => ?_, ?_⟩
  · unfold adrOf at h1
    cases i with
    | zero => cases h1
    | succ i => simp at h1
  · rw [main ns hn]
    intro v F' H' P O
    cases O
    exact q H'
theorem cx_none {P : Program} {w : World} {l : List PySem.Env} {H : Hp} {s : Shared} {e : Value} {s' : Shared} (h : L2.CX P w l H s (fun _ _ _ => False) e s') : False := by
  obtain ⟨_, _, _, _, _, _, _, _, _, _, _, _, z⟩ := h
  exact z
/-- of each of a list, with its place -/
def AllIx {α : Type} (P : Nat → α → Prop) : Nat → List α → Prop
  | _, [] => True
  | i, a :: r => P i a ∧ AllIx P (i + 1) r
theorem AllIx.get {α : Type} {P : Nat → α → Prop} : ∀ {l : List α} {j i : Nat} {a : α}, AllIx P j l → l[i]? = some a → P (j + i) a
  | [], _, _, _, _, h => by cases h
  | x :: r, j, 0, a, h, e => by cases e; exact h.1
  | x :: r, j, i + 1, a, h, e => by
    have := AllIx.get (i := i) h.2 e
    rwa [show j + (i + 1) = j + 1 + i by omega]
theorem AllIx.at {α : Type} {P : Nat → α → Prop} {l : List α} {i : Nat} {a : α} (h : AllIx P 0 l) (e : l[i]? = some a) : P i a := by
  have := h.get e
  rwa [Nat.zero_add] at this
theorem look_all {Q : Str → Int → Prop} : ∀ {l : List (Str × Int)}, AllIx (fun _ p => Q p.1 p.2) 0 l → ∀ x i, l.lookup x = some i → Q x i := by
  have gen : ∀ {l : List (Str × Int)} {j : Nat}, AllIx (fun _ p => Q p.1 p.2) j l → ∀ x i, l.lookup x = some i → Q x i := by
    intro l
    induction l with
    | nil => intro j h x i e; cases e
    | cons p r ih =>
      intro j h x i e
      rw [List.lookup_cons] at e
      cases hx : x == p.1 with
      | true =>
        rw [hx] at e
        cases e
        rw [eq_of_beq hx]
        exact h.1
      | false =>
        rw [hx] at e
        exact ih h.2 x i e
  intro l h x i e
  exact gen h x i e
/-! ### checks that a kernel reads -/
def scB (N P : List Str) (sc : Scope) : Bool :=
  (match sc.kind with | .function => true | _ => false) && !sc.isCoroutine && !sc.isGenerator && decide N.Nodup && decide (N.take P.length = P) &&
    (P.all fun x => decide (sc.names.lookup x = some .local) || decide (sc.names.lookup x = some .cell)) && (sc.names.all fun y => decide (y.2 ≠ .free))
theorem sc_ok {N P : List Str} {sc : Scope} (h : scB N P sc = true) : FnScope N P sc := by
  unfold scB at h
  simp only [Bool.and_eq_true, List.all_eq_true, decide_eq_true_eq, Bool.or_eq_true, Bool.not_eq_true'] at h
  obtain ⟨⟨⟨⟨⟨⟨h1, h2⟩, h3⟩, h4⟩, h5⟩, h6⟩, h7⟩ := h
  refine ⟨?_, h2, h3, h4, h5, h6, h7⟩
  split at h1
  · assumption
  · cases h1
/-- names of fields tell them apart -/
theorem nm_inj {nms : List Str} (h : nms.Nodup) (he : ("" : Str) ∉ nms) : ∀ f n, f < nms.length → nms.getD f "" = nms.getD n "" → f = n := fun f n hf e => by
  by_cases hn : n < nms.length
  · have e1 : nms.getD f "" = nms[f] := by simp [List.getD, hf]
    have e2 : nms.getD n "" = nms[n] := by simp [List.getD, hn]
    rw [e1, e2] at e
    exact (List.getElem_inj h).mp e
  · have e1 : nms.getD f "" = nms[f] := by simp [List.getD, hf]
    have e2 : nms.getD n "" = ("" : Str) := by simp [List.getD, List.getElem?_eq_none (Nat.le_of_not_lt hn)]
    rw [e1, e2] at e
    exact absurd (e ▸ List.getElem_mem hf) he
end PX

end
section
set_option Elab.async false
set_option linter.all false
set_option maxRecDepth 100000
set_option maxHeartbeats 4000000
namespace PXk21
open PySem PySem.Spec PyProof.Rows L2
def ss : List PX.S → PX.Ss
  | [] => .nil
  | s :: r => .cons s (ss r)
def f0 : PX.Fd := { glob := true, name := "are_rods", ps := ["rods"], N := ["rods", "rod"], refs := [false], body := (ss [
  (.ret (.and (.cmp2 .le .le (.int 1) (.bi .len (.cons (.var 0) .nil)) (.glob "MOST_RODS" (.int 40))) (.bi .all (.cons (.comp [1] (.nm 1) (.seq (.var 0)) .nil (.cmp2 .le .le (.int 1) (.var 1) (.glob "MOST_ROD" (.int 200)))) .nil))))]) }
def f1 : PX.Fd := { glob := true, name := "_law_touched", ps := ["pool", "part"], N := ["pool", "part", "at"], refs := [true, false], body := (ss [
  (.ifs (.and (.cons (.val (.isi (.var 1) .tuple)) (.cons (.cmp .gt (.bi .len (.cons (.var 1) .nil)) (.int 0)) .nil))) (ss [
   (.asg (.nm 2) (.call 16 (.cons (.var 0) (.cons (.bi .len (.cons (.var 1) .nil)) .nil)))),
   (.ret (.bin .add (.bin .add (.sl (.var 1) .none (.some (.var 2))) (.tup (.cons (.call 1 (.cons (.var 0) (.cons (.idx (.var 1) (.var 2)) .nil))) .nil))) (.sl (.var 1) (.some (.bin .add (.var 2) (.int 1))) .none)))]) (ss [])),
  (.ifs (.val (.isi (.var 1) .int)) (ss [
   (.ret (.bin .add (.var 1) (.idx (.tup (.cons (.int 1) (.cons (.bin .sub (.int 0) (.int 1)) (.cons (.int 2) (.cons (.bin .sub (.int 0) (.var 1)) (.cons (.var 1) (.cons (.bin .sub (.int 0) (.bin .mul (.int 2) (.var 1))) (.cons (.bin .pow (.int 10) (.int 12)) .nil)))))))) (.call 16 (.cons (.var 0) (.cons (.int 7) .nil))))))]) (ss [])),
  (.ret (.var 1))]) }
def f2 : PX.Fd := { glob := true, name := "_sums", ps := ["sums", "rod"], N := ["sums", "rod", "own"], refs := [false, false], body := (ss [
  (.ret (.bi .tuple (.cons (.bi .sorted (.cons (.bi .set (.cons (.bin .add (.comp [2] (.nm 2) (.seq (.var 0)) .nil (.bin .add (.var 2) (.var 1))) (.comp [2] (.nm 2) (.seq (.var 0)) .nil (.bin .sub (.var 2) (.var 1)))) .nil)) .nil)) .nil)))]) }
def f3 : PX.Fd := { glob := true, name := "_law_sums", ps := ["sums", "rod"], N := ["sums", "rod", "own"], refs := [false, false], body := (ss [
  (.ret (.bi .tuple (.cons (.bi .sorted (.cons (.bi .set (.cons (.bin .add (.comp [2] (.nm 2) (.seq (.var 0)) .nil (.bin .add (.var 2) (.var 1))) (.comp [2] (.nm 2) (.seq (.var 0)) .nil (.bin .sub (.var 2) (.var 1)))) .nil)) .nil)) .nil)))]) }
def f4 : PX.Fd := { glob := true, name := "checked_rods", ps := ["rods"], N := ["rods"], refs := [false], body := (ss [
  (.asg (.nm 0) (.bi .tuple (.cons (.var 0) .nil))),
  (.ifs (.not (.val (.call 0 (.cons (.var 0) .nil)))) (ss [
   (.raise 1 (.str "rods"))]) (ss [])),
  (.ret (.var 0))]) }
def f5 : PX.Fd := { glob := true, name := "_law_refused", ps := ["way", "one", "two"], N := ["way", "one", "two", "e"], refs := [false, false, false], body := (ss [
  (.tr (ss [
   (.ifs (.cmp .eq (.var 0) (.int 0)) (ss [
    (.expr (.call 13 (.cons (.var 1) .nil)))]) (ss [
    (.ifs (.cmp .eq (.var 0) (.int 1)) (ss [
     (.expr (.call 15 (.cons (.var 1) .nil)))]) (ss [
     (.expr (.call 8 (.cons (.var 1) (.cons (.var 2) .nil))))]))]))]) [⟨1, 3, 0, (.pre "strip ")⟩, ⟨0, 3, 0, (.pre "large ")⟩]),
  (.ret .non)]) }
def f6 : PX.Fd := { glob := true, name := "band_right", ps := ["claim"], N := ["claim", "told", "here", "form", "rods", "rod", "layer", "sign", "own"], refs := [false], body := (ss [
  (.asg (.tup (.cons (.nm 3) (.cons (.nm 4) .nil))) (.sl (.var 0) .none (.some (.int 2)))),
  (.ifs (.not (.val (.call 0 (.cons (.var 4) .nil)))) (ss [
   (.ret (.bl false))]) (ss [])),
  (.ifs (.cmp .eq (.var 3) (.str "closes")) (ss [
   (.ret (.cmp .le (.bin .mul (.int 2) (.bi .max (.cons (.var 4) .nil))) (.bi .sum (.cons (.var 4) .nil))))]) (ss [])),
  (.asg (.nm 1) (.idx (.var 0) (.int 2))),
  (.ifs (.cmp .eq (.var 3) (.str "gapes")) (ss [
   (.ret (.and (.cmp2 .le .lt (.int 0) (.var 1) (.bi .len (.cons (.var 4) .nil))) (.cmp .gt (.bin .mul (.int 2) (.idx (.var 4) (.var 1))) (.bi .sum (.cons (.var 4) .nil)))))]) (ss [])),
  (.ifs (.or (.cons (.cmp .ne (.bi .len (.cons (.var 1) .nil)) (.bi .len (.cons (.var 4) .nil))) (.cons (.cmp .gt (.bi .len (.cons (.var 4) .nil)) (.glob "MOST_ROUND" (.int 24))) .nil))) (ss [
   (.ret (.bl false))]) (ss [])),
  (.ifs (.cmp .eq (.var 3) (.str "flattens")) (ss [
   (.ret (.and (.bi .all (.cons (.comp [7] (.nm 7) (.seq (.var 1)) .nil (.cmp .isin (.var 7) (.tup (.cons (.int 1) (.cons (.neg (.int 1)) .nil))))) .nil)) (.cmp .eq (.bi .sum (.cons (.comp [7, 5] (.tup (.cons (.nm 7) (.cons (.nm 5) .nil))) (.zip (.cons (.var 1) (.cons (.var 4) .nil))) .nil (.bin .mul (.var 7) (.var 5))) .nil)) (.int 0))))]) (ss [])),
  (.asg (.nm 2) (.tup (.cons (.int 0) .nil))),
  (.fr (.tup (.cons (.nm 5) (.cons (.nm 6) .nil))) (.zip (.cons (.var 4) (.cons (.var 1) .nil))) (ss [
   (.ifs (.not (.val (.bi .all (.cons (.comp [8] (.nm 8) (.seq (.call 2 (.cons (.var 2) (.cons (.var 5) .nil)))) .nil (.cmp .isin (.var 8) (.var 6))) .nil)))) (ss [
    (.ret (.bl false))]) (ss [])),
   (.asg (.nm 2) (.var 6))])),
  (.ret (.cmp .notin (.int 0) (.var 2)))]) }
def f7 : PX.Fd := { glob := true, name := "_law_spoilt", ps := ["pool", "claim"], N := ["pool", "claim", "told", "at", "layer", "cut"], refs := [true, false], body := (ss [
  (.ifs (.or (.cons (.cmp .ne (.idx (.var 1) (.int 0)) (.str "stands")) (.cons (.cmp .eq (.call 16 (.cons (.var 0) (.cons (.int 2) .nil))) (.int 0)) .nil))) (ss [
   (.ret (.bin .add (.sl (.var 1) .none (.some (.int 1))) (.call 1 (.cons (.var 0) (.cons (.sl (.var 1) (.some (.int 1)) .none) .nil)))))]) (ss [])),
  (.asg (.nm 2) (.idx (.var 1) (.int 2))),
  (.asg (.nm 3) (.call 16 (.cons (.var 0) (.cons (.bi .len (.cons (.var 2) .nil)) .nil)))),
  (.asg (.nm 4) (.idx (.var 2) (.var 3))),
  (.asg (.nm 5) (.call 16 (.cons (.var 0) (.cons (.bin .add (.bi .len (.cons (.var 4) .nil)) (.int 1)) .nil)))),
  (.asg (.nm 4) (.idx (.tup (.cons (.bin .add (.sl (.var 4) .none (.some (.var 5))) (.sl (.var 4) (.some (.bin .add (.var 5) (.int 1))) .none)) (.cons (.bin .add (.var 4) (.tup (.cons (.call 16 (.cons (.var 0) (.cons (.int 9) .nil))) .nil))) .nil))) (.call 16 (.cons (.var 0) (.cons (.int 2) .nil))))),
  (.ret (.bin .add (.sl (.var 1) .none (.some (.int 2))) (.tup (.cons (.bin .add (.bin .add (.sl (.var 2) .none (.some (.var 3))) (.tup (.cons (.var 4) .nil))) (.sl (.var 2) (.some (.bin .add (.var 3) (.int 1))) .none)) .nil))))]) }
def f8 : PX.Fd := { glob := true, name := "places_of", ps := ["rods", "signs"], N := ["rods", "signs", "found", "rod", "sign"], refs := [false, false], body := (ss [
  (.asg (.nm 0) (.call 4 (.cons (.var 0) .nil))),
  (.ifs (.or (.cons (.cmp .ne (.bi .len (.cons (.var 1) .nil)) (.bi .len (.cons (.var 0) .nil))) (.cons (.not (.val (.bi .all (.cons (.comp [4] (.nm 4) (.seq (.var 1)) .nil (.cmp .isin (.var 4) (.tup (.cons (.int 1) (.cons (.neg (.int 1)) .nil))))) .nil)))) .nil))) (ss [
   (.raise 1 (.str "signs"))]) (ss [])),
  (.asg (.nm 2) (.lst (.cons (.int 0) .nil))),
  (.fr (.tup (.cons (.nm 3) (.cons (.nm 4) .nil))) (.zip (.cons (.var 0) (.cons (.var 1) .nil))) (ss [
   (.expr (.app 2 (.bin .add (.idx (.var 2) (.neg (.int 1))) (.bin .mul (.var 4) (.var 3)))))])),
  (.ret (.bi .tuple (.cons (.var 2) .nil)))]) }
def f9 : PX.Fd := { glob := true, name := "count_flat", ps := ["rods"], N := ["rods", "counts", "rod", "ahead", "own", "count", "there"], refs := [false], body := (ss [
  (.asg (.nm 1) (.dct (.cons (.int 0) .nil) (.cons (.int 1) .nil))),
  (.fr (.nm 2) (.seq (.call 4 (.cons (.var 0) .nil))) (ss [
   (.asg (.nm 3) (.dct .nil .nil)),
   (.fr (.tup (.cons (.nm 4) (.cons (.nm 5) .nil))) (.items (.var 1)) (ss [
    (.fr (.nm 6) (.seq (.tup (.cons (.bin .sub (.var 4) (.var 2)) (.cons (.bin .add (.var 4) (.var 2)) .nil)))) (ss [
     (.asg (.sub 3 (.var 6)) (.bin .add (.get (.var 3) (.cons (.var 6) (.cons (.int 0) .nil))) (.var 5)))]))])),
   (.asg (.nm 1) (.var 3))])),
  (.ret (.get (.var 1) (.cons (.int 0) (.cons (.int 0) .nil))))]) }
def f10 : PX.Fd := { glob := true, name := "_law_right", ps := ["claim"], N := ["claim", "told", "here", "k", "form", "rods", "rod", "own", "sign"], refs := [false], body := (ss [
  (.asg (.tup (.cons (.nm 4) (.cons (.nm 5) .nil))) (.sl (.var 0) .none (.some (.int 2)))),
  (.ifs (.or (.cons (.not (.cmp2 .le .le (.int 1) (.bi .len (.cons (.var 5) .nil)) (.int 40))) (.cons (.cmp .isin (.bl false) (.comp [6] (.nm 6) (.seq (.var 5)) .nil (.cmp2 .le .le (.int 1) (.var 6) (.int 200)))) .nil))) (ss [
   (.ret (.bl false))]) (ss [])),
  (.ifs (.cmp .eq (.var 4) (.str "closes")) (ss [
   (.ret (.cmp .notin (.bl true) (.comp [6] (.nm 6) (.seq (.var 5)) .nil (.cmp .gt (.bin .mul (.int 2) (.var 6)) (.bi .sum (.cons (.var 5) .nil))))))]) (ss [])),
  (.asg (.nm 1) (.idx (.var 0) (.int 2))),
  (.ifs (.cmp .eq (.var 4) (.str "gapes")) (ss [
   (.ret (.and (.cmp2 .le .lt (.int 0) (.var 1) (.bi .len (.cons (.var 5) .nil))) (.cmp .gt (.bin .mul (.int 2) (.idx (.var 5) (.var 1))) (.bi .sum (.cons (.var 5) .nil)))))]) (ss [])),
  (.ifs (.or (.cons (.cmp .ne (.bi .len (.cons (.var 1) .nil)) (.bi .len (.cons (.var 5) .nil))) (.cons (.cmp .gt (.bi .len (.cons (.var 5) .nil)) (.int 24)) .nil))) (ss [
   (.ret (.bl false))]) (ss [])),
  (.ifs (.cmp .eq (.var 4) (.str "flattens")) (ss [
   (.ret (.and (.cmp .eq (.comp [8] (.nm 8) (.seq (.var 1)) (.cons (.cmp .notin (.var 8) (.tup (.cons (.int 1) (.cons (.bin .sub (.int 0) (.int 1)) .nil)))) .nil) (.var 8)) (.lst .nil)) (.cmp .eq (.bi .sum (.cons (.comp [3] (.nm 3) (.rng (.cons (.bi .len (.cons (.var 5) .nil)) .nil)) .nil (.bin .mul (.idx (.var 1) (.var 3)) (.idx (.var 5) (.var 3)))) .nil)) (.int 0))))]) (ss [])),
  (.asg (.nm 2) (.tup (.cons (.int 0) .nil))),
  (.fr (.nm 3) (.rng (.cons (.bi .len (.cons (.var 5) .nil)) .nil)) (ss [
   (.ifs (.cmp .ne (.comp [7] (.nm 7) (.seq (.call 3 (.cons (.var 2) (.cons (.idx (.var 5) (.var 3)) .nil)))) (.cons (.cmp .notin (.var 7) (.idx (.var 1) (.var 3))) .nil) (.var 7)) (.lst .nil)) (ss [
    (.ret (.bl false))]) (ss [])),
   (.asg (.nm 2) (.idx (.var 1) (.var 3)))])),
  (.ret (.cmp .notin (.int 0) (.var 2)))]) }
def f11 : PX.Fd := { glob := true, name := "_law_plain", ps := ["part"], N := ["part", "own"], refs := [false], body := (ss [
  (.ifs (.val (.isi (.var 0) .tuple)) (ss [
   (.ret (.cmp .notin (.bl false) (.comp [1] (.nm 1) (.seq (.var 0)) .nil (.call 11 (.cons (.var 1) .nil)))))]) (ss [])),
  (.ret (.or (.isi (.var 0) .str) (.and (.isi (.var 0) .int) (.not (.isi (.var 0) .bool)))))]) }
def f12 : PX.Fd := { glob := true, name := "_law_same", ps := ["actual", "due"], N := ["actual", "due", "k"], refs := [false, false], body := (ss [
  (.ifs (.or (.cons (.val (.isi (.var 1) .tuple)) (.cons (.val (.isi (.var 1) .list)) .nil))) (ss [
   (.ifs (.or (.cons (.cmp .ne (.isi (.var 1) .tuple) (.isi (.var 0) .tuple)) (.cons (.cmp .ne (.isi (.var 1) .list) (.isi (.var 0) .list)) .nil))) (ss [
    (.ret (.bl false))]) (ss [])),
   (.ifs (.cmp .ne (.bi .len (.cons (.var 0) .nil)) (.bi .len (.cons (.var 1) .nil))) (ss [
    (.ret (.bl false))]) (ss [])),
   (.fr (.nm 2) (.rng (.cons (.bi .len (.cons (.var 1) .nil)) .nil)) (ss [
    (.ifs (.not (.val (.call 12 (.cons (.idx (.var 0) (.var 2)) (.cons (.idx (.var 1) (.var 2)) .nil))))) (ss [
     (.ret (.bl false))]) (ss []))])),
   (.ret (.bl true))]) (ss [])),
  (.ifs (.or (.cons (.cmp .is (.var 1) .non) (.cons (.val (.isi (.var 1) .bool)) .nil))) (ss [
   (.ret (.and (.cmp .eq (.cmp .is (.var 0) .non) (.cmp .is (.var 1) .non)) (.and (.or (.cmp .is (.var 1) .non) (.isi (.var 0) .bool)) (.cmp .eq (.var 0) (.var 1)))))]) (ss [])),
  (.ifs (.val (.isi (.var 1) .int)) (ss [
   (.ret (.and (.isi (.var 0) .int) (.and (.not (.isi (.var 0) .bool)) (.cmp .eq (.var 0) (.var 1)))))]) (ss [])),
  (.ret (.and (.isi (.var 0) .str) (.cmp .eq (.var 0) (.var 1))))]) }
def f13 : PX.Fd := { glob := true, name := "flatten", ps := ["rods"], N := ["rods", "layers", "rod", "here", "signs", "at", "sign"], refs := [false], body := (ss [
  (.asg (.nm 0) (.call 4 (.cons (.var 0) .nil))),
  (.ifs (.cmp .gt (.bi .len (.cons (.var 0) .nil)) (.glob "MOST_ROUND" (.int 24))) (ss [
   (.raise 0 (.str "rods"))]) (ss [])),
  (.asg (.nm 1) (.lst (.cons (.tup (.cons (.int 0) .nil)) .nil))),
  (.fr (.nm 2) (.seq (.var 0)) (ss [
   (.expr (.app 1 (.call 2 (.cons (.idx (.var 1) (.neg (.int 1))) (.cons (.var 2) .nil)))))])),
  (.ifs (.cmp .notin (.int 0) (.idx (.var 1) (.neg (.int 1)))) (ss [
   (.ret (.tup (.cons (.str "stands") (.cons (.var 0) (.cons (.bi .tuple (.cons (.sl (.var 1) (.some (.int 1)) .none) .nil)) .nil)))))]) (ss [])),
  (.asg (.nm 3) (.int 0)),
  (.asg (.nm 4) (.lst .nil)),
  (.fr (.nm 5) (.rng (.cons (.bin .sub (.bi .len (.cons (.var 0) .nil)) (.int 1)) (.cons (.neg (.int 1)) (.cons (.neg (.int 1)) .nil)))) (ss [
   (.asg (.nm 6) (.ite (.cmp .isin (.bin .sub (.var 3) (.idx (.var 0) (.var 5))) (.idx (.var 1) (.var 5))) (.int 1) (.neg (.int 1)))),
   (.expr (.app 4 (.var 6))),
   (.asg (.nm 3) (.bin .sub (.var 3) (.bin .mul (.var 6) (.idx (.var 0) (.var 5)))))])),
  (.ret (.tup (.cons (.str "flattens") (.cons (.var 0) (.cons (.bi .tuple (.cons (.rev (.var 4)) .nil)) .nil)))))]) }
def f14 : PX.Fd := { glob := true, name := "_law_layers", ps := ["rods"], N := ["rods", "found", "here", "rod"], refs := [false], body := (ss [
  (.asg (.nm 1) (.lst .nil)),
  (.asg (.nm 2) (.tup (.cons (.int 0) .nil))),
  (.fr (.nm 3) (.seq (.var 0)) (ss [
   (.asg (.nm 2) (.call 3 (.cons (.var 2) (.cons (.var 3) .nil)))),
   (.expr (.app 1 (.var 2)))])),
  (.ret (.bi .tuple (.cons (.var 1) .nil)))]) }
def f15 : PX.Fd := { glob := true, name := "close", ps := ["rods"], N := ["rods", "at", "rod"], refs := [false], body := (ss [
  (.asg (.nm 0) (.call 4 (.cons (.var 0) .nil))),
  (.fr (.tup (.cons (.nm 1) (.cons (.nm 2) .nil))) (.enum (.var 0)) (ss [
   (.ifs (.cmp .gt (.bin .mul (.int 2) (.var 2)) (.bi .sum (.cons (.var 0) .nil))) (ss [
    (.ret (.tup (.cons (.str "gapes") (.cons (.var 0) (.cons (.var 1) .nil)))))]) (ss []))])),
  (.ret (.tup (.cons (.str "closes") (.cons (.var 0) .nil))))]) }
def f16 : PX.Fd := { glob := true, name := "_law_draw", ps := ["pool", "size"], N := ["pool", "size", "cell", "value"], refs := [true, false], body := (ss [
  (.ifs (.and (.cons (.cmp .le (.idx (.var 0) (.int 2)) (.int 0)) (.cons (.cmp .le (.idx (.var 0) (.int 4)) (.int 0)) (.cons (.cmp .lt (.idx (.var 0) (.int 1)) (.bi .len (.cons (.idx (.var 0) (.int 0)) .nil))) .nil)))) (ss [
   (.asg (.nm 2) (.idx (.idx (.var 0) (.int 0)) (.idx (.var 0) (.int 1)))),
   (.asg (.sub 0 (.int 1)) (.bin .add (.idx (.var 0) (.int 1)) (.int 1))),
   (.asg (.sub 0 (.int 3)) (.bin .mod (.bi .int (.cons (.bin .add (.bin .mul (.idx (.var 0) (.int 3)) (.int 31)) (.var 2)) .nil)) (.int 2147483647))),
   (.asg (.sub 0 (.int 4)) (.int 7)),
   (.ifs (.cmp .ge (.var 2) (.bin .pow (.int 10) (.int 18))) (ss [
    (.asg (.sub 0 (.int 2)) (.var 2))]) (ss []))]) (ss [])),
  (.ifs (.cmp .gt (.idx (.var 0) (.int 2)) (.int 0)) (ss [
   (.asg (.nm 3) (.bin .mod (.bi .int (.cons (.idx (.var 0) (.int 2)) .nil)) (.var 1))),
   (.asg (.sub 0 (.int 2)) (.bin .fdiv (.idx (.var 0) (.int 2)) (.var 1))),
   (.asg (.sub 0 (.int 4)) (.int 0)),
   (.ret (.var 3))]) (ss [])),
  (.asg (.sub 0 (.int 4)) (.bin .sub (.idx (.var 0) (.int 4)) (.int 1))),
  (.asg (.sub 0 (.int 3)) (.bin .mod (.bi .int (.cons (.bin .add (.bin .mul (.idx (.var 0) (.int 3)) (.int 48271)) (.int 12345)) .nil)) (.int 2147483647))),
  (.ret (.bin .mod (.bin .mod (.bi .int (.cons (.bin .add (.bin .mul (.idx (.var 0) (.int 3)) (.int 69621)) (.int 7919)) .nil)) (.int 2147483647)) (.var 1)))]) }
def f17 : PX.Fd := { glob := true, name := "_law_pool", ps := ["script", "budget"], N := ["script", "budget"], refs := [false, false], body := (ss [
  (.ret (.lst (.cons (.bi .list (.cons (.var 0) .nil)) (.cons (.int 0) (.cons (.int 0) (.cons (.int 1) (.cons (.int 0) (.cons (.var 1) .nil))))))))]) }
def f18 : PX.Fd := { glob := true, name := "law", ps := ["script"], N := ["script", "pool", "rods", "way", "wide", "one", "due", "layers", "two", "counts", "rod", "signs", "ends", "k", "made", "own", "words", "ahead", "turn", "at", "asked", "more", "sign"], refs := [false], body := (ss [
  (.asg (.nm 1) (.call 17 (.cons (.var 0) (.cons (.int 0) .nil)))),
  (.asg (.nm 2) (.bi .tuple (.cons (.comp [13] (.nm 13) (.rng (.cons (.bin .add (.int 1) (.call 16 (.cons (.var 1) (.cons (.int 8) .nil)))) .nil)) .nil (.bin .add (.int 1) (.call 16 (.cons (.var 1) (.cons (.int 9) .nil))))) .nil))),
  (.asg (.nm 3) (.call 16 (.cons (.var 1) (.cons (.int 3) .nil)))),
  (.ifs (.cmp .eq (.var 3) (.int 0)) (ss [
   (.asg (.nm 2) (.bin .add (.var 2) (.tup (.cons (.bi .sum (.cons (.var 2) .nil)) .nil))))]) (ss [])),
  (.ifs (.cmp .eq (.var 3) (.int 1)) (ss [
   (.asg (.nm 2) (.bin .add (.var 2) (.tup (.cons (.bin .add (.bi .sum (.cons (.var 2) .nil)) (.int 1)) .nil))))]) (ss [])),
  (.asg (.nm 4) (.comp [19] (.nm 19) (.rng (.cons (.bi .len (.cons (.var 2) .nil)) .nil)) (.cons (.cmp .gt (.bin .mul (.int 2) (.idx (.var 2) (.var 19))) (.bi .sum (.cons (.var 2) .nil))) .nil) (.var 19))),
  (.asg (.nm 5) (.call 15 (.cons (.bi .list (.cons (.var 2) .nil)) .nil))),
  (.asg (.nm 6) (.tup (.cons (.str "closes") (.cons (.var 2) .nil)))),
  (.ifs (.cmp .ne (.var 4) (.lst .nil)) (ss [
   (.asg (.nm 6) (.tup (.cons (.str "gapes") (.cons (.var 2) (.cons (.idx (.var 4) (.int 0)) .nil)))))]) (ss [])),
  (.asg (.nm 7) (.call 14 (.cons (.var 2) .nil))),
  (.asg (.nm 8) (.call 13 (.cons (.var 2) .nil))),
  (.ifs (.or (.cons (.not (.val (.call 12 (.cons (.var 5) (.cons (.var 6) .nil))))) (.cons (.cmp .ne (.idx (.var 8) (.int 0)) (.idx (.tup (.cons (.str "stands") (.cons (.str "flattens") .nil))) (.bi .int (.cons (.cmp .isin (.int 0) (.idx (.var 7) (.neg (.int 1)))) .nil)))) (.cons (.cmp .ne (.idx (.var 8) (.int 1)) (.var 2)) (.cons (.not (.val (.call 11 (.cons (.var 8) .nil)))) (.cons (.not (.val (.call 10 (.cons (.var 8) .nil)))) .nil)))))) (ss [
   (.ret (.bl false))]) (ss [])),
  (.asg (.nm 9) (.dct (.cons (.int 0) .nil) (.cons (.int 1) .nil))),
  (.fr (.nm 10) (.seq (.var 2)) (ss [
   (.asg (.nm 17) (.dct .nil .nil)),
   (.fr (.nm 15) (.seq (.var 9)) (ss [
    (.asg (.sub 17 (.bin .add (.var 15) (.var 10))) (.bin .add (.get (.var 17) (.cons (.bin .add (.var 15) (.var 10)) (.cons (.int 0) .nil))) (.idx (.var 9) (.var 15)))),
    (.asg (.sub 17 (.bin .sub (.var 15) (.var 10))) (.bin .add (.get (.var 17) (.cons (.bin .sub (.var 15) (.var 10)) (.cons (.int 0) .nil))) (.idx (.var 9) (.var 15))))])),
   (.asg (.nm 9) (.var 17))])),
  (.ifs (.not (.val (.call 12 (.cons (.call 9 (.cons (.var 2) .nil)) (.cons (.get (.var 9) (.cons (.int 0) (.cons (.int 0) .nil))) .nil))))) (ss [
   (.ret (.bl false))]) (ss [])),
  (.asg (.nm 11) (.bi .tuple (.cons (.comp [10] (.nm 10) (.seq (.var 2)) .nil (.bin .sub (.int 1) (.bin .mul (.int 2) (.call 16 (.cons (.var 1) (.cons (.int 2) .nil)))))) .nil))),
  (.asg (.nm 12) (.lst (.cons (.int 0) .nil))),
  (.fr (.nm 13) (.rng (.cons (.bi .len (.cons (.var 2) .nil)) .nil)) (ss [
   (.expr (.app 12 (.bin .add (.idx (.var 12) (.neg (.int 1))) (.bin .mul (.idx (.var 11) (.var 13)) (.idx (.var 2) (.var 13))))))])),
  (.ifs (.not (.val (.call 12 (.cons (.call 8 (.cons (.var 2) (.cons (.var 11) .nil))) (.cons (.bi .tuple (.cons (.var 12) .nil)) .nil))))) (ss [
   (.ret (.bl false))]) (ss [])),
  (.asg (.nm 14) (.lst (.cons (.var 5) (.cons (.var 8) (.cons (.tup (.cons (.str "closes") (.cons (.var 2) .nil))) (.cons (.tup (.cons (.str "gapes") (.cons (.var 2) (.cons (.call 16 (.cons (.var 1) (.cons (.bin .add (.bi .len (.cons (.var 2) .nil)) (.int 1)) .nil))) .nil)))) (.cons (.tup (.cons (.str "flattens") (.cons (.var 2) (.cons (.var 11) .nil)))) (.cons (.tup (.cons (.str "stands") (.cons (.var 2) (.cons (.var 7) .nil)))) .nil)))))))),
  (.ifs (.cmp .eq (.idx (.var 8) (.int 0)) (.str "flattens")) (ss [
   (.expr (.app 14 (.tup (.cons (.str "flattens") (.cons (.var 2) (.cons (.bi .tuple (.cons (.comp [22] (.nm 22) (.seq (.idx (.var 8) (.int 2))) .nil (.bin .sub (.int 0) (.var 22))) .nil)) .nil))))))]) (ss [])),
  (.fr (.nm 15) (.seq (.var 14)) (ss [
   (.fr (.nm 18) (.rng (.cons (.int 3) .nil)) (ss [
    (.asg (.nm 20) (.var 15)),
    (.fr (.nm 21) (.rng (.cons (.var 18) .nil)) (ss [
     (.asg (.nm 20) (.call 7 (.cons (.var 1) (.cons (.var 20) .nil))))])),
    (.ifs (.not (.val (.call 12 (.cons (.call 6 (.cons (.var 20) .nil)) (.cons (.call 10 (.cons (.var 20) .nil)) .nil))))) (ss [
     (.ret (.bl false))]) (ss []))]))])),
  (.asg (.nm 16) (.lst (.cons (.call 5 (.cons (.int 0) (.cons (.tup .nil) (.cons (.int 0) .nil)))) (.cons (.call 5 (.cons (.int 0) (.cons (.bin .mul (.tup (.cons (.int 1) .nil)) (.int 25)) (.cons (.int 0) .nil)))) (.cons (.call 5 (.cons (.int 1) (.cons (.tup (.cons (.int 0) (.cons (.int 1) .nil))) (.cons (.int 0) .nil)))) (.cons (.call 5 (.cons (.int 1) (.cons (.bin .mul (.tup (.cons (.int 1) .nil)) (.int 41)) (.cons (.int 0) .nil)))) (.cons (.call 5 (.cons (.int 2) (.cons (.tup (.cons (.int 1) (.cons (.int 2) .nil))) (.cons (.tup (.cons (.int 1) .nil)) .nil)))) (.cons (.call 5 (.cons (.int 2) (.cons (.tup (.cons (.int 1) (.cons (.int 2) .nil))) (.cons (.tup (.cons (.int 1) (.cons (.int 2) .nil))) .nil)))) .nil)))))))),
  (.ret (.call 12 (.cons (.var 16) (.cons (.lst (.cons (.str "strip rods") (.cons (.str "large rods") (.cons (.str "strip rods") (.cons (.str "strip rods") (.cons (.str "strip signs") (.cons (.str "strip signs") .nil))))))) .nil))))]) }
def T : PX.Tab := { fns := [f0, f1, f2, f3, f4, f5, f6, f7, f8, f9, f10, f11, f12, f13, f14, f15, f16, f17, f18], cls := [], nms := ["what"], globs := [("MOST_ROD", 200), ("MOST_RODS", 40), ("MOST_ROUND", 24)], errs := [{ name := "TooLarge", fld := 0 }, { name := "BadStrip", fld := 0 }] }
/-! ### the text -/
def topS (i : Nat) : Stmt := PySem.Challenge.pw_foldproof_k21_whole_rods_in_a_round.main.body.getD i (.Pass ⟨0, 0, 0, 0⟩)
abbrev s0 : Stmt := topS 8
abbrev s1 : Stmt := topS 22
abbrev s2 : Stmt := topS 13
abbrev s3 : Stmt := topS 23
abbrev s4 : Stmt := topS 7
abbrev s5 : Stmt := topS 27
abbrev s6 : Stmt := topS 14
abbrev s7 : Stmt := topS 26
abbrev s8 : Stmt := topS 16
abbrev s9 : Stmt := topS 15
abbrev s10 : Stmt := topS 25
abbrev s11 : Stmt := topS 21
abbrev s12 : Stmt := topS 20
abbrev s13 : Stmt := topS 12
abbrev s14 : Stmt := topS 24
abbrev s15 : Stmt := topS 11
abbrev s16 : Stmt := topS 19
abbrev s17 : Stmt := topS 18
abbrev s18 : Stmt := topS 28
theorem ck0 : PX.ckF T f0 s0 = true := by decide +kernel
theorem sc0 : FnScope f0.N f0.ps (defScope s0) := PX.sc_ok (by decide +kernel)
theorem ck1 : PX.ckF T f1 s1 = true := by decide +kernel
theorem sc1 : FnScope f1.N f1.ps (defScope s1) := PX.sc_ok (by decide +kernel)
theorem ck2 : PX.ckF T f2 s2 = true := by decide +kernel
theorem sc2 : FnScope f2.N f2.ps (defScope s2) := PX.sc_ok (by decide +kernel)
theorem ck3 : PX.ckF T f3 s3 = true := by decide +kernel
theorem sc3 : FnScope f3.N f3.ps (defScope s3) := PX.sc_ok (by decide +kernel)
theorem ck4 : PX.ckF T f4 s4 = true := by decide +kernel
theorem sc4 : FnScope f4.N f4.ps (defScope s4) := PX.sc_ok (by decide +kernel)
theorem ck5 : PX.ckF T f5 s5 = true := by decide +kernel
theorem sc5 : FnScope f5.N f5.ps (defScope s5) := PX.sc_ok (by decide +kernel)
theorem ck6 : PX.ckF T f6 s6 = true := by decide +kernel
theorem sc6 : FnScope f6.N f6.ps (defScope s6) := PX.sc_ok (by decide +kernel)
theorem ck7 : PX.ckF T f7 s7 = true := by decide +kernel
theorem sc7 : FnScope f7.N f7.ps (defScope s7) := PX.sc_ok (by decide +kernel)
theorem ck8 : PX.ckF T f8 s8 = true := by decide +kernel
theorem sc8 : FnScope f8.N f8.ps (defScope s8) := PX.sc_ok (by decide +kernel)
theorem ck9 : PX.ckF T f9 s9 = true := by decide +kernel
theorem sc9 : FnScope f9.N f9.ps (defScope s9) := PX.sc_ok (by decide +kernel)
theorem ck10 : PX.ckF T f10 s10 = true := by decide +kernel
theorem sc10 : FnScope f10.N f10.ps (defScope s10) := PX.sc_ok (by decide +kernel)
theorem ck11 : PX.ckF T f11 s11 = true := by decide +kernel
theorem sc11 : FnScope f11.N f11.ps (defScope s11) := PX.sc_ok (by decide +kernel)
theorem ck12 : PX.ckF T f12 s12 = true := by decide +kernel
theorem sc12 : FnScope f12.N f12.ps (defScope s12) := PX.sc_ok (by decide +kernel)
theorem ck13 : PX.ckF T f13 s13 = true := by decide +kernel
theorem sc13 : FnScope f13.N f13.ps (defScope s13) := PX.sc_ok (by decide +kernel)
theorem ck14 : PX.ckF T f14 s14 = true := by decide +kernel
theorem sc14 : FnScope f14.N f14.ps (defScope s14) := PX.sc_ok (by decide +kernel)
theorem ck15 : PX.ckF T f15 s15 = true := by decide +kernel
theorem sc15 : FnScope f15.N f15.ps (defScope s15) := PX.sc_ok (by decide +kernel)
theorem ck16 : PX.ckF T f16 s16 = true := by decide +kernel
theorem sc16 : FnScope f16.N f16.ps (defScope s16) := PX.sc_ok (by decide +kernel)
theorem ck17 : PX.ckF T f17 s17 = true := by decide +kernel
theorem sc17 : FnScope f17.N f17.ps (defScope s17) := PX.sc_ok (by decide +kernel)
theorem ck18 : PX.ckF T f18 s18 = true := by decide +kernel
theorem sc18 : FnScope f18.N f18.ps (defScope s18) := PX.sc_ok (by decide +kernel)
abbrev e0 : Stmt := inClass (topS 3) 0
theorem ek0 : PX.errF "what" e0 = true := by decide +kernel
abbrev e1 : Stmt := inClass (topS 2) 0
theorem ek1 : PX.errF "what" e1 = true := by decide +kernel
variable {w : World} {K : PySem.W.Frag} {mg : Str → Option Value} {base : Heap}
/-- what stands fixed -/
def ct (w : World) (K : PySem.W.Frag) (mg : Str → Option Value) (base : Heap) (cs fs : List Addr) : PX.Ct := { P := PySem.Challenge.rw_foldproof_k21_whole_rods_in_a_round.prog, w := w, K := K, mg := mg, base := base, cA := fun c => cs.getD c 0, fA := fun f => fs.getD f 0, nm := fun f => T.nms.getD f "" }
theorem top_ok : (PySem.Challenge.rw_foldproof_k21_whole_rods_in_a_round.prog.main.scope.names.lookup ("super" : Str)).isSome = false := by decide +kernel
theorem nms_ok : T.nms.Nodup ∧ ("" : Str) ∉ T.nms := by decide +kernel
theorem all_mk {h : Heap} {fa p0 p1 p2 p3 p4 p5 p6 p7 p8 p9 p10 p11 p12 p13 p14 p15 p16 p17 p18 : Addr} {oc0 kV0 dc0 pm0 cd0 ct0 : Value} {od0 an0 : Option Addr} {sl0 : Array (Option Value)} {oc1 kV1 dc1 pm1 cd1 ct1 : Value} {od1 an1 : Option Addr} {sl1 : Array (Option Value)} {oc2 kV2 dc2 pm2 cd2 ct2 : Value} {od2 an2 : Option Addr} {sl2 : Array (Option Value)} {oc3 kV3 dc3 pm3 cd3 ct3 : Value} {od3 an3 : Option Addr} {sl3 : Array (Option Value)} {oc4 kV4 dc4 pm4 cd4 ct4 : Value} {od4 an4 : Option Addr} {sl4 : Array (Option Value)} {oc5 kV5 dc5 pm5 cd5 ct5 : Value} {od5 an5 : Option Addr} {sl5 : Array (Option Value)} {oc6 kV6 dc6 pm6 cd6 ct6 : Value} {od6 an6 : Option Addr} {sl6 : Array (Option Value)} {oc7 kV7 dc7 pm7 cd7 ct7 : Value} {od7 an7 : Option Addr} {sl7 : Array (Option Value)} {oc8 kV8 dc8 pm8 cd8 ct8 : Value} {od8 an8 : Option Addr} {sl8 : Array (Option Value)} {oc9 kV9 dc9 pm9 cd9 ct9 : Value} {od9 an9 : Option Addr} {sl9 : Array (Option Value)} {oc10 kV10 dc10 pm10 cd10 ct10 : Value} {od10 an10 : Option Addr} {sl10 : Array (Option Value)} {oc11 kV11 dc11 pm11 cd11 ct11 : Value} {od11 an11 : Option Addr} {sl11 : Array (Option Value)} {oc12 kV12 dc12 pm12 cd12 ct12 : Value} {od12 an12 : Option Addr} {sl12 : Array (Option Value)} {oc13 kV13 dc13 pm13 cd13 ct13 : Value} {od13 an13 : Option Addr} {sl13 : Array (Option Value)} {oc14 kV14 dc14 pm14 cd14 ct14 : Value} {od14 an14 : Option Addr} {sl14 : Array (Option Value)} {oc15 kV15 dc15 pm15 cd15 ct15 : Value} {od15 an15 : Option Addr} {sl15 : Array (Option Value)} {oc16 kV16 dc16 pm16 cd16 ct16 : Value} {od16 an16 : Option Addr} {sl16 : Array (Option Value)} {oc17 kV17 dc17 pm17 cd17 ct17 : Value} {od17 an17 : Option Addr} {sl17 : Array (Option Value)} {oc18 kV18 dc18 pm18 cd18 ct18 : Value} {od18 an18 : Option Addr} {sl18 : Array (Option Value)} {E0 E1 B0 : Addr} {nm_e0 q_e0 : Str} {N_e0 pf_e0 cda_e0 cc_e0 : Addr} {bs_e0 : List Value} {sn_e0 : List Str} {sub_e0 : List Value} {ab_e0 : Bool} {col_e0 : Option Bool} {dd_e0 od_e0 an_e0 cdd_e0 cld_e0 : Option Addr} {k0_e0 k1_e0 k2_e0 k3_e0 k5_e0 : Option Value} {oc_e0 kV_e0 dc_e0 pm_e0 ct_e0 ccl_e0 cl_e0 : Value} {sl_e0 ccs_e0 csl_e0 : Array (Option Value)} {vs_e0 : Array Value} {file_e0 : Str} {tf_e0 : Tok} {nm_e1 q_e1 : Str} {N_e1 pf_e1 cda_e1 cc_e1 : Addr} {bs_e1 : List Value} {sn_e1 : List Str} {sub_e1 : List Value} {ab_e1 : Bool} {col_e1 : Option Bool} {dd_e1 od_e1 an_e1 cdd_e1 cld_e1 : Option Addr} {k0_e1 k1_e1 k2_e1 k3_e1 k5_e1 : Option Value} {oc_e1 kV_e1 dc_e1 pm_e1 ct_e1 ccl_e1 cl_e1 : Value} {sl_e1 ccs_e1 csl_e1 : Array (Option Value)} {vs_e1 : Array Value} {file_e1 : Str} {tf_e1 : Tok} {t0 : Tok} {t1 : Tok} {t2 : Tok} (X : K.In h) (Gm : h.Ns mainGlobals mg) (hfa : mg "law" = some (.ref fa))
    (ae_e0 : PySem.W.nsIn K mainGlobals "TooLarge" = some (some (.ref E0)))
    (ae_e1 : PySem.W.nsIn K mainGlobals "BadStrip" = some (some (.ref E1)))
    (a0 : PySem.W.nsIn K mainGlobals "are_rods" = some (some (.ref p0)))
    (l0 : K.lookup p0 = some ⟨oc0, od0, .func (PySem.W.fnOf "are_rods" "are_rods" (defArgs s0) (defBody s0) (defScope s0) .none kV0 dc0 pm0 an0 cd0 ct0), sl0⟩)
    (c0 : PySem.W.codeIn K cd0 "are_rods" = true)
    (k0 : PySem.W.keepIn K (.ref p0) = true)
    (a1 : PySem.W.nsIn K mainGlobals "_law_touched" = some (some (.ref p1)))
    (l1 : K.lookup p1 = some ⟨oc1, od1, .func (PySem.W.fnOf "_law_touched" "_law_touched" (defArgs s1) (defBody s1) (defScope s1) .none kV1 dc1 pm1 an1 cd1 ct1), sl1⟩)
    (c1 : PySem.W.codeIn K cd1 "_law_touched" = true)
    (k1 : PySem.W.keepIn K (.ref p1) = true)
    (a2 : PySem.W.nsIn K mainGlobals "_sums" = some (some (.ref p2)))
    (l2 : K.lookup p2 = some ⟨oc2, od2, .func (PySem.W.fnOf "_sums" "_sums" (defArgs s2) (defBody s2) (defScope s2) .none kV2 dc2 pm2 an2 cd2 ct2), sl2⟩)
    (c2 : PySem.W.codeIn K cd2 "_sums" = true)
    (k2 : PySem.W.keepIn K (.ref p2) = true)
    (a3 : PySem.W.nsIn K mainGlobals "_law_sums" = some (some (.ref p3)))
    (l3 : K.lookup p3 = some ⟨oc3, od3, .func (PySem.W.fnOf "_law_sums" "_law_sums" (defArgs s3) (defBody s3) (defScope s3) .none kV3 dc3 pm3 an3 cd3 ct3), sl3⟩)
    (c3 : PySem.W.codeIn K cd3 "_law_sums" = true)
    (k3 : PySem.W.keepIn K (.ref p3) = true)
    (a4 : PySem.W.nsIn K mainGlobals "checked_rods" = some (some (.ref p4)))
    (l4 : K.lookup p4 = some ⟨oc4, od4, .func (PySem.W.fnOf "checked_rods" "checked_rods" (defArgs s4) (defBody s4) (defScope s4) .none kV4 dc4 pm4 an4 cd4 ct4), sl4⟩)
    (c4 : PySem.W.codeIn K cd4 "checked_rods" = true)
    (k4 : PySem.W.keepIn K (.ref p4) = true)
    (a5 : PySem.W.nsIn K mainGlobals "_law_refused" = some (some (.ref p5)))
    (l5 : K.lookup p5 = some ⟨oc5, od5, .func (PySem.W.fnOf "_law_refused" "_law_refused" (defArgs s5) (defBody s5) (defScope s5) .none kV5 dc5 pm5 an5 cd5 ct5), sl5⟩)
    (c5 : PySem.W.codeIn K cd5 "_law_refused" = true)
    (k5 : PySem.W.keepIn K (.ref p5) = true)
    (a6 : PySem.W.nsIn K mainGlobals "band_right" = some (some (.ref p6)))
    (l6 : K.lookup p6 = some ⟨oc6, od6, .func (PySem.W.fnOf "band_right" "band_right" (defArgs s6) (defBody s6) (defScope s6) .none kV6 dc6 pm6 an6 cd6 ct6), sl6⟩)
    (c6 : PySem.W.codeIn K cd6 "band_right" = true)
    (k6 : PySem.W.keepIn K (.ref p6) = true)
    (a7 : PySem.W.nsIn K mainGlobals "_law_spoilt" = some (some (.ref p7)))
    (l7 : K.lookup p7 = some ⟨oc7, od7, .func (PySem.W.fnOf "_law_spoilt" "_law_spoilt" (defArgs s7) (defBody s7) (defScope s7) .none kV7 dc7 pm7 an7 cd7 ct7), sl7⟩)
    (c7 : PySem.W.codeIn K cd7 "_law_spoilt" = true)
    (k7 : PySem.W.keepIn K (.ref p7) = true)
    (a8 : PySem.W.nsIn K mainGlobals "places_of" = some (some (.ref p8)))
    (l8 : K.lookup p8 = some ⟨oc8, od8, .func (PySem.W.fnOf "places_of" "places_of" (defArgs s8) (defBody s8) (defScope s8) .none kV8 dc8 pm8 an8 cd8 ct8), sl8⟩)
    (c8 : PySem.W.codeIn K cd8 "places_of" = true)
    (k8 : PySem.W.keepIn K (.ref p8) = true)
    (a9 : PySem.W.nsIn K mainGlobals "count_flat" = some (some (.ref p9)))
    (l9 : K.lookup p9 = some ⟨oc9, od9, .func (PySem.W.fnOf "count_flat" "count_flat" (defArgs s9) (defBody s9) (defScope s9) .none kV9 dc9 pm9 an9 cd9 ct9), sl9⟩)
    (c9 : PySem.W.codeIn K cd9 "count_flat" = true)
    (k9 : PySem.W.keepIn K (.ref p9) = true)
    (a10 : PySem.W.nsIn K mainGlobals "_law_right" = some (some (.ref p10)))
    (l10 : K.lookup p10 = some ⟨oc10, od10, .func (PySem.W.fnOf "_law_right" "_law_right" (defArgs s10) (defBody s10) (defScope s10) .none kV10 dc10 pm10 an10 cd10 ct10), sl10⟩)
    (c10 : PySem.W.codeIn K cd10 "_law_right" = true)
    (k10 : PySem.W.keepIn K (.ref p10) = true)
    (a11 : PySem.W.nsIn K mainGlobals "_law_plain" = some (some (.ref p11)))
    (l11 : K.lookup p11 = some ⟨oc11, od11, .func (PySem.W.fnOf "_law_plain" "_law_plain" (defArgs s11) (defBody s11) (defScope s11) .none kV11 dc11 pm11 an11 cd11 ct11), sl11⟩)
    (c11 : PySem.W.codeIn K cd11 "_law_plain" = true)
    (k11 : PySem.W.keepIn K (.ref p11) = true)
    (a12 : PySem.W.nsIn K mainGlobals "_law_same" = some (some (.ref p12)))
    (l12 : K.lookup p12 = some ⟨oc12, od12, .func (PySem.W.fnOf "_law_same" "_law_same" (defArgs s12) (defBody s12) (defScope s12) .none kV12 dc12 pm12 an12 cd12 ct12), sl12⟩)
    (c12 : PySem.W.codeIn K cd12 "_law_same" = true)
    (k12 : PySem.W.keepIn K (.ref p12) = true)
    (a13 : PySem.W.nsIn K mainGlobals "flatten" = some (some (.ref p13)))
    (l13 : K.lookup p13 = some ⟨oc13, od13, .func (PySem.W.fnOf "flatten" "flatten" (defArgs s13) (defBody s13) (defScope s13) .none kV13 dc13 pm13 an13 cd13 ct13), sl13⟩)
    (c13 : PySem.W.codeIn K cd13 "flatten" = true)
    (k13 : PySem.W.keepIn K (.ref p13) = true)
    (a14 : PySem.W.nsIn K mainGlobals "_law_layers" = some (some (.ref p14)))
    (l14 : K.lookup p14 = some ⟨oc14, od14, .func (PySem.W.fnOf "_law_layers" "_law_layers" (defArgs s14) (defBody s14) (defScope s14) .none kV14 dc14 pm14 an14 cd14 ct14), sl14⟩)
    (c14 : PySem.W.codeIn K cd14 "_law_layers" = true)
    (k14 : PySem.W.keepIn K (.ref p14) = true)
    (a15 : PySem.W.nsIn K mainGlobals "close" = some (some (.ref p15)))
    (l15 : K.lookup p15 = some ⟨oc15, od15, .func (PySem.W.fnOf "close" "close" (defArgs s15) (defBody s15) (defScope s15) .none kV15 dc15 pm15 an15 cd15 ct15), sl15⟩)
    (c15 : PySem.W.codeIn K cd15 "close" = true)
    (k15 : PySem.W.keepIn K (.ref p15) = true)
    (a16 : PySem.W.nsIn K mainGlobals "_law_draw" = some (some (.ref p16)))
    (l16 : K.lookup p16 = some ⟨oc16, od16, .func (PySem.W.fnOf "_law_draw" "_law_draw" (defArgs s16) (defBody s16) (defScope s16) .none kV16 dc16 pm16 an16 cd16 ct16), sl16⟩)
    (c16 : PySem.W.codeIn K cd16 "_law_draw" = true)
    (k16 : PySem.W.keepIn K (.ref p16) = true)
    (a17 : PySem.W.nsIn K mainGlobals "_law_pool" = some (some (.ref p17)))
    (l17 : K.lookup p17 = some ⟨oc17, od17, .func (PySem.W.fnOf "_law_pool" "_law_pool" (defArgs s17) (defBody s17) (defScope s17) .none kV17 dc17 pm17 an17 cd17 ct17), sl17⟩)
    (c17 : PySem.W.codeIn K cd17 "_law_pool" = true)
    (k17 : PySem.W.keepIn K (.ref p17) = true)
    (a18 : PySem.W.nsIn K mainGlobals "law" = some (some (.ref p18)))
    (l18 : K.lookup p18 = some ⟨oc18, od18, .func (PySem.W.fnOf "law" "law" (defArgs s18) (defBody s18) (defScope s18) .none kV18 dc18 pm18 an18 cd18 ct18), sl18⟩)
    (c18 : PySem.W.codeIn K cd18 "law" = true)
    (k18 : PySem.W.keepIn K (.ref p18) = true)
    (xe_e0 : K.lookup E0 = some (excClassObj nm_e0 q_e0 E0 N_e0 bs_e0 [.ref B0, .type "ValueError", .type "Exception", .type "BaseException", .type "object"] true sn_e0 sub_e0 ab_e0 col_e0 dd_e0 k0_e0 k1_e0 k2_e0 k3_e0 k5_e0 "ValueError.__new__"))
    (sa_e0 : PySem.W.findIn K (.ref E0) "__setattr__" = some (some (.builtin "object.__setattr__")))
    (ga_e0 : PySem.W.findIn K (.ref E0) "__getattribute__" = some (some (.builtin "BaseException.__getattribute__")))
    (gg_e0 : PySem.W.findIn K (.ref E0) "__getattr__" = some none)
    (nb_e0 : PySem.W.findIn K (.ref E0) "what" = some none)
    (ai_e0 : PySem.W.findIn K (.ref E0) "__init__" = some (some (.ref pf_e0)))
    (ti_e0 : PySem.W.typeIn K (.ref pf_e0) = some (.type "function"))
    (kc_e0 : PySem.W.keepIn K (.ref E0) = true)
    (ex_e0 : PySem.W.subIn K (.ref E0) (.type "BaseException") = some true)
    (ve_e0 : PySem.W.subIn K (.ref E0) (.type "ValueError") = some true)
    (tc_e0 : PySem.W.typeIn K (.ref E0) = some (.type "type"))
    (hc_e0 : PySem.W.hasDictIn K E0 = true)
    (mr_e0 : PySem.W.mroIn K E0 (.ref E0) = some true)
    (su_e0 : PySem.W.ks_superIn K E0 E0 "__init__" = some (some (.builtin "ValueError.__init__")))
    (lf_e0 : K.lookup pf_e0 = some ⟨oc_e0, od_e0, .func (PySem.W.ksFn "__init__" "TooLarge.__init__" (defArgs e0) (defBody e0) (defScope e0) .none kV_e0 dc_e0 pm_e0 an_e0 (.ref cda_e0) ct_e0 cc_e0), sl_e0⟩)
    (cd_e0 : PySem.W.codeIn K (.ref cda_e0) "TooLarge.__init__" = true)
    (lc_e0 : K.lookup cda_e0 = some ⟨ccl_e0, cdd_e0, .fields vs_e0, ccs_e0⟩)
    (vs_e0 : vs_e0[2]? = some (.str file_e0 tf_e0))
    (fi_e0 : ((PySem.Challenge.rw_foldproof_k21_whole_rods_in_a_round.prog.main.file : Str) == file_e0) = true)
    (cl_e0 : K.lookup cc_e0 = some ⟨cl_e0, cld_e0, .cell (some (.ref E0)), csl_e0⟩)
    (xe_e1 : K.lookup E1 = some (excClassObj nm_e1 q_e1 E1 N_e1 bs_e1 [.ref B0, .type "ValueError", .type "Exception", .type "BaseException", .type "object"] true sn_e1 sub_e1 ab_e1 col_e1 dd_e1 k0_e1 k1_e1 k2_e1 k3_e1 k5_e1 "ValueError.__new__"))
    (sa_e1 : PySem.W.findIn K (.ref E1) "__setattr__" = some (some (.builtin "object.__setattr__")))
    (ga_e1 : PySem.W.findIn K (.ref E1) "__getattribute__" = some (some (.builtin "BaseException.__getattribute__")))
    (gg_e1 : PySem.W.findIn K (.ref E1) "__getattr__" = some none)
    (nb_e1 : PySem.W.findIn K (.ref E1) "what" = some none)
    (ai_e1 : PySem.W.findIn K (.ref E1) "__init__" = some (some (.ref pf_e1)))
    (ti_e1 : PySem.W.typeIn K (.ref pf_e1) = some (.type "function"))
    (kc_e1 : PySem.W.keepIn K (.ref E1) = true)
    (ex_e1 : PySem.W.subIn K (.ref E1) (.type "BaseException") = some true)
    (ve_e1 : PySem.W.subIn K (.ref E1) (.type "ValueError") = some true)
    (tc_e1 : PySem.W.typeIn K (.ref E1) = some (.type "type"))
    (hc_e1 : PySem.W.hasDictIn K E1 = true)
    (mr_e1 : PySem.W.mroIn K E1 (.ref E1) = some true)
    (su_e1 : PySem.W.ks_superIn K E1 E1 "__init__" = some (some (.builtin "ValueError.__init__")))
    (lf_e1 : K.lookup pf_e1 = some ⟨oc_e1, od_e1, .func (PySem.W.ksFn "__init__" "BadStrip.__init__" (defArgs e1) (defBody e1) (defScope e1) .none kV_e1 dc_e1 pm_e1 an_e1 (.ref cda_e1) ct_e1 cc_e1), sl_e1⟩)
    (cd_e1 : PySem.W.codeIn K (.ref cda_e1) "BadStrip.__init__" = true)
    (lc_e1 : K.lookup cda_e1 = some ⟨ccl_e1, cdd_e1, .fields vs_e1, ccs_e1⟩)
    (vs_e1 : vs_e1[2]? = some (.str file_e1 tf_e1))
    (fi_e1 : ((PySem.Challenge.rw_foldproof_k21_whole_rods_in_a_round.prog.main.file : Str) == file_e1) = true)
    (cl_e1 : K.lookup cc_e1 = some ⟨cl_e1, cld_e1, .cell (some (.ref E1)), csl_e1⟩)
    (opq : PySem.W.nsIn K PySem.cStatics "thirdparty.any" = some none)
    (xm0_0 : PySem.W.exmOne K (.ref E0) (.ref E0) = some true)
    (xm0_1 : PySem.W.exmOne K (.ref E0) (.ref E1) = some false)
    (xm1_0 : PySem.W.exmOne K (.ref E1) (.ref E0) = some false)
    (xm1_1 : PySem.W.exmOne K (.ref E1) (.ref E1) = some true)
    (v0 : PySem.W.nsIn K mainGlobals "MOST_ROD" = some (some (.int 200 t0)))
    (v1 : PySem.W.nsIn K mainGlobals "MOST_RODS" = some (some (.int 40 t1)))
    (v2 : PySem.W.nsIn K mainGlobals "MOST_ROUND" = some (some (.int 24 t2)))
    (z_len : PySem.W.nsIn K mainGlobals "len" = some none)
    (z_list : PySem.W.nsIn K mainGlobals "list" = some none)
    (z_tuple : PySem.W.nsIn K mainGlobals "tuple" = some none)
    (z_int : PySem.W.nsIn K mainGlobals "int" = some none)
    (z_all : PySem.W.nsIn K mainGlobals "all" = some none)
    (z_any : PySem.W.nsIn K mainGlobals "any" = some none)
    (z_sorted : PySem.W.nsIn K mainGlobals "sorted" = some none)
    (z_set : PySem.W.nsIn K mainGlobals "set" = some none)
    (z_max : PySem.W.nsIn K mainGlobals "max" = some none)
    (z_min : PySem.W.nsIn K mainGlobals "min" = some none)
    (z_sum : PySem.W.nsIn K mainGlobals "sum" = some none)
    (z_abs : PySem.W.nsIn K mainGlobals "abs" = some none)
    (z_range : PySem.W.nsIn K mainGlobals "range" = some none)
    (z_enumerate : PySem.W.nsIn K mainGlobals "enumerate" = some none)
    (z_zip : PySem.W.nsIn K mainGlobals "zip" = some none)
    (z_isinstance : PySem.W.nsIn K mainGlobals "isinstance" = some none)
    (z_bool : PySem.W.nsIn K mainGlobals "bool" = some none)
    (z_str : PySem.W.nsIn K mainGlobals "str" = some none)
    (z_super : PySem.W.nsIn K mainGlobals "super" = some none)
    {k : Nat} (main : ∀ ns : List Int, ns.length ≤ 63 → PX.callT T (k + 1) 18 [.d (.ro (ns.map PX.D.int))] = .ok (.d (.bl true)) [none]) :
    ∃ fd : FuncData, (∀ (s : Shared) (v : Value), BindsTo s fd ⟨[v], []⟩ [("script", v)]) ∧ ∀ base : Heap, K.In base → base.Ns mainGlobals mg → FnOk PySem.Challenge.rw_foldproof_k21_whole_rods_in_a_round.prog w K mg base (L2.CX PySem.Challenge.rw_foldproof_k21_whole_rods_in_a_round.prog w) (2 * (k + 1)) fa fd ["script"] (PX.spL K 63) := by
  have e : fa = p18 := by have e := hfa.symm.trans (PySem.W.mg_of X Gm a18); cases e; rfl
  rw [e]
  have F0 := fun_mk (st := s0) l0 c0 k0
  have F1 := fun_mk (st := s1) l1 c1 k1
  have F2 := fun_mk (st := s2) l2 c2 k2
  have F3 := fun_mk (st := s3) l3 c3 k3
  have F4 := fun_mk (st := s4) l4 c4 k4
  have F5 := fun_mk (st := s5) l5 c5 k5
  have F6 := fun_mk (st := s6) l6 c6 k6
  have F7 := fun_mk (st := s7) l7 c7 k7
  have F8 := fun_mk (st := s8) l8 c8 k8
  have F9 := fun_mk (st := s9) l9 c9 k9
  have F10 := fun_mk (st := s10) l10 c10 k10
  have F11 := fun_mk (st := s11) l11 c11 k11
  have F12 := fun_mk (st := s12) l12 c12 k12
  have F13 := fun_mk (st := s13) l13 c13 k13
  have F14 := fun_mk (st := s14) l14 c14 k14
  have F15 := fun_mk (st := s15) l15 c15 k15
  have F16 := fun_mk (st := s16) l16 c16 k16
  have F17 := fun_mk (st := s17) l17 c17 k17
  have F18 := fun_mk (st := s18) l18 c18 k18
  refine ⟨PySem.W.fnOf "law" "law" (defArgs s18) (defBody s18) (defScope s18) .none kV18 dc18 pm18 an18 cd18 ct18, fun s v => .of_eq rfl, fun base _ _ => ?_⟩
  let G := ct w K mg base [E0, E1] [p0, p1, p2, p3, p4, p5, p6, p7, p8, p9, p10, p11, p12, p13, p14, p15, p16, p17, p18]
  have fx : PX.Fx0 G T := {
    nm := fun f m hm => by show T.nms.getD f "" = m; simp [List.getD, hm]
    inj := PX.nm_inj nms_ok.1 nms_ok.2
    bi := fun b => by cases b <;> first | exact PySem.W.mg_none_of X Gm z_len | exact PySem.W.mg_none_of X Gm z_list | exact PySem.W.mg_none_of X Gm z_tuple | exact PySem.W.mg_none_of X Gm z_int | exact PySem.W.mg_none_of X Gm z_all | exact PySem.W.mg_none_of X Gm z_any | exact PySem.W.mg_none_of X Gm z_sorted | exact PySem.W.mg_none_of X Gm z_set | exact PySem.W.mg_none_of X Gm z_max | exact PySem.W.mg_none_of X Gm z_min | exact PySem.W.mg_none_of X Gm z_sum | exact PySem.W.mg_none_of X Gm z_abs
    range := PySem.W.mg_none_of X Gm z_range
    enum := PySem.W.mg_none_of X Gm z_enumerate
    zip := PySem.W.mg_none_of X Gm z_zip
    isi := PySem.W.mg_none_of X Gm z_isinstance
    ty := fun t ht => by cases t <;> first | exact PySem.W.mg_none_of X Gm z_tuple | exact PySem.W.mg_none_of X Gm z_list | exact PySem.W.mg_none_of X Gm z_int | exact PySem.W.mg_none_of X Gm z_bool | exact PySem.W.mg_none_of X Gm z_str | exact absurd rfl (ht _)
    globs := PX.look_all (Q := fun x i => ∃ t, mg x = some (.int i t)) ⟨⟨t0, (PySem.W.mg_of X Gm v0)⟩, ⟨t1, (PySem.W.mg_of X Gm v1)⟩, ⟨t2, (PySem.W.mg_of X Gm v2)⟩, trivial⟩
    fns := fun f fd hf => PX.AllIx.at (P := fun f (fd : PX.Fd) => fd.glob = true → G.mg fd.name = some (.ref (G.fA f)) ∧ PySem.W.keepIn G.K (.ref (G.fA f)) = true) (l := T.fns) ⟨fun _ => ⟨(PySem.W.mg_of X Gm a0), k0⟩, fun _ => ⟨(PySem.W.mg_of X Gm a1), k1⟩, fun _ => ⟨(PySem.W.mg_of X Gm a2), k2⟩, fun _ => ⟨(PySem.W.mg_of X Gm a3), k3⟩, fun _ => ⟨(PySem.W.mg_of X Gm a4), k4⟩, fun _ => ⟨(PySem.W.mg_of X Gm a5), k5⟩, fun _ => ⟨(PySem.W.mg_of X Gm a6), k6⟩, fun _ => ⟨(PySem.W.mg_of X Gm a7), k7⟩, fun _ => ⟨(PySem.W.mg_of X Gm a8), k8⟩, fun _ => ⟨(PySem.W.mg_of X Gm a9), k9⟩, fun _ => ⟨(PySem.W.mg_of X Gm a10), k10⟩, fun _ => ⟨(PySem.W.mg_of X Gm a11), k11⟩, fun _ => ⟨(PySem.W.mg_of X Gm a12), k12⟩, fun _ => ⟨(PySem.W.mg_of X Gm a13), k13⟩, fun _ => ⟨(PySem.W.mg_of X Gm a14), k14⟩, fun _ => ⟨(PySem.W.mg_of X Gm a15), k15⟩, fun _ => ⟨(PySem.W.mg_of X Gm a16), k16⟩, fun _ => ⟨(PySem.W.mg_of X Gm a17), k17⟩, fun _ => ⟨(PySem.W.mg_of X Gm a18), k18⟩, trivial⟩ hf
    cls := fun c cd hc => by cases hc
    errs := fun j ed hj => PX.AllIx.at (P := fun j (ed : PX.Ed) => ∃ (fI : Addr) (st : Stmt) (fld : Str), T.nms[ed.fld]? = some fld ∧ PX.ErrT G.P G.K G.mg ed.name (G.cA (T.cls.length + j)) fI st fld) (l := T.errs) ⟨
      ⟨pf_e0, e0, "what", by decide +kernel, { gC := (PySem.W.mg_of X Gm ae_e0), cls := ⟨_, _, _, _, _, _, _, _, _, _, _, _, _, _, _, xe_e0, by show HandSPX.refsVE [Value.type "ValueError", .type "Exception", .type "BaseException", .type "object"] = true; decide +kernel⟩, sa := sa_e0, ga := ga_e0, gg := gg_e0, noN := nb_e0, iC := ai_e0, tC := ti_e0, kC := kc_e0, exC := ex_e0, veC := ve_e0, tyC := tc_e0, hdC := hc_e0, mro := mr_e0, sup := su_e0, opq := opq, noS := PySem.W.mg_none_of X Gm z_super, top := top_ok, fn := ⟨_, _, _, _, _, _, _, _, _, _, _, _, _, _, _, _, _, _, _, _, lf_e0, cd_e0, lc_e0, vs_e0, fi_e0, cl_e0⟩, par := ⟨_, rfl, rfl⟩, bnd := fun _ _ _ _ _ _ _ _ _ _ _ => .of_eq rfl, ck := ek0 }⟩, 
      ⟨pf_e1, e1, "what", by decide +kernel, { gC := (PySem.W.mg_of X Gm ae_e1), cls := ⟨_, _, _, _, _, _, _, _, _, _, _, _, _, _, _, xe_e1, by show HandSPX.refsVE [Value.type "ValueError", .type "Exception", .type "BaseException", .type "object"] = true; decide +kernel⟩, sa := sa_e1, ga := ga_e1, gg := gg_e1, noN := nb_e1, iC := ai_e1, tC := ti_e1, kC := kc_e1, exC := ex_e1, veC := ve_e1, tyC := tc_e1, hdC := hc_e1, mro := mr_e1, sup := su_e1, opq := opq, noS := PySem.W.mg_none_of X Gm z_super, top := top_ok, fn := ⟨_, _, _, _, _, _, _, _, _, _, _, _, _, _, _, _, _, _, _, _, lf_e1, cd_e1, lc_e1, vs_e1, fi_e1, cl_e1⟩, par := ⟨_, rfl, rfl⟩, bnd := fun _ _ _ _ _ _ _ _ _ _ _ => .of_eq rfl, ck := ek1 }⟩, trivial⟩ hj
    exm := fun i j hi hj => by
      have hi : i < 2 := hi
      have hj : j < 2 := hj
      match i, j, hi, hj with
      | 0, 0, _, _ => exact xm0_0
      | 0, 1, _, _ => exact xm0_1
      | 1, 0, _, _ => exact xm1_0
      | 1, 1, _, _ => exact xm1_1
  }
  have ok : PX.TabOk G T := fun f fd hf => PX.AllIx.at (P := fun f (fd : PX.Fd) => ∃ (fdt : FuncData) (qual x : Str) (st : Stmt), Fun G.K x qual st (G.fA f) fdt ∧ FnScope fd.N fd.ps (defScope st) ∧ PX.ckF T fd st = true ∧ Binds G.K fdt fd.ps []) (l := T.fns) ⟨
    ⟨_, _, _, s0, F0, sc0, ck0, F0.binds (ps := f0.ps) fun _ _ _ _ _ _ us hl => match us, hl with | [_], _ => rfl⟩, 
    ⟨_, _, _, s1, F1, sc1, ck1, F1.binds (ps := f1.ps) fun _ _ _ _ _ _ us hl => match us, hl with | [_, _], _ => rfl⟩, 
    ⟨_, _, _, s2, F2, sc2, ck2, F2.binds (ps := f2.ps) fun _ _ _ _ _ _ us hl => match us, hl with | [_, _], _ => rfl⟩, 
    ⟨_, _, _, s3, F3, sc3, ck3, F3.binds (ps := f3.ps) fun _ _ _ _ _ _ us hl => match us, hl with | [_, _], _ => rfl⟩, 
    ⟨_, _, _, s4, F4, sc4, ck4, F4.binds (ps := f4.ps) fun _ _ _ _ _ _ us hl => match us, hl with | [_], _ => rfl⟩, 
    ⟨_, _, _, s5, F5, sc5, ck5, F5.binds (ps := f5.ps) fun _ _ _ _ _ _ us hl => match us, hl with | [_, _, _], _ => rfl⟩, 
    ⟨_, _, _, s6, F6, sc6, ck6, F6.binds (ps := f6.ps) fun _ _ _ _ _ _ us hl => match us, hl with | [_], _ => rfl⟩, 
    ⟨_, _, _, s7, F7, sc7, ck7, F7.binds (ps := f7.ps) fun _ _ _ _ _ _ us hl => match us, hl with | [_, _], _ => rfl⟩, 
    ⟨_, _, _, s8, F8, sc8, ck8, F8.binds (ps := f8.ps) fun _ _ _ _ _ _ us hl => match us, hl with | [_, _], _ => rfl⟩, 
    ⟨_, _, _, s9, F9, sc9, ck9, F9.binds (ps := f9.ps) fun _ _ _ _ _ _ us hl => match us, hl with | [_], _ => rfl⟩, 
    ⟨_, _, _, s10, F10, sc10, ck10, F10.binds (ps := f10.ps) fun _ _ _ _ _ _ us hl => match us, hl with | [_], _ => rfl⟩, 
    ⟨_, _, _, s11, F11, sc11, ck11, F11.binds (ps := f11.ps) fun _ _ _ _ _ _ us hl => match us, hl with | [_], _ => rfl⟩, 
    ⟨_, _, _, s12, F12, sc12, ck12, F12.binds (ps := f12.ps) fun _ _ _ _ _ _ us hl => match us, hl with | [_, _], _ => rfl⟩, 
    ⟨_, _, _, s13, F13, sc13, ck13, F13.binds (ps := f13.ps) fun _ _ _ _ _ _ us hl => match us, hl with | [_], _ => rfl⟩, 
    ⟨_, _, _, s14, F14, sc14, ck14, F14.binds (ps := f14.ps) fun _ _ _ _ _ _ us hl => match us, hl with | [_], _ => rfl⟩, 
    ⟨_, _, _, s15, F15, sc15, ck15, F15.binds (ps := f15.ps) fun _ _ _ _ _ _ us hl => match us, hl with | [_], _ => rfl⟩, 
    ⟨_, _, _, s16, F16, sc16, ck16, F16.binds (ps := f16.ps) fun _ _ _ _ _ _ us hl => match us, hl with | [_, _], _ => rfl⟩, 
    ⟨_, _, _, s17, F17, sc17, ck17, F17.binds (ps := f17.ps) fun _ _ _ _ _ _ us hl => match us, hl with | [_, _], _ => rfl⟩, 
    ⟨_, _, _, s18, F18, sc18, ck18, F18.binds (ps := f18.ps) fun _ _ _ _ _ _ us hl => match us, hl with | [_], _ => rfl⟩, trivial⟩ hf
  exact PX.law_ok (G := G) (T := T) fx ok (f := 18) (fd := f18) rfl F18 sc18 ck18 main
end PXk21

end
section
set_option Elab.async false
set_option linter.all false
set_option maxRecDepth 100000
set_option maxHeartbeats 4000000
/-! PXu: reading a table's defs in plain Lean: what simp needs. -/
namespace PX
open PySem

def iL (ns : List Int) : List D := ns.map D.int
def bL (bs : List Bool) : List D := bs.map D.bl
theorem allInt_ints (ns : List Int) : allInt (iL ns) = some ns := by
  unfold iL
  induction ns with
  | nil => rfl
  | cons x r ih => show (allInt (r.map D.int)).map (x :: ·) = _; rw [ih]; rfl
theorem allBl_bls (bs : List Bool) : allBl (bL bs) = some bs := by
  unfold bL
  induction bs with
  | nil => rfl
  | cons x r ih => show (allBl (r.map D.bl)).map (x :: ·) = _; rw [ih]; rfl
@[simp] theorem ints_length (ns : List Int) : (iL ns).length = ns.length := by simp [iL]
@[simp] theorem bls_length (ns : List Bool) : (bL ns).length = ns.length := by simp [bL]
theorem ints_append (a b : List Int) : iL a ++ iL b = iL (a ++ b) := by simp [iL]
theorem ints_reverse (a : List Int) : (iL a).reverse = iL a.reverse := by simp [iL]
theorem ints_get (a : List Int) (i : Nat) : (iL a)[i]? = (a[i]?).map D.int := by simp [iL]
/-- equality of data that are iL and texts -/
theorem plainL_ints (ns : List Int) : plainL (iL ns) = true := by
  induction ns with
  | nil => rfl
  | cons x r ih => show (true && plainL (iL r)) = true; rw [ih]; rfl
theorem depthL_ints (ns : List Int) : depthL (iL ns) = 0 := by
  induction ns with
  | nil => rfl
  | cons x r ih => show max 0 (depthL (iL r)) = 0; rw [ih]; rfl
theorem inD_ints (x : Int) (ns : List Int) : inD (.int x) (iL ns) = decide (x ∈ ns) := by
  induction ns with
  | nil => rfl
  | cons y r ih =>
    show ((y == x) || inD (.int x) (iL r)) = _
    rw [ih]
    by_cases h : y = x
    · subst h; simp
    · have : (y == x) = false := by simpa using h
      rw [this]
      simp [Ne.symm h]
theorem isin_tup (x : Int) (ns : List Int) : cmpD .isin (.int x) (.tup (iL ns)) = some (decide (x ∈ ns)) := by
  have h : (okEq (.int x) && okEq (.tup (iL ns))) = true := by
    simp [okEq, D.plain, D.depth, plainL_ints, depthL_ints]
  show (if (okEq (.int x) && okEq (.tup (iL ns))) = true then some (inD (.int x) (iL ns)) else none) = _
  rw [if_pos h, inD_ints]
theorem isin_lst (x : Int) (ns : List Int) : cmpD .isin (.int x) (.lst (iL ns)) = some (decide (x ∈ ns)) := by
  have h : (okEq (.int x) && okEq (.lst (iL ns))) = true := by
    simp [okEq, D.plain, D.depth, plainL_ints, depthL_ints]
  show (if (okEq (.int x) && okEq (.lst (iL ns))) = true then some (inD (.int x) (iL ns)) else none) = _
  rw [if_pos h, inD_ints]
theorem notin_tup (x : Int) (ns : List Int) : cmpD .notin (.int x) (.tup (iL ns)) = some (!decide (x ∈ ns)) := by
  have h : (okEq (.int x) && okEq (.tup (iL ns))) = true := by
    simp [okEq, D.plain, D.depth, plainL_ints, depthL_ints]
  show (if (okEq (.int x) && okEq (.tup (iL ns))) = true then some (!inD (.int x) (iL ns)) else none) = _
  rw [if_pos h, inD_ints]
theorem eq_int (x y : Int) : cmpD .eq (.int x) (.int y) = some (x == y) := rfl
theorem ne_int (x y : Int) : cmpD .ne (.int x) (.int y) = some (!(x == y)) := rfl
theorem eq_bl (x y : Bool) : cmpD .eq (.bl x) (.bl y) = some (x == y) := rfl
theorem ne_bl (x y : Bool) : cmpD .ne (.bl x) (.bl y) = some (!(x == y)) := rfl

/-! ### comprehensions -/
theorem compLoop_ok {own : List Nat} {f : D → M (Option D)} {e : Env} (h : D → Option D) : ∀ (xs acc : List D) (e1 : Env), wipeE own e1 = wipeE own e →
    (∀ x ∈ xs, ∃ e2, f x (wipeE own e) = .ok (h x) e2 ∧ wipeE own e2 = wipeE own e) → acc.length + xs.length ≤ SZ →
    ∃ e3, compLoop own f xs acc e1 = .ok (acc ++ xs.filterMap h) e3 ∧ wipeE own e3 = wipeE own e
  | [], acc, e1, h1, _, _ => ⟨e1, by simp [compLoop, ret], h1⟩
  | x :: xs, acc, e1, h1, hf, hl => by
    obtain ⟨e2, h2, h3⟩ := hf x List.mem_cons_self
    unfold compLoop
    simp only [h1, h2]
    rw [List.length_cons] at hl
    cases hx : h x with
    | none =>
      obtain ⟨e3, h4, h5⟩ := compLoop_ok h xs acc e2 h3 (fun y hy => hf y (List.mem_cons_of_mem _ hy)) (by omega)
      exact ⟨e3, by rw [List.filterMap_cons, hx]; exact h4, h5⟩
    | some d =>
      obtain ⟨e3, h4, h5⟩ := compLoop_ok h xs (acc ++ [d]) e2 h3 (fun y hy => hf y (List.mem_cons_of_mem _ hy)) (by simp; omega)
      refine ⟨e3, ?_, h5⟩
      dsimp only
      rw [if_pos (by omega), h4, List.filterMap_cons, hx]
      simp
theorem back_same {own : List Nat} {e e1 : Env} (h : wipeE own e1 = wipeE own e) : PX.back own e e1 = e := by
  have hl : e1.length = e.length := by
    have := congrArg List.length h
    rwa [wipeE_len, wipeE_len] at this
  apply List.ext_getElem?
  intro j
  rw [back_get]
  by_cases q : j ∈ own ∧ j < e1.length
  · rw [if_pos q]
    have hj : j < e.length := by omega
    rw [List.getElem?_eq_getElem hj]; rfl
  · rw [if_neg q]
    have := congrArg (fun l => l[j]?) h
    simp only [wipeE_get] at this
    rw [if_neg q, if_neg (by rw [← hl]; exact q)] at this
    exact this
/-- a comprehension that changes nothing but its own names -/
theorem compM_ok {own : List Nat} {f : D → M (Option D)} {e : Env} {xs : List D} (h : D → Option D) (hp : own.all (plainSlot e) = true) (hf : ∀ x ∈ xs, ∃ e2, f x (wipeE own e) = .ok (h x) e2 ∧ wipeE own e2 = wipeE own e) (hl : xs.length ≤ SZ) :
    compM own f xs e = .ok (.new (.lst (xs.filterMap h))) e := by
  obtain ⟨e3, h1, h2⟩ := compLoop_ok (e := e) h xs [] e rfl hf (by simpa using hl)
  unfold compM
  rw [if_pos hp, h1]
  simp only [List.nil_append]
  rw [back_same h2]
/-- the comprehension's reading -/
theorem ev_comp (T : Tab) (cf : Cf) (own : List Nat) (tg : Tg) (it : It) (ifs : Tes) (elt : X) : evA T cf (.comp own tg it ifs elt) = bnd (evI T cf it) (compM own (turnM (evG T cf tg) (evAll T cf ifs) (dataM (evA T cf elt)))) := rfl

/-! ### outcomes -/
theorem bnd_eq {α β : Type} {m : M α} {f : α → M β} {e e1 : Env} {a : α} (h : m e = .ok a e1) : bnd m f e = f a e1 := by
  unfold bnd; rw [h]
theorem filterMap_ints (ns : List Int) (g : Int → Int) (p : Int → Bool) (h : D → Option D) (hh : ∀ n ∈ ns, h (.int n) = if p n then some (.int (g n)) else none) : (iL ns).filterMap h = iL ((ns.filter p).map g) := by
  unfold iL
  induction ns with
  | nil => rfl
  | cons x r ih =>
    rw [List.map_cons, List.filterMap_cons, hh x List.mem_cons_self, ih fun n hn => hh n (List.mem_cons_of_mem _ hn)]
    cases hp : p x <;> simp [hp]
theorem filterMap_bls (ns : List Int) (g : Int → Bool) (h : D → Option D) (hh : ∀ n ∈ ns, h (.int n) = some (.bl (g n))) : (iL ns).filterMap h = bL (ns.map g) := by
  unfold iL bL
  induction ns with
  | nil => rfl
  | cons x r ih =>
    rw [List.map_cons, List.filterMap_cons, hh x List.mem_cons_self, ih fun n hn => hh n (List.mem_cons_of_mem _ hn)]
    simp
theorem for_next {asg : D → M Unit} {body : M Flow} {x : D} {xs : List D} {e e1 e2 : Env} (h1 : asg x e = .ok () e1) (h2 : body e1 = .ok .next e2) : forLoop asg body (x :: xs) e = forLoop asg body xs e2 := by
  show bnd (asg x) _ e = _
  rw [bnd_eq h1, bnd_eq h2]
theorem for_ret {asg : D → M Unit} {body : M Flow} {x : D} {xs : List D} {e e1 e2 : Env} {a : AV} (h1 : asg x e = .ok () e1) (h2 : body e1 = .ok (.ret a) e2) : forLoop asg body (x :: xs) e = .ok (.ret a) e2 := by
  show bnd (asg x) _ e = _
  rw [bnd_eq h1, bnd_eq h2]; rfl
theorem while_go {t : M Bool} {body : M Flow} {n : Nat} {e e1 e2 : Env} (h1 : t e = .ok true e1) (h2 : body e1 = .ok .next e2) : whileLoop t body (n + 1) e = whileLoop t body n e2 := by
  show bnd t _ e = _
  rw [bnd_eq h1]
  show bnd body _ e1 = _
  rw [bnd_eq h2]
theorem while_end {t : M Bool} {body : M Flow} {n : Nat} {e e1 : Env} (h1 : t e = .ok false e1) : whileLoop t body (n + 1) e = .ok .next e1 := by
  show bnd t _ e = _
  rw [bnd_eq h1]; rfl
theorem seq_next {T : Tab} {cf : Cf} {s : S} {r : Ss} {e e1 : Env} (h : evS T cf s e = .ok .next e1) : evSs T cf (.cons s r) e = evSs T cf r e1 := by
  show bnd (evS T cf s) _ e = _
  rw [bnd_eq h]
theorem seq_ret {T : Tab} {cf : Cf} {s : S} {r : Ss} {e e1 : Env} {a : AV} (h : evS T cf s e = .ok (.ret a) e1) : evSs T cf (.cons s r) e = .ok (.ret a) e1 := by
  show bnd (evS T cf s) _ e = _
  rw [bnd_eq h]; rfl
theorem if_then {T : Tab} {cf : Cf} {c : Te} {a b : Ss} {e e1 : Env} (h : evT T cf c e = .ok true e1) : evS T cf (.ifs c a b) e = evSs T cf a e1 := by
  show bnd (evT T cf c) _ e = _
  rw [bnd_eq h]; rfl
theorem if_else {T : Tab} {cf : Cf} {c : Te} {a b : Ss} {e e1 : Env} (h : evT T cf c e = .ok false e1) : evS T cf (.ifs c a b) e = evSs T cf b e1 := by
  show bnd (evT T cf c) _ e = _
  rw [bnd_eq h]; rfl
theorem for_it {T : Tab} {cf : Cf} {t : Tg} {it : It} {b : Ss} {e e1 : Env} {xs : List D} (h : evI T cf it e = .ok xs e1) : evS T cf (.fr t it b) e = forLoop (evG T cf t) (evSs T cf b) xs e1 := by
  show bnd (evI T cf it) _ e = _
  rw [bnd_eq h]
/-- a def that returns data and takes no object by reference -/
theorem run_d {T : Tab} {cf : Cf} {fd : Fd} {ds : List D} {e : Env} {a : AV} {o : Out} (hl : ds.length = fd.ps.length) (h : evSs T cf fd.body (ds.map Slot.val ++ List.replicate (fd.N.length - ds.length) .non) = .ok (.ret a) e) (ho : outOf e a = some o) (he : ds.length ≤ e.length) :
    runFd T cf fd (ds.map .d) = .ok o (ds.map fun _ => none) := by
  have ha : args0 (ds.map .d) = ds.map Slot.val := by
    clear hl h he
    induction ds with
    | nil => rfl
    | cons x r ih => show Slot.val x :: args0 (r.map .d) = _; rw [ih]; rfl
  have hout : ∀ (ds : List D) (e : Env), ds.length ≤ e.length → outsOf (ds.map .d) e = some (ds.map fun _ => none) := by
    intro ds
    induction ds with
    | nil => intro e _; cases e <;> rfl
    | cons x r ih =>
      intro e he
      cases e with
      | nil => simp at he
      | cons s e =>
        show (outsOf (r.map .d) e).map (none :: ·) = _
        rw [ih e (by simpa using he)]; rfl
  unfold runFd
  rw [if_pos (by simpa using hl), ha, List.length_map, h]
  dsimp only
  rw [hout ds e he]
  dsimp only
  rw [ho]
/-- a slot that holds nothing or data -/
def Free (s : Slot) : Prop := s = .non ∨ ∃ d, s = .val d
theorem put_free {e : Env} {i : Nat} {s : Slot} {d : D} (h : e[i]? = some s) (f : Free s) : putSlot i (.d d) e = .ok () (e.set i (.val d)) := by
  unfold putSlot
  rw [h]
  rcases f with rfl | ⟨d', rfl⟩ <;> rfl
/-! ### one form at a time, for simp -/
theorem v0 (T : Tab) (cf : Cf) (i : Nat) : evA T cf (.var i) = rdVar i := rfl
theorem v1 (T : Tab) (cf : Cf) (i : Int) : evA T cf (.int i) = ret (.d (.int i)) := rfl
theorem v2 (T : Tab) (cf : Cf) (s : Str) : evA T cf (.str s) = ret (.d (.str s)) := rfl
theorem v3 (T : Tab) (cf : Cf) (b : Bool) : evA T cf (.bl b) = ret (.d (.bl b)) := rfl
theorem v4 (T : Tab) (cf : Cf)  : evA T cf .non = ret (.d .non) := rfl
theorem v5 (T : Tab) (cf : Cf) (x : Str) (d : D) : evA T cf (.glob x d) = ret (.d d) := rfl
theorem v6 (T : Tab) (cf : Cf) (es : Xs) : evA T cf (.tup es) = bnd (evL T cf es) fun ds => if ds.length ≤ SZ then ret (.d (.tup ds)) else bad := rfl
theorem v7 (T : Tab) (cf : Cf) (es : Xs) : evA T cf (.lst es) = bnd (evL T cf es) fun ds => if ds.length ≤ SZ then ret (.new (.lst ds)) else bad := rfl
theorem v8 (T : Tab) (cf : Cf) (ks vs : Xs) : evA T cf (.dct ks vs) = bnd (evL T cf ks) fun a => bnd (evL T cf vs) fun b => if a.length = b.length ∧ a.length ≤ 1 ∧ a.all keyOk = true then ret (.new (.dct a b)) else bad := rfl
theorem v9 (T : Tab) (cf : Cf) (op : Bop) (a b : X) : evA T cf (.bin op a b) = binM (evA T cf a) (evA T cf b) fun x y => ofAV (binD op x y) := rfl
theorem v10 (T : Tab) (cf : Cf) (a : X) : evA T cf (.neg a) = unM (evA T cf a) negD := rfl
theorem v11 (T : Tab) (cf : Cf) (a : X) : evA T cf (.not a) = unM (evA T cf a) fun d => bnd (ofO (truD d)) fun t => ret (.d (.bl (!t))) := rfl
theorem v12 (T : Tab) (cf : Cf) (op : Cop) (a b : X) : evA T cf (.cmp op a b) = binM (evA T cf a) (evA T cf b) fun x y => bnd (ofO (cmpD op x y)) fun r => ret (.d (.bl r)) := rfl
theorem v13 (T : Tab) (cf : Cf) (o1 o2 : Cop) (a b c : X) : evA T cf (.cmp2 o1 o2 a b c) = bnd (cmp2M (evA T cf a) (evA T cf b) (evA T cf c) o1 o2) fun r => ret (.d (.bl r)) := rfl
theorem v14 (T : Tab) (cf : Cf) (a b : X) : evA T cf (.and a b) = bnd (opr (evA T cf a)) fun x => bnd (viewM x) fun d => bnd (ofO (truD d)) fun t => if t then evA T cf b else ret x := rfl
theorem v15 (T : Tab) (cf : Cf) (a b : X) : evA T cf (.or a b) = bnd (opr (evA T cf a)) fun x => bnd (viewM x) fun d => bnd (ofO (truD d)) fun t => if t then ret x else evA T cf b := rfl
theorem v16 (T : Tab) (cf : Cf) (t : Te) (a b : X) : evA T cf (.ite t a b) = bnd (evT T cf t) fun t => if t then evA T cf a else evA T cf b := rfl
theorem v17 (T : Tab) (cf : Cf) (a b : X) : evA T cf (.idx a b) = binM (evA T cf a) (evA T cf b) fun x y => bnd (ofO (idxD x y)) fun d => ret (.d d) := rfl
theorem v18 (T : Tab) (cf : Cf) (a : X) (lo hi : Xo) : evA T cf (.sl a lo hi) = bnd (opr (evA T cf a)) fun x => bnd (evO T cf lo) fun l => bnd (evO T cf hi) fun h => bnd (viewM x) fun d => ofAV (slD d l h) := rfl
theorem v19 (T : Tab) (cf : Cf) (a : X) : evA T cf (.rev a) = unM (evA T cf a) fun d => ofAV (revD d) := rfl
theorem v20 (T : Tab) (cf : Cf) (f : Nat) (es : Xs) : evA T cf (.call f es) = bnd (evAs T cf es (refsOf T f)) fun as => callM cf f as := rfl
theorem v21 (T : Tab) (cf : Cf) (c : Nat) (es : Xs) : evA T cf (.mk c es) = bnd (evL T cf es) fun ds => mkM T cf c ds := rfl
theorem v22 (T : Tab) (cf : Cf) (bb : Bi) (es : Xs) : evA T cf (.bi bb es) = bnd (evAs T cf es [true, true, true]) fun as => bnd (viewsM as) fun ds => ofAV (biD bb ds) := rfl
theorem v23 (T : Tab) (cf : Cf) (b : Bool) (es : Xs) : evA T cf (.rl b es) = bnd (bnd (evL T cf es) rngTwo) fun r => if small r.1 && small r.2 && decide ((r.2 - r.1).toNat ≤ SZ) then ret (if b then .d (.tup (rngL r.1 r.2)) else .new (.lst (rngL r.1 r.2))) else bad := rfl
theorem v24 (T : Tab) (cf : Cf) (a : X) (ty : Ty) : evA T cf (.isi a ty) = unM (evA T cf a) fun d => bnd (ofO (isTy d ty)) fun r => ret (.d (.bl r)) := rfl
theorem v25 (T : Tab) (cf : Cf) (i : Nat) (e : X) : evA T cf (.app i e) = bnd (lstAt i) fun _ => bnd (dataM (evA T cf e)) fun d => bnd (modSlot i (appC d)) fun _ => ret (.d .non) := rfl
theorem v26 (T : Tab) (cf : Cf) (o : X) (es : Xs) : evA T cf (.get o es) = bnd (opr (evA T cf o)) fun x => bnd (bnd (viewM x) isDct) fun _ => bnd (evL T cf es) fun ds => bnd (viewM x) fun dd => getD' dd ds := rfl
theorem v27 (T : Tab) (cf : Cf) (o : X) (f : Nat) : evA T cf (.fld o f) = unM (evA T cf o) fun d => bnd (ofO (fldD T f d)) fun r => ret (.d r) := rfl
theorem lt_i (i j : Int) : cmpD .lt (.int i) (.int j) = some (decide (i < j)) := rfl
theorem le_i (i j : Int) : cmpD .le (.int i) (.int j) = some (decide (i ≤ j)) := rfl
theorem gt_i (i j : Int) : cmpD .gt (.int i) (.int j) = some (decide (j < i)) := rfl
theorem ge_i (i j : Int) : cmpD .ge (.int i) (.int j) = some (decide (j ≤ i)) := rfl
theorem ofO_some {α : Type} (a : α) : ofO (some a) = ret a := rfl
theorem refs_nil (e : Env) (s : List Nat) : refsOk e [] s = true := rfl
theorem refs_d (e : Env) (d : D) (r : List AV) (s : List Nat) : refsOk e (.d d :: r) s = refsOk e r s := rfl
theorem set_own (e : Env) (d : D) : setOut e (.d d) none = some e := rfl
end PX

end
section
set_option Elab.async false
set_option linter.all false
set_option maxRecDepth 100000
set_option maxHeartbeats 4000000
namespace PXk21
open PX
local macro_rules | `(tactic| walk_at "px") => `(tactic| simp only [evSs, evS, v0, v1, v2, v3, v4, v5, v6, v7, v8, v9, v10, v11, v12, v13, v14, v15, v16, v17, v18, v19, v20, v21, v22, v23, v24, v25, v26, v27, evL, evAs, evO, evT, evAll, evAny, evI, evG, evGs, bnd, ret, bad, ofO, ofAV, opr, oper, binM, unM, cmp2M, dataM, toD, frz, viewM, viewsM, view, rdSlot, rdVar, putSlot, modSlot, lenG, lenXs, binD, truD, biD, negD, oneInt, Cell.d, seqD, itemsD, enumD, zipD, seqL, rng2, rngTwo, rngD, slD, revD, isTy, lstAt, isDct, appC, subC, callM, refs_nil, refs_d, toArgs, toArg, set_own, setOuts, setOut, outsOf, outOf, args0, List.replicate, isin_tup, isin_lst, notin_tup, PX.eq_int, PX.ne_int, PX.eq_bl, PX.ne_bl, lt_i, le_i, gt_i, ge_i, Option.bind_some, Option.map_some, List.nil_append, List.cons_append, List.append_nil, List.getElem?_cons_zero, List.getElem?_cons_succ, List.set_cons_zero, List.set_cons_succ, List.length_cons, List.length_nil, allInt_ints, allBl_bls, Bool.not_true, Bool.not_false, Bool.and_true, Bool.true_and, Bool.false_and, Bool.and_false, Bool.or_true, Bool.true_or, Bool.or_false, Bool.false_or, Bool.false_eq_true, if_true, if_false, reduceIte, Nat.reduceAdd, Nat.reduceSub])
def areRods (ns : List Int) : Bool := (decide (1 ≤ (ns.length : Int)) && decide ((ns.length : Int) ≤ 40)) && ns.all (fun r => decide (1 ≤ r) && decide (r ≤ 200))
theorem r1 (k : Nat) (ns : List Int) (hl : ns.length ≤ SZ) : callT T (k + 1) 0 [.d (.tup (iL ns))] = .ok (.d (.bl (areRods ns))) [none] := by
  show runFd T (callT T k) f0 _ = _
  unfold runFd f0
  simp only [List.length_cons, List.length_nil, if_true, args0, List.replicate, List.cons_append, List.nil_append, ss, evSs, evS]
  have hc : evA T (callT T k) (.comp [1] (.nm 1) (.seq (.var 0)) .nil (.cmp2 .le .le (.int 1) (.var 1) (.glob "MOST_ROD" (.int 200)))) [.val (.tup (iL ns)), .non] = .ok (.new (.lst (bL (ns.map fun r => decide (1 ≤ r) && decide (r ≤ 200))))) [.val (.tup (iL ns)), .non] := by
    rw [ev_comp]
    refine (bnd_eq (a := iL ns) (e1 := [.val (.tup (iL ns)), .non]) ?_).trans ?_
    · walk_at "px"
    · rw [compM_ok (fun d => match d with | .int r => some (.bl (decide (1 ≤ r) && decide (r ≤ 200))) | _ => none) rfl ?_ (by simpa using hl), filterMap_bls (g := fun r => decide (1 ≤ r) && decide (r ≤ 200))]
      · intro n _; rfl
      · intro x hx
        obtain ⟨r, hr, rfl⟩ := List.mem_map.mp hx
        refine ⟨[.val (.tup (iL ns)), .val (.int r)], ?_, rfl⟩
        show turnM _ _ _ _ [.val (.tup (iL ns)), .non] = _
        unfold turnM
        walk_at "px"
        cases h1 : decide ((1 : Int) ≤ r) <;> walk_at "px"
  unfold areRods
  walk_at "px"
  rw [ints_length]
  cases h1 : decide ((1 : Int) ≤ ns.length)
  · walk_at "px"
  · walk_at "px"
    cases h2 : decide ((ns.length : Int) ≤ 40)
    · walk_at "px"
    · walk_at "px"
      rw [hc]
      walk_at "px"
      rw [List.all_map]
      rfl

theorem r3 (k : Nat) (ns : List Int) (hr : areRods ns = true) (hl : ns.length ≤ SZ) : callT T (k + 2) 4 [.d (.tup (iL ns))] = .ok (.d (.tup (iL ns))) [none] := by
  show runFd T (callT T (k + 1)) f4 _ = _
  unfold runFd f4
  simp only [List.length_cons, List.length_nil, if_true, args0, List.replicate, List.cons_append, List.nil_append, ss, Nat.sub_self, List.append_nil]
  have hc : refsOf T 0 = [false] := rfl
  walk_at "px"
  rw [hc]
  walk_at "px"
  rw [r1 k ns hl, hr]
  walk_at "px"

theorem comp_map {T : Tab} {cf : Cf} {own : List Nat} {tg : Tg} {it : It} {ifs : Tes} {elt : X} {e e' : Env} {ns : List Int} (g : Int → D) (p : Int → Bool) (hi : evI T cf it e = .ok (iL ns) e') (hp : own.all (plainSlot e') = true) (hl : ns.length ≤ SZ)
    (hf : ∀ n ∈ ns, ∃ e2, turnM (evG T cf tg) (evAll T cf ifs) (dataM (evA T cf elt)) (.int n) (wipeE own e') = .ok (if p n then some (g n) else none) e2 ∧ wipeE own e2 = wipeE own e') :
    evA T cf (.comp own tg it ifs elt) e = .ok (.new (.lst ((ns.filter p).map g))) e' := by
  rw [ev_comp, bnd_eq hi, compM_ok (fun d => match d with | .int n => (if p n then some (g n) else none) | _ => none) hp ?_ (by simpa using hl)]
  · congr 3
    clear hf hl hi
    unfold iL
    induction ns with
    | nil => rfl
    | cons x r ih =>
      rw [List.map_cons, List.filterMap_cons, ih]
      cases h : p x <;> simp [h]
  · intro x hx
    obtain ⟨n, hn, rfl⟩ := List.mem_map.mp hx
    exact hf n hn

def sums (s : List Int) (r : Int) : List Int := sortU (s.map (· + r) ++ s.map (· - r))
theorem r0 (k : Nat) (s : List Int) (r : Int) (hl : s.length ≤ 2000) : callT T (k + 1) 2 [.d (.tup (iL s)), .d (.int r)] = .ok (.d (.tup (iL (sums s r)))) [none, none] := by
  show runFd T (callT T k) f2 _ = _
  unfold runFd f2
  simp only [List.length_cons, List.length_nil, if_true, args0, List.replicate, List.cons_append, List.nil_append, ss, Nat.reduceSub, Nat.reduceAdd]
  have h1 : evA T (callT T k) (.comp [2] (.nm 2) (.seq (.var 0)) .nil (.bin .add (.var 2) (.var 1))) [.val (.tup (iL s)), .val (.int r), .non] = .ok (.new (.lst ((s.filter fun _ => true).map fun n => D.int (n + r)))) [.val (.tup (iL s)), .val (.int r), .non] := by
    refine comp_map (fun n => .int (n + r)) (fun _ => true) (e' := [.val (.tup (iL s)), .val (.int r), .non]) ?_ rfl (by show s.length ≤ 1000000; omega) fun n _ => ⟨[.val (.tup (iL s)), .val (.int r), .val (.int n)], ?_, rfl⟩
    · walk_at "px"
    · show turnM _ _ _ _ [.val (.tup (iL s)), .val (.int r), .non] = _
      unfold turnM; walk_at "px"
  have h2 : evA T (callT T k) (.comp [2] (.nm 2) (.seq (.var 0)) .nil (.bin .sub (.var 2) (.var 1))) [.val (.tup (iL s)), .val (.int r), .non] = .ok (.new (.lst ((s.filter fun _ => true).map fun n => D.int (n - r)))) [.val (.tup (iL s)), .val (.int r), .non] := by
    refine comp_map (fun n => .int (n - r)) (fun _ => true) (e' := [.val (.tup (iL s)), .val (.int r), .non]) ?_ rfl (by show s.length ≤ 1000000; omega) fun n _ => ⟨[.val (.tup (iL s)), .val (.int r), .val (.int n)], ?_, rfl⟩
    · walk_at "px"
    · show turnM _ _ _ _ [.val (.tup (iL s)), .val (.int r), .non] = _
      unfold turnM; walk_at "px"
  walk_at "px"
  rw [h1]
  walk_at "px"
  rw [h2]
  walk_at "px"
  have e1 : (s.filter fun _ => true) = s := List.filter_eq_self.mpr (by simp)
  have e3 : (List.map (fun n => D.int (n + r)) s ++ List.map (fun n => D.int (n - r)) s) = iL (s.map (· + r) ++ s.map (· - r)) := by simp [iL, Function.comp_def]
  rw [e1]
  have hz : (List.map (fun n => D.int (n + r)) s).length + (List.map (fun n => D.int (n - r)) s).length ≤ SZ := by simp; show s.length + s.length ≤ 1000000; omega
  rw [if_pos hz]
  walk_at "px"
  rw [e3, allInt_ints]
  walk_at "px"
  have h4 : (s.map (· + r) ++ s.map (· - r)).length ≤ 4000 := by simp; omega
  rw [if_pos h4]
  walk_at "px"
  rfl
end PXk21

end
section
set_option Elab.async false
set_option linter.all false
set_option maxRecDepth 100000
set_option maxHeartbeats 4000000
namespace PXk21
open PX
theorem idx_last (xs : List D) (x : D) : idxD (.lst (xs ++ [x])) (.int (-1)) = some x := by
  have h : PX.ixN (xs ++ [x]).length (-1) = some xs.length := by
    unfold PX.ixN
    rw [if_neg (by decide), if_pos (by simp; omega)]
    simp
    omega
  show (PX.ixN (xs ++ [x]).length (-1)).bind (fun j => (xs ++ [x])[j]?) = _
  rw [h]
  simp
theorem idx_at (xs : List D) (i : Nat) (x : D) (h : xs[i]? = some x) : idxD (.lst xs) (.int i) = some x ∧ idxD (.tup xs) (.int i) = some x := by
  have hi := (List.getElem?_eq_some_iff.mp h).1
  have h2 : PX.ixN xs.length (i : Int) = some i := by
    unfold PX.ixN
    rw [if_pos (by omega), if_pos (by omega)]
    simp
  constructor
  · show (PX.ixN xs.length (i : Int)).bind (fun j => xs[j]?) = _
    rw [h2]; exact h
  · show (PX.ixN xs.length (i : Int)).bind (fun j => xs[j]?) = _
    rw [h2]; exact h
theorem rods_of {ns : List Int} (h : areRods ns = true) : 1 ≤ ns.length ∧ ns.length ≤ 40 ∧ ∀ r ∈ ns, 1 ≤ r ∧ r ≤ 200 := by
  unfold areRods at h
  simp only [Bool.and_eq_true, decide_eq_true_eq, List.all_eq_true] at h
  exact ⟨by omega, by omega, fun r hr => h.2 r hr⟩
theorem isE (p : List Int) : (iL p).isEmpty = p.isEmpty := by cases p <;> rfl
end PXk21

end
section
set_option Elab.async false
set_option linter.all false
set_option maxRecDepth 100000
set_option maxHeartbeats 4000000
namespace PXk21
open PX
def maxL : List Int → Int
  | [] => 0
  | x :: r => maxI x r
theorem max_iL {ns : List Int} (h : 1 ≤ ns.length) : biD .max [.tup (iL ns)] = some (.d (.int (maxL ns))) := by
  cases ns with
  | nil => simp at h
  | cons x r =>
    show (allInt (iL (x :: r))).bind _ = _
    rw [allInt_ints]; rfl
theorem max_lL {ns : List Int} (h : 1 ≤ ns.length) : biD .max [.lst (iL ns)] = some (.d (.int (maxL ns))) := by
  cases ns with
  | nil => simp at h
  | cons x r =>
    show (allInt (iL (x :: r))).bind _ = _
    rw [allInt_ints]; rfl
def minL : List Int → Int
  | [] => 0
  | x :: r => minI x r
theorem min_iL {ns : List Int} (h : 1 ≤ ns.length) : biD .min [.tup (iL ns)] = some (.d (.int (minL ns))) := by
  cases ns with
  | nil => simp at h
  | cons x r =>
    show (allInt (iL (x :: r))).bind _ = _
    rw [allInt_ints]; rfl
theorem min_lL {ns : List Int} (h : 1 ≤ ns.length) : biD .min [.lst (iL ns)] = some (.d (.int (minL ns))) := by
  cases ns with
  | nil => simp at h
  | cons x r =>
    show (allInt (iL (x :: r))).bind _ = _
    rw [allInt_ints]; rfl
theorem sum_iL (ns : List Int) : biD .sum [.tup (iL ns)] = some (.d (.int ns.sum)) ∧ biD .sum [.lst (iL ns)] = some (.d (.int ns.sum)) := by
  constructor
  · show (allInt (iL ns)).map _ = _
    rw [allInt_ints]; rfl
  · show (allInt (iL ns)).map _ = _
    rw [allInt_ints]; rfl
theorem maxL_le {ns : List Int} : ∀ x ∈ ns, x ≤ maxL ns := by
  cases ns with
  | nil => simp
  | cons x r => exact (foldl_max_mem x r).2
theorem maxL_mem {ns : List Int} (h : 1 ≤ ns.length) : maxL ns ∈ ns := by
  cases ns with
  | nil => simp at h
  | cons x r => exact (foldl_max_mem x r).1
theorem minL_le {ns : List Int} : ∀ x ∈ ns, minL ns ≤ x := by
  cases ns with
  | nil => simp
  | cons x r => exact (foldl_min_mem x r).2
theorem minL_mem {ns : List Int} (h : 1 ≤ ns.length) : minL ns ∈ ns := by
  cases ns with
  | nil => simp at h
  | cons x r => exact (foldl_min_mem x r).1
theorem eqStr (a b : String) (h : (PySem.Str.ofString a).cps.all (· < 0x110000) = true) (h2 : (PySem.Str.ofString b).cps.all (· < 0x110000) = true) : cmpD .eq (.str (PySem.Str.ofString a)) (.str (PySem.Str.ofString b)) = some (decide (PySem.Str.ofString a = PySem.Str.ofString b)) := by
  have e : (okEq (.str (PySem.Str.ofString a)) && okEq (.str (PySem.Str.ofString b))) = true := by
    simp only [okEq, D.plain, D.depth, Bool.and_eq_true, decide_eq_true_eq]
    exact ⟨⟨h, by simp⟩, ⟨h2, by simp⟩⟩
  show (if (okEq (.str (PySem.Str.ofString a)) && okEq (.str (PySem.Str.ofString b))) = true then some (deq _ _) else none) = _
  rw [if_pos e]; rfl
end PXk21

end
section
set_option Elab.async false
set_option linter.all false
set_option maxRecDepth 100000
set_option maxHeartbeats 8000000
namespace PXk21
open PX
local macro_rules | `(tactic| walk_at "px") => `(tactic| simp only [evSs, evS, v0, v1, v2, v3, v4, v5, v6, v7, v8, v9, v10, v11, v12, v13, v14, v15, v16, v17, v18, v19, v20, v21, v22, v23, v24, v25, v26, v27, evL, evAs, evO, evT, evAll, evAny, evI, evG, evGs, bnd, ret, bad, ofO, ofAV, opr, oper, binM, unM, cmp2M, dataM, toD, frz, viewM, viewsM, view, rdSlot, rdVar, putSlot, modSlot, lenG, lenXs, binD, truD, biD, negD, oneInt, Cell.d, seqD, itemsD, enumD, zipD, seqL, rng2, rngTwo, rngD, slD, revD, isTy, lstAt, isDct, appC, subC, callM, refs_nil, refs_d, toArgs, toArg, set_own, setOuts, setOut, outsOf, outOf, args0, List.replicate, isin_tup, isin_lst, notin_tup, PX.eq_int, PX.ne_int, PX.eq_bl, PX.ne_bl, lt_i, le_i, gt_i, ge_i, Option.bind_some, Option.map_some, List.nil_append, List.cons_append, List.append_nil, List.getElem?_cons_zero, List.getElem?_cons_succ, List.set_cons_zero, List.set_cons_succ, List.length_cons, List.length_nil, allInt_ints, allBl_bls, Bool.not_true, Bool.not_false, Bool.and_true, Bool.true_and, Bool.false_and, Bool.and_false, Bool.or_true, Bool.true_or, Bool.or_false, Bool.false_or, Bool.false_eq_true, if_true, if_false, reduceIte, Nat.reduceAdd, Nat.reduceSub])
abbrev poolC (cs : List Int) (p q s t u : Int) : Cell := .lst [.lst (iL cs), .int p, .int q, .int s, .int t, .int u]
def PoolOk (c : Cell) : Prop := ∃ cs p q s t u, c = poolC cs p q s t u ∧ 0 ≤ p ∧ 0 ≤ s ∧ s < 2147483647
theorem pi0 (a b c d e f : D) : idxD (.lst [a, b, c, d, e, f]) (.int 0) = some a := (idx_at [a, b, c, d, e, f] 0 a rfl).1
theorem pi1 (a b c d e f : D) : idxD (.lst [a, b, c, d, e, f]) (.int 1) = some b := (idx_at [a, b, c, d, e, f] 1 b rfl).1
theorem pi2 (a b c d e f : D) : idxD (.lst [a, b, c, d, e, f]) (.int 2) = some c := (idx_at [a, b, c, d, e, f] 2 c rfl).1
theorem pi3 (a b c d e f : D) : idxD (.lst [a, b, c, d, e, f]) (.int 3) = some d := (idx_at [a, b, c, d, e, f] 3 d rfl).1
theorem pi4 (a b c d e f : D) : idxD (.lst [a, b, c, d, e, f]) (.int 4) = some e := (idx_at [a, b, c, d, e, f] 4 e rfl).1
theorem px1 (a b c d e f z : D) : (PX.ixN [a, b, c, d, e, f].length 1).map (fun j => Cell.lst ([a, b, c, d, e, f].set j z)) = some (.lst [a, z, c, d, e, f]) := rfl
theorem px2 (a b c d e f z : D) : (PX.ixN [a, b, c, d, e, f].length 2).map (fun j => Cell.lst ([a, b, c, d, e, f].set j z)) = some (.lst [a, b, z, d, e, f]) := rfl
theorem px3 (a b c d e f z : D) : (PX.ixN [a, b, c, d, e, f].length 3).map (fun j => Cell.lst ([a, b, c, d, e, f].set j z)) = some (.lst [a, b, c, z, e, f]) := rfl
theorem px4 (a b c d e f z : D) : (PX.ixN [a, b, c, d, e, f].length 4).map (fun j => Cell.lst ([a, b, c, d, e, f].set j z)) = some (.lst [a, b, c, d, z, f]) := rfl
abbrev E18 (c : Cell) (n : Int) (x y : Slot) : Env := [.bor c, .val (.int n), x, y]
section
variable {cf : Cf} {cs : List Int} {p q s t u n : Int} {x y : Slot}
theorem st1 {e : X} {z : D} (h : evA T cf e (E18 (poolC cs p q s t u) n x y) = .ok (.d z) (E18 (poolC cs p q s t u) n x y)) : evS T cf (.asg (.sub 0 (.int 1)) e) (E18 (poolC cs p q s t u) n x y) = .ok .next [.bor (.lst [.lst (iL cs), z, .int q, .int s, .int t, .int u]), .val (.int n), x, y] := by
  walk_at "px"; rw [h]; walk_at "px"; rfl
theorem st2 {e : X} {z : D} (h : evA T cf e (E18 (poolC cs p q s t u) n x y) = .ok (.d z) (E18 (poolC cs p q s t u) n x y)) : evS T cf (.asg (.sub 0 (.int 2)) e) (E18 (poolC cs p q s t u) n x y) = .ok .next [.bor (.lst [.lst (iL cs), .int p, z, .int s, .int t, .int u]), .val (.int n), x, y] := by
  walk_at "px"; rw [h]; walk_at "px"; rfl
theorem st3 {e : X} {z : D} (h : evA T cf e (E18 (poolC cs p q s t u) n x y) = .ok (.d z) (E18 (poolC cs p q s t u) n x y)) : evS T cf (.asg (.sub 0 (.int 3)) e) (E18 (poolC cs p q s t u) n x y) = .ok .next [.bor (.lst [.lst (iL cs), .int p, .int q, z, .int t, .int u]), .val (.int n), x, y] := by
  walk_at "px"; rw [h]; walk_at "px"; rfl
theorem st4 {e : X} {z : D} (h : evA T cf e (E18 (poolC cs p q s t u) n x y) = .ok (.d z) (E18 (poolC cs p q s t u) n x y)) : evS T cf (.asg (.sub 0 (.int 4)) e) (E18 (poolC cs p q s t u) n x y) = .ok .next [.bor (.lst [.lst (iL cs), .int p, .int q, .int s, z, .int u]), .val (.int n), x, y] := by
  walk_at "px"; rw [h]; walk_at "px"; rfl
end
theorem fm (a : Int) : 0 ≤ a.fmod 2147483647 ∧ a.fmod 2147483647 < 2147483647 := ⟨Int.fmod_nonneg_of_pos a (by decide), Int.fmod_lt_of_pos a (by decide)⟩
end PXk21

end
section
set_option Elab.async false
set_option linter.all false
set_option maxRecDepth 100000
set_option maxHeartbeats 8000000
namespace PXk21
open PX
local macro_rules | `(tactic| walk_at "px") => `(tactic| simp only [evSs, evS, v0, v1, v2, v3, v4, v5, v6, v7, v8, v9, v10, v11, v12, v13, v14, v15, v16, v17, v18, v19, v20, v21, v22, v23, v24, v25, v26, v27, evL, evAs, evO, evT, evAll, evAny, evI, evG, evGs, bnd, ret, bad, ofO, ofAV, opr, oper, binM, unM, cmp2M, dataM, toD, frz, viewM, viewsM, view, rdSlot, rdVar, putSlot, modSlot, lenG, lenXs, binD, truD, biD, negD, oneInt, Cell.d, seqD, itemsD, enumD, zipD, seqL, rng2, rngTwo, rngD, slD, revD, isTy, lstAt, isDct, appC, subC, callM, refs_nil, refs_d, toArgs, toArg, set_own, setOuts, setOut, outsOf, outOf, args0, List.replicate, isin_tup, isin_lst, notin_tup, PX.eq_int, PX.ne_int, PX.eq_bl, PX.ne_bl, lt_i, le_i, gt_i, ge_i, Option.bind_some, Option.map_some, List.nil_append, List.cons_append, List.append_nil, List.getElem?_cons_zero, List.getElem?_cons_succ, List.set_cons_zero, List.set_cons_succ, List.length_cons, List.length_nil, allInt_ints, allBl_bls, Bool.not_true, Bool.not_false, Bool.and_true, Bool.true_and, Bool.false_and, Bool.and_false, Bool.or_true, Bool.true_or, Bool.or_false, Bool.false_or, Bool.false_eq_true, if_true, if_false, reduceIte, Nat.reduceAdd, Nat.reduceSub])
section
variable {cf : Cf}
theorem drawA (cs : List Int) (p q s t u n : Int) (hp : 0 ≤ p) (hs : 0 ≤ s) (hs2 : s < 2147483647) : ∃ p' q' s' t' x', 0 ≤ p' ∧ 0 ≤ s' ∧ s' < 2147483647 ∧
    evS T cf (.ifs (.and (.cons (.cmp .le (.idx (.var 0) (.int 2)) (.int 0)) (.cons (.cmp .le (.idx (.var 0) (.int 4)) (.int 0)) (.cons (.cmp .lt (.idx (.var 0) (.int 1)) (.bi .len (.cons (.idx (.var 0) (.int 0)) .nil))) .nil))))
      (.cons (.asg (.nm 2) (.idx (.idx (.var 0) (.int 0)) (.idx (.var 0) (.int 1))))
      (.cons (.asg (.sub 0 (.int 1)) (.bin .add (.idx (.var 0) (.int 1)) (.int 1)))
      (.cons (.asg (.sub 0 (.int 3)) (.bin .mod (.bi .int (.cons (.bin .add (.bin .mul (.idx (.var 0) (.int 3)) (.int 31)) (.var 2)) .nil)) (.int 2147483647)))
      (.cons (.asg (.sub 0 (.int 4)) (.int 7))
      (.cons (.ifs (.cmp .ge (.var 2) (.bin .pow (.int 10) (.int 18))) (.cons (.asg (.sub 0 (.int 2)) (.var 2)) .nil) .nil) .nil))))) .nil)
      (E18 (poolC cs p q s t u) n .non .non) = .ok .next (E18 (poolC cs p' q' s' t' u) n x' .non) := by
  have ht : evT T cf (.and (.cons (.cmp .le (.idx (.var 0) (.int 2)) (.int 0)) (.cons (.cmp .le (.idx (.var 0) (.int 4)) (.int 0)) (.cons (.cmp .lt (.idx (.var 0) (.int 1)) (.bi .len (.cons (.idx (.var 0) (.int 0)) .nil))) .nil)))) (E18 (poolC cs p q s t u) n .non .non) =
      .ok (decide (q ≤ 0) && (decide (t ≤ 0) && decide (p < (cs.length : Int)))) (E18 (poolC cs p q s t u) n .non .non) := by
    walk_at "px"
    rw [pi2]
    walk_at "px"
    cases decide (q ≤ 0) <;> walk_at "px"
    rw [pi4]
    walk_at "px"
    cases decide (t ≤ 0) <;> walk_at "px"
    rw [pi1]
    walk_at "px"
    rw [pi0]
    walk_at "px"
    rw [ints_length]
    cases decide (p < (cs.length : Int)) <;> walk_at "px"
  by_cases hb : (decide (q ≤ 0) && (decide (t ≤ 0) && decide (p < (cs.length : Int)))) = true
  · rw [hb] at ht
    simp only [Bool.and_eq_true, decide_eq_true_eq] at hb
    obtain ⟨c, hc⟩ : ∃ c, cs[p.toNat]? = some c := ⟨_, List.getElem?_eq_getElem (by omega)⟩
    have hi : idxD (.lst (iL cs)) (.int p) = some (.int c) := by
      have := (idx_at (iL cs) p.toNat (.int c) (by rw [ints_get, hc]; rfl)).1
      rwa [show ((p.toNat : Nat) : Int) = p by omega] at this
    have hm := fm (s * 31 + c)
    refine ⟨p + 1, if (10 : Int) ^ 18 ≤ c then c else q, (s * 31 + c).fmod 2147483647, 7, .val (.int c), by omega, hm.1, hm.2, (if_then ht).trans ?_⟩
    have a1 : evS T cf (.asg (.nm 2) (.idx (.idx (.var 0) (.int 0)) (.idx (.var 0) (.int 1)))) (E18 (poolC cs p q s t u) n .non .non) = .ok .next (E18 (poolC cs p q s t u) n (.val (.int c)) .non) := by
      walk_at "px"; rw [pi0]; walk_at "px"; rw [pi1]; walk_at "px"; rw [hi]; walk_at "px"
    have a2 : evA T cf (.bin .add (.idx (.var 0) (.int 1)) (.int 1)) (E18 (poolC cs p q s t u) n (.val (.int c)) .non) = .ok (.d (.int (p + 1))) (E18 (poolC cs p q s t u) n (.val (.int c)) .non) := by
      walk_at "px"; rw [pi1]; walk_at "px"
    have a3 : evA T cf (.bin .mod (.bi .int (.cons (.bin .add (.bin .mul (.idx (.var 0) (.int 3)) (.int 31)) (.var 2)) .nil)) (.int 2147483647)) (E18 (poolC cs (p + 1) q s t u) n (.val (.int c)) .non) = .ok (.d (.int ((s * 31 + c).fmod 2147483647))) (E18 (poolC cs (p + 1) q s t u) n (.val (.int c)) .non) := by
      walk_at "px"; rw [pi3]; walk_at "px"
      rw [if_pos (show mulOk s 31 = true by unfold mulOk; simp)]
      walk_at "px"
      rw [if_neg (by decide)]
      rfl
    have a4 : evA T cf (.int 7) (E18 (poolC cs (p + 1) q ((s * 31 + c).fmod 2147483647) t u) n (.val (.int c)) .non) = .ok (.d (.int 7)) (E18 (poolC cs (p + 1) q ((s * 31 + c).fmod 2147483647) t u) n (.val (.int c)) .non) := by walk_at "px"
    rw [seq_next a1, seq_next (st1 a2), seq_next (st3 a3), seq_next (st4 a4)]
    have ht2 : evT T cf (.cmp .ge (.var 2) (.bin .pow (.int 10) (.int 18))) (E18 (poolC cs (p + 1) q ((s * 31 + c).fmod 2147483647) 7 u) n (.val (.int c)) .non) = .ok (decide ((10 : Int) ^ 18 ≤ c)) (E18 (poolC cs (p + 1) q ((s * 31 + c).fmod 2147483647) 7 u) n (.val (.int c)) .non) := by
      walk_at "px"
      rw [if_pos (by decide)]
      walk_at "px"
      rfl
    by_cases h10 : (10 : Int) ^ 18 ≤ c
    · rw [decide_eq_true h10] at ht2
      rw [if_pos h10]
      have a5 : evA T cf (.var 2) (E18 (poolC cs (p + 1) q ((s * 31 + c).fmod 2147483647) 7 u) n (.val (.int c)) .non) = .ok (.slot 2) (E18 (poolC cs (p + 1) q ((s * 31 + c).fmod 2147483647) 7 u) n (.val (.int c)) .non) := by walk_at "px"
      refine (seq_next ((if_then ht2).trans ?_)).trans rfl
      rfl
    · rw [decide_eq_false h10] at ht2
      rw [if_neg h10]
      exact (seq_next ((if_else ht2).trans rfl)).trans rfl
  · have hb : (decide (q ≤ 0) && (decide (t ≤ 0) && decide (p < (cs.length : Int)))) = false := by simpa using hb
    rw [hb] at ht
    exact ⟨p, q, s, t, .non, hp, hs, hs2, (if_else ht).trans rfl⟩
end
theorem r18 (k : Nat) (c : Cell) (hc : PoolOk c) (n : Int) (hn : 0 < n) (hn2 : n < 1000000) : ∃ v c', 0 ≤ v ∧ v < n ∧ PoolOk c' ∧ callT T (k + 1) 16 [.c c, .d (.int n)] = .ok (.d (.int v)) [some c', none] := by
  obtain ⟨cs, p, q, s, t, u, rfl, hp, hs, hs2⟩ := hc
  obtain ⟨p', q', s', t', x', hp', hs', hs2', hA⟩ := drawA (cf := callT T k) cs p q s t u n hp hs hs2
  have ht : evT T (callT T k) (.cmp .gt (.idx (.var 0) (.int 2)) (.int 0)) (E18 (poolC cs p' q' s' t' u) n x' .non) = .ok (decide (0 < q')) (E18 (poolC cs p' q' s' t' u) n x' .non) := by
    walk_at "px"; rw [pi2]; walk_at "px"
  have fin : ∀ {v : Int} {c' : Cell} {y : Slot} {a : AV}, 0 ≤ v → v < n → PoolOk c' → outOf (E18 c' n x' y) a = some (.d (.int v)) → evSs T (callT T k) f16.body (E18 (poolC cs p q s t u) n .non .non) = .ok (.ret a) (E18 c' n x' y) → ∃ v c', 0 ≤ v ∧ v < n ∧ PoolOk c' ∧ callT T (k + 1) 16 [.c (poolC cs p q s t u), .d (.int n)] = .ok (.d (.int v)) [some c', none] := fun {v c' y a} h1 h2 h3 h4 h5 => by
    refine ⟨v, c', h1, h2, h3, ?_⟩
    show runFd T (callT T k) f16 _ = _
    unfold runFd
    rw [if_pos (show [Arg.c (poolC cs p q s t u), Arg.d (.int n)].length = f16.ps.length from rfl)]
    have h5 : evSs T (callT T k) f16.body (args0 [.c (poolC cs p q s t u), .d (.int n)] ++ List.replicate (f16.N.length - [Arg.c (poolC cs p q s t u), Arg.d (.int n)].length) .non) = .ok (.ret a) (E18 c' n x' y) := h5
    rw [h5]
    dsimp only
    rw [h4]
    rfl
  by_cases hq : 0 < q'
  · rw [decide_eq_true hq] at ht
    have hv := Int.fmod_nonneg_of_pos q' hn
    have hv2 := Int.fmod_lt_of_pos q' hn
    refine fin (v := q'.fmod n) (c' := poolC cs p' (q'.fdiv n) s' 0 u) (y := .val (.int (q'.fmod n))) (a := .slot 3) hv hv2 ⟨cs, p', _, s', 0, u, rfl, hp', hs', hs2'⟩ rfl ?_
    unfold f16
    simp only [ss]
    rw [seq_next hA]
    refine seq_ret ((if_then ht).trans ?_)
    have b1 : evS T (callT T k) (.asg (.nm 3) (.bin .mod (.bi .int (.cons (.idx (.var 0) (.int 2)) .nil)) (.var 1))) (E18 (poolC cs p' q' s' t' u) n x' .non) = .ok .next (E18 (poolC cs p' q' s' t' u) n x' (.val (.int (q'.fmod n)))) := by
      walk_at "px"; rw [pi2]; walk_at "px"; rw [if_neg (by omega)]; walk_at "px"
    have b2 : evA T (callT T k) (.bin .fdiv (.idx (.var 0) (.int 2)) (.var 1)) (E18 (poolC cs p' q' s' t' u) n x' (.val (.int (q'.fmod n)))) = .ok (.d (.int (q'.fdiv n))) (E18 (poolC cs p' q' s' t' u) n x' (.val (.int (q'.fmod n)))) := by
      walk_at "px"; rw [pi2]; walk_at "px"; rw [if_pos (by omega)]; rfl
    have b3 : evA T (callT T k) (.int 0) (E18 (poolC cs p' (q'.fdiv n) s' t' u) n x' (.val (.int (q'.fmod n)))) = .ok (.d (.int 0)) (E18 (poolC cs p' (q'.fdiv n) s' t' u) n x' (.val (.int (q'.fmod n)))) := by walk_at "px"
    rw [seq_next b1, seq_next (st2 b2), seq_next (st4 b3)]
    exact seq_ret rfl
  · rw [decide_eq_false hq] at ht
    have hm := fm (s' * 48271 + 12345)
    have hm2 := fm ((s' * 48271 + 12345).fmod 2147483647 * 69621 + 7919)
    have hv := Int.fmod_nonneg_of_pos (((s' * 48271 + 12345).fmod 2147483647 * 69621 + 7919).fmod 2147483647) hn
    have hv2 := Int.fmod_lt_of_pos (((s' * 48271 + 12345).fmod 2147483647 * 69621 + 7919).fmod 2147483647) hn
    refine fin (v := (((s' * 48271 + 12345).fmod 2147483647 * 69621 + 7919).fmod 2147483647).fmod n) (c' := poolC cs p' q' ((s' * 48271 + 12345).fmod 2147483647) (t' - 1) u) (y := .non) (a := .d (.int ((((s' * 48271 + 12345).fmod 2147483647 * 69621 + 7919).fmod 2147483647).fmod n))) hv hv2 ⟨cs, p', q', _, t' - 1, u, rfl, hp', hm.1, hm.2⟩ rfl ?_
    unfold f16
    simp only [ss]
    rw [seq_next hA, seq_next ((if_else ht).trans rfl)]
    have b1 : evA T (callT T k) (.bin .sub (.idx (.var 0) (.int 4)) (.int 1)) (E18 (poolC cs p' q' s' t' u) n x' .non) = .ok (.d (.int (t' - 1))) (E18 (poolC cs p' q' s' t' u) n x' .non) := by
      walk_at "px"; rw [pi4]; walk_at "px"
    have b2 : evA T (callT T k) (.bin .mod (.bi .int (.cons (.bin .add (.bin .mul (.idx (.var 0) (.int 3)) (.int 48271)) (.int 12345)) .nil)) (.int 2147483647)) (E18 (poolC cs p' q' s' (t' - 1) u) n x' .non) = .ok (.d (.int ((s' * 48271 + 12345).fmod 2147483647))) (E18 (poolC cs p' q' s' (t' - 1) u) n x' .non) := by
      walk_at "px"; rw [pi3]; walk_at "px"
      rw [if_pos (show mulOk s' 48271 = true by unfold mulOk; simp)]
      walk_at "px"
      rw [if_neg (by decide)]
      rfl
    rw [seq_next (st4 b1), seq_next (st3 b2)]
    refine seq_ret ?_
    walk_at "px"
    rw [pi3]
    walk_at "px"
    rw [if_pos (show mulOk ((s' * 48271 + 12345).fmod 2147483647) 69621 = true by unfold mulOk; simp)]
    walk_at "px"
    rw [if_neg (by decide)]
    walk_at "px"
    rw [if_neg (by omega)]
    rfl
end PXk21

end
section
set_option Elab.async false
set_option linter.all false
set_option maxRecDepth 100000
set_option maxHeartbeats 8000000
namespace PXk21
open PX
local macro_rules | `(tactic| walk_at "px") => `(tactic| simp only [evSs, evS, v0, v1, v2, v3, v4, v5, v6, v7, v8, v9, v10, v11, v12, v13, v14, v15, v16, v17, v18, v19, v20, v21, v22, v23, v24, v25, v26, v27, evL, evAs, evO, evT, evAll, evAny, evI, evG, evGs, bnd, ret, bad, ofO, ofAV, opr, oper, binM, unM, cmp2M, dataM, toD, frz, viewM, viewsM, view, rdSlot, rdVar, putSlot, modSlot, lenG, lenXs, binD, truD, biD, negD, oneInt, Cell.d, seqD, itemsD, enumD, zipD, seqL, rng2, rngTwo, rngD, slD, revD, isTy, lstAt, isDct, appC, subC, callM, refs_nil, refs_d, toArgs, toArg, set_own, setOuts, setOut, outsOf, outOf, args0, List.replicate, isin_tup, isin_lst, notin_tup, PX.eq_int, PX.ne_int, PX.eq_bl, PX.ne_bl, lt_i, le_i, gt_i, ge_i, Option.bind_some, Option.map_some, List.nil_append, List.cons_append, List.append_nil, List.getElem?_cons_zero, List.getElem?_cons_succ, List.set_cons_zero, List.set_cons_succ, List.length_cons, List.length_nil, allInt_ints, allBl_bls, Bool.not_true, Bool.not_false, Bool.and_true, Bool.true_and, Bool.false_and, Bool.and_false, Bool.or_true, Bool.true_or, Bool.or_false, Bool.false_or, Bool.false_eq_true, if_true, if_false, reduceIte, Nat.reduceAdd, Nat.reduceSub])
theorem back_wipe {e : Env} : ∀ {own : List Nat} (e3 : Env), (∀ i ∈ own, e[i]?.getD .non = .non) → PX.back own e e3 = wipeE own e3
  | [], _, _ => rfl
  | i :: own, e3, h => by
    show (PX.back own e e3).set i (e[i]?.getD .non) = (wipeE own e3).set i .non
    rw [back_wipe e3 fun j hj => h j (List.mem_cons_of_mem _ hj), h i List.mem_cons_self]
theorem comp_state {own : List Nat} {f : D → M (Option D)} {Ef : Cell → Env} {P : Cell → Prop} {Qd : D → Prop} (hw : ∀ c, wipeE own (Ef c) = Ef c) : ∀ (xs : List D),
    (∀ x ∈ xs, ∀ c, P c → ∃ d c' e2, f x (Ef c) = .ok (some d) e2 ∧ wipeE own e2 = Ef c' ∧ P c' ∧ Qd d) → ∀ (acc : List D) (c : Cell) (e1 : Env), P c → wipeE own e1 = Ef c → acc.length + xs.length ≤ SZ →
    ∃ ds c' e3, compLoop own f xs acc e1 = .ok (acc ++ ds) e3 ∧ wipeE own e3 = Ef c' ∧ P c' ∧ ds.length = xs.length ∧ ∀ d ∈ ds, Qd d
  | [], _, acc, c, e1, hp, h1, _ => ⟨[], c, e1, by simp [compLoop, ret], h1, hp, rfl, by simp⟩
  | x :: xs, hf, acc, c, e1, hp, h1, hl => by
    obtain ⟨d, c', e2, h2, h3, h4, h5⟩ := hf x List.mem_cons_self c hp
    rw [List.length_cons] at hl
    obtain ⟨ds, c2, e3, g1, g2, g3, g4, g5⟩ := comp_state hw xs (fun y hy => hf y (List.mem_cons_of_mem _ hy)) (acc ++ [d]) c' e2 h4 h3 (by simp; omega)
    refine ⟨d :: ds, c2, e3, ?_, g2, g3, by rw [List.length_cons, g4, List.length_cons], fun y hy => ?_⟩
    · unfold compLoop
      simp only [h1, h2]
      rw [if_pos (by omega), g1]
      simp
    · rcases List.mem_cons.mp hy with rfl | hy
      · exact h5
      · exact g5 y hy
theorem compM_state {own : List Nat} {f : D → M (Option D)} {Ef : Cell → Env} {P : Cell → Prop} {Qd : D → Prop} (hw : ∀ c, wipeE own (Ef c) = Ef c) (xs : List D) (hf : ∀ x ∈ xs, ∀ c, P c → ∃ d c' e2, f x (Ef c) = .ok (some d) e2 ∧ wipeE own e2 = Ef c' ∧ P c' ∧ Qd d)
    (c : Cell) (hp : P c) (hpl : own.all (plainSlot (Ef c)) = true) (hn : ∀ i ∈ own, (Ef c)[i]?.getD .non = .non) (hl : xs.length ≤ SZ) : ∃ ds c', compM own f xs (Ef c) = .ok (.new (.lst ds)) (Ef c') ∧ P c' ∧ ds.length = xs.length ∧ ∀ d ∈ ds, Qd d := by
  obtain ⟨ds, c', e3, h1, h2, h3, h4, h5⟩ := comp_state hw xs hf [] c (Ef c) hp (hw c) (by simpa using hl)
  refine ⟨ds, c', ?_, h3, h4, h5⟩
  unfold compM
  rw [if_pos hpl, h1]
  simp only [List.nil_append]
  rw [back_wipe e3 hn, h2]
theorem ints_of {Qi : Int → Prop} : ∀ {ds : List D}, (∀ d ∈ ds, ∃ n, d = .int n ∧ Qi n) → ∃ ns, ds = iL ns ∧ ∀ n ∈ ns, Qi n
  | [], _ => ⟨[], rfl, by simp⟩
  | d :: ds, h => by
    obtain ⟨n, rfl, hn⟩ := h d List.mem_cons_self
    obtain ⟨ns, rfl, hns⟩ := ints_of fun d hd => h d (List.mem_cons_of_mem _ hd)
    refine ⟨n :: ns, rfl, fun m hm => ?_⟩
    rcases List.mem_cons.mp hm with rfl | hm
    · exact hn
    · exact hns m hm
def Sgn (s : Int) : Prop := s = 1 ∨ s = -1
theorem rngL_len (n : Int) : (rngL 0 n).length = n.toNat := by
  unfold rngL
  rw [List.length_map, List.length_range, Int.sub_zero]
theorem r19 (k : Nat) (ns : List Int) : callT T (k + 1) 17 [.d (.ro (iL ns)), .d (.int 0)] = .ok (.new (poolC ns 0 0 1 0 0)) [none, none] := by
  refine run_d (T := T) (cf := callT T k) (ds := [.ro (iL ns), .int 0]) (e := [.val (.ro (iL ns)), .val (.int 0)]) (a := .new (poolC ns 0 0 1 0 0)) rfl ?_ rfl (by simp)
  show evSs T (callT T k) f17.body [.val (.ro (iL ns)), .val (.int 0)] = _
  unfold f17
  simp only [ss]
  refine seq_ret ?_
  walk_at "px"
  rw [if_pos (by decide)]
  walk_at "px"
end PXk21

end
section
set_option Elab.async false
set_option linter.all false
set_option maxRecDepth 100000
set_option maxHeartbeats 8000000
namespace PXk21
open PX
local macro_rules | `(tactic| walk_at "px") => `(tactic| simp only [evSs, evS, v0, v1, v2, v3, v4, v5, v6, v7, v8, v9, v10, v11, v12, v13, v14, v15, v16, v17, v18, v19, v20, v21, v22, v23, v24, v25, v26, v27, evL, evAs, evO, evT, evAll, evAny, evI, evG, evGs, bnd, ret, bad, ofO, ofAV, opr, oper, binM, unM, cmp2M, dataM, toD, frz, viewM, viewsM, view, rdSlot, rdVar, putSlot, modSlot, lenG, lenXs, binD, truD, biD, negD, oneInt, Cell.d, seqD, itemsD, enumD, zipD, seqL, rng2, rngTwo, rngD, slD, revD, isTy, lstAt, isDct, appC, subC, callM, refs_nil, refs_d, toArgs, toArg, set_own, setOuts, setOut, outsOf, outOf, args0, List.replicate, isin_tup, isin_lst, notin_tup, PX.eq_int, PX.ne_int, PX.eq_bl, PX.ne_bl, lt_i, le_i, gt_i, ge_i, Option.bind_some, Option.map_some, List.nil_append, List.cons_append, List.append_nil, List.getElem?_cons_zero, List.getElem?_cons_succ, List.set_cons_zero, List.set_cons_succ, List.length_cons, List.length_nil, allInt_ints, allBl_bls, Bool.not_true, Bool.not_false, Bool.and_true, Bool.true_and, Bool.false_and, Bool.and_false, Bool.or_true, Bool.true_or, Bool.or_false, Bool.false_or, Bool.false_eq_true, if_true, if_false, reduceIte, Nat.reduceAdd, Nat.reduceSub])
def walk : Int → List Int → List Int
  | p, [] => [p]
  | p, s :: ss => p :: walk (p + s) ss
theorem walk_len : ∀ (ss : List Int) (p : Int), (walk p ss).length = ss.length + 1
  | [], _ => rfl
  | s :: ss, p => by show (walk (p + s) ss).length + 1 = _; rw [walk_len ss]; rfl
def mulL (ss rs : List Int) : List Int := List.zipWith (· * ·) ss rs
theorem allSgn {k : Nat} {cf : Cf} {e : Env} {i j : Nat} {ss : List Int} (hs : ∀ s ∈ ss, Sgn s) (hl : ss.length ≤ SZ) (hv : e[j]? = some (.val (.tup (iL ss)))) (hi : plainSlot e i = true) (hlen : i < e.length) :
    evA T cf (.comp [i] (.nm i) (.seq (.var j)) .nil (.cmp .isin (.var i) (.tup (.cons (.int 1) (.cons (.neg (.int 1)) .nil))))) e = .ok (.new (.lst (bL (ss.map fun _ => true)))) e := by
  rw [ev_comp]
  refine (bnd_eq (a := iL ss) (e1 := e) ?_).trans ?_
  · walk_at "px"
    rw [hv]
    simp only
    rw [show frz j e = .ok (.tup (iL ss)) e by unfold frz; rw [hv]]
    rfl
  · rw [compM_ok (fun d => some (.bl true)) (by simp [hi]) ?_ (by simpa using hl)]
    · congr 3
      unfold iL bL
      rw [List.filterMap_map]
      simp [Function.comp_def]
    · intro x hx
      obtain ⟨s, h, rfl⟩ := List.mem_map.mp hx
      have hw : (wipeE [i] e) = e.set i .non := rfl
      refine ⟨e.set i (.val (.int s)), ?_, ?_⟩
      · rw [hw]
        unfold turnM
        simp only [evG]
        rw [bnd_eq (put_free (s := .non) (d := .int s) (by rw [List.getElem?_set_self hlen]) (.inl rfl)), List.set_set]
        have hg : (e.set i (.val (.int s)))[i]? = some (.val (.int s)) := List.getElem?_set_self hlen
        walk_at "px"
        rw [hg]
        walk_at "px"
        rw [if_pos (by decide)]
        walk_at "px"
        rw [hg]
        walk_at "px"
        rw [show ([D.int 1, D.int (-1)] : List D) = iL [1, -1] from rfl, isin_tup]
        walk_at "px"
        rcases hs s h with rfl | rfl <;> rfl
      · show (e.set i (.val (.int s))).set i .non = e.set i .non
        rw [List.set_set]
theorem appC_ok (xs : List D) (d : D) (h : xs.length < 1000) : appC d (.lst xs) = some (.lst (xs ++ [d])) := by
  show (if xs.length < SZ then some _ else none) = _
  rw [if_pos (by show _ < 1000000; omega)]
theorem loopZ {cf : Cf} (R0 R1 : Slot) (me : X) (g : Int → Int → Int) (Ok : Int → Int → Prop) (hme : ∀ (L : Slot) (x y : Int), Ok x y → evA T cf me [R0, R1, L, .val (.int x), .val (.int y)] = .ok (.d (.int (g x y))) [R0, R1, L, .val (.int x), .val (.int y)]) :
    ∀ (xs ys : List Int) (p : Int) (pre : List D) (s3 s4 : Slot), xs.length = ys.length → (∀ x ∈ xs, ∀ y ∈ ys, Ok x y) → Free s3 → Free s4 → pre.length + xs.length < 900 →
    ∃ s3' s4', forLoop (evG T cf (.tup (.cons (.nm 3) (.cons (.nm 4) .nil)))) (evSs T cf (.cons (.expr (.app 2 (.bin .add (.idx (.var 2) (.neg (.int 1))) me))) .nil)) (zip2 (iL xs) (iL ys)) [R0, R1, .own (.lst (pre ++ [.int p])), s3, s4] =
      .ok .next [R0, R1, .own (.lst (pre ++ iL (walk p (List.zipWith g xs ys)))), s3', s4']
  | [], [], p, pre, s3, s4, _, _, _, _, _ => ⟨s3, s4, rfl⟩
  | x :: xs, y :: ys, p, pre, s3, s4, hl, hok, h3, h4, hb => by
    rw [List.length_cons] at hb
    obtain ⟨s3', s4', h⟩ := loopZ R0 R1 me g Ok hme xs ys (p + g x y) (pre ++ [.int p]) (.val (.int x)) (.val (.int y)) (by simpa using hl) (fun a ha b hb => hok a (List.mem_cons_of_mem _ ha) b (List.mem_cons_of_mem _ hb)) (.inr ⟨_, rfl⟩) (.inr ⟨_, rfl⟩) (by simp; omega)
    refine ⟨s3', s4', ?_⟩
    have e : pre ++ iL (walk p (List.zipWith g (x :: xs) (y :: ys))) = (pre ++ [.int p]) ++ iL (walk (p + g x y) (List.zipWith g xs ys)) := by
      rw [List.append_assoc]; rfl
    rw [e, ← h]
    refine for_next (e1 := [R0, R1, .own (.lst (pre ++ [.int p])), .val (.int x), .val (.int y)]) ?_ ?_
    · rcases h3 with rfl | ⟨d, rfl⟩ <;> rcases h4 with rfl | ⟨d', rfl⟩ <;> rfl
    · have hm := hme (.own (.lst (pre ++ [.int p]))) x y (hok x List.mem_cons_self y List.mem_cons_self)
      walk_at "px"
      rw [idx_last]
      walk_at "px"
      rw [hm]
      walk_at "px"
      have hz : (pre ++ [D.int p]).length < SZ := by simp; show pre.length + 1 < 1000000; omega
      rw [if_pos hz]
      walk_at "px"
theorem iL_walk_ne (p : Int) (ss : List Int) : 1 ≤ (walk p ss).length := by rw [walk_len]; omega
theorem okMul {x y : Int} (h : Sgn x) : mulOk x y = true := by
  rcases h with rfl | rfl <;> (unfold mulOk; simp)
end PXk21

end
section
set_option Elab.async false
set_option linter.all false
set_option maxRecDepth 100000
set_option maxHeartbeats 8000000
namespace PXk21
open PX
local macro_rules | `(tactic| walk_at "px") => `(tactic| simp only [evSs, evS, v0, v1, v2, v3, v4, v5, v6, v7, v8, v9, v10, v11, v12, v13, v14, v15, v16, v17, v18, v19, v20, v21, v22, v23, v24, v25, v26, v27, evL, evAs, evO, evT, evAll, evAny, evI, evG, evGs, bnd, ret, bad, ofO, ofAV, opr, oper, binM, unM, cmp2M, dataM, toD, frz, viewM, viewsM, view, rdSlot, rdVar, putSlot, modSlot, lenG, lenXs, binD, truD, biD, negD, oneInt, Cell.d, seqD, itemsD, enumD, zipD, seqL, rng2, rngTwo, rngD, slD, revD, isTy, lstAt, isDct, appC, subC, callM, refs_nil, refs_d, toArgs, toArg, set_own, setOuts, setOut, outsOf, outOf, args0, List.replicate, isin_tup, isin_lst, notin_tup, PX.eq_int, PX.ne_int, PX.eq_bl, PX.ne_bl, lt_i, le_i, gt_i, ge_i, Option.bind_some, Option.map_some, List.nil_append, List.cons_append, List.append_nil, List.getElem?_cons_zero, List.getElem?_cons_succ, List.set_cons_zero, List.set_cons_succ, List.length_cons, List.length_nil, allInt_ints, allBl_bls, Bool.not_true, Bool.not_false, Bool.and_true, Bool.true_and, Bool.false_and, Bool.and_false, Bool.or_true, Bool.true_or, Bool.or_false, Bool.false_or, Bool.false_eq_true, if_true, if_false, reduceIte, Nat.reduceAdd, Nat.reduceSub])
theorem r11 (k : Nat) (ss rods : List Int) (hr : areRods rods = true) (hl : ss.length = rods.length) (hs : ∀ s ∈ ss, Sgn s) : callT T (k + 3) 8 [.d (.tup (iL rods)), .d (.tup (iL ss))] = .ok (.d (.tup (iL (walk 0 (mulL ss rods))))) [none, none] := by
  obtain ⟨n1, n2, n3⟩ := rods_of hr
  have hlr : rods.length ≤ SZ := by show _ ≤ 1000000; omega
  have c3 : refsOf T 4 = [false] := rfl
  obtain ⟨s3, s4, hL⟩ := loopZ (cf := callT T (k + 2)) (.val (.tup (iL rods))) (.val (.tup (iL ss))) (.bin .mul (.var 4) (.var 3)) (fun r s => s * r) (fun _ s => Sgn s) (fun L x y h => by walk_at "px"; rw [if_pos (okMul h)]; rfl) rods ss 0 [] .non .non hl.symm (fun x _ y hy => hs y hy) (.inl rfl) (.inl rfl) (by simp; omega)
  have hz : List.zipWith (fun r s => s * r) rods ss = mulL ss rods := by
    unfold mulL
    rw [List.zipWith_comm]
  rw [hz] at hL
  refine run_d (T := T) (cf := callT T (k + 2)) (ds := [.tup (iL rods), .tup (iL ss)]) (e := [.val (.tup (iL rods)), .val (.tup (iL ss)), .own (.lst (iL (walk 0 (mulL ss rods)))), s3, s4]) (a := .d (.tup (iL (walk 0 (mulL ss rods))))) rfl ?_ rfl (by simp)
  show evSs T (callT T (k + 2)) f8.body [.val (.tup (iL rods)), .val (.tup (iL ss)), .non, .non, .non] = _
  unfold f8
  simp only [PXk21.ss]
  have q1 : evS T (callT T (k + 2)) (.asg (.nm 0) (.call 4 (.cons (.var 0) .nil))) [.val (.tup (iL rods)), .val (.tup (iL ss)), .non, .non, .non] = .ok .next [.val (.tup (iL rods)), .val (.tup (iL ss)), .non, .non, .non] := by
    walk_at "px"; rw [c3]; walk_at "px"; rw [r3 k rods hr hlr]; walk_at "px"
  have hAll := allSgn (k := 0) (cf := callT T (k + 2)) (e := [.val (.tup (iL rods)), .val (.tup (iL ss)), .non, .non, .non]) (i := 4) (j := 1) hs (by omega) rfl rfl (by simp)
  have q2 : evS T (callT T (k + 2)) (.ifs (.or (.cons (.cmp .ne (.bi .len (.cons (.var 1) .nil)) (.bi .len (.cons (.var 0) .nil))) (.cons (.not (.val (.bi .all (.cons (.comp [4] (.nm 4) (.seq (.var 1)) .nil (.cmp .isin (.var 4) (.tup (.cons (.int 1) (.cons (.neg (.int 1)) .nil))))) .nil)))) .nil))) (.cons (.raise 1 (.str "signs")) .nil) .nil) [.val (.tup (iL rods)), .val (.tup (iL ss)), .non, .non, .non] = .ok .next [.val (.tup (iL rods)), .val (.tup (iL ss)), .non, .non, .non] := by
    walk_at "px"
    rw [ints_length, ints_length, hl, show ((rods.length : Int) == (rods.length : Int)) = true by simp]
    walk_at "px"
    rw [hAll]
    walk_at "px"
    rw [show ((ss.map fun _ => true).all id) = true by simp]
    walk_at "px"
  have q3 : evS T (callT T (k + 2)) (.asg (.nm 2) (.lst (.cons (.int 0) .nil))) [.val (.tup (iL rods)), .val (.tup (iL ss)), .non, .non, .non] = .ok .next [.val (.tup (iL rods)), .val (.tup (iL ss)), .own (.lst ([] ++ [.int 0])), .non, .non] := by
    walk_at "px"; rw [if_pos (by decide)]; walk_at "px"
  rw [seq_next q1, seq_next q2, seq_next q3]
  have q4 : evS T (callT T (k + 2)) (.fr (.tup (.cons (.nm 3) (.cons (.nm 4) .nil))) (.zip (.cons (.var 0) (.cons (.var 1) .nil))) (.cons (.expr (.app 2 (.bin .add (.idx (.var 2) (.neg (.int 1))) (.bin .mul (.var 4) (.var 3))))) .nil)) [.val (.tup (iL rods)), .val (.tup (iL ss)), .own (.lst ([] ++ [.int 0])), .non, .non] = .ok .next [.val (.tup (iL rods)), .val (.tup (iL ss)), .own (.lst (iL (walk 0 (mulL ss rods)))), s3, s4] := by
    rw [for_it (xs := zip2 (iL rods) (iL ss)) (e1 := [.val (.tup (iL rods)), .val (.tup (iL ss)), .own (.lst ([] ++ [.int 0])), .non, .non]) (by walk_at "px")]
    exact hL
  rw [seq_next q4]
  refine seq_ret ?_
  walk_at "px"
theorem loopC {cf : Cf} (rods : List Int) : ∀ (rs : List Int) (i : Int) (s1 s2 : Slot), Free s1 → Free s2 →
    (∃ (j : Nat) (r : Int) (s1' s2' : Slot), rs[j]? = some r ∧ rods.sum < 2 * r ∧ forLoop (evG T cf (.tup (.cons (.nm 1) (.cons (.nm 2) .nil)))) (evSs T cf (.cons (.ifs (.cmp .gt (.bin .mul (.int 2) (.var 2)) (.bi .sum (.cons (.var 0) .nil))) (.cons (.ret (.tup (.cons (.str "gapes") (.cons (.var 0) (.cons (.var 1) .nil))))) .nil) .nil) .nil)) (enumL i (iL rs)) [.val (.tup (iL rods)), s1, s2] = .ok (.ret (.d (.tup [.str "gapes", .tup (iL rods), .int (i + j)]))) [.val (.tup (iL rods)), s1', s2']) ∨
    (∃ (s1' s2' : Slot), (∀ r ∈ rs, 2 * r ≤ rods.sum) ∧ forLoop (evG T cf (.tup (.cons (.nm 1) (.cons (.nm 2) .nil)))) (evSs T cf (.cons (.ifs (.cmp .gt (.bin .mul (.int 2) (.var 2)) (.bi .sum (.cons (.var 0) .nil))) (.cons (.ret (.tup (.cons (.str "gapes") (.cons (.var 0) (.cons (.var 1) .nil))))) .nil) .nil) .nil)) (enumL i (iL rs)) [.val (.tup (iL rods)), s1, s2] = .ok .next [.val (.tup (iL rods)), s1', s2'])
  | [], i, s1, s2, _, _ => .inr ⟨s1, s2, by simp, rfl⟩
  | r :: rs, i, s1, s2, h1, h2 => by
    have ha : evG T cf (.tup (.cons (.nm 1) (.cons (.nm 2) .nil))) (.tup [.int i, .int r]) [.val (.tup (iL rods)), s1, s2] = .ok () [.val (.tup (iL rods)), .val (.int i), .val (.int r)] := by
      rcases h1 with rfl | ⟨d, rfl⟩ <;> rcases h2 with rfl | ⟨d', rfl⟩ <;> rfl
    have ht : evT T cf (.cmp .gt (.bin .mul (.int 2) (.var 2)) (.bi .sum (.cons (.var 0) .nil))) [.val (.tup (iL rods)), .val (.int i), .val (.int r)] = .ok (decide (rods.sum < 2 * r)) [.val (.tup (iL rods)), .val (.int i), .val (.int r)] := by
      walk_at "px"
      rw [if_pos (show mulOk 2 r = true by unfold mulOk; simp)]
      walk_at "px"
    by_cases hb : rods.sum < 2 * r
    · rw [decide_eq_true hb] at ht
      refine .inl ⟨0, r, .val (.int i), .val (.int r), rfl, hb, for_ret ha (seq_ret ((if_then ht).trans ?_))⟩
      refine seq_ret ?_
      walk_at "px"
      rw [if_pos (by decide)]
      walk_at "px"
      simp
    · rw [decide_eq_false hb] at ht
      have hbody : evSs T cf (.cons (.ifs (.cmp .gt (.bin .mul (.int 2) (.var 2)) (.bi .sum (.cons (.var 0) .nil))) (.cons (.ret (.tup (.cons (.str "gapes") (.cons (.var 0) (.cons (.var 1) .nil))))) .nil) .nil) .nil) [.val (.tup (iL rods)), .val (.int i), .val (.int r)] = .ok .next [.val (.tup (iL rods)), .val (.int i), .val (.int r)] := seq_next ((if_else ht).trans rfl)
      have hn := for_next (xs := enumL (i + 1) (iL rs)) ha hbody
      rcases loopC rods rs (i + 1) (.val (.int i)) (.val (.int r)) (.inr ⟨_, rfl⟩) (.inr ⟨_, rfl⟩) with ⟨j, r', s1', s2', g1, g2, g3⟩ | ⟨s1', s2', g1, g2⟩
      · refine .inl ⟨j + 1, r', s1', s2', g1, g2, ?_⟩
        have e : i + ((j + 1 : Nat) : Int) = i + 1 + (j : Int) := by omega
        rw [e, ← g3]
        exact hn
      · refine .inr ⟨s1', s2', fun x hx => ?_, hn.trans g2⟩
        rcases List.mem_cons.mp hx with rfl | hx
        · omega
        · exact g1 x hx
theorem r6 (k : Nat) (rods : List Int) (hr : areRods rods = true) : (∃ (j : Nat) (r : Int), rods[j]? = some r ∧ rods.sum < 2 * r ∧ callT T (k + 3) 15 [.d (.tup (iL rods))] = .ok (.d (.tup [.str "gapes", .tup (iL rods), .int j])) [none]) ∨
    ((∀ r ∈ rods, 2 * r ≤ rods.sum) ∧ callT T (k + 3) 15 [.d (.tup (iL rods))] = .ok (.d (.tup [.str "closes", .tup (iL rods)])) [none]) := by
  obtain ⟨n1, n2, n3⟩ := rods_of hr
  have hlr : rods.length ≤ SZ := by show _ ≤ 1000000; omega
  have c3 : refsOf T 4 = [false] := rfl
  have q1 : evS T (callT T (k + 2)) (.asg (.nm 0) (.call 4 (.cons (.var 0) .nil))) [.val (.tup (iL rods)), .non, .non] = .ok .next [.val (.tup (iL rods)), .non, .non] := by
    walk_at "px"; rw [c3]; walk_at "px"; rw [r3 k rods hr hlr]; walk_at "px"
  rcases loopC (cf := callT T (k + 2)) rods rods 0 .non .non (.inl rfl) (.inl rfl) with ⟨j, r, s1, s2, g1, g2, g3⟩ | ⟨s1, s2, g1, g2⟩
  · left
    refine ⟨j, r, g1, g2, run_d (T := T) (cf := callT T (k + 2)) (ds := [.tup (iL rods)]) (e := [.val (.tup (iL rods)), s1, s2]) (a := .d (.tup [.str "gapes", .tup (iL rods), .int j])) rfl ?_ rfl (by simp)⟩
    show evSs T (callT T (k + 2)) f15.body [.val (.tup (iL rods)), .non, .non] = _
    unfold f15
    simp only [PXk21.ss]
    rw [seq_next q1]
    refine seq_ret ((for_it (xs := enumL 0 (iL rods)) (e1 := [.val (.tup (iL rods)), .non, .non]) (by walk_at "px")).trans ?_)
    rw [g3, Int.zero_add]
  · right
    refine ⟨g1, run_d (T := T) (cf := callT T (k + 2)) (ds := [.tup (iL rods)]) (e := [.val (.tup (iL rods)), s1, s2]) (a := .d (.tup [.str "closes", .tup (iL rods)])) rfl ?_ rfl (by simp)⟩
    show evSs T (callT T (k + 2)) f15.body [.val (.tup (iL rods)), .non, .non] = _
    unfold f15
    simp only [PXk21.ss]
    rw [seq_next q1]
    rw [seq_next ((for_it (xs := enumL 0 (iL rods)) (e1 := [.val (.tup (iL rods)), .non, .non]) (by walk_at "px")).trans g2)]
    refine seq_ret ?_
    walk_at "px"
    rw [if_pos (by decide)]
    walk_at "px"
end PXk21

end
section
set_option Elab.async false
set_option linter.all false
set_option maxRecDepth 100000
set_option maxHeartbeats 8000000
namespace PXk21
open PX
local macro_rules | `(tactic| walk_at "px") => `(tactic| simp only [evSs, evS, v0, v1, v2, v3, v4, v5, v6, v7, v8, v9, v10, v11, v12, v13, v14, v15, v16, v17, v18, v19, v20, v21, v22, v23, v24, v25, v26, v27, evL, evAs, evO, evT, evAll, evAny, evI, evG, evGs, bnd, ret, bad, ofO, ofAV, opr, oper, binM, unM, cmp2M, dataM, toD, frz, viewM, viewsM, view, rdSlot, rdVar, putSlot, modSlot, lenG, lenXs, binD, truD, biD, negD, oneInt, Cell.d, seqD, itemsD, enumD, zipD, seqL, rng2, rngTwo, rngD, slD, revD, isTy, lstAt, isDct, appC, subC, callM, refs_nil, refs_d, toArgs, toArg, set_own, setOuts, setOut, outsOf, outOf, args0, List.replicate, isin_tup, isin_lst, notin_tup, PX.eq_int, PX.ne_int, PX.eq_bl, PX.ne_bl, lt_i, le_i, gt_i, ge_i, Option.bind_some, Option.map_some, List.nil_append, List.cons_append, List.append_nil, List.getElem?_cons_zero, List.getElem?_cons_succ, List.set_cons_zero, List.set_cons_succ, List.length_cons, List.length_nil, allInt_ints, allBl_bls, Bool.not_true, Bool.not_false, Bool.and_true, Bool.true_and, Bool.false_and, Bool.and_false, Bool.or_true, Bool.true_or, Bool.or_false, Bool.false_or, Bool.false_eq_true, if_true, if_false, reduceIte, Nat.reduceAdd, Nat.reduceSub])
theorem r10i (k : Nat) (a b : Int) : callT T (k + 1) 12 [.d (.int a), .d (.int b)] = .ok (.d (.bl (a == b))) [none, none] := by rfl
theorem r10b (k : Nat) (a b : Bool) : callT T (k + 1) 12 [.d (.bl a), .d (.bl b)] = .ok (.d (.bl (a == b))) [none, none] := by
  cases a <;> cases b <;> rfl
abbrev bodyS : Ss := .cons (.ifs (.not (.val (.call 12 (.cons (.idx (.var 0) (.var 2)) (.cons (.idx (.var 1) (.var 2)) .nil))))) (.cons (.ret (.bl false)) .nil) .nil) .nil
theorem stepS {k : Nat} {A B : List D} {i : Nat} {p q : D} {r : Bool} (hp : A[i]? = some p) (hq : B[i]? = some q) (h : callT T (k + 1) 12 [.d p, .d q] = .ok (.d (.bl r)) [none, none]) :
    evSs T (callT T (k + 1)) bodyS [.val (.lst A), .val (.lst B), .val (.int (i : Int))] = (if r then .ok .next [.val (.lst A), .val (.lst B), .val (.int (i : Int))] else .ok (.ret (.d (.bl false))) [.val (.lst A), .val (.lst B), .val (.int (i : Int))]) := by
  have c10 : refsOf T 12 = [false, false] := rfl
  have ht : evT T (callT T (k + 1)) (.not (.val (.call 12 (.cons (.idx (.var 0) (.var 2)) (.cons (.idx (.var 1) (.var 2)) .nil))))) [.val (.lst A), .val (.lst B), .val (.int (i : Int))] = .ok (!r) [.val (.lst A), .val (.lst B), .val (.int (i : Int))] := by
    walk_at "px"
    rw [c10]
    walk_at "px"
    rw [(idx_at A i p hp).1]
    walk_at "px"
    rw [(idx_at B i q hq).1]
    walk_at "px"
    rw [h]
    walk_at "px"
  cases r with
  | true => exact (seq_next ((if_else ht).trans rfl)).trans rfl
  | false => exact seq_ret ((if_then ht).trans (seq_ret rfl))
theorem sorted_len : ∀ (l : List Int) (a b : Int), l.Pairwise (· < ·) → (∀ x ∈ l, a ≤ x ∧ x ≤ b) → (l.length : Int) ≤ max 0 (b - a + 1)
  | [], a, b, _, _ => by simp; omega
  | x :: r, a, b, h, hb => by
    rw [List.pairwise_cons] at h
    have := sorted_len r (x + 1) b h.2 fun y hy => ⟨h.1 y hy, (hb y (List.mem_cons_of_mem _ hy)).2⟩
    have hx := hb x List.mem_cons_self
    rw [List.length_cons]
    omega
theorem rngDown_cons (a b : Int) (h : b < a) : rngDown a b = .int a :: rngDown (a - 1) b := by
  unfold rngDown
  have e : (a - b).toNat = (a - 1 - b).toNat + 1 := by omega
  rw [e, List.range_succ_eq_map, List.map_cons, List.map_map]
  congr 1
  · simp
  · apply List.map_congr_left
    intro i _
    simp only [Function.comp_apply]
    congr 1
    omega
theorem rngDown_nil (a b : Int) (h : a ≤ b) : rngDown a b = [] := by
  unfold rngDown
  have e : (a - b).toNat = 0 := by omega
  rw [e]; rfl
end PXk21

end
section
set_option Elab.async false
set_option linter.all false
set_option maxRecDepth 100000
set_option maxHeartbeats 8000000
namespace PXk21
open PX
/-! count_flat: a dict of sums -/
abbrev Ps := List (Int × Int)
def kD (ps : Ps) : List D := iL (ps.map (·.1))
def vD (ps : Ps) : List D := iL (ps.map (·.2))
def bump (t c : Int) : Ps → Ps
  | [] => [(t, c)]
  | p :: r => if p.1 = t then (p.1, p.2 + c) :: r else p :: bump t c r
def N (ps : Ps) (j : Int) : Int := match ps with
  | [] => 0
  | p :: r => (if p.1 = j then p.2 else 0) + N r j
def Nd (ps : Ps) : Prop := (ps.map (·.1)).Nodup
theorem kD_cons (p : Int × Int) (r : Ps) : kD (p :: r) = .int p.1 :: kD r := rfl
theorem vD_cons (p : Int × Int) (r : Ps) : vD (p :: r) = .int p.2 :: vD r := rfl
theorem kD_len (ps : Ps) : (kD ps).length = ps.length := by simp [kD]
theorem N_none {ps : Ps} {j : Int} (h : j ∉ ps.map (·.1)) : N ps j = 0 := by
  induction ps with
  | nil => rfl
  | cons p r ih =>
    simp only [List.map_cons, List.mem_cons, not_or] at h
    show (if p.1 = j then p.2 else 0) + N r j = 0
    rw [if_neg (Ne.symm h.1), ih h.2]; rfl
theorem lookK_N {j : Int} : ∀ {ps : Ps}, Nd ps → (lookK (.int j) (kD ps) (vD ps)).getD (.int 0) = .int (N ps j)
  | [], _ => rfl
  | p :: r, h => by
    have h2 : p.1 ∉ r.map (·.1) ∧ Nd r := List.nodup_cons.mp (show ((p.1 :: r.map (·.1)) : List Int).Nodup from h)
    rw [kD_cons, vD_cons]
    show (if (p.1 == j) = true then some (D.int p.2) else lookK (.int j) (kD r) (vD r)).getD (.int 0) = .int ((if p.1 = j then p.2 else 0) + N r j)
    by_cases e : p.1 = j
    · subst e
      simp only [beq_self_eq_true, if_true, Option.getD_some]
      rw [N_none h2.1, Int.add_zero]
    · rw [if_neg (by simpa using e), if_neg e, lookK_N h2.2, Int.zero_add]
theorem keys_bump {t c x : Int} : ∀ {ps : Ps}, x ∈ (bump t c ps).map (·.1) ↔ x = t ∨ x ∈ ps.map (·.1)
  | [] => by simp [bump]
  | p :: r => by
    unfold bump
    by_cases e : p.1 = t
    · rw [if_pos e]; simp [← e]
    · rw [if_neg e, List.map_cons, List.mem_cons, keys_bump, List.map_cons, List.mem_cons]
      constructor
      · rintro (h | h | h)
        · exact .inr (.inl h)
        · exact .inl h
        · exact .inr (.inr h)
      · rintro (h | h | h)
        · exact .inr (.inl h)
        · exact .inl h
        · exact .inr (.inr h)
theorem nd_bump {t c : Int} : ∀ {ps : Ps}, Nd ps → Nd (bump t c ps)
  | [], _ => by simp [bump, Nd]
  | p :: r, h => by
    have h2 : p.1 ∉ r.map (·.1) ∧ Nd r := List.nodup_cons.mp (show ((p.1 :: r.map (·.1)) : List Int).Nodup from h)
    unfold bump
    by_cases e : p.1 = t
    · rw [if_pos e]; exact List.nodup_cons.mpr h2
    · rw [if_neg e]
      unfold Nd
      rw [List.map_cons, List.nodup_cons]
      refine ⟨fun hx => ?_, nd_bump h2.2⟩
      rcases keys_bump.mp hx with h3 | h3
      · exact e h3
      · exact h2.1 h3
theorem len_bump {t c : Int} : ∀ {ps : Ps}, (bump t c ps).length ≤ ps.length + 1
  | [] => by simp [bump]
  | p :: r => by
    unfold bump
    by_cases e : p.1 = t
    · rw [if_pos e]; simp
    · rw [if_neg e]; have := @len_bump t c r; simp; omega
theorem N_bump {t c j : Int} : ∀ {ps : Ps}, N (bump t c ps) j = N ps j + if t = j then c else 0
  | [] => by simp [bump, N]
  | p :: r => by
    unfold bump
    by_cases e : p.1 = t
    · rw [if_pos e]
      show (if p.1 = j then p.2 + c else 0) + N r j = ((if p.1 = j then p.2 else 0) + N r j) + if t = j then c else 0
      rw [e]
      by_cases h : t = j
      · rw [if_pos h, if_pos h, if_pos h]; omega
      · rw [if_neg h, if_neg h, if_neg h]; omega
    · rw [if_neg e]
      show (if p.1 = j then p.2 else 0) + N (bump t c r) j = ((if p.1 = j then p.2 else 0) + N r j) + if t = j then c else 0
      rw [N_bump]; omega
theorem set_none {t : Int} {d : D} : ∀ {ps : Ps}, t ∉ ps.map (·.1) → setK (.int t) d (kD ps) (vD ps) = vD ps
  | [], _ => rfl
  | p :: r, h => by
    simp only [List.map_cons, List.mem_cons, not_or] at h
    rw [kD_cons, vD_cons]
    show (if (p.1 == t) = true then d else .int p.2) :: setK (.int t) d (kD r) (vD r) = .int p.2 :: vD r
    rw [if_neg (by simpa using Ne.symm h.1), set_none h.2]
theorem any_key {t : Int} : ∀ {ps : Ps}, (kD ps).any (keyEq · (.int t)) = decide (t ∈ ps.map (·.1))
  | [] => rfl
  | p :: r => by
    rw [kD_cons, List.any_cons, any_key]
    show ((p.1 == t) || _) = _
    by_cases e : p.1 = t
    · subst e; simp
    · rw [show (p.1 == t) = false by simpa using e]; simp [Ne.symm e]
theorem put_bump {t c : Int} : ∀ {ps : Ps}, Nd ps → putK (.int t) (.int (N ps t + c)) (kD ps) (vD ps) = (kD (bump t c ps), vD (bump t c ps))
  | [], _ => by unfold putK; rw [if_neg (by simp [kD, iL])]; simp [N, bump, kD, vD, iL]
  | p :: r, h => by
    have h2 : p.1 ∉ r.map (·.1) ∧ Nd r := List.nodup_cons.mp (show ((p.1 :: r.map (·.1)) : List Int).Nodup from h)
    have ih := put_bump (t := t) (c := c) h2.2
    unfold putK at ih ⊢
    rw [any_key] at ih ⊢
    unfold bump
    by_cases e : p.1 = t
    · rw [if_pos e, if_pos (by rw [← e]; simp)]
      have hn : N (p :: r) t = p.2 := by
        show (if p.1 = t then p.2 else 0) + N r t = p.2
        rw [if_pos e, N_none (by rw [← e]; exact h2.1), Int.add_zero]
      rw [hn, kD_cons, vD_cons, kD_cons, vD_cons]
      show (_, (if (p.1 == t) = true then _ else _) :: setK (.int t) _ (kD r) (vD r)) = _
      rw [if_pos (by simpa using e), set_none (by rw [← e]; exact h2.1)]
    · rw [if_neg e]
      have hn : N (p :: r) t = N r t := by
        show (if p.1 = t then p.2 else 0) + N r t = N r t
        rw [if_neg e, Int.zero_add]
      rw [hn]
      by_cases m : t ∈ r.map (·.1)
      · rw [if_pos (by simpa using m)] at ih
        rw [if_pos (by simp at m ⊢; exact .inr m)]
        rw [kD_cons, vD_cons, kD_cons, vD_cons]
        show (_, (if (p.1 == t) = true then _ else _) :: setK (.int t) _ (kD r) (vD r)) = _
        rw [if_neg (by simpa using e)]
        injection ih with i1 i2
        rw [i2, ← i1]
      · rw [if_neg (by simpa using m)] at ih
        rw [if_neg (by simp at m ⊢; exact ⟨Ne.symm e, m⟩)]
        rw [kD_cons, vD_cons, kD_cons, vD_cons]
        injection ih with i1 i2
        rw [List.cons_append, List.cons_append, i1, i2]
end PXk21

end
section
set_option Elab.async false
set_option linter.all false
set_option maxRecDepth 100000
set_option maxHeartbeats 8000000
namespace PXk21
open PX
local macro_rules | `(tactic| walk_at "px") => `(tactic| simp only [evSs, evS, v0, v1, v2, v3, v4, v5, v6, v7, v8, v9, v10, v11, v12, v13, v14, v15, v16, v17, v18, v19, v20, v21, v22, v23, v24, v25, v26, v27, evL, evAs, evO, evT, evAll, evAny, evI, evG, evGs, bnd, ret, bad, ofO, ofAV, opr, oper, binM, unM, cmp2M, dataM, toD, frz, viewM, viewsM, view, rdSlot, rdVar, putSlot, modSlot, lenG, lenXs, binD, truD, biD, negD, oneInt, Cell.d, seqD, itemsD, enumD, zipD, seqL, rng2, rngTwo, rngD, slD, revD, isTy, lstAt, isDct, appC, subC, callM, refs_nil, refs_d, toArgs, toArg, set_own, setOuts, setOut, outsOf, outOf, args0, List.replicate, isin_tup, isin_lst, notin_tup, PX.eq_int, PX.ne_int, PX.eq_bl, PX.ne_bl, lt_i, le_i, gt_i, ge_i, Option.bind_some, Option.map_some, List.nil_append, List.cons_append, List.append_nil, List.getElem?_cons_zero, List.getElem?_cons_succ, List.set_cons_zero, List.set_cons_succ, List.length_cons, List.length_nil, allInt_ints, allBl_bls, Bool.not_true, Bool.not_false, Bool.and_true, Bool.true_and, Bool.false_and, Bool.and_false, Bool.or_true, Bool.true_or, Bool.or_false, Bool.false_or, Bool.false_eq_true, if_true, if_false, reduceIte, Nat.reduceAdd, Nat.reduceSub])
abbrev cD (ps : Ps) : Cell := .dct (kD ps) (vD ps)
abbrev dD (ps : Ps) : D := .dct (kD ps) (vD ps)
theorem getP {ps : Ps} (h : Nd ps) (t : Int) : getD' (dD ps) [.int t, .int 0] = ret (AV.d (.int (N ps t))) := by
  show (if keyOk (.int t) = true then ret (AV.d ((lookK (.int t) (kD ps) (vD ps)).getD (.int 0))) else bad) = _
  rw [lookK_N h]
  rfl
theorem subP {ps : Ps} (h : Nd ps) (hl : ps.length < 1000000) (t c : Int) : (if (keyOk (.int t) && decide ((kD ps).length < SZ)) = true then some (Cell.dct (putK (.int t) (.int (N ps t + c)) (kD ps) (vD ps)).1 (putK (.int t) (.int (N ps t + c)) (kD ps) (vD ps)).2) else none) = some (cD (bump t c ps)) := by
  rw [if_pos (by rw [kD_len]; simpa [keyOk] using hl), put_bump h]
theorem stepD {cf : Cf} (R S1 S2 S4 : Slot) (ps : Ps) (t c : Int) (h : Nd ps) (hl : ps.length < 1000000) :
    evSs T cf (.cons (.asg (.sub 3 (.var 6)) (.bin .add (.get (.var 3) (.cons (.var 6) (.cons (.int 0) .nil))) (.var 5))) .nil) [R, S1, S2, .own (cD ps), S4, .val (.int c), .val (.int t)] = .ok .next [R, S1, S2, .own (cD (bump t c ps)), S4, .val (.int c), .val (.int t)] := by
  refine (seq_next (e1 := [R, S1, S2, .own (cD (bump t c ps)), S4, .val (.int c), .val (.int t)]) ?_).trans rfl
  walk_at "px"
  rw [getP h]
  walk_at "px"
  rw [subP h hl]
abbrev bodyT : Ss := .cons (.asg (.sub 3 (.var 6)) (.bin .add (.get (.var 3) (.cons (.var 6) (.cons (.int 0) .nil))) (.var 5))) .nil
abbrev bodyI : Ss := .cons (.fr (.nm 6) (.seq (.tup (.cons (.bin .sub (.var 4) (.var 2)) (.cons (.bin .add (.var 4) (.var 2)) .nil)))) bodyT) .nil
def adv (r : Int) : Ps → Ps → Ps
  | [], acc => acc
  | p :: cs, acc => adv r cs (bump (p.1 + r) p.2 (bump (p.1 - r) p.2 acc))
theorem loopI {cf : Cf} (R S1 : Slot) (r : Int) : ∀ (cs acc : Ps) (s4 s5 s6 : Slot), Free s4 → Free s5 → Free s6 → Nd acc → acc.length + 2 * cs.length < 1000000 →
    ∃ s4' s5' s6', Free s4' ∧ Free s5' ∧ Free s6' ∧ forLoop (evG T cf (.tup (.cons (.nm 4) (.cons (.nm 5) .nil)))) (evSs T cf bodyI) (zip2 (kD cs) (vD cs)) [R, S1, .val (.int r), .own (cD acc), s4, s5, s6] = .ok .next [R, S1, .val (.int r), .own (cD (adv r cs acc)), s4', s5', s6']
  | [], acc, s4, s5, s6, f84, f9, f15, _, _ => ⟨s4, s5, s6, f84, f9, f15, rfl⟩
  | p :: cs, acc, s4, s5, s6, f84, f9, f15, hn, hl => by
    rw [List.length_cons] at hl
    have l1 := @len_bump (p.1 - r) p.2 acc
    have l2 := @len_bump (p.1 + r) p.2 (bump (p.1 - r) p.2 acc)
    obtain ⟨s4', s5', s6', g4, g5, g6, hg⟩ := loopI (cf := cf) R S1 r cs (bump (p.1 + r) p.2 (bump (p.1 - r) p.2 acc)) (.val (.int p.1)) (.val (.int p.2)) (.val (.int (p.1 + r))) (.inr ⟨_, rfl⟩) (.inr ⟨_, rfl⟩) (.inr ⟨_, rfl⟩) (nd_bump (nd_bump hn)) (by omega)
    refine ⟨s4', s5', s6', g4, g5, g6, ?_⟩
    rw [kD_cons, vD_cons]
    have ha : evG T cf (.tup (.cons (.nm 4) (.cons (.nm 5) .nil))) (.tup [.int p.1, .int p.2]) [R, S1, .val (.int r), .own (cD acc), s4, s5, s6] = .ok () [R, S1, .val (.int r), .own (cD acc), .val (.int p.1), .val (.int p.2), s6] := by
      rcases f84 with rfl | ⟨d, rfl⟩ <;> rcases f9 with rfl | ⟨d', rfl⟩ <;> rfl
    refine (for_next (e2 := [R, S1, .val (.int r), .own (cD (bump (p.1 + r) p.2 (bump (p.1 - r) p.2 acc))), .val (.int p.1), .val (.int p.2), .val (.int (p.1 + r))]) ha ?_).trans hg
    have a1 : evG T cf (.nm 6) (.int (p.1 - r)) [R, S1, .val (.int r), .own (cD acc), .val (.int p.1), .val (.int p.2), s6] = .ok () [R, S1, .val (.int r), .own (cD acc), .val (.int p.1), .val (.int p.2), .val (.int (p.1 - r))] := put_free (i := 6) rfl f15
    have a2 : evG T cf (.nm 6) (.int (p.1 + r)) [R, S1, .val (.int r), .own (cD (bump (p.1 - r) p.2 acc)), .val (.int p.1), .val (.int p.2), .val (.int (p.1 - r))] = .ok () [R, S1, .val (.int r), .own (cD (bump (p.1 - r) p.2 acc)), .val (.int p.1), .val (.int p.2), .val (.int (p.1 + r))] := rfl
    have b1 := stepD (cf := cf) R S1 (.val (.int r)) (.val (.int p.1)) acc (p.1 - r) p.2 hn (by omega)
    have b2 := stepD (cf := cf) R S1 (.val (.int r)) (.val (.int p.1)) _ (p.1 + r) p.2 (nd_bump (t := p.1 - r) (c := p.2) hn) (by omega)
    refine (seq_next ((for_it (xs := [.int (p.1 - r), .int (p.1 + r)]) (e1 := [R, S1, .val (.int r), .own (cD acc), .val (.int p.1), .val (.int p.2), s6]) ?_).trans ((for_next a1 b1).trans ((for_next a2 b2).trans rfl)))).trans rfl
    walk_at "px"
    rw [if_pos (by decide)]
    walk_at "px"
theorem nd_adv (r : Int) : ∀ (cs acc : Ps), Nd acc → Nd (adv r cs acc)
  | [], _, h => h
  | p :: cs, acc, h => nd_adv r cs _ (nd_bump (nd_bump h))
theorem len_adv (r : Int) : ∀ (cs acc : Ps), (adv r cs acc).length ≤ acc.length + 2 * cs.length
  | [], acc => by simp [adv]
  | p :: cs, acc => by
    have h := len_adv r cs (bump (p.1 + r) p.2 (bump (p.1 - r) p.2 acc))
    have l1 := @len_bump (p.1 - r) p.2 acc
    have l2 := @len_bump (p.1 + r) p.2 (bump (p.1 - r) p.2 acc)
    show (adv r cs _).length ≤ _
    rw [List.length_cons]; omega
theorem N_adv (r j : Int) : ∀ (cs acc : Ps), N (adv r cs acc) j = N acc j + N cs (j + r) + N cs (j - r)
  | [], acc => by simp [adv, N]
  | p :: cs, acc => by
    show N (adv r cs _) j = N acc j + ((if p.1 = j + r then p.2 else 0) + N cs (j + r)) + ((if p.1 = j - r then p.2 else 0) + N cs (j - r))
    rw [N_adv r j cs, N_bump, N_bump]
    have e1 : (p.1 - r = j) = (p.1 = j + r) := propext ⟨fun h => by omega, fun h => by omega⟩
    have e2 : (p.1 + r = j) = (p.1 = j - r) := propext ⟨fun h => by omega, fun h => by omega⟩
    simp only [e1, e2]
    omega
def cnt : List Int → (Int → Int) → Int → Int
  | [], f => f
  | r :: rs, f => cnt rs (fun j => f (j + r) + f (j - r))
def advs : List Int → Ps → Ps
  | [], ps => ps
  | r :: rs, ps => advs rs (adv r ps [])
theorem N_advs : ∀ (rs : List Int) (ps : Ps), N (advs rs ps) = cnt rs (N ps)
  | [], _ => rfl
  | r :: rs, ps => by
    show N (advs rs (adv r ps [])) = cnt rs _
    rw [N_advs rs]
    congr 1
    funext j
    rw [N_adv]
    show 0 + _ + _ = _
    omega
theorem nd_advs : ∀ (rs : List Int) (ps : Ps), Nd ps → Nd (advs rs ps)
  | [], _, h => h
  | r :: rs, ps, h => nd_advs rs _ (nd_adv r ps [] List.nodup_nil)
abbrev bodyR : Ss := .cons (.asg (.nm 3) (.dct .nil .nil)) (.cons (.fr (.tup (.cons (.nm 4) (.cons (.nm 5) .nil))) (.items (.var 1)) bodyI) (.cons (.asg (.nm 1) (.var 3)) .nil))
def Dc (ps : Ps) (s : Slot) : Prop := s = .own (cD ps) ∨ s = .val (dD ps)
theorem loopR {cf : Cf} (R : Slot) : ∀ (rs : List Int) (ps : Ps) (s1 s2 s3 s4 s5 s6 : Slot), Dc ps s1 → Free s2 → Free s3 → Free s4 → Free s5 → Free s6 → Nd ps → ps.length * 2 ^ rs.length < 500000 →
    ∃ s1' s2' s3' s4' s5' s6', Dc (advs rs ps) s1' ∧ forLoop (evG T cf (.nm 2)) (evSs T cf bodyR) (iL rs) [R, s1, s2, s3, s4, s5, s6] = .ok .next [R, s1', s2', s3', s4', s5', s6']
  | [], ps, s1, s2, s3, s4, s5, s6, h1, _, _, _, _, _, _, _ => ⟨s1, s2, s3, s4, s5, s6, h1, rfl⟩
  | r :: rs, ps, s1, s2, s3, s4, s5, s6, h1, f82, f4, f84, f9, f15, hn, hl => by
    have hpow : ps.length * 2 ^ (rs.length + 1) = 2 * ps.length * 2 ^ rs.length := by rw [Nat.pow_succ]; ac_rfl
    rw [List.length_cons, hpow] at hl
    have h2 : 2 * ps.length < 500000 := Nat.lt_of_le_of_lt (Nat.le_mul_of_pos_right _ (Nat.pow_pos (by decide))) hl
    have h3 := len_adv r ps []
    obtain ⟨t4, t5, t6, g4, g5, g6, hg⟩ := loopI (cf := cf) R (.val (dD ps)) r ps [] s4 s5 s6 f84 f9 f15 List.nodup_nil (by simp; omega)
    obtain ⟨s1', s2', s3', s4', s5', s6', k1, k2⟩ := loopR (cf := cf) R rs (adv r ps []) (.val (dD (adv r ps []))) (.val (.int r)) (.val (dD (adv r ps []))) t4 t5 t6 (.inr rfl) (.inr ⟨_, rfl⟩) (.inr ⟨_, rfl⟩) g4 g5 g6 (nd_adv r ps [] List.nodup_nil)
      (Nat.lt_of_le_of_lt (Nat.mul_le_mul_right _ (by simpa using h3)) hl)
    refine ⟨s1', s2', s3', s4', s5', s6', k1, ?_⟩
    refine (for_next (e1 := [R, s1, .val (.int r), s3, s4, s5, s6]) (e2 := [R, .val (dD (adv r ps [])), .val (.int r), .val (dD (adv r ps [])), t4, t5, t6]) (by exact put_free (i := 2) rfl f82) ?_).trans k2
    have q1 : evS T cf (.asg (.nm 3) (.dct .nil .nil)) [R, s1, .val (.int r), s3, s4, s5, s6] = .ok .next [R, s1, .val (.int r), .own (cD []), s4, s5, s6] := by
      rcases f4 with rfl | ⟨d, rfl⟩ <;> rfl
    have q2 : evS T cf (.fr (.tup (.cons (.nm 4) (.cons (.nm 5) .nil))) (.items (.var 1)) bodyI) [R, s1, .val (.int r), .own (cD []), s4, s5, s6] = .ok .next [R, .val (dD ps), .val (.int r), .own (cD (adv r ps [])), t4, t5, t6] := by
      refine (for_it (xs := zip2 (kD ps) (vD ps)) (e1 := [R, .val (dD ps), .val (.int r), .own (cD []), s4, s5, s6]) ?_).trans hg
      rcases h1 with rfl | rfl <;> rfl
    have q3 : evS T cf (.asg (.nm 1) (.var 3)) [R, .val (dD ps), .val (.int r), .own (cD (adv r ps [])), t4, t5, t6] = .ok .next [R, .val (dD (adv r ps [])), .val (.int r), .val (dD (adv r ps [])), t4, t5, t6] := rfl
    rw [seq_next q1, seq_next q2, seq_next q3]
    rfl
theorem r5 (k : Nat) (rods : List Int) (hr : areRods rods = true) (hl : rods.length ≤ 16) : callT T (k + 3) 9 [.d (.tup (iL rods))] = .ok (.d (.int (cnt rods (fun j => if 0 = j then 1 else 0) 0))) [none] := by
  have hlr : rods.length ≤ SZ := by show _ ≤ 1000000; omega
  have c3 : refsOf T 4 = [false] := rfl
  have hp : 1 * 2 ^ rods.length < 500000 := by
    have : 2 ^ rods.length ≤ 2 ^ 16 := Nat.pow_le_pow_right (by decide) hl
    omega
  obtain ⟨s1', s2', s3', s4', s5', s6', k1, k2⟩ := loopR (cf := callT T (k + 2)) (.val (.tup (iL rods))) rods [(0, 1)] (.own (cD [(0, 1)])) .non .non .non .non .non (.inl rfl) (.inl rfl) (.inl rfl) (.inl rfl) (.inl rfl) (.inl rfl) (by simp [Nd]) hp
  have hN : N (advs rods [(0, 1)]) 0 = cnt rods (fun j => if 0 = j then 1 else 0) 0 := by
    rw [N_advs]
    congr 1
    funext j
    show (if (0:Int) = j then (1:Int) else 0) + 0 = _
    rw [Int.add_zero]
  refine run_d (T := T) (cf := callT T (k + 2)) (ds := [.tup (iL rods)]) (e := [.val (.tup (iL rods)), s1', s2', s3', s4', s5', s6']) (a := .d (.int (cnt rods (fun j => if 0 = j then 1 else 0) 0))) rfl ?_ rfl (by simp)
  show evSs T (callT T (k + 2)) f9.body [.val (.tup (iL rods)), .non, .non, .non, .non, .non, .non] = _
  unfold f9
  simp only [PXk21.ss]
  have q1 : evS T (callT T (k + 2)) (.asg (.nm 1) (.dct (.cons (.int 0) .nil) (.cons (.int 1) .nil))) [.val (.tup (iL rods)), .non, .non, .non, .non, .non, .non] = .ok .next [.val (.tup (iL rods)), .own (cD [(0, 1)]), .non, .non, .non, .non, .non] := rfl
  have q2 : evS T (callT T (k + 2)) (.fr (.nm 2) (.seq (.call 4 (.cons (.var 0) .nil))) bodyR) [.val (.tup (iL rods)), .own (cD [(0, 1)]), .non, .non, .non, .non, .non] = .ok .next [.val (.tup (iL rods)), s1', s2', s3', s4', s5', s6'] := by
    refine (for_it (xs := iL rods) (e1 := [.val (.tup (iL rods)), .own (cD [(0, 1)]), .non, .non, .non, .non, .non]) ?_).trans k2
    walk_at "px"; rw [c3]; walk_at "px"; rw [r3 k rods hr hlr]; walk_at "px"
  rw [seq_next q1, seq_next q2]
  refine seq_ret ?_
  have hg := getP (nd_advs rods [(0, 1)] (by simp [Nd])) 0
  rw [hN] at hg
  rcases k1 with rfl | rfl
  · walk_at "px"
    rw [hg]
    walk_at "px"
  · walk_at "px"
    rw [hg]
    walk_at "px"
end PXk21

end
section
set_option Elab.async false
set_option linter.all false
set_option maxRecDepth 100000
set_option maxHeartbeats 8000000
namespace PXk21
open PX
local macro_rules | `(tactic| walk_at "px") => `(tactic| simp only [evSs, evS, v0, v1, v2, v3, v4, v5, v6, v7, v8, v9, v10, v11, v12, v13, v14, v15, v16, v17, v18, v19, v20, v21, v22, v23, v24, v25, v26, v27, evL, evAs, evO, evT, evAll, evAny, evI, evG, evGs, bnd, ret, bad, ofO, ofAV, opr, oper, binM, unM, cmp2M, dataM, toD, frz, viewM, viewsM, view, rdSlot, rdVar, putSlot, modSlot, lenG, lenXs, binD, truD, biD, negD, oneInt, Cell.d, seqD, itemsD, enumD, zipD, seqL, rng2, rngTwo, rngD, slD, revD, isTy, lstAt, isDct, appC, subC, callM, refs_nil, refs_d, toArgs, toArg, set_own, setOuts, setOut, outsOf, outOf, args0, List.replicate, isin_tup, isin_lst, notin_tup, PX.eq_int, PX.ne_int, PX.eq_bl, PX.ne_bl, lt_i, le_i, gt_i, ge_i, Option.bind_some, Option.map_some, List.nil_append, List.cons_append, List.append_nil, List.getElem?_cons_zero, List.getElem?_cons_succ, List.set_cons_zero, List.set_cons_succ, List.length_cons, List.length_nil, allInt_ints, allBl_bls, Bool.not_true, Bool.not_false, Bool.and_true, Bool.true_and, Bool.false_and, Bool.and_false, Bool.or_true, Bool.true_or, Bool.or_false, Bool.false_or, Bool.false_eq_true, if_true, if_false, reduceIte, Nat.reduceAdd, Nat.reduceSub])
/-! flatten -/
theorem mem_sums {p : List Int} {r x : Int} : x ∈ sums p r ↔ (∃ y ∈ p, x = y + r) ∨ ∃ y ∈ p, x = y - r := by
  unfold sums
  rw [mem_sortU, List.mem_append, List.mem_map, List.mem_map]
  constructor
  · rintro (⟨y, h, rfl⟩ | ⟨y, h, rfl⟩)
    · exact .inl ⟨y, h, rfl⟩
    · exact .inr ⟨y, h, rfl⟩
  · rintro (⟨y, h, rfl⟩ | ⟨y, h, rfl⟩)
    · exact .inl ⟨y, h, rfl⟩
    · exact .inr ⟨y, h, rfl⟩
def In (B : Int) (p : List Int) : Prop := p.length ≤ 2000 ∧ ∀ x ∈ p, -B ≤ x ∧ x ≤ B
theorem in_sums {B r : Int} {p : List Int} (h : In B p) (h0 : 0 ≤ B) (hr : 0 ≤ r) (hB : B + r ≤ 900) : In (B + r) (sums p r) := by
  have hm : ∀ x ∈ sums p r, -(B + r) ≤ x ∧ x ≤ B + r := fun x hx => by
    rcases mem_sums.mp hx with ⟨y, hy, rfl⟩ | ⟨y, hy, rfl⟩ <;> have := h.2 y hy <;> omega
  refine ⟨?_, hm⟩
  have := sorted_len _ (-(B + r)) (B + r) (sortU_sorted _) hm
  have e : (sortU (p.map (· + r) ++ p.map (· - r))) = sums p r := rfl
  rw [e] at this
  omega
def layS : List Int → List Int → List (List Int)
  | _, [] => []
  | p, r :: rs => sums p r :: layS (sums p r) rs
def lastS : List Int → List Int → List Int
  | p, [] => p
  | p, r :: rs => lastS (sums p r) rs
theorem layS_len : ∀ (rs p : List Int), (layS p rs).length = rs.length
  | [], _ => rfl
  | r :: rs, p => by show (layS (sums p r) rs).length + 1 = _; rw [layS_len rs, List.length_cons]
theorem layS_last : ∀ (rs p : List Int), ∃ pre, (p :: layS p rs) = pre ++ [lastS p rs]
  | [], p => ⟨[], rfl⟩
  | r :: rs, p => by
    obtain ⟨pre, h⟩ := layS_last rs (sums p r)
    refine ⟨p :: pre, ?_⟩
    show p :: (sums p r :: layS (sums p r) rs) = _
    rw [h]; rfl
def tD (p : List Int) : D := .tup (iL p)
abbrev bodyF : Ss := .cons (.expr (.app 1 (.call 2 (.cons (.idx (.var 1) (.neg (.int 1))) (.cons (.var 2) .nil))))) .nil
theorem loopF (k : Nat) (R : Slot) (rest : List Slot) : ∀ (rs p : List Int) (B : Int) (pre : List D) (s2 : Slot), Free s2 → In B p → 0 ≤ B → (∀ r ∈ rs, 0 ≤ r) → B + rs.sum ≤ 900 → pre.length + rs.length < 900 →
    ∃ s2', forLoop (evG T (callT T (k + 1)) (.nm 2)) (evSs T (callT T (k + 1)) bodyF) (iL rs) (R :: .own (.lst (pre ++ [tD p])) :: s2 :: rest) = .ok .next (R :: .own (.lst (pre ++ (tD p :: (layS p rs).map tD))) :: s2' :: rest)
  | [], p, B, pre, s2, _, _, _, _, _, _ => ⟨s2, rfl⟩
  | r :: rs, p, B, pre, s2, f82, hp, h0, hr, hB, hl => by
    rw [List.length_cons] at hl
    rw [List.sum_cons] at hB
    have hr0 := hr r List.mem_cons_self
    have hs0 : 0 ≤ rs.sum := by
      clear hB hp hl
      induction rs with
      | nil => simp
      | cons y ys ih =>
        rw [List.sum_cons]
        have h1 := hr y (by simp)
        have h2 := ih (fun x hx => hr x (by simp at hx ⊢; rcases hx with rfl | hx; exact .inl rfl; exact .inr (.inr hx)))
        omega
    obtain ⟨s2', h2⟩ := loopF k R rest rs (sums p r) (B + r) (pre ++ [tD p]) (.val (.int r)) (.inr ⟨_, rfl⟩) (in_sums hp h0 hr0 (by omega)) (by omega) (fun x hx => hr x (List.mem_cons_of_mem _ hx)) (by omega) (by simp; omega)
    refine ⟨s2', ?_⟩
    have hc : refsOf T 2 = [false, false] := rfl
    have e : (pre ++ (tD p :: (layS p (r :: rs)).map tD)) = ((pre ++ [tD p]) ++ (tD (sums p r) :: (layS (sums p r) rs).map tD)) := by simp [layS]
    rw [e, ← h2]
    have ha : evG T (callT T (k + 1)) (.nm 2) (.int r) (R :: .own (.lst (pre ++ [tD p])) :: s2 :: rest) = .ok () (R :: .own (.lst (pre ++ [tD p])) :: .val (.int r) :: rest) := put_free (i := 2) (s := s2) rfl f82
    refine for_next ha ?_
    walk_at "px"
    rw [hc]
    walk_at "px"
    rw [idx_last]
    unfold tD
    walk_at "px"
    rw [r0 k p r hp.1]
    walk_at "px"
    rw [if_pos (show (pre ++ [D.tup (iL p)]).length < SZ by simp; show pre.length + 1 < 1000000; omega)]
    walk_at "px"
abbrev bodyG : Ss := .cons (.asg (.nm 6) (.ite (.cmp .isin (.bin .sub (.var 3) (.idx (.var 0) (.var 5))) (.idx (.var 1) (.var 5))) (.int 1) (.neg (.int 1))))
   (.cons (.expr (.app 4 (.var 6))) (.cons (.asg (.nm 3) (.bin .sub (.var 3) (.bin .mul (.var 6) (.idx (.var 0) (.var 5))))) .nil))
theorem loopG {cf : Cf} (rods : List Int) (Ls : List (List Int)) (s2 : Slot) (hL : rods.length ≤ Ls.length) :
    ∀ (j : Nat) (w : Int) (ws : List D) (s5 s6 : Slot), j ≤ rods.length → Free s5 → Free s6 → ws.length + j < 900 →
    ∃ w' ws' s5' s6', forLoop (evG T cf (.nm 5)) (evSs T cf bodyG) (rngDown ((j : Int) - 1) (-1)) [.val (.tup (iL rods)), .own (.lst (Ls.map tD)), s2, .val (.int w), .own (.lst ws), s5, s6] =
      .ok .next [.val (.tup (iL rods)), .own (.lst (Ls.map tD)), s2, .val (.int w'), .own (.lst ws'), s5', s6'] ∧ ws'.length < 900
  | 0, w, ws, s5, s6, _, _, _, hl => ⟨w, ws, s5, s6, by rw [rngDown_nil _ _ (by omega)]; rfl, by omega⟩
  | j + 1, w, ws, s5, s6, hj, f9, f15, hl => by
    obtain ⟨r, hr⟩ : ∃ r, rods[j]? = some r := ⟨_, List.getElem?_eq_getElem (by omega)⟩
    obtain ⟨p, hp⟩ : ∃ p, Ls[j]? = some p := ⟨_, List.getElem?_eq_getElem (by omega)⟩
    have ir : idxD (.tup (iL rods)) (.int (j : Int)) = some (.int r) := (idx_at (iL rods) j (.int r) (by rw [ints_get, hr]; rfl)).2
    have il : idxD (.lst (Ls.map tD)) (.int (j : Int)) = some (.tup (iL p)) := (idx_at (Ls.map tD) j (tD p) (by rw [List.getElem?_map, hp]; rfl)).1
    obtain ⟨s, hs, h1⟩ : ∃ s, Sgn s ∧ evS T cf (.asg (.nm 6) (.ite (.cmp .isin (.bin .sub (.var 3) (.idx (.var 0) (.var 5))) (.idx (.var 1) (.var 5))) (.int 1) (.neg (.int 1)))) [.val (.tup (iL rods)), .own (.lst (Ls.map tD)), s2, .val (.int w), .own (.lst ws), .val (.int (j : Int)), s6] = .ok .next [.val (.tup (iL rods)), .own (.lst (Ls.map tD)), s2, .val (.int w), .own (.lst ws), .val (.int (j : Int)), .val (.int s)] := by
      refine ⟨if w - r ∈ p then 1 else -1, by by_cases h : w - r ∈ p <;> simp [h, Sgn], ?_⟩
      walk_at "px"
      rw [ir]
      walk_at "px"
      rw [il]
      walk_at "px"
      by_cases h : w - r ∈ p
      · rw [decide_eq_true h, if_pos h]
        rcases f15 with rfl | ⟨d, rfl⟩ <;> walk_at "px"
      · rw [decide_eq_false h, if_neg h]
        rcases f15 with rfl | ⟨d, rfl⟩ <;> walk_at "px"
    obtain ⟨w', ws', s5', s6', g1, g2⟩ := loopG (cf := cf) rods Ls s2 hL j (w - s * r) (ws ++ [.int s]) (.val (.int (j : Int))) (.val (.int s)) (by omega) (.inr ⟨_, rfl⟩) (.inr ⟨_, rfl⟩) (by simp; omega)
    refine ⟨w', ws', s5', s6', ?_, g2⟩
    rw [← g1, show (((j + 1 : Nat) : Int) - 1) = (j : Int) by omega, rngDown_cons _ _ (by omega)]
    have ha : evG T cf (.nm 5) (.int (j : Int)) [.val (.tup (iL rods)), .own (.lst (Ls.map tD)), s2, .val (.int w), .own (.lst ws), s5, s6] = .ok () [.val (.tup (iL rods)), .own (.lst (Ls.map tD)), s2, .val (.int w), .own (.lst ws), .val (.int (j : Int)), s6] := put_free (i := 5) (s := s5) rfl f9
    refine for_next ha ?_
    rw [seq_next h1]
    walk_at "px"
    rw [if_pos (show ws.length < SZ by show _ < 1000000; omega)]
    walk_at "px"
    rw [ir]
    walk_at "px"
    rw [if_pos (okMul hs)]
    walk_at "px"
theorem r7 (k : Nat) (rods : List Int) (hr : areRods rods = true) (hl : rods.length ≤ 24) (hB : rods.sum ≤ 900) : ∃ rest, callT T (k + 3) 13 [.d (.tup (iL rods))] = .ok (.d (.tup (.str (if 0 ∈ lastS [0] rods then "flattens" else "stands") :: rest))) [none] := by
  obtain ⟨n1, n2, n3⟩ := rods_of hr
  have hlr : rods.length ≤ SZ := by show _ ≤ 1000000; omega
  have c3 : refsOf T 4 = [false] := rfl
  obtain ⟨s2', hF⟩ := loopF (k + 1) (.val (.tup (iL rods))) [.non, .non, .non, .non] rods [0] 0 [] .non (.inl rfl) ⟨by simp, by simp⟩ (Int.le_refl 0) (fun r h => by have := n3 r h; omega) (by omega) (by simp; omega)
  obtain ⟨pre, hpre⟩ := layS_last rods [0]
  have hpreL : tD [0] :: (layS [0] rods).map tD = pre.map tD ++ [tD (lastS [0] rods)] := by
    have := congrArg (List.map tD) hpre
    simpa using this
  rw [List.nil_append, List.nil_append, hpreL] at hF
  have main : ∃ e rest, 1 ≤ e.length ∧ evSs T (callT T (k + 2)) f13.body [.val (.tup (iL rods)), .non, .non, .non, .non, .non, .non] = .ok (.ret (.d (.tup (.str (if 0 ∈ lastS [0] rods then "flattens" else "stands") :: rest)))) e := by
    unfold f13
    simp only [ss]
    have q1 : evS T (callT T (k + 2)) (.asg (.nm 0) (.call 4 (.cons (.var 0) .nil))) [.val (.tup (iL rods)), .non, .non, .non, .non, .non, .non] = .ok .next [.val (.tup (iL rods)), .non, .non, .non, .non, .non, .non] := by
      walk_at "px"; rw [c3]; walk_at "px"; rw [r3 k rods hr hlr]; walk_at "px"
    have q2 : evS T (callT T (k + 2)) (.ifs (.cmp .gt (.bi .len (.cons (.var 0) .nil)) (.glob "MOST_ROUND" (.int 24))) (.cons (.raise 0 (.str "rods")) .nil) .nil) [.val (.tup (iL rods)), .non, .non, .non, .non, .non, .non] = .ok .next [.val (.tup (iL rods)), .non, .non, .non, .non, .non, .non] := by
      walk_at "px"
      rw [ints_length, decide_eq_false (by omega)]
      walk_at "px"
    have q3 : evS T (callT T (k + 2)) (.asg (.nm 1) (.lst (.cons (.tup (.cons (.int 0) .nil)) .nil))) [.val (.tup (iL rods)), .non, .non, .non, .non, .non, .non] = .ok .next [.val (.tup (iL rods)), .own (.lst [tD [0]]), .non, .non, .non, .non, .non] := by
      walk_at "px"
      rw [if_pos (by decide)]
      walk_at "px"
      rw [if_pos (by decide)]
      walk_at "px"
      rfl
    have q4 : evS T (callT T (k + 2)) (.fr (.nm 2) (.seq (.var 0)) bodyF) [.val (.tup (iL rods)), .own (.lst [tD [0]]), .non, .non, .non, .non, .non] = .ok .next [.val (.tup (iL rods)), .own (.lst (pre.map tD ++ [tD (lastS [0] rods)])), s2', .non, .non, .non, .non] := by
      refine (for_it (xs := iL rods) (e1 := [.val (.tup (iL rods)), .own (.lst [tD [0]]), .non, .non, .non, .non, .non]) ?_).trans hF
      walk_at "px"
    rw [seq_next q1, seq_next q2, seq_next q3, seq_next q4]
    have ht : evT T (callT T (k + 2)) (.cmp .notin (.int 0) (.idx (.var 1) (.neg (.int 1)))) [.val (.tup (iL rods)), .own (.lst (pre.map tD ++ [tD (lastS [0] rods)])), s2', .non, .non, .non, .non] = .ok (!decide (0 ∈ lastS [0] rods)) [.val (.tup (iL rods)), .own (.lst (pre.map tD ++ [tD (lastS [0] rods)])), s2', .non, .non, .non, .non] := by
      walk_at "px"
      rw [idx_last]
      unfold tD
      walk_at "px"
    by_cases h0 : 0 ∈ lastS [0] rods
    · rw [decide_eq_true h0] at ht
      rw [if_pos h0]
      have hLs : (pre.map tD ++ [tD (lastS [0] rods)]) = ([0] :: layS [0] rods).map tD := by rw [← hpreL]; rfl
      obtain ⟨w', ws', s5', s6', g1, g2⟩ := loopG (cf := callT T (k + 2)) rods ([0] :: layS [0] rods) s2' (by simp [layS_len]) rods.length 0 [] .non .non (Nat.le_refl _) (.inl rfl) (.inl rfl) (by simp; omega)
      refine ⟨[.val (.tup (iL rods)), .own (.lst (([0] :: layS [0] rods).map tD)), s2', .val (.int w'), .own (.lst ws'), s5', s6'], [.tup (iL rods), .tup ws'.reverse], by simp, (seq_next ((if_else ht).trans rfl)).trans ?_⟩
      · rw [hLs]
        have q6 : evS T (callT T (k + 2)) (.asg (.nm 3) (.int 0)) [.val (.tup (iL rods)), .own (.lst (([0] :: layS [0] rods).map tD)), s2', .non, .non, .non, .non] = .ok .next [.val (.tup (iL rods)), .own (.lst (([0] :: layS [0] rods).map tD)), s2', .val (.int 0), .non, .non, .non] := rfl
        have q7 : evS T (callT T (k + 2)) (.asg (.nm 4) (.lst .nil)) [.val (.tup (iL rods)), .own (.lst (([0] :: layS [0] rods).map tD)), s2', .val (.int 0), .non, .non, .non] = .ok .next [.val (.tup (iL rods)), .own (.lst (([0] :: layS [0] rods).map tD)), s2', .val (.int 0), .own (.lst []), .non, .non] := rfl
        have q8 : evS T (callT T (k + 2)) (.fr (.nm 5) (.rng (.cons (.bin .sub (.bi .len (.cons (.var 0) .nil)) (.int 1)) (.cons (.neg (.int 1)) (.cons (.neg (.int 1)) .nil)))) bodyG) [.val (.tup (iL rods)), .own (.lst (([0] :: layS [0] rods).map tD)), s2', .val (.int 0), .own (.lst []), .non, .non] = .ok .next [.val (.tup (iL rods)), .own (.lst (([0] :: layS [0] rods).map tD)), s2', .val (.int w'), .own (.lst ws'), s5', s6'] := by
          refine (for_it (xs := rngDown ((rods.length : Int) - 1) (-1)) (e1 := [.val (.tup (iL rods)), .own (.lst (([0] :: layS [0] rods).map tD)), s2', .val (.int 0), .own (.lst []), .non, .non]) ?_).trans g1
          walk_at "px"
          rw [ints_length]
          rw [if_pos (show (small ((rods.length : Int) - 1) && small (-1)) = true by unfold small; simp only [Bool.and_eq_true, decide_eq_true_eq]; exact ⟨⟨by omega, by omega⟩, by decide⟩)]
          rw [if_neg (by decide)]
          walk_at "px"
        rw [seq_next q6, seq_next q7, seq_next q8]
        refine seq_ret ?_
        walk_at "px"
        rw [if_pos (by decide)]
        walk_at "px"
    · rw [decide_eq_false h0] at ht
      rw [if_neg h0]
      obtain ⟨ys, hy⟩ : ∃ ys, evSs T (callT T (k + 2)) (.cons (.ret (.tup (.cons (.str "stands") (.cons (.var 0) (.cons (.bi .tuple (.cons (.sl (.var 1) (.some (.int 1)) .none) .nil)) .nil))))) .nil) [.val (.tup (iL rods)), .own (.lst (pre.map tD ++ [tD (lastS [0] rods)])), s2', .non, .non, .non, .non] = .ok (.ret (.d (.tup [.str "stands", .tup (iL rods), .tup ys]))) [.val (.tup (iL rods)), .own (.lst (pre.map tD ++ [tD (lastS [0] rods)])), s2', .non, .non, .non, .non] := by
        refine ⟨cutD (pre.map tD ++ [tD (lastS [0] rods)]) (some 1) none, seq_ret ?_⟩
        walk_at "px"
        rw [if_pos (by decide)]
        walk_at "px"
      exact ⟨_, [.tup (iL rods), .tup ys], by simp, seq_ret ((if_then ht).trans hy)⟩
  obtain ⟨e, rest, he, h⟩ := main
  exact ⟨rest, run_d (T := T) (cf := callT T (k + 2)) (ds := [.tup (iL rods)]) rfl h rfl he⟩
end PXk21

end
section
set_option Elab.async false
set_option linter.all false
set_option maxRecDepth 100000
set_option maxHeartbeats 8000000
namespace PXk21
open PX
local macro_rules | `(tactic| walk_at "px") => `(tactic| simp only [evSs, evS, v0, v1, v2, v3, v4, v5, v6, v7, v8, v9, v10, v11, v12, v13, v14, v15, v16, v17, v18, v19, v20, v21, v22, v23, v24, v25, v26, v27, evL, evAs, evO, evT, evAll, evAny, evI, evG, evGs, bnd, ret, bad, ofO, ofAV, opr, oper, binM, unM, cmp2M, dataM, toD, frz, viewM, viewsM, view, rdSlot, rdVar, putSlot, modSlot, lenG, lenXs, binD, truD, biD, negD, oneInt, Cell.d, seqD, itemsD, enumD, zipD, seqL, rng2, rngTwo, rngD, slD, revD, isTy, lstAt, isDct, appC, subC, callM, refs_nil, refs_d, toArgs, toArg, set_own, setOuts, setOut, outsOf, outOf, args0, List.replicate, isin_tup, isin_lst, notin_tup, PX.eq_int, PX.ne_int, PX.eq_bl, PX.ne_bl, lt_i, le_i, gt_i, ge_i, Option.bind_some, Option.map_some, List.nil_append, List.cons_append, List.append_nil, List.getElem?_cons_zero, List.getElem?_cons_succ, List.set_cons_zero, List.set_cons_succ, List.length_cons, List.length_nil, allInt_ints, allBl_bls, Bool.not_true, Bool.not_false, Bool.and_true, Bool.true_and, Bool.false_and, Bool.and_false, Bool.or_true, Bool.true_or, Bool.or_false, Bool.false_or, Bool.false_eq_true, if_true, if_false, reduceIte, Nat.reduceAdd, Nat.reduceSub])
theorem plainL_bls (bs : List Bool) : plainL (bL bs) = true := by
  induction bs with
  | nil => rfl
  | cons x r ih => show (true && plainL (bL r)) = true; rw [ih]; rfl
theorem depthL_bls (bs : List Bool) : depthL (bL bs) = 0 := by
  induction bs with
  | nil => rfl
  | cons x r ih => show max 0 (depthL (bL r)) = 0; rw [ih]; rfl
theorem inD_bls (x : Bool) (bs : List Bool) : inD (.bl x) (bL bs) = decide (x ∈ bs) := by
  induction bs with
  | nil => rfl
  | cons y r ih =>
    show ((y == x) || inD (.bl x) (bL r)) = _
    rw [ih]
    by_cases h : y = x
    · subst h; simp
    · have : (y == x) = false := by simpa using h
      rw [this]
      simp [Ne.symm h]
theorem okB (x : Bool) (bs : List Bool) : (okEq (.bl x) && okEq (.lst (bL bs))) = true := by
  simp [okEq, D.plain, D.depth, plainL_bls, depthL_bls]
theorem isinB (x : Bool) (bs : List Bool) : cmpD .isin (.bl x) (.lst (bL bs)) = some (decide (x ∈ bs)) := by
  show (if (okEq (.bl x) && okEq (.lst (bL bs))) = true then some (inD (.bl x) (bL bs)) else none) = _
  rw [if_pos (okB x bs), inD_bls]
theorem notinB (x : Bool) (bs : List Bool) : cmpD .notin (.bl x) (.lst (bL bs)) = some (!decide (x ∈ bs)) := by
  show (if (okEq (.bl x) && okEq (.lst (bL bs))) = true then some (!inD (.bl x) (bL bs)) else none) = _
  rw [if_pos (okB x bs), inD_bls]
/-! ### plain parts -/
inductive Pl : Nat → D → Prop
  | str {n : Nat} (s : PySem.Str) : Pl n (.str s)
  | int {n : Nat} (i : Int) : Pl n (.int i)
  | tup {n : Nat} {ds : List D} (h : ∀ d ∈ ds, Pl n d) (hl : ds.length ≤ 100000) : Pl (n + 1) (.tup ds)
theorem r12p : ∀ (n k : Nat) (d : D), Pl n d → callT T (k + n + 1) 11 [.d d] = .ok (.d (.bl true)) [none] := by
  intro n k d h
  induction h with
  | str s => rfl
  | int i => rfl
  | @tup n ds h hl ih =>
    refine run_d (T := T) (cf := callT T (k + (n + 1))) (ds := [.tup ds]) (e := [.val (.tup ds), .non]) (a := .d (.bl true)) rfl ?_ rfl (by simp)
    show evSs T (callT T (k + (n + 1))) f11.body [.val (.tup ds), .non] = _
    unfold f11
    simp only [ss]
    have c12 : refsOf T 11 = [false] := rfl
    have hcomp : evA T (callT T (k + (n + 1))) (.comp [1] (.nm 1) (.seq (.var 0)) .nil (.call 11 (.cons (.var 1) .nil))) [.val (.tup ds), .non] = .ok (.new (.lst (bL (ds.map fun _ => true)))) [.val (.tup ds), .non] := by
      rw [ev_comp]
      refine (bnd_eq (a := ds) (e1 := [.val (.tup ds), .non]) (by walk_at "px")).trans ?_
      rw [compM_ok (own := [1]) (fun _ => some (.bl true)) rfl (fun x hx => ⟨[.val (.tup ds), .val x], ?_, rfl⟩) (by show _ ≤ 1000000; omega)]
      · congr 3
        clear ih h hl
        induction ds with
        | nil => rfl
        | cons y r ih => rw [List.filterMap_cons, ih]; rfl
      · have := ih x hx
        show turnM _ _ _ _ [.val (.tup ds), .non] = _
        unfold turnM
        walk_at "px"
        rw [c12]
        walk_at "px"
        rw [show k + (n + 1) = k + n + 1 from rfl, this]
        walk_at "px"
    refine seq_ret ((if_then (e1 := [.val (.tup ds), .non]) (by walk_at "px")).trans (seq_ret ?_))
    walk_at "px"
    rw [hcomp]
    walk_at "px"
    rw [notinB]
    walk_at "px"
    simp
/-! ### equal parts -/
inductive Sm : Nat → D → Prop
  | non {n : Nat} : Sm n .non
  | bl {n : Nat} (b : Bool) : Sm n (.bl b)
  | int {n : Nat} (i : Int) : Sm n (.int i)
  | str {n : Nat} (s : PySem.Str) (h : s.cps.all (· < 0x110000) = true) : Sm n (.str s)
  | tup {n : Nat} {ds : List D} (h : ∀ d ∈ ds, Sm n d) (hl : ds.length ≤ 100000) : Sm (n + 1) (.tup ds)
  | lst {n : Nat} {ds : List D} (h : ∀ d ∈ ds, Sm n d) (hl : ds.length ≤ 100000) : Sm (n + 1) (.lst ds)
theorem eqS (s : PySem.Str) (h : s.cps.all (· < 0x110000) = true) : cmpD .eq (.str s) (.str s) = some true := by
  have e : (okEq (.str s) && okEq (.str s)) = true := by
    simp only [okEq, D.plain, D.depth, Bool.and_eq_true, decide_eq_true_eq]
    exact ⟨⟨h, by simp⟩, ⟨h, by simp⟩⟩
  show (if (okEq (.str s) && okEq (.str s)) = true then some (deq (.str s) (.str s)) else none) = _
  rw [if_pos e]
  simp [deq]
theorem rng_n {cf : Cf} {e : Env} {es : Xs} (m : Nat) (n : Int) (hn : n = m) (hm : m ≤ 100000) (h : evL T cf es e = .ok [.int n] e) : evI T cf (.rng es) e = .ok ((List.range' 0 m).map fun (x : Nat) => D.int ((x : Nat) : Int)) e := by
  refine (bnd_eq h).trans ?_
  show (if (small 0 && small n) = true then (if (1 : Int) = 1 then ret (rngL 0 n) else if (1 : Int) = -1 then ret (rngDown 0 n) else bad) else bad) e = _
  rw [if_pos (show (small 0 && small n) = true by unfold small; simp only [Bool.and_eq_true, decide_eq_true_eq]; exact ⟨by decide, by omega, by omega⟩), if_pos rfl]
  unfold rngL
  rw [hn, ← List.range_eq_range', Int.sub_zero, Int.toNat_natCast]
  simp [ret]
theorem len_var {cf : Cf} {e : Env} {i : Nat} {A : D} {ds : List D} (he : e[i]? = some (.val A)) (hA : A = .tup ds ∨ A = .lst ds) : evA T cf (.bi .len (.cons (.var i) .nil)) e = .ok (.d (.int ds.length)) e := by
  rcases hA with rfl | rfl <;> simp only [v22, evAs, v0, rdVar, he, bnd, opr, oper, ret, viewsM, viewM, view, rdSlot, ofAV, biD, if_true]
theorem evL1 {cf : Cf} {e : Env} {x : X} {d : D} (h : evA T cf x e = .ok (.d d) e) : evL T cf (.cons x .nil) e = .ok [d] e := by
  show bnd (dataM (evA T cf x)) _ e = _
  rw [bnd_eq (show dataM (evA T cf x) e = .ok d e from by unfold dataM; rw [bnd_eq h]; rfl)]
  rfl
abbrev bodyQ : Ss := .cons (.ifs (.not (.val (.call 12 (.cons (.idx (.var 0) (.var 2)) (.cons (.idx (.var 1) (.var 2)) .nil))))) (.cons (.ret (.bl false)) .nil) .nil) .nil
theorem loopQ {m : Nat} (A : D) (ds : List D) (hA : A = .tup ds ∨ A = .lst ds) (hl : ds.length ≤ 100000) (ih : ∀ d ∈ ds, callT T (m + 1) 12 [.d d, .d d] = .ok (.d (.bl true)) [none, none]) :
    ∀ (j : Nat) (s2 : Slot), Free s2 → ∀ i, i + j = ds.length → ∃ s2', forLoop (evG T (callT T (m + 1)) (.nm 2)) (evSs T (callT T (m + 1)) bodyQ) ((List.range' i j).map fun (x : Nat) => D.int ((x : Nat) : Int)) [.val A, .val A, s2] = .ok .next [.val A, .val A, s2']
  | 0, s2, _, i, _ => ⟨s2, rfl⟩
  | j + 1, s2, h2, i, hi => by
    obtain ⟨s2', h⟩ := loopQ A ds hA hl ih j (.val (.int (i : Int))) (.inr ⟨_, rfl⟩) (i + 1) (by omega)
    refine ⟨s2', ?_⟩
    rw [List.range'_succ, List.map_cons]
    have hd : ds[i]? = some ds[i] := List.getElem?_eq_getElem (by omega)
    have hx : idxD A (.int (i : Int)) = some ds[i] := by
      rcases hA with rfl | rfl
      · exact (idx_at ds i _ hd).2
      · exact (idx_at ds i _ hd).1
    have c10 : refsOf T 12 = [false, false] := rfl
    refine (for_next (e1 := [.val A, .val A, .val (.int (i : Int))]) (by exact put_free (i := 2) (s := s2) rfl h2) (e2 := [.val A, .val A, .val (.int (i : Int))]) ?_).trans h
    walk_at "px"
    rw [c10]
    walk_at "px"
    rw [hx]
    walk_at "px"
    rw [hx]
    walk_at "px"
    rw [ih _ (List.mem_of_getElem? hd)]
    walk_at "px"
theorem r10s : ∀ (n k : Nat) (d : D), Sm n d → callT T (k + n + 1) 12 [.d d, .d d] = .ok (.d (.bl true)) [none, none] := by
  intro n k d h
  induction h with
  | non => rfl
  | bl b => cases b <;> rfl
  | int i =>
    rw [show callT T (k + _ + 1) 12 [.d (.int i), .d (.int i)] = _ from r10i _ i i]
    simp
  | str s h =>
    refine run_d (T := T) (ds := [.str s, .str s]) (e := [.val (.str s), .val (.str s), .non]) (a := .d (.bl true)) rfl ?_ rfl (by simp)
    show evSs T _ f12.body [.val (.str s), .val (.str s), .non] = _
    unfold f12
    simp only [ss]
    walk_at "px"
    rw [show cmpD .is (.str s) .non = some false from rfl]
    walk_at "px"
    rw [eqS s h]
    walk_at "px"
  | @tup n ds h hl ih =>
    obtain ⟨s2', hL⟩ := loopQ (m := k + n) (.tup ds) ds (.inl rfl) hl (fun d hd => ih d hd) ds.length .non (.inl rfl) 0 (by omega)
    refine run_d (T := T) (ds := [.tup ds, .tup ds]) (e := [.val (.tup ds), .val (.tup ds), s2']) (a := .d (.bl true)) rfl ?_ rfl (by simp)
    show evSs T (callT T (k + n + 1)) f12.body [.val (.tup ds), .val (.tup ds), .non] = _
    unfold f12
    simp only [ss]
    refine seq_ret ((if_then (e1 := [.val (.tup ds), .val (.tup ds), .non]) (by walk_at "px")).trans ?_)
    rw [seq_next (e1 := [.val (.tup ds), .val (.tup ds), .non]) (by walk_at "px"; rfl), seq_next (e1 := [.val (.tup ds), .val (.tup ds), .non]) (by walk_at "px"; simp; rfl)]
    have hr : evI T (callT T (k + n + 1)) (.rng (.cons (.bi .len (.cons (.var 1) .nil)) .nil)) [.val (.tup ds), .val (.tup ds), .non] = .ok ((List.range' 0 ds.length).map fun (x : Nat) => D.int ((x : Nat) : Int)) [.val (.tup ds), .val (.tup ds), .non] :=
      rng_n ds.length _ rfl hl (evL1 (len_var rfl (.inl rfl)))
    rw [seq_next ((for_it hr).trans hL)]
    walk_at "px"
  | @lst n ds h hl ih =>
    obtain ⟨s2', hL⟩ := loopQ (m := k + n) (.lst ds) ds (.inr rfl) hl (fun d hd => ih d hd) ds.length .non (.inl rfl) 0 (by omega)
    refine run_d (T := T) (ds := [.lst ds, .lst ds]) (e := [.val (.lst ds), .val (.lst ds), s2']) (a := .d (.bl true)) rfl ?_ rfl (by simp)
    show evSs T (callT T (k + n + 1)) f12.body [.val (.lst ds), .val (.lst ds), .non] = _
    unfold f12
    simp only [ss]
    refine seq_ret ((if_then (e1 := [.val (.lst ds), .val (.lst ds), .non]) (by walk_at "px")).trans ?_)
    rw [seq_next (e1 := [.val (.lst ds), .val (.lst ds), .non]) (by walk_at "px"; rfl), seq_next (e1 := [.val (.lst ds), .val (.lst ds), .non]) (by walk_at "px"; simp; rfl)]
    have hr : evI T (callT T (k + n + 1)) (.rng (.cons (.bi .len (.cons (.var 1) .nil)) .nil)) [.val (.lst ds), .val (.lst ds), .non] = .ok ((List.range' 0 ds.length).map fun (x : Nat) => D.int ((x : Nat) : Int)) [.val (.lst ds), .val (.lst ds), .non] :=
      rng_n ds.length _ rfl hl (evL1 (len_var rfl (.inr rfl)))
    rw [seq_next ((for_it hr).trans hL)]
    walk_at "px"
end PXk21

end
section
set_option Elab.async false
set_option linter.all false
set_option maxRecDepth 100000
set_option maxHeartbeats 8000000
namespace PXk21
open PX
local macro_rules | `(tactic| walk_at "px") => `(tactic| simp only [evSs, evS, v0, v1, v2, v3, v4, v5, v6, v7, v8, v9, v10, v11, v12, v13, v14, v15, v16, v17, v18, v19, v20, v21, v22, v23, v24, v25, v26, v27, evL, evAs, evO, evT, evAll, evAny, evI, evG, evGs, bnd, ret, bad, ofO, ofAV, opr, oper, binM, unM, cmp2M, dataM, toD, frz, viewM, viewsM, view, rdSlot, rdVar, putSlot, modSlot, lenG, lenXs, binD, truD, biD, negD, oneInt, Cell.d, seqD, itemsD, enumD, zipD, seqL, rng2, rngTwo, rngD, slD, revD, isTy, lstAt, isDct, appC, subC, callM, refs_nil, refs_d, toArgs, toArg, set_own, setOuts, setOut, outsOf, outOf, args0, List.replicate, isin_tup, isin_lst, notin_tup, PX.eq_int, PX.ne_int, PX.eq_bl, PX.ne_bl, lt_i, le_i, gt_i, ge_i, Option.bind_some, Option.map_some, List.nil_append, List.cons_append, List.append_nil, List.getElem?_cons_zero, List.getElem?_cons_succ, List.set_cons_zero, List.set_cons_succ, List.length_cons, List.length_nil, allInt_ints, allBl_bls, Bool.not_true, Bool.not_false, Bool.and_true, Bool.true_and, Bool.false_and, Bool.and_false, Bool.or_true, Bool.true_or, Bool.or_false, Bool.false_or, Bool.false_eq_true, if_true, if_false, reduceIte, Nat.reduceAdd, Nat.reduceSub])
/-! ### a number of a claim is touched -/
def TI (i j : Int) : Prop := j = i + 1 ∨ j = i - 1 ∨ j = i + 2 ∨ j = 0 ∨ j = 2 * i ∨ j = -i ∨ j = i + 1000000000000
inductive Tch : D → D → Prop
  | int {i j : Int} (h : TI i j) : Tch (.int i) (.int j)
  | tup {pre post : List D} {d d' : D} (h : Tch d d') : Tch (.tup (pre ++ d :: post)) (.tup (pre ++ d' :: post))
  | same : Tch (.tup []) (.tup [])
inductive Nt : Nat → D → Prop
  | int {n : Nat} (i : Int) : Nt n (.int i)
  | tup {n : Nat} {ds : List D} (h : ∀ d ∈ ds, Nt n d) (hl : ds.length ≤ 1000) : Nt (n + 1) (.tup ds)
theorem sEnd_some (n d : Nat) (j : Nat) (h : j ≤ n) : sEnd n d (some (j : Int)) = j := by
  show (if (j : Int) < 0 then ((j : Int) + n).toNat else min (j : Int).toNat n) = j
  rw [if_neg (by omega), Int.toNat_natCast]
  omega
theorem cut_take (ds : List D) (j : Nat) (h : j ≤ ds.length) : cutD ds none (some (j : Int)) = ds.take j := by
  unfold cutD
  rw [sEnd_some _ _ j h]
  show (ds.drop 0).take (j - 0) = _
  rw [List.drop_zero, Nat.sub_zero]
theorem cut_drop (ds : List D) (j : Nat) (h : j ≤ ds.length) : cutD ds (some (j : Int)) none = ds.drop j := by
  unfold cutD
  rw [sEnd_some _ _ j h]
  show (ds.drop j).take (ds.length - j) = _
  rw [List.take_of_length_le (by simp)]
theorem split_at {ds : List D} {j : Nat} {d : D} (h : ds[j]? = some d) : ds = ds.take j ++ d :: ds.drop (j + 1) := by
  have hj := (List.getElem?_eq_some_iff.mp h).1
  have e := (List.getElem?_eq_some_iff.mp h).2
  rw [← e, ← List.drop_eq_getElem_cons hj, List.take_append_drop]
theorem run_c1 {cf : Cf} {fd : Fd} {c c' : Cell} {d : D} {s1 : Slot} {e' : Env} {a : AV} {o : Out} (hps : fd.ps.length = 2) (h : evSs T cf fd.body ([.bor c, .val d] ++ List.replicate (fd.N.length - 2) .non) = .ok (.ret a) (.bor c' :: s1 :: e')) (ho : outOf (.bor c' :: s1 :: e') a = some o) :
    runFd T cf fd [.c c, .d d] = .ok o [some c', none] := by
  unfold runFd
  rw [if_pos (show [Arg.c c, Arg.d d].length = fd.ps.length by rw [hps]; rfl)]
  have e0 : args0 [Arg.c c, Arg.d d] ++ List.replicate (fd.N.length - [Arg.c c, Arg.d d].length) Slot.non = [.bor c, .val d] ++ List.replicate (fd.N.length - 2) .non := rfl
  rw [e0, h]
  dsimp only
  rw [show outsOf [Arg.c c, Arg.d d] (.bor c' :: s1 :: e') = some [some c', none] from rfl]
  dsimp only
  rw [ho]
theorem pow12 : (10 : Int) ^ (12 : Int).toNat = 1000000000000 := by decide
theorem r1t : ∀ (n k : Nat) (d : D), Nt n d → ∀ (c : Cell), PoolOk c → ∃ d' c', Tch d d' ∧ PoolOk c' ∧ callT T (k + n + 2) 1 [.c c, .d d] = .ok (.d d') [some c', none] := by
  intro n k d h
  have c15 : refsOf T 16 = [true, false] := rfl
  have c1 : refsOf T 1 = [true, false] := rfl
  induction h with
  | @int n i =>
    intro c hc
    obtain ⟨v, c', v1, v2, v3, v4⟩ := r18 (k + n) c hc 7 (by decide) (by decide)
    have hp : (if (0 : Int) ≤ 12 ∧ (12 : Int) ≤ 1000000 ∧ (10 : Int).natAbs < 2 ^ 64 then some (AV.d (D.int ((10 : Int) ^ (12 : Int).toNat))) else none) = some (.d (.int 1000000000000)) := by
      rw [if_pos ⟨by decide, by decide, by decide⟩, pow12]
    have hb : ∃ j, TI i (i + j) ∧ idxD (.tup [.int 1, .int (0 - 1), .int 2, .int (0 - i), .int i, .int (0 - 2 * i), .int 1000000000000]) (.int v) = some (.int j) := by
      unfold TI
      have : v = 0 ∨ v = 1 ∨ v = 2 ∨ v = 3 ∨ v = 4 ∨ v = 5 ∨ v = 6 := by omega
      rcases this with rfl | rfl | rfl | rfl | rfl | rfl | rfl
      · exact ⟨1, by omega, rfl⟩
      · exact ⟨0 - 1, by omega, rfl⟩
      · exact ⟨2, by omega, rfl⟩
      · exact ⟨0 - i, by omega, rfl⟩
      · exact ⟨i, by omega, rfl⟩
      · exact ⟨0 - 2 * i, by omega, rfl⟩
      · exact ⟨1000000000000, by omega, rfl⟩
    obtain ⟨j, hj, hx⟩ := hb
    refine ⟨.int (i + j), c', .int hj, v3, ?_⟩
    have hs : evSs T (callT T (k + n + 1)) f1.body [.bor c, .val (.int i), .non] = .ok (.ret (.d (.int (i + j)))) [.bor c', .val (.int i), .non] := by
      unfold f1
      simp only [ss]
      rw [seq_next (e1 := [.bor c, .val (.int i), .non]) (by walk_at "px")]
      refine seq_ret ((if_then (e1 := [.bor c, .val (.int i), .non]) (by walk_at "px")).trans (seq_ret ?_))
      walk_at "px"
      rw [if_pos (by unfold mulOk; simp)]
      walk_at "px"
      rw [hp]
      walk_at "px"
      rw [if_pos (by decide)]
      walk_at "px"
      rw [c15]
      walk_at "px"
      rw [show refsOk _ [.slot 0, .d (.int 7)] [] = true from rfl]
      walk_at "px"
      rw [v4]
      walk_at "px"
      rw [hx]
      walk_at "px"
    exact run_c1 rfl hs rfl
  | @tup n ds h hl ih =>
    intro c hc
    cases hds : ds with
    | nil =>
      refine ⟨.tup [], c, .same, hc, ?_⟩
      have hs : evSs T (callT T (k + (n + 1) + 1)) f1.body [.bor c, .val (.tup []), .non] = .ok (.ret (.slot 1)) [.bor c, .val (.tup []), .non] := by
        unfold f1
        simp only [ss]
        rw [seq_next (e1 := [.bor c, .val (.tup []), .non]) (by walk_at "px"; rfl), seq_next (e1 := [.bor c, .val (.tup []), .non]) (by walk_at "px")]
        exact seq_ret (by walk_at "px")
      exact run_c1 rfl hs rfl
    | cons y ys =>
      rw [← hds]
      have hpos : 0 < ds.length := by rw [hds]; simp
      obtain ⟨v, c1', v1, v2, v3, v4⟩ := r18 (k + n + 1) c hc (ds.length : Int) (by omega) (by omega)
      obtain ⟨j, rfl⟩ : ∃ j : Nat, v = j := ⟨v.toNat, by omega⟩
      have hj : j < ds.length := by omega
      have hd : ds[j]? = some ds[j] := List.getElem?_eq_getElem hj
      obtain ⟨d', c2, t1, t2, t3⟩ := ih _ (List.mem_of_getElem? hd) c1' v3
      refine ⟨.tup (ds.take j ++ d' :: ds.drop (j + 1)), c2, ?_, t2, ?_⟩
      · have := Tch.tup (pre := ds.take j) (post := ds.drop (j + 1)) t1
        rw [← split_at hd] at this
        exact this
      · have hs : evSs T (callT T (k + (n + 1) + 1)) f1.body [.bor c, .val (.tup ds), .non] = .ok (.ret (.d (.tup (ds.take j ++ d' :: ds.drop (j + 1))))) [.bor c2, .val (.tup ds), .val (.int j)] := by
          unfold f1
          simp only [ss]
          refine seq_ret ((if_then (e1 := [.bor c, .val (.tup ds), .non]) ?_).trans ?_)
          · walk_at "px"
            rw [decide_eq_true (by omega)]
            rfl
          · rw [seq_next (e1 := [.bor c1', .val (.tup ds), .val (.int j)]) ?_]
            · refine seq_ret ?_
              walk_at "px"
              rw [cut_take ds j (by omega), c1]
              walk_at "px"
              rw [(idx_at ds j _ hd).2]
              walk_at "px"
              rw [show refsOk _ [.slot 0, .d ds[j]] [] = true from rfl]
              walk_at "px"
              rw [show k + (n + 1) + 1 = k + n + 2 from rfl, t3]
              walk_at "px"
              rw [if_pos (by decide)]
              walk_at "px"
              rw [if_pos (by rw [List.length_take]; show _ ≤ 1000000; omega)]
              walk_at "px"
              rw [show ((j : Int) + 1) = ((j + 1 : Nat) : Int) by omega, cut_drop ds (j + 1) (by omega), if_pos (by simp; show _ ≤ 1000000; omega)]
              walk_at "px"
              simp
            · walk_at "px"
              rw [c15]
              walk_at "px"
              rw [show refsOk _ [.slot 0, .d (.int (ds.length : Int))] [] = true from rfl]
              walk_at "px"
              rw [show k + (n + 1) + 1 = k + n + 1 + 1 from rfl, v4]
              walk_at "px"
        exact run_c1 rfl hs rfl
def tT (p : List Int) : D := .tup (iL p)
def dsOf : D → List D
  | .tup ds => ds
  | _ => []
theorem tch_tup {ds : List D} {d' : D} (h : Tch (.tup ds) d') : (ds = [] ∧ d' = .tup []) ∨ ∃ pre d post e, ds = pre ++ d :: post ∧ d' = .tup (pre ++ e :: post) ∧ Tch d e := by
  cases h with
  | tup h => exact .inr ⟨_, _, _, _, rfl, rfl, h⟩
  | same => exact .inl ⟨rfl, rfl⟩
theorem tch_map {α : Type} {f : α → D} {P : α → α → Prop} (hf : ∀ a e, Tch (f a) e → ∃ b, e = f b ∧ P a b) {xs : List α} {d' : D} (h : Tch (.tup (xs.map f)) d') :
    ∃ ys : List α, d' = .tup (ys.map f) ∧ ys.length = xs.length ∧ ∀ y ∈ ys, y ∈ xs ∨ ∃ x ∈ xs, P x y := by
  rcases tch_tup h with ⟨h1, h2⟩ | ⟨pre, d, post, e, h1, h2, h3⟩
  · have : xs = [] := by simpa using h1
    subst this
    exact ⟨[], h2, rfl, by simp⟩
  · obtain ⟨a, r, rfl, rfl, hr⟩ := List.map_eq_append_iff.mp h1
    obtain ⟨x, b, rfl, rfl, rfl⟩ := List.map_eq_cons_iff.mp hr
    obtain ⟨y, rfl, hy⟩ := hf x e h3
    refine ⟨a ++ y :: b, by rw [h2]; simp, by simp, fun z hz => ?_⟩
    rcases List.mem_append.mp hz with hz | hz
    · exact .inl (by simp [hz])
    · rcases List.mem_cons.mp hz with rfl | hz
      · exact .inr ⟨x, by simp, hy⟩
      · exact .inl (by simp [hz])
theorem tch_int {i : Int} {e : D} (h : Tch (.int i) e) : ∃ j, e = .int j ∧ TI i j := by
  cases h with
  | int h => exact ⟨_, rfl, h⟩
theorem tch_ints {xs : List Int} {d' : D} (h : Tch (.tup (iL xs)) d') : ∃ ys, d' = .tup (iL ys) ∧ ys.length = xs.length := by
  obtain ⟨ys, h1, h2, _⟩ := tch_map (f := D.int) (P := TI) (fun a e h => tch_int h) h
  exact ⟨ys, h1, h2⟩
theorem tch_tups {ls : List (List Int)} {d' : D} (h : Tch (.tup (ls.map tT)) d') : ∃ ms : List (List Int), d' = .tup (ms.map tT) ∧ ms.length = ls.length ∧ ∀ m ∈ ms, ∃ l ∈ ls, m.length = l.length := by
  obtain ⟨ys, h1, h2, h3⟩ := tch_map (f := tT) (P := fun l m => m.length = l.length) (fun a e h => tch_ints h) h
  refine ⟨ys, h1, h2, fun m hm => ?_⟩
  rcases h3 m hm with h | ⟨l, hl, h⟩
  · exact ⟨m, h, rfl⟩
  · exact ⟨l, hl, h⟩
theorem tch_is {ds : List D} {d' : D} (h : Tch (.tup ds) d') : ∃ es, d' = .tup es ∧ es.length = ds.length := by
  rcases tch_tup h with ⟨rfl, rfl⟩ | ⟨pre, d, post, e, rfl, rfl, _⟩
  · exact ⟨[], rfl, rfl⟩
  · exact ⟨_, rfl, by simp⟩
theorem nt_ints (n : Nat) (xs : List Int) (h : xs.length ≤ 1000) : Nt (n + 1) (.tup (iL xs)) := .tup (fun d hd => by
  obtain ⟨i, _, rfl⟩ := List.mem_map.mp hd
  exact .int i) (by rw [ints_length]; exact h)
end PXk21

end
section
set_option Elab.async false
set_option linter.all false
set_option maxRecDepth 100000
set_option maxHeartbeats 8000000
namespace PXk21
open PX
local macro_rules | `(tactic| walk_at "px") => `(tactic| simp only [evSs, evS, v0, v1, v2, v3, v4, v5, v6, v7, v8, v9, v10, v11, v12, v13, v14, v15, v16, v17, v18, v19, v20, v21, v22, v23, v24, v25, v26, v27, evL, evAs, evO, evT, evAll, evAny, evI, evG, evGs, bnd, ret, bad, ofO, ofAV, opr, oper, binM, unM, cmp2M, dataM, toD, frz, viewM, viewsM, view, rdSlot, rdVar, putSlot, modSlot, lenG, lenXs, binD, truD, biD, negD, oneInt, Cell.d, seqD, itemsD, enumD, zipD, seqL, rng2, rngTwo, rngD, slD, revD, isTy, lstAt, isDct, appC, subC, callM, refs_nil, refs_d, toArgs, toArg, set_own, setOuts, setOut, outsOf, outOf, args0, List.replicate, isin_tup, isin_lst, notin_tup, PX.eq_int, PX.ne_int, PX.eq_bl, PX.ne_bl, lt_i, le_i, gt_i, ge_i, Option.bind_some, Option.map_some, List.nil_append, List.cons_append, List.append_nil, List.getElem?_cons_zero, List.getElem?_cons_succ, List.set_cons_zero, List.set_cons_succ, List.length_cons, List.length_nil, allInt_ints, allBl_bls, Bool.not_true, Bool.not_false, Bool.and_true, Bool.true_and, Bool.false_and, Bool.and_false, Bool.or_true, Bool.true_or, Bool.or_false, Bool.false_or, Bool.false_eq_true, if_true, if_false, reduceIte, Nat.reduceAdd, Nat.reduceSub])
/-! ### comprehensions of one name -/
theorem asg_turn {T : Tab} {cf : Cf} {e : Env} {i : Nat} {d : D} (hp : plainSlot e i = true) : evG T cf (.nm i) d (wipeE [i] e) = .ok () (e.set i (.val d)) := by
  have hi : i < e.length := by
    unfold plainSlot at hp
    cases h : e[i]? with
    | none => rw [h] at hp; cases hp
    | some s => exact (List.getElem?_eq_some_iff.mp h).1
  show putSlot i (.d d) (e.set i .non) = _
  unfold putSlot
  rw [List.getElem?_set_self hi]
  simp
theorem wipe_set {e : Env} {i : Nat} {s : Slot} : wipeE [i] (e.set i s) = wipeE [i] e := by
  show (e.set i s).set i .non = e.set i .non
  simp
theorem comp_d {T : Tab} {cf : Cf} {it : It} {elt : X} {e e' : Env} {i : Nat} {xs : List D} (g : D → D) (hi : evI T cf it e = .ok xs e') (hp : plainSlot e' i = true) (hl : xs.length ≤ SZ)
    (hf : ∀ x ∈ xs, dataM (evA T cf elt) (e'.set i (.val x)) = .ok (g x) (e'.set i (.val x))) :
    evA T cf (.comp [i] (.nm i) it .nil elt) e = .ok (.new (.lst (xs.map g))) e' := by
  rw [ev_comp, bnd_eq hi, compM_ok (own := [i]) (fun x => some (g x)) (by simpa using hp) (fun x hx => ?_) hl]
  · simp
  · refine ⟨e'.set i (.val x), ?_, wipe_set⟩
    unfold turnM
    rw [bnd_eq (asg_turn hp)]
    show bnd (evAll T cf .nil) _ _ = _
    rw [bnd_eq (show evAll T cf .nil _ = .ok true _ from rfl), if_pos rfl]
    rw [bnd_eq (hf x hx)]
    rfl
theorem comp_bl {T : Tab} {cf : Cf} {it : It} {elt : X} {e e' : Env} {i : Nat} {ns : List Int} (g : Int → Bool) (hi : evI T cf it e = .ok (iL ns) e') (hp : plainSlot e' i = true) (hl : ns.length ≤ SZ)
    (hf : ∀ n ∈ ns, evA T cf elt (e'.set i (.val (.int n))) = .ok (.d (.bl (g n))) (e'.set i (.val (.int n)))) :
    evA T cf (.comp [i] (.nm i) it .nil elt) e = .ok (.new (.lst (bL (ns.map g)))) e' := by
  rw [comp_d (fun d => match d with | .int n => .bl (g n) | d => d) hi hp (by simpa using hl) (fun x hx => ?_)]
  · unfold iL bL; simp
  · obtain ⟨n, hn, rfl⟩ := List.mem_map.mp hx
    unfold dataM
    rw [bnd_eq (hf n hn)]
    rfl
theorem comp_fl {T : Tab} {cf : Cf} {it : It} {t : Te} {e e' : Env} {i : Nat} {ns : List Int} (p : Int → Bool) (hi : evI T cf it e = .ok (iL ns) e') (hp : plainSlot e' i = true) (hl : ns.length ≤ SZ)
    (hf : ∀ n ∈ ns, evT T cf t (e'.set i (.val (.int n))) = .ok (p n) (e'.set i (.val (.int n)))) (hii : i < e'.length) :
    evA T cf (.comp [i] (.nm i) it (.cons t .nil) (.var i)) e = .ok (.new (.lst (iL (ns.filter p)))) e' := by
  refine (comp_map (own := [i]) D.int p hi (by simpa using hp) hl fun n hn => ⟨e'.set i (.val (.int n)), ?_, wipe_set⟩).trans rfl
  unfold turnM
  rw [bnd_eq (asg_turn hp)]
  have h1 : evAll T cf (.cons t .nil) (e'.set i (.val (.int n))) = .ok (p n) (e'.set i (.val (.int n))) := by
    show bnd (evT T cf t) _ _ = _
    rw [bnd_eq (hf n hn)]
    cases p n <;> rfl
  rw [bnd_eq h1]
  cases p n with
  | false => rfl
  | true =>
    rw [if_pos rfl, if_pos rfl]
    have h2 : dataM (evA T cf (.var i)) (e'.set i (.val (.int n))) = .ok (.int n) (e'.set i (.val (.int n))) := by
      unfold dataM
      have : evA T cf (.var i) (e'.set i (.val (.int n))) = .ok (.slot i) (e'.set i (.val (.int n))) := by
        show rdVar i _ = _
        unfold rdVar
        rw [List.getElem?_set_self hii]
      rw [bnd_eq this]
      show frz i _ = _
      unfold frz
      rw [List.getElem?_set_self hii]
    rw [bnd_eq h2]
    rfl
/-! ### what is right -/
theorem any_c {cf : Cf} {a : Te} {r : Tes} {e : Env} {x y : Bool} (h : evT T cf a e = .ok x e) (h2 : x = false → evAny T cf r e = .ok y e) : evAny T cf (.cons a r) e = .ok (x || y) e := by
  show bnd (evT T cf a) _ e = _
  rw [bnd_eq h]
  cases x with
  | true => rfl
  | false => exact h2 rfl
theorem any_n {cf : Cf} {e : Env} : evAny T cf .nil e = .ok false e := rfl
theorem all_c {cf : Cf} {a : Te} {r : Tes} {e : Env} {x y : Bool} (h : evT T cf a e = .ok x e) (h2 : x = true → evAll T cf r e = .ok y e) : evAll T cf (.cons a r) e = .ok (x && y) e := by
  show bnd (evT T cf a) _ e = _
  rw [bnd_eq h]
  cases x with
  | false => rfl
  | true => exact h2 rfl
theorem all_n {cf : Cf} {e : Env} : evAll T cf .nil e = .ok true e := rfl
theorem guard {cf : Cf} {c : Te} {r : Ss} {e : Env} {x B : Bool} (h : evT T cf c e = .ok x e) (he : 1 ≤ e.length) (h2 : x = false → ∃ e', evSs T cf r e = .ok (.ret (.d (.bl B))) e' ∧ 1 ≤ e'.length) :
    ∃ e', evSs T cf (.cons (.ifs c (.cons (.ret (.bl false)) .nil) .nil) r) e = .ok (.ret (.d (.bl (!x && B)))) e' ∧ 1 ≤ e'.length := by
  cases x with
  | true => exact ⟨e, seq_ret ((if_then h).trans rfl), he⟩
  | false =>
    obtain ⟨e', g, g2⟩ := h2 rfl
    exact ⟨e', by rw [seq_next ((if_else h).trans rfl)]; exact g, g2⟩
theorem neNil (l : List Int) : cmpD .ne (.tup (iL l)) (.tup []) = some (!l.isEmpty) ∧ cmpD .ne (.lst (iL l)) (.lst []) = some (!l.isEmpty) := by
  have e1 : (okEq (.tup (iL l)) && okEq (.tup [])) = true := by simp [okEq, D.plain, D.depth, plainL_ints, depthL_ints, plainL, depthL]
  have e2 : (okEq (.lst (iL l)) && okEq (.lst [])) = true := by simp [okEq, D.plain, D.depth, plainL_ints, depthL_ints, plainL, depthL]
  constructor
  · show (if (okEq (.tup (iL l)) && okEq (.tup [])) = true then some (!deq (.tup (iL l)) (.tup [])) else none) = _
    rw [if_pos e1]
    cases l <;> rfl
  · show (if (okEq (.lst (iL l)) && okEq (.lst [])) = true then some (!deq (.lst (iL l)) (.lst [])) else none) = _
    rw [if_pos e2]
    cases l <;> rfl
theorem false_in (p : Int → Bool) (xs : List Int) : decide (false ∈ xs.map p) = !xs.all p := by
  induction xs with
  | nil => rfl
  | cons x r ih =>
    rw [List.map_cons, List.all_cons]
    cases h : p x with
    | false => simp
    | true =>
      have : decide (false ∈ true :: List.map p r) = decide (false ∈ List.map p r) := by simp
      rw [this, ih]; rfl
theorem true_in (p : Int → Bool) (xs : List Int) : decide (true ∈ xs.map fun x => !p x) = !xs.all p := by
  induction xs with
  | nil => rfl
  | cons x r ih =>
    rw [List.map_cons, List.all_cons]
    cases h : p x with
    | false => simp
    | true =>
      have : decide (true ∈ (!true) :: List.map (fun x => !p x) r) = decide (true ∈ List.map (fun x => !p x) r) := by simp
      rw [this, ih]; rfl
theorem all_map (p : Int → Bool) (xs : List Int) : (xs.map p).all id = xs.all p := by
  induction xs with
  | nil => rfl
  | cons x r ih => simp
theorem all_false (bs : List Bool) : (!decide (false ∈ bs)) = bs.all id := by
  induction bs with
  | nil => rfl
  | cons x r ih => cases x <;> simp_all
theorem notin_comp {cf : Cf} {e e' : Env} {x : X} {bs : List Bool} (h : evA T cf x e = .ok (.new (.lst (bL bs))) e') : evA T cf (.cmp .notin (.bl false) x) e = .ok (.d (.bl (bs.all id))) e' := by
  walk_at "px"
  rw [h]
  walk_at "px"
  rw [notinB, all_false]
  walk_at "px"
theorem mul2 (v : Int) : mulOk 2 v = true := by unfold mulOk; simp
theorem if_no {cf : Cf} {c : Te} {b : Ss} {e : Env} (h : evT T cf c e = .ok false e) : evS T cf (.ifs c b .nil) e = .ok .next e := by
  rw [if_else h]; rfl
theorem idx0 (x : D) (r : List D) : idxD (.tup (x :: r)) (.int 0) = some x := (idx_at (x :: r) 0 x rfl).2
theorem eqNil (l : List Int) : cmpD .eq (.tup (iL l)) (.tup []) = some l.isEmpty := by
  have e1 : (okEq (.tup (iL l)) && okEq (.tup [])) = true := by simp [okEq, D.plain, D.depth, plainL_ints, depthL_ints, plainL, depthL]
  show (if (okEq (.tup (iL l)) && okEq (.tup [])) = true then some (deq (.tup (iL l)) (.tup [])) else none) = _
  rw [if_pos e1]
  cases l <;> rfl
theorem deq_ints (l : List Int) : deqL (iL l) (iL l) = true := by
  induction l with
  | nil => rfl
  | cons x r ih => show ((x == x) && deqL (iL r) (iL r)) = true; rw [ih]; simp
theorem neStr (a b : String) (h : (PySem.Str.ofString a).cps.all (· < 0x110000) = true) (h2 : (PySem.Str.ofString b).cps.all (· < 0x110000) = true) : cmpD .ne (.str (PySem.Str.ofString a)) (.str (PySem.Str.ofString b)) = some (!decide (PySem.Str.ofString a = PySem.Str.ofString b)) := by
  have e : (okEq (.str (PySem.Str.ofString a)) && okEq (.str (PySem.Str.ofString b))) = true := by
    simp only [okEq, D.plain, D.depth, Bool.and_eq_true, decide_eq_true_eq]
    exact ⟨⟨h, by simp⟩, ⟨h2, by simp⟩⟩
  show (if (okEq (.str (PySem.Str.ofString a)) && okEq (.str (PySem.Str.ofString b))) = true then some (!deq _ _) else none) = _
  rw [if_pos e]; rfl
theorem rngL_cons (a b : Int) (h : a < b) : rngL a b = .int a :: rngL (a + 1) b := by
  unfold rngL
  have e : (b - a).toNat = (b - (a + 1)).toNat + 1 := by omega
  rw [e, List.range_succ_eq_map, List.map_cons, List.map_map]
  congr 1
  · simp
  · apply List.map_congr_left
    intro x _
    simp only [Function.comp_apply]
    congr 1
    omega
theorem rngL_nil (a b : Int) (h : b ≤ a) : rngL a b = [] := by
  unfold rngL
  have e : (b - a).toNat = 0 := by omega
  rw [e]; rfl

theorem rng_var {cf : Cf} {e : Env} {i : Nat} {m : Int} (he : e[i]? = some (.val (.int m))) (h : small m = true) : evI T cf (.rng (.cons (.var i) .nil)) e = .ok (rngL 0 m) e := by
  have h1 : evL T cf (.cons (.var i) .nil) e = .ok [.int m] e := by
    show bnd (dataM (rdVar i)) _ e = _
    have h2 : dataM (rdVar i) e = .ok (.int m) e := by
      unfold dataM rdVar
      simp only [bnd, he, toD, frz]
    rw [bnd_eq h2]
    rfl
  refine (bnd_eq h1).trans ?_
  show (if (small 0 && small m) = true then (if (1 : Int) = 1 then ret (rngL 0 m) else if (1 : Int) = -1 then ret (rngDown 0 m) else bad) else bad) e = _
  rw [if_pos (by rw [h]; rfl), if_pos rfl]
  rfl

theorem sum_le_of {M : Int} : ∀ {rs : List Int}, (∀ r ∈ rs, 0 ≤ r ∧ r ≤ M) → 0 ≤ rs.sum ∧ rs.sum ≤ M * rs.length
  | [], _ => by simp
  | r :: rs, h => by
    have h0 := h r List.mem_cons_self
    have ih := sum_le_of (rs := rs) fun x hx => h x (List.mem_cons_of_mem _ hx)
    rw [List.sum_cons, List.length_cons]
    have : M * ((rs.length + 1 : Nat) : Int) = M * rs.length + M := by
      rw [Int.natCast_add, Int.mul_add]; simp
    omega
end PXk21

end
section
set_option Elab.async false
set_option linter.all false
set_option maxRecDepth 100000
set_option maxHeartbeats 4000000
namespace PXk21
open PX
local macro_rules | `(tactic| walk_at "px") => `(tactic| simp only [evSs, evS, v0, v1, v2, v3, v4, v5, v6, v7, v8, v9, v10, v11, v12, v13, v14, v15, v16, v17, v18, v19, v20, v21, v22, v23, v24, v25, v26, v27, evL, evAs, evO, evT, evAll, evAny, evI, evG, evGs, bnd, ret, bad, ofO, ofAV, opr, oper, binM, unM, cmp2M, dataM, toD, frz, viewM, viewsM, view, rdSlot, rdVar, putSlot, modSlot, lenG, lenXs, binD, truD, biD, negD, oneInt, Cell.d, seqD, itemsD, enumD, zipD, seqL, rng2, rngTwo, rngD, slD, revD, isTy, lstAt, isDct, appC, subC, callM, refs_nil, refs_d, toArgs, toArg, set_own, setOuts, setOut, outsOf, outOf, args0, List.replicate, isin_tup, isin_lst, notin_tup, PX.eq_int, PX.ne_int, PX.eq_bl, PX.ne_bl, lt_i, le_i, gt_i, ge_i, Option.bind_some, Option.map_some, List.nil_append, List.cons_append, List.append_nil, List.getElem?_cons_zero, List.getElem?_cons_succ, List.set_cons_zero, List.set_cons_succ, List.length_cons, List.length_nil, allInt_ints, allBl_bls, Bool.not_true, Bool.not_false, Bool.and_true, Bool.true_and, Bool.false_and, Bool.and_false, Bool.or_true, Bool.true_or, Bool.or_false, Bool.false_or, Bool.false_eq_true, if_true, if_false, reduceIte, Nat.reduceAdd, Nat.reduceSub])
def Sg (ss rs : List Int) : Prop := ss.length = rs.length ∧ ∀ s ∈ ss, Sgn s
theorem r0L (k : Nat) (s : List Int) (r : Int) (hl : s.length ≤ 2000) : callT T (k + 1) 3 [.d (.tup (iL s)), .d (.int r)] = .ok (.d (.tup (iL (sums s r)))) [none, none] := by
  show runFd T (callT T k) f3 _ = _
  unfold runFd f3
  simp only [List.length_cons, List.length_nil, if_true, args0, List.replicate, List.cons_append, List.nil_append, ss, Nat.reduceSub, Nat.reduceAdd]
  have h1 : evA T (callT T k) (.comp [2] (.nm 2) (.seq (.var 0)) .nil (.bin .add (.var 2) (.var 1))) [.val (.tup (iL s)), .val (.int r), .non] = .ok (.new (.lst ((s.filter fun _ => true).map fun n => D.int (n + r)))) [.val (.tup (iL s)), .val (.int r), .non] := by
    refine comp_map (fun n => .int (n + r)) (fun _ => true) (e' := [.val (.tup (iL s)), .val (.int r), .non]) ?_ rfl (by show s.length ≤ 1000000; omega) fun n _ => ⟨[.val (.tup (iL s)), .val (.int r), .val (.int n)], ?_, rfl⟩
    · walk_at "px"
    · show turnM _ _ _ _ [.val (.tup (iL s)), .val (.int r), .non] = _
      unfold turnM; walk_at "px"
  have h2 : evA T (callT T k) (.comp [2] (.nm 2) (.seq (.var 0)) .nil (.bin .sub (.var 2) (.var 1))) [.val (.tup (iL s)), .val (.int r), .non] = .ok (.new (.lst ((s.filter fun _ => true).map fun n => D.int (n - r)))) [.val (.tup (iL s)), .val (.int r), .non] := by
    refine comp_map (fun n => .int (n - r)) (fun _ => true) (e' := [.val (.tup (iL s)), .val (.int r), .non]) ?_ rfl (by show s.length ≤ 1000000; omega) fun n _ => ⟨[.val (.tup (iL s)), .val (.int r), .val (.int n)], ?_, rfl⟩
    · walk_at "px"
    · show turnM _ _ _ _ [.val (.tup (iL s)), .val (.int r), .non] = _
      unfold turnM; walk_at "px"
  walk_at "px"
  rw [h1]
  walk_at "px"
  rw [h2]
  walk_at "px"
  have e1 : (s.filter fun _ => true) = s := List.filter_eq_self.mpr (by simp)
  have e3 : (List.map (fun n => D.int (n + r)) s ++ List.map (fun n => D.int (n - r)) s) = iL (s.map (· + r) ++ s.map (· - r)) := by simp [iL, Function.comp_def]
  rw [e1]
  have hz : (List.map (fun n => D.int (n + r)) s).length + (List.map (fun n => D.int (n - r)) s).length ≤ SZ := by simp; show s.length + s.length ≤ 1000000; omega
  rw [if_pos hz]
  walk_at "px"
  rw [e3, allInt_ints]
  walk_at "px"
  have h4 : (s.map (· + r) ++ s.map (· - r)).length ≤ 4000 := by simp; omega
  rw [if_pos h4]
  walk_at "px"
  rfl
theorem r3L (k : Nat) (ns : List Int) (hr : areRods ns = true) (hl : ns.length ≤ SZ) : callT T (k + 2) 4 [.d (.lst (iL ns))] = .ok (.d (.tup (iL ns))) [none] := by
  have c1 : refsOf T 0 = [false] := rfl
  have h := r1 k ns hl
  rw [hr] at h
  show runFd T (callT T (k + 1)) f4 _ = _
  unfold runFd f4
  simp only [List.length_cons, List.length_nil, if_true, args0, List.replicate, List.cons_append, List.nil_append, ss, Nat.reduceSub, Nat.reduceAdd]
  walk_at "px"
  rw [c1]
  walk_at "px"
  rw [h]
  walk_at "px"
theorem r6L (k : Nat) (rods : List Int) (hr : areRods rods = true) : (∃ (j : Nat) (r : Int), rods[j]? = some r ∧ rods.sum < 2 * r ∧ callT T (k + 3) 15 [.d (.lst (iL rods))] = .ok (.d (.tup [.str "gapes", .tup (iL rods), .int j])) [none]) ∨
    ((∀ r ∈ rods, 2 * r ≤ rods.sum) ∧ callT T (k + 3) 15 [.d (.lst (iL rods))] = .ok (.d (.tup [.str "closes", .tup (iL rods)])) [none]) := by
  obtain ⟨n1, n2, n3⟩ := rods_of hr
  have hlr : rods.length ≤ SZ := by show _ ≤ 1000000; omega
  have c3 : refsOf T 4 = [false] := rfl
  have q1 : evS T (callT T (k + 2)) (.asg (.nm 0) (.call 4 (.cons (.var 0) .nil))) [.val (.lst (iL rods)), .non, .non] = .ok .next [.val (.tup (iL rods)), .non, .non] := by
    walk_at "px"; rw [c3]; walk_at "px"; rw [r3L k rods hr hlr]; walk_at "px"
  rcases loopC (cf := callT T (k + 2)) rods rods 0 .non .non (.inl rfl) (.inl rfl) with ⟨j, r, s1, s2, g1, g2, g3⟩ | ⟨s1, s2, g1, g2⟩
  · left
    refine ⟨j, r, g1, g2, run_d (T := T) (cf := callT T (k + 2)) (ds := [.lst (iL rods)]) (e := [.val (.tup (iL rods)), s1, s2]) (a := .d (.tup [.str "gapes", .tup (iL rods), .int j])) rfl ?_ rfl (by simp)⟩
    show evSs T (callT T (k + 2)) f15.body [.val (.lst (iL rods)), .non, .non] = _
    unfold f15
    simp only [PXk21.ss]
    rw [seq_next q1]
    refine seq_ret ((for_it (xs := enumL 0 (iL rods)) (e1 := [.val (.tup (iL rods)), .non, .non]) (by walk_at "px")).trans ?_)
    rw [g3, Int.zero_add]
  · right
    refine ⟨g1, run_d (T := T) (cf := callT T (k + 2)) (ds := [.lst (iL rods)]) (e := [.val (.tup (iL rods)), s1, s2]) (a := .d (.tup [.str "closes", .tup (iL rods)])) rfl ?_ rfl (by simp)⟩
    show evSs T (callT T (k + 2)) f15.body [.val (.lst (iL rods)), .non, .non] = _
    unfold f15
    simp only [PXk21.ss]
    rw [seq_next q1]
    rw [seq_next ((for_it (xs := enumL 0 (iL rods)) (e1 := [.val (.tup (iL rods)), .non, .non]) (by walk_at "px")).trans g2)]
    refine seq_ret ?_
    walk_at "px"
    rw [if_pos (by decide)]
    walk_at "px"
theorem loopGS {cf : Cf} (rods : List Int) (Ls : List (List Int)) (s2 : Slot) (hL : rods.length < Ls.length) (hc : ∀ (j : Nat) (r : Int) (p q : List Int), rods[j]? = some r → Ls[j]? = some p → Ls[j + 1]? = some q → q = sums p r) :
    ∀ (j : Nat) (w : Int) (ws : List D) (s5 s6 : Slot), j ≤ rods.length → (∀ q, Ls[j]? = some q → w ∈ q) → Free s5 → Free s6 → ws.length + j < 900 →
    ∃ w' sg s5' s6', forLoop (evG T cf (.nm 5)) (evSs T cf bodyG) (rngDown ((j : Int) - 1) (-1)) [.val (.tup (iL rods)), .own (.lst (Ls.map tD)), s2, .val (.int w), .own (.lst ws), s5, s6] =
      .ok .next [.val (.tup (iL rods)), .own (.lst (Ls.map tD)), s2, .val (.int w'), .own (.lst (ws ++ iL sg.reverse)), s5', s6'] ∧ sg.length = j ∧ (∀ s ∈ sg, Sgn s) ∧ (mulL sg (rods.take j)).sum = w - w' ∧ ∀ q, Ls[0]? = some q → w' ∈ q
  | 0, w, ws, s5, s6, _, hw, _, _, hl => ⟨w, [], s5, s6, by rw [rngDown_nil _ _ (by omega), List.reverse_nil, show ws ++ iL [] = ws from List.append_nil ws]; rfl, rfl, by simp, by simp [mulL], hw⟩
  | j + 1, w, ws, s5, s6, hj, hw, f9, f15, hl => by
    obtain ⟨r, hr⟩ : ∃ r, rods[j]? = some r := ⟨_, List.getElem?_eq_getElem (by omega)⟩
    obtain ⟨p, hp⟩ : ∃ p, Ls[j]? = some p := ⟨_, List.getElem?_eq_getElem (by omega)⟩
    obtain ⟨q, hq⟩ : ∃ q, Ls[j + 1]? = some q := ⟨_, List.getElem?_eq_getElem (by omega)⟩
    have hqs := hc j r p q hr hp hq
    have hwq := hw q hq
    rw [hqs] at hwq
    have ir : idxD (.tup (iL rods)) (.int (j : Int)) = some (.int r) := (idx_at (iL rods) j (.int r) (by rw [ints_get, hr]; rfl)).2
    have il : idxD (.lst (Ls.map tD)) (.int (j : Int)) = some (.tup (iL p)) := (idx_at (Ls.map tD) j (tD p) (by rw [List.getElem?_map, hp]; rfl)).1
    obtain ⟨s, hs, hsw, h1⟩ : ∃ s, Sgn s ∧ w - s * r ∈ p ∧ evS T cf (.asg (.nm 6) (.ite (.cmp .isin (.bin .sub (.var 3) (.idx (.var 0) (.var 5))) (.idx (.var 1) (.var 5))) (.int 1) (.neg (.int 1)))) [.val (.tup (iL rods)), .own (.lst (Ls.map tD)), s2, .val (.int w), .own (.lst ws), .val (.int (j : Int)), s6] = .ok .next [.val (.tup (iL rods)), .own (.lst (Ls.map tD)), s2, .val (.int w), .own (.lst ws), .val (.int (j : Int)), .val (.int s)] := by
      refine ⟨if w - r ∈ p then 1 else -1, by by_cases h : w - r ∈ p <;> simp [h, Sgn], ?_, ?_⟩
      · by_cases h : w - r ∈ p
        · rw [if_pos h, Int.one_mul]; exact h
        · rw [if_neg h]
          rcases mem_sums.mp hwq with ⟨y, hy, e⟩ | ⟨y, hy, e⟩
          · exact absurd (by rw [e, Int.add_sub_cancel]; exact hy) h
          · rw [show w - -1 * r = y by omega]; exact hy
      walk_at "px"
      rw [ir]
      walk_at "px"
      rw [il]
      walk_at "px"
      by_cases h : w - r ∈ p
      · rw [decide_eq_true h, if_pos h]
        rcases f15 with rfl | ⟨d, rfl⟩ <;> walk_at "px"
      · rw [decide_eq_false h, if_neg h]
        rcases f15 with rfl | ⟨d, rfl⟩ <;> walk_at "px"
    obtain ⟨w', sg, s5', s6', g1, g2, g3, g4, g5⟩ := loopGS (cf := cf) rods Ls s2 hL hc j (w - s * r) (ws ++ [.int s]) (.val (.int (j : Int))) (.val (.int s)) (by omega) (fun q' h => by rw [hp] at h; cases h; exact hsw) (.inr ⟨_, rfl⟩) (.inr ⟨_, rfl⟩) (by simp; omega)
    refine ⟨w', sg ++ [s], s5', s6', ?_, by simp [g2], fun x hx => ?_, ?_, g5⟩
    rotate_left
    · rcases List.mem_append.mp hx with h | h
      · exact g3 x h
      · rw [List.mem_singleton.mp h]; exact hs
    · have ht : rods.take (j + 1) = rods.take j ++ [r] := by rw [List.take_add_one, hr]; rfl
      have hz : mulL (sg ++ [s]) (rods.take j ++ [r]) = mulL sg (rods.take j) ++ [s * r] := by
        unfold mulL; rw [List.zipWith_append (by rw [g2, List.length_take]; omega)]; rfl
      rw [ht, hz, List.sum_append, g4]; simp; omega
    rw [show ws ++ iL (sg ++ [s]).reverse = (ws ++ [.int s]) ++ iL sg.reverse by simp [iL]]
    rw [← g1, show (((j + 1 : Nat) : Int) - 1) = (j : Int) by omega, rngDown_cons _ _ (by omega)]
    have ha : evG T cf (.nm 5) (.int (j : Int)) [.val (.tup (iL rods)), .own (.lst (Ls.map tD)), s2, .val (.int w), .own (.lst ws), s5, s6] = .ok () [.val (.tup (iL rods)), .own (.lst (Ls.map tD)), s2, .val (.int w), .own (.lst ws), .val (.int (j : Int)), s6] := put_free (i := 5) (s := s5) rfl f9
    refine for_next ha ?_
    rw [seq_next h1]
    walk_at "px"
    rw [if_pos (show ws.length < SZ by show _ < 1000000; omega)]
    walk_at "px"
    rw [ir]
    walk_at "px"
    rw [if_pos (okMul hs)]
    walk_at "px"
theorem layS_step : ∀ (rs p0 : List Int) (j : Nat) (r : Int) (p q : List Int), rs[j]? = some r → (p0 :: layS p0 rs)[j]? = some p → (p0 :: layS p0 rs)[j + 1]? = some q → q = sums p r
  | [], _, _, _, _, _, h, _, _ => by simp at h
  | x :: rs, p0, 0, r, p, q, h1, h2, h3 => by
    cases h1; cases h2; cases h3; rfl
  | x :: rs, p0, j + 1, r, p, q, h1, h2, h3 => layS_step rs (sums p0 x) j r p q h1 h2 h3
theorem layS_at_end (rods : List Int) : ([0] :: layS [0] rods)[rods.length]? = some (lastS [0] rods) := by
  obtain ⟨pre, h⟩ := layS_last rods [0]
  have hl : pre.length = rods.length := by
    have := congrArg List.length h
    simp [layS_len] at this
    omega
  rw [h, ← hl]
  simp
theorem r7F (k : Nat) (rods : List Int) (hr : areRods rods = true) (hl : rods.length ≤ 24) (hB : rods.sum ≤ 900) : (0 ∉ lastS [0] rods ∧ callT T (k + 3) 13 [.d (.tup (iL rods))] = .ok (.d (.tup [.str "stands", .tup (iL rods), .tup ((layS [0] rods).map tD)])) [none]) ∨
    (0 ∈ lastS [0] rods ∧ ∃ sg, Sg sg rods ∧ (mulL sg rods).sum = 0 ∧ callT T (k + 3) 13 [.d (.tup (iL rods))] = .ok (.d (.tup [.str "flattens", .tup (iL rods), .tup (iL sg)])) [none]) := by
  obtain ⟨n1, n2, n3⟩ := rods_of hr
  have hlr : rods.length ≤ SZ := by show _ ≤ 1000000; omega
  have c3 : refsOf T 4 = [false] := rfl
  obtain ⟨s2', hF⟩ := loopF (k + 1) (.val (.tup (iL rods))) [.non, .non, .non, .non] rods [0] 0 [] .non (.inl rfl) ⟨by simp, by simp⟩ (Int.le_refl 0) (fun r h => by have := n3 r h; omega) (by omega) (by simp; omega)
  obtain ⟨pre, hpre⟩ := layS_last rods [0]
  have hpreL : tD [0] :: (layS [0] rods).map tD = pre.map tD ++ [tD (lastS [0] rods)] := by
    have := congrArg (List.map tD) hpre
    simpa using this
  rw [List.nil_append, List.nil_append, hpreL] at hF
  have q1 : evS T (callT T (k + 2)) (.asg (.nm 0) (.call 4 (.cons (.var 0) .nil))) [.val (.tup (iL rods)), .non, .non, .non, .non, .non, .non] = .ok .next [.val (.tup (iL rods)), .non, .non, .non, .non, .non, .non] := by
    walk_at "px"; rw [c3]; walk_at "px"; rw [r3 k rods hr hlr]; walk_at "px"
  have q2 : evS T (callT T (k + 2)) (.ifs (.cmp .gt (.bi .len (.cons (.var 0) .nil)) (.glob "MOST_ROUND" (.int 24))) (.cons (.raise 0 (.str "rods")) .nil) .nil) [.val (.tup (iL rods)), .non, .non, .non, .non, .non, .non] = .ok .next [.val (.tup (iL rods)), .non, .non, .non, .non, .non, .non] := by
    walk_at "px"
    rw [ints_length, decide_eq_false (by omega)]
    walk_at "px"
  have q3 : evS T (callT T (k + 2)) (.asg (.nm 1) (.lst (.cons (.tup (.cons (.int 0) .nil)) .nil))) [.val (.tup (iL rods)), .non, .non, .non, .non, .non, .non] = .ok .next [.val (.tup (iL rods)), .own (.lst [tD [0]]), .non, .non, .non, .non, .non] := by
    walk_at "px"
    rw [if_pos (by decide)]
    walk_at "px"
    rw [if_pos (by decide)]
    walk_at "px"
    rfl
  have q4 : evS T (callT T (k + 2)) (.fr (.nm 2) (.seq (.var 0)) bodyF) [.val (.tup (iL rods)), .own (.lst [tD [0]]), .non, .non, .non, .non, .non] = .ok .next [.val (.tup (iL rods)), .own (.lst (pre.map tD ++ [tD (lastS [0] rods)])), s2', .non, .non, .non, .non] := by
    refine (for_it (xs := iL rods) (e1 := [.val (.tup (iL rods)), .own (.lst [tD [0]]), .non, .non, .non, .non, .non]) ?_).trans hF
    walk_at "px"
  have ht : evT T (callT T (k + 2)) (.cmp .notin (.int 0) (.idx (.var 1) (.neg (.int 1)))) [.val (.tup (iL rods)), .own (.lst (pre.map tD ++ [tD (lastS [0] rods)])), s2', .non, .non, .non, .non] = .ok (!decide (0 ∈ lastS [0] rods)) [.val (.tup (iL rods)), .own (.lst (pre.map tD ++ [tD (lastS [0] rods)])), s2', .non, .non, .non, .non] := by
    walk_at "px"
    rw [idx_last]
    unfold tD
    walk_at "px"
  have hLs : (pre.map tD ++ [tD (lastS [0] rods)]) = ([0] :: layS [0] rods).map tD := by rw [← hpreL]; rfl
  by_cases h0 : 0 ∈ lastS [0] rods
  · right
    refine ⟨h0, ?_⟩
    rw [decide_eq_true h0] at ht
    obtain ⟨w', sg, s5', s6', g1, g2, g3, g4, g5⟩ := loopGS (cf := callT T (k + 2)) rods ([0] :: layS [0] rods) s2' (by simp [layS_len]) (fun j r p q hr' hp hq => layS_step rods [0] j r p q hr' hp hq) rods.length 0 [] .non .non (Nat.le_refl _) (fun q hq => by rw [layS_at_end] at hq; cases hq; exact h0) (.inl rfl) (.inl rfl) (by simp; omega)
    have hw' : w' = 0 := by have := g5 [0] rfl; simpa using this
    refine ⟨sg, ⟨g2, g3⟩, by rw [List.take_length] at g4; rw [g4, hw']; rfl, ?_⟩
    rw [List.nil_append] at g1
    have hh : evSs T (callT T (k + 2)) f13.body [.val (.tup (iL rods)), .non, .non, .non, .non, .non, .non] = .ok (.ret (.d (.tup [.str "flattens", .tup (iL rods), .tup (iL sg)]))) [.val (.tup (iL rods)), .own (.lst (([0] :: layS [0] rods).map tD)), s2', .val (.int w'), .own (.lst (iL sg.reverse)), s5', s6'] := by
      unfold f13
      simp only [ss]
      rw [seq_next q1, seq_next q2, seq_next q3, seq_next q4]
      refine (seq_next ((if_else ht).trans rfl)).trans ?_
      rw [hLs]
      have q6 : evS T (callT T (k + 2)) (.asg (.nm 3) (.int 0)) [.val (.tup (iL rods)), .own (.lst (([0] :: layS [0] rods).map tD)), s2', .non, .non, .non, .non] = .ok .next [.val (.tup (iL rods)), .own (.lst (([0] :: layS [0] rods).map tD)), s2', .val (.int 0), .non, .non, .non] := rfl
      have q7 : evS T (callT T (k + 2)) (.asg (.nm 4) (.lst .nil)) [.val (.tup (iL rods)), .own (.lst (([0] :: layS [0] rods).map tD)), s2', .val (.int 0), .non, .non, .non] = .ok .next [.val (.tup (iL rods)), .own (.lst (([0] :: layS [0] rods).map tD)), s2', .val (.int 0), .own (.lst []), .non, .non] := rfl
      have q8 : evS T (callT T (k + 2)) (.fr (.nm 5) (.rng (.cons (.bin .sub (.bi .len (.cons (.var 0) .nil)) (.int 1)) (.cons (.neg (.int 1)) (.cons (.neg (.int 1)) .nil)))) bodyG) [.val (.tup (iL rods)), .own (.lst (([0] :: layS [0] rods).map tD)), s2', .val (.int 0), .own (.lst []), .non, .non] = .ok .next [.val (.tup (iL rods)), .own (.lst (([0] :: layS [0] rods).map tD)), s2', .val (.int w'), .own (.lst (iL sg.reverse)), s5', s6'] := by
        refine (for_it (xs := rngDown ((rods.length : Int) - 1) (-1)) (e1 := [.val (.tup (iL rods)), .own (.lst (([0] :: layS [0] rods).map tD)), s2', .val (.int 0), .own (.lst []), .non, .non]) ?_).trans g1
        walk_at "px"
        rw [ints_length]
        rw [if_pos (show (small ((rods.length : Int) - 1) && small (-1)) = true by unfold small; simp only [Bool.and_eq_true, decide_eq_true_eq]; exact ⟨⟨by omega, by omega⟩, by decide⟩)]
        rw [if_neg (by decide)]
        walk_at "px"
      rw [seq_next q6, seq_next q7, seq_next q8]
      refine seq_ret ?_
      walk_at "px"
      rw [if_pos (by decide)]
      walk_at "px"
      simp [iL]
    exact run_d (T := T) (cf := callT T (k + 2)) (ds := [.tup (iL rods)]) rfl hh rfl (by simp)
  · left
    refine ⟨h0, ?_⟩
    rw [decide_eq_false h0] at ht
    have hh : evSs T (callT T (k + 2)) f13.body [.val (.tup (iL rods)), .non, .non, .non, .non, .non, .non] = .ok (.ret (.d (.tup [.str "stands", .tup (iL rods), .tup ((layS [0] rods).map tD)]))) [.val (.tup (iL rods)), .own (.lst (pre.map tD ++ [tD (lastS [0] rods)])), s2', .non, .non, .non, .non] := by
      unfold f13
      simp only [ss]
      rw [seq_next q1, seq_next q2, seq_next q3, seq_next q4]
      refine seq_ret ((if_then ht).trans (seq_ret ?_))
      rw [hLs]
      walk_at "px"
      rw [show (cutD (List.map tD ([0] :: layS [0] rods)) (some 1) none) = (layS [0] rods).map tD from cut_drop (List.map tD ([0] :: layS [0] rods)) 1 (by simp)]
      rw [if_pos (by decide)]
      walk_at "px"
    exact run_d (T := T) (cf := callT T (k + 2)) (ds := [.tup (iL rods)]) rfl hh rfl (by simp)
theorem sum_two : ∀ (rs : List Int) (i j : Nat) (x y : Int), (∀ r ∈ rs, 0 ≤ r) → i < j → rs[i]? = some x → rs[j]? = some y → x + y ≤ rs.sum
  | [], _, _, _, _, _, _, h, _ => by simp at h
  | r :: rs, 0, j + 1, x, y, h0, _, h1, h2 => by
    cases h1
    have hy : y ∈ rs := List.mem_of_getElem? h2
    have := sum_mem rs (fun z hz => h0 z (List.mem_cons_of_mem _ hz)) y hy
    rw [List.sum_cons]; omega
  | r :: rs, i + 1, j + 1, x, y, h0, hij, h1, h2 => by
    have := sum_two rs i j x y (fun z hz => h0 z (List.mem_cons_of_mem _ hz)) (by omega) h1 h2
    have := h0 r List.mem_cons_self
    rw [List.sum_cons]; omega
where
  sum_mem : ∀ (rs : List Int), (∀ r ∈ rs, 0 ≤ r) → ∀ y ∈ rs, y ≤ rs.sum
  | [], _, y, h => by simp at h
  | r :: rs, h0, y, h => by
    have hs : 0 ≤ rs.sum := by
      clear h
      induction rs with
      | nil => simp
      | cons a l ih =>
        rw [List.sum_cons]
        have := h0 a (by simp)
        have := ih (fun x hx => h0 x (by simp at hx ⊢; rcases hx with rfl | hx; exact .inl rfl; exact .inr (.inr hx)))
        omega
    have hr := h0 r List.mem_cons_self
    rw [List.sum_cons]
    rcases List.mem_cons.mp h with rfl | h
    · omega
    · have := sum_mem rs (fun z hz => h0 z (List.mem_cons_of_mem _ hz)) y h; omega
theorem wide_one {rods : List Int} (h0 : ∀ r ∈ rods, 0 ≤ r) {i j : Nat} {x y : Int} (hi : rods[i]? = some x) (hj : rods[j]? = some y) (h1 : rods.sum < 2 * x) (h2 : rods.sum < 2 * y) : i = j := by
  rcases Nat.lt_trichotomy i j with h | h | h
  · have := sum_two rods i j x y h0 h hi hj; omega
  · exact h
  · have := sum_two rods j i y x h0 h hj hi; omega
end PXk21

end
section
set_option Elab.async false
set_option linter.all false
set_option maxRecDepth 100000
set_option maxHeartbeats 4000000
namespace PXk21
open PX
local macro_rules | `(tactic| walk_at "px") => `(tactic| simp only [evSs, evS, v0, v1, v2, v3, v4, v5, v6, v7, v8, v9, v10, v11, v12, v13, v14, v15, v16, v17, v18, v19, v20, v21, v22, v23, v24, v25, v26, v27, evL, evAs, evO, evT, evAll, evAny, evI, evG, evGs, bnd, ret, bad, ofO, ofAV, opr, oper, binM, unM, cmp2M, dataM, toD, frz, viewM, viewsM, view, rdSlot, rdVar, putSlot, modSlot, lenG, lenXs, binD, truD, biD, negD, oneInt, Cell.d, seqD, itemsD, enumD, zipD, seqL, rng2, rngTwo, rngD, slD, revD, isTy, lstAt, isDct, appC, subC, callM, refs_nil, refs_d, toArgs, toArg, set_own, setOuts, setOut, outsOf, outOf, args0, List.replicate, isin_tup, isin_lst, notin_tup, PX.eq_int, PX.ne_int, PX.eq_bl, PX.ne_bl, lt_i, le_i, gt_i, ge_i, Option.bind_some, Option.map_some, List.nil_append, List.cons_append, List.append_nil, List.getElem?_cons_zero, List.getElem?_cons_succ, List.set_cons_zero, List.set_cons_succ, List.length_cons, List.length_nil, allInt_ints, allBl_bls, Bool.not_true, Bool.not_false, Bool.and_true, Bool.true_and, Bool.false_and, Bool.and_false, Bool.or_true, Bool.true_or, Bool.or_false, Bool.false_or, Bool.false_eq_true, if_true, if_false, reduceIte, Nat.reduceAdd, Nat.reduceSub])
/-! ### what is right -/
inductive Cl where
  | cl (rods : List Int)
  | ga (rods : List Int) (t : Int)
  | fl (rods sg : List Int)
  | st (rods : List Int) (ls : List (List Int))
def Cl.d : Cl → D
  | .cl rods => .tup [.str "closes", .tup (iL rods)]
  | .ga rods t => .tup [.str "gapes", .tup (iL rods), .int t]
  | .fl rods sg => .tup [.str "flattens", .tup (iL rods), .tup (iL sg)]
  | .st rods ls => .tup [.str "stands", .tup (iL rods), .tup (ls.map tT)]
def Cl.f : Cl → D
  | .cl _ => .str "closes"
  | .ga _ _ => .str "gapes"
  | .fl _ _ => .str "flattens"
  | .st _ _ => .str "stands"
def Cl.r : Cl → List Int
  | .cl r => r
  | .ga r _ => r
  | .fl r _ => r
  | .st r _ => r
def sgB (s : Int) : Bool := (s == 1) || (s == -1)
def chainB : List Int → List Int → List (List Int) → Bool
  | here, r :: rs, l :: ls => (sums here r).all (fun x => decide (x ∈ l)) && chainB l rs ls
  | _, _, _ => true
def lastC : List Int → List (List Int) → List Int
  | p, [] => p
  | _, l :: ls => lastC l ls
def body2 : Cl → Bool
  | .cl rods => rods.all (fun r => decide (2 * r ≤ rods.sum))
  | .ga rods t => (decide (0 ≤ t) && decide (t < rods.length)) && decide (rods.sum < 2 * rods.getD t.toNat 0)
  | .fl rods sg => (decide (sg.length = rods.length) && decide (rods.length ≤ 24)) && (sg.all sgB && decide ((mulL sg rods).sum = 0))
  | .st rods ls => (decide (ls.length = rods.length) && decide (rods.length ≤ 24)) && (chainB [0] rods ls && !decide (0 ∈ lastC [0] ls))
def rightB (c : Cl) : Bool := areRods c.r && body2 c
def Cl.Sz : Cl → Prop
  | .cl rods => rods.length ≤ 1000
  | .ga rods _ => rods.length ≤ 1000
  | .fl rods sg => rods.length ≤ 1000 ∧ sg.length ≤ 1000
  | .st rods ls => rods.length ≤ 1000 ∧ ls.length ≤ 1000 ∧ ∀ l ∈ ls, l.length ≤ 2000
theorem Cl.Sz.r {c : Cl} (h : c.Sz) : c.r.length ≤ 1000 := by cases c <;> first | exact h | exact h.1
theorem sums_len (p : List Int) (r : Int) (hp : p.length ≤ 2000) : (sums p r).length ≤ 4000 := by
  unfold sums
  have h3 : ∀ l : List Int, (sortU l).length ≤ l.length := fun l => by
    induction l with
    | nil => exact Nat.le_refl _
    | cons x l ih =>
      have h4 : ∀ (x : Int) (l : List Int), (insU x l).length ≤ l.length + 1 := fun x l => by
        induction l with
        | nil => exact Nat.le_refl _
        | cons y l ih =>
          unfold insU
          split
          · exact Nat.le_refl _
          · split
            · exact Nat.le_succ _
            · simpa using ih
      have := h4 x (sortU l)
      show (insU x (sortU l)).length ≤ l.length + 1
      omega
  refine Nat.le_trans (h3 _) ?_
  rw [List.length_append, List.length_map, List.length_map]; omega
theorem eCC : cmpD .eq (.str "closes") (.str "closes") = some true := (eqStr "closes" "closes" (by decide +kernel) (by decide +kernel)).trans (by decide +kernel)
theorem eGC : cmpD .eq (.str "gapes") (.str "closes") = some false := (eqStr "gapes" "closes" (by decide +kernel) (by decide +kernel)).trans (by decide +kernel)
theorem eFC : cmpD .eq (.str "flattens") (.str "closes") = some false := (eqStr "flattens" "closes" (by decide +kernel) (by decide +kernel)).trans (by decide +kernel)
theorem eSC : cmpD .eq (.str "stands") (.str "closes") = some false := (eqStr "stands" "closes" (by decide +kernel) (by decide +kernel)).trans (by decide +kernel)
theorem eGG : cmpD .eq (.str "gapes") (.str "gapes") = some true := (eqStr "gapes" "gapes" (by decide +kernel) (by decide +kernel)).trans (by decide +kernel)
theorem eFG : cmpD .eq (.str "flattens") (.str "gapes") = some false := (eqStr "flattens" "gapes" (by decide +kernel) (by decide +kernel)).trans (by decide +kernel)
theorem eSG : cmpD .eq (.str "stands") (.str "gapes") = some false := (eqStr "stands" "gapes" (by decide +kernel) (by decide +kernel)).trans (by decide +kernel)
theorem eFF : cmpD .eq (.str "flattens") (.str "flattens") = some true := (eqStr "flattens" "flattens" (by decide +kernel) (by decide +kernel)).trans (by decide +kernel)
theorem eSF : cmpD .eq (.str "stands") (.str "flattens") = some false := (eqStr "stands" "flattens" (by decide +kernel) (by decide +kernel)).trans (by decide +kernel)
theorem mulL_d (ss rs : List Int) : (zip2 (iL ss) (iL rs)).filterMap (fun d => match d with | .tup [.int x, .int y] => some (D.int (x * y)) | _ => none) = iL (mulL ss rs) := by
  induction ss generalizing rs with
  | nil => rfl
  | cons s ss ih =>
    cases rs with
    | nil => rfl
    | cons r rs =>
      show D.int (s * r) :: _ = D.int (s * r) :: iL (mulL ss rs)
      rw [← ih rs]
      rfl
theorem zip2_mem : ∀ (xs ys : List Int), (zip2 (iL xs) (iL ys)).length ≤ xs.length ∧ ∀ d ∈ zip2 (iL xs) (iL ys), ∃ x y : Int, d = .tup [.int x, .int y] ∧ x ∈ xs ∧ y ∈ ys
  | [], ys => ⟨Nat.le_refl _, fun d hd => by cases hd⟩
  | x :: xs, [] => ⟨Nat.zero_le _, fun d hd => by cases hd⟩
  | x :: xs, y :: ys => by
    obtain ⟨i1, i2⟩ := zip2_mem xs ys
    refine ⟨Nat.succ_le_succ i1, fun d hd => ?_⟩
    rcases List.mem_cons.mp (show d ∈ D.tup [.int x, .int y] :: zip2 (iL xs) (iL ys) from hd) with rfl | hd
    · exact ⟨x, y, rfl, List.mem_cons_self, List.mem_cons_self⟩
    · obtain ⟨a, b, h1, h2, h3⟩ := i2 d hd
      exact ⟨a, b, h1, List.mem_cons_of_mem _ h2, List.mem_cons_of_mem _ h3⟩
/-! ### band_right -/
abbrev eB (C : D) (s1 s2 : Slot) (f : D) (rods : List Int) (s5 s6 : Slot) : Env := [.val C, s1, s2, .val f, .val (.tup (iL rods)), s5, s6, .non, .non]
abbrev bodyB : Ss := .cons (.ifs (.not (.val (.bi .all (.cons (.comp [8] (.nm 8) (.seq (.call 2 (.cons (.var 2) (.cons (.var 5) .nil)))) .nil (.cmp .isin (.var 8) (.var 6))) .nil)))) (.cons (.ret (.bl false)) .nil) .nil) (.cons (.asg (.nm 2) (.var 6)) .nil)
theorem stepB (k : Nat) (C f : D) (s1 : Slot) (p rods : List Int) (r : Int) (l : List Int) (hp : p.length ≤ 2000) :
    evS T (callT T (k + 1)) (.ifs (.not (.val (.bi .all (.cons (.comp [8] (.nm 8) (.seq (.call 2 (.cons (.var 2) (.cons (.var 5) .nil)))) .nil (.cmp .isin (.var 8) (.var 6))) .nil)))) (.cons (.ret (.bl false)) .nil) .nil) (eB C s1 (.val (tT p)) f rods (.val (.int r)) (.val (tT l))) =
      .ok (if (sums p r).all (fun x => decide (x ∈ l)) then .next else .ret (.d (.bl false))) (eB C s1 (.val (tT p)) f rods (.val (.int r)) (.val (tT l))) := by
  have c2 : refsOf T 2 = [false, false] := rfl
  have hi : evI T (callT T (k + 1)) (.seq (.call 2 (.cons (.var 2) (.cons (.var 5) .nil)))) (eB C s1 (.val (tT p)) f rods (.val (.int r)) (.val (tT l))) = .ok (iL (sums p r)) (eB C s1 (.val (tT p)) f rods (.val (.int r)) (.val (tT l))) := by
    unfold tT
    walk_at "px"
    rw [c2]
    walk_at "px"
    rw [r0 k p r hp]
    walk_at "px"
  have hc := comp_bl (T := T) (cf := callT T (k + 1)) (i := 8) (elt := .cmp .isin (.var 8) (.var 6)) (fun x => decide (x ∈ l)) hi rfl (by have := sums_len p r hp; show _ ≤ 1000000; omega) (fun n hn => by
    show evA T _ _ [.val C, s1, .val (.tup (iL p)), .val f, .val (.tup (iL rods)), .val (.int r), .val (.tup (iL l)), .non, .val (.int n)] = _
    walk_at "px"
    rfl)
  have ht : evT T (callT T (k + 1)) (.not (.val (.bi .all (.cons (.comp [8] (.nm 8) (.seq (.call 2 (.cons (.var 2) (.cons (.var 5) .nil)))) .nil (.cmp .isin (.var 8) (.var 6))) .nil)))) (eB C s1 (.val (tT p)) f rods (.val (.int r)) (.val (tT l))) = .ok (!(sums p r).all (fun x => decide (x ∈ l))) (eB C s1 (.val (tT p)) f rods (.val (.int r)) (.val (tT l))) := by
    walk_at "px"
    rw [hc]
    walk_at "px"
    rw [all_map]
  cases h : (sums p r).all (fun x => decide (x ∈ l)) with
  | true =>
    rw [h] at ht
    rw [if_else ht]
    rfl
  | false =>
    rw [h] at ht
    rw [if_then ht]
    rfl
theorem loopB (k : Nat) (C f : D) (s1 : Slot) (rods : List Int) : ∀ (rs : List Int) (ls : List (List Int)) (p : List Int) (s5 s6 : Slot), rs.length = ls.length → Free s5 → Free s6 → p.length ≤ 2000 → (∀ l ∈ ls, l.length ≤ 2000) →
    ∃ p' s5' s6', (chainB p rs ls = true → p' = lastC p ls) ∧ forLoop (evG T (callT T (k + 1)) (.tup (.cons (.nm 5) (.cons (.nm 6) .nil)))) (evSs T (callT T (k + 1)) bodyB) (zip2 (iL rs) (ls.map tT)) (eB C s1 (.val (tT p)) f rods s5 s6) =
      .ok (if chainB p rs ls then .next else .ret (.d (.bl false))) (eB C s1 (.val (tT p')) f rods s5' s6')
  | [], [], p, s5, s6, _, _, _, _, _ => ⟨p, s5, s6, fun _ => rfl, by simp [chainB]; rfl⟩
  | [], _ :: _, p, s5, s6, h, _, _, _, _ => by simp at h
  | r :: rs, [], p, s5, s6, h, _, _, _, _ => by simp at h
  | r :: rs, l :: ls, p, s5, s6, hlen, h5, h6, hp, hl => by
    have hl0 := hl l List.mem_cons_self
    have hs := stepB k C f s1 p rods r l hp
    have hg : evG T (callT T (k + 1)) (.tup (.cons (.nm 5) (.cons (.nm 6) .nil))) (.tup [.int r, tT l]) (eB C s1 (.val (tT p)) f rods s5 s6) = .ok () (eB C s1 (.val (tT p)) f rods (.val (.int r)) (.val (tT l))) := by
      rcases h5 with rfl | ⟨d5, rfl⟩ <;> rcases h6 with rfl | ⟨d6, rfl⟩ <;> rfl
    cases hc : (sums p r).all (fun x => decide (x ∈ l)) with
    | false =>
      rw [hc] at hs
      have e0 : chainB p (r :: rs) (l :: ls) = false := by
        show ((sums p r).all (fun x => decide (x ∈ l)) && _) = false
        rw [hc]; rfl
      refine ⟨p, .val (.int r), .val (tT l), fun h => absurd (e0.symm.trans h) (by decide), ?_⟩
      rw [e0]
      exact for_ret hg (seq_ret hs)
    | true =>
      rw [hc] at hs
      obtain ⟨p', t5, t6, ih0, ih⟩ := loopB k C f s1 rods rs ls l (.val (.int r)) (.val (tT l)) (by simpa using hlen) (.inr ⟨_, rfl⟩) (.inr ⟨_, rfl⟩) hl0 fun l' h' => hl l' (List.mem_cons_of_mem _ h')
      have e0 : chainB p (r :: rs) (l :: ls) = chainB l rs ls := by
        show ((sums p r).all (fun x => decide (x ∈ l)) && _) = _
        rw [hc]; rfl
      refine ⟨p', t5, t6, fun h => by rw [e0] at h; exact ih0 h, ?_⟩
      rw [e0]
      refine (for_next hg (e2 := eB C s1 (.val (tT l)) f rods (.val (.int r)) (.val (tT l))) ?_).trans ih
      rw [seq_next hs]
      have hput : evS T (callT T (k + 1)) (.asg (.nm 2) (.var 6)) (eB C s1 (.val (tT p)) f rods (.val (.int r)) (.val (tT l))) = .ok .next (eB C s1 (.val (tT l)) f rods (.val (.int r)) (.val (tT l))) := rfl
      rw [seq_next hput]
      rfl
theorem ne_len (a b : Nat) : (!((a : Int) == (b : Int))) = !decide (a = b) := by
  by_cases h : a = b
  · rw [decide_eq_true h, h]; simp
  · rw [decide_eq_false h]
    have : ((a : Int) == (b : Int)) = false := by
      have h2 : (a : Int) ≠ b := by omega
      simpa using h2
    rw [this]
theorem gt_24 (a : Nat) : decide ((24 : Int) < (a : Int)) = !decide (a ≤ 24) := by
  by_cases h : a ≤ 24
  · rw [decide_eq_true h, decide_eq_false (by omega)]; rfl
  · rw [decide_eq_false h, decide_eq_true (by omega)]; rfl
theorem sgn_in (n : Int) : (decide (n = 1) || decide (n = -1)) = sgB n := rfl
theorem all_sg {sg : List Int} (h : sg.all sgB = true) : ∀ s ∈ sg, Sgn s := fun s hs => by
  have := List.all_eq_true.mp h s hs
  unfold sgB at this
  simpa [Sgn] using this
theorem max_all {rods : List Int} (h : 1 ≤ rods.length) : decide (2 * maxL rods ≤ rods.sum) = rods.all (fun r => decide (2 * r ≤ rods.sum)) := by
  by_cases hh : 2 * maxL rods ≤ rods.sum
  · rw [decide_eq_true hh]
    exact (List.all_eq_true.mpr fun r hr => decide_eq_true (by have := maxL_le r hr; omega)).symm
  · rw [decide_eq_false hh]
    cases h2 : rods.all (fun r => decide (2 * r ≤ rods.sum)) with
    | false => rfl
    | true => exact absurd (of_decide_eq_true (List.all_eq_true.mp h2 _ (maxL_mem h))) hh
theorem r6R (k : Nat) (c : Cl) (hc : c.Sz) : callT T (k + 2) 6 [.d c.d] = .ok (.d (.bl (rightB c))) [none] := by
  have fin : ∀ {C : D} {B : Bool}, (∃ e', evSs T (callT T (k + 1)) f6.body [.val C, .non, .non, .non, .non, .non, .non, .non, .non] = .ok (.ret (.d (.bl B))) e' ∧ 1 ≤ e'.length) → callT T (k + 2) 6 [.d C] = .ok (.d (.bl B)) [none] := fun {C B} ⟨e', h, h1⟩ =>
    run_d (T := T) (cf := callT T (k + 1)) (ds := [C]) (e := e') (a := .d (.bl B)) rfl h rfl h1
  refine fin ?_
  have hr := hc.r
  unfold f6
  simp only [ss]
  have q0 : evS T (callT T (k + 1)) (.asg (.tup (.cons (.nm 3) (.cons (.nm 4) .nil))) (.sl (.var 0) .none (.some (.int 2)))) [.val c.d, .non, .non, .non, .non, .non, .non, .non, .non] = .ok .next (eB c.d .non .non c.f c.r .non .non) := by cases c <;> rfl
  rw [seq_next q0]
  have c0 : refsOf T 0 = [false] := rfl
  have u1 : evT T (callT T (k + 1)) (.not (.val (.call 0 (.cons (.var 4) .nil)))) (eB c.d .non .non c.f c.r .non .non) = .ok (!areRods c.r) (eB c.d .non .non c.f c.r .non .non) := by
    walk_at "px"
    rw [c0]
    walk_at "px"
    rw [r1 k c.r (by show _ ≤ 1000000; omega)]
    walk_at "px"
  have hB : rightB c = (!(!areRods c.r) && body2 c) := by unfold rightB; cases areRods c.r <;> rfl
  rw [hB]
  refine guard u1 (by simp) fun h0 => ?_
  have h0 : areRods c.r = true := by simpa using h0
  obtain ⟨n1, n2, n3⟩ := rods_of h0
  cases c with
  | cl rods =>
    have tf : evT T (callT T (k + 1)) (.cmp .eq (.var 3) (.str "closes")) (eB (Cl.cl rods).d .non .non (.str "closes") rods .non .non) = .ok true (eB (Cl.cl rods).d .non .non (.str "closes") rods .non .non) := by
      walk_at "px"
      rw [eCC]
      walk_at "px"
    show ∃ e', evSs T _ _ (eB (Cl.cl rods).d .non .non (.str "closes") rods .non .non) = _ ∧ _
    refine ⟨eB (Cl.cl rods).d .non .non (.str "closes") rods .non .non, seq_ret ((if_then tf).trans (seq_ret ?_)), by simp⟩
    obtain ⟨x, r, rfl⟩ : ∃ x r, rods = x :: r := by
      cases rods with
      | nil => exact absurd n1 (by decide)
      | cons x r => exact ⟨x, r, rfl⟩
    walk_at "px"
    rw [if_pos (mul2 _)]
    walk_at "px"
    exact congrArg (fun b => R.ok (Flow.ret (AV.d (D.bl b))) _) (max_all n1)
  | ga rods t =>
    show ∃ e', evSs T _ _ (eB (Cl.ga rods t).d .non .non (.str "gapes") rods .non .non) = _ ∧ _
    have tf : evT T (callT T (k + 1)) (.cmp .eq (.var 3) (.str "closes")) (eB (Cl.ga rods t).d .non .non (.str "gapes") rods .non .non) = .ok false (eB (Cl.ga rods t).d .non .non (.str "gapes") rods .non .non) := by
      walk_at "px"
      rw [eGC]
      walk_at "px"
    rw [seq_next (if_no tf)]
    have q1 : evS T (callT T (k + 1)) (.asg (.nm 1) (.idx (.var 0) (.int 2))) (eB (Cl.ga rods t).d .non .non (.str "gapes") rods .non .non) = .ok .next (eB (Cl.ga rods t).d (.val (.int t)) .non (.str "gapes") rods .non .non) := rfl
    rw [seq_next q1]
    have tf : evT T (callT T (k + 1)) (.cmp .eq (.var 3) (.str "gapes")) (eB (Cl.ga rods t).d (.val (.int t)) .non (.str "gapes") rods .non .non) = .ok true (eB (Cl.ga rods t).d (.val (.int t)) .non (.str "gapes") rods .non .non) := by
      walk_at "px"
      rw [eGG]
      walk_at "px"
    refine ⟨eB (Cl.ga rods t).d (.val (.int t)) .non (.str "gapes") rods .non .non, seq_ret ((if_then tf).trans (seq_ret ?_)), by simp⟩
    unfold body2
    walk_at "px"
    by_cases h1 : 0 ≤ t
    · rw [decide_eq_true h1]
      walk_at "px"
      rw [ints_length]
      by_cases h2 : t < rods.length
      · rw [decide_eq_true h2]
        walk_at "px"
        have hx : rods[t.toNat]? = some (rods.getD t.toNat 0) := by
          rw [List.getElem?_eq_getElem (show t.toNat < rods.length by omega)]
          simp [List.getD, List.getElem?_eq_getElem (show t.toNat < rods.length by omega)]
        have ir : idxD (.tup (iL rods)) (.int t) = some (.int (rods.getD t.toNat 0)) := by
          have := (idx_at (iL rods) t.toNat (.int (rods.getD t.toNat 0)) (by rw [ints_get, hx]; rfl)).2
          rwa [show ((t.toNat : Nat) : Int) = t by omega] at this
        rw [ir]
        walk_at "px"
        rw [if_pos (mul2 _)]
        walk_at "px"
      · rw [decide_eq_false h2]
        walk_at "px"
    · rw [decide_eq_false h1]
      walk_at "px"
  | fl rods sg =>
    obtain ⟨hl, hv⟩ := hc
    show ∃ e', evSs T _ _ (eB (Cl.fl rods sg).d .non .non (.str "flattens") rods .non .non) = _ ∧ _
    have tf : evT T (callT T (k + 1)) (.cmp .eq (.var 3) (.str "closes")) (eB (Cl.fl rods sg).d .non .non (.str "flattens") rods .non .non) = .ok false (eB (Cl.fl rods sg).d .non .non (.str "flattens") rods .non .non) := by
      walk_at "px"
      rw [eFC]
      walk_at "px"
    rw [seq_next (if_no tf)]
    have q1 : evS T (callT T (k + 1)) (.asg (.nm 1) (.idx (.var 0) (.int 2))) (eB (Cl.fl rods sg).d .non .non (.str "flattens") rods .non .non) = .ok .next (eB (Cl.fl rods sg).d (.val (.tup (iL sg))) .non (.str "flattens") rods .non .non) := rfl
    rw [seq_next q1]
    have tf : evT T (callT T (k + 1)) (.cmp .eq (.var 3) (.str "gapes")) (eB (Cl.fl rods sg).d (.val (.tup (iL sg))) .non (.str "flattens") rods .non .non) = .ok false (eB (Cl.fl rods sg).d (.val (.tup (iL sg))) .non (.str "flattens") rods .non .non) := by
      walk_at "px"
      rw [eFG]
      walk_at "px"
    rw [seq_next (if_no tf)]
    have u2 : evT T (callT T (k + 1)) (.cmp .ne (.bi .len (.cons (.var 1) .nil)) (.bi .len (.cons (.var 4) .nil))) (eB (Cl.fl rods sg).d (.val (.tup (iL sg))) .non (.str "flattens") rods .non .non) = .ok (!decide (sg.length = rods.length)) (eB (Cl.fl rods sg).d (.val (.tup (iL sg))) .non (.str "flattens") rods .non .non) := by
      walk_at "px"
      rw [ints_length, ints_length]
      exact congrArg (fun b => R.ok b _) (ne_len _ _)
    have u3 : evT T (callT T (k + 1)) (.cmp .gt (.bi .len (.cons (.var 4) .nil)) (.glob "MOST_ROUND" (.int 24))) (eB (Cl.fl rods sg).d (.val (.tup (iL sg))) .non (.str "flattens") rods .non .non) = .ok (!decide (rods.length ≤ 24)) (eB (Cl.fl rods sg).d (.val (.tup (iL sg))) .non (.str "flattens") rods .non .non) := by
      walk_at "px"
      rw [ints_length]
      exact congrArg (fun b => R.ok b _) (gt_24 _)
    have hB : body2 (.fl rods sg) = (!(!decide (sg.length = rods.length) || (!decide (rods.length ≤ 24) || false)) && (sg.all sgB && decide ((mulL sg rods).sum = 0))) := by
      show ((decide (sg.length = rods.length) && decide (rods.length ≤ 24)) && _) = _
      cases decide (sg.length = rods.length) <;> cases decide (rods.length ≤ 24) <;> rfl
    rw [hB]
    refine guard (any_c u2 fun _ => any_c u3 fun _ => any_n) (by simp) fun h1 => ?_
    have h1 : sg.length = rods.length := by
      cases h : decide (sg.length = rods.length) with
      | true => exact of_decide_eq_true h
      | false => rw [h] at h1; simp at h1
    have tf : evT T (callT T (k + 1)) (.cmp .eq (.var 3) (.str "flattens")) (eB (Cl.fl rods sg).d (.val (.tup (iL sg))) .non (.str "flattens") rods .non .non) = .ok true (eB (Cl.fl rods sg).d (.val (.tup (iL sg))) .non (.str "flattens") rods .non .non) := by
      walk_at "px"
      rw [eFF]
      walk_at "px"
    refine ⟨eB (Cl.fl rods sg).d (.val (.tup (iL sg))) .non (.str "flattens") rods .non .non, seq_ret ((if_then tf).trans (seq_ret ?_)), by simp⟩
    have hin : evI T (callT T (k + 1)) (.seq (.var 1)) (eB (Cl.fl rods sg).d (.val (.tup (iL sg))) .non (.str "flattens") rods .non .non) = .ok (iL sg) (eB (Cl.fl rods sg).d (.val (.tup (iL sg))) .non (.str "flattens") rods .non .non) := by walk_at "px"
    have hc1 := comp_bl (T := T) (cf := callT T (k + 1)) (i := 7) (elt := .cmp .isin (.var 7) (.tup (.cons (.int 1) (.cons (.neg (.int 1)) .nil)))) sgB hin rfl (by show _ ≤ 1000000; omega) (fun n hn => by
      show evA T _ _ [.val (Cl.fl rods sg).d, .val (.tup (iL sg)), .non, .val (.str "flattens"), .val (.tup (iL rods)), .non, .non, .val (.int n), .non] = _
      walk_at "px"
      rw [if_pos (by decide)]
      walk_at "px"
      rw [show ([D.int 1, D.int (-1)] : List D) = iL [1, -1] from rfl, isin_tup]
      walk_at "px"
      unfold sgB
      by_cases a : n = 1 <;> by_cases b : n = -1 <;> simp [a, b])
    have hZ : sg.all sgB = true → evA T (callT T (k + 1)) (.comp [7, 5] (.tup (.cons (.nm 7) (.cons (.nm 5) .nil))) (.zip (.cons (.var 1) (.cons (.var 4) .nil))) .nil (.bin .mul (.var 7) (.var 5))) (eB (Cl.fl rods sg).d (.val (.tup (iL sg))) .non (.str "flattens") rods .non .non) =
        .ok (.new (.lst (iL (mulL sg rods)))) (eB (Cl.fl rods sg).d (.val (.tup (iL sg))) .non (.str "flattens") rods .non .non) := fun hs => by
      obtain ⟨z1, z2⟩ := zip2_mem sg rods
      rw [ev_comp]
      refine (bnd_eq (a := zip2 (iL sg) (iL rods)) (e1 := eB (Cl.fl rods sg).d (.val (.tup (iL sg))) .non (.str "flattens") rods .non .non) ?_).trans ?_
      · walk_at "px"
      · rw [compM_ok (own := [7, 5]) (fun d => match d with | .tup [.int x, .int y] => some (D.int (x * y)) | _ => none) rfl (fun d hd => ?_) (by show _ ≤ 1000000; omega)]
        · rw [mulL_d]
        · obtain ⟨x, y, rfl, hx, hy⟩ := z2 d hd
          refine ⟨[.val (Cl.fl rods sg).d, .val (.tup (iL sg)), .non, .val (.str "flattens"), .val (.tup (iL rods)), .val (.int y), .non, .val (.int x), .non], ?_, rfl⟩
          show turnM _ _ _ _ [.val (Cl.fl rods sg).d, .val (.tup (iL sg)), .non, .val (.str "flattens"), .val (.tup (iL rods)), .non, .non, .non, .non] = _
          unfold turnM
          walk_at "px"
          rw [if_pos (okMul (all_sg hs x hx))]
          walk_at "px"
    walk_at "px"
    rw [hc1]
    walk_at "px"
    rw [all_map]
    cases hs : sg.all sgB with
    | false => walk_at "px"
    | true =>
      walk_at "px"
      rw [hZ hs]
      walk_at "px"
      rfl
  | st rods ls =>
    obtain ⟨hl, hv, hls⟩ := hc
    show ∃ e', evSs T _ _ (eB (Cl.st rods ls).d .non .non (.str "stands") rods .non .non) = _ ∧ _
    have tf : evT T (callT T (k + 1)) (.cmp .eq (.var 3) (.str "closes")) (eB (Cl.st rods ls).d .non .non (.str "stands") rods .non .non) = .ok false (eB (Cl.st rods ls).d .non .non (.str "stands") rods .non .non) := by
      walk_at "px"
      rw [eSC]
      walk_at "px"
    rw [seq_next (if_no tf)]
    have q1 : evS T (callT T (k + 1)) (.asg (.nm 1) (.idx (.var 0) (.int 2))) (eB (Cl.st rods ls).d .non .non (.str "stands") rods .non .non) = .ok .next (eB (Cl.st rods ls).d (.val (.tup (ls.map tT))) .non (.str "stands") rods .non .non) := rfl
    rw [seq_next q1]
    have tf : evT T (callT T (k + 1)) (.cmp .eq (.var 3) (.str "gapes")) (eB (Cl.st rods ls).d (.val (.tup (ls.map tT))) .non (.str "stands") rods .non .non) = .ok false (eB (Cl.st rods ls).d (.val (.tup (ls.map tT))) .non (.str "stands") rods .non .non) := by
      walk_at "px"
      rw [eSG]
      walk_at "px"
    rw [seq_next (if_no tf)]
    have hlen : (ls.map tT).length = ls.length := List.length_map _
    have u2 : evT T (callT T (k + 1)) (.cmp .ne (.bi .len (.cons (.var 1) .nil)) (.bi .len (.cons (.var 4) .nil))) (eB (Cl.st rods ls).d (.val (.tup (ls.map tT))) .non (.str "stands") rods .non .non) = .ok (!decide (ls.length = rods.length)) (eB (Cl.st rods ls).d (.val (.tup (ls.map tT))) .non (.str "stands") rods .non .non) := by
      walk_at "px"
      rw [ints_length, hlen]
      exact congrArg (fun b => R.ok b _) (ne_len _ _)
    have u3 : evT T (callT T (k + 1)) (.cmp .gt (.bi .len (.cons (.var 4) .nil)) (.glob "MOST_ROUND" (.int 24))) (eB (Cl.st rods ls).d (.val (.tup (ls.map tT))) .non (.str "stands") rods .non .non) = .ok (!decide (rods.length ≤ 24)) (eB (Cl.st rods ls).d (.val (.tup (ls.map tT))) .non (.str "stands") rods .non .non) := by
      walk_at "px"
      rw [ints_length]
      exact congrArg (fun b => R.ok b _) (gt_24 _)
    have hB : body2 (.st rods ls) = (!(!decide (ls.length = rods.length) || (!decide (rods.length ≤ 24) || false)) && (chainB [0] rods ls && !decide (0 ∈ lastC [0] ls))) := by
      show ((decide (ls.length = rods.length) && decide (rods.length ≤ 24)) && _) = _
      cases decide (ls.length = rods.length) <;> cases decide (rods.length ≤ 24) <;> rfl
    rw [hB]
    refine guard (any_c u2 fun _ => any_c u3 fun _ => any_n) (by simp) fun h1 => ?_
    have h1 : ls.length = rods.length := by
      cases h : decide (ls.length = rods.length) with
      | true => exact of_decide_eq_true h
      | false => rw [h] at h1; simp at h1
    have tf : evT T (callT T (k + 1)) (.cmp .eq (.var 3) (.str "flattens")) (eB (Cl.st rods ls).d (.val (.tup (ls.map tT))) .non (.str "stands") rods .non .non) = .ok false (eB (Cl.st rods ls).d (.val (.tup (ls.map tT))) .non (.str "stands") rods .non .non) := by
      walk_at "px"
      rw [eSF]
      walk_at "px"
    rw [seq_next (if_no tf)]
    have q2 : evS T (callT T (k + 1)) (.asg (.nm 2) (.tup (.cons (.int 0) .nil))) (eB (Cl.st rods ls).d (.val (.tup (ls.map tT))) .non (.str "stands") rods .non .non) = .ok .next (eB (Cl.st rods ls).d (.val (.tup (ls.map tT))) (.val (tT [0])) (.str "stands") rods .non .non) := rfl
    rw [seq_next q2]
    obtain ⟨p', t5, t6, hp', hL⟩ := loopB k (Cl.st rods ls).d (.str "stands") (.val (.tup (ls.map tT))) rods rods ls [0] .non .non h1.symm (.inl rfl) (.inl rfl) (by simp) hls
    have hit : evI T (callT T (k + 1)) (.zip (.cons (.var 4) (.cons (.var 1) .nil))) (eB (Cl.st rods ls).d (.val (.tup (ls.map tT))) (.val (tT [0])) (.str "stands") rods .non .non) = .ok (zip2 (iL rods) (ls.map tT)) (eB (Cl.st rods ls).d (.val (.tup (ls.map tT))) (.val (tT [0])) (.str "stands") rods .non .non) := by walk_at "px"
    have q4 := (for_it hit).trans hL
    refine ⟨eB (Cl.st rods ls).d (.val (.tup (ls.map tT))) (.val (tT p')) (.str "stands") rods t5 t6, ?_, by simp⟩
    cases hch : chainB [0] rods ls with
    | true =>
      rw [hch] at q4
      rw [seq_next q4, hp' hch]
      refine seq_ret ?_
      unfold tT
      walk_at "px"
    | false =>
      rw [hch] at q4
      exact seq_ret q4
end PXk21

end
section
set_option Elab.async false
set_option linter.all false
set_option maxRecDepth 100000
set_option maxHeartbeats 4000000
namespace PXk21
open PX
local macro_rules | `(tactic| walk_at "px") => `(tactic| simp only [evSs, evS, v0, v1, v2, v3, v4, v5, v6, v7, v8, v9, v10, v11, v12, v13, v14, v15, v16, v17, v18, v19, v20, v21, v22, v23, v24, v25, v26, v27, evL, evAs, evO, evT, evAll, evAny, evI, evG, evGs, bnd, ret, bad, ofO, ofAV, opr, oper, binM, unM, cmp2M, dataM, toD, frz, viewM, viewsM, view, rdSlot, rdVar, putSlot, modSlot, lenG, lenXs, binD, truD, biD, negD, oneInt, Cell.d, seqD, itemsD, enumD, zipD, seqL, rng2, rngTwo, rngD, slD, revD, isTy, lstAt, isDct, appC, subC, callM, refs_nil, refs_d, toArgs, toArg, set_own, setOuts, setOut, outsOf, outOf, args0, List.replicate, isin_tup, isin_lst, notin_tup, PX.eq_int, PX.ne_int, PX.eq_bl, PX.ne_bl, lt_i, le_i, gt_i, ge_i, Option.bind_some, Option.map_some, List.nil_append, List.cons_append, List.append_nil, List.getElem?_cons_zero, List.getElem?_cons_succ, List.set_cons_zero, List.set_cons_succ, List.length_cons, List.length_nil, allInt_ints, allBl_bls, Bool.not_true, Bool.not_false, Bool.and_true, Bool.true_and, Bool.false_and, Bool.and_false, Bool.or_true, Bool.true_or, Bool.or_false, Bool.false_or, Bool.false_eq_true, if_true, if_false, reduceIte, Nat.reduceAdd, Nat.reduceSub])
/-! ### _law_right -/
abbrev eR (C : D) (s1 s2 s3 : Slot) (f : D) (rods : List Int) : Env := [.val C, s1, s2, s3, .val f, .val (.tup (iL rods)), .non, .non, .non]
theorem eqNilL (l : List Int) : cmpD .eq (.lst (iL l)) (.lst []) = some l.isEmpty := by
  have e1 : (okEq (.lst (iL l)) && okEq (.lst [])) = true := by simp [okEq, D.plain, D.depth, plainL_ints, depthL_ints, plainL, depthL]
  show (if (okEq (.lst (iL l)) && okEq (.lst [])) = true then some (deq (.lst (iL l)) (.lst [])) else none) = _
  rw [if_pos e1]
  cases l <;> rfl
theorem filt_all (l xs : List Int) : (xs.filter fun x => !decide (x ∈ l)).isEmpty = xs.all (fun x => decide (x ∈ l)) := by
  induction xs with
  | nil => rfl
  | cons x r ih =>
    rw [List.filter_cons, List.all_cons]
    cases h : decide (x ∈ l) <;> simp_all
theorem filt_p (p : Int → Bool) (xs : List Int) : (xs.filter fun x => !p x).isEmpty = xs.all p := by
  induction xs with
  | nil => rfl
  | cons x r ih =>
    rw [List.filter_cons, List.all_cons]
    cases h : p x <;> simp_all
abbrev bodyK : Ss := .cons (.ifs (.cmp .ne (.comp [7] (.nm 7) (.seq (.call 3 (.cons (.var 2) (.cons (.idx (.var 5) (.var 3)) .nil)))) (.cons (.cmp .notin (.var 7) (.idx (.var 1) (.var 3))) .nil) (.var 7)) (.lst .nil)) (.cons (.ret (.bl false)) .nil) .nil) (.cons (.asg (.nm 2) (.idx (.var 1) (.var 3))) .nil)
theorem stepK (k : Nat) (C f : D) (p rods : List Int) (ls : List (List Int)) (r : Int) (l : List Int) (i : Nat) (hp : p.length ≤ 2000) (hr : rods[i]? = some r) (hl : ls[i]? = some l) :
    evS T (callT T (k + 1)) (.ifs (.cmp .ne (.comp [7] (.nm 7) (.seq (.call 3 (.cons (.var 2) (.cons (.idx (.var 5) (.var 3)) .nil)))) (.cons (.cmp .notin (.var 7) (.idx (.var 1) (.var 3))) .nil) (.var 7)) (.lst .nil)) (.cons (.ret (.bl false)) .nil) .nil) (eR C (.val (.tup (ls.map tT))) (.val (tT p)) (.val (.int (i : Int))) f rods) =
      .ok (if (sums p r).all (fun x => decide (x ∈ l)) then .next else .ret (.d (.bl false))) (eR C (.val (.tup (ls.map tT))) (.val (tT p)) (.val (.int (i : Int))) f rods) := by
  have c3 : refsOf T 3 = [false, false] := rfl
  have ir : idxD (.tup (iL rods)) (.int (i : Int)) = some (.int r) := (idx_at (iL rods) i (.int r) (by rw [ints_get, hr]; rfl)).2
  have il : idxD (.tup (ls.map tT)) (.int (i : Int)) = some (.tup (iL l)) := (idx_at (ls.map tT) i (tT l) (by rw [List.getElem?_map, hl]; rfl)).2
  have hi : evI T (callT T (k + 1)) (.seq (.call 3 (.cons (.var 2) (.cons (.idx (.var 5) (.var 3)) .nil)))) (eR C (.val (.tup (ls.map tT))) (.val (tT p)) (.val (.int (i : Int))) f rods) = .ok (iL (sums p r)) (eR C (.val (.tup (ls.map tT))) (.val (tT p)) (.val (.int (i : Int))) f rods) := by
    unfold tT
    walk_at "px"
    rw [c3]
    walk_at "px"
    rw [ir]
    walk_at "px"
    rw [r0L k p r hp]
    walk_at "px"
  have hc := comp_fl (T := T) (cf := callT T (k + 1)) (i := 7) (t := .cmp .notin (.var 7) (.idx (.var 1) (.var 3))) (fun x => !decide (x ∈ l)) hi rfl (by have := sums_len p r hp; show _ ≤ 1000000; omega) (fun n hn => by
    show evT T _ _ [.val C, .val (.tup (ls.map tT)), .val (.tup (iL p)), .val (.int (i : Int)), .val f, .val (.tup (iL rods)), .non, .val (.int n), .non] = _
    walk_at "px"
    rw [il]
    walk_at "px"
    rfl) (by simp)
  have ht : evT T (callT T (k + 1)) (.cmp .ne (.comp [7] (.nm 7) (.seq (.call 3 (.cons (.var 2) (.cons (.idx (.var 5) (.var 3)) .nil)))) (.cons (.cmp .notin (.var 7) (.idx (.var 1) (.var 3))) .nil) (.var 7)) (.lst .nil)) (eR C (.val (.tup (ls.map tT))) (.val (tT p)) (.val (.int (i : Int))) f rods) = .ok (!(sums p r).all (fun x => decide (x ∈ l))) (eR C (.val (.tup (ls.map tT))) (.val (tT p)) (.val (.int (i : Int))) f rods) := by
    walk_at "px"
    rw [hc]
    walk_at "px"
    rw [if_pos (by decide)]
    walk_at "px"
    rw [(neNil _).2, filt_all]
    walk_at "px"
  cases h : (sums p r).all (fun x => decide (x ∈ l)) with
  | true =>
    rw [h] at ht
    rw [if_else ht]
    rfl
  | false =>
    rw [h] at ht
    rw [if_then ht]
    rfl
theorem loopK (k : Nat) (C f : D) (rods : List Int) (ls : List (List Int)) (hlen : ls.length = rods.length) (hl : ∀ l ∈ ls, l.length ≤ 2000) : ∀ (j i : Nat) (p : List Int) (s3 : Slot), i + j = rods.length → Free s3 → p.length ≤ 2000 →
    ∃ p' s3', (chainB p (rods.drop i) (ls.drop i) = true → p' = lastC p (ls.drop i)) ∧ forLoop (evG T (callT T (k + 1)) (.nm 3)) (evSs T (callT T (k + 1)) bodyK) ((List.range' i j).map fun (x : Nat) => D.int ((x : Nat) : Int)) (eR C (.val (.tup (ls.map tT))) (.val (tT p)) s3 f rods) =
      .ok (if chainB p (rods.drop i) (ls.drop i) then .next else .ret (.d (.bl false))) (eR C (.val (.tup (ls.map tT))) (.val (tT p')) s3' f rods)
  | 0, i, p, s3, hi, _, _ => ⟨p, s3, fun _ => by rw [List.drop_eq_nil_of_le (show ls.length ≤ i by omega)]; rfl, by rw [List.drop_eq_nil_of_le (show rods.length ≤ i by omega)]; rfl⟩
  | j + 1, i, p, s3, hi, h3, hp => by
    have hr : rods[i]? = some rods[i] := List.getElem?_eq_getElem (by omega)
    have hli : ls[i]? = some ls[i] := List.getElem?_eq_getElem (by omega)
    have il : idxD (.tup (ls.map tT)) (.int (i : Int)) = some (.tup (iL ls[i])) := (idx_at (ls.map tT) i (tT ls[i]) (by rw [List.getElem?_map, hli]; rfl)).2
    have hs := stepK k C f p rods ls rods[i] ls[i] i hp hr hli
    have hg : evG T (callT T (k + 1)) (.nm 3) (.int (i : Int)) (eR C (.val (.tup (ls.map tT))) (.val (tT p)) s3 f rods) = .ok () (eR C (.val (.tup (ls.map tT))) (.val (tT p)) (.val (.int (i : Int))) f rods) := by
      exact put_free (i := 3) (s := s3) rfl h3
    have e0 : chainB p (rods.drop i) (ls.drop i) = ((sums p rods[i]).all (fun x => decide (x ∈ ls[i])) && chainB ls[i] (rods.drop (i + 1)) (ls.drop (i + 1))) := by
      rw [List.drop_eq_getElem_cons (show i < rods.length by omega), List.drop_eq_getElem_cons (show i < ls.length by omega)]
      rfl
    have e1 : lastC p (ls.drop i) = lastC ls[i] (ls.drop (i + 1)) := by
      rw [List.drop_eq_getElem_cons (show i < ls.length by omega)]
      rfl
    rw [List.range'_succ, List.map_cons, e0, e1]
    cases hc : (sums p rods[i]).all (fun x => decide (x ∈ ls[i])) with
    | false =>
      rw [hc] at hs
      exact ⟨p, .val (.int (i : Int)), fun h => absurd h (by simp), for_ret hg (seq_ret hs)⟩
    | true =>
      rw [hc] at hs
      obtain ⟨p', t3, ih0, ih⟩ := loopK k C f rods ls hlen hl j (i + 1) ls[i] (.val (.int (i : Int))) (by omega) (.inr ⟨_, rfl⟩) (hl _ (List.mem_of_getElem? hli))
      refine ⟨p', t3, fun h => ih0 (by simpa using h), ?_⟩
      refine (for_next hg (e2 := eR C (.val (.tup (ls.map tT))) (.val (tT ls[i])) (.val (.int (i : Int))) f rods) ?_).trans (ih.trans rfl)
      rw [seq_next hs]
      have hput : evS T (callT T (k + 1)) (.asg (.nm 2) (.idx (.var 1) (.var 3))) (eR C (.val (.tup (ls.map tT))) (.val (tT p)) (.val (.int (i : Int))) f rods) = .ok .next (eR C (.val (.tup (ls.map tT))) (.val (tT ls[i])) (.val (.int (i : Int))) f rods) := by
        walk_at "px"
        rw [il]
        walk_at "px"
        rfl
      rw [seq_next hput]
      rfl
theorem head11 (k : Nat) (C f : D) (rods : List Int) (hl : rods.length ≤ 1000) : evT T (callT T (k + 1)) (.or (.cons (.not (.cmp2 .le .le (.int 1) (.bi .len (.cons (.var 5) .nil)) (.int 40))) (.cons (.cmp .isin (.bl false) (.comp [6] (.nm 6) (.seq (.var 5)) .nil (.cmp2 .le .le (.int 1) (.var 6) (.int 200)))) .nil))) (eR C .non .non .non f rods) = .ok (!areRods rods) (eR C .non .non .non f rods) := by
  have u1 : evT T (callT T (k + 1)) (.not (.cmp2 .le .le (.int 1) (.bi .len (.cons (.var 5) .nil)) (.int 40))) (eR C .non .non .non f rods) = .ok (!(decide (1 ≤ (rods.length : Int)) && decide ((rods.length : Int) ≤ 40))) (eR C .non .non .non f rods) := by
    walk_at "px"
    rw [ints_length]
    cases decide (1 ≤ (rods.length : Int)) <;> walk_at "px"
  have hi : evI T (callT T (k + 1)) (.seq (.var 5)) (eR C .non .non .non f rods) = .ok (iL rods) (eR C .non .non .non f rods) := by walk_at "px"
  have hc := comp_bl (T := T) (cf := callT T (k + 1)) (i := 6) (elt := .cmp2 .le .le (.int 1) (.var 6) (.int 200)) (fun r => decide (1 ≤ r) && decide (r ≤ 200)) hi rfl (by show _ ≤ 1000000; omega) (fun n hn => by
    show evA T _ _ [.val C, .non, .non, .non, .val f, .val (.tup (iL rods)), .val (.int n), .non, .non] = _
    walk_at "px"
    cases decide (1 ≤ n) <;> walk_at "px")
  have u2 : evT T (callT T (k + 1)) (.cmp .isin (.bl false) (.comp [6] (.nm 6) (.seq (.var 5)) .nil (.cmp2 .le .le (.int 1) (.var 6) (.int 200)))) (eR C .non .non .non f rods) = .ok (!rods.all (fun r => decide (1 ≤ r) && decide (r ≤ 200))) (eR C .non .non .non f rods) := by
    walk_at "px"
    rw [hc]
    walk_at "px"
    rw [isinB, false_in]
    walk_at "px"
  refine (any_c u1 fun _ => any_c u2 fun _ => any_n).trans ?_
  unfold areRods
  cases decide (1 ≤ (rods.length : Int)) <;> cases decide ((rods.length : Int) ≤ 40) <;> cases rods.all (fun r => decide (1 ≤ r) && decide (r ≤ 200)) <;> rfl
theorem mul_rng : ∀ (sg rods : List Int), sg.length = rods.length → ((List.range rods.length).map fun (x : Nat) => ((x : Nat) : Int)).map (fun i => sg.getD i.toNat 0 * rods.getD i.toNat 0) = mulL sg rods
  | [], [], _ => rfl
  | s :: sg, r :: rods, h => by
    have ih := mul_rng sg rods (by simpa using h)
    rw [List.length_cons, List.range_succ_eq_map]
    simp only [List.map_cons, List.map_map] at ih ⊢
    show s * r :: _ = s * r :: mulL sg rods
    rw [← ih]
    rfl
  | [], _ :: _, h => by simp at h
  | _ :: _, [], h => by simp at h
theorem getD_of {l : List Int} {j : Nat} (h : j < l.length) : l[j]? = some (l.getD j 0) := by
  rw [List.getElem?_eq_getElem h]
  simp [List.getD, List.getElem?_eq_getElem h]
theorem idx_getD {l : List Int} {j : Nat} (h : j < l.length) : idxD (.tup (iL l)) (.int (j : Int)) = some (.int (l.getD j 0)) :=
  (idx_at (iL l) j _ (by rw [ints_get, getD_of h]; rfl)).2
theorem idx_getI {l : List Int} {n : Int} (h0 : 0 ≤ n) (h : n < l.length) : idxD (.tup (iL l)) (.int n) = some (.int (l.getD n.toNat 0)) := by
  have := idx_getD (l := l) (j := n.toNat) (by omega)
  rwa [show ((n.toNat : Nat) : Int) = n by omega] at this
theorem mulTurn {cf : Cf} (C f : D) (sg rods : List Int) (n x y : Int) (h1 : idxD (.tup (iL sg)) (.int n) = some (.int x)) (h2 : idxD (.tup (iL rods)) (.int n) = some (.int y)) (hx : Sgn x) :
    turnM (evG T cf (.nm 3)) (evAll T cf .nil) (dataM (evA T cf (.bin .mul (.idx (.var 1) (.var 3)) (.idx (.var 5) (.var 3))))) (.int n) [.val C, .val (.tup (iL sg)), .non, .non, .val f, .val (.tup (iL rods)), .non, .non, .non] = .ok (some (.int (x * y))) [.val C, .val (.tup (iL sg)), .non, .val (.int n), .val f, .val (.tup (iL rods)), .non, .non, .non] := by
  unfold turnM
  walk_at "px"
  rw [h1]
  walk_at "px"
  rw [h2]
  walk_at "px"
  rw [if_pos (okMul hx)]
  walk_at "px"
theorem and_bl {cf : Cf} {a b : X} {e : Env} {x y : Bool} (h : evA T cf a e = .ok (.d (.bl x)) e) (h2 : x = true → evA T cf b e = .ok (.d (.bl y)) e) : evA T cf (.and a b) e = .ok (.d (.bl (x && y))) e := by
  simp only [evA]
  have h' : opr (evA T cf a) e = .ok (.d (.bl x)) e := by unfold opr; rw [bnd_eq h]; rfl
  rw [bnd_eq h']
  cases x with
  | false => rfl
  | true =>
    show evA T cf b e = _
    rw [h2 rfl, Bool.true_and]
theorem sum_eq0 {cf : Cf} {c : X} {e : Env} {ns : List Int} (h : evA T cf c e = .ok (.new (.lst (iL ns))) e) : evA T cf (.cmp .eq (.bi .sum (.cons c .nil)) (.int 0)) e = .ok (.d (.bl (decide (ns.sum = 0)))) e := by
  walk_at "px"
  rw [h]
  walk_at "px"
  rfl
theorem r10_cl (k : Nat) (rods : List Int) (hc : (Cl.cl rods).Sz) : callT T (k + 2) 10 [.d (Cl.cl rods).d] = .ok (.d (.bl (rightB (Cl.cl rods)))) [none] := by
  have fin : ∀ {C : D} {B : Bool}, (∃ e', evSs T (callT T (k + 1)) f10.body [.val C, .non, .non, .non, .non, .non, .non, .non, .non] = .ok (.ret (.d (.bl B))) e' ∧ 1 ≤ e'.length) → callT T (k + 2) 10 [.d C] = .ok (.d (.bl B)) [none] := fun {C B} ⟨e', h, h1⟩ =>
    run_d (T := T) (cf := callT T (k + 1)) (ds := [C]) (e := e') (a := .d (.bl B)) rfl h rfl h1
  refine fin ?_
  have hr : rods.length ≤ 1000 := hc.r
  unfold f10
  simp only [ss]
  have q0 : evS T (callT T (k + 1)) (.asg (.tup (.cons (.nm 4) (.cons (.nm 5) .nil))) (.sl (.var 0) .none (.some (.int 2)))) [.val (Cl.cl rods).d, .non, .non, .non, .non, .non, .non, .non, .non] = .ok .next (eR (Cl.cl rods).d .non .non .non (.str "closes") rods) := rfl
  rw [seq_next q0]
  have hB : rightB (Cl.cl rods) = (!(!areRods rods) && body2 (Cl.cl rods)) := by rw [Bool.not_not]; rfl
  rw [hB]
  refine guard (head11 k _ _ _ hr) (by simp) fun h0 => ?_
  have h0 : areRods rods = true := by simpa using h0
  obtain ⟨n1, n2, n3⟩ := rods_of h0
  show ∃ e', evSs T _ _ (eR (Cl.cl rods).d .non .non .non (.str "closes") rods) = _ ∧ _
  have tf : evT T (callT T (k + 1)) (.cmp .eq (.var 4) (.str "closes")) (eR (Cl.cl rods).d .non .non .non (.str "closes") rods) = .ok true (eR (Cl.cl rods).d .non .non .non (.str "closes") rods) := by
    walk_at "px"
    rw [eCC]
    walk_at "px"
  refine ⟨eR (Cl.cl rods).d .non .non .non (.str "closes") rods, seq_ret ((if_then tf).trans (seq_ret ?_)), by simp⟩
  have hi : evI T (callT T (k + 1)) (.seq (.var 5)) (eR (Cl.cl rods).d .non .non .non (.str "closes") rods) = .ok (iL rods) (eR (Cl.cl rods).d .non .non .non (.str "closes") rods) := by walk_at "px"
  have hc := comp_bl (T := T) (cf := callT T (k + 1)) (i := 6) (elt := .cmp .gt (.bin .mul (.int 2) (.var 6)) (.bi .sum (.cons (.var 5) .nil))) (fun r => !decide (2 * r ≤ rods.sum)) hi rfl (by show _ ≤ 1000000; exact Nat.le_trans hr (by decide)) (fun n hn => by
    show evA T _ _ [.val (Cl.cl rods).d, .non, .non, .non, .val (.str "closes"), .val (.tup (iL rods)), .val (.int n), .non, .non] = _
    walk_at "px"
    rw [if_pos (mul2 _)]
    walk_at "px"
    by_cases h : 2 * n ≤ rods.sum
    · rw [decide_eq_true h, decide_eq_false (show ¬ rods.sum < 2 * n by omega)]; rfl
    · rw [decide_eq_false h, decide_eq_true (show rods.sum < 2 * n by omega)]; rfl)
  walk_at "px"
  rw [hc]
  walk_at "px"
  rw [notinB, true_in]
  walk_at "px"
  exact congrArg (fun b => R.ok (Flow.ret (AV.d (D.bl b))) _) (Bool.not_not _)
theorem r10_ga (k : Nat) (rods : List Int) (t : Int) (hc : (Cl.ga rods t).Sz) : callT T (k + 2) 10 [.d (Cl.ga rods t).d] = .ok (.d (.bl (rightB (Cl.ga rods t)))) [none] := by
  have fin : ∀ {C : D} {B : Bool}, (∃ e', evSs T (callT T (k + 1)) f10.body [.val C, .non, .non, .non, .non, .non, .non, .non, .non] = .ok (.ret (.d (.bl B))) e' ∧ 1 ≤ e'.length) → callT T (k + 2) 10 [.d C] = .ok (.d (.bl B)) [none] := fun {C B} ⟨e', h, h1⟩ =>
    run_d (T := T) (cf := callT T (k + 1)) (ds := [C]) (e := e') (a := .d (.bl B)) rfl h rfl h1
  refine fin ?_
  have hr : rods.length ≤ 1000 := hc.r
  unfold f10
  simp only [ss]
  have q0 : evS T (callT T (k + 1)) (.asg (.tup (.cons (.nm 4) (.cons (.nm 5) .nil))) (.sl (.var 0) .none (.some (.int 2)))) [.val (Cl.ga rods t).d, .non, .non, .non, .non, .non, .non, .non, .non] = .ok .next (eR (Cl.ga rods t).d .non .non .non (.str "gapes") rods) := rfl
  rw [seq_next q0]
  have hB : rightB (Cl.ga rods t) = (!(!areRods rods) && body2 (Cl.ga rods t)) := by rw [Bool.not_not]; rfl
  rw [hB]
  refine guard (head11 k _ _ _ hr) (by simp) fun h0 => ?_
  have h0 : areRods rods = true := by simpa using h0
  obtain ⟨n1, n2, n3⟩ := rods_of h0
  show ∃ e', evSs T _ _ (eR (Cl.ga rods t).d .non .non .non (.str "gapes") rods) = _ ∧ _
  have tf : evT T (callT T (k + 1)) (.cmp .eq (.var 4) (.str "closes")) (eR (Cl.ga rods t).d .non .non .non (.str "gapes") rods) = .ok false (eR (Cl.ga rods t).d .non .non .non (.str "gapes") rods) := by
    walk_at "px"
    rw [eGC]
    walk_at "px"
  rw [seq_next (if_no tf)]
  have q1 : evS T (callT T (k + 1)) (.asg (.nm 1) (.idx (.var 0) (.int 2))) (eR (Cl.ga rods t).d .non .non .non (.str "gapes") rods) = .ok .next (eR (Cl.ga rods t).d (.val (.int t)) .non .non (.str "gapes") rods) := rfl
  rw [seq_next q1]
  have tf : evT T (callT T (k + 1)) (.cmp .eq (.var 4) (.str "gapes")) (eR (Cl.ga rods t).d (.val (.int t)) .non .non (.str "gapes") rods) = .ok true (eR (Cl.ga rods t).d (.val (.int t)) .non .non (.str "gapes") rods) := by
    walk_at "px"
    rw [eGG]
    walk_at "px"
  refine ⟨eR (Cl.ga rods t).d (.val (.int t)) .non .non (.str "gapes") rods, seq_ret ((if_then tf).trans (seq_ret ?_)), by simp⟩
  unfold body2
  walk_at "px"
  by_cases h1 : 0 ≤ t
  · rw [decide_eq_true h1]
    walk_at "px"
    rw [ints_length]
    by_cases h2 : t < rods.length
    · rw [decide_eq_true h2]
      walk_at "px"
      have ir : idxD (.tup (iL rods)) (.int t) = some (.int (rods.getD t.toNat 0)) := by
        have := idx_getD (l := rods) (j := t.toNat) (by omega)
        rwa [show ((t.toNat : Nat) : Int) = t by omega] at this
      rw [ir]
      walk_at "px"
      rw [if_pos (mul2 _)]
      walk_at "px"
    · rw [decide_eq_false h2]
      walk_at "px"
  · rw [decide_eq_false h1]
    walk_at "px"
theorem r10_fl (k : Nat) (rods sg : List Int) (hc : (Cl.fl rods sg).Sz) : callT T (k + 2) 10 [.d (Cl.fl rods sg).d] = .ok (.d (.bl (rightB (Cl.fl rods sg)))) [none] := by
  have fin : ∀ {C : D} {B : Bool}, (∃ e', evSs T (callT T (k + 1)) f10.body [.val C, .non, .non, .non, .non, .non, .non, .non, .non] = .ok (.ret (.d (.bl B))) e' ∧ 1 ≤ e'.length) → callT T (k + 2) 10 [.d C] = .ok (.d (.bl B)) [none] := fun {C B} ⟨e', h, h1⟩ =>
    run_d (T := T) (cf := callT T (k + 1)) (ds := [C]) (e := e') (a := .d (.bl B)) rfl h rfl h1
  refine fin ?_
  have hr : rods.length ≤ 1000 := hc.r
  unfold f10
  simp only [ss]
  have q0 : evS T (callT T (k + 1)) (.asg (.tup (.cons (.nm 4) (.cons (.nm 5) .nil))) (.sl (.var 0) .none (.some (.int 2)))) [.val (Cl.fl rods sg).d, .non, .non, .non, .non, .non, .non, .non, .non] = .ok .next (eR (Cl.fl rods sg).d .non .non .non (.str "flattens") rods) := rfl
  rw [seq_next q0]
  have hB : rightB (Cl.fl rods sg) = (!(!areRods rods) && body2 (Cl.fl rods sg)) := by rw [Bool.not_not]; rfl
  rw [hB]
  refine guard (head11 k _ _ _ hr) (by simp) fun h0 => ?_
  have h0 : areRods rods = true := by simpa using h0
  obtain ⟨n1, n2, n3⟩ := rods_of h0
  obtain ⟨hl, hv⟩ := hc
  show ∃ e', evSs T _ _ (eR (Cl.fl rods sg).d .non .non .non (.str "flattens") rods) = _ ∧ _
  have tf : evT T (callT T (k + 1)) (.cmp .eq (.var 4) (.str "closes")) (eR (Cl.fl rods sg).d .non .non .non (.str "flattens") rods) = .ok false (eR (Cl.fl rods sg).d .non .non .non (.str "flattens") rods) := by
    walk_at "px"
    rw [eFC]
    walk_at "px"
  rw [seq_next (if_no tf)]
  have q1 : evS T (callT T (k + 1)) (.asg (.nm 1) (.idx (.var 0) (.int 2))) (eR (Cl.fl rods sg).d .non .non .non (.str "flattens") rods) = .ok .next (eR (Cl.fl rods sg).d (.val (.tup (iL sg))) .non .non (.str "flattens") rods) := rfl
  rw [seq_next q1]
  have tf : evT T (callT T (k + 1)) (.cmp .eq (.var 4) (.str "gapes")) (eR (Cl.fl rods sg).d (.val (.tup (iL sg))) .non .non (.str "flattens") rods) = .ok false (eR (Cl.fl rods sg).d (.val (.tup (iL sg))) .non .non (.str "flattens") rods) := by
    walk_at "px"
    rw [eFG]
    walk_at "px"
  rw [seq_next (if_no tf)]
  have u2 : evT T (callT T (k + 1)) (.cmp .ne (.bi .len (.cons (.var 1) .nil)) (.bi .len (.cons (.var 5) .nil))) (eR (Cl.fl rods sg).d (.val (.tup (iL sg))) .non .non (.str "flattens") rods) = .ok (!decide (sg.length = rods.length)) (eR (Cl.fl rods sg).d (.val (.tup (iL sg))) .non .non (.str "flattens") rods) := by
    walk_at "px"
    rw [ints_length, ints_length]
    exact congrArg (fun b => R.ok b _) (ne_len _ _)
  have u3 : evT T (callT T (k + 1)) (.cmp .gt (.bi .len (.cons (.var 5) .nil)) (.int 24)) (eR (Cl.fl rods sg).d (.val (.tup (iL sg))) .non .non (.str "flattens") rods) = .ok (!decide (rods.length ≤ 24)) (eR (Cl.fl rods sg).d (.val (.tup (iL sg))) .non .non (.str "flattens") rods) := by
    walk_at "px"
    rw [ints_length]
    exact congrArg (fun b => R.ok b _) (gt_24 _)
  have hB : body2 (.fl rods sg) = (!(!decide (sg.length = rods.length) || (!decide (rods.length ≤ 24) || false)) && (sg.all sgB && decide ((mulL sg rods).sum = 0))) := by
    show ((decide (sg.length = rods.length) && decide (rods.length ≤ 24)) && _) = _
    cases decide (sg.length = rods.length) <;> cases decide (rods.length ≤ 24) <;> rfl
  rw [hB]
  refine guard (any_c u2 fun _ => any_c u3 fun _ => any_n) (by simp) fun h1 => ?_
  have h1 : sg.length = rods.length := by
    cases h : decide (sg.length = rods.length) with
    | true => exact of_decide_eq_true h
    | false => rw [h] at h1; simp at h1
  have tf : evT T (callT T (k + 1)) (.cmp .eq (.var 4) (.str "flattens")) (eR (Cl.fl rods sg).d (.val (.tup (iL sg))) .non .non (.str "flattens") rods) = .ok true (eR (Cl.fl rods sg).d (.val (.tup (iL sg))) .non .non (.str "flattens") rods) := by
    walk_at "px"
    rw [eFF]
    walk_at "px"
  refine ⟨eR (Cl.fl rods sg).d (.val (.tup (iL sg))) .non .non (.str "flattens") rods, seq_ret ((if_then tf).trans (seq_ret ?_)), by simp⟩
  have hin : evI T (callT T (k + 1)) (.seq (.var 1)) (eR (Cl.fl rods sg).d (.val (.tup (iL sg))) .non .non (.str "flattens") rods) = .ok (iL sg) (eR (Cl.fl rods sg).d (.val (.tup (iL sg))) .non .non (.str "flattens") rods) := by walk_at "px"
  have hc1 := comp_fl (T := T) (cf := callT T (k + 1)) (i := 8) (t := .cmp .notin (.var 8) (.tup (.cons (.int 1) (.cons (.bin .sub (.int 0) (.int 1)) .nil)))) (fun n => !sgB n) hin rfl (by show _ ≤ 1000000; omega) (fun n hn => by
    show evT T _ _ [.val (Cl.fl rods sg).d, .val (.tup (iL sg)), .non, .non, .val (.str "flattens"), .val (.tup (iL rods)), .non, .non, .val (.int n)] = _
    walk_at "px"
    rw [if_pos (by decide)]
    walk_at "px"
    rw [show ([D.int 1, D.int (0 - 1)] : List D) = iL [1, -1] from rfl, notin_tup]
    walk_at "px"
    unfold sgB
    by_cases a : n = 1 <;> by_cases b : n = -1 <;> simp [a, b]) (by simp)
  have hrng : evI T (callT T (k + 1)) (.rng (.cons (.bi .len (.cons (.var 5) .nil)) .nil)) (eR (Cl.fl rods sg).d (.val (.tup (iL sg))) .non .non (.str "flattens") rods) = .ok (iL ((List.range rods.length).map fun (x : Nat) => ((x : Nat) : Int))) (eR (Cl.fl rods sg).d (.val (.tup (iL sg))) .non .non (.str "flattens") rods) := by
    refine (rng_n rods.length _ rfl (by omega) (evL1 (len_var (A := .tup (iL rods)) (ds := iL rods) rfl (.inl rfl)) |>.trans (by rw [ints_length]))).trans ?_
    rw [← List.range_eq_range']
    unfold iL
    rw [List.map_map]
    rfl
  have hZ : sg.all sgB = true → evA T (callT T (k + 1)) (.comp [3] (.nm 3) (.rng (.cons (.bi .len (.cons (.var 5) .nil)) .nil)) .nil (.bin .mul (.idx (.var 1) (.var 3)) (.idx (.var 5) (.var 3)))) (eR (Cl.fl rods sg).d (.val (.tup (iL sg))) .non .non (.str "flattens") rods) =
      .ok (.new (.lst (iL (mulL sg rods)))) (eR (Cl.fl rods sg).d (.val (.tup (iL sg))) .non .non (.str "flattens") rods) := fun hs => by
    have h := comp_map (T := T) (cf := callT T (k + 1)) (own := [3]) (tg := .nm 3) (ifs := .nil) (elt := .bin .mul (.idx (.var 1) (.var 3)) (.idx (.var 5) (.var 3))) (fun i => .int (sg.getD i.toNat 0 * rods.getD i.toNat 0)) (fun _ => true) hrng rfl (by simp; show _ ≤ 1000000; omega) (fun n hn => by
      have hj : 0 ≤ n ∧ n < rods.length := by
        obtain ⟨j, hj, rfl⟩ := List.mem_map.mp hn
        have hj : j < rods.length := List.mem_range.mp hj
        omega
      have hm : sg.getD n.toNat 0 ∈ sg := List.mem_of_getElem? (getD_of (show n.toNat < sg.length by omega))
      exact ⟨_, mulTurn _ _ sg rods n _ _ (idx_getI hj.1 (by omega)) (idx_getI hj.1 hj.2) (all_sg hs _ hm), rfl⟩)
    rw [h]
    rw [List.filter_eq_self.mpr (by simp), ← mul_rng sg rods h1]
    simp [iL, Function.comp_def]
  have hA : evA T (callT T (k + 1)) (.cmp .eq (.comp [8] (.nm 8) (.seq (.var 1)) (.cons (.cmp .notin (.var 8) (.tup (.cons (.int 1) (.cons (.bin .sub (.int 0) (.int 1)) .nil)))) .nil) (.var 8)) (.lst .nil)) (eR (Cl.fl rods sg).d (.val (.tup (iL sg))) .non .non (.str "flattens") rods) = .ok (.d (.bl (sg.all sgB))) (eR (Cl.fl rods sg).d (.val (.tup (iL sg))) .non .non (.str "flattens") rods) := by
    walk_at "px"
    rw [hc1]
    walk_at "px"
    rw [if_pos (by decide)]
    walk_at "px"
    rw [eqNilL, filt_p]
    walk_at "px"
  have hS : sg.all sgB = true → evA T (callT T (k + 1)) (.cmp .eq (.bi .sum (.cons (.comp [3] (.nm 3) (.rng (.cons (.bi .len (.cons (.var 5) .nil)) .nil)) .nil (.bin .mul (.idx (.var 1) (.var 3)) (.idx (.var 5) (.var 3)))) .nil)) (.int 0)) (eR (Cl.fl rods sg).d (.val (.tup (iL sg))) .non .non (.str "flattens") rods) = .ok (.d (.bl (decide ((mulL sg rods).sum = 0)))) (eR (Cl.fl rods sg).d (.val (.tup (iL sg))) .non .non (.str "flattens") rods) := fun hs => sum_eq0 (hZ hs)
  have hand := and_bl hA hS
  simp only [evS]
  rw [bnd_eq hand]
  rfl
theorem r10_st (k : Nat) (rods : List Int) (ls : List (List Int)) (hc : (Cl.st rods ls).Sz) : callT T (k + 2) 10 [.d (Cl.st rods ls).d] = .ok (.d (.bl (rightB (Cl.st rods ls)))) [none] := by
  have fin : ∀ {C : D} {B : Bool}, (∃ e', evSs T (callT T (k + 1)) f10.body [.val C, .non, .non, .non, .non, .non, .non, .non, .non] = .ok (.ret (.d (.bl B))) e' ∧ 1 ≤ e'.length) → callT T (k + 2) 10 [.d C] = .ok (.d (.bl B)) [none] := fun {C B} ⟨e', h, h1⟩ =>
    run_d (T := T) (cf := callT T (k + 1)) (ds := [C]) (e := e') (a := .d (.bl B)) rfl h rfl h1
  refine fin ?_
  have hr : rods.length ≤ 1000 := hc.r
  unfold f10
  simp only [ss]
  have q0 : evS T (callT T (k + 1)) (.asg (.tup (.cons (.nm 4) (.cons (.nm 5) .nil))) (.sl (.var 0) .none (.some (.int 2)))) [.val (Cl.st rods ls).d, .non, .non, .non, .non, .non, .non, .non, .non] = .ok .next (eR (Cl.st rods ls).d .non .non .non (.str "stands") rods) := rfl
  rw [seq_next q0]
  have hB : rightB (Cl.st rods ls) = (!(!areRods rods) && body2 (Cl.st rods ls)) := by rw [Bool.not_not]; rfl
  rw [hB]
  refine guard (head11 k _ _ _ hr) (by simp) fun h0 => ?_
  have h0 : areRods rods = true := by simpa using h0
  obtain ⟨n1, n2, n3⟩ := rods_of h0
  obtain ⟨hl, hv, hls⟩ := hc
  show ∃ e', evSs T _ _ (eR (Cl.st rods ls).d .non .non .non (.str "stands") rods) = _ ∧ _
  have tf : evT T (callT T (k + 1)) (.cmp .eq (.var 4) (.str "closes")) (eR (Cl.st rods ls).d .non .non .non (.str "stands") rods) = .ok false (eR (Cl.st rods ls).d .non .non .non (.str "stands") rods) := by
    walk_at "px"
    rw [eSC]
    walk_at "px"
  rw [seq_next (if_no tf)]
  have q1 : evS T (callT T (k + 1)) (.asg (.nm 1) (.idx (.var 0) (.int 2))) (eR (Cl.st rods ls).d .non .non .non (.str "stands") rods) = .ok .next (eR (Cl.st rods ls).d (.val (.tup (ls.map tT))) .non .non (.str "stands") rods) := rfl
  rw [seq_next q1]
  have tf : evT T (callT T (k + 1)) (.cmp .eq (.var 4) (.str "gapes")) (eR (Cl.st rods ls).d (.val (.tup (ls.map tT))) .non .non (.str "stands") rods) = .ok false (eR (Cl.st rods ls).d (.val (.tup (ls.map tT))) .non .non (.str "stands") rods) := by
    walk_at "px"
    rw [eSG]
    walk_at "px"
  rw [seq_next (if_no tf)]
  have hlen : (ls.map tT).length = ls.length := List.length_map _
  have u2 : evT T (callT T (k + 1)) (.cmp .ne (.bi .len (.cons (.var 1) .nil)) (.bi .len (.cons (.var 5) .nil))) (eR (Cl.st rods ls).d (.val (.tup (ls.map tT))) .non .non (.str "stands") rods) = .ok (!decide (ls.length = rods.length)) (eR (Cl.st rods ls).d (.val (.tup (ls.map tT))) .non .non (.str "stands") rods) := by
    walk_at "px"
    rw [ints_length, hlen]
    exact congrArg (fun b => R.ok b _) (ne_len _ _)
  have u3 : evT T (callT T (k + 1)) (.cmp .gt (.bi .len (.cons (.var 5) .nil)) (.int 24)) (eR (Cl.st rods ls).d (.val (.tup (ls.map tT))) .non .non (.str "stands") rods) = .ok (!decide (rods.length ≤ 24)) (eR (Cl.st rods ls).d (.val (.tup (ls.map tT))) .non .non (.str "stands") rods) := by
    walk_at "px"
    rw [ints_length]
    exact congrArg (fun b => R.ok b _) (gt_24 _)
  have hB : body2 (.st rods ls) = (!(!decide (ls.length = rods.length) || (!decide (rods.length ≤ 24) || false)) && (chainB [0] rods ls && !decide (0 ∈ lastC [0] ls))) := by
    show ((decide (ls.length = rods.length) && decide (rods.length ≤ 24)) && _) = _
    cases decide (ls.length = rods.length) <;> cases decide (rods.length ≤ 24) <;> rfl
  rw [hB]
  refine guard (any_c u2 fun _ => any_c u3 fun _ => any_n) (by simp) fun h1 => ?_
  have h1 : ls.length = rods.length := by
    cases h : decide (ls.length = rods.length) with
    | true => exact of_decide_eq_true h
    | false => rw [h] at h1; simp at h1
  have tf : evT T (callT T (k + 1)) (.cmp .eq (.var 4) (.str "flattens")) (eR (Cl.st rods ls).d (.val (.tup (ls.map tT))) .non .non (.str "stands") rods) = .ok false (eR (Cl.st rods ls).d (.val (.tup (ls.map tT))) .non .non (.str "stands") rods) := by
    walk_at "px"
    rw [eSF]
    walk_at "px"
  rw [seq_next (if_no tf)]
  have q2 : evS T (callT T (k + 1)) (.asg (.nm 2) (.tup (.cons (.int 0) .nil))) (eR (Cl.st rods ls).d (.val (.tup (ls.map tT))) .non .non (.str "stands") rods) = .ok .next (eR (Cl.st rods ls).d (.val (.tup (ls.map tT))) (.val (tT [0])) .non (.str "stands") rods) := rfl
  rw [seq_next q2]
  obtain ⟨p', t3, hp', hL⟩ := loopK k (Cl.st rods ls).d (.str "stands") rods ls h1 hls rods.length 0 [0] .non (by omega) (.inl rfl) (by simp)
  rw [List.drop_zero, List.drop_zero] at hp' hL
  have hrng : evI T (callT T (k + 1)) (.rng (.cons (.bi .len (.cons (.var 5) .nil)) .nil)) (eR (Cl.st rods ls).d (.val (.tup (ls.map tT))) (.val (tT [0])) .non (.str "stands") rods) = .ok ((List.range' 0 rods.length).map fun (x : Nat) => D.int ((x : Nat) : Int)) (eR (Cl.st rods ls).d (.val (.tup (ls.map tT))) (.val (tT [0])) .non (.str "stands") rods) :=
    rng_n rods.length _ rfl (by omega) (evL1 (len_var (A := .tup (iL rods)) (ds := iL rods) rfl (.inl rfl)) |>.trans (by rw [ints_length]))
  have q4 := (for_it hrng).trans hL
  refine ⟨eR (Cl.st rods ls).d (.val (.tup (ls.map tT))) (.val (tT p')) t3 (.str "stands") rods, ?_, by simp⟩
  cases hch : chainB [0] rods ls with
  | true =>
    rw [hch] at q4
    rw [seq_next q4, hp' hch]
    refine seq_ret ?_
    unfold tT
    walk_at "px"
  | false =>
    rw [hch] at q4
    exact seq_ret q4
theorem r10R (k : Nat) (c : Cl) (hc : c.Sz) : callT T (k + 2) 10 [.d c.d] = .ok (.d (.bl (rightB c))) [none] := by
  cases c with
  | cl rods => exact r10_cl k rods hc
  | ga rods t => exact r10_ga k rods t hc
  | fl rods sg => exact r10_fl k rods sg hc
  | st rods ls => exact r10_st k rods ls hc
end PXk21

end
section
set_option Elab.async false
set_option linter.all false
set_option maxRecDepth 100000
set_option maxHeartbeats 4000000
namespace PXk21
open PX
local macro_rules | `(tactic| walk_at "px") => `(tactic| simp only [evSs, evS, v0, v1, v2, v3, v4, v5, v6, v7, v8, v9, v10, v11, v12, v13, v14, v15, v16, v17, v18, v19, v20, v21, v22, v23, v24, v25, v26, v27, evL, evAs, evO, evT, evAll, evAny, evI, evG, evGs, bnd, ret, bad, ofO, ofAV, opr, oper, binM, unM, cmp2M, dataM, toD, frz, viewM, viewsM, view, rdSlot, rdVar, putSlot, modSlot, lenG, lenXs, binD, truD, biD, negD, oneInt, Cell.d, seqD, itemsD, enumD, zipD, seqL, rng2, rngTwo, rngD, slD, revD, isTy, lstAt, isDct, appC, subC, callM, refs_nil, refs_d, toArgs, toArg, set_own, setOuts, setOut, outsOf, outOf, args0, List.replicate, isin_tup, isin_lst, notin_tup, PX.eq_int, PX.ne_int, PX.eq_bl, PX.ne_bl, lt_i, le_i, gt_i, ge_i, Option.bind_some, Option.map_some, List.nil_append, List.cons_append, List.append_nil, List.getElem?_cons_zero, List.getElem?_cons_succ, List.set_cons_zero, List.set_cons_succ, List.length_cons, List.length_nil, allInt_ints, allBl_bls, Bool.not_true, Bool.not_false, Bool.and_true, Bool.true_and, Bool.false_and, Bool.and_false, Bool.or_true, Bool.true_or, Bool.or_false, Bool.false_or, Bool.false_eq_true, if_true, if_false, reduceIte, Nat.reduceAdd, Nat.reduceSub])
/-! ### _law_layers -/
abbrev bodyY : PX.Ss := .cons (.asg (.nm 2) (.call 3 (.cons (.var 2) (.cons (.var 3) .nil)))) (.cons (.expr (.app 1 (.var 2))) .nil)
theorem sum_nn : ∀ (rs : List Int), (∀ r ∈ rs, 0 ≤ r) → 0 ≤ rs.sum
  | [], _ => by simp
  | r :: rs, h => by
    have h1 := h r List.mem_cons_self
    have h2 := sum_nn rs fun z hz => h z (List.mem_cons_of_mem _ hz)
    rw [List.sum_cons]; omega
theorem loopY (k : Nat) (R : D) : ∀ (rs : List Int) (p : List Int) (B : Int) (pre : List D) (s3 : Slot), Free s3 → In B p → 0 ≤ B → (∀ r ∈ rs, 0 ≤ r) → B + rs.sum ≤ 900 → pre.length + rs.length < 1000 →
    ∃ s3', forLoop (evG T (callT T (k + 1)) (.nm 3)) (evSs T (callT T (k + 1)) bodyY) (iL rs) [.val R, .own (.lst pre), .val (tT p), s3] =
      .ok .next [.val R, .own (.lst (pre ++ (layS p rs).map tT)), .val (tT (lastS p rs)), s3']
  | [], p, B, pre, s3, _, _, _, _, _, _ => ⟨s3, by simp [layS, lastS]; rfl⟩
  | r :: rs, p, B, pre, s3, h3, hp, hB0, hr, hB, hl => by
    have h0 := hr r List.mem_cons_self
    rw [List.length_cons] at hl
    rw [List.sum_cons] at hB
    have hs0 : 0 ≤ rs.sum := sum_nn rs fun z hz => hr z (List.mem_cons_of_mem _ hz)
    obtain ⟨s3', ih⟩ := loopY k R rs (sums p r) (B + r) (pre ++ [tT (sums p r)]) (.val (.int r)) (.inr ⟨_, rfl⟩) (in_sums hp hB0 h0 (by omega)) (by omega) (fun x hx => hr x (List.mem_cons_of_mem _ hx)) (by omega) (by simp; omega)
    refine ⟨s3', ?_⟩
    have e0 : pre ++ (layS p (r :: rs)).map tT = (pre ++ [tT (sums p r)]) ++ (layS (sums p r) rs).map tT := by simp [layS]
    rw [e0]
    refine Eq.trans ?_ ih
    refine for_next (e1 := [.val R, .own (.lst pre), .val (tT p), .val (.int r)]) (by exact put_free (i := 3) (s := s3) rfl h3) ?_
    have c3 : refsOf T 3 = [false, false] := rfl
    have q1 : evS T (callT T (k + 1)) (.asg (.nm 2) (.call 3 (.cons (.var 2) (.cons (.var 3) .nil)))) [.val R, .own (.lst pre), .val (tT p), .val (.int r)] = .ok .next [.val R, .own (.lst pre), .val (tT (sums p r)), .val (.int r)] := by
      unfold tT
      walk_at "px"
      rw [c3]
      walk_at "px"
      rw [r0L k p r hp.1]
      walk_at "px"
    rw [seq_next q1]
    have hz : pre.length < SZ := by show _ < 1000000; omega
    walk_at "px"
    rw [if_pos hz]
    walk_at "px"
theorem r14L (k : Nat) (rods : List Int) (hr : ∀ r ∈ rods, 0 ≤ r) (hB : rods.sum ≤ 900) (hl : rods.length < 900) : callT T (k + 2) 14 [.d (.tup (iL rods))] = .ok (.d (.tup ((layS [0] rods).map tT))) [none] := by
  obtain ⟨s3', hL⟩ := loopY k (.tup (iL rods)) rods [0] 0 [] .non (.inl rfl) ⟨by simp, by simp⟩ (Int.le_refl 0) hr (by omega) (by simp; omega)
  refine run_d (T := T) (cf := callT T (k + 1)) (ds := [.tup (iL rods)]) (e := [.val (.tup (iL rods)), .own (.lst ([] ++ (layS [0] rods).map tT)), .val (tT (lastS [0] rods)), s3']) (a := .d (.tup ((layS [0] rods).map tT))) rfl ?_ rfl (by simp)
  show evSs T (callT T (k + 1)) f14.body [.val (.tup (iL rods)), .non, .non, .non] = _
  unfold f14
  simp only [ss]
  have q1 : evS T (callT T (k + 1)) (.asg (.nm 1) (.lst .nil)) [.val (.tup (iL rods)), .non, .non, .non] = .ok .next [.val (.tup (iL rods)), .own (.lst []), .non, .non] := by
    walk_at "px"
    rw [if_pos (by decide)]
    walk_at "px"
  have q2 : evS T (callT T (k + 1)) (.asg (.nm 2) (.tup (.cons (.int 0) .nil))) [.val (.tup (iL rods)), .own (.lst []), .non, .non] = .ok .next [.val (.tup (iL rods)), .own (.lst []), .val (tT [0]), .non] := rfl
  have q3 := (for_it (T := T) (cf := callT T (k + 1)) (it := .seq (.var 0)) (e := [.val (.tup (iL rods)), .own (.lst []), .val (tT [0]), .non]) (xs := iL rods) (e1 := [.val (.tup (iL rods)), .own (.lst []), .val (tT [0]), .non]) (by walk_at "px")).trans hL
  rw [seq_next q1, seq_next q2, seq_next q3]
  refine seq_ret ?_
  walk_at "px"
/-! ### a claim is spoilt -/
inductive Sp : Cl → Cl → Prop
  | cl {rods rods' : List Int} (h1 : rods'.length = rods.length) : Sp (.cl rods) (.cl rods')
  | ga {rods rods' : List Int} {t t' : Int} (h1 : rods'.length = rods.length) : Sp (.ga rods t) (.ga rods' t')
  | fl {rods rods' sg sg' : List Int} (h1 : rods'.length = rods.length) (h3 : sg'.length = sg.length) : Sp (.fl rods sg) (.fl rods' sg')
  | st {rods rods' : List Int} {ls ls' : List (List Int)} (h1 : rods'.length = rods.length) (h3 : ls'.length = ls.length) (h4 : ∀ M, (∀ l ∈ ls, l.length ≤ M) → ∀ l ∈ ls', l.length ≤ M + 1) : Sp (.st rods ls) (.st rods' ls')
theorem one {a d' : D} (h : Tch (.tup [a]) d') : ∃ a', d' = .tup [a'] ∧ Tch a a' := by
  rcases tch_tup h with ⟨h1, _⟩ | ⟨pre, d, post, e, h1, h2, h3⟩
  · cases h1
  · match pre, h1, h2 with
    | [], h1, h2 =>
      cases h1
      exact ⟨e, h2, h3⟩
    | x :: pre, h1, h2 => cases pre <;> simp at h1
theorem two {a b d' : D} (h : Tch (.tup [a, b]) d') : (∃ a', d' = .tup [a', b] ∧ Tch a a') ∨ ∃ b', d' = .tup [a, b'] ∧ Tch b b' := by
  rcases tch_tup h with ⟨h1, _⟩ | ⟨pre, d, post, e, h1, h2, h3⟩
  · cases h1
  · match pre, h1, h2 with
    | [], h1, h2 =>
      cases h1
      exact .inl ⟨e, h2, h3⟩
    | [x], h1, h2 =>
      cases h1
      exact .inr ⟨e, h2, h3⟩
    | x :: y :: pre, h1, h2 => cases pre <;> simp at h1
def Cl.tl : Cl → List D
  | .cl rods => [.tup (iL rods)]
  | .ga rods t => [.tup (iL rods), .int t]
  | .fl rods sg => [.tup (iL rods), .tup (iL sg)]
  | .st rods ls => [.tup (iL rods), .tup (ls.map tT)]
theorem Cl.d_eq (q : Cl) : q.d = .tup (q.f :: q.tl) := by cases q <;> rfl
theorem touched (q : Cl) {d' : D} (h : Tch (.tup q.tl) d') : ∃ q2, Sp q q2 ∧ q2.d = .tup (q.f :: dsOf d') := by
  cases q with
  | cl rods =>
    obtain ⟨a', rfl, ha⟩ := one h
    obtain ⟨ys, rfl, h1⟩ := tch_ints ha
    exact ⟨.cl ys, .cl h1, rfl⟩
  | ga rods t =>
    rcases two h with ⟨a', rfl, ha⟩ | ⟨b', rfl, hb⟩
    · obtain ⟨ys, rfl, h1⟩ := tch_ints ha
      exact ⟨.ga ys t, .ga h1, rfl⟩
    · obtain ⟨j, rfl, h1⟩ := tch_int hb
      exact ⟨.ga rods j, .ga rfl, rfl⟩
  | fl rods sg =>
    rcases two h with ⟨a', rfl, ha⟩ | ⟨b', rfl, hb⟩
    · obtain ⟨ys, rfl, h1⟩ := tch_ints ha
      exact ⟨.fl ys sg, .fl h1 rfl, rfl⟩
    · obtain ⟨ys, rfl, h1⟩ := tch_ints hb
      exact ⟨.fl rods ys, .fl rfl h1, rfl⟩
  | st rods ls =>
    rcases two h with ⟨a', rfl, ha⟩ | ⟨b', rfl, hb⟩
    · obtain ⟨ys, rfl, h1⟩ := tch_ints ha
      exact ⟨.st ys ls, .st h1 rfl fun M h l hl => Nat.le_succ_of_le (h l hl), rfl⟩
    · obtain ⟨ms, rfl, h1, h2⟩ := tch_tups hb
      refine ⟨.st rods ms, .st rfl h1 fun M h l hl => ?_, rfl⟩
      obtain ⟨l', hl', e⟩ := h2 l hl
      have := h l' hl'
      omega
def Cl.Ne : Cl → Prop
  | .cl rods => rods.length ≤ 1000
  | .ga rods t => rods.length ≤ 1000
  | .fl rods sg => rods.length ≤ 1000 ∧ sg.length ≤ 1000
  | .st rods ls => rods.length ≤ 1000 ∧ ls.length ≤ 1000 ∧ 1 ≤ ls.length ∧ ∀ l ∈ ls, l.length ≤ 1000
theorem Cl.Ne.nt {q : Cl} (h : q.Ne) : Nt 3 (.tup q.tl) := by
  cases q with
  | cl rods =>
    refine .tup (fun d hd => ?_) (by simp [Cl.tl])
    rw [List.mem_singleton.mp hd]
    exact nt_ints 1 rods h
  | ga rods t =>
    refine .tup (fun d hd => ?_) (by simp [Cl.tl])
    simp only [Cl.tl, List.mem_cons, List.not_mem_nil, or_false] at hd
    rcases hd with rfl | rfl
    · exact nt_ints 1 rods h
    · exact .int t
  | fl rods sg =>
    refine .tup (fun d hd => ?_) (by simp [Cl.tl])
    simp only [Cl.tl, List.mem_cons, List.not_mem_nil, or_false] at hd
    rcases hd with rfl | rfl
    · exact nt_ints 1 rods h.1
    · exact nt_ints 1 sg h.2
  | st rods ls =>
    refine .tup (fun d hd => ?_) (by simp [Cl.tl])
    simp only [Cl.tl, List.mem_cons, List.not_mem_nil, or_false] at hd
    rcases hd with rfl | rfl
    · exact nt_ints 1 rods h.1
    · refine .tup (fun d hd => ?_) (by rw [List.length_map]; exact h.2.1)
      obtain ⟨l, hl, rfl⟩ := List.mem_map.mp hd
      exact nt_ints 0 l (h.2.2.2 l hl)
abbrev eS (c : Cell) (C told : D) (s3 s4 s5 : Slot) : Env := [.bor c, .val C, .val told, s3, s4, s5]
abbrev eT (c : Cell) (C : D) : Env := [.bor c, .val C, .non, .non, .non, .non]
theorem tl_len (q : Cl) : q.tl.length ≤ 2 := by cases q <;> simp [Cl.tl]
/-- claim[:1] + touched(pool, claim[1:]) -/
theorem touchS (k : Nat) (form : D) (ds : List D) (c : Cell) (hc : PoolOk c) (hn : Nt 3 (.tup ds)) (hl : ds.length ≤ 2) : ∃ d' c', Tch (.tup ds) d' ∧ PoolOk c' ∧
    evA T (callT T (k + 5)) (.bin .add (.sl (.var 1) .none (.some (.int 1))) (.call 1 (.cons (.var 0) (.cons (.sl (.var 1) (.some (.int 1)) .none) .nil)))) (eT c (.tup (form :: ds))) = .ok (.d (.tup (form :: dsOf d'))) (eT c' (.tup (form :: ds))) := by
  obtain ⟨d', c', h1, h2, h3⟩ := r1t 3 k (.tup ds) hn c hc
  obtain ⟨es, rfl, hes⟩ := tch_is h1
  refine ⟨.tup es, c', h1, h2, ?_⟩
  have c1 : refsOf T 1 = [true, false] := rfl
  walk_at "px"
  rw [c1]
  walk_at "px"
  rw [show cutD (form :: ds) none (some 1) = [form] from cut_take (form :: ds) 1 (by simp), show cutD (form :: ds) (some 1) none = ds from cut_drop (form :: ds) 1 (by simp)]
  rw [show refsOk _ [.slot 0, .d (.tup ds)] [] = true from rfl]
  walk_at "px"
  rw [show k + 5 = k + 3 + 2 from rfl, h3]
  walk_at "px"
  rw [if_pos (by simp [hes]; show _ ≤ 1000000; omega)]
  walk_at "px"
  rfl
theorem take_iL (l : List Int) (j : Nat) : (iL l).take j = iL (l.take j) := by unfold iL; rw [List.map_take]
theorem drop_iL (l : List Int) (j : Nat) : (iL l).drop j = iL (l.drop j) := by unfold iL; rw [List.map_drop]
def eSSn : D := .str "stands"
theorem neC : cmpD .ne (.str "closes") (.str "stands") = some true := (neStr "closes" "stands" (by decide +kernel) (by decide +kernel)).trans (by decide +kernel)
theorem neG : cmpD .ne (.str "gapes") (.str "stands") = some true := (neStr "gapes" "stands" (by decide +kernel) (by decide +kernel)).trans (by decide +kernel)
theorem neF : cmpD .ne (.str "flattens") (.str "stands") = some true := (neStr "flattens" "stands" (by decide +kernel) (by decide +kernel)).trans (by decide +kernel)
theorem neS : cmpD .ne (.str "stands") (.str "stands") = some false := (neStr "stands" "stands" (by decide +kernel) (by decide +kernel)).trans (by decide +kernel)
theorem r7S (k : Nat) (c : Cell) (hc : PoolOk c) (q : Cl) (hq : q.Ne) : ∃ q' c', Sp q q' ∧ PoolOk c' ∧ callT T (k + 6) 7 [.c c, .d q.d] = .ok (.d q'.d) [some c', none] := by
  have c16 : refsOf T 16 = [true, false] := rfl
  have fin : ∀ {C : D} {d' : D} {c' : Cell}, (∃ s2 s3 s4 s5, evSs T (callT T (k + 5)) f7.body [.bor c, .val C, .non, .non, .non, .non] = .ok (.ret (.d d')) [.bor c', .val C, s2, s3, s4, s5]) → callT T (k + 6) 7 [.c c, .d C] = .ok (.d d') [some c', none] := fun {C d' c'} ⟨s2, s3, s4, s5, h⟩ =>
    run_c1 (fd := f7) rfl h rfl
  have easy : cmpD .ne q.f (.str "stands") = some true → ∃ q' c', Sp q q' ∧ PoolOk c' ∧ callT T (k + 6) 7 [.c c, .d q.d] = .ok (.d q'.d) [some c', none] := fun hne => by
    obtain ⟨d', c', t1, t2, t3⟩ := touchS k q.f q.tl c hc hq.nt (tl_len q)
    obtain ⟨q', s1, s2⟩ := touched q t1
    refine ⟨q', c', s1, t2, fin ⟨.non, .non, .non, .non, ?_⟩⟩
    rw [s2]
    unfold f7
    simp only [ss]
    rw [← Cl.d_eq] at t3
    refine seq_ret ((if_then (e1 := eT c q.d) ?_).trans (seq_ret ?_))
    · walk_at "px"
      rw [show idxD q.d (.int 0) = some q.f by rw [Cl.d_eq]; exact idx0 _ _]
      walk_at "px"
      rw [hne]
      walk_at "px"
    · show bnd (evA T (callT T (k + 5)) _) _ _ = _
      exact (bnd_eq t3).trans rfl
  cases q with
  | cl rods => exact easy neC
  | ga rods t => exact easy neG
  | fl rods sg => exact easy neF
  | st rods ls =>
    clear easy
    have hq0 := hq
    obtain ⟨h1, h2, h3, h4⟩ := hq
    obtain ⟨v, c1, v1, v2, v3, v4⟩ := r18 (k + 4) c hc 2 (by decide) (by decide)
    have test : evT T (callT T (k + 5)) (.or (.cons (.cmp .ne (.idx (.var 1) (.int 0)) (.str "stands")) (.cons (.cmp .eq (.call 16 (.cons (.var 0) (.cons (.int 2) .nil))) (.int 0)) .nil))) (eT c (Cl.st rods ls).d) = .ok (v == 0) (eT c1 (Cl.st rods ls).d) := by
      walk_at "px"
      rw [show idxD (Cl.st rods ls).d (.int 0) = some (.str "stands") from rfl]
      walk_at "px"
      rw [neS]
      walk_at "px"
      rw [c16]
      walk_at "px"
      rw [show refsOk _ [.slot 0, .d (.int 2)] [] = true from rfl]
      walk_at "px"
      rw [show k + 5 = k + 4 + 1 from rfl, v4]
      walk_at "px"
      cases (v == 0) <;> rfl
    have hv : v = 0 ∨ v = 1 := by omega
    rcases hv with rfl | rfl
    · obtain ⟨d', c', t1, t2, t3⟩ := touchS k (.str "stands") (Cl.st rods ls).tl c1 v3 hq0.nt (tl_len (.st rods ls))
      obtain ⟨q', s1, s2⟩ := touched (.st rods ls) t1
      refine ⟨q', c', s1, t2, fin ⟨.non, .non, .non, .non, ?_⟩⟩
      rw [s2]
      unfold f7
      simp only [ss]
      refine seq_ret ((if_then (e1 := eT c1 (Cl.st rods ls).d) test).trans (seq_ret ?_))
      show bnd (evA T (callT T (k + 5)) _) _ _ = _
      exact (bnd_eq t3).trans rfl
    · obtain ⟨n, hn⟩ : ∃ n : Int, n = ls.length := ⟨_, rfl⟩
      obtain ⟨a, c2, a1, a2, a3, a4⟩ := r18 (k + 4) c1 v3 n (by omega) (by omega)
      obtain ⟨i, rfl⟩ : ∃ i : Nat, a = i := ⟨a.toNat, by omega⟩
      have hi : i < ls.length := by omega
      have hl : ls[i]? = some ls[i] := List.getElem?_eq_getElem hi
      obtain ⟨l, hl'⟩ : ∃ l, l = ls[i] := ⟨_, rfl⟩
      rw [← hl'] at hl
      have hlm := h4 l (List.mem_of_getElem? hl)
      have il : idxD (.tup (ls.map tT)) (.int (i : Int)) = some (.tup (iL l)) := (idx_at (ls.map tT) i (tT l) (by rw [List.getElem?_map, hl]; rfl)).2
      obtain ⟨m, hm⟩ : ∃ m : Int, m = l.length := ⟨_, rfl⟩
      obtain ⟨t, c3, e1, e2, e3, e4⟩ := r18 (k + 4) c2 a3 (m + 1) (by omega) (by omega)
      obtain ⟨j, rfl⟩ : ∃ j : Nat, t = j := ⟨t.toNat, by omega⟩
      have hj : j ≤ l.length := by omega
      obtain ⟨x, c4, x1, x2, x3, x4⟩ := r18 (k + 4) c3 e3 9 (by decide) (by decide)
      obtain ⟨y, c5, y1, y2, y3, y4⟩ := r18 (k + 4) c4 x3 2 (by decide) (by decide)
      have hy : ∃ l' : List Int, l'.length ≤ l.length + 1 ∧ idxD (.tup [.tup (iL (l.take j ++ l.drop (j + 1))), .tup (iL (l ++ [x]))]) (.int y) = some (.tup (iL l')) := by
        have : y = 0 ∨ y = 1 := by omega
        rcases this with rfl | rfl
        · refine ⟨l.take j ++ l.drop (j + 1), ?_, rfl⟩
          rw [List.length_append, List.length_take, List.length_drop]; omega
        · exact ⟨l ++ [x], by simp, rfl⟩
      obtain ⟨l', hl1, hl2⟩ := hy
      refine ⟨.st rods (ls.take i ++ l' :: ls.drop (i + 1)), c5, .st rfl (by rw [List.length_append, List.length_take, List.length_cons, List.length_drop]; omega) (fun M hM z hz => ?_), y3, fin ⟨.val (.tup (ls.map tT)), .val (.int i), .val (.tup (iL l')), .val (.int j), ?_⟩⟩
      · rcases List.mem_append.mp hz with hz | hz
        · exact Nat.le_succ_of_le (hM z (List.mem_of_mem_take hz))
        · rcases List.mem_cons.mp hz with rfl | hz
          · have := hM l (List.mem_of_getElem? hl); omega
          · exact Nat.le_succ_of_le (hM z (List.mem_of_mem_drop hz))
      · unfold f7
        simp only [ss]
        rw [seq_next (if_else (e1 := eT c1 (Cl.st rods ls).d) test)]
        rw [seq_next (e1 := eS c1 (Cl.st rods ls).d (.tup (ls.map tT)) .non .non .non) rfl]
        have q3 : evS T (callT T (k + 5)) (.asg (.nm 3) (.call 16 (.cons (.var 0) (.cons (.bi .len (.cons (.var 2) .nil)) .nil)))) (eS c1 (Cl.st rods ls).d (.tup (ls.map tT)) .non .non .non) = .ok .next (eS c2 (Cl.st rods ls).d (.tup (ls.map tT)) (.val (.int i)) .non .non) := by
          have hlen : evA T (callT T (k + 5)) (.bi .len (.cons (.var 2) .nil)) (eS c1 (Cl.st rods ls).d (.tup (ls.map tT)) .non .non .non) = .ok (.d (.int n)) (eS c1 (Cl.st rods ls).d (.tup (ls.map tT)) .non .non .non) := by
            rw [len_var (A := .tup (ls.map tT)) (ds := ls.map tT) rfl (.inl rfl), List.length_map, hn]
          simp only [evS, v20, c16, evAs, v0, rdVar, opr, oper, bnd, ret, if_true, List.getElem?_cons_zero, Bool.false_eq_true, if_false, dataM, hlen, toD, callM]
          rw [show refsOk _ [.slot 0, .d (.int n)] [] = true from rfl]
          walk_at "px"
          rw [show k + 5 = k + 4 + 1 from rfl, a4]
          walk_at "px"
        rw [seq_next q3]
        rw [seq_next (e1 := eS c2 (Cl.st rods ls).d (.tup (ls.map tT)) (.val (.int i)) (.val (.tup (iL l))) .non) (by walk_at "px"; rw [il]; walk_at "px")]
        have q5 : evS T (callT T (k + 5)) (.asg (.nm 5) (.call 16 (.cons (.var 0) (.cons (.bin .add (.bi .len (.cons (.var 4) .nil)) (.int 1)) .nil)))) (eS c2 (Cl.st rods ls).d (.tup (ls.map tT)) (.val (.int i)) (.val (.tup (iL l))) .non) = .ok .next (eS c3 (Cl.st rods ls).d (.tup (ls.map tT)) (.val (.int i)) (.val (.tup (iL l))) (.val (.int j))) := by
          have hlen : evA T (callT T (k + 5)) (.bin .add (.bi .len (.cons (.var 4) .nil)) (.int 1)) (eS c2 (Cl.st rods ls).d (.tup (ls.map tT)) (.val (.int i)) (.val (.tup (iL l))) .non) = .ok (.d (.int (m + 1))) (eS c2 (Cl.st rods ls).d (.tup (ls.map tT)) (.val (.int i)) (.val (.tup (iL l))) .non) := by
            walk_at "px"
            rw [ints_length, hm]
          simp only [evS, v20, c16, evAs, v0, rdVar, opr, oper, bnd, ret, if_true, List.getElem?_cons_zero, Bool.false_eq_true, if_false, dataM, hlen, toD, callM]
          rw [show refsOk _ [.slot 0, .d (.int (m + 1))] [] = true from rfl]
          walk_at "px"
          rw [show k + 5 = k + 4 + 1 from rfl, e4]
          walk_at "px"
        rw [seq_next q5]
        have q6 : evS T (callT T (k + 5)) (.asg (.nm 4) (.idx (.tup (.cons (.bin .add (.sl (.var 4) .none (.some (.var 5))) (.sl (.var 4) (.some (.bin .add (.var 5) (.int 1))) .none)) (.cons (.bin .add (.var 4) (.tup (.cons (.call 16 (.cons (.var 0) (.cons (.int 9) .nil))) .nil))) .nil))) (.call 16 (.cons (.var 0) (.cons (.int 2) .nil))))) (eS c3 (Cl.st rods ls).d (.tup (ls.map tT)) (.val (.int i)) (.val (.tup (iL l))) (.val (.int j))) = .ok .next (eS c5 (Cl.st rods ls).d (.tup (ls.map tT)) (.val (.int i)) (.val (.tup (iL l'))) (.val (.int j))) := by
          have hcut : cutD (iL l) (some ((j : Int) + 1)) none = iL (l.drop (j + 1)) := by
            by_cases hjl : j + 1 ≤ l.length
            · rw [show ((j : Int) + 1) = ((j + 1 : Nat) : Int) by omega, cut_drop _ _ (by rw [ints_length]; exact hjl), drop_iL]
            · rw [List.drop_eq_nil_of_le (by omega)]
              unfold cutD
              have e : sEnd (iL l).length 0 (some ((j : Int) + 1)) = l.length := by
                show (if (j : Int) + 1 < 0 then ((j : Int) + 1 + (iL l).length).toNat else min ((j : Int) + 1).toNat (iL l).length) = _
                rw [if_neg (by omega), ints_length]; omega
              rw [e, List.drop_eq_nil_of_le (by rw [ints_length]; exact Nat.le_refl _)]
              simp [iL]
          walk_at "px"
          rw [cut_take _ j (by rw [ints_length]; exact hj), hcut, take_iL, ints_append]
          rw [if_pos (by rw [ints_length, ints_length, List.length_take, List.length_drop]; show _ ≤ 1000000; omega)]
          walk_at "px"
          rw [c16]
          walk_at "px"
          rw [show refsOk _ [.slot 0, .d (.int 9)] [] = true from rfl]
          walk_at "px"
          rw [show k + 5 = k + 4 + 1 from rfl, x4]
          walk_at "px"
          rw [if_pos (by decide)]
          walk_at "px"
          rw [if_pos (by rw [ints_length]; show _ ≤ 1000000; omega)]
          walk_at "px"
          rw [if_pos (by decide)]
          walk_at "px"
          rw [show refsOk _ [.slot 0, .d (.int 2)] [] = true from rfl]
          walk_at "px"
          rw [y4]
          walk_at "px"
          rw [show iL l ++ [D.int x] = iL (l ++ [x]) from ints_append l [x], hl2]
          walk_at "px"
        rw [seq_next q6]
        refine seq_ret ?_
        simp only [Cl.d]
        walk_at "px"
        rw [show cutD [D.str "stands", D.tup (iL rods), D.tup (ls.map tT)] none (some 2) = [D.str "stands", D.tup (iL rods)] from rfl]
        rw [cut_take _ i (by rw [List.length_map]; omega)]
        rw [if_pos (by decide)]
        walk_at "px"
        rw [if_pos (by rw [List.length_take]; show _ ≤ 1000000; rw [List.length_map]; omega)]
        walk_at "px"
        rw [show ((i : Int) + 1) = ((i + 1 : Nat) : Int) by omega, cut_drop _ (i + 1) (by rw [List.length_map]; omega), if_pos (by simp; show _ ≤ 1000000; omega)]
        walk_at "px"
        rw [if_pos (by decide)]
        walk_at "px"
        rw [if_pos (by decide)]
        walk_at "px"
        have e : (ls.take i ++ l' :: ls.drop (i + 1)).map tT = List.take i (ls.map tT) ++ [D.tup (iL l')] ++ List.drop (i + 1) (ls.map tT) := by
          rw [List.map_append, List.map_cons, List.map_take, List.map_drop]
          simp [tT]
        rw [e]
end PXk21

end
section
set_option Elab.async false
set_option linter.all false
set_option maxRecDepth 100000
set_option maxHeartbeats 8000000
namespace PXk21
open PX
local macro_rules | `(tactic| walk_at "px") => `(tactic| simp only [evSs, evS, v0, v1, v2, v3, v4, v5, v6, v7, v8, v9, v10, v11, v12, v13, v14, v15, v16, v17, v18, v19, v20, v21, v22, v23, v24, v25, v26, v27, evL, evAs, evO, evT, evAll, evAny, evI, evG, evGs, bnd, ret, bad, ofO, ofAV, opr, oper, binM, unM, cmp2M, dataM, toD, frz, viewM, viewsM, view, rdSlot, rdVar, putSlot, modSlot, lenG, lenXs, binD, truD, biD, negD, oneInt, Cell.d, seqD, itemsD, enumD, zipD, seqL, rng2, rngTwo, rngD, slD, revD, isTy, lstAt, isDct, appC, subC, callM, refs_nil, refs_d, toArgs, toArg, set_own, setOuts, setOut, outsOf, outOf, args0, List.replicate, isin_tup, isin_lst, notin_tup, PX.eq_int, PX.ne_int, PX.eq_bl, PX.ne_bl, lt_i, le_i, gt_i, ge_i, Option.bind_some, Option.map_some, List.nil_append, List.cons_append, List.append_nil, List.getElem?_cons_zero, List.getElem?_cons_succ, List.set_cons_zero, List.set_cons_succ, List.length_cons, List.length_nil, allInt_ints, allBl_bls, Bool.not_true, Bool.not_false, Bool.and_true, Bool.true_and, Bool.false_and, Bool.and_false, Bool.or_true, Bool.true_or, Bool.or_false, Bool.false_or, Bool.false_eq_true, if_true, if_false, reduceIte, Nat.reduceAdd, Nat.reduceSub])

theorem t0 : refsOf T 0 = [false] := rfl
theorem t1 : refsOf T 1 = [true, false] := rfl
theorem t2 : refsOf T 2 = [false, false] := rfl
theorem t3 : refsOf T 3 = [false, false] := rfl
theorem t4 : refsOf T 4 = [false] := rfl
theorem t5 : refsOf T 5 = [false, false, false] := rfl
theorem t6 : refsOf T 6 = [false] := rfl
theorem t7 : refsOf T 7 = [true, false] := rfl
theorem t8 : refsOf T 8 = [false, false] := rfl
theorem t9 : refsOf T 9 = [false] := rfl
theorem t10 : refsOf T 10 = [false] := rfl
theorem t11 : refsOf T 11 = [false] := rfl
theorem t12 : refsOf T 12 = [false, false] := rfl
theorem t13 : refsOf T 13 = [false] := rfl
theorem t14 : refsOf T 14 = [false] := rfl
theorem t15 : refsOf T 15 = [false] := rfl
theorem t16 : refsOf T 16 = [true, false] := rfl
theorem t17 : refsOf T 17 = [false, false] := rfl
theorem t18 : refsOf T 18 = [false] := rfl
theorem eFFn : cmpD .ne (.str "flattens") (.str "flattens") = some false := (neStr "flattens" "flattens" (by decide +kernel) (by decide +kernel)).trans (by decide +kernel)
theorem neInts (l : List Int) : cmpD .ne (.tup (iL l)) (.tup (iL l)) = some false := by
  have e0 : okEq (.tup (iL l)) = true := by simp [okEq, D.plain, D.depth, plainL_ints, depthL_ints, plainL, depthL]
  show (if (okEq (.tup (iL l)) && okEq (.tup (iL l))) = true then some (!deq (.tup (iL l)) (.tup (iL l))) else none) = _
  rw [e0]
  simp only [Bool.and_self, if_true]
  show some (!deqL (iL l) (iL l)) = _
  rw [deq_ints]
  rfl

theorem M1 (ns : List Int) (x2 x3 x4 x5 x6 x7 x8 x9 x10 x11 x12 x13 x14 x15 x16 x17 x18 x19 x20 x21 x22 : Slot) : evS T (callT T 9) (.asg (.nm 1) (.call 17 (.cons (.var 0) (.cons (.int 0) .nil)))) [.val (.ro (iL ns)), .non, x2, x3, x4, x5, x6, x7, x8, x9, x10, x11, x12, x13, x14, x15, x16, x17, x18, x19, x20, x21, x22] = .ok .next [.val (.ro (iL ns)), .own (poolC ns 0 0 1 0 0), x2, x3, x4, x5, x6, x7, x8, x9, x10, x11, x12, x13, x14, x15, x16, x17, x18, x19, x20, x21, x22] := by
  walk_at "px"; rw [t17]; walk_at "px"; rw [r19 8 ns]; walk_at "px"

theorem M2c (x0 x3 x4 x5 x6 x7 x8 x9 x10 x11 x12 x14 x15 x16 x17 x18 x19 x20 x21 x22 : Slot) (c : Cell) (hc : PoolOk c) (n : Int) (hn : n ≤ 1000) : ∃ rods c', (rods.length : Int) = n.toNat ∧ (∀ r ∈ rods, (1 : Int) ≤ r ∧ r ≤ 9) ∧ PoolOk c' ∧
    compM [13] (turnM (evG T (callT T 9) (.nm 13)) (evAll T (callT T 9) .nil) (dataM (evA T (callT T 9) (.bin .add (.int 1) (.call 16 (.cons (.var 1) (.cons (.int 9) .nil))))))) (rngL 0 n) [x0, .own c, .non, x3, x4, x5, x6, x7, x8, x9, x10, x11, x12, .non, x14, x15, x16, x17, x18, x19, x20, x21, x22] = .ok (.new (.lst (iL rods))) [x0, .own c', .non, x3, x4, x5, x6, x7, x8, x9, x10, x11, x12, .non, x14, x15, x16, x17, x18, x19, x20, x21, x22] := by
  obtain ⟨ds, c', h1, h2, h3, h4⟩ := compM_state (own := [13]) (f := turnM (evG T (callT T 9) (.nm 13)) (evAll T (callT T 9) .nil) (dataM (evA T (callT T 9) (.bin .add (.int 1) (.call 16 (.cons (.var 1) (.cons (.int 9) .nil)))))))
    (Ef := fun c => [x0, .own c, .non, x3, x4, x5, x6, x7, x8, x9, x10, x11, x12, .non, x14, x15, x16, x17, x18, x19, x20, x21, x22]) (P := PoolOk) (Qd := fun d => ∃ n, d = .int n ∧ ((1 : Int) ≤ n ∧ n ≤ 9)) (fun c => rfl) (rngL 0 n) (fun x hx c hc => by
      obtain ⟨v, c', v1, v2, v3, v4⟩ := r18 8 c hc 9 (by decide) (by decide)
      refine ⟨.int (1 + v), c', [x0, .own c', .non, x3, x4, x5, x6, x7, x8, x9, x10, x11, x12, .val x, x14, x15, x16, x17, x18, x19, x20, x21, x22], ?_, rfl, v3, _, rfl, by omega, by omega⟩
      unfold turnM
      walk_at "px"
      rw [t16]
      walk_at "px"
      rw [show refsOk _ [.slot 1, .d (.int 9)] [] = true from rfl]
      walk_at "px"
      rw [v4]
      walk_at "px") c hc rfl (by intro i hi; simp at hi; subst hi; rfl) (by rw [rngL_len]; show _ ≤ 1000000; omega)
  obtain ⟨rods, rfl, hr⟩ := ints_of h4
  refine ⟨rods, c', ?_, hr, h2, h1⟩
  rw [ints_length, rngL_len] at h3; omega

theorem M2 (x0 x3 x4 x5 x6 x7 x8 x9 x10 x11 x12 x14 x15 x16 x17 x18 x19 x20 x21 x22 : Slot) (c : Cell) (hc : PoolOk c) : ∃ rods c', 1 ≤ rods.length ∧ rods.length ≤ 8 ∧ (∀ r ∈ rods, (1 : Int) ≤ r ∧ r ≤ 9) ∧ PoolOk c' ∧
    evS T (callT T 9) (.asg (.nm 2) (.bi .tuple (.cons (.comp [13] (.nm 13) (.rng (.cons (.bin .add (.int 1) (.call 16 (.cons (.var 1) (.cons (.int 8) .nil)))) .nil)) .nil (.bin .add (.int 1) (.call 16 (.cons (.var 1) (.cons (.int 9) .nil))))) .nil))) [x0, .own c, .non, x3, x4, x5, x6, x7, x8, x9, x10, x11, x12, .non, x14, x15, x16, x17, x18, x19, x20, x21, x22] = .ok .next [x0, .own c', .val (.tup (iL rods)), x3, x4, x5, x6, x7, x8, x9, x10, x11, x12, .non, x14, x15, x16, x17, x18, x19, x20, x21, x22] := by
  obtain ⟨v, c1, v1, v2, v3, v4⟩ := r18 8 c hc 8 (by decide) (by decide)
  obtain ⟨rods, c', h1, h2, h3, h4⟩ := M2c x0 x3 x4 x5 x6 x7 x8 x9 x10 x11 x12 x14 x15 x16 x17 x18 x19 x20 x21 x22 c1 v3 (1 + v) (by omega)
  refine ⟨rods, c', by omega, by omega, h2, h3, ?_⟩
  have hcomp : evA T (callT T 9) (.comp [13] (.nm 13) (.rng (.cons (.bin .add (.int 1) (.call 16 (.cons (.var 1) (.cons (.int 8) .nil)))) .nil)) .nil (.bin .add (.int 1) (.call 16 (.cons (.var 1) (.cons (.int 9) .nil))))) [x0, .own c, .non, x3, x4, x5, x6, x7, x8, x9, x10, x11, x12, .non, x14, x15, x16, x17, x18, x19, x20, x21, x22] = .ok (.new (.lst (iL rods))) [x0, .own c', .non, x3, x4, x5, x6, x7, x8, x9, x10, x11, x12, .non, x14, x15, x16, x17, x18, x19, x20, x21, x22] := by
    rw [ev_comp]
    refine (bnd_eq (a := rngL 0 (1 + v)) (e1 := [x0, .own c1, .non, x3, x4, x5, x6, x7, x8, x9, x10, x11, x12, .non, x14, x15, x16, x17, x18, x19, x20, x21, x22]) ?_).trans h4
    walk_at "px"
    rw [t16]
    walk_at "px"
    rw [show refsOk _ [.slot 1, .d (.int 8)] [] = true from rfl]
    walk_at "px"
    rw [v4]
    walk_at "px"
    rw [if_pos (show (small 0 && small (1 + v)) = true by unfold small; simp only [Bool.and_eq_true, decide_eq_true_eq]; exact ⟨by decide, by omega, by omega⟩)]
    walk_at "px"
  walk_at "px"
  rw [hcomp]
  walk_at "px"

theorem M3 (x0 x2 x4 x5 x6 x7 x8 x9 x10 x11 x12 x13 x14 x15 x16 x17 x18 x19 x20 x21 x22 : Slot) (c : Cell) (hc : PoolOk c) : ∃ y c', 0 ≤ y ∧ y < 3 ∧ PoolOk c' ∧ evS T (callT T 9) (.asg (.nm 3) (.call 16 (.cons (.var 1) (.cons (.int 3) .nil)))) [x0, .own c, x2, .non, x4, x5, x6, x7, x8, x9, x10, x11, x12, x13, x14, x15, x16, x17, x18, x19, x20, x21, x22] = .ok .next [x0, .own c', x2, .val (.int y), x4, x5, x6, x7, x8, x9, x10, x11, x12, x13, x14, x15, x16, x17, x18, x19, x20, x21, x22] := by
  obtain ⟨v, c', v1, v2, v3, v4⟩ := r18 8 c hc 3 (by decide) (by decide)
  refine ⟨v, c', v1, v2, v3, ?_⟩
  walk_at "px"
  rw [t16]
  walk_at "px"
  rw [show refsOk _ [.slot 1, .d (.int 3)] [] = true from rfl]
  walk_at "px"
  rw [v4]
  walk_at "px"

theorem M4 (x0 x1 x4 x5 x6 x7 x8 x9 x10 x11 x12 x13 x14 x15 x16 x17 x18 x19 x20 x21 x22 : Slot) (y : Int) (rods : List Int) (hl : rods.length ≤ 1000) : evS T (callT T 9) (.ifs (.cmp .eq (.var 3) (.int 0)) (.cons (.asg (.nm 2) (.bin .add (.var 2) (.tup (.cons (.bi .sum (.cons (.var 2) .nil)) .nil)))) .nil) .nil) [x0, x1, .val (.tup (iL rods)), .val (.int y), x4, x5, x6, x7, x8, x9, x10, x11, x12, x13, x14, x15, x16, x17, x18, x19, x20, x21, x22] = .ok .next [x0, x1, .val (.tup (iL (if y = 0 then rods ++ [rods.sum] else rods))), .val (.int y), x4, x5, x6, x7, x8, x9, x10, x11, x12, x13, x14, x15, x16, x17, x18, x19, x20, x21, x22] := by
  have u : evT T (callT T 9) (.cmp .eq (.var 3) (.int 0)) [x0, x1, .val (.tup (iL rods)), .val (.int y), x4, x5, x6, x7, x8, x9, x10, x11, x12, x13, x14, x15, x16, x17, x18, x19, x20, x21, x22] = .ok (y == 0) [x0, x1, .val (.tup (iL rods)), .val (.int y), x4, x5, x6, x7, x8, x9, x10, x11, x12, x13, x14, x15, x16, x17, x18, x19, x20, x21, x22] := by walk_at "px"
  by_cases h : y = 0
  · rw [if_pos h]
    subst h
    refine (if_then (u.trans rfl)).trans ?_
    walk_at "px"
    rw [if_pos (by decide)]
    walk_at "px"
    rw [if_pos (by rw [ints_length]; show _ ≤ 1000000; simp; omega)]
    walk_at "px"
    simp [iL]
  · rw [if_neg h]
    exact if_no (u.trans (by rw [show (y == 0) = false by simpa using h]))

theorem M5 (x0 x1 x4 x5 x6 x7 x8 x9 x10 x11 x12 x13 x14 x15 x16 x17 x18 x19 x20 x21 x22 : Slot) (y : Int) (rods : List Int) (hl : rods.length ≤ 1000) : evS T (callT T 9) (.ifs (.cmp .eq (.var 3) (.int 1)) (.cons (.asg (.nm 2) (.bin .add (.var 2) (.tup (.cons (.bin .add (.bi .sum (.cons (.var 2) .nil)) (.int 1)) .nil)))) .nil) .nil) [x0, x1, .val (.tup (iL rods)), .val (.int y), x4, x5, x6, x7, x8, x9, x10, x11, x12, x13, x14, x15, x16, x17, x18, x19, x20, x21, x22] = .ok .next [x0, x1, .val (.tup (iL (if y = 1 then rods ++ [rods.sum + 1] else rods))), .val (.int y), x4, x5, x6, x7, x8, x9, x10, x11, x12, x13, x14, x15, x16, x17, x18, x19, x20, x21, x22] := by
  have u : evT T (callT T 9) (.cmp .eq (.var 3) (.int 1)) [x0, x1, .val (.tup (iL rods)), .val (.int y), x4, x5, x6, x7, x8, x9, x10, x11, x12, x13, x14, x15, x16, x17, x18, x19, x20, x21, x22] = .ok (y == 1) [x0, x1, .val (.tup (iL rods)), .val (.int y), x4, x5, x6, x7, x8, x9, x10, x11, x12, x13, x14, x15, x16, x17, x18, x19, x20, x21, x22] := by walk_at "px"
  by_cases h : y = 1
  · rw [if_pos h]
    subst h
    refine (if_then (u.trans rfl)).trans ?_
    walk_at "px"
    rw [if_pos (by decide)]
    walk_at "px"
    rw [if_pos (by rw [ints_length]; show _ ≤ 1000000; simp; omega)]
    walk_at "px"
    simp [iL]
  · rw [if_neg h]
    exact if_no (u.trans (by rw [show (y == 1) = false by simpa using h]))

def wideL (rods : List Int) : List Int := ((List.range rods.length).map fun (x : Nat) => ((x : Nat) : Int)).filter fun i => decide (rods.sum < 2 * rods.getD i.toNat 0)
theorem wide_t (x0 x1 x3 x5 x6 x7 x8 x9 x10 x11 x12 x13 x14 x15 x16 x17 x18 x20 x21 x22 : Slot) (rods : List Int) (n : Int) (h0 : 0 ≤ n) (h : n < rods.length) : evT T (callT T 9) (.cmp .gt (.bin .mul (.int 2) (.idx (.var 2) (.var 19))) (.bi .sum (.cons (.var 2) .nil))) [x0, x1, .val (.tup (iL rods)), x3, .non, x5, x6, x7, x8, x9, x10, x11, x12, x13, x14, x15, x16, x17, x18, .val (.int n), x20, x21, x22] = .ok (decide (rods.sum < 2 * rods.getD n.toNat 0)) [x0, x1, .val (.tup (iL rods)), x3, .non, x5, x6, x7, x8, x9, x10, x11, x12, x13, x14, x15, x16, x17, x18, .val (.int n), x20, x21, x22] := by
  have ir := idx_getI h0 h
  walk_at "px"
  rw [ir]
  walk_at "px"
  rw [if_pos (mul2 _)]
  walk_at "px"
theorem M6 (x0 x1 x3 x5 x6 x7 x8 x9 x10 x11 x12 x13 x14 x15 x16 x17 x18 x20 x21 x22 : Slot) (rods : List Int) (hl : rods.length ≤ 1000) : evS T (callT T 9) (.asg (.nm 4) (.comp [19] (.nm 19) (.rng (.cons (.bi .len (.cons (.var 2) .nil)) .nil)) (.cons (.cmp .gt (.bin .mul (.int 2) (.idx (.var 2) (.var 19))) (.bi .sum (.cons (.var 2) .nil))) .nil) (.var 19))) [x0, x1, .val (.tup (iL rods)), x3, .non, x5, x6, x7, x8, x9, x10, x11, x12, x13, x14, x15, x16, x17, x18, .non, x20, x21, x22] = .ok .next [x0, x1, .val (.tup (iL rods)), x3, .own (.lst (iL (wideL rods))), x5, x6, x7, x8, x9, x10, x11, x12, x13, x14, x15, x16, x17, x18, .non, x20, x21, x22] := by
  have hrng : evI T (callT T 9) (.rng (.cons (.bi .len (.cons (.var 2) .nil)) .nil)) [x0, x1, .val (.tup (iL rods)), x3, .non, x5, x6, x7, x8, x9, x10, x11, x12, x13, x14, x15, x16, x17, x18, .non, x20, x21, x22] = .ok (iL ((List.range rods.length).map fun (x : Nat) => ((x : Nat) : Int))) [x0, x1, .val (.tup (iL rods)), x3, .non, x5, x6, x7, x8, x9, x10, x11, x12, x13, x14, x15, x16, x17, x18, .non, x20, x21, x22] := by
    refine (rng_n rods.length _ rfl (by omega) (evL1 (len_var (A := .tup (iL rods)) (ds := iL rods) rfl (.inl rfl)) |>.trans (by rw [ints_length]))).trans ?_
    rw [← List.range_eq_range']
    unfold iL
    rw [List.map_map]
    rfl
  have hc := comp_fl (T := T) (cf := (callT T 9)) (i := 19) (t := (.cmp .gt (.bin .mul (.int 2) (.idx (.var 2) (.var 19))) (.bi .sum (.cons (.var 2) .nil)))) (fun i => decide (rods.sum < 2 * rods.getD i.toNat 0)) hrng rfl (by simp; show _ ≤ 1000000; omega) (fun n hn => by
    have hj : 0 ≤ n ∧ n < rods.length := by
      obtain ⟨j, hj, rfl⟩ := List.mem_map.mp hn
      have hj : j < rods.length := List.mem_range.mp hj
      omega
    exact wide_t x0 x1 x3 x5 x6 x7 x8 x9 x10 x11 x12 x13 x14 x15 x16 x17 x18 x20 x21 x22 rods n hj.1 hj.2) (by simp)
  simp only [evS]
  rw [bnd_eq hc]
  rfl

theorem M7 (x0 x1 x3 x4 x6 x7 x8 x9 x10 x11 x12 x13 x14 x15 x16 x17 x18 x19 x20 x21 x22 : Slot) (rods : List Int) (o : D) (h : callT T 9 15 [.d (.lst (iL rods))] = .ok (.d o) [none]) : evS T (callT T 9) (.asg (.nm 5) (.call 15 (.cons (.bi .list (.cons (.var 2) .nil)) .nil))) [x0, x1, .val (.tup (iL rods)), x3, x4, .non, x6, x7, x8, x9, x10, x11, x12, x13, x14, x15, x16, x17, x18, x19, x20, x21, x22] = .ok .next [x0, x1, .val (.tup (iL rods)), x3, x4, .val o, x6, x7, x8, x9, x10, x11, x12, x13, x14, x15, x16, x17, x18, x19, x20, x21, x22] := by
  walk_at "px"
  rw [t15]
  walk_at "px"
  rw [h]
  walk_at "px"

theorem M8 (x0 x1 x3 x4 x5 x7 x8 x9 x10 x11 x12 x13 x14 x15 x16 x17 x18 x19 x20 x21 x22 : Slot) (rods : List Int) : evS T (callT T 9) (.asg (.nm 6) (.tup (.cons (.str "closes") (.cons (.var 2) .nil)))) [x0, x1, .val (.tup (iL rods)), x3, x4, x5, .non, x7, x8, x9, x10, x11, x12, x13, x14, x15, x16, x17, x18, x19, x20, x21, x22] = .ok .next [x0, x1, .val (.tup (iL rods)), x3, x4, x5, .val (.tup [.str "closes", .tup (iL rods)]), x7, x8, x9, x10, x11, x12, x13, x14, x15, x16, x17, x18, x19, x20, x21, x22] := by
  walk_at "px"
  rw [if_pos (by decide)]
  walk_at "px"

def dueD (rods wl : List Int) : D := match wl with | [] => .tup [.str "closes", .tup (iL rods)] | x :: _ => .tup [.str "gapes", .tup (iL rods), .int x]
theorem M9 (x0 x1 x3 x5 x7 x8 x9 x10 x11 x12 x13 x14 x15 x16 x17 x18 x19 x20 x21 x22 : Slot) (rods wl : List Int) : evS T (callT T 9) (.ifs (.cmp .ne (.var 4) (.lst .nil)) (.cons (.asg (.nm 6) (.tup (.cons (.str "gapes") (.cons (.var 2) (.cons (.idx (.var 4) (.int 0)) .nil))))) .nil) .nil) [x0, x1, .val (.tup (iL rods)), x3, .own (.lst (iL wl)), x5, .val (.tup [.str "closes", .tup (iL rods)]), x7, x8, x9, x10, x11, x12, x13, x14, x15, x16, x17, x18, x19, x20, x21, x22] = .ok .next [x0, x1, .val (.tup (iL rods)), x3, .own (.lst (iL wl)), x5, .val (dueD rods wl), x7, x8, x9, x10, x11, x12, x13, x14, x15, x16, x17, x18, x19, x20, x21, x22] := by
  have u : evT T (callT T 9) (.cmp .ne (.var 4) (.lst .nil)) [x0, x1, .val (.tup (iL rods)), x3, .own (.lst (iL wl)), x5, .val (.tup [.str "closes", .tup (iL rods)]), x7, x8, x9, x10, x11, x12, x13, x14, x15, x16, x17, x18, x19, x20, x21, x22] = .ok (!wl.isEmpty) [x0, x1, .val (.tup (iL rods)), x3, .own (.lst (iL wl)), x5, .val (.tup [.str "closes", .tup (iL rods)]), x7, x8, x9, x10, x11, x12, x13, x14, x15, x16, x17, x18, x19, x20, x21, x22] := by
    walk_at "px"
    rw [if_pos (by decide)]
    walk_at "px"
    rw [(neNil _).2]
    walk_at "px"
  cases wl with
  | nil => exact if_no u
  | cons x r =>
    refine (if_then u).trans ?_
    have ix : idxD (.lst (iL (x :: r))) (.int 0) = some (.int x) := (idx_at (iL (x :: r)) 0 (.int x) rfl).1
    walk_at "px"
    rw [ix]
    walk_at "px"
    rw [if_pos (by decide)]
    walk_at "px"
    rfl

theorem M10 (x0 x1 x3 x4 x5 x6 x8 x9 x10 x11 x12 x13 x14 x15 x16 x17 x18 x19 x20 x21 x22 : Slot) (rods : List Int) (hn : ∀ r ∈ rods, 0 ≤ r) (hB : rods.sum ≤ 900) (hl : rods.length < 900) : evS T (callT T 9) (.asg (.nm 7) (.call 14 (.cons (.var 2) .nil))) [x0, x1, .val (.tup (iL rods)), x3, x4, x5, x6, .non, x8, x9, x10, x11, x12, x13, x14, x15, x16, x17, x18, x19, x20, x21, x22] = .ok .next [x0, x1, .val (.tup (iL rods)), x3, x4, x5, x6, .val (.tup ((layS [0] rods).map tT)), x8, x9, x10, x11, x12, x13, x14, x15, x16, x17, x18, x19, x20, x21, x22] := by
  walk_at "px"
  rw [t14]
  walk_at "px"
  rw [r14L 7 rods hn hB hl]
  walk_at "px"

theorem M11 (x0 x1 x3 x4 x5 x6 x7 x9 x10 x11 x12 x13 x14 x15 x16 x17 x18 x19 x20 x21 x22 : Slot) (rods : List Int) (o : D) (h : callT T 9 13 [.d (.tup (iL rods))] = .ok (.d o) [none]) : evS T (callT T 9) (.asg (.nm 8) (.call 13 (.cons (.var 2) .nil))) [x0, x1, .val (.tup (iL rods)), x3, x4, x5, x6, x7, .non, x9, x10, x11, x12, x13, x14, x15, x16, x17, x18, x19, x20, x21, x22] = .ok .next [x0, x1, .val (.tup (iL rods)), x3, x4, x5, x6, x7, .val o, x9, x10, x11, x12, x13, x14, x15, x16, x17, x18, x19, x20, x21, x22] := by
  walk_at "px"
  rw [t13]
  walk_at "px"
  rw [h]
  walk_at "px"

theorem M12 (x0 x1 x3 x4 x9 x10 x11 x12 x13 x14 x15 x16 x17 x18 x19 x20 x21 x22 : Slot) (rods : List Int) (o tl : D) (h : PySem.Str) (h1 : 1 ≤ rods.length) (hs : callT T 9 12 [.d o, .d o] = .ok (.d (.bl true)) [none, none]) (hh : h = (if 0 ∈ lastS [0] rods then "flattens" else "stands")) (hp : callT T 9 11 [.d (.tup [.str h, .tup (iL rods), tl])] = .ok (.d (.bl true)) [none])
    (hr : callT T 9 10 [.d (.tup [.str h, .tup (iL rods), tl])] = .ok (.d (.bl true)) [none]) : evS T (callT T 9) (.ifs (.or (.cons (.not (.val (.call 12 (.cons (.var 5) (.cons (.var 6) .nil))))) (.cons (.cmp .ne (.idx (.var 8) (.int 0)) (.idx (.tup (.cons (.str "stands") (.cons (.str "flattens") .nil))) (.bi .int (.cons (.cmp .isin (.int 0) (.idx (.var 7) (.neg (.int 1)))) .nil)))) (.cons (.cmp .ne (.idx (.var 8) (.int 1)) (.var 2)) (.cons (.not (.val (.call 11 (.cons (.var 8) .nil)))) (.cons (.not (.val (.call 10 (.cons (.var 8) .nil)))) .nil)))))) (.cons (.ret (.bl false)) .nil) .nil) [x0, x1, .val (.tup (iL rods)), x3, x4, .val o, .val o, .val (.tup ((layS [0] rods).map tT)), .val (.tup [.str h, .tup (iL rods), tl]), x9, x10, x11, x12, x13, x14, x15, x16, x17, x18, x19, x20, x21, x22] = .ok .next [x0, x1, .val (.tup (iL rods)), x3, x4, .val o, .val o, .val (.tup ((layS [0] rods).map tT)), .val (.tup [.str h, .tup (iL rods), tl]), x9, x10, x11, x12, x13, x14, x15, x16, x17, x18, x19, x20, x21, x22] := by
  obtain ⟨pre, hpre⟩ := layS_last rods [0]
  have hne : layS [0] rods ≠ [] := by
    intro h0
    have := layS_len rods [0]
    rw [h0] at this
    simp at this
    omega
  obtain ⟨pre2, hpre2⟩ : ∃ pre2, layS [0] rods = pre2 ++ [lastS [0] rods] := by
    cases pre with
    | nil => simp at hpre; exact absurd hpre.2 hne
    | cons x p => exact ⟨p, by simpa using (List.cons.inj hpre).2⟩
  have hx : idxD (.tup ((layS [0] rods).map tT)) (.int (-1)) = some (.tup (iL (lastS [0] rods))) := by
    rw [hpre2, List.map_append]
    exact idx_last (pre2.map tT) (tT (lastS [0] rods))
  have i1 : idxD (.tup [.str h, .tup (iL rods), tl]) (.int 1) = some (.tup (iL rods)) := (idx_at [.str h, .tup (iL rods), tl] 1 _ rfl).2
  have u0 : evT T (callT T 9) (.not (.val (.call 12 (.cons (.var 5) (.cons (.var 6) .nil))))) [x0, x1, .val (.tup (iL rods)), x3, x4, .val o, .val o, .val (.tup ((layS [0] rods).map tT)), .val (.tup [.str h, .tup (iL rods), tl]), x9, x10, x11, x12, x13, x14, x15, x16, x17, x18, x19, x20, x21, x22] = .ok false [x0, x1, .val (.tup (iL rods)), x3, x4, .val o, .val o, .val (.tup ((layS [0] rods).map tT)), .val (.tup [.str h, .tup (iL rods), tl]), x9, x10, x11, x12, x13, x14, x15, x16, x17, x18, x19, x20, x21, x22] := by
    walk_at "px"
    rw [t12]
    walk_at "px"
    rw [hs]
    walk_at "px"
  have u1 : evT T (callT T 9) (.cmp .ne (.idx (.var 8) (.int 0)) (.idx (.tup (.cons (.str "stands") (.cons (.str "flattens") .nil))) (.bi .int (.cons (.cmp .isin (.int 0) (.idx (.var 7) (.neg (.int 1)))) .nil)))) [x0, x1, .val (.tup (iL rods)), x3, x4, .val o, .val o, .val (.tup ((layS [0] rods).map tT)), .val (.tup [.str h, .tup (iL rods), tl]), x9, x10, x11, x12, x13, x14, x15, x16, x17, x18, x19, x20, x21, x22] = .ok false [x0, x1, .val (.tup (iL rods)), x3, x4, .val o, .val o, .val (.tup ((layS [0] rods).map tT)), .val (.tup [.str h, .tup (iL rods), tl]), x9, x10, x11, x12, x13, x14, x15, x16, x17, x18, x19, x20, x21, x22] := by
    walk_at "px"
    rw [idx0]
    walk_at "px"
    rw [if_pos (by decide)]
    walk_at "px"
    rw [hx]
    walk_at "px"
    by_cases hF : 0 ∈ lastS [0] rods
    · rw [if_pos hF] at hh
      subst hh
      rw [decide_eq_true hF, show idxD (.tup [.str "stands", .str "flattens"]) (.int (b2i true)) = some (.str "flattens") from rfl]
      walk_at "px"
      rw [eFFn]
      walk_at "px"
    · rw [if_neg hF] at hh
      subst hh
      rw [decide_eq_false hF, show idxD (.tup [.str "stands", .str "flattens"]) (.int (b2i false)) = some (.str "stands") from rfl]
      walk_at "px"
      rw [neS]
      walk_at "px"
  have u2 : evT T (callT T 9) (.cmp .ne (.idx (.var 8) (.int 1)) (.var 2)) [x0, x1, .val (.tup (iL rods)), x3, x4, .val o, .val o, .val (.tup ((layS [0] rods).map tT)), .val (.tup [.str h, .tup (iL rods), tl]), x9, x10, x11, x12, x13, x14, x15, x16, x17, x18, x19, x20, x21, x22] = .ok false [x0, x1, .val (.tup (iL rods)), x3, x4, .val o, .val o, .val (.tup ((layS [0] rods).map tT)), .val (.tup [.str h, .tup (iL rods), tl]), x9, x10, x11, x12, x13, x14, x15, x16, x17, x18, x19, x20, x21, x22] := by
    walk_at "px"
    rw [i1]
    walk_at "px"
    rw [neInts]
    walk_at "px"
  have u3 : evT T (callT T 9) (.not (.val (.call 11 (.cons (.var 8) .nil)))) [x0, x1, .val (.tup (iL rods)), x3, x4, .val o, .val o, .val (.tup ((layS [0] rods).map tT)), .val (.tup [.str h, .tup (iL rods), tl]), x9, x10, x11, x12, x13, x14, x15, x16, x17, x18, x19, x20, x21, x22] = .ok false [x0, x1, .val (.tup (iL rods)), x3, x4, .val o, .val o, .val (.tup ((layS [0] rods).map tT)), .val (.tup [.str h, .tup (iL rods), tl]), x9, x10, x11, x12, x13, x14, x15, x16, x17, x18, x19, x20, x21, x22] := by
    walk_at "px"
    rw [t11]
    walk_at "px"
    rw [hp]
    walk_at "px"
  have u4 : evT T (callT T 9) (.not (.val (.call 10 (.cons (.var 8) .nil)))) [x0, x1, .val (.tup (iL rods)), x3, x4, .val o, .val o, .val (.tup ((layS [0] rods).map tT)), .val (.tup [.str h, .tup (iL rods), tl]), x9, x10, x11, x12, x13, x14, x15, x16, x17, x18, x19, x20, x21, x22] = .ok false [x0, x1, .val (.tup (iL rods)), x3, x4, .val o, .val o, .val (.tup ((layS [0] rods).map tT)), .val (.tup [.str h, .tup (iL rods), tl]), x9, x10, x11, x12, x13, x14, x15, x16, x17, x18, x19, x20, x21, x22] := by
    walk_at "px"
    rw [t10]
    walk_at "px"
    rw [hr]
    walk_at "px"
  exact if_no (any_c u0 fun _ => any_c u1 fun _ => any_c u2 fun _ => any_c u3 fun _ => any_c u4 fun _ => any_n)
end PXk21

end
section
set_option Elab.async false
set_option linter.all false
set_option maxRecDepth 100000
set_option maxHeartbeats 8000000
namespace PXk21
open PX
local macro_rules | `(tactic| walk_at "px") => `(tactic| simp only [evSs, evS, v0, v1, v2, v3, v4, v5, v6, v7, v8, v9, v10, v11, v12, v13, v14, v15, v16, v17, v18, v19, v20, v21, v22, v23, v24, v25, v26, v27, evL, evAs, evO, evT, evAll, evAny, evI, evG, evGs, bnd, ret, bad, ofO, ofAV, opr, oper, binM, unM, cmp2M, dataM, toD, frz, viewM, viewsM, view, rdSlot, rdVar, putSlot, modSlot, lenG, lenXs, binD, truD, biD, negD, oneInt, Cell.d, seqD, itemsD, enumD, zipD, seqL, rng2, rngTwo, rngD, slD, revD, isTy, lstAt, isDct, appC, subC, callM, refs_nil, refs_d, toArgs, toArg, set_own, setOuts, setOut, outsOf, outOf, args0, List.replicate, isin_tup, isin_lst, notin_tup, PX.eq_int, PX.ne_int, PX.eq_bl, PX.ne_bl, lt_i, le_i, gt_i, ge_i, Option.bind_some, Option.map_some, List.nil_append, List.cons_append, List.append_nil, List.getElem?_cons_zero, List.getElem?_cons_succ, List.set_cons_zero, List.set_cons_succ, List.length_cons, List.length_nil, allInt_ints, allBl_bls, Bool.not_true, Bool.not_false, Bool.and_true, Bool.true_and, Bool.false_and, Bool.and_false, Bool.or_true, Bool.true_or, Bool.or_false, Bool.false_or, Bool.false_eq_true, if_true, if_false, reduceIte, Nat.reduceAdd, Nat.reduceSub])

theorem lookK_mem {j v : Int} : ∀ {ps : Ps}, Nd ps → (j, v) ∈ ps → lookK (.int j) (kD ps) (vD ps) = some (.int v)
  | p :: r, h, hm => by
    have h2 : p.1 ∉ r.map (·.1) ∧ Nd r := List.nodup_cons.mp (show ((p.1 :: r.map (·.1)) : List Int).Nodup from h)
    rw [kD_cons, vD_cons]
    show (if (p.1 == j) = true then some (D.int p.2) else lookK (.int j) (kD r) (vD r)) = _
    rcases List.mem_cons.mp hm with rfl | hm
    · simp
    · have hj : j ∈ r.map (·.1) := List.mem_map.mpr ⟨_, hm, rfl⟩
      have hne : p.1 ≠ j := fun e => h2.1 (by rw [e]; exact hj)
      rw [if_neg (by simpa using hne)]
      exact lookK_mem h2.2 hm
def advC (r : Int) : Ps → Ps → Ps
  | [], acc => acc
  | p :: cs, acc => advC r cs (bump (p.1 - r) p.2 (bump (p.1 + r) p.2 acc))
theorem nd_advC (r : Int) : ∀ (cs acc : Ps), Nd acc → Nd (advC r cs acc)
  | [], _, h => h
  | p :: cs, acc, h => nd_advC r cs _ (nd_bump (nd_bump h))
theorem len_advC (r : Int) : ∀ (cs acc : Ps), (advC r cs acc).length ≤ acc.length + 2 * cs.length
  | [], acc => by simp [advC]
  | p :: cs, acc => by
    have h := len_advC r cs (bump (p.1 - r) p.2 (bump (p.1 + r) p.2 acc))
    have l1 := @len_bump (p.1 + r) p.2 acc
    have l2 := @len_bump (p.1 - r) p.2 (bump (p.1 + r) p.2 acc)
    show (advC r cs _).length ≤ _
    rw [List.length_cons]; omega
theorem N_advC (r j : Int) : ∀ (cs acc : Ps), N (advC r cs acc) j = N acc j + N cs (j + r) + N cs (j - r)
  | [], acc => by simp [advC, N]
  | p :: cs, acc => by
    show N (advC r cs _) j = N acc j + ((if p.1 = j + r then p.2 else 0) + N cs (j + r)) + ((if p.1 = j - r then p.2 else 0) + N cs (j - r))
    rw [N_advC r j cs, N_bump, N_bump]
    have e1 : (p.1 - r = j) = (p.1 = j + r) := propext ⟨fun h => by omega, fun h => by omega⟩
    have e2 : (p.1 + r = j) = (p.1 = j - r) := propext ⟨fun h => by omega, fun h => by omega⟩
    simp only [e1, e2]
    omega
def advsC : List Int → Ps → Ps
  | [], ps => ps
  | r :: rs, ps => advsC rs (advC r ps [])
theorem N_advsC : ∀ (rs : List Int) (ps : Ps), N (advsC rs ps) = cnt rs (N ps)
  | [], _ => rfl
  | r :: rs, ps => by
    show N (advsC rs (advC r ps [])) = cnt rs _
    rw [N_advsC rs]
    congr 1
    funext j
    rw [N_advC]
    show 0 + _ + _ = _
    omega
theorem nd_advsC : ∀ (rs : List Int) (ps : Ps), Nd ps → Nd (advsC rs ps)
  | [], _, h => h
  | r :: rs, ps, h => nd_advsC rs _ (nd_advC r ps [] List.nodup_nil)

theorem putC0 (x0 x1 x2 x3 x4 x5 x6 x7 x8 x11 x12 x13 x14 x16 x18 x19 x20 x21 x22 : Slot) (cs acc : Ps) (j r v : Int) (hv : lookK (.int j) (kD cs) (vD cs) = some (.int v)) (h : Nd acc) (hl : acc.length < 1000000) : evS T (callT T 9) (.asg (.sub 17 (.bin .add (.var 15) (.var 10))) (.bin .add (.get (.var 17) (.cons (.bin .add (.var 15) (.var 10)) (.cons (.int 0) .nil))) (.idx (.var 9) (.var 15)))) [x0, x1, x2, x3, x4, x5, x6, x7, x8, .val (dD cs), .val (.int r), x11, x12, x13, x14, .val (.int j), x16, .own (cD acc), x18, x19, x20, x21, x22] = .ok .next [x0, x1, x2, x3, x4, x5, x6, x7, x8, .val (dD cs), .val (.int r), x11, x12, x13, x14, .val (.int j), x16, .own (cD (bump (j + r) v acc)), x18, x19, x20, x21, x22] := by
  walk_at "px"
  rw [getP h]
  walk_at "px"
  rw [show idxD (dD cs) (.int j) = some (.int v) from hv]
  walk_at "px"
  rw [subP h hl]

theorem putC1 (x0 x1 x2 x3 x4 x5 x6 x7 x8 x11 x12 x13 x14 x16 x18 x19 x20 x21 x22 : Slot) (cs acc : Ps) (j r v : Int) (hv : lookK (.int j) (kD cs) (vD cs) = some (.int v)) (h : Nd acc) (hl : acc.length < 1000000) : evS T (callT T 9) (.asg (.sub 17 (.bin .sub (.var 15) (.var 10))) (.bin .add (.get (.var 17) (.cons (.bin .sub (.var 15) (.var 10)) (.cons (.int 0) .nil))) (.idx (.var 9) (.var 15)))) [x0, x1, x2, x3, x4, x5, x6, x7, x8, .val (dD cs), .val (.int r), x11, x12, x13, x14, .val (.int j), x16, .own (cD acc), x18, x19, x20, x21, x22] = .ok .next [x0, x1, x2, x3, x4, x5, x6, x7, x8, .val (dD cs), .val (.int r), x11, x12, x13, x14, .val (.int j), x16, .own (cD (bump (j - r) v acc)), x18, x19, x20, x21, x22] := by
  walk_at "px"
  rw [getP h]
  walk_at "px"
  rw [show idxD (dD cs) (.int j) = some (.int v) from hv]
  walk_at "px"
  rw [subP h hl]

theorem loopC2 (x0 x1 x2 x3 x4 x5 x6 x7 x8 x11 x12 x13 x14 x16 x18 x19 x20 x21 x22 : Slot) (cs : Ps) (hcs : Nd cs) (r : Int) : ∀ (sub acc : Ps) (s15 : Slot), (∀ p ∈ sub, p ∈ cs) → Free s15 → Nd acc → acc.length + 2 * sub.length < 1000000 → ∃ s15', Free s15' ∧ forLoop (evG T (callT T 9) (.nm 15)) (evSs T (callT T 9) (.cons (.asg (.sub 17 (.bin .add (.var 15) (.var 10))) (.bin .add (.get (.var 17) (.cons (.bin .add (.var 15) (.var 10)) (.cons (.int 0) .nil))) (.idx (.var 9) (.var 15)))) (.cons (.asg (.sub 17 (.bin .sub (.var 15) (.var 10))) (.bin .add (.get (.var 17) (.cons (.bin .sub (.var 15) (.var 10)) (.cons (.int 0) .nil))) (.idx (.var 9) (.var 15)))) .nil))) (kD sub) [x0, x1, x2, x3, x4, x5, x6, x7, x8, .val (dD cs), .val (.int r), x11, x12, x13, x14, s15, x16, .own (cD acc), x18, x19, x20, x21, x22] = .ok .next [x0, x1, x2, x3, x4, x5, x6, x7, x8, .val (dD cs), .val (.int r), x11, x12, x13, x14, s15', x16, .own (cD (advC r sub acc)), x18, x19, x20, x21, x22]
  | [], acc, s15, _, h15, _, _ => ⟨s15, h15, rfl⟩
  | p :: sub, acc, s15, hs, h15, hn, hl => by
    rw [List.length_cons] at hl
    have l1 := @len_bump (p.1 + r) p.2 acc
    have l2 := @len_bump (p.1 - r) p.2 (bump (p.1 + r) p.2 acc)
    have hv := lookK_mem (j := p.1) (v := p.2) hcs (hs p List.mem_cons_self)
    obtain ⟨s15', g1, g2⟩ := loopC2 x0 x1 x2 x3 x4 x5 x6 x7 x8 x11 x12 x13 x14 x16 x18 x19 x20 x21 x22 cs hcs r sub (bump (p.1 - r) p.2 (bump (p.1 + r) p.2 acc)) (.val (.int p.1)) (fun q hq => hs q (List.mem_cons_of_mem _ hq)) (.inr ⟨_, rfl⟩) (nd_bump (nd_bump hn)) (by omega)
    refine ⟨s15', g1, ?_⟩
    rw [kD_cons]
    refine (for_next (e1 := [x0, x1, x2, x3, x4, x5, x6, x7, x8, .val (dD cs), .val (.int r), x11, x12, x13, x14, .val (.int p.1), x16, .own (cD acc), x18, x19, x20, x21, x22]) (by exact put_free (i := 15) (s := s15) rfl h15) (e2 := [x0, x1, x2, x3, x4, x5, x6, x7, x8, .val (dD cs), .val (.int r), x11, x12, x13, x14, .val (.int p.1), x16, .own (cD (bump (p.1 - r) p.2 (bump (p.1 + r) p.2 acc))), x18, x19, x20, x21, x22]) ?_).trans g2
    rw [seq_next (putC0 x0 x1 x2 x3 x4 x5 x6 x7 x8 x11 x12 x13 x14 x16 x18 x19 x20 x21 x22 cs acc p.1 r p.2 hv hn (by omega)), seq_next (putC1 x0 x1 x2 x3 x4 x5 x6 x7 x8 x11 x12 x13 x14 x16 x18 x19 x20 x21 x22 cs _ p.1 r p.2 hv (nd_bump hn) (by omega))]
    rfl

theorem loopR2 (x0 x1 x2 x3 x4 x5 x6 x7 x8 x11 x12 x13 x14 x16 x18 x19 x20 x21 x22 : Slot) : ∀ (rs : List Int) (ps : Ps) (s9 s10 s15 s17 : Slot), Dc ps s9 → Free s10 → Free s15 → Free s17 → Nd ps → ps.length * 2 ^ rs.length < 500000 →
    ∃ s9' s10' s15' s17', Dc (advsC rs ps) s9' ∧ Free s10' ∧ Free s15' ∧ Free s17' ∧ forLoop (evG T (callT T 9) (.nm 10)) (evSs T (callT T 9) (.cons (.asg (.nm 17) (.dct .nil .nil)) (.cons (.fr (.nm 15) (.seq (.var 9)) (.cons (.asg (.sub 17 (.bin .add (.var 15) (.var 10))) (.bin .add (.get (.var 17) (.cons (.bin .add (.var 15) (.var 10)) (.cons (.int 0) .nil))) (.idx (.var 9) (.var 15)))) (.cons (.asg (.sub 17 (.bin .sub (.var 15) (.var 10))) (.bin .add (.get (.var 17) (.cons (.bin .sub (.var 15) (.var 10)) (.cons (.int 0) .nil))) (.idx (.var 9) (.var 15)))) .nil))) (.cons (.asg (.nm 9) (.var 17)) .nil)))) (iL rs) [x0, x1, x2, x3, x4, x5, x6, x7, x8, s9, s10, x11, x12, x13, x14, s15, x16, s17, x18, x19, x20, x21, x22] = .ok .next [x0, x1, x2, x3, x4, x5, x6, x7, x8, s9', s10', x11, x12, x13, x14, s15', x16, s17', x18, x19, x20, x21, x22]
  | [], ps, s9, s10, s15, s17, h9, h10, h15, h17, _, _ => ⟨s9, s10, s15, s17, h9, h10, h15, h17, rfl⟩
  | r :: rs, ps, s9, s10, s15, s17, h9, h10, h15, h17, hn, hl => by
    have hpow : ps.length * 2 ^ (rs.length + 1) = 2 * ps.length * 2 ^ rs.length := by rw [Nat.pow_succ]; ac_rfl
    rw [List.length_cons, hpow] at hl
    have h2 : 2 * ps.length < 500000 := Nat.lt_of_le_of_lt (Nat.le_mul_of_pos_right _ (Nat.pow_pos (by decide))) hl
    have h3 := len_advC r ps []
    obtain ⟨t15, g1, g2⟩ := loopC2 x0 x1 x2 x3 x4 x5 x6 x7 x8 x11 x12 x13 x14 x16 x18 x19 x20 x21 x22 ps hn r ps [] s15 (fun p hp => hp) h15 List.nodup_nil (by simp; omega)
    obtain ⟨s9', s10', s15', s17', k1, k2, k3, k4, k5⟩ := loopR2 x0 x1 x2 x3 x4 x5 x6 x7 x8 x11 x12 x13 x14 x16 x18 x19 x20 x21 x22 rs (advC r ps []) (.val (dD (advC r ps []))) (.val (.int r)) t15 (.val (dD (advC r ps []))) (.inr rfl) (.inr ⟨_, rfl⟩) g1 (.inr ⟨_, rfl⟩) (nd_advC r ps [] List.nodup_nil)
      (Nat.lt_of_le_of_lt (Nat.mul_le_mul_right _ (by simpa using h3)) hl)
    refine ⟨s9', s10', s15', s17', k1, k2, k3, k4, ?_⟩
    refine (for_next (e1 := [x0, x1, x2, x3, x4, x5, x6, x7, x8, s9, .val (.int r), x11, x12, x13, x14, s15, x16, s17, x18, x19, x20, x21, x22]) (e2 := [x0, x1, x2, x3, x4, x5, x6, x7, x8, .val (dD (advC r ps [])), .val (.int r), x11, x12, x13, x14, t15, x16, .val (dD (advC r ps [])), x18, x19, x20, x21, x22]) (by exact put_free (i := 10) (s := s10) rfl h10) ?_).trans k5
    have q1 : evS T (callT T 9) (.asg (.nm 17) (.dct .nil .nil)) [x0, x1, x2, x3, x4, x5, x6, x7, x8, s9, .val (.int r), x11, x12, x13, x14, s15, x16, s17, x18, x19, x20, x21, x22] = .ok .next [x0, x1, x2, x3, x4, x5, x6, x7, x8, s9, .val (.int r), x11, x12, x13, x14, s15, x16, .own (cD []), x18, x19, x20, x21, x22] := by
      rcases h17 with rfl | ⟨d, rfl⟩ <;> rfl
    have q2 : evS T (callT T 9) (.fr (.nm 15) (.seq (.var 9)) (.cons (.asg (.sub 17 (.bin .add (.var 15) (.var 10))) (.bin .add (.get (.var 17) (.cons (.bin .add (.var 15) (.var 10)) (.cons (.int 0) .nil))) (.idx (.var 9) (.var 15)))) (.cons (.asg (.sub 17 (.bin .sub (.var 15) (.var 10))) (.bin .add (.get (.var 17) (.cons (.bin .sub (.var 15) (.var 10)) (.cons (.int 0) .nil))) (.idx (.var 9) (.var 15)))) .nil))) [x0, x1, x2, x3, x4, x5, x6, x7, x8, s9, .val (.int r), x11, x12, x13, x14, s15, x16, .own (cD []), x18, x19, x20, x21, x22] = .ok .next [x0, x1, x2, x3, x4, x5, x6, x7, x8, .val (dD ps), .val (.int r), x11, x12, x13, x14, t15, x16, .own (cD (advC r ps [])), x18, x19, x20, x21, x22] := by
      refine (for_it (xs := kD ps) (e1 := [x0, x1, x2, x3, x4, x5, x6, x7, x8, .val (dD ps), .val (.int r), x11, x12, x13, x14, s15, x16, .own (cD []), x18, x19, x20, x21, x22]) ?_).trans g2
      rcases h9 with rfl | rfl <;> rfl
    have q3 : evS T (callT T 9) (.asg (.nm 9) (.var 17)) [x0, x1, x2, x3, x4, x5, x6, x7, x8, .val (dD ps), .val (.int r), x11, x12, x13, x14, t15, x16, .own (cD (advC r ps [])), x18, x19, x20, x21, x22] = .ok .next [x0, x1, x2, x3, x4, x5, x6, x7, x8, .val (dD (advC r ps [])), .val (.int r), x11, x12, x13, x14, t15, x16, .val (dD (advC r ps [])), x18, x19, x20, x21, x22] := rfl
    rw [seq_next q1, seq_next q2, seq_next q3]
    rfl

theorem M13 (x0 x1 x2 x3 x4 x5 x6 x7 x8 x10 x11 x12 x13 x14 x15 x16 x17 x18 x19 x20 x21 x22 : Slot) : evS T (callT T 9) (.asg (.nm 9) (.dct (.cons (.int 0) .nil) (.cons (.int 1) .nil))) [x0, x1, x2, x3, x4, x5, x6, x7, x8, .non, x10, x11, x12, x13, x14, x15, x16, x17, x18, x19, x20, x21, x22] = .ok .next [x0, x1, x2, x3, x4, x5, x6, x7, x8, .own (cD [(0, 1)]), x10, x11, x12, x13, x14, x15, x16, x17, x18, x19, x20, x21, x22] := by
  walk_at "px"
  repeat (first | rfl | walk_at "px" | rw [if_pos (by decide)])

theorem M14 (x0 x1 x3 x4 x5 x6 x7 x8 x11 x12 x13 x14 x16 x18 x19 x20 x21 x22 : Slot) (rods : List Int) (hl : rods.length ≤ 16) : ∃ s9 s10 s15 s17, Dc (advsC rods [(0, 1)]) s9 ∧ Free s10 ∧ Free s15 ∧ Free s17 ∧ evS T (callT T 9) (.fr (.nm 10) (.seq (.var 2)) (.cons (.asg (.nm 17) (.dct .nil .nil)) (.cons (.fr (.nm 15) (.seq (.var 9)) (.cons (.asg (.sub 17 (.bin .add (.var 15) (.var 10))) (.bin .add (.get (.var 17) (.cons (.bin .add (.var 15) (.var 10)) (.cons (.int 0) .nil))) (.idx (.var 9) (.var 15)))) (.cons (.asg (.sub 17 (.bin .sub (.var 15) (.var 10))) (.bin .add (.get (.var 17) (.cons (.bin .sub (.var 15) (.var 10)) (.cons (.int 0) .nil))) (.idx (.var 9) (.var 15)))) .nil))) (.cons (.asg (.nm 9) (.var 17)) .nil)))) [x0, x1, .val (.tup (iL rods)), x3, x4, x5, x6, x7, x8, .own (cD [(0, 1)]), .non, x11, x12, x13, x14, .non, x16, .non, x18, x19, x20, x21, x22] = .ok .next [x0, x1, .val (.tup (iL rods)), x3, x4, x5, x6, x7, x8, s9, s10, x11, x12, x13, x14, s15, x16, s17, x18, x19, x20, x21, x22] := by
  obtain ⟨s9, s10, s15, s17, h1, h2, h3, h4, h5⟩ := loopR2 x0 x1 (.val (.tup (iL rods))) x3 x4 x5 x6 x7 x8 x11 x12 x13 x14 x16 x18 x19 x20 x21 x22 rods [(0, 1)] (.own (cD [(0, 1)])) .non .non .non (.inl rfl) (.inl rfl) (.inl rfl) (.inl rfl) (by simp [Nd]) (by
    have : 2 ^ rods.length ≤ 2 ^ 16 := Nat.pow_le_pow_right (by decide) hl
    simp only [List.length_cons, List.length_nil]; omega)
  refine ⟨s9, s10, s15, s17, h1, h2, h3, h4, ?_⟩
  refine (for_it (xs := iL rods) (e1 := [x0, x1, .val (.tup (iL rods)), x3, x4, x5, x6, x7, x8, .own (cD [(0, 1)]), .non, x11, x12, x13, x14, .non, x16, .non, x18, x19, x20, x21, x22]) ?_).trans h5
  walk_at "px"

theorem M15 (x0 x1 x3 x4 x5 x6 x7 x8 x10 x11 x12 x13 x14 x15 x16 x17 x18 x19 x20 x21 x22 : Slot) (rods : List Int) (s9 : Slot) (hr : areRods rods = true) (hl : rods.length ≤ 16) (h9 : Dc (advsC rods [(0, 1)]) s9) : evS T (callT T 9) (.ifs (.not (.val (.call 12 (.cons (.call 9 (.cons (.var 2) .nil)) (.cons (.get (.var 9) (.cons (.int 0) (.cons (.int 0) .nil))) .nil))))) (.cons (.ret (.bl false)) .nil) .nil) [x0, x1, .val (.tup (iL rods)), x3, x4, x5, x6, x7, x8, s9, x10, x11, x12, x13, x14, x15, x16, x17, x18, x19, x20, x21, x22] = .ok .next [x0, x1, .val (.tup (iL rods)), x3, x4, x5, x6, x7, x8, s9, x10, x11, x12, x13, x14, x15, x16, x17, x18, x19, x20, x21, x22] := by
  have hN : N (advsC rods [(0, 1)]) 0 = cnt rods (fun j => if 0 = j then 1 else 0) 0 := by
    rw [N_advsC]
    congr 1
    funext j
    exact Int.add_zero _
  have hnd : Nd (advsC rods [(0, 1)]) := nd_advsC rods _ (by simp [Nd])
  refine if_no ?_
  rcases h9 with rfl | rfl
  · walk_at "px"
    rw [t12]
    walk_at "px"
    rw [t9]
    walk_at "px"
    rw [r5 6 rods hr hl]
    walk_at "px"
    rw [getP hnd, hN]
    walk_at "px"
    rw [r10i 8]
    walk_at "px"
    simp
  · walk_at "px"
    rw [t12]
    walk_at "px"
    rw [t9]
    walk_at "px"
    rw [r5 6 rods hr hl]
    walk_at "px"
    rw [getP hnd, hN]
    walk_at "px"
    rw [r10i 8]
    walk_at "px"
    simp
end PXk21

end
section
set_option Elab.async false
set_option linter.all false
set_option maxRecDepth 100000
set_option maxHeartbeats 8000000
namespace PXk21
open PX
local macro_rules | `(tactic| walk_at "px") => `(tactic| simp only [evSs, evS, v0, v1, v2, v3, v4, v5, v6, v7, v8, v9, v10, v11, v12, v13, v14, v15, v16, v17, v18, v19, v20, v21, v22, v23, v24, v25, v26, v27, evL, evAs, evO, evT, evAll, evAny, evI, evG, evGs, bnd, ret, bad, ofO, ofAV, opr, oper, binM, unM, cmp2M, dataM, toD, frz, viewM, viewsM, view, rdSlot, rdVar, putSlot, modSlot, lenG, lenXs, binD, truD, biD, negD, oneInt, Cell.d, seqD, itemsD, enumD, zipD, seqL, rng2, rngTwo, rngD, slD, revD, isTy, lstAt, isDct, appC, subC, callM, refs_nil, refs_d, toArgs, toArg, set_own, setOuts, setOut, outsOf, outOf, args0, List.replicate, isin_tup, isin_lst, notin_tup, PX.eq_int, PX.ne_int, PX.eq_bl, PX.ne_bl, lt_i, le_i, gt_i, ge_i, Option.bind_some, Option.map_some, List.nil_append, List.cons_append, List.append_nil, List.getElem?_cons_zero, List.getElem?_cons_succ, List.set_cons_zero, List.set_cons_succ, List.length_cons, List.length_nil, allInt_ints, allBl_bls, Bool.not_true, Bool.not_false, Bool.and_true, Bool.true_and, Bool.false_and, Bool.and_false, Bool.or_true, Bool.true_or, Bool.or_false, Bool.false_or, Bool.false_eq_true, if_true, if_false, reduceIte, Nat.reduceAdd, Nat.reduceSub])

theorem compM_leave {i : Nat} {s : Slot} {f : D → M (Option D)} {Ew Eo : Cell → Env} {P : Cell → Prop} {Qd : D → Prop} (hw : ∀ c, wipeE [i] (Ew c) = Ew c) (ho : ∀ c, wipeE [i] (Eo c) = Ew c) (hb : ∀ c, (Ew c).set i s = Eo c) (hi : ∀ c, (Eo c)[i]?.getD .non = s) (xs : List D)
    (hf : ∀ x ∈ xs, ∀ c, P c → ∃ d c' e2, f x (Ew c) = .ok (some d) e2 ∧ wipeE [i] e2 = Ew c' ∧ P c' ∧ Qd d)
    (c : Cell) (hp : P c) (hpl : plainSlot (Eo c) i = true) (hl : xs.length ≤ SZ) : ∃ ds c', compM [i] f xs (Eo c) = .ok (.new (.lst ds)) (Eo c') ∧ P c' ∧ ds.length = xs.length ∧ ∀ d ∈ ds, Qd d := by
  obtain ⟨ds, c', e3, h1, h2, h3, h4, h5⟩ := comp_state (own := [i]) hw xs hf [] c (Eo c) hp (ho c) (by simpa using hl)
  refine ⟨ds, c', ?_, h3, h4, h5⟩
  unfold compM
  rw [if_pos (by simpa using hpl), h1]
  simp only [List.nil_append]
  have : PX.back [i] (Eo c) e3 = Eo c' := by
    show e3.set i ((Eo c)[i]?.getD .non) = Eo c'
    rw [hi c, ← hb c', ← h2]
    show _ = (e3.set i .non).set i s
    rw [List.set_set]
  rw [this]

theorem M16 (x0 x3 x4 x5 x6 x7 x8 x9 x10 x12 x13 x14 x15 x16 x17 x18 x19 x20 x21 x22 : Slot) (rods : List Int) (c : Cell) (hc : PoolOk c) (hl : rods.length ≤ 1000) (h10 : Free x10) : ∃ sg c', Sg sg rods ∧ PoolOk c' ∧ evS T (callT T 9) (.asg (.nm 11) (.bi .tuple (.cons (.comp [10] (.nm 10) (.seq (.var 2)) .nil (.bin .sub (.int 1) (.bin .mul (.int 2) (.call 16 (.cons (.var 1) (.cons (.int 2) .nil)))))) .nil))) [x0, .own c, .val (.tup (iL rods)), x3, x4, x5, x6, x7, x8, x9, x10, .non, x12, x13, x14, x15, x16, x17, x18, x19, x20, x21, x22] = .ok .next [x0, .own c', .val (.tup (iL rods)), x3, x4, x5, x6, x7, x8, x9, x10, .val (.tup (iL sg)), x12, x13, x14, x15, x16, x17, x18, x19, x20, x21, x22] := by
  obtain ⟨ds, c', h1, h2, h3, h4⟩ := compM_leave (i := 10) (s := x10) (f := turnM (evG T (callT T 9) (.nm 10)) (evAll T (callT T 9) .nil) (dataM (evA T (callT T 9) (.bin .sub (.int 1) (.bin .mul (.int 2) (.call 16 (.cons (.var 1) (.cons (.int 2) .nil))))))))
    (Ew := fun c => [x0, .own c, .val (.tup (iL rods)), x3, x4, x5, x6, x7, x8, x9, .non, .non, x12, x13, x14, x15, x16, x17, x18, x19, x20, x21, x22]) (Eo := fun c => [x0, .own c, .val (.tup (iL rods)), x3, x4, x5, x6, x7, x8, x9, x10, .non, x12, x13, x14, x15, x16, x17, x18, x19, x20, x21, x22]) (P := PoolOk) (Qd := fun d => ∃ n, d = .int n ∧ Sgn n) (fun c => rfl) (fun c => rfl) (fun c => rfl) (fun c => rfl) (iL rods) (fun x hx c hc => by
      obtain ⟨v, c', v1, v2, v3, v4⟩ := r18 8 c hc 2 (by decide) (by decide)
      refine ⟨.int (1 - 2 * v), c', [x0, .own c', .val (.tup (iL rods)), x3, x4, x5, x6, x7, x8, x9, .val x, .non, x12, x13, x14, x15, x16, x17, x18, x19, x20, x21, x22], ?_, rfl, v3, _, rfl, ?_⟩
      · unfold turnM
        walk_at "px"
        rw [t16]
        walk_at "px"
        rw [show refsOk _ [.slot 1, .d (.int 2)] [] = true from rfl]
        walk_at "px"
        rw [v4]
        walk_at "px"
        rw [if_pos (mul2 _)]
        walk_at "px"
      · unfold Sgn; omega) c hc (by rcases h10 with rfl | ⟨d, rfl⟩ <;> rfl) (by rw [ints_length]; show _ ≤ 1000000; omega)
  obtain ⟨sg, rfl, hs⟩ := ints_of h4
  refine ⟨sg, c', ⟨by rw [ints_length, ints_length] at h3; exact h3, hs⟩, h2, ?_⟩
  have hcomp : evA T (callT T 9) (.comp [10] (.nm 10) (.seq (.var 2)) .nil (.bin .sub (.int 1) (.bin .mul (.int 2) (.call 16 (.cons (.var 1) (.cons (.int 2) .nil)))))) [x0, .own c, .val (.tup (iL rods)), x3, x4, x5, x6, x7, x8, x9, x10, .non, x12, x13, x14, x15, x16, x17, x18, x19, x20, x21, x22] = .ok (.new (.lst (iL sg))) [x0, .own c', .val (.tup (iL rods)), x3, x4, x5, x6, x7, x8, x9, x10, .non, x12, x13, x14, x15, x16, x17, x18, x19, x20, x21, x22] := by
    rw [ev_comp]
    refine (bnd_eq (a := iL rods) (e1 := [x0, .own c, .val (.tup (iL rods)), x3, x4, x5, x6, x7, x8, x9, x10, .non, x12, x13, x14, x15, x16, x17, x18, x19, x20, x21, x22]) ?_).trans h1
    walk_at "px"
  walk_at "px"
  rw [hcomp]
  walk_at "px"

theorem M17 (x0 x1 x2 x3 x4 x5 x6 x7 x8 x9 x10 x11 x13 x14 x15 x16 x17 x18 x19 x20 x21 x22 : Slot) : evS T (callT T 9) (.asg (.nm 12) (.lst (.cons (.int 0) .nil))) [x0, x1, x2, x3, x4, x5, x6, x7, x8, x9, x10, x11, .non, x13, x14, x15, x16, x17, x18, x19, x20, x21, x22] = .ok .next [x0, x1, x2, x3, x4, x5, x6, x7, x8, x9, x10, x11, .own (.lst [.int 0]), x13, x14, x15, x16, x17, x18, x19, x20, x21, x22] := by
  walk_at "px"
  rw [if_pos (by decide)]
  walk_at "px"

theorem loop9 (x0 x1 x3 x4 x5 x6 x7 x8 x9 x10 x14 x15 x16 x17 x18 x19 x20 x21 x22 : Slot) (rods sg : List Int) (hs : Sg sg rods) (hl : rods.length ≤ 100) : ∀ (j i : Nat) (p : Int) (pre : List D) (s8 : Slot), i + j = rods.length → Free s8 → pre.length + j < 1000 →
    ∃ s8', forLoop (evG T (callT T 9) (.nm 13)) (evSs T (callT T 9) (.cons (.expr (.app 12 (.bin .add (.idx (.var 12) (.neg (.int 1))) (.bin .mul (.idx (.var 11) (.var 13)) (.idx (.var 2) (.var 13)))))) .nil)) ((List.range' i j).map fun (x : Nat) => D.int ((x : Nat) : Int)) [x0, x1, .val (.tup (iL rods)), x3, x4, x5, x6, x7, x8, x9, x10, .val (.tup (iL sg)), .own (.lst (pre ++ [.int p])), s8, x14, x15, x16, x17, x18, x19, x20, x21, x22] = .ok .next [x0, x1, .val (.tup (iL rods)), x3, x4, x5, x6, x7, x8, x9, x10, .val (.tup (iL sg)), .own (.lst (pre ++ iL (walk p (mulL (sg.drop i) (rods.drop i))))), s8', x14, x15, x16, x17, x18, x19, x20, x21, x22]
  | 0, i, p, pre, s8, hi, _, _ => ⟨s8, by
      rw [List.drop_eq_nil_of_le (show rods.length ≤ i by omega), List.drop_eq_nil_of_le (show sg.length ≤ i by have := hs.1; omega)]
      rfl⟩
  | j + 1, i, p, pre, s8, hi, h8, hlp => by
    have hr : rods[i]? = some rods[i] := List.getElem?_eq_getElem (by omega)
    have hg : sg[i]? = some (sg[i]'(by have := hs.1; omega)) := List.getElem?_eq_getElem (by have := hs.1; omega)
    obtain ⟨r, hr'⟩ : ∃ r, r = rods[i] := ⟨_, rfl⟩
    obtain ⟨g, hg'⟩ : ∃ g, g = sg[i]'(by have := hs.1; omega) := ⟨_, rfl⟩
    rw [← hr'] at hr
    rw [← hg'] at hg
    have ir : idxD (.tup (iL rods)) (.int (i : Int)) = some (.int r) := (idx_at (iL rods) i (.int r) (by rw [ints_get, hr]; rfl)).2
    have ig : idxD (.tup (iL sg)) (.int (i : Int)) = some (.int g) := (idx_at (iL sg) i (.int g) (by rw [ints_get, hg]; rfl)).2
    have hgs := hs.2 g (List.mem_of_getElem? hg)
    obtain ⟨s8', ih⟩ := loop9 x0 x1 x3 x4 x5 x6 x7 x8 x9 x10 x14 x15 x16 x17 x18 x19 x20 x21 x22 rods sg hs hl j (i + 1) (p + g * r) (pre ++ [.int p]) (.val (.int (i : Int))) (by omega) (.inr ⟨_, rfl⟩) (by simp; omega)
    refine ⟨s8', ?_⟩
    have e0 : iL (walk p (mulL (sg.drop i) (rods.drop i))) = .int p :: iL (walk (p + g * r) (mulL (sg.drop (i + 1)) (rods.drop (i + 1)))) := by
      rw [List.drop_eq_getElem_cons (show i < rods.length by omega), List.drop_eq_getElem_cons (show i < sg.length by have := hs.1; omega), ← hr', ← hg']
      rfl
    rw [List.range'_succ, List.map_cons, e0]
    have e1 : pre ++ D.int p :: iL (walk (p + g * r) (mulL (sg.drop (i + 1)) (rods.drop (i + 1)))) = (pre ++ [.int p]) ++ iL (walk (p + g * r) (mulL (sg.drop (i + 1)) (rods.drop (i + 1)))) := by simp
    rw [e1]
    refine (for_next (e1 := [x0, x1, .val (.tup (iL rods)), x3, x4, x5, x6, x7, x8, x9, x10, .val (.tup (iL sg)), .own (.lst (pre ++ [.int p])), .val (.int (i : Int)), x14, x15, x16, x17, x18, x19, x20, x21, x22]) (by exact put_free (i := 13) (s := s8) rfl h8) (e2 := [x0, x1, .val (.tup (iL rods)), x3, x4, x5, x6, x7, x8, x9, x10, .val (.tup (iL sg)), .own (.lst ((pre ++ [.int p]) ++ [.int (p + g * r)])), .val (.int (i : Int)), x14, x15, x16, x17, x18, x19, x20, x21, x22]) ?_).trans ih
    walk_at "px"
    rw [idx_last]
    walk_at "px"
    rw [ig]
    walk_at "px"
    rw [ir]
    walk_at "px"
    rw [if_pos (okMul hgs)]
    walk_at "px"
    rw [if_pos (show (pre ++ [D.int p]).length < SZ by simp; show _ < 1000000; omega)]
    walk_at "px"

theorem M18 (x0 x1 x3 x4 x5 x6 x7 x8 x9 x10 x14 x15 x16 x17 x18 x19 x20 x21 x22 : Slot) (rods sg : List Int) (hs : Sg sg rods) (hl : rods.length ≤ 100) : ∃ s8, evS T (callT T 9) (.fr (.nm 13) (.rng (.cons (.bi .len (.cons (.var 2) .nil)) .nil)) (.cons (.expr (.app 12 (.bin .add (.idx (.var 12) (.neg (.int 1))) (.bin .mul (.idx (.var 11) (.var 13)) (.idx (.var 2) (.var 13)))))) .nil)) [x0, x1, .val (.tup (iL rods)), x3, x4, x5, x6, x7, x8, x9, x10, .val (.tup (iL sg)), .own (.lst ([.int 0])), .non, x14, x15, x16, x17, x18, x19, x20, x21, x22] = .ok .next [x0, x1, .val (.tup (iL rods)), x3, x4, x5, x6, x7, x8, x9, x10, .val (.tup (iL sg)), .own (.lst (iL (walk 0 (mulL sg rods)))), s8, x14, x15, x16, x17, x18, x19, x20, x21, x22] := by
  obtain ⟨s8, hL⟩ := loop9 x0 x1 x3 x4 x5 x6 x7 x8 x9 x10 x14 x15 x16 x17 x18 x19 x20 x21 x22 rods sg hs hl rods.length 0 0 [] .non (by omega) (.inl rfl) (by simp; omega)
  refine ⟨s8, ?_⟩
  have hrng : evI T (callT T 9) (.rng (.cons (.bi .len (.cons (.var 2) .nil)) .nil)) [x0, x1, .val (.tup (iL rods)), x3, x4, x5, x6, x7, x8, x9, x10, .val (.tup (iL sg)), .own (.lst ([.int 0])), .non, x14, x15, x16, x17, x18, x19, x20, x21, x22] = .ok ((List.range' 0 rods.length).map fun (x : Nat) => D.int ((x : Nat) : Int)) [x0, x1, .val (.tup (iL rods)), x3, x4, x5, x6, x7, x8, x9, x10, .val (.tup (iL sg)), .own (.lst ([.int 0])), .non, x14, x15, x16, x17, x18, x19, x20, x21, x22] :=
    rng_n rods.length _ rfl (by omega) (evL1 (len_var (A := .tup (iL rods)) (ds := iL rods) rfl (.inl rfl)) |>.trans (by rw [ints_length]))
  exact (for_it hrng).trans hL

theorem sm_ints (xs : List Int) (h : xs.length ≤ 100000) : Sm 1 (.tup (iL xs)) := .tup (fun d hd => by
  obtain ⟨i, _, rfl⟩ := List.mem_map.mp hd
  exact .int i) (by rw [ints_length]; exact h)
theorem walkLen {sg rods : List Int} (hs : Sg sg rods) : (walk 0 (mulL sg rods)).length = rods.length + 1 := by
  rw [walk_len]
  unfold mulL
  rw [List.length_zipWith, hs.1]; omega

theorem M19 (x0 x1 x3 x4 x5 x6 x7 x8 x9 x10 x13 x14 x15 x16 x17 x18 x19 x20 x21 x22 : Slot) (rods sg : List Int) (hs : Sg sg rods) (hr : areRods rods = true) : evS T (callT T 9) (.ifs (.not (.val (.call 12 (.cons (.call 8 (.cons (.var 2) (.cons (.var 11) .nil))) (.cons (.bi .tuple (.cons (.var 12) .nil)) .nil))))) (.cons (.ret (.bl false)) .nil) .nil) [x0, x1, .val (.tup (iL rods)), x3, x4, x5, x6, x7, x8, x9, x10, .val (.tup (iL sg)), .own (.lst (iL (walk 0 (mulL sg rods)))), x13, x14, x15, x16, x17, x18, x19, x20, x21, x22] = .ok .next [x0, x1, .val (.tup (iL rods)), x3, x4, x5, x6, x7, x8, x9, x10, .val (.tup (iL sg)), .own (.lst (iL (walk 0 (mulL sg rods)))), x13, x14, x15, x16, x17, x18, x19, x20, x21, x22] := by
  obtain ⟨_, n2, _⟩ := rods_of hr
  have h := r10s 1 7 (.tup (iL (walk 0 (mulL sg rods)))) (sm_ints _ (by rw [walkLen hs]; omega))
  refine if_no ?_
  walk_at "px"
  rw [t12]
  walk_at "px"
  rw [t8]
  walk_at "px"
  rw [r11 6 sg rods hr hs.1 hs.2]
  walk_at "px"
  rw [h]
  walk_at "px"

theorem draw_len (x0 x3 x4 x5 x6 x7 x8 x9 x10 x11 x12 x13 x14 x15 x16 x17 x18 x19 x20 x21 x22 : Slot) (rods : List Int) (c c' : Cell) (v : Int) (n : Int) (hn : n = rods.length) (v4 : callT T 9 16 [.c c, .d (.int (n + 1))] = .ok (.d (.int v)) [some c', none]) : evA T (callT T 9) (.call 16 (.cons (.var 1) (.cons (.bin .add (.bi .len (.cons (.var 2) .nil)) (.int 1)) .nil))) [x0, .own c, .val (.tup (iL rods)), x3, x4, x5, x6, x7, x8, x9, x10, x11, x12, x13, x14, x15, x16, x17, x18, x19, x20, x21, x22] = .ok (.d (.int v)) [x0, .own c', .val (.tup (iL rods)), x3, x4, x5, x6, x7, x8, x9, x10, x11, x12, x13, x14, x15, x16, x17, x18, x19, x20, x21, x22] := by
  have hlen : evA T (callT T 9) (.bin .add (.bi .len (.cons (.var 2) .nil)) (.int 1)) [x0, .own c, .val (.tup (iL rods)), x3, x4, x5, x6, x7, x8, x9, x10, x11, x12, x13, x14, x15, x16, x17, x18, x19, x20, x21, x22] = .ok (.d (.int (n + 1))) [x0, .own c, .val (.tup (iL rods)), x3, x4, x5, x6, x7, x8, x9, x10, x11, x12, x13, x14, x15, x16, x17, x18, x19, x20, x21, x22] := by
    walk_at "px"
    rw [ints_length, hn]
  simp only [evS, v20, t16, evAs, v0, rdVar, opr, oper, bnd, ret, if_true, List.getElem?_cons_zero, List.getElem?_cons_succ, Bool.false_eq_true, if_false, dataM, hlen, toD, callM]
  rw [show refsOk _ [.slot 1, .d (.int (n + 1))] [] = true from rfl]
  walk_at "px"
  rw [v4]
  walk_at "px"
theorem mk6 (x0 x3 x4 x6 x9 x10 x12 x13 x15 x16 x17 x18 x19 x20 x21 x22 : Slot) (g : X) (rods sg : List Int) (o w : D) (c c' : Cell) (v : Int) (hd : evA T (callT T 9) g [x0, .own c, .val (.tup (iL rods)), x3, x4, .val o, x6, .val (.tup ((layS [0] rods).map tT)), .val w, x9, x10, .val (.tup (iL sg)), x12, x13, .non, x15, x16, x17, x18, x19, x20, x21, x22] = .ok (.d (.int v)) [x0, .own c', .val (.tup (iL rods)), x3, x4, .val o, x6, .val (.tup ((layS [0] rods).map tT)), .val w, x9, x10, .val (.tup (iL sg)), x12, x13, .non, x15, x16, x17, x18, x19, x20, x21, x22]) : evS T (callT T 9) (.asg (.nm 14) (.lst (.cons (.var 5) (.cons (.var 8) (.cons (.tup (.cons (.str "closes") (.cons (.var 2) .nil))) (.cons (.tup (.cons (.str "gapes") (.cons (.var 2) (.cons g .nil)))) (.cons (.tup (.cons (.str "flattens") (.cons (.var 2) (.cons (.var 11) .nil)))) (.cons (.tup (.cons (.str "stands") (.cons (.var 2) (.cons (.var 7) .nil)))) .nil)))))))) [x0, .own c, .val (.tup (iL rods)), x3, x4, .val o, x6, .val (.tup ((layS [0] rods).map tT)), .val w, x9, x10, .val (.tup (iL sg)), x12, x13, .non, x15, x16, x17, x18, x19, x20, x21, x22] = .ok .next [x0, .own c', .val (.tup (iL rods)), x3, x4, .val o, x6, .val (.tup ((layS [0] rods).map tT)), .val w, x9, x10, .val (.tup (iL sg)), x12, x13, .own (.lst [o, w, .tup [.str "closes", .tup (iL rods)], .tup [.str "gapes", .tup (iL rods), .int v], .tup [.str "flattens", .tup (iL rods), .tup (iL sg)], .tup [.str "stands", .tup (iL rods), .tup ((layS [0] rods).map tT)]]), x15, x16, x17, x18, x19, x20, x21, x22] := by
  repeat (first | walk_at "px" | rw [hd] | rw [if_pos (by decide)])
theorem M20 (x0 x3 x4 x6 x9 x10 x12 x13 x15 x16 x17 x18 x19 x20 x21 x22 : Slot) (rods sg : List Int) (o w : D) (c : Cell) (hc : PoolOk c) (hl : rods.length ≤ 1000) : ∃ v c', PoolOk c' ∧ evS T (callT T 9) (.asg (.nm 14) (.lst (.cons (.var 5) (.cons (.var 8) (.cons (.tup (.cons (.str "closes") (.cons (.var 2) .nil))) (.cons (.tup (.cons (.str "gapes") (.cons (.var 2) (.cons (.call 16 (.cons (.var 1) (.cons (.bin .add (.bi .len (.cons (.var 2) .nil)) (.int 1)) .nil))) .nil)))) (.cons (.tup (.cons (.str "flattens") (.cons (.var 2) (.cons (.var 11) .nil)))) (.cons (.tup (.cons (.str "stands") (.cons (.var 2) (.cons (.var 7) .nil)))) .nil)))))))) [x0, .own c, .val (.tup (iL rods)), x3, x4, .val o, x6, .val (.tup ((layS [0] rods).map tT)), .val w, x9, x10, .val (.tup (iL sg)), x12, x13, .non, x15, x16, x17, x18, x19, x20, x21, x22] = .ok .next [x0, .own c', .val (.tup (iL rods)), x3, x4, .val o, x6, .val (.tup ((layS [0] rods).map tT)), .val w, x9, x10, .val (.tup (iL sg)), x12, x13, .own (.lst [o, w, .tup [.str "closes", .tup (iL rods)], .tup [.str "gapes", .tup (iL rods), .int v], .tup [.str "flattens", .tup (iL rods), .tup (iL sg)], .tup [.str "stands", .tup (iL rods), .tup ((layS [0] rods).map tT)]]), x15, x16, x17, x18, x19, x20, x21, x22] := by
  obtain ⟨n, hn⟩ : ∃ n : Int, n = rods.length := ⟨_, rfl⟩
  obtain ⟨v, c', v1, v2, v3, v4⟩ := r18 8 c hc (n + 1) (by omega) (by omega)
  exact ⟨v, c', v3, mk6 x0 x3 x4 x6 x9 x10 x12 x13 x15 x16 x17 x18 x19 x20 x21 x22 _ rods sg o w c c' v (draw_len x0 x3 x4 (.val o) x6 (.val (.tup ((layS [0] rods).map tT))) (.val w) x9 x10 (.val (.tup (iL sg))) x12 x13 .non x15 x16 x17 x18 x19 x20 x21 x22 rods c c' v n hn v4)⟩
end PXk21

end
section
set_option Elab.async false
set_option linter.all false
set_option maxRecDepth 100000
set_option maxHeartbeats 8000000
namespace PXk21
open PX
local macro_rules | `(tactic| walk_at "px") => `(tactic| simp only [evSs, evS, v0, v1, v2, v3, v4, v5, v6, v7, v8, v9, v10, v11, v12, v13, v14, v15, v16, v17, v18, v19, v20, v21, v22, v23, v24, v25, v26, v27, evL, evAs, evO, evT, evAll, evAny, evI, evG, evGs, bnd, ret, bad, ofO, ofAV, opr, oper, binM, unM, cmp2M, dataM, toD, frz, viewM, viewsM, view, rdSlot, rdVar, putSlot, modSlot, lenG, lenXs, binD, truD, biD, negD, oneInt, Cell.d, seqD, itemsD, enumD, zipD, seqL, rng2, rngTwo, rngD, slD, revD, isTy, lstAt, isDct, appC, subC, callM, refs_nil, refs_d, toArgs, toArg, set_own, setOuts, setOut, outsOf, outOf, args0, List.replicate, isin_tup, isin_lst, notin_tup, PX.eq_int, PX.ne_int, PX.eq_bl, PX.ne_bl, lt_i, le_i, gt_i, ge_i, Option.bind_some, Option.map_some, List.nil_append, List.cons_append, List.append_nil, List.getElem?_cons_zero, List.getElem?_cons_succ, List.set_cons_zero, List.set_cons_succ, List.length_cons, List.length_nil, allInt_ints, allBl_bls, Bool.not_true, Bool.not_false, Bool.and_true, Bool.true_and, Bool.false_and, Bool.and_false, Bool.or_true, Bool.true_or, Bool.or_false, Bool.false_or, Bool.false_eq_true, if_true, if_false, reduceIte, Nat.reduceAdd, Nat.reduceSub])

def W (t : Nat) : Cl → Prop
  | .cl rods => rods.length ≤ 1000
  | .ga rods _ => rods.length ≤ 1000
  | .fl rods sg => rods.length ≤ 1000 ∧ sg.length ≤ 1000
  | .st rods ls => rods.length ≤ 1000 ∧ 1 ≤ ls.length ∧ ls.length ≤ 1000 ∧ ∀ l ∈ ls, l.length ≤ 500 + t
theorem w_step {t : Nat} {q q' : Cl} (h : W t q) (hs : Sp q q') : W (t + 1) q' := by
  cases hs with
  | cl h1 => have h : _ ≤ 1000 := h; show _ ≤ 1000; omega
  | ga h1 => have h : _ ≤ 1000 := h; show _ ≤ 1000; omega
  | fl h1 h3 => exact ⟨by have := h.1; omega, by have := h.2; omega⟩
  | st h1 h3 h4 =>
    obtain ⟨w1, w2, w3, w4⟩ := h
    exact ⟨by omega, by omega, by omega, fun l hl => by have := h4 _ w4 l hl; omega⟩
theorem w_ne {t : Nat} {q : Cl} (h : W t q) (ht : t ≤ 2) : q.Ne := by
  cases q with
  | cl rods => exact h
  | ga rods x => exact h
  | fl rods sg => exact h
  | st rods ls => exact ⟨h.1, h.2.2.1, h.2.1, fun l hl => by have := h.2.2.2 l hl; omega⟩
theorem w_sz {t : Nat} {q : Cl} (h : W t q) (ht : t ≤ 2) : q.Sz := by
  cases q with
  | cl rods => exact h
  | ga rods x => exact h
  | fl rods sg => exact h
  | st rods ls => exact ⟨h.1, h.2.2.1, fun l hl => by have := h.2.2.2 l hl; omega⟩
def extra : Cl → List Cl
  | .fl rods sg => [.fl rods (sg.map (0 - ·))]
  | _ => []
theorem eGF : cmpD .eq (.str "gapes") (.str "flattens") = some false := (eqStr "gapes" "flattens" (by decide +kernel) (by decide +kernel)).trans (by decide +kernel)
theorem eCF : cmpD .eq (.str "closes") (.str "flattens") = some false := (eqStr "closes" "flattens" (by decide +kernel) (by decide +kernel)).trans (by decide +kernel)

theorem app_claim (x0 x1 x3 x4 x5 x6 x7 x9 x10 x11 x12 x13 x15 x16 x17 x18 x19 x20 x21 : Slot) (g : X) (rods ys sg : List Int) (L : List D) (hc : evA T (callT T 9) g [x0, x1, .val (.tup (iL rods)), x3, x4, x5, x6, x7, .val (Cl.fl rods sg).d, x9, x10, x11, x12, x13, .own (.lst L), x15, x16, x17, x18, x19, x20, x21, .non] = .ok (.new (.lst (iL ys))) [x0, x1, .val (.tup (iL rods)), x3, x4, x5, x6, x7, .val (Cl.fl rods sg).d, x9, x10, x11, x12, x13, .own (.lst L), x15, x16, x17, x18, x19, x20, x21, .non]) (hl : L.length ≤ 1000) : evS T (callT T 9) (.expr (.app 14 (.tup (.cons (.str "flattens") (.cons (.var 2) (.cons (.bi .tuple (.cons g .nil)) .nil)))))) [x0, x1, .val (.tup (iL rods)), x3, x4, x5, x6, x7, .val (Cl.fl rods sg).d, x9, x10, x11, x12, x13, .own (.lst L), x15, x16, x17, x18, x19, x20, x21, .non] = .ok .next [x0, x1, .val (.tup (iL rods)), x3, x4, x5, x6, x7, .val (Cl.fl rods sg).d, x9, x10, x11, x12, x13, .own (.lst (L ++ [(Cl.fl rods ys).d])), x15, x16, x17, x18, x19, x20, x21, .non] := by
  repeat (first | walk_at "px" | rw [hc] | rw [if_pos (by decide)] | rw [if_pos (show L.length < SZ by show _ < 1000000; omega)])
  rfl

theorem M21no (x0 x1 x2 x3 x4 x5 x6 x7 x9 x10 x11 x12 x13 x14 x15 x16 x17 x18 x19 x20 x21 x22 : Slot) (q : Cl) (h : cmpD .eq q.f (.str "flattens") = some false) : evS T (callT T 9) (.ifs (.cmp .eq (.idx (.var 8) (.int 0)) (.str "flattens")) (.cons (.expr (.app 14 (.tup (.cons (.str "flattens") (.cons (.var 2) (.cons (.bi .tuple (.cons (.comp [22] (.nm 22) (.seq (.idx (.var 8) (.int 2))) .nil (.bin .sub (.int 0) (.var 22))) .nil)) .nil)))))) .nil) .nil) [x0, x1, x2, x3, x4, x5, x6, x7, .val q.d, x9, x10, x11, x12, x13, x14, x15, x16, x17, x18, x19, x20, x21, x22] = .ok .next [x0, x1, x2, x3, x4, x5, x6, x7, .val q.d, x9, x10, x11, x12, x13, x14, x15, x16, x17, x18, x19, x20, x21, x22] := by
  have i0 : idxD q.d (.int 0) = some q.f := by rw [Cl.d_eq]; exact idx0 _ _
  refine if_no ?_
  walk_at "px"
  rw [i0]
  walk_at "px"
  rw [h]
  walk_at "px"
theorem M21yes (x0 x1 x3 x4 x5 x6 x7 x9 x10 x11 x12 x13 x15 x16 x17 x18 x19 x20 x21 : Slot) (rods sg : List Int) (L : List D) (hl : L.length ≤ 1000) (hs : sg.length ≤ 1000) : evS T (callT T 9) (.ifs (.cmp .eq (.idx (.var 8) (.int 0)) (.str "flattens")) (.cons (.expr (.app 14 (.tup (.cons (.str "flattens") (.cons (.var 2) (.cons (.bi .tuple (.cons (.comp [22] (.nm 22) (.seq (.idx (.var 8) (.int 2))) .nil (.bin .sub (.int 0) (.var 22))) .nil)) .nil)))))) .nil) .nil) [x0, x1, .val (.tup (iL rods)), x3, x4, x5, x6, x7, .val (Cl.fl rods sg).d, x9, x10, x11, x12, x13, .own (.lst L), x15, x16, x17, x18, x19, x20, x21, .non] = .ok .next [x0, x1, .val (.tup (iL rods)), x3, x4, x5, x6, x7, .val (Cl.fl rods sg).d, x9, x10, x11, x12, x13, .own (.lst (L ++ [(Cl.fl rods (sg.map (0 - ·))).d])), x15, x16, x17, x18, x19, x20, x21, .non] := by
  have i0 : idxD (Cl.fl rods sg).d (.int 0) = some (.str "flattens") := rfl
  have i2 : idxD (Cl.fl rods sg).d (.int 2) = some (.tup (iL sg)) := rfl
  have u : evT T (callT T 9) (.cmp .eq (.idx (.var 8) (.int 0)) (.str "flattens")) [x0, x1, .val (.tup (iL rods)), x3, x4, x5, x6, x7, .val (Cl.fl rods sg).d, x9, x10, x11, x12, x13, .own (.lst L), x15, x16, x17, x18, x19, x20, x21, .non] = .ok true [x0, x1, .val (.tup (iL rods)), x3, x4, x5, x6, x7, .val (Cl.fl rods sg).d, x9, x10, x11, x12, x13, .own (.lst L), x15, x16, x17, x18, x19, x20, x21, .non] := by
    walk_at "px"
    rw [i0]
    walk_at "px"
    rw [eFF]
    walk_at "px"
  refine (if_then u).trans ?_
  have hin : evI T (callT T 9) (.seq (.idx (.var 8) (.int 2))) [x0, x1, .val (.tup (iL rods)), x3, x4, x5, x6, x7, .val (Cl.fl rods sg).d, x9, x10, x11, x12, x13, .own (.lst L), x15, x16, x17, x18, x19, x20, x21, .non] = .ok (iL sg) [x0, x1, .val (.tup (iL rods)), x3, x4, x5, x6, x7, .val (Cl.fl rods sg).d, x9, x10, x11, x12, x13, .own (.lst L), x15, x16, x17, x18, x19, x20, x21, .non] := by
    walk_at "px"
    rw [i2]
    walk_at "px"
  have hc := comp_map (T := T) (cf := (callT T 9)) (own := [22]) (tg := .nm 22) (ifs := .nil) (elt := .bin .sub (.int 0) (.var 22)) (fun n => .int (0 - n)) (fun _ => true) hin rfl (by show _ ≤ 1000000; omega) (fun n hn => by
    refine ⟨[x0, x1, .val (.tup (iL rods)), x3, x4, x5, x6, x7, .val (Cl.fl rods sg).d, x9, x10, x11, x12, x13, .own (.lst L), x15, x16, x17, x18, x19, x20, x21, .val (.int n)], ?_, rfl⟩
    show turnM _ _ _ _ [x0, x1, .val (.tup (iL rods)), x3, x4, x5, x6, x7, .val (Cl.fl rods sg).d, x9, x10, x11, x12, x13, .own (.lst L), x15, x16, x17, x18, x19, x20, x21, .non] = _
    unfold turnM
    walk_at "px")
  have e1 : (List.filter (fun _ => true) sg).map (fun n => D.int (0 - n)) = iL (sg.map (0 - ·)) := by
    rw [List.filter_eq_self.mpr (by simp)]
    simp [iL, Function.comp_def]
  rw [e1] at hc
  have q1 : evS T (callT T 9) (.expr (.app 14 (.tup (.cons (.str "flattens") (.cons (.var 2) (.cons (.bi .tuple (.cons (.comp [22] (.nm 22) (.seq (.idx (.var 8) (.int 2))) .nil (.bin .sub (.int 0) (.var 22))) .nil)) .nil)))))) [x0, x1, .val (.tup (iL rods)), x3, x4, x5, x6, x7, .val (Cl.fl rods sg).d, x9, x10, x11, x12, x13, .own (.lst L), x15, x16, x17, x18, x19, x20, x21, .non] = .ok .next [x0, x1, .val (.tup (iL rods)), x3, x4, x5, x6, x7, .val (Cl.fl rods sg).d, x9, x10, x11, x12, x13, .own (.lst (L ++ [(Cl.fl rods (sg.map (0 - ·))).d])), x15, x16, x17, x18, x19, x20, x21, .non] := app_claim x0 x1 x3 x4 x5 x6 x7 x9 x10 x11 x12 x13 x15 x16 x17 x18 x19 x20 x21 _ rods _ sg L hc hl
  rw [seq_next q1]
  rfl

theorem spoil1 (x0 x2 x3 x4 x5 x6 x7 x8 x9 x10 x11 x12 x13 x14 x16 x17 x19 x22 : Slot) (c : Cell) (q : Cl) (t : Nat) (s15 s18 s21 : Slot) (hc : PoolOk c) (hq : W t q) (ht : t ≤ 1) : ∃ q' c', W (t + 1) q' ∧ PoolOk c' ∧ evS T (callT T 9) (.asg (.nm 20) (.call 7 (.cons (.var 1) (.cons (.var 20) .nil)))) [x0, .own c, x2, x3, x4, x5, x6, x7, x8, x9, x10, x11, x12, x13, x14, s15, x16, x17, s18, x19, .val q.d, s21, x22] = .ok .next [x0, .own c', x2, x3, x4, x5, x6, x7, x8, x9, x10, x11, x12, x13, x14, s15, x16, x17, s18, x19, .val q'.d, s21, x22] := by
  obtain ⟨q', c', h1, h2, h3⟩ := r7S 3 c hc q (w_ne hq (by omega))
  refine ⟨q', c', w_step hq h1, h2, ?_⟩
  walk_at "px"
  rw [t7]
  walk_at "px"
  rw [show refsOk _ [.slot 1, .d q.d] [] = true from rfl]
  walk_at "px"
  rw [h3]
  walk_at "px"
theorem loopP (x0 x2 x3 x4 x5 x6 x7 x8 x9 x10 x11 x12 x13 x14 x16 x17 x19 x22 : Slot) (s15 s18 : Slot) : ∀ (xs : List D) (c : Cell) (q : Cl) (t : Nat) (s21 : Slot), PoolOk c → W t q → t + xs.length ≤ 2 → Free s21 → ∃ q' c' s21', W (t + xs.length) q' ∧ PoolOk c' ∧ Free s21' ∧ forLoop (evG T (callT T 9) (.nm 21)) (evSs T (callT T 9) (.cons (.asg (.nm 20) (.call 7 (.cons (.var 1) (.cons (.var 20) .nil)))) .nil)) xs [x0, .own c, x2, x3, x4, x5, x6, x7, x8, x9, x10, x11, x12, x13, x14, s15, x16, x17, s18, x19, .val q.d, s21, x22] = .ok .next [x0, .own c', x2, x3, x4, x5, x6, x7, x8, x9, x10, x11, x12, x13, x14, s15, x16, x17, s18, x19, .val q'.d, s21', x22]
  | [], c, q, t, s21, hc, hq, _, h21 => ⟨q, c, s21, hq, hc, h21, rfl⟩
  | x :: xs, c, q, t, s21, hc, hq, ht, h21 => by
    rw [List.length_cons] at ht
    obtain ⟨q1, c1, g1, g2, g3⟩ := spoil1 x0 x2 x3 x4 x5 x6 x7 x8 x9 x10 x11 x12 x13 x14 x16 x17 x19 x22 c q t s15 s18 (.val x) hc hq (by omega)
    obtain ⟨q', c', s21', i1, i2, i3, i4⟩ := loopP x0 x2 x3 x4 x5 x6 x7 x8 x9 x10 x11 x12 x13 x14 x16 x17 x19 x22 s15 s18 xs c1 q1 (t + 1) (.val x) g2 g1 (by omega) (.inr ⟨_, rfl⟩)
    refine ⟨q', c', s21', by rw [List.length_cons, show t + (xs.length + 1) = t + 1 + xs.length by omega]; exact i1, i2, i3, ?_⟩
    refine (for_next (e1 := [x0, .own c, x2, x3, x4, x5, x6, x7, x8, x9, x10, x11, x12, x13, x14, s15, x16, x17, s18, x19, .val q.d, .val x, x22]) (by exact put_free (i := 21) (s := s21) rfl h21) (e2 := [x0, .own c1, x2, x3, x4, x5, x6, x7, x8, x9, x10, x11, x12, x13, x14, s15, x16, x17, s18, x19, .val q1.d, .val x, x22]) ?_).trans i4
    rw [seq_next g3]
    rfl
theorem judge (x0 x2 x3 x4 x5 x6 x7 x8 x9 x10 x11 x12 x13 x14 x16 x17 x19 x22 : Slot) (c : Cell) (q : Cl) (t : Nat) (s15 s18 s21 : Slot) (hq : W t q) (ht : t ≤ 2) : evS T (callT T 9) (.ifs (.not (.val (.call 12 (.cons (.call 6 (.cons (.var 20) .nil)) (.cons (.call 10 (.cons (.var 20) .nil)) .nil))))) (.cons (.ret (.bl false)) .nil) .nil) [x0, .own c, x2, x3, x4, x5, x6, x7, x8, x9, x10, x11, x12, x13, x14, s15, x16, x17, s18, x19, .val q.d, s21, x22] = .ok .next [x0, .own c, x2, x3, x4, x5, x6, x7, x8, x9, x10, x11, x12, x13, x14, s15, x16, x17, s18, x19, .val q.d, s21, x22] := by
  have hz := w_sz hq ht
  refine if_no ?_
  walk_at "px"
  rw [t12]
  walk_at "px"
  rw [t6]
  walk_at "px"
  rw [r6R 7 q hz]
  walk_at "px"
  rw [t10]
  walk_at "px"
  rw [r10R 7 q hz]
  walk_at "px"
  rw [r10b 8]
  walk_at "px"
  simp

theorem loopU (x0 x2 x3 x4 x5 x6 x7 x8 x9 x10 x11 x12 x13 x14 x16 x17 x19 x22 : Slot) (o : Cl) (ho : W 0 o) : ∀ (ts : List Nat) (c : Cell) (s18 s20 s21 : Slot), PoolOk c → (∀ t ∈ ts, t ≤ 2) → Free s18 → Free s20 → Free s21 → ∃ c' s18' s20' s21', PoolOk c' ∧ Free s18' ∧ Free s20' ∧ Free s21' ∧ forLoop (evG T (callT T 9) (.nm 18)) (evSs T (callT T 9) (.cons (.asg (.nm 20) (.var 15)) (.cons (.fr (.nm 21) (.rng (.cons (.var 18) .nil)) (.cons (.asg (.nm 20) (.call 7 (.cons (.var 1) (.cons (.var 20) .nil)))) .nil)) (.cons (.ifs (.not (.val (.call 12 (.cons (.call 6 (.cons (.var 20) .nil)) (.cons (.call 10 (.cons (.var 20) .nil)) .nil))))) (.cons (.ret (.bl false)) .nil) .nil) .nil)))) (ts.map fun (t : Nat) => D.int (t : Int)) [x0, .own c, x2, x3, x4, x5, x6, x7, x8, x9, x10, x11, x12, x13, x14, .val o.d, x16, x17, s18, x19, s20, s21, x22] = .ok .next [x0, .own c', x2, x3, x4, x5, x6, x7, x8, x9, x10, x11, x12, x13, x14, .val o.d, x16, x17, s18', x19, s20', s21', x22]
  | [], c, s18, s20, s21, hc, _, h18, h20, h21 => ⟨c, s18, s20, s21, hc, h18, h20, h21, rfl⟩
  | t :: ts, c, s18, s20, s21, hc, ht, h18, h20, h21 => by
    have ht0 := ht t List.mem_cons_self
    obtain ⟨m, hm⟩ : ∃ m : Int, m = t := ⟨_, rfl⟩
    have hlen : (rngL 0 m).length = t := by rw [rngL_len]; omega
    obtain ⟨q', c1, s21a, g1, g2, g3, g4⟩ := loopP x0 x2 x3 x4 x5 x6 x7 x8 x9 x10 x11 x12 x13 x14 x16 x17 x19 x22 (.val o.d) (.val (.int m)) (rngL 0 m) c o 0 s21 hc ho (by rw [hlen]; omega) h21
    rw [hlen, Nat.zero_add] at g1
    obtain ⟨c', s18', s20', s21', i1, i2, i3, i4, i5⟩ := loopU x0 x2 x3 x4 x5 x6 x7 x8 x9 x10 x11 x12 x13 x14 x16 x17 x19 x22 o ho ts c1 (.val (.int m)) (.val q'.d) s21a g2 (fun x hx => ht x (List.mem_cons_of_mem _ hx)) (.inr ⟨_, rfl⟩) (.inr ⟨_, rfl⟩) g3
    refine ⟨c', s18', s20', s21', i1, i2, i3, i4, ?_⟩
    rw [List.map_cons, ← hm]
    refine (for_next (e1 := [x0, .own c, x2, x3, x4, x5, x6, x7, x8, x9, x10, x11, x12, x13, x14, .val o.d, x16, x17, .val (.int m), x19, s20, s21, x22]) (by exact put_free (i := 18) (s := s18) rfl h18) (e2 := [x0, .own c1, x2, x3, x4, x5, x6, x7, x8, x9, x10, x11, x12, x13, x14, .val o.d, x16, x17, .val (.int m), x19, .val q'.d, s21a, x22]) ?_).trans i5
    have q1 : evS T (callT T 9) (.asg (.nm 20) (.var 15)) [x0, .own c, x2, x3, x4, x5, x6, x7, x8, x9, x10, x11, x12, x13, x14, .val o.d, x16, x17, .val (.int m), x19, s20, s21, x22] = .ok .next [x0, .own c, x2, x3, x4, x5, x6, x7, x8, x9, x10, x11, x12, x13, x14, .val o.d, x16, x17, .val (.int m), x19, .val o.d, s21, x22] := by
      rcases h20 with rfl | ⟨d, rfl⟩ <;> walk_at "px"
    rw [seq_next q1]
    have q2 : evS T (callT T 9) (.fr (.nm 21) (.rng (.cons (.var 18) .nil)) (.cons (.asg (.nm 20) (.call 7 (.cons (.var 1) (.cons (.var 20) .nil)))) .nil)) [x0, .own c, x2, x3, x4, x5, x6, x7, x8, x9, x10, x11, x12, x13, x14, .val o.d, x16, x17, .val (.int m), x19, .val o.d, s21, x22] = .ok .next [x0, .own c1, x2, x3, x4, x5, x6, x7, x8, x9, x10, x11, x12, x13, x14, .val o.d, x16, x17, .val (.int m), x19, .val q'.d, s21a, x22] := by
      exact (for_it (xs := rngL 0 m) (e1 := [x0, .own c, x2, x3, x4, x5, x6, x7, x8, x9, x10, x11, x12, x13, x14, .val o.d, x16, x17, .val (.int m), x19, .val o.d, s21, x22]) (rng_var rfl (by unfold small; simp only [Bool.and_eq_true, decide_eq_true_eq]; omega))).trans g4
    rw [seq_next q2, seq_next (judge x0 x2 x3 x4 x5 x6 x7 x8 x9 x10 x11 x12 x13 x14 x16 x17 x19 x22 c1 q' t (.val o.d) (.val (.int m)) s21a g1 ht0)]
    rfl
theorem loopO (x0 x2 x3 x4 x5 x6 x7 x8 x9 x10 x11 x12 x13 x14 x16 x17 x19 x22 : Slot) : ∀ (os : List Cl) (c : Cell) (s15 s18 s20 s21 : Slot), PoolOk c → (∀ o ∈ os, W 0 o) → Free s15 → Free s18 → Free s20 → Free s21 → ∃ c' s15' s18' s20' s21', PoolOk c' ∧ forLoop (evG T (callT T 9) (.nm 15)) (evSs T (callT T 9) (.cons (.fr (.nm 18) (.rng (.cons (.int 3) .nil)) (.cons (.asg (.nm 20) (.var 15)) (.cons (.fr (.nm 21) (.rng (.cons (.var 18) .nil)) (.cons (.asg (.nm 20) (.call 7 (.cons (.var 1) (.cons (.var 20) .nil)))) .nil)) (.cons (.ifs (.not (.val (.call 12 (.cons (.call 6 (.cons (.var 20) .nil)) (.cons (.call 10 (.cons (.var 20) .nil)) .nil))))) (.cons (.ret (.bl false)) .nil) .nil) .nil)))) .nil)) (os.map Cl.d) [x0, .own c, x2, x3, x4, x5, x6, x7, x8, x9, x10, x11, x12, x13, x14, s15, x16, x17, s18, x19, s20, s21, x22] = .ok .next [x0, .own c', x2, x3, x4, x5, x6, x7, x8, x9, x10, x11, x12, x13, x14, s15', x16, x17, s18', x19, s20', s21', x22]
  | [], c, s15, s18, s20, s21, hc, _, _, _, _, _ => ⟨c, s15, s18, s20, s21, hc, rfl⟩
  | o :: os, c, s15, s18, s20, s21, hc, ho, h15, h18, h20, h21 => by
    obtain ⟨c1, s18a, s20a, s21a, g1, g2, g3, g4, g5⟩ := loopU x0 x2 x3 x4 x5 x6 x7 x8 x9 x10 x11 x12 x13 x14 x16 x17 x19 x22 o (ho o List.mem_cons_self) [0, 1, 2] c s18 s20 s21 hc (by intro t ht; simp at ht; omega) h18 h20 h21
    obtain ⟨c', s15', s18', s20', s21', i1, i2⟩ := loopO x0 x2 x3 x4 x5 x6 x7 x8 x9 x10 x11 x12 x13 x14 x16 x17 x19 x22 os c1 (.val o.d) s18a s20a s21a g1 (fun x hx => ho x (List.mem_cons_of_mem _ hx)) (.inr ⟨_, rfl⟩) g2 g3 g4
    refine ⟨c', s15', s18', s20', s21', i1, ?_⟩
    rw [List.map_cons]
    refine (for_next (e1 := [x0, .own c, x2, x3, x4, x5, x6, x7, x8, x9, x10, x11, x12, x13, x14, .val o.d, x16, x17, s18, x19, s20, s21, x22]) (by exact put_free (i := 15) (s := s15) rfl h15) (e2 := [x0, .own c1, x2, x3, x4, x5, x6, x7, x8, x9, x10, x11, x12, x13, x14, .val o.d, x16, x17, s18a, x19, s20a, s21a, x22]) ?_).trans i2
    have q2 : evS T (callT T 9) (.fr (.nm 18) (.rng (.cons (.int 3) .nil)) (.cons (.asg (.nm 20) (.var 15)) (.cons (.fr (.nm 21) (.rng (.cons (.var 18) .nil)) (.cons (.asg (.nm 20) (.call 7 (.cons (.var 1) (.cons (.var 20) .nil)))) .nil)) (.cons (.ifs (.not (.val (.call 12 (.cons (.call 6 (.cons (.var 20) .nil)) (.cons (.call 10 (.cons (.var 20) .nil)) .nil))))) (.cons (.ret (.bl false)) .nil) .nil) .nil)))) [x0, .own c, x2, x3, x4, x5, x6, x7, x8, x9, x10, x11, x12, x13, x14, .val o.d, x16, x17, s18, x19, s20, s21, x22] = .ok .next [x0, .own c1, x2, x3, x4, x5, x6, x7, x8, x9, x10, x11, x12, x13, x14, .val o.d, x16, x17, s18a, x19, s20a, s21a, x22] := by
      refine (for_it (xs := [0, 1, 2].map fun (t : Nat) => D.int (t : Int)) (e1 := [x0, .own c, x2, x3, x4, x5, x6, x7, x8, x9, x10, x11, x12, x13, x14, .val o.d, x16, x17, s18, x19, s20, s21, x22]) ?_).trans g5
      walk_at "px"
      rw [if_pos (by decide)]
      walk_at "px"
      rfl
    rw [seq_next q2]
    rfl

theorem M22 (x0 x2 x3 x4 x5 x6 x7 x8 x9 x10 x11 x12 x13 x15 x16 x17 x19 x22 : Slot) (os : List Cl) (c : Cell) (hc : PoolOk c) (ho : ∀ o ∈ os, W 0 o) (h15 : Free x15) : ∃ c' s15 s18 s20 s21, PoolOk c' ∧ evS T (callT T 9) (.fr (.nm 15) (.seq (.var 14)) (.cons (.fr (.nm 18) (.rng (.cons (.int 3) .nil)) (.cons (.asg (.nm 20) (.var 15)) (.cons (.fr (.nm 21) (.rng (.cons (.var 18) .nil)) (.cons (.asg (.nm 20) (.call 7 (.cons (.var 1) (.cons (.var 20) .nil)))) .nil)) (.cons (.ifs (.not (.val (.call 12 (.cons (.call 6 (.cons (.var 20) .nil)) (.cons (.call 10 (.cons (.var 20) .nil)) .nil))))) (.cons (.ret (.bl false)) .nil) .nil) .nil)))) .nil)) [x0, .own c, x2, x3, x4, x5, x6, x7, x8, x9, x10, x11, x12, x13, .own (.lst (os.map Cl.d)), x15, x16, x17, .non, x19, .non, .non, x22] = .ok .next [x0, .own c', x2, x3, x4, x5, x6, x7, x8, x9, x10, x11, x12, x13, .val (.lst (os.map Cl.d)), s15, x16, x17, s18, x19, s20, s21, x22] := by
  obtain ⟨c', s15, s18, s20, s21, h1, h2⟩ := loopO x0 x2 x3 x4 x5 x6 x7 x8 x9 x10 x11 x12 x13 (.val (.lst (os.map Cl.d))) x16 x17 x19 x22 os c x15 .non .non .non hc ho h15 (.inl rfl) (.inl rfl) (.inl rfl)
  refine ⟨c', s15, s18, s20, s21, h1, ?_⟩
  refine (for_it (xs := os.map Cl.d) (e1 := [x0, .own c, x2, x3, x4, x5, x6, x7, x8, x9, x10, x11, x12, x13, .val (.lst (os.map Cl.d)), x15, x16, x17, .non, x19, .non, .non, x22]) ?_).trans h2
  walk_at "px"

open PySem.W in
theorem R0 : callT T 9 5 [.d (.int 0), .d (.tup []), .d (.int 0)] = .ok (.d (.str "strip rods")) [none, none, none] := by kernel_rfl
open PySem.W in
theorem R1 : callT T 9 5 [.d (.int 0), .d (.tup [[D.int 1], [D.int 1], [D.int 1], [D.int 1], [D.int 1], [D.int 1], [D.int 1], [D.int 1], [D.int 1], [D.int 1], [D.int 1], [D.int 1], [D.int 1], [D.int 1], [D.int 1], [D.int 1], [D.int 1], [D.int 1], [D.int 1], [D.int 1], [D.int 1], [D.int 1], [D.int 1], [D.int 1], [D.int 1]].flatten), .d (.int 0)] = .ok (.d (.str "large rods")) [none, none, none] := by kernel_rfl
open PySem.W in
theorem R2 : callT T 9 5 [.d (.int 1), .d (.tup [.int 0, .int 1]), .d (.int 0)] = .ok (.d (.str "strip rods")) [none, none, none] := by kernel_rfl
open PySem.W in
theorem R3 : callT T 9 5 [.d (.int 1), .d (.tup [[D.int 1], [D.int 1], [D.int 1], [D.int 1], [D.int 1], [D.int 1], [D.int 1], [D.int 1], [D.int 1], [D.int 1], [D.int 1], [D.int 1], [D.int 1], [D.int 1], [D.int 1], [D.int 1], [D.int 1], [D.int 1], [D.int 1], [D.int 1], [D.int 1], [D.int 1], [D.int 1], [D.int 1], [D.int 1], [D.int 1], [D.int 1], [D.int 1], [D.int 1], [D.int 1], [D.int 1], [D.int 1], [D.int 1], [D.int 1], [D.int 1], [D.int 1], [D.int 1], [D.int 1], [D.int 1], [D.int 1], [D.int 1]].flatten), .d (.int 0)] = .ok (.d (.str "strip rods")) [none, none, none] := by kernel_rfl
open PySem.W in
theorem R4 : callT T 9 5 [.d (.int 2), .d (.tup [.int 1, .int 2]), .d (.tup [.int 1])] = .ok (.d (.str "strip signs")) [none, none, none] := by kernel_rfl
open PySem.W in
theorem R5 : callT T 9 5 [.d (.int 2), .d (.tup [.int 1, .int 2]), .d (.tup [.int 1, .int 2])] = .ok (.d (.str "strip signs")) [none, none, none] := by kernel_rfl
theorem M23 (x0 x1 x2 x3 x4 x5 x6 x7 x8 x9 x10 x11 x12 x13 x14 x15 x17 x18 x19 x20 x21 x22 : Slot) : evS T (callT T 9) (.asg (.nm 16) (.lst (.cons (.call 5 (.cons (.int 0) (.cons (.tup .nil) (.cons (.int 0) .nil)))) (.cons (.call 5 (.cons (.int 0) (.cons (.bin .mul (.tup (.cons (.int 1) .nil)) (.int 25)) (.cons (.int 0) .nil)))) (.cons (.call 5 (.cons (.int 1) (.cons (.tup (.cons (.int 0) (.cons (.int 1) .nil))) (.cons (.int 0) .nil)))) (.cons (.call 5 (.cons (.int 1) (.cons (.bin .mul (.tup (.cons (.int 1) .nil)) (.int 41)) (.cons (.int 0) .nil)))) (.cons (.call 5 (.cons (.int 2) (.cons (.tup (.cons (.int 1) (.cons (.int 2) .nil))) (.cons (.tup (.cons (.int 1) .nil)) .nil)))) (.cons (.call 5 (.cons (.int 2) (.cons (.tup (.cons (.int 1) (.cons (.int 2) .nil))) (.cons (.tup (.cons (.int 1) (.cons (.int 2) .nil))) .nil)))) .nil)))))))) [x0, x1, x2, x3, x4, x5, x6, x7, x8, x9, x10, x11, x12, x13, x14, x15, .non, x17, x18, x19, x20, x21, x22] = .ok .next [x0, x1, x2, x3, x4, x5, x6, x7, x8, x9, x10, x11, x12, x13, x14, x15, .own (.lst [.str "strip rods", .str "large rods", .str "strip rods", .str "strip rods", .str "strip signs", .str "strip signs"]), x17, x18, x19, x20, x21, x22] := by
  repeat (first | walk_at "px" | rw [t5] | rw [R0] | rw [R1] | rw [R2] | rw [R3] | rw [R4] | rw [R5] | rw [show (41 : Int).toNat = 41 from rfl] | rw [show (25 : Int).toNat = 25 from rfl] | rw [if_pos (by decide)])

theorem M24 (x0 x1 x2 x3 x4 x5 x6 x7 x8 x9 x10 x11 x12 x13 x14 x15 x17 x18 x19 x20 x21 x22 : Slot) : evS T (callT T 9) (.ret (.call 12 (.cons (.var 16) (.cons (.lst (.cons (.str "strip rods") (.cons (.str "large rods") (.cons (.str "strip rods") (.cons (.str "strip rods") (.cons (.str "strip signs") (.cons (.str "strip signs") .nil))))))) .nil)))) [x0, x1, x2, x3, x4, x5, x6, x7, x8, x9, x10, x11, x12, x13, x14, x15, .own (.lst [.str "strip rods", .str "large rods", .str "strip rods", .str "strip rods", .str "strip signs", .str "strip signs"]), x17, x18, x19, x20, x21, x22] = .ok (.ret (.d (.bl true))) [x0, x1, x2, x3, x4, x5, x6, x7, x8, x9, x10, x11, x12, x13, x14, x15, .val (.lst [.str "strip rods", .str "large rods", .str "strip rods", .str "strip rods", .str "strip signs", .str "strip signs"]), x17, x18, x19, x20, x21, x22] := by
  have h := r10s 1 7 (.lst [.str "strip rods", .str "large rods", .str "strip rods", .str "strip rods", .str "strip signs", .str "strip signs"]) (.lst (fun d hd => by
    simp only [List.mem_cons, List.not_mem_nil, or_false] at hd
    rcases hd with rfl | rfl | rfl | rfl | rfl | rfl <;> exact .str _ (by decide +kernel)) (by simp))
  repeat (first | walk_at "px" | rw [t12] | rw [h] | rw [if_pos (by decide)])
end PXk21

end
section
set_option Elab.async false
set_option linter.all false
set_option maxRecDepth 100000
set_option maxHeartbeats 8000000
namespace PXk21
open PX

theorem are_intro {ns : List Int} (h1 : 1 ≤ ns.length) (h2 : ns.length ≤ 40) (h : ∀ r ∈ ns, 1 ≤ r ∧ r ≤ 200) : areRods ns = true := by
  unfold areRods
  simp only [Bool.and_eq_true, decide_eq_true_eq, List.all_eq_true]
  exact ⟨⟨by omega, by omega⟩, h⟩
theorem chain_layS : ∀ (rs p : List Int), chainB p rs (layS p rs) = true
  | [], _ => rfl
  | r :: rs, p => by
    show ((sums p r).all (fun x => decide (x ∈ sums p r)) && chainB (sums p r) rs (layS (sums p r) rs)) = true
    rw [chain_layS rs, List.all_eq_true.mpr (fun x hx => decide_eq_true hx)]
    rfl
theorem last_layS : ∀ (rs p : List Int), lastC p (layS p rs) = lastS p rs
  | [], _ => rfl
  | r :: rs, p => last_layS rs (sums p r)
theorem lay_short : ∀ (rs p : List Int) (B : Int), In B p → 0 ≤ B → (∀ r ∈ rs, 0 ≤ r) → B + rs.sum ≤ 200 → ∀ q ∈ layS p rs, q.length ≤ 401
  | [], _, _, _, _, _, _, q, h => by cases h
  | r :: rs, p, B, hp, h0, hr, hB, q, h => by
    have hr0 := hr r List.mem_cons_self
    have hs := sum_nn rs fun z hz => hr z (List.mem_cons_of_mem _ hz)
    rw [List.sum_cons] at hB
    have hi := in_sums (r := r) hp h0 hr0 (by omega)
    rcases List.mem_cons.mp h with rfl | h
    · have hl := sorted_len (sums p r) (-(B + r)) (B + r) (sortU_sorted _) hi.2
      omega
    · exact lay_short rs (sums p r) (B + r) hi (by omega) (fun z hz => hr z (List.mem_cons_of_mem _ hz)) (by omega) q h
theorem w_lay {rods : List Int} (h1 : 1 ≤ rods.length) (h9 : rods.length ≤ 9) (hn : ∀ r ∈ rods, 0 ≤ r) (hs : rods.sum ≤ 200) : W 0 (.st rods (layS [0] rods)) :=
  ⟨by omega, by rw [layS_len]; exact h1, by rw [layS_len]; omega, fun l hl => by
    have := lay_short rods [0] 0 ⟨by simp, by simp⟩ (Int.le_refl 0) hn (by omega) l hl
    omega⟩
theorem plI (n : Nat) (xs : List Int) (hx : xs.length ≤ 100000) : Pl (n + 1) (.tup (iL xs)) := .tup (fun d hd => by
  obtain ⟨i, _, rfl⟩ := List.mem_map.mp hd
  exact .int i) (by rw [ints_length]; exact hx)
theorem pl3 {a b c : D} {n : Nat} (ha : Pl n a) (hb : Pl n b) (hc : Pl n c) : Pl (n + 1) (.tup [a, b, c]) := .tup (fun d hd => by
  simp only [List.mem_cons, List.not_mem_nil, or_false] at hd
  rcases hd with rfl | rfl | rfl
  · exact ha
  · exact hb
  · exact hc) (by simp)
theorem close_claim (rods : List Int) (hr : areRods rods = true) (h9 : rods.length ≤ 9) : ∃ q : Cl, W 0 q ∧ Sm 2 q.d ∧ callT T 9 15 [.d (.lst (iL rods))] = .ok (.d q.d) [none] ∧ dueD rods (wideL rods) = q.d := by
  obtain ⟨n1, n2, n3⟩ := rods_of hr
  have hn : ∀ r ∈ rods, (0 : Int) ≤ r := fun r h => by have := n3 r h; omega
  have hmem : ∀ x ∈ wideL rods, 0 ≤ x ∧ x < rods.length ∧ rods.sum < 2 * rods.getD x.toNat 0 := fun x hx => by
    unfold wideL at hx
    rw [List.mem_filter] at hx
    obtain ⟨j, hj, rfl⟩ := List.mem_map.mp hx.1
    have hj : j < rods.length := List.mem_range.mp hj
    exact ⟨by omega, by omega, of_decide_eq_true hx.2⟩
  rcases r6L 6 rods hr with ⟨j, r, h1, h2, h3⟩ | ⟨h1, h2⟩
  · refine ⟨.ga rods j, by show _ ≤ 1000; omega, .tup (fun d hd => ?_) (by simp), h3, ?_⟩
    · simp only [List.mem_cons, List.not_mem_nil, or_false] at hd
      rcases hd with rfl | rfl | rfl
      · exact .str _ (by decide +kernel)
      · exact sm_ints rods (by omega)
      · exact .int _
    · have hj : j < rods.length := (List.getElem?_eq_some_iff.mp h1).1
      have hjw : ((j : Nat) : Int) ∈ wideL rods := by
        unfold wideL
        rw [List.mem_filter]
        refine ⟨List.mem_map.mpr ⟨j, List.mem_range.mpr hj, rfl⟩, decide_eq_true ?_⟩
        have : rods.getD ((j : Int)).toNat 0 = r := by
          have := getD_of hj
          rw [h1] at this
          rw [Int.toNat_natCast]
          exact (Option.some.inj this).symm
        rw [this]; exact h2
      cases hw : wideL rods with
      | nil => rw [hw] at hjw; cases hjw
      | cons x l =>
        have hx := hmem x (by rw [hw]; exact List.mem_cons_self)
        have hxj : x.toNat = j := wide_one hn (getD_of (show x.toNat < rods.length by omega)) h1 hx.2.2 h2
        have : x = (j : Int) := by omega
        subst this
        rfl
  · refine ⟨.cl rods, by show _ ≤ 1000; omega, .tup (fun d hd => ?_) (by simp), h2, ?_⟩
    · simp only [List.mem_cons, List.not_mem_nil, or_false] at hd
      rcases hd with rfl | rfl
      · exact .str _ (by decide +kernel)
      · exact sm_ints rods (by omega)
    · cases hw : wideL rods with
      | nil => rfl
      | cons x l =>
        have hx := hmem x (by rw [hw]; exact List.mem_cons_self)
        have := h1 _ (List.mem_of_getElem? (getD_of (show x.toNat < rods.length by omega)))
        omega
theorem flat_claim (rods : List Int) (hr : areRods rods = true) (h9 : rods.length ≤ 9) (hs : rods.sum ≤ 200) : ∃ (q : Cl) (h : PySem.Str) (tl : D), q.d = .tup [.str h, .tup (iL rods), tl] ∧ h = PySem.Str.ofString (if 0 ∈ lastS [0] rods then "flattens" else "stands") ∧ W 0 q ∧ rightB q = true ∧ Pl 3 q.d ∧
    callT T 9 13 [.d (.tup (iL rods))] = .ok (.d q.d) [none] ∧ ((∃ sg, q = .fl rods sg ∧ sg.length ≤ 1000) ∨ cmpD .eq q.f (.str "flattens") = some false) := by
  obtain ⟨n1, n2, n3⟩ := rods_of hr
  have hn : ∀ r ∈ rods, (0 : Int) ≤ r := fun r h => by have := n3 r h; omega
  rcases r7F 6 rods hr (by omega) (by omega) with ⟨h0, h1⟩ | ⟨h0, sg, h1, h2, h3⟩
  · have hw := w_lay n1 h9 hn hs
    refine ⟨.st rods (layS [0] rods), "stands", .tup ((layS [0] rods).map tT), rfl, by rw [if_neg h0], hw, ?_, pl3 (.str _) (plI 1 rods (by omega)) (.tup (fun d hd => ?_) (by rw [List.length_map, layS_len]; omega)), h1, .inr eSF⟩
    · show (areRods rods && ((decide ((layS [0] rods).length = rods.length) && decide (rods.length ≤ 24)) && (chainB [0] rods (layS [0] rods) && !decide (0 ∈ lastC [0] (layS [0] rods))))) = true
      rw [hr, decide_eq_true (layS_len rods [0]), decide_eq_true (by omega), chain_layS, last_layS, decide_eq_false h0]
      rfl
    · obtain ⟨l, hl, rfl⟩ := List.mem_map.mp hd
      exact plI 0 l (by have := hw.2.2.2 l hl; omega)
  · have hl := h1.1
    refine ⟨.fl rods sg, "flattens", .tup (iL sg), rfl, by rw [if_pos h0], ⟨by omega, by omega⟩, ?_, pl3 (.str _) (plI 1 rods (by omega)) (plI 1 sg (by omega)), h3, .inl ⟨sg, rfl, by omega⟩⟩
    show (areRods rods && ((decide (sg.length = rods.length) && decide (rods.length ≤ 24)) && (sg.all sgB && decide ((mulL sg rods).sum = 0)))) = true
    have ha : sg.all sgB = true := List.all_eq_true.mpr fun s hs => by
      rcases h1.2 s hs with rfl | rfl <;> rfl
    rw [hr, decide_eq_true hl, decide_eq_true (by omega), ha, decide_eq_true h2]
    rfl

theorem main (ns : List Int) (_ : ns.length ≤ 63) : callT T (9 + 1) 18 [.d (.ro (ns.map PX.D.int))] = .ok (.d (.bl true)) [none] := by
  have q1 := M1 ns (.non) (.non) (.non) (.non) (.non) (.non) (.non) (.non) (.non) (.non) (.non) (.non) (.non) (.non) (.non) (.non) (.non) (.non) (.non) (.non) (.non)
  obtain ⟨rods0, c2, a1, a8, a9, p2, q2⟩ := M2 (.val (.ro (iL ns))) (.non) (.non) (.non) (.non) (.non) (.non) (.non) (.non) (.non) (.non) (.non) (.non) (.non) (.non) (.non) (.non) (.non) (.non) (.non) _ ⟨ns, 0, 0, 1, 0, 0, rfl, by decide, by decide, by decide⟩
  obtain ⟨y, c3, y0, y3, p3, q3⟩ := M3 (.val (.ro (iL ns))) (.val (.tup (iL rods0))) (.non) (.non) (.non) (.non) (.non) (.non) (.non) (.non) (.non) (.non) (.non) (.non) (.non) (.non) (.non) (.non) (.non) (.non) (.non) c2 p2
  have q4 := M4 (.val (.ro (iL ns))) (.own c3) (.non) (.non) (.non) (.non) (.non) (.non) (.non) (.non) (.non) (.non) (.non) (.non) (.non) (.non) (.non) (.non) (.non) (.non) (.non) y rods0 (by omega)
  obtain ⟨rods1, hrods1⟩ : ∃ r, r = (if y = 0 then rods0 ++ [rods0.sum] else rods0) := ⟨_, rfl⟩
  rw [← hrods1] at q4
  have l1 : rods1.length ≤ 9 := by rw [hrods1]; split; (simp; omega); omega
  have q5 := M5 (.val (.ro (iL ns))) (.own c3) (.non) (.non) (.non) (.non) (.non) (.non) (.non) (.non) (.non) (.non) (.non) (.non) (.non) (.non) (.non) (.non) (.non) (.non) (.non) y rods1 (by omega)
  obtain ⟨rods, hrods⟩ : ∃ r, r = (if y = 1 then rods1 ++ [rods1.sum + 1] else rods1) := ⟨_, rfl⟩
  rw [← hrods] at q5
  have hs0 := sum_le_of (M := 9) (rs := rods0) fun r h => by have := a9 r h; omega
  have hge : (1 : Int) ≤ rods0.sum := by
    cases rods0 with
    | nil => simp at a1
    | cons z zs =>
      have h1 := a9 z List.mem_cons_self
      have h2 := sum_nn zs fun r h => by have := a9 r (List.mem_cons_of_mem _ h); omega
      rw [List.sum_cons]; omega
  have hgood : 1 ≤ rods.length ∧ rods.length ≤ 9 ∧ (∀ r ∈ rods, (1 : Int) ≤ r ∧ r ≤ 200) ∧ rods.sum ≤ 200 := by
    by_cases hy0 : y = 0
    · rw [if_pos hy0] at hrods1
      rw [if_neg (by omega)] at hrods
      subst hrods; subst hrods1
      refine ⟨by simp, by simp; omega, fun r h => ?_, by simp; omega⟩
      rcases List.mem_append.mp h with h | h
      · have := a9 r h; omega
      · rw [List.mem_singleton.mp h]; omega
    · rw [if_neg hy0] at hrods1
      subst hrods1
      by_cases hy1 : y = 1
      · rw [if_pos hy1] at hrods
        subst hrods
        refine ⟨by simp, by simp; omega, fun r h => ?_, by simp; omega⟩
        rcases List.mem_append.mp h with h | h
        · have := a9 r h; omega
        · rw [List.mem_singleton.mp h]; omega
      · rw [if_neg hy1] at hrods
        subst hrods
        exact ⟨by omega, by omega, fun r h => by have := a9 r h; omega, by omega⟩
  clear hrods hrods1
  obtain ⟨h1, h9, hrr, hsum⟩ := hgood
  have hr : areRods rods = true := are_intro h1 (by omega) hrr
  have hn : ∀ r ∈ rods, (0 : Int) ≤ r := fun r h => by have := hrr r h; omega
  obtain ⟨qo, wo, so, co, due⟩ := close_claim rods hr h9
  obtain ⟨qw, hh, tl, e0, ehh, ww, rw0, plw, cw, kw⟩ := flat_claim rods hr h9 hsum
  have q6 := M6 (.val (.ro (iL ns))) (.own c3) (.val (.int y)) (.non) (.non) (.non) (.non) (.non) (.non) (.non) (.non) (.non) (.non) (.non) (.non) (.non) (.non) (.non) (.non) (.non) rods (by omega)
  have q7 := M7 (.val (.ro (iL ns))) (.own c3) (.val (.int y)) (.own (.lst (iL (wideL rods)))) (.non) (.non) (.non) (.non) (.non) (.non) (.non) (.non) (.non) (.non) (.non) (.non) (.non) (.non) (.non) (.non) (.non) rods qo.d co
  have q8 := M8 (.val (.ro (iL ns))) (.own c3) (.val (.int y)) (.own (.lst (iL (wideL rods)))) (.val qo.d) (.non) (.non) (.non) (.non) (.non) (.non) (.non) (.non) (.non) (.non) (.non) (.non) (.non) (.non) (.non) (.non) rods
  have q9 := M9 (.val (.ro (iL ns))) (.own c3) (.val (.int y)) (.val qo.d) (.non) (.non) (.non) (.non) (.non) (.non) (.non) (.non) (.non) (.non) (.non) (.non) (.non) (.non) (.non) (.non) rods (wideL rods)
  rw [due] at q9
  have q10 := M10 (.val (.ro (iL ns))) (.own c3) (.val (.int y)) (.own (.lst (iL (wideL rods)))) (.val qo.d) (.val qo.d) (.non) (.non) (.non) (.non) (.non) (.non) (.non) (.non) (.non) (.non) (.non) (.non) (.non) (.non) (.non) rods hn (by omega) (by omega)
  have q11 := M11 (.val (.ro (iL ns))) (.own c3) (.val (.int y)) (.own (.lst (iL (wideL rods)))) (.val qo.d) (.val qo.d) (.val (.tup ((layS [0] rods).map tT))) (.non) (.non) (.non) (.non) (.non) (.non) (.non) (.non) (.non) (.non) (.non) (.non) (.non) (.non) rods qw.d cw
  have hp := r12p 3 5 qw.d plw
  have hrt := r10R 7 qw (w_sz ww (by omega))
  rw [rw0] at hrt
  have hso := r10s 2 6 qo.d so
  rw [e0] at hp hrt
  have q12 := M12 (.val (.ro (iL ns))) (.own c3) (.val (.int y)) (.own (.lst (iL (wideL rods)))) (.non) (.non) (.non) (.non) (.non) (.non) (.non) (.non) (.non) (.non) (.non) (.non) (.non) (.non) rods qo.d tl hh h1 hso ehh hp hrt
  rw [← e0] at q12
  have q13 := M13 (.val (.ro (iL ns))) (.own c3) (.val (.tup (iL rods))) (.val (.int y)) (.own (.lst (iL (wideL rods)))) (.val qo.d) (.val qo.d) (.val (.tup ((layS [0] rods).map tT))) (.val qw.d) (.non) (.non) (.non) (.non) (.non) (.non) (.non) (.non) (.non) (.non) (.non) (.non) (.non)
  obtain ⟨s9, s10, s15, s17, d9, f10, f15, f17, q14⟩ := M14 (.val (.ro (iL ns))) (.own c3) (.val (.int y)) (.own (.lst (iL (wideL rods)))) (.val qo.d) (.val qo.d) (.val (.tup ((layS [0] rods).map tT))) (.val qw.d) (.non) (.non) (.non) (.non) (.non) (.non) (.non) (.non) (.non) (.non) rods (by omega)
  have q15 := M15 (.val (.ro (iL ns))) (.own c3) (.val (.int y)) (.own (.lst (iL (wideL rods)))) (.val qo.d) (.val qo.d) (.val (.tup ((layS [0] rods).map tT))) (.val qw.d) (s10) (.non) (.non) (.non) (.non) (s15) (.non) (s17) (.non) (.non) (.non) (.non) (.non) rods s9 hr (by omega) d9
  obtain ⟨sg, c16, hsg, p16, q16⟩ := M16 (.val (.ro (iL ns))) (.val (.int y)) (.own (.lst (iL (wideL rods)))) (.val qo.d) (.val qo.d) (.val (.tup ((layS [0] rods).map tT))) (.val qw.d) (s9) (s10) (.non) (.non) (.non) (s15) (.non) (s17) (.non) (.non) (.non) (.non) (.non) rods c3 p3 (by omega) f10
  have q17 := M17 (.val (.ro (iL ns))) (.own c16) (.val (.tup (iL rods))) (.val (.int y)) (.own (.lst (iL (wideL rods)))) (.val qo.d) (.val qo.d) (.val (.tup ((layS [0] rods).map tT))) (.val qw.d) (s9) (s10) (.val (.tup (iL sg))) (.non) (.non) (s15) (.non) (s17) (.non) (.non) (.non) (.non) (.non)
  obtain ⟨s13, q18⟩ := M18 (.val (.ro (iL ns))) (.own c16) (.val (.int y)) (.own (.lst (iL (wideL rods)))) (.val qo.d) (.val qo.d) (.val (.tup ((layS [0] rods).map tT))) (.val qw.d) (s9) (s10) (.non) (s15) (.non) (s17) (.non) (.non) (.non) (.non) (.non) rods sg hsg (by omega)
  have q19 := M19 (.val (.ro (iL ns))) (.own c16) (.val (.int y)) (.own (.lst (iL (wideL rods)))) (.val qo.d) (.val qo.d) (.val (.tup ((layS [0] rods).map tT))) (.val qw.d) (s9) (s10) (s13) (.non) (s15) (.non) (s17) (.non) (.non) (.non) (.non) (.non) rods sg hsg hr
  obtain ⟨v, c20, p20, q20⟩ := M20 (.val (.ro (iL ns))) (.val (.int y)) (.own (.lst (iL (wideL rods)))) (.val qo.d) (s9) (s10) (.own (.lst (iL (walk 0 (mulL sg rods))))) (s13) (s15) (.non) (s17) (.non) (.non) (.non) (.non) (.non) rods sg qo.d qw.d c16 p16 (by omega)
  have q20' : evS T (callT T 9) (.asg (.nm 14) (.lst (.cons (.var 5) (.cons (.var 8) (.cons (.tup (.cons (.str "closes") (.cons (.var 2) .nil))) (.cons (.tup (.cons (.str "gapes") (.cons (.var 2) (.cons (.call 16 (.cons (.var 1) (.cons (.bin .add (.bi .len (.cons (.var 2) .nil)) (.int 1)) .nil))) .nil)))) (.cons (.tup (.cons (.str "flattens") (.cons (.var 2) (.cons (.var 11) .nil)))) (.cons (.tup (.cons (.str "stands") (.cons (.var 2) (.cons (.var 7) .nil)))) .nil)))))))) [.val (.ro (iL ns)), .own c16, .val (.tup (iL rods)), .val (.int y), .own (.lst (iL (wideL rods))), .val qo.d, .val qo.d, .val (.tup ((layS [0] rods).map tT)), .val qw.d, s9, s10, .val (.tup (iL sg)), .own (.lst (iL (walk 0 (mulL sg rods)))), s13, .non, s15, .non, s17, .non, .non, .non, .non, .non] = .ok .next [.val (.ro (iL ns)), .own c20, .val (.tup (iL rods)), .val (.int y), .own (.lst (iL (wideL rods))), .val qo.d, .val qo.d, .val (.tup ((layS [0] rods).map tT)), .val qw.d, s9, s10, .val (.tup (iL sg)), .own (.lst (iL (walk 0 (mulL sg rods)))), s13, .own (.lst (([qo, qw, .cl rods, .ga rods v, .fl rods sg, .st rods (layS [0] rods)] : List Cl).map Cl.d)), s15, .non, s17, .non, .non, .non, .non, .non] := q20
  have wall : ∀ o ∈ ([qo, qw, .cl rods, .ga rods v, .fl rods sg, .st rods (layS [0] rods)] : List Cl), W 0 o := fun o ho => by
    simp only [List.mem_cons, List.not_mem_nil, or_false] at ho
    rcases ho with rfl | rfl | rfl | rfl | rfl | rfl
    · exact wo
    · exact ww
    · show _ ≤ 1000; omega
    · show _ ≤ 1000; omega
    · exact ⟨by omega, by rw [hsg.1]; omega⟩
    · exact w_lay h1 h9 hn hsum
  obtain ⟨os, wos, q21⟩ : ∃ os : List Cl, (∀ o ∈ os, W 0 o) ∧ evS T (callT T 9) (.ifs (.cmp .eq (.idx (.var 8) (.int 0)) (.str "flattens")) (.cons (.expr (.app 14 (.tup (.cons (.str "flattens") (.cons (.var 2) (.cons (.bi .tuple (.cons (.comp [22] (.nm 22) (.seq (.idx (.var 8) (.int 2))) .nil (.bin .sub (.int 0) (.var 22))) .nil)) .nil)))))) .nil) .nil) [.val (.ro (iL ns)), .own c20, .val (.tup (iL rods)), .val (.int y), .own (.lst (iL (wideL rods))), .val qo.d, .val qo.d, .val (.tup ((layS [0] rods).map tT)), .val qw.d, s9, s10, .val (.tup (iL sg)), .own (.lst (iL (walk 0 (mulL sg rods)))), s13, .own (.lst (([qo, qw, .cl rods, .ga rods v, .fl rods sg, .st rods (layS [0] rods)] : List Cl).map Cl.d)), s15, .non, s17, .non, .non, .non, .non, .non] = .ok .next [.val (.ro (iL ns)), .own c20, .val (.tup (iL rods)), .val (.int y), .own (.lst (iL (wideL rods))), .val qo.d, .val qo.d, .val (.tup ((layS [0] rods).map tT)), .val qw.d, s9, s10, .val (.tup (iL sg)), .own (.lst (iL (walk 0 (mulL sg rods)))), s13, .own (.lst (os.map Cl.d)), s15, .non, s17, .non, .non, .non, .non, .non] := by
    rcases kw with ⟨sg2, rfl, hl2⟩ | hne
    · refine ⟨([qo, .fl rods sg2, .cl rods, .ga rods v, .fl rods sg, .st rods (layS [0] rods)] : List Cl) ++ [Cl.fl rods (sg2.map (0 - ·))], fun o ho => ?_, by rw [List.map_append]; exact M21yes (.val (.ro (iL ns))) (.own c20) (.val (.int y)) (.own (.lst (iL (wideL rods)))) (.val qo.d) (.val qo.d) (.val (.tup ((layS [0] rods).map tT))) (s9) (s10) (.val (.tup (iL sg))) (.own (.lst (iL (walk 0 (mulL sg rods))))) (s13) (s15) (.non) (s17) (.non) (.non) (.non) (.non) rods sg2 (([qo, .fl rods sg2, .cl rods, .ga rods v, .fl rods sg, .st rods (layS [0] rods)] : List Cl).map Cl.d) (by simp) hl2⟩
      rcases List.mem_append.mp ho with ho | ho
      · exact wall o ho
      · rw [List.mem_singleton.mp ho]
        exact ⟨by omega, by rw [List.length_map]; exact hl2⟩
    · exact ⟨[qo, qw, .cl rods, .ga rods v, .fl rods sg, .st rods (layS [0] rods)], wall, M21no (.val (.ro (iL ns))) (.own c20) (.val (.tup (iL rods))) (.val (.int y)) (.own (.lst (iL (wideL rods)))) (.val qo.d) (.val qo.d) (.val (.tup ((layS [0] rods).map tT))) (s9) (s10) (.val (.tup (iL sg))) (.own (.lst (iL (walk 0 (mulL sg rods))))) (s13) (.own (.lst (([qo, qw, .cl rods, .ga rods v, .fl rods sg, .st rods (layS [0] rods)] : List Cl).map Cl.d))) (s15) (.non) (s17) (.non) (.non) (.non) (.non) (.non) qw hne⟩
  obtain ⟨c22, t15, t18, t20, t21, p22, q22⟩ := M22 (.val (.ro (iL ns))) (.val (.tup (iL rods))) (.val (.int y)) (.own (.lst (iL (wideL rods)))) (.val qo.d) (.val qo.d) (.val (.tup ((layS [0] rods).map tT))) (.val qw.d) (s9) (s10) (.val (.tup (iL sg))) (.own (.lst (iL (walk 0 (mulL sg rods))))) (s13) (s15) (.non) (s17) (.non) (.non) os c20 p20 wos f15
  have q23 := M23 (.val (.ro (iL ns))) (.own c22) (.val (.tup (iL rods))) (.val (.int y)) (.own (.lst (iL (wideL rods)))) (.val qo.d) (.val qo.d) (.val (.tup ((layS [0] rods).map tT))) (.val qw.d) (s9) (s10) (.val (.tup (iL sg))) (.own (.lst (iL (walk 0 (mulL sg rods))))) (s13) (.val (.lst (os.map Cl.d))) (t15) (s17) (t18) (.non) (t20) (t21) (.non)
  have q24 := M24 (.val (.ro (iL ns))) (.own c22) (.val (.tup (iL rods))) (.val (.int y)) (.own (.lst (iL (wideL rods)))) (.val qo.d) (.val qo.d) (.val (.tup ((layS [0] rods).map tT))) (.val qw.d) (s9) (s10) (.val (.tup (iL sg))) (.own (.lst (iL (walk 0 (mulL sg rods))))) (s13) (.val (.lst (os.map Cl.d))) (t15) (s17) (t18) (.non) (t20) (t21) (.non)
  have hb : evSs T (callT T 9) f18.body [.val (.ro (iL ns)), .non, .non, .non, .non, .non, .non, .non, .non, .non, .non, .non, .non, .non, .non, .non, .non, .non, .non, .non, .non, .non, .non] = .ok (.ret (.d (.bl true))) [.val (.ro (iL ns)), .own c22, .val (.tup (iL rods)), .val (.int y), .own (.lst (iL (wideL rods))), .val qo.d, .val qo.d, .val (.tup ((layS [0] rods).map tT)), .val qw.d, s9, s10, .val (.tup (iL sg)), .own (.lst (iL (walk 0 (mulL sg rods)))), s13, .val (.lst (os.map Cl.d)), t15, .val (.lst [.str "strip rods", .str "large rods", .str "strip rods", .str "strip rods", .str "strip signs", .str "strip signs"]), s17, t18, .non, t20, t21, .non] := by
    unfold f18
    simp only [PXk21.ss]
    rw [seq_next q1, seq_next q2, seq_next q3, seq_next q4, seq_next q5, seq_next q6, seq_next q7, seq_next q8, seq_next q9, seq_next q10, seq_next q11, seq_next q12, seq_next q13, seq_next q14, seq_next q15, seq_next q16, seq_next q17, seq_next q18, seq_next q19, seq_next q20', seq_next q21, seq_next q22, seq_next q23]
    exact seq_ret q24
  exact run_d (T := T) (cf := (callT T 9)) (ds := [.ro (iL ns)]) (a := .d (.bl true)) (fd := f18) (o := .d (.bl true)) rfl hb rfl (by simp)
end PXk21

end
open PySem PySem.W PyProof.Rows
set_option maxRecDepth 100000 in
set_option maxHeartbeats 0 in
theorem PySem.Challenge.cw_foldproof_k21_whole_rods_in_a_round_holds : PySem.Challenge.rw_foldproof_k21_whole_rods_in_a_round.Holds := by
  w_on; o_law; k_head; (case hw => w_witness2)
  k_fill
  refine L2.walk_of (l := PySem.Challenge.rw_foldproof_k21_whole_rods_in_a_round) (n := 63) (k := 2 * (9 + 1)) (x := "script") (CX := fun w => L2.CX PySem.Challenge.rw_foldproof_k21_whole_rods_in_a_round.prog w) (sp := fun w => PX.spL _ 63) rfl (by decide) rfl ⟨rfl, by decide, by decide⟩ (fun w h Y => PySem.W.kIn_of Y) ?F (fun _ _ a ns hl _ hS => ⟨a, ns, rfl, hS, hl, fun _ => rfl⟩) (fun _ _ _ _ _ h => PX.cx_none h)
  case F =>
    intro w mg fa h KX G hmg
    refine' PXk21.all_mk KX G hmg ?ae_e0 ?ae_e1 ?a0 ?l0 ?c0 ?k0 ?a1 ?l1 ?c1 ?k1 ?a2 ?l2 ?c2 ?k2 ?a3 ?l3 ?c3 ?k3 ?a4 ?l4 ?c4 ?k4 ?a5 ?l5 ?c5 ?k5 ?a6 ?l6 ?c6 ?k6 ?a7 ?l7 ?c7 ?k7 ?a8 ?l8 ?c8 ?k8 ?a9 ?l9 ?c9 ?k9 ?a10 ?l10 ?c10 ?k10 ?a11 ?l11 ?c11 ?k11 ?a12 ?l12 ?c12 ?k12 ?a13 ?l13 ?c13 ?k13 ?a14 ?l14 ?c14 ?k14 ?a15 ?l15 ?c15 ?k15 ?a16 ?l16 ?c16 ?k16 ?a17 ?l17 ?c17 ?k17 ?a18 ?l18 ?c18 ?k18 ?xe_e0 ?sa_e0 ?ga_e0 ?gg_e0 ?nb_e0 ?ai_e0 ?ti_e0 ?kc_e0 ?ex_e0 ?ve_e0 ?tc_e0 ?hc_e0 ?mr_e0 ?su_e0 ?lf_e0 ?cd_e0 ?lc_e0 ?vs_e0 ?fi_e0 ?cl_e0 ?xe_e1 ?sa_e1 ?ga_e1 ?gg_e1 ?nb_e1 ?ai_e1 ?ti_e1 ?kc_e1 ?ex_e1 ?ve_e1 ?tc_e1 ?hc_e1 ?mr_e1 ?su_e1 ?lf_e1 ?cd_e1 ?lc_e1 ?vs_e1 ?fi_e1 ?cl_e1 ?opq ?xm0_0 ?xm0_1 ?xm1_0 ?xm1_1 ?v0 ?v1 ?v2 ?z_len ?z_list ?z_tuple ?z_int ?z_all ?z_any ?z_sorted ?z_set ?z_max ?z_min ?z_sum ?z_abs ?z_range ?z_enumerate ?z_zip ?z_isinstance ?z_bool ?z_str ?z_super (main := PXk21.main)
    (case ae_e0 => k_is); (case ae_e1 => k_is); (case a0 => k_is); (case l0 => k_is); (case c0 => k_is); (case k0 => k_is); (case a1 => k_is); (case l1 => k_is); (case c1 => k_is); (case k1 => k_is); (case a2 => k_is); (case l2 => k_is); (case c2 => k_is); (case k2 => k_is); (case a3 => k_is); (case l3 => k_is); (case c3 => k_is); (case k3 => k_is); (case a4 => k_is); (case l4 => k_is); (case c4 => k_is); (case k4 => k_is); (case a5 => k_is); (case l5 => k_is); (case c5 => k_is); (case k5 => k_is); (case a6 => k_is); (case l6 => k_is); (case c6 => k_is); (case k6 => k_is); (case a7 => k_is); (case l7 => k_is); (case c7 => k_is); (case k7 => k_is); (case a8 => k_is); (case l8 => k_is); (case c8 => k_is); (case k8 => k_is); (case a9 => k_is); (case l9 => k_is); (case c9 => k_is); (case k9 => k_is); (case a10 => k_is); (case l10 => k_is); (case c10 => k_is); (case k10 => k_is); (case a11 => k_is); (case l11 => k_is); (case c11 => k_is); (case k11 => k_is); (case a12 => k_is); (case l12 => k_is); (case c12 => k_is); (case k12 => k_is); (case a13 => k_is); (case l13 => k_is); (case c13 => k_is); (case k13 => k_is); (case a14 => k_is); (case l14 => k_is); (case c14 => k_is); (case k14 => k_is); (case a15 => k_is); (case l15 => k_is); (case c15 => k_is); (case k15 => k_is); (case a16 => k_is); (case l16 => k_is); (case c16 => k_is); (case k16 => k_is); (case a17 => k_is); (case l17 => k_is); (case c17 => k_is); (case k17 => k_is); (case a18 => k_is); (case l18 => k_is); (case c18 => k_is); (case k18 => k_is); (case xe_e0 => k_is); (case sa_e0 => k_is); (case ga_e0 => k_is); (case gg_e0 => k_is); (case nb_e0 => k_is); (case ai_e0 => k_is); (case ti_e0 => k_is); (case kc_e0 => k_is); (case ex_e0 => k_is); (case ve_e0 => k_is); (case tc_e0 => k_is); (case hc_e0 => k_is); (case mr_e0 => first | k_is | rfl | ks_is | decide +kernel); (case su_e0 => first | k_is | rfl | ks_is | decide +kernel); (case lf_e0 => k_is); (case cd_e0 => k_is); (case lc_e0 => k_is); (case vs_e0 => first | k_is | rfl | ks_is | decide +kernel); (case fi_e0 => first | k_is | rfl | ks_is | decide +kernel); (case cl_e0 => k_is); (case xe_e1 => k_is); (case sa_e1 => k_is); (case ga_e1 => k_is); (case gg_e1 => k_is); (case nb_e1 => k_is); (case ai_e1 => k_is); (case ti_e1 => k_is); (case kc_e1 => k_is); (case ex_e1 => k_is); (case ve_e1 => k_is); (case tc_e1 => k_is); (case hc_e1 => k_is); (case mr_e1 => first | k_is | rfl | ks_is | decide +kernel); (case su_e1 => first | k_is | rfl | ks_is | decide +kernel); (case lf_e1 => k_is); (case cd_e1 => k_is); (case lc_e1 => k_is); (case vs_e1 => first | k_is | rfl | ks_is | decide +kernel); (case fi_e1 => first | k_is | rfl | ks_is | decide +kernel); (case cl_e1 => k_is); (case opq => first | k_is | rfl | ks_is | decide +kernel); (case xm0_0 => first | k_is | rfl | ks_is | decide +kernel); (case xm0_1 => first | k_is | rfl | ks_is | decide +kernel); (case xm1_0 => first | k_is | rfl | ks_is | decide +kernel); (case xm1_1 => first | k_is | rfl | ks_is | decide +kernel); (case v0 => k_is); (case v1 => k_is); (case v2 => k_is); (case z_len => k_is); (case z_list => k_is); (case z_tuple => k_is); (case z_int => k_is); (case z_all => k_is); (case z_any => k_is); (case z_sorted => k_is); (case z_set => k_is); (case z_max => k_is); (case z_min => k_is); (case z_sum => k_is); (case z_abs => k_is); (case z_range => k_is); (case z_enumerate => k_is); (case z_zip => k_is); (case z_isinstance => k_is); (case z_bool => k_is); (case z_str => k_is); (case z_super => k_is)
